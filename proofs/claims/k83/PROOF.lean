import PyProof.Rows.All
import Wide.All
import OpenK.AllK
import Wide.FinOn
import HandS.ForMost
import HandS.ForExc
import HandS.Wide
import HandS.Codes
import HandS.StrMore
import HandS.TupAny
import HandS.TupLen
import HandS.TupSets
import HandS.Zip
import HandS.SortInts
import KE.KRevSl
import HandS.Small
import KE.DataCmp
import HandS.ReplaceList
import HandS.Replace
import PyProof.ListStr
import HandS.Iter
import HandS.Style
import HandS.Deep
import HandS.IsInst
import KE.GoesEnum
import PyProof.StrLawsIn
import HandS.ExcInit
import HandS.ExcField
import HandS.ExcSuper
import HandS.ExcIs
import KE.KExcSuper
import KE.KSuper
import HandS.WordsExc
import HandS.ExcOwn
import KE.KExcIs
import PyProof.StrLawsLast
import HandS.Sort
import KE.KDictDisplayH
import PySem.Challenge.RW_wordstems_k83_whole_count_free
set_option Elab.async false
set_option linter.all false
set_option maxRecDepth 100000
set_option maxHeartbeats 4000001
set_option autoImplicit false
/-! DL0: plain data over the abstract heap. What a slot holds is plain data (PyData); frozen objects live in F, owned ones in H alone. -/
namespace DL
open PySem PySem.Spec L2 PyProof.Rows

/-! ### data and the heap -/
def kD : Key → PyData
  | .inl i => .int i
  | .inr x => .str x
mutual
inductive DV (K : PySem.W.Frag) (F : Hp) : V → PyData → Prop
  | non : DV K F .non .none
  | bl (b : Bool) : DV K F (.bl b) (.bool b)
  | int (i : Int) : DV K F (.int i) (.int i)
  | str (x : Str) : DV K F (.str x) (.str x)
  | lst {a : Addr} {xs : List V} {ds : List PyData} : F a = some (.lst xs) → DVs K F xs ds → DV K F (.ref a) (.list ds)
  | tup {a : Addr} {xs : List V} {ds : List PyData} : F a = some (.tup xs) → DVs K F xs ds → DV K F (.ref a) (.tuple ds)
  | dic {a : Addr} {ks : List (Key × V)} {kvs : List (PyData × PyData)} : Rd F a (.dK ks) → kvs.map (·.1) = ks.map (fun p => kD p.1) → DVs K F (ks.map (·.2)) (kvs.map (·.2)) → DV K F (.ref a) (.dict kvs)
  | dit {a : Addr} {ks : List (List Key × V)} {kvs : List (PyData × PyData)} : Rd F a (.dT ks) → kvs.map (·.1) = ks.map (fun p => .tuple (p.1.map kD)) → DVs K F (ks.map (·.2)) (kvs.map (·.2)) → DV K F (.ref a) (.dict ((.none, .none) :: kvs))
inductive DVs (K : PySem.W.Frag) (F : Hp) : List V → List PyData → Prop
  | nil : DVs K F [] []
  | cons {v : V} {vs : List V} {d : PyData} {ds : List PyData} : DV K F v d → DVs K F vs ds → DVs K F (v :: vs) (d :: ds)
end
section
variable {K : PySem.W.Frag} {F F' H : Hp} {v : V} {vs ws : List V} {d : PyData} {ds es : List PyData}
theorem sameRd {a : Addr} {u : HO} (h : Same F F') (r : Rd F a u) : Rd F' a u := by
  rcases r with r | ⟨o, r⟩
  · exact .inl (h _ _ r)
  · exact .inr ⟨o, h _ _ r⟩
theorem sameL {a : Addr} {xs : List V} (h : Same F F') (r : SqL K F a xs) : SqL K F' a xs := r.imp (sameRd h) id
theorem sameT {a : Addr} {xs : List V} (h : Same F F') (r : SqT K F a xs) : SqT K F' a xs := r.imp (sameRd h) id
mutual
theorem DV.mono (h : Same F F') : ∀ (d : PyData) (v : V), DV K F v d → DV K F' v d
  | .none, _, .non => .non
  | .bool b, _, .bl _ => .bl b
  | .int i, _, .int _ => .int i
  | .str x, _, .str _ => .str x
  | .list ds, _, .lst r q => .lst (h _ _ r) (DVs.mono h ds _ q)
  | .tuple ds, _, .tup r q => .tup (h _ _ r) (DVs.mono h ds _ q)
  | .dict kvs, _, .dic r e q => .dic (sameRd h r) e (DVs.monoK h kvs _ q)
  | .dict ((_, _) :: kvs), _, .dit r e q => .dit (sameRd h r) e (DVs.monoK h kvs _ q)
theorem DVs.mono (h : Same F F') : ∀ (ds : List PyData) (vs : List V), DVs K F vs ds → DVs K F' vs ds
  | [], _, .nil => .nil
  | d :: ds, _, .cons r q => .cons (DV.mono h d _ r) (DVs.mono h ds _ q)
theorem DVs.monoK (h : Same F F') : ∀ (kvs : List (PyData × PyData)) (vs : List V), DVs K F vs (kvs.map (·.2)) → DVs K F' vs (kvs.map (·.2))
  | [], _, .nil => .nil
  | (a, d) :: ds, _, .cons r q => .cons (DV.mono h d _ r) (DVs.monoK h ds _ q)
end
theorem DV.same (h : Same F F') (x : DV K F v d) : DV K F' v d := DV.mono h d v x
theorem DVs.same (h : Same F F') (x : DVs K F vs ds) : DVs K F' vs ds := DVs.mono h ds vs x
theorem DVs.len : ∀ {vs : List V} {ds : List PyData}, DVs K F vs ds → vs.length = ds.length
  | _, _, .nil => rfl
  | _, _, .cons _ q => by simp [DVs.len q]
theorem DVs.app : ∀ {vs ws : List V} {ds es : List PyData}, DVs K F vs ds → DVs K F ws es → DVs K F (vs ++ ws) (ds ++ es)
  | _, _, _, _, .nil, q => q
  | _, _, _, _, .cons r s, q => .cons r (DVs.app s q)
theorem DVs.get : ∀ {vs : List V} {ds : List PyData} {i : Nat} {d : PyData}, DVs K F vs ds → ds[i]? = some d → ∃ v, vs[i]? = some v ∧ DV K F v d
  | _, _, i, _, .nil, e => by simp at e
  | _, _, 0, _, .cons r s, e => by simp at e; subst e; exact ⟨_, rfl, r⟩
  | _, _, i + 1, _, .cons r s, e => by
    obtain ⟨v, h1, h2⟩ := DVs.get (i := i) s (by simpa using e)
    exact ⟨v, by simpa using h1, h2⟩
theorem DVs.getV : ∀ {vs : List V} {ds : List PyData} {i : Nat} {v : V}, DVs K F vs ds → vs[i]? = some v → ∃ d, ds[i]? = some d ∧ DV K F v d
  | _, _, i, _, .nil, e => by simp at e
  | _, _, 0, _, .cons r s, e => by simp at e; subst e; exact ⟨_, rfl, r⟩
  | _, _, i + 1, _, .cons r s, e => by
    obtain ⟨v, h1, h2⟩ := DVs.getV (i := i) s (by simpa using e)
    exact ⟨v, by simpa using h1, h2⟩
theorem DVs.take : ∀ {vs : List V} {ds : List PyData} (n : Nat), DVs K F vs ds → DVs K F (vs.take n) (ds.take n)
  | _, _, 0, _ => .nil
  | _, _, n + 1, .nil => .nil
  | _, _, n + 1, .cons r s => .cons r (DVs.take n s)
theorem DVs.drop : ∀ {vs : List V} {ds : List PyData} (n : Nat), DVs K F vs ds → DVs K F (vs.drop n) (ds.drop n)
  | _, _, 0, q => q
  | _, _, n + 1, .nil => .nil
  | _, _, n + 1, .cons r s => DVs.drop n s
theorem DVs.set : ∀ {vs : List V} {ds : List PyData} {v : V} {d : PyData} (i : Nat), DVs K F vs ds → DV K F v d → DVs K F (vs.set i v) (ds.set i d)
  | _, _, _, _, _, .nil, _ => .nil
  | _, _, _, _, 0, .cons _ s, r => .cons r s
  | _, _, _, _, i + 1, .cons q s, r => .cons q (DVs.set i s r)
theorem DVs.erase : ∀ {vs : List V} {ds : List PyData} (i : Nat), DVs K F vs ds → DVs K F (vs.eraseIdx i) (ds.eraseIdx i)
  | _, _, _, .nil => .nil
  | _, _, 0, .cons _ s => s
  | _, _, i + 1, .cons q s => .cons q (DVs.erase i s)
theorem DVs.rev : ∀ {vs : List V} {ds : List PyData}, DVs K F vs ds → DVs K F vs.reverse ds.reverse
  | _, _, .nil => .nil
  | _, _, .cons q s => by rw [List.reverse_cons, List.reverse_cons]; exact (DVs.rev s).app (.cons q .nil)
theorem DVs.ints : ∀ {vs : List V} {ns : List Int}, DVs K F vs (ns.map PyData.int) → vs = ns.map V.int
  | _, [], .nil => rfl
  | _, n :: ns, .cons (.int _) s => by rw [DVs.ints s]; rfl
theorem DVs.ofInts : ∀ {ns : List Int}, DVs K F (ns.map V.int) (ns.map PyData.int)
  | [] => .nil
  | n :: ns => .cons (.int n) DVs.ofInts
theorem DVs.strs : ∀ {vs : List V} {ns : List Str}, DVs K F vs (ns.map PyData.str) → vs = ns.map V.str
  | _, [], .nil => rfl
  | _, n :: ns, .cons (.str _) s => by rw [DVs.strs s]; rfl
theorem DVs.ofStrs : ∀ {ns : List Str}, DVs K F (ns.map V.str) (ns.map PyData.str)
  | [] => .nil
  | n :: ns => .cons (.str n) DVs.ofStrs
theorem DVs.bools : ∀ {vs : List V} {ns : List Bool}, DVs K F vs (ns.map PyData.bool) → vs = ns.map V.bl
  | _, [], .nil => rfl
  | _, n :: ns, .cons (.bl _) s => by rw [DVs.bools s]; rfl
/-! no dict within -/
mutual
def flat : PyData → Bool
  | .none | .bool _ | .int _ | .str _ => true
  | .list xs | .tuple xs => flats xs
  | .dict _ => false
def flats : List PyData → Bool
  | [] => true
  | x :: xs => flat x && flats xs
end
mutual
theorem DV.dp : ∀ (d : PyData) (v : V), flat d = true → DV K F v d → Dp K F v d
  | .none, _, _, .non => .non
  | .bool b, _, _, .bl _ => .bl b
  | .int i, _, _, .int _ => .int i
  | .str x, _, _, .str _ => .str x
  | .list ds, _, h, .lst r q => .lst (SqL.of r) (DVs.dp ds _ (by simpa [flat] using h) q)
  | .tuple ds, _, h, .tup r q => .tup (SqT.of r) (DVs.dp ds _ (by simpa [flat] using h) q)
theorem DVs.dp : ∀ (ds : List PyData) (vs : List V), flats ds = true → DVs K F vs ds → DpAll K F vs ds
  | [], _, _, .nil => .nil
  | d :: ds, _, h, .cons r q => by
    simp only [flats, Bool.and_eq_true] at h
    exact .cons (DV.dp d _ h.1 r) (DVs.dp ds _ h.2 q)
end
end

/-! ### the memory of a def: its slots by plain data, the well -/
inductive Ent where
  | im (d : PyData)
  | ow (d : PyData)
  | ro (d : PyData)
  | wel
  | scr (ns : List Int)
  | exc (a : Addr) (cls : Value) (d : Option Addr) (nm : Str) (fv : PyData)
  | rng (lo hi : Int)
structure Wel where
  deep : List Int
  mix : Int
  drawn : Int
structure Mem where
  env : List (Option Ent)
  wl : Option Wel
def Mem.set (M : Mem) (i : Nat) (e : Ent) : Mem := ⟨M.env.set i (some e), M.wl⟩
def Mem.kill (M : Mem) : List Nat → Mem
  | [] => M
  | i :: is => let N := M.kill is; ⟨N.env.set i none, N.wl⟩
def Mem.view (M : Mem) (i : Nat) : Option PyData := match M.env[i]? with
  | some (some (.im d)) => some d
  | some (some (.ow d)) => some d
  | some (some (.ro d)) => some d
  | _ => none
def InW (W : Option (Addr × Addr)) (a : Addr) : Prop := match W with
  | none => False
  | some (q, r) => a = q ∨ a = r

/-- a list or a dict at p, its items frozen -/
inductive OwAt (K : PySem.W.Frag) (F H : Hp) (p : Addr) : PyData → Prop
  | lst {vs : List V} {ds : List PyData} : H p = some (.lst vs) → DVs K F vs ds → OwAt K F H p (.list ds)
  | dic {ks : List (Key × V)} {kvs : List (PyData × PyData)} : H p = some (.dK ks) → kvs.map (·.1) = ks.map (fun p => kD p.1) → DVs K F (ks.map (·.2)) (kvs.map (·.2)) → OwAt K F H p (.dict kvs)
  | dit {ks : List (List Key × V)} {kvs : List (PyData × PyData)} : H p = some (.dT ks) → kvs.map (·.1) = ks.map (fun p => .tuple (p.1.map kD)) → DVs K F (ks.map (·.2)) (kvs.map (·.2)) → OwAt K F H p (.dict ((.none, .none) :: kvs))
theorem OwAt.there {K : PySem.W.Frag} {F H : Hp} {p : Addr} {d : PyData} (h : OwAt K F H p d) : ∃ o, H p = some o := by
  cases h with
  | lst h _ => exact ⟨_, h⟩
  | dic h _ _ => exact ⟨_, h⟩
  | dit h _ _ => exact ⟨_, h⟩
theorem OwAt.move {K : PySem.W.Frag} {F F' H H' : Hp} {p : Addr} {d : PyData} (h : OwAt K F H p d) (s : Same F F') (e : H' p = H p) : OwAt K F' H' p d := by
  cases h with
  | lst h q => exact .lst (e.trans h) (q.same s)
  | dic h k q => exact .dic (e.trans h) k (q.same s)
  | dit h k q => exact .dit (e.trans h) k (q.same s)
theorem upd_dv {K : PySem.W.Frag} {F H : Hp} {p : Addr} {d : PyData} (h : OwAt K F H p d) (n : F p = none) : ∃ o, H p = some o ∧ DV K (upd F p o) (.ref p) d := by
  have s : ∀ o, Same F (upd F p o) := fun o b u e => by rw [upd_ne (ne_of_none e n)]; exact e
  cases h with
  | lst h q => exact ⟨_, h, .lst upd_same (q.same (s _))⟩
  | dic h k q => exact ⟨_, h, .dic (.inl upd_same) k (q.same (s _))⟩
  | dit h k q => exact ⟨_, h, .dit (.inl upd_same) k (q.same (s _))⟩

structure WelAt (H : Hp) (q r : Addr) (w : Wel) : Prop where
  dic : H q = some (.dK [(.inr "deep", .ref r), (.inr "mix", .int w.mix), (.inr "drawn", .int w.drawn)])
  lst : H r = some (.lst (w.deep.map V.int))
  ne : q ≠ r
def WelR (F H : Hp) : Option (Addr × Addr) → Option Wel → Prop
  | none, none => True
  | some (q, r), some w => WelAt H q r w ∧ F q = none ∧ F r = none
  | _, _ => False

/-- where an own exception of that class keeps what it was made with -/
def fldOf (nm : Str) : Option Str :=
  if nm = "TooMany" then some "limit" else if nm = "BadText" then some "place" else if nm = "BadLog" then some "place" else if nm = "BadWord" then some "error" else if nm = "Refused" then some "word" else none
/-- what an own exception's dict holds -/
def XFld (K : PySem.W.Frag) (F : Hp) (d : Option Addr) (nm : Str) (fv : PyData) : Prop := match fldOf nm with
  | none => d = none
  | some f => ∃ dd v, d = some dd ∧ F dd = some (.xd [(f, v)]) ∧ DV K F v fv
theorem XFld.same {K : PySem.W.Frag} {F F' : Hp} {d : Option Addr} {nm : Str} {fv : PyData} (s : Same F F') (h : XFld K F d nm fv) : XFld K F' d nm fv := by
  unfold XFld at h ⊢
  cases e : fldOf nm with
  | none => rw [e] at h; exact h
  | some f =>
    rw [e] at h
    obtain ⟨dd, v, h1, h2, h3⟩ := h
    exact ⟨dd, v, h1, s _ _ h2, h3.same s⟩
def EntR (K : PySem.W.Frag) (H0 F H : Hp) (W : Option (Addr × Addr)) (v : V) : Ent → Prop
  | .im d => DV K F v d
  | .ow d => ∃ p, v = .ref p ∧ OwAt K F H p d ∧ F p = none ∧ H0 p = none ∧ ¬ InW W p
  | .ro d => ∃ p, v = .ref p ∧ OwAt K F H p d ∧ (∃ o, H0 p = some o) ∧ ¬ InW W p
  | .wel => ∃ q r, W = some (q, r) ∧ v = .ref q
  | .scr ns => ∃ a, v = .ref a ∧ SqL K F a (ns.map V.int)
  | .exc a cls d nm fv => v = .ref a ∧ XFld K F d nm fv
  | .rng lo hi => ∃ a, v = .ref a ∧ F a = some (.rng lo hi)

/-- the state: F0, H0 at the def's entry; F what is frozen, H all that is tracked -/
structure Rel (K : PySem.W.Frag) (F0 H0 : Hp) (W : Option (Addr × Addr)) (M : Mem) (σ : List (Option V)) (F H : Hp) : Prop where
  sub : Same F H
  old : ∀ a o, H0 a = some o → ¬ InW W a → H a = some o
  fol : Same F0 F
  fnw : ∀ a o, F a = some o → F0 a = some o ∨ H0 a = none
  len : σ.length = M.env.length
  slt : ∀ (i : Nat) (e : Ent), M.env[i]? = some (some e) → ∃ v, σ[i]? = some (some v) ∧ EntR K H0 F H W v e
  dis : ∀ (i j : Nat) (d e : PyData) (v : V), i ≠ j → M.env[i]? = some (some (.ow d)) → M.env[j]? = some (some (.ow e)) → σ[i]? = some (some v) → σ[j]? ≠ some (some v)
  wel : WelR F H W M.wl
/-- new things alone -/
structure Grow (F H F' H' : Hp) : Prop where
  f : Same F F'
  h : Same H H'
  s : Same F' H'
  n : ∀ a o, F' a = some o → F a = some o ∨ H a = none
theorem same_upd {H : Hp} {p : Addr} {o : HO} (h : H p = none) : Same H (upd H p o) := fun b x e => by
  rw [upd_ne (ne_of_none e h)]
  exact e
theorem free_of {F H : Hp} {p : Addr} (s : Same F H) (n : H p = none) : F p = none := s.free n

section
variable {K : PySem.W.Frag} {F0 H0 F F' H H' : Hp} {W : Option (Addr × Addr)} {M : Mem} {σ : List (Option V)} {v : V} {d : PyData} {i : Nat} {p : Addr}
theorem Grow.refl (s : Same F H) : Grow F H F H := ⟨.refl _, .refl _, s, fun _ _ e => .inl e⟩
theorem Grow.trans {F1 H1 : Hp} (a : Grow F H F1 H1) (b : Grow F1 H1 F' H') : Grow F H F' H' := ⟨a.f.trans b.f, a.h.trans b.h, b.s, fun x o e => by
  rcases b.n x o e with z | z
  · exact a.n x o z
  · exact .inr (a.h.free z)⟩
/-- a new object that isn't frozen -/
theorem Grow.new (s : Same F H) (n : H p = none) {o : HO} : Grow F H F (upd H p o) := ⟨.refl _, same_upd n, s.trans (same_upd n), fun _ _ e => .inl e⟩
/-- a new object, frozen -/
theorem Grow.newF (s : Same F H) (n : H p = none) {o : HO} : Grow F H (upd F p o) (upd H p o) := ⟨same_upd (s.free n), same_upd n, fun b u e => by
  by_cases hb : b = p
  · subst hb; rw [upd_same] at e ⊢; exact e
  · rw [upd_ne hb] at e ⊢; exact s b u e, fun b u e => by
  by_cases hb : b = p
  · subst hb; exact .inr n
  · rw [upd_ne hb] at e; exact .inl e⟩
theorem WelR.grow {wl : Option Wel} (g : Grow F H F' H') : ∀ {W : Option (Addr × Addr)}, WelR F H W wl → WelR F' H' W wl := fun {W} h => by
  cases W with
  | none => cases wl <;> exact h
  | some z =>
    obtain ⟨q, r⟩ := z
    cases wl with
    | none => exact h
    | some w =>
      obtain ⟨a, b, c⟩ := h
      have fr : ∀ x, F x = none → (∃ o, H x = some o) → F' x = none := fun x e ⟨o, e2⟩ => by
        cases z : F' x with
        | none => rfl
        | some u =>
          rcases g.n x u z with y | y
          · rw [e] at y; cases y
          · rw [e2] at y; cases y
      exact ⟨⟨g.h _ _ a.dic, g.h _ _ a.lst, a.ne⟩, fr q b ⟨_, a.dic⟩, fr r c ⟨_, a.lst⟩⟩
theorem EntR.grow (g : Grow F H F' H') {e : Ent} (h : EntR K H0 F H W v e) : EntR K H0 F' H' W v e := by
  cases e with
  | im d => exact DV.same g.f h
  | wel => exact h
  | scr ns => obtain ⟨a, e, h⟩ := h; exact ⟨a, e, sameL g.f h⟩
  | exc a cls d nm fv => exact ⟨h.1, h.2.same g.f⟩
  | rng lo hi => obtain ⟨a, e, h⟩ := h; exact ⟨a, e, g.f _ _ h⟩
  | ow d =>
    obtain ⟨p, rfl, o, n, n0, nw⟩ := h
    obtain ⟨u, hu⟩ := o.there
    refine ⟨p, rfl, o.move g.f ((g.h _ _ hu).trans hu.symm), ?_, n0, nw⟩
    cases z : F' p with
    | none => rfl
    | some y =>
      rcases g.n p y z with t | t
      · rw [n] at t; cases t
      · rw [hu] at t; cases t
  | ro d =>
    obtain ⟨p, rfl, o, n0, nw⟩ := h
    obtain ⟨u, hu⟩ := o.there
    exact ⟨p, rfl, o.move g.f ((g.h _ _ hu).trans hu.symm), n0, nw⟩
theorem Rel.grow (R : Rel K F0 H0 W M σ F H) (g : Grow F H F' H') : Rel K F0 H0 W M σ F' H' where
  sub := g.s
  old := fun a o e n => g.h _ _ (R.old a o e n)
  fol := R.fol.trans g.f
  fnw := fun a o e => by
    rcases g.n a o e with z | z
    · exact R.fnw a o z
    · by_cases q : H0 a = none
      · exact .inr q
      · cases y : H0 a with
        | none => exact absurd y q
        | some u =>
          by_cases iw : InW W a
          · -- the well stands
            exfalso
            have wl := R.wel
            cases W with
            | none => exact iw
            | some t =>
              obtain ⟨t1, t2⟩ := t
              cases hm : M.wl with
              | none => rw [hm] at wl; exact wl
              | some w =>
                rw [hm] at wl
                rcases iw with rfl | rfl
                · rw [wl.1.dic] at z; cases z
                · rw [wl.1.lst] at z; cases z
          · rw [R.old a u y iw] at z; cases z
  len := R.len
  slt := fun i e h => by
    obtain ⟨v, h1, h2⟩ := R.slt i e h
    exact ⟨v, h1, h2.grow g⟩
  dis := R.dis
  wel := R.wel.grow g
theorem Rel.lt (R : Rel K F0 H0 W M σ F H) {x : Option Ent} (h : M.env[i]? = some x) : i < σ.length := by
  rw [R.len]; exact (List.getElem?_eq_some_iff.mp h).1
theorem getSet {α : Type} {l : List α} {i j : Nat} {x y : α} (h : (l.set i x)[j]? = some y) : (i = j ∧ x = y) ∨ (i ≠ j ∧ l[j]? = some y) := by
  by_cases e : i = j
  · subst e
    have hl : i < l.length := by have := (List.getElem?_eq_some_iff.mp h).1; simpa using this
    rw [List.getElem?_set_self hl] at h
    exact .inl ⟨rfl, Option.some.inj h⟩
  · rw [List.getElem?_set_ne e] at h
    exact .inr ⟨e, h⟩
/-- a slot is stored: frozen data -/
theorem Rel.setIm (R : Rel K F0 H0 W M σ F H) (hd : DV K F v d) : Rel K F0 H0 W (M.set i (.im d)) (σ.set i (some v)) F H where
  sub := R.sub
  old := R.old
  fol := R.fol
  fnw := R.fnw
  len := by simp [Mem.set, R.len]
  slt := fun j e h => by
    rcases getSet h with ⟨rfl, he⟩ | ⟨ne, h⟩
    · cases he
      have hl : i < σ.length := by rw [R.len]; have := (List.getElem?_eq_some_iff.mp h).1; simpa [Mem.set] using this
      exact ⟨v, List.getElem?_set_self hl, hd⟩
    · obtain ⟨u, h1, h2⟩ := R.slt j e h
      exact ⟨u, by rw [List.getElem?_set_ne ne]; exact h1, h2⟩
  dis := fun a b x y u ne h1 h2 h3 h4 => by
    rcases getSet h1 with ⟨_, z⟩ | ⟨na, h1⟩
    · cases z
    rcases getSet h2 with ⟨_, z⟩ | ⟨nb, h2⟩
    · cases z
    rw [List.getElem?_set_ne na] at h3
    rw [List.getElem?_set_ne nb] at h4
    exact R.dis a b x y u ne h1 h2 h3 h4
  wel := R.wel
/-- what is owned by nobody yet -/
structure Fresh (K : PySem.W.Frag) (H0 : Hp) (W : Option (Addr × Addr)) (M : Mem) (σ : List (Option V)) (F H : Hp) (p : Addr) (d : PyData) : Prop where
  at_ : OwAt K F H p d
  nf : F p = none
  n0 : H0 p = none
  nw : ¬ InW W p
  ns : ∀ (i : Nat) (d : PyData), M.env[i]? = some (some (.ow d)) → σ[i]? ≠ some (some (.ref p))
theorem Rel.setOw (R : Rel K F0 H0 W M σ F H) (f : Fresh K H0 W M σ F H p d) : Rel K F0 H0 W (M.set i (.ow d)) (σ.set i (some (.ref p))) F H where
  sub := R.sub
  old := R.old
  fol := R.fol
  fnw := R.fnw
  len := by simp [Mem.set, R.len]
  slt := fun j e h => by
    rcases getSet h with ⟨rfl, he⟩ | ⟨ne, h⟩
    · cases he
      have hl : i < σ.length := by rw [R.len]; have := (List.getElem?_eq_some_iff.mp h).1; simpa [Mem.set] using this
      exact ⟨.ref p, List.getElem?_set_self hl, p, rfl, f.at_, f.nf, f.n0, f.nw⟩
    · obtain ⟨u, h1, h2⟩ := R.slt j e h
      exact ⟨u, by rw [List.getElem?_set_ne ne]; exact h1, h2⟩
  dis := fun a b x y u ne h1 h2 h3 h4 => by
    rcases getSet h1 with ⟨ha, z⟩ | ⟨na, h1⟩
    · subst ha
      rcases getSet h2 with ⟨hb, z⟩ | ⟨nb, h2⟩
      · exact ne hb
      rcases getSet h3 with ⟨_, z⟩ | ⟨z, _⟩
      · cases z
        rw [List.getElem?_set_ne nb] at h4
        exact f.ns b y h2 h4
      · exact z rfl
    · rw [List.getElem?_set_ne na] at h3
      rcases getSet h2 with ⟨hb, z⟩ | ⟨nb, h2⟩
      · subst hb
        rcases getSet h4 with ⟨_, z⟩ | ⟨z, _⟩
        · cases z
          exact f.ns a x h1 h3
        · exact z rfl
      · rw [List.getElem?_set_ne nb] at h4
        exact R.dis a b x y u ne h1 h2 h3 h4
  wel := R.wel
theorem getKill {is : List Nat} : ∀ {M : Mem} {j : Nat} {e : Ent}, (M.kill is).env[j]? = some (some e) → M.env[j]? = some (some e) := by
  induction is with
  | nil => exact fun h => h
  | cons i is ih =>
    intro M j e h
    rcases getSet (show ((M.kill is).env.set i none)[j]? = some (some e) from h) with ⟨_, z⟩ | ⟨_, h⟩
    · cases z
    · exact ih h
theorem killLen {is : List Nat} {M : Mem} : (M.kill is).env.length = M.env.length := by
  induction is with
  | nil => rfl
  | cons i is ih => show ((M.kill is).env.set i none).length = _; rw [List.length_set, ih]
theorem killWl {is : List Nat} {M : Mem} : (M.kill is).wl = M.wl := by
  induction is with
  | nil => rfl
  | cons i is ih => exact ih
/-- less is known -/
theorem Rel.weak {N : Mem} (R : Rel K F0 H0 W M σ F H) (hl : N.env.length = M.env.length) (h : ∀ (j : Nat) (e : Ent), N.env[j]? = some (some e) → M.env[j]? = some (some e)) (hw : N.wl = M.wl) : Rel K F0 H0 W N σ F H where
  sub := R.sub
  old := R.old
  fol := R.fol
  fnw := R.fnw
  len := R.len.trans hl.symm
  slt := fun j e k => R.slt j e (h j e k)
  dis := fun a b x y u ne h1 h2 h3 h4 => R.dis a b x y u ne (h _ _ h1) (h _ _ h2) h3 h4
  wel := by rw [hw]; exact R.wel
theorem Rel.kill (R : Rel K F0 H0 W M σ F H) (is : List Nat) : Rel K F0 H0 W (M.kill is) σ F H :=
  R.weak killLen (fun _ _ => getKill) killWl
theorem wipeGet {σ : List (Option V)} {vs : List Nat} {i : Nat} (h : i ∉ vs) : (wipe σ vs)[i]? = σ[i]? := wipe_out h
theorem killNot {M : Mem} {j : Nat} {e : Ent} : ∀ {is : List Nat}, (M.kill is).env[j]? = some (some e) → j ∉ is
  | [], _ => by simp
  | i :: is, h => by
    rcases getSet (show ((M.kill is).env.set i none)[j]? = some (some e) from h) with ⟨_, z⟩ | ⟨ne, h⟩
    · cases z
    · intro hm
      rcases List.mem_cons.mp hm with z | z
      · exact ne z.symm
      · exact killNot h z
theorem Rel.wipe (R : Rel K F0 H0 W M σ F H) (is : List Nat) : Rel K F0 H0 W (M.kill is) (wipe σ is) F H where
  sub := R.sub
  old := R.old
  fol := R.fol
  fnw := R.fnw
  len := by rw [wipe_length, killLen]; exact R.len
  slt := fun j e k => by
    rw [wipeGet (killNot k)]
    exact R.slt j e (getKill k)
  dis := fun a b x y u ne h1 h2 h3 h4 => by
    rw [wipeGet (killNot h1)] at h3
    rw [wipeGet (killNot h2)] at h4
    exact R.dis a b x y u ne (getKill h1) (getKill h2) h3 h4
  wel := by rw [killWl]; exact R.wel
end
end DL

/-! DL1: judgements over plain data; operators. -/
namespace DL
open PySem PySem.Spec L2 PyProof.Rows

abbrev Exn := Str × PyData
abbrev Xn := Exn → Mem → Prop
structure XP where
  W : WX
  XR : Exn → Value → Option Addr → Hp → Prop
abbrev X0 : XP := ⟨fun _ _ _ _ => False, fun _ _ _ _ => False⟩
def Lnk (K : PySem.W.Frag) (R : XP) (F0 H0 : Hp) (W : Option (Addr × Addr)) (xn : Xn) : Prop :=
  ∀ M σ F H e cls d, Rel K F0 H0 W M σ F H → R.XR e cls d F → xn e M → R.W cls d σ H
abbrev QD := PyData → Mem → Prop
abbrev WE := Xn → Mem → QD → Prop
abbrev WT := Xn → Mem → (Bool → Mem → Prop) → Prop

/-- an expression: its value frozen data -/
structure DE (X : Cx) (R : XP) (e : Expr) (w : WE) : Prop where
  ex : ∃ t : TE, PE X e t ∧ ∀ {F0 H0 F H : Hp} {W : Option (Addr × Addr)} {M : Mem} {σ : List (Option V)} {xn : Xn} {Q : QD} {k : VK}, Rel X.K F0 H0 W M σ F H → Lnk X.K R F0 H0 W xn → w xn M Q →
    (∀ v d M' F' H', Same F F' → Rel X.K F0 H0 W M' σ F' H' → DV X.K F' v d → Q d M' → k v H') → t σ H k
/-- an expression that makes an object nobody else holds -/
structure DF (X : Cx) (R : XP) (e : Expr) (w : WE) : Prop where
  ex : ∃ t : TE, PE X e t ∧ ∀ {F0 H0 F H : Hp} {W : Option (Addr × Addr)} {M : Mem} {σ : List (Option V)} {xn : Xn} {Q : QD} {k : VK}, Rel X.K F0 H0 W M σ F H → Lnk X.K R F0 H0 W xn → w xn M Q →
    (∀ p d M' F' H', Same F F' → Rel X.K F0 H0 W M' σ F' H' → Fresh X.K H0 W M' σ F' H' p d → Q d M' → k (.ref p) H') → t σ H k
structure DT (X : Cx) (R : XP) (e : Expr) (w : WT) : Prop where
  ex : ∃ t : TT, PT X e t ∧ ∀ {F0 H0 F H : Hp} {W : Option (Addr × Addr)} {M : Mem} {σ : List (Option V)} {xn : Xn} {Q : Bool → Mem → Prop} {k : Bool → Hp → Prop}, Rel X.K F0 H0 W M σ F H → Lnk X.K R F0 H0 W xn → w xn M Q →
    (∀ b M' F' H', Same F F' → Rel X.K F0 H0 W M' σ F' H' → Q b M' → k b H') → t σ H k
structure DTW (X : Cx) (R : XP) (e : Expr) (w : WT) : Prop where
  ex : ∃ t : TT, PW X e t ∧ ∀ {F0 H0 F H : Hp} {W : Option (Addr × Addr)} {M : Mem} {σ : List (Option V)} {xn : Xn} {Q : Bool → Mem → Prop} {k : Bool → Hp → Prop}, Rel X.K F0 H0 W M σ F H → Lnk X.K R F0 H0 W xn → w xn M Q →
    (∀ b M' F' H', Same F F' → Rel X.K F0 H0 W M' σ F' H' → Q b M' → k b H') → t σ H k
/-- an operand: a slot as it will stand, or frozen data -/
inductive Opd where
  | s (i : Nat)
  | x (dat : PyData)
def Opd.get : Opd → Mem → Option PyData
  | .s i, M => M.view i
  | .x y, _ => some y
def OpdR (K : PySem.W.Frag) (F : Hp) (σ : List (Option V)) (v : V) : Opd → Prop
  | .s i => σ[i]? = some (some v)
  | .x d => DV K F v d
abbrev QO := Opd → Mem → Prop
abbrev WO := Xn → Mem → QO → Prop
structure DO (X : Cx) (R : XP) (e : Expr) (w : WO) : Prop where
  ex : ∃ t : TE, PE X e t ∧ ∀ {F0 H0 F H : Hp} {W : Option (Addr × Addr)} {M : Mem} {σ : List (Option V)} {xn : Xn} {Q : QO} {k : VK}, Rel X.K F0 H0 W M σ F H → Lnk X.K R F0 H0 W xn → w xn M Q →
    (∀ v o M' F' H', Same F F' → Rel X.K F0 H0 W M' σ F' H' → OpdR X.K F' σ v o → Q o M' → k v H') → t σ H k
inductive Arg where
  | x (dat : PyData)
  | wel
  | scr (ns : List Int)
def ArgR (K : PySem.W.Frag) (F : Hp) (W : Option (Addr × Addr)) (v : V) : Arg → Prop
  | .x d => DV K F v d
  | .wel => ∃ q r, W = some (q, r) ∧ v = .ref q
  | .scr ns => ∃ a, v = .ref a ∧ SqL K F a (ns.map V.int)
inductive ArgsR (K : PySem.W.Frag) (F : Hp) (W : Option (Addr × Addr)) : List V → List Arg → Prop
  | nil : ArgsR K F W [] []
  | cons {v : V} {vs : List V} {a : Arg} {as : List Arg} : ArgR K F W v a → ArgsR K F W vs as → ArgsR K F W (v :: vs) (a :: as)
abbrev QA := List Arg → Mem → Prop
abbrev WA := Xn → Mem → QA → Prop
structure DA (X : Cx) (R : XP) (es : List Expr) (w : WA) : Prop where
  ex : ∃ t : TA, PA X es t ∧ ∀ {F0 H0 F H : Hp} {W : Option (Addr × Addr)} {M : Mem} {σ : List (Option V)} {xn : Xn} {Q : QA} {k : List V → Hp → Prop}, Rel X.K F0 H0 W M σ F H → Lnk X.K R F0 H0 W xn → w xn M Q →
    (∀ vs as M' F' H', Same F F' → Rel X.K F0 H0 W M' σ F' H' → ArgsR X.K F' W vs as → Q as M' → k vs H') → t σ H k

def View (K : PySem.W.Frag) (F H : Hp) (v : V) (d : PyData) : Prop := DV K F v d ∨ ∃ p, v = .ref p ∧ OwAt K F H p d
section
variable {K : PySem.W.Frag} {F0 H0 F F' H H' : Hp} {W : Option (Addr × Addr)} {M : Mem} {σ : List (Option V)} {v : V} {d : PyData} {i : Nat} {p : Addr}
theorem Rel.view (R : Rel K F0 H0 W M σ F H) (h : M.view i = some d) (hv : σ[i]? = some (some v)) : View K F H v d := by
  unfold Mem.view at h
  cases e : M.env[i]? with
  | none => rw [e] at h; cases h
  | some z =>
    rw [e] at h
    cases z with
    | none => cases h
    | some y =>
      obtain ⟨u, h1, h2⟩ := R.slt i y e
      rw [hv] at h1
      cases h1
      cases y with
      | im d' => cases h; exact .inl h2
      | ow d' => cases h; obtain ⟨p, rfl, o, _⟩ := h2; exact .inr ⟨p, rfl, o⟩
      | ro d' => cases h; obtain ⟨p, rfl, o, _⟩ := h2; exact .inr ⟨p, rfl, o⟩
      | wel => cases h
      | scr ns => cases h
      | exc _ _ _ _ _ => cases h
      | rng _ _ => cases h
theorem Rel.opd (R : Rel K F0 H0 W M σ F H) {o : Opd} (hv : OpdR K F σ v o) (h : o.get M = some d) : View K F H v d := by
  cases o with
  | s i => exact R.view (i := i) h hv
  | x d' => cases h; exact .inl hv
theorem OpdR.same {o : Opd} (s : Same F F') (h : OpdR K F σ v o) : OpdR K F' σ v o := by
  cases o with
  | s i => exact h
  | x d => exact DV.same s h
theorem View.int {n : Int} (h : View K F H v (.int n)) : v = .int n := by
  rcases h with h | ⟨p, rfl, h⟩
  · cases h; rfl
  · cases h
theorem View.str {x : Str} (h : View K F H v (.str x)) : v = .str x := by
  rcases h with h | ⟨p, rfl, h⟩
  · cases h; rfl
  · cases h
theorem View.bl {b : Bool} (h : View K F H v (.bool b)) : v = .bl b := by
  rcases h with h | ⟨p, rfl, h⟩
  · cases h; rfl
  · cases h
theorem View.non (h : View K F H v .none) : v = .non := by
  rcases h with h | ⟨p, rfl, h⟩
  · cases h; rfl
  · cases h
theorem View.list {ds : List PyData} (s : Same F H) (h : View K F H v (.list ds)) : ∃ p vs, v = .ref p ∧ H p = some (.lst vs) ∧ DVs K F vs ds := by
  rcases h with h | ⟨p, rfl, h⟩
  · cases h with
    | lst h q => exact ⟨_, _, rfl, s _ _ h, q⟩
  · cases h with
    | lst h q => exact ⟨_, _, rfl, h, q⟩
theorem View.tupP {ds : List PyData} (s : Same F H) (h : View K F H v (.tuple ds)) : ∃ p vs, v = .ref p ∧ H p = some (.tup vs) ∧ DVs K F vs ds := by
  rcases h with h | ⟨p, rfl, h⟩
  · cases h with
    | tup h q => exact ⟨_, _, rfl, s _ _ h, q⟩
  · cases h
theorem View.tup {ds : List PyData} (s : Same F H) (h : View K F H v (.tuple ds)) : ∃ p vs, v = .ref p ∧ SqT K H p vs ∧ DVs K F vs ds := by
  obtain ⟨p, vs, e, a, b⟩ := h.tupP s
  exact ⟨p, vs, e, SqT.of a, b⟩
theorem View.dp (s : Same F H) (h : View K F H v d) (fl : flat d = true) : Dp K H v d := by
  rcases h with h | ⟨p, rfl, h⟩
  · exact DV.dp d v fl (h.same s)
  · cases h with
    | lst h q => exact .lst (.inl (.inl h)) (DVs.dp _ _ (by simpa [flat] using fl) (q.same s))
    | dic _ _ _ => simp [flat] at fl
    | dit _ _ _ => simp [flat] at fl
theorem View.scal (h : View K F H v d) : (∀ n, d = .int n → v = .int n) ∧ (∀ n, d = .str n → v = .str n) ∧ (∀ n, d = .bool n → v = .bl n) ∧ (d = .none → v = .non) :=
  ⟨fun n e => by subst e; exact h.int, fun n e => by subst e; exact h.str, fun n e => by subst e; exact h.bl, fun e => by subst e; exact h.non⟩

/-- freezing what is fresh -/
theorem Rel.freeze (R : Rel K F0 H0 W M σ F H) (f : Fresh K H0 W M σ F H p d) : ∃ F', Same F F' ∧ Rel K F0 H0 W M σ F' H ∧ DV K F' (.ref p) d := by
  obtain ⟨o, ho, hd⟩ := upd_dv f.at_ f.nf
  have sm : Same F (upd F p o) := same_upd f.nf
  refine ⟨upd F p o, sm, ⟨fun b u e => ?_, R.old, R.fol.trans sm, fun b u e => ?_, R.len, fun i e h => ?_, R.dis, ?_⟩, hd⟩
  · by_cases hb : b = p
    · subst hb; rw [upd_same] at e; cases e; exact ho
    · rw [upd_ne hb] at e; exact R.sub _ _ e
  · by_cases hb : b = p
    · subst hb; exact .inr f.n0
    · rw [upd_ne hb] at e; exact R.fnw _ _ e
  · obtain ⟨v, h1, h2⟩ := R.slt i e h
    refine ⟨v, h1, ?_⟩
    cases e with
    | im d' => exact DV.same sm h2
    | wel => exact h2
    | scr ns => obtain ⟨a, e, h⟩ := h2; exact ⟨a, e, sameL sm h⟩
    | exc _ _ _ _ _ => exact ⟨h2.1, h2.2.same sm⟩
    | rng lo hi => obtain ⟨a, e, h⟩ := h2; exact ⟨a, e, sm _ _ h⟩
    | ow d' =>
      obtain ⟨q, rfl, a1, a2, a3, a4⟩ := h2
      have ne : q ≠ p := fun z => by subst z; exact f.ns i d' h h1
      exact ⟨q, rfl, a1.move sm rfl, by rw [upd_ne ne]; exact a2, a3, a4⟩
    | ro d' =>
      obtain ⟨q, rfl, a1, a2, a4⟩ := h2
      exact ⟨q, rfl, a1.move sm rfl, a2, a4⟩
  · have wl := R.wel
    cases W with
    | none => cases hm : M.wl <;> rw [hm] at wl <;> exact wl
    | some z =>
      obtain ⟨q, r⟩ := z
      cases hm : M.wl with
      | none => rw [hm] at wl; exact wl
      | some w =>
        rw [hm] at wl
        obtain ⟨a, b, c⟩ := wl
        have nq : q ≠ p := fun z => f.nw (by subst z; exact .inl rfl)
        have nr : r ≠ p := fun z => f.nw (by subst z; exact .inr rfl)
        exact ⟨a, by rw [upd_ne nq]; exact b, by rw [upd_ne nr]; exact c⟩
/-- a new object is fresh -/
theorem Rel.isFresh (R : Rel K F0 H0 W M σ F H) {o : HO} (n : H p = none) (ha : OwAt K F (upd H p o) p d) : Rel K F0 H0 W M σ F (upd H p o) ∧ Fresh K H0 W M σ F (upd H p o) p d := by
  have g : Grow F H F (upd H p o) := Grow.new R.sub n
  have nw : ¬ InW W p := fun z => by
    have wl := R.wel
    cases W with
    | none => exact z
    | some t =>
      obtain ⟨q, r⟩ := t
      cases hm : M.wl with
      | none => rw [hm] at wl; exact wl
      | some w =>
        rw [hm] at wl
        rcases z with rfl | rfl
        · rw [wl.1.dic] at n; cases n
        · rw [wl.1.lst] at n; cases n
  refine ⟨R.grow g, ha, R.sub.free n, ?_, nw, fun i e h z => ?_⟩
  · cases y : H0 p with
    | none => rfl
    | some u => rw [R.old p u y nw] at n; cases n
  · obtain ⟨v, h1, h2⟩ := R.slt i _ h
    rw [z] at h1
    cases h1
    obtain ⟨q, e, o, _⟩ := h2
    cases e
    obtain ⟨u, hu⟩ := o.there
    rw [hu] at n; cases n
end

section
variable {X : Cx} {R : XP} {e a b c : Expr} {es : List Expr} {pos : Pos} {wa wb wc : WE} {oa ob oc : WO} {ta tb : WT}
theorem DF.toE {w : WE} (h : DF X R e w) : DE X R e w := by
  obtain ⟨t, p, q⟩ := h.ex
  refine ⟨t, p, fun r l hw k => q r l hw fun p d M' F' H' s r' f z => ?_⟩
  obtain ⟨F2, s2, r2, d2⟩ := r'.freeze f
  exact k _ d M' F2 H' (s.trans s2) r2 d2 z
def oE (wa : WE) : WO := fun xn M Q => wa xn M fun d M1 => Q (.x d) M1
theorem dO_e (h : DE X R e wa) : DO X R e (oE wa) := by
  obtain ⟨t, p, q⟩ := h.ex
  exact ⟨t, p, fun r l hw k => q r l hw fun v d M' F' H' s r' f z => k v (.x d) M' F' H' s r' f z⟩
def oV (i : Nat) : WO := fun _ M Q => (∃ d, M.view i = some d) ∧ Q (.s i) M
theorem dO_v (i : Nat) {x : Str} {pos : Pos} (hN : X.N[i]? = some x := by rfl) (hv : Vis X.env.scope x := by first | exact Or.inl rfl | exact Or.inr (Or.inl rfl) | exact Or.inr (Or.inr rfl)) (hd : (x == ("__debug__" : Str)) = false := by decide)
    (hcd : (x == ("__classdict__" : Str)) = false := by decide) : DO X R (.Name x pos) (oV i) := by
  refine ⟨tVar i, pe_var hN hv hd hcd, fun {F0 H0 F H W M σ xn Q k} r l hw kk => ?_⟩
  obtain ⟨⟨d, hd⟩, hq⟩ := hw
  unfold Mem.view at hd
  cases e : M.env[i]? with
  | none => rw [e] at hd; cases hd
  | some z =>
    rw [e] at hd
    cases z with
    | none => cases hd
    | some y =>
      obtain ⟨u, h1, h2⟩ := r.slt i y e
      exact ⟨u, h1, kk u (.s i) M F H (.refl _) r h1 hq⟩
/-- a name whose data is frozen -/
def wV (i : Nat) : WE := fun _ M Q => match M.env[i]? with
  | some (some (.im d)) => Q d M
  | _ => False
theorem dE_v (i : Nat) {x : Str} {pos : Pos} (hN : X.N[i]? = some x := by rfl) (hv : Vis X.env.scope x := by first | exact Or.inl rfl | exact Or.inr (Or.inl rfl) | exact Or.inr (Or.inr rfl)) (hd : (x == ("__debug__" : Str)) = false := by decide)
    (hcd : (x == ("__classdict__" : Str)) = false := by decide) : DE X R (.Name x pos) (wV i) := by
  refine ⟨tVar i, pe_var hN hv hd hcd, fun {F0 H0 F H W M σ xn Q k} r l hw kk => ?_⟩
  unfold wV at hw
  cases e : M.env[i]? with
  | none => rw [e] at hw; exact hw.elim
  | some z =>
    rw [e] at hw
    cases z with
    | none => exact hw.elim
    | some y =>
      cases y with
      | im d =>
        obtain ⟨u, h1, h2⟩ := r.slt i _ e
        exact ⟨u, h1, kk u d M F H (.refl _) r h2 hw⟩
      | ow d => exact hw.elim
      | ro d => exact hw.elim
      | wel => exact hw.elim
      | scr ns => exact hw.elim
      | exc _ _ _ _ _ => exact hw.elim
      | rng _ _ => exact hw.elim
def wC (d : PyData) : WE := fun _ M Q => Q d M
theorem dE_int {i j pos} : DE X R (.Constant (.int i) j pos) (wC (.int i)) := ⟨_, pe_int, fun r _ hw k => k _ _ _ _ _ (.refl _) r (.int _) hw⟩
theorem dE_bl {i j pos} : DE X R (.Constant (.bool i) j pos) (wC (.bool i)) := ⟨_, pe_bl, fun r _ hw k => k _ _ _ _ _ (.refl _) r (.bl _) hw⟩
theorem dE_non {j pos} : DE X R (.Constant .none j pos) (wC .none) := ⟨_, pe_non, fun r _ hw k => k _ _ _ _ _ (.refl _) r .non hw⟩
theorem dE_str {i j pos} : DE X R (.Constant (.str i) j pos) (wC (.str i)) := ⟨_, pe_str, fun r _ hw k => k _ _ _ _ _ (.refl _) r (.str _) hw⟩
/-- a module's constant -/
theorem dE_glob {x : Str} {d : PyData} {v : V} {u : Value} {pos : Pos} (hg : Gl X x) (hm : X.mg x = some u) (r : RelV v u) (hv : ∀ F, DV X.K F v d) (hd : (x == ("__debug__" : Str)) = false := by decide) : DE X R (.Name x pos) (wC d) :=
  ⟨_, pe_glob hg hm r hd, fun r _ hw k => k _ _ _ _ _ (.refl _) r (hv _) hw⟩

/-! ### operators -/
abbrev DF2 := PyData → PyData → (PyData → Prop) → Prop
abbrev DF1 := PyData → (PyData → Prop) → Prop
def DOp (K : PySem.W.Frag) (r : R2) (f : DF2) : Prop := ∀ {F H : Hp} {vx vy : V} {dx dy : PyData} {Qd : PyData → Prop} {k : VK}, Same F H → View K F H vx dx → View K F H vy dy → f dx dy Qd →
  (∀ v d F' H', Grow F H F' H' → DV K F' v d → Qd d → k v H') → r vx vy H k
def DUn (K : PySem.W.Frag) (r : V → Hp → VK → Prop) (f : DF1) : Prop := ∀ {F H : Hp} {vx : V} {dx : PyData} {Qd : PyData → Prop} {k : VK}, Same F H → View K F H vx dx → f dx Qd →
  (∀ v d F' H', Grow F H F' H' → DV K F' v d → Qd d → k v H') → r vx H k
def app2 (f : DF2) (x y : Opd) (M : Mem) (Q : QD) : Prop := match x.get M, y.get M with
  | some dx, some dy => f dx dy fun r => Q r M
  | _, _ => False
def app1 (f : DF1) (x : Opd) (M : Mem) (Q : QD) : Prop := match x.get M with
  | some dx => f dx fun r => Q r M
  | _ => False
def wOp (f : DF2) (wa wb : WO) : WE := fun xn M Q => wa xn M fun x M1 => wb xn M1 fun y M2 => app2 f x y M2 Q
def wUn (f : DF1) (wa : WO) : WE := fun xn M Q => wa xn M fun x M1 => app1 f x M1 Q
theorem app2_run {K : PySem.W.Frag} {r : R2} {f : DF2} (hd : DOp K r f) {F0 H0 F H : Hp} {W : Option (Addr × Addr)} {M : Mem} {σ : List (Option V)} {Q : QD} {k : VK} {x y : Opd} {vx vy : V}
    (rel : Rel K F0 H0 W M σ F H) (hx : OpdR K F σ vx x) (hy : OpdR K F σ vy y) (h : app2 f x y M Q)
    (kk : ∀ v d M' F' H', Same F F' → Rel K F0 H0 W M' σ F' H' → DV K F' v d → Q d M' → k v H') : r vx vy H k := by
  unfold app2 at h
  cases ex : x.get M with
  | none => rw [ex] at h; exact h.elim
  | some dx =>
    cases ey : y.get M with
    | none => rw [ex, ey] at h; exact h.elim
    | some dy =>
      rw [ex, ey] at h
      exact hd rel.sub (rel.opd hx ex) (rel.opd hy ey) h fun v d F' H' g dv q => kk v d M F' H' g.f (rel.grow g) dv q
theorem dE_op {op : Operator} {r : R2} {f : DF2} (ho : OpR X (binaryOp op) r) (hd : DOp X.K r f) (ha : DO X R a oa) (hb : DO X R b ob) : DE X R (.BinOp a op b pos) (wOp f oa ob) := by
  obtain ⟨t1, p1, q1⟩ := ha.ex
  obtain ⟨t2, p2, q2⟩ := hb.ex
  refine ⟨_, pe_op ho p1 p2, fun r l hw kk => ?_⟩
  refine q1 r l hw fun vx x M1 F1 H1 s1 r1 hx z1 => q2 r1 l z1 fun vy y M2 F2 H2 s2 r2 hy z2 => ?_
  exact app2_run hd r2 (hx.same s2) hy z2 fun v d M' F' H' s => kk v d M' F' H' (s1.trans (s2.trans s))
theorem dE_cmp {op : CmpOp} {r : R2} {f : DF2} (ho : OpR X (compareOp op) r) (hd : DOp X.K r f) (ha : DO X R a oa) (hb : DO X R b ob) (hm : behindInMarks op b = false) : DE X R (.Compare a [op] [b] pos) (wOp f oa ob) := by
  obtain ⟨t1, p1, q1⟩ := ha.ex
  obtain ⟨t2, p2, q2⟩ := hb.ex
  refine ⟨_, pe_cmpR ho p1 p2 hm, fun r l hw kk => ?_⟩
  refine q1 r l hw fun vx x M1 F1 H1 s1 r1 hx z1 => q2 r1 l z1 fun vy y M2 F2 H2 s2 r2 hy z2 => ?_
  exact app2_run hd r2 (hx.same s2) hy z2 fun v d M' F' H' s => kk v d M' F' H' (s1.trans (s2.trans s))
def wTst (w : WE) : WT := fun xn M Q => w xn M fun d M1 => match d with
  | .bool b => Q b M1
  | _ => False
theorem dT_cmp {op : CmpOp} {r : R2} {f : DF2} (ho : OpR X (compareOp op) r) (hd : DOp X.K r f) (ha : DO X R a oa) (hb : DO X R b ob) (hm : behindInMarks op b = false) : DT X R (.Compare a [op] [b] pos) (wTst (wOp f oa ob)) := by
  obtain ⟨t1, p1, q1⟩ := ha.ex
  obtain ⟨t2, p2, q2⟩ := hb.ex
  refine ⟨_, pt_cmpR ho p1 p2 hm, fun r l hw kk => ?_⟩
  refine q1 r l hw fun vx x M1 F1 H1 s1 r1 hx z1 => q2 r1 l z1 fun vy y M2 F2 H2 s2 r2 hy z2 => ?_
  refine app2_run hd r2 (hx.same s2) hy z2 fun v d M' F' H' s r3 dv q => ?_
  cases dv with
  | bl b => exact ⟨b, rfl, kk b M' F' H' (s1.trans (s2.trans s)) r3 q⟩
  | _ => exact q.elim
/-- any expression whose value is True or False, as a test -/
theorem dT_val {w : WE} (h : DE X R e w) (he : ∀ whole, isTrue e X.env whole = (do let v ← whole; standAt e.pos; holding [v] (truthy v)) := by intro _; rfl) : DT X R e (wTst w) := by
  obtain ⟨t1, p1, q1⟩ := h.ex
  refine ⟨_, pt_val p1 he, fun r l hw kk => q1 r l hw fun v d M' F' H' s r' dv q => ?_⟩
  cases dv with
  | bl b => exact ⟨b, rfl, kk b M' F' H' s r' q⟩
  | _ => exact q.elim
theorem dE_un {op : UnaryOp} {r : V → Hp → VK → Prop} {f : DF1} (ho : UnR X (unaryOp op) r) (hd : DUn X.K r f) (ha : DO X R a oa) : DE X R (.UnaryOp op a pos) (wUn f oa) := by
  obtain ⟨t1, p1, q1⟩ := ha.ex
  refine ⟨_, pe_un ho p1, fun r l hw kk => ?_⟩
  refine q1 r l hw fun vx x M1 F1 H1 s1 r1 hx z1 => ?_
  unfold app1 at z1
  cases ex : x.get M1 with
  | none => rw [ex] at z1; exact z1.elim
  | some dx =>
    rw [ex] at z1
    exact hd r1.sub (r1.opd hx ex) z1 fun v d F' H' g dv q => kk v d M1 F' H' (s1.trans g.f) (r1.grow g) dv q

/-! ### the operators' rules -/
theorem OpR.or {f : Value → Value → Sem Value} {r r' : R2} (h : OpR X f r) (h' : OpR X f r') : OpR X f (fun x y H Q => r x y H Q ∨ r' x y H Q) :=
  fun pins s σ H x y v u Q I rx ry q => q.elim (h pins s σ H x y v u Q I rx ry) (h' pins s σ H x y v u Q I rx ry)
abbrev S (l : List Nat) : Str := SX.S l
theorem S_app (a b : Str) : a ++ b = S (a.cps.toList ++ b.cps.toList) := by
  show Str.append a b = _
  unfold Str.append
  have : a.cps ++ b.cps = (a.cps.toList ++ b.cps.toList).toArray := by simp
  rw [this]
def fAdd : DF2 := fun x y Q => match x, y with
  | .int i, .int j => Q (.int (i + j))
  | .str a, .str b => a.cps.toList.length + b.cps.toList.length ≤ sizeLine ∧ Q (.str (S (a.cps.toList ++ b.cps.toList)))
  | .list a, .list b => a.length + b.length ≤ sizeLine ∧ Q (.list (a ++ b))
  | .tuple a, .tuple b => a.length + b.length ≤ sizeLine ∧ Q (.tuple (a ++ b))
  | _, _ => False
theorem strLen (x : Str) : x.length = x.cps.toList.length := by simp [Str.length]
abbrev rStr2 (C : Str → Str → Prop) (g : Str → Str → V) : R2 := fun x y H Q => ∃ i j, x = .str i ∧ y = .str j ∧ C i j ∧ Q (g i j) H
abbrev rAdd (K : PySem.W.Frag) : R2 := fun x y H Q => ((rI0 fun i j => .int (i + j)) x y H Q ∨ rStr2 (fun i j => i.length + j.length ≤ sizeLine) (fun i j => .str (i ++ j)) x y H Q) ∨ (rCat x y H Q ∨ rCatA K x y H Q)
theorem hAdd : OpR X (binaryOp .Add) (rAdd X.K) := (op_add.or op_add_str).or (op_cat.or op_catA)
theorem dAdd {K : PySem.W.Frag} : DOp K (rAdd K) fAdd := by
  intro F H vx vy dx dy Qd k s hx hy h kk
  unfold fAdd at h
  split at h
  · rename_i i j
    rw [hx.int, hy.int]
    exact .inl (.inl ⟨i, j, rfl, rfl, kk _ _ _ _ (.refl s) (.int _) h⟩)
  · rename_i i j
    rw [hx.str, hy.str]
    refine .inl (.inr ⟨i, j, rfl, rfl, by show i.length + j.length ≤ _; rw [strLen, strLen]; exact h.1, ?_⟩)
    show k (.str (i ++ j)) H
    rw [S_app]
    exact kk _ _ _ _ (.refl s) (.str _) h.2
  · rename_i i j
    obtain ⟨p, vs, rfl, a1, a2⟩ := hx.list s
    obtain ⟨q, ws, rfl, b1, b2⟩ := hy.list s
    refine .inr (.inl ⟨p, q, vs, ws, rfl, rfl, a1, b1, by rw [a2.len, b2.len]; exact h.1, fun l hl => ?_⟩)
    have g := Grow.newF (o := .lst (vs ++ ws)) s hl
    exact kk _ _ _ _ g (.lst upd_same ((a2.app b2).same g.f)) h.2
  · rename_i i j
    obtain ⟨p, vs, rfl, a1, a2⟩ := hx.tup s
    obtain ⟨q, ws, rfl, b1, b2⟩ := hy.tup s
    have frz : ∀ {v : V} {x : List PyData}, View K F H v (.tuple x) → DV K F v (.tuple x) := fun z => by
      rcases z with z | ⟨_, _, z⟩
      · exact z
      · cases z
    refine .inr (.inr ⟨p, q, vs, ws, rfl, rfl, a1, b1, by rw [a2.len, b2.len]; exact h.1, fun e => ?_, fun _ e => ?_, fun _ _ l hl => ?_⟩)
    · subst e
      cases a2
      exact kk _ _ _ _ (.refl s) (frz hy) h.2
    · subst e
      cases b2
      exact kk _ _ _ _ (.refl s) (by rw [List.append_nil]; exact frz hx) h.2
    · have g := Grow.newF (o := .tup (vs ++ ws)) s hl
      exact kk _ _ _ _ g (.tup upd_same ((a2.app b2).same g.f)) h.2
  · exact h.elim
end
end DL

/-! DL2: operators over plain data. -/
namespace DL
open PySem PySem.Spec L2 PyProof.Rows
section
variable {X : Cx} {R : XP} {K : PySem.W.Frag}

def fII (C : Int → Int → Prop) (g : Int → Int → PyData) : DF2 := fun x y Q => match x, y with
  | .int i, .int j => C i j ∧ Q (g i j)
  | _, _ => False
def fII0 (g : Int → Int → PyData) : DF2 := fun x y Q => match x, y with
  | .int i, .int j => Q (g i j)
  | _, _ => False
theorem dII {C C' : Int → Int → Prop} {g : Int → Int → Int} {g' : Int → Int → Int} (hc : ∀ i j, C' i j → C i j ∧ g i j = g' i j) : DOp K (rI C fun i j => .int (g i j)) (fII C' fun i j => .int (g' i j)) := by
  intro F H vx vy dx dy Qd k s hx hy h kk
  unfold fII at h
  split at h
  · rename_i i j
    rw [hx.int, hy.int]
    obtain ⟨h1, h2⟩ := hc i j h.1
    exact ⟨i, j, rfl, rfl, h1, by show k (.int (g i j)) H; rw [h2]; exact kk _ _ _ _ (.refl s) (.int _) h.2⟩
  · exact h.elim
theorem dII0 {g : Int → Int → Int} : DOp K (rI0 fun i j => .int (g i j)) (fII0 fun i j => .int (g i j)) := by
  intro F H vx vy dx dy Qd k s hx hy h kk
  unfold fII0 at h
  split at h
  · rename_i i j
    rw [hx.int, hy.int]
    exact ⟨i, j, rfl, rfl, kk _ _ _ _ (.refl s) (.int _) h⟩
  · exact h.elim
theorem dIB0 {g : Int → Int → Bool} : DOp K (rI0 fun i j => .bl (g i j)) (fII0 fun i j => .bool (g i j)) := by
  intro F H vx vy dx dy Qd k s hx hy h kk
  unfold fII0 at h
  split at h
  · rename_i i j
    rw [hx.int, hy.int]
    exact ⟨i, j, rfl, rfl, kk _ _ _ _ (.refl s) (.bl _) h⟩
  · exact h.elim
abbrev fSub : DF2 := fII0 fun i j => .int (i - j)
theorem dSub : DOp K (rI0 fun i j => .int (i - j)) fSub := dII0
/-- // by a positive number -/
abbrev fDiv : DF2 := fII CDivW fun i j => .int (i / j)
theorem dDiv : DOp K (rI CDivW fun i j => .int (i / j)) fDiv := dII fun _ _ h => ⟨h, rfl⟩
/-- % by a positive number -/
abbrev fMod : DF2 := fII (fun _ j => 0 < j) fun i j => .int (i % j)
theorem dMod : DOp K (rI (fun _ j => j ≠ 0) fun i j => .int (i.fmod j)) fMod := dII fun i j h => ⟨by omega, Int.fmod_eq_emod_of_nonneg i (by omega)⟩
abbrev fPow : DF2 := fII CPow fun i j => .int (i ^ j.toNat)
theorem dPow : DOp K (rI CPow fun i j => .int (i ^ j.toNat)) fPow := dII fun _ _ h => ⟨h, rfl⟩
def fLt : DF2 := fun x y Q => match x, y with
  | .int i, .int j => Q (.bool (decide (i < j)))
  | .str i, .str j => Q (.bool (decide (i.cps.toList < j.cps.toList)))
  | _, _ => False
abbrev rLtIS : R2 := fun x y H Q => (rI0 fun i j => .bl (decide (i < j))) x y H Q ∨ (∃ i j, x = .str i ∧ y = .str j ∧ Q (.bl (decide (i.cps.toList < j.cps.toList))) H)
theorem hLt : OpR X (compareOp .Lt) rLtIS := op_lt.or op_lt_str
theorem dLt : DOp K rLtIS fLt := by
  intro F H vx vy dx dy Qd k s hx hy h kk
  unfold fLt at h
  split at h
  · rename_i i j
    rw [hx.int, hy.int]
    exact .inl ⟨i, j, rfl, rfl, kk _ _ _ _ (.refl s) (.bl _) h⟩
  · rename_i i j
    rw [hx.str, hy.str]
    exact .inr ⟨i, j, rfl, rfl, kk _ _ _ _ (.refl s) (.bl _) h⟩
  · exact h.elim
def fGt : DF2 := fun x y Q => match x, y with
  | .int i, .int j => Q (.bool (decide (j < i)))
  | _, _ => False
theorem dGt : DOp K (rI0 fun i j => .bl (decide (j < i))) fGt := dIB0
abbrev fLe : DF2 := fII0 fun i j => .bool (decide (i ≤ j))
theorem dLe : DOp K (rI0 fun i j => .bl (decide (i ≤ j))) fLe := dIB0
abbrev fGe : DF2 := fII0 fun i j => .bool (decide (j ≤ i))
theorem dGe : DOp K (rI0 fun i j => .bl (decide (j ≤ i))) fGe := dIB0
def fNeg : DF1 := fun x Q => match x with
  | .int i => Q (.int (-i))
  | _ => False
theorem dNeg : DUn K (rU fun i => .int (-i)) fNeg := by
  intro F H vx dx Qd k s hx h kk
  unfold fNeg at h
  split at h
  · rename_i i
    rw [hx.int]
    exact ⟨i, rfl, kk _ _ _ _ (.refl s) (.int _) h⟩
  · exact h.elim

/-! == and != -/
def eqQ (x y : PyData) (Q : Bool → Prop) : Prop := match x, y with
  | .int i, .int j => Q (decide (i = j))
  | .str i, .str j => Q (decide (i = j))
  | .bool i, .bool j => Q (decide (i = j))
  | .none, .none => Q true
  | .none, .int _ => Q false
  | .int _, .none => Q false
  | .none, .str _ => Q false
  | .str _, .none => Q false
  | .none, .bool _ => Q false
  | .bool _, .none => Q false
  | .int _, .str _ => Q false
  | .str _, .int _ => Q false
  | .bool _, .str _ => Q false
  | .str _, .bool _ => Q false
  | x, y => (flat x = true ∧ flat y = true ∧ SeqAt.shaped x = true ∧ SeqAt.shaped y = true) ∧ Q (PyData.eqv x y)
def fEq : DF2 := fun x y Q => eqQ x y fun b => Q (.bool b)
def fNe : DF2 := fun x y Q => eqQ x y fun b => Q (.bool (!b))
abbrev rEq2 (K : PySem.W.Frag) : R2 := fun x y H Q => rEq x y H Q ∨ rEqD K x y H Q
abbrev rNe2 (K : PySem.W.Frag) : R2 := fun x y H Q => rNe x y H Q ∨ rNeD K x y H Q
theorem hEq (hu : X.A.units + 64 < cLine) : OpR X (compareOp .Eq) (rEq2 X.K) := op_eq.or (op_eqD hu)
theorem hNe (hu : X.A.units + 64 < cLine) : OpR X (compareOp .NotEq) (rNe2 X.K) := op_ne.or (op_neD hu)
theorem dec_eq {a b : V} {c : Bool} (h : (a = b) ↔ c = true) : decide (a = b) = c := by
  cases c with
  | true => exact decide_eq_true (h.mpr rfl)
  | false => exact decide_eq_false fun e => by have := h.mp e; cases this
theorem eqQ_run {F H : Hp} {vx vy : V} {dx dy : PyData} {Q : Bool → Prop} (s : Same F H) (hx : View K F H vx dx) (hy : View K F H vy dy) (h : eqQ dx dy Q) :
    (scal vx vy = true ∧ Q (decide (vx = vy))) ∨ (∃ d e, Dp K H vx d ∧ Dp K H vy e ∧ SeqAt.shaped d = true ∧ SeqAt.shaped e = true ∧ Q (PyData.eqv d e)) := by
  unfold eqQ at h
  split at h
  · rename_i i j
    rw [hx.int, hy.int]
    exact .inl ⟨rfl, by rw [show decide (V.int i = V.int j) = decide (i = j) from dec_eq (by simp)]; exact h⟩
  · rename_i i j
    rw [hx.str, hy.str]
    exact .inl ⟨rfl, by rw [show decide (V.str i = V.str j) = decide (i = j) from dec_eq (by simp)]; exact h⟩
  · rename_i i j
    rw [hx.bl, hy.bl]
    exact .inl ⟨rfl, by rw [show decide (V.bl i = V.bl j) = decide (i = j) from dec_eq (by simp)]; exact h⟩
  · rw [hx.non, hy.non]; exact .inl ⟨rfl, h⟩
  · rw [hx.non, hy.int]; exact .inl ⟨rfl, h⟩
  · rw [hx.int, hy.non]; exact .inl ⟨rfl, h⟩
  · rw [hx.non, hy.str]; exact .inl ⟨rfl, h⟩
  · rw [hx.str, hy.non]; exact .inl ⟨rfl, h⟩
  · rw [hx.non, hy.bl]; exact .inl ⟨rfl, h⟩
  · rw [hx.bl, hy.non]; exact .inl ⟨rfl, h⟩
  · rw [hx.int, hy.str]; exact .inl ⟨rfl, h⟩
  · rw [hx.str, hy.int]; exact .inl ⟨rfl, h⟩
  · rw [hx.bl, hy.str]; exact .inl ⟨rfl, h⟩
  · rw [hx.str, hy.bl]; exact .inl ⟨rfl, h⟩
  · exact .inr ⟨_, _, hx.dp s h.1.1, hy.dp s h.1.2.1, h.1.2.2.1, h.1.2.2.2, h.2⟩
theorem dEq : DOp K (rEq2 K) fEq := by
  intro F H vx vy dx dy Qd k s hx hy h kk
  refine (eqQ_run (Q := fun b => k (.bl b) H) s hx hy ?_).imp id id
  unfold fEq eqQ at h
  unfold eqQ
  split at h <;> first | exact kk _ _ _ _ (.refl s) (.bl _) h | exact ⟨h.1, kk _ _ _ _ (.refl s) (.bl _) h.2⟩
theorem dNe : DOp K (rNe2 K) fNe := by
  intro F H vx vy dx dy Qd k s hx hy h kk
  refine (eqQ_run (Q := fun b => k (.bl (!b)) H) s hx hy ?_).imp id id
  unfold fNe eqQ at h
  unfold eqQ
  split at h <;> first | exact kk _ _ _ _ (.refl s) (.bl _) h | exact ⟨h.1, kk _ _ _ _ (.refl s) (.bl _) h.2⟩

/-! is None -/
def isNone : PyData → Bool
  | .none => true
  | _ => false
theorem View.isN {F H : Hp} {v : V} {d : PyData} (h : View K F H v d) : decide (v = .non) = isNone d := by
  rcases h with h | ⟨p, rfl, h⟩
  · cases h <;> first | rfl | exact decide_eq_false (fun e => nomatch e)
  · cases h <;> rfl
abbrev rIsNo : R2 := fun x y H Q => y = .non ∧ Q (.bl (decide (x = .non))) H
abbrev rNotNo : R2 := fun x y H Q => y = .non ∧ Q (.bl (!decide (x = .non))) H
def fIsN : DF2 := fun x y Q => isNone y = true ∧ Q (.bool (isNone x))
def fNotN : DF2 := fun x y Q => isNone y = true ∧ Q (.bool (!isNone x))
theorem dIsN : DOp K rIsNo fIsN := by
  intro F H vx vy dx dy Qd k s hx hy h kk
  have e : vy = .non := of_decide_eq_true (hy.isN.trans h.1)
  exact ⟨e, by rw [hx.isN]; exact kk _ _ _ _ (.refl s) (.bl _) h.2⟩
theorem dNotN : DOp K rNotNo fNotN := by
  intro F H vx vy dx dy Qd k s hx hy h kk
  have e : vy = .non := of_decide_eq_true (hy.isN.trans h.1)
  exact ⟨e, by rw [hx.isN]; exact kk _ _ _ _ (.refl s) (.bl _) h.2⟩

/-! * -/
theorem op_mulS : OpR X (binaryOp .Mult) (fun x y H Q => ∃ (i : Str) (j : Int), x = .str i ∧ y = .int j ∧ MulOk i j ∧ Q (.str (Txt.mul i j)) H) := by
  intro pins s σ H x y v u Q I rx ry h
  obtain ⟨i, j, rfl, rfl, hz, q⟩ := h
  obtain ⟨t, rfl⟩ := rx
  obtain ⟨t', rfl⟩ := ry
  exact SB.mul hz fun t' k => ⟨.str _, H, I.tok _, ⟨_, rfl⟩, q⟩
def repL {α : Type} (n : Nat) (l : List α) : List α := (List.replicate n l).flatten
theorem foldApp (x : Array Nat) : ∀ (n : Nat) (a : Array Nat), ((List.replicate n x).foldl (· ++ ·) a).toList = a.toList ++ repL n x.toList
  | 0, a => by simp [repL]
  | n + 1, a => by
    rw [List.replicate_succ, List.foldl_cons, foldApp x n]
    simp [repL, List.replicate_succ]
theorem mulText (x : Str) (n : Int) : Txt.mul x n = S (repL n.toNat x.cps.toList) := by
  unfold Txt.mul
  have key : ∀ y : Str, y.cps.toList = repL n.toNat x.cps.toList → y = S (repL n.toNat x.cps.toList) := fun y e => by
    rw [← e]
  split
  · rename_i h
    have : n.toNat = 0 := by omega
    rw [this]
    rfl
  · split
    · rename_i h h2
      apply key
      rcases Bool.or_eq_true _ _ ▸ h2 with h3 | h3
      · have : n = 1 := by simpa using h3
        subst this
        simp [repL]
      · have : x.cps.toList = [] := by
          have h4 : x.cps.size = 0 := by simpa [Str.length] using h3
          exact List.eq_nil_of_length_eq_zero (by simpa using h4)
        rw [this]
        simp [repL]
    · apply key
      rw [foldApp]
      simp
theorem mulOk_of {x : Str} {n : Int} (h1 : n < 2 ^ 62) (h0 : -(2 ^ 62) < n) (h2 : x.cps.toList.length * n.toNat ≤ sizeLine) : MulOk x n := by
  refine ⟨by simp; omega, fun a b => ?_, fun a b => ?_⟩
  · intro c
    have hn : 0 < n := by omega
    have := Int.lt_ediv_add_one_mul_self (2 ^ 63 - 1) hn
    have e : (x.length : Int) * n ≤ sizeLine := by
      have : ((x.cps.toList.length * n.toNat : Nat) : Int) ≤ sizeLine := by exact_mod_cast h2
      rw [strLen]
      push_cast at this
      rw [Int.toNat_of_nonneg (by omega)] at this
      exact this
    have hs : (sizeLine : Int) = 16777216 := by rw [sizeLine_eq]; rfl
    have h3 : ((2 ^ 63 - 1) / n + 1) * n ≤ (x.length : Int) * n := Int.mul_le_mul_of_nonneg_right (by omega) (by omega)
    omega
  · have e : decide (x.length * n.toNat > sizeLine) = false := decide_eq_false (by rw [strLen]; omega)
    exact e
def fMul : DF2 := fun x y Q => match x, y with
  | .int i, .int j => CMul i j ∧ Q (.int (i * j))
  | .str i, .int j => (j < 2 ^ 62 ∧ -(2 ^ 62) < j ∧ i.cps.toList.length * j.toNat ≤ sizeLine) ∧ Q (.str (S (repL j.toNat i.cps.toList)))
  | .list i, .int j => (j < 2 ^ 62 ∧ -(2 ^ 62) < j ∧ i.length * j.toNat ≤ sizeLine) ∧ Q (.list (repL j.toNat i))
  | _, _ => False
abbrev rMul : R2 := fun x y H Q => (rI CMul fun i j => .int (i * j)) x y H Q ∨ ((∃ (i : Str) (j : Int), x = .str i ∧ y = .int j ∧ MulOk i j ∧ Q (.str (Txt.mul i j)) H) ∨ rRep x y H Q)
theorem hMul : OpR X (binaryOp .Mult) rMul := op_mul.or (op_mulS.or op_rep)
theorem DVs.rep {F : Hp} {vs : List V} {ds : List PyData} (h : DVs K F vs ds) : ∀ n : Nat, DVs K F (List.replicate n vs).flatten (repL n ds)
  | 0 => .nil
  | n + 1 => by
    rw [repL, List.replicate_succ, List.replicate_succ, List.flatten_cons, List.flatten_cons]
    exact h.app (DVs.rep h n)
theorem dMul : DOp K rMul fMul := by
  intro F H vx vy dx dy Qd k s hx hy h kk
  unfold fMul at h
  split at h
  · rename_i i j
    rw [hx.int, hy.int]
    exact .inl ⟨i, j, rfl, rfl, h.1, kk _ _ _ _ (.refl s) (.int _) h.2⟩
  · rename_i i j
    rw [hx.str, hy.int]
    exact .inr (.inl ⟨i, j, rfl, rfl, mulOk_of h.1.1 h.1.2.1 h.1.2.2, by rw [mulText]; exact kk _ _ _ _ (.refl s) (.str _) h.2⟩)
  · rename_i i j
    obtain ⟨p, vs, rfl, a1, a2⟩ := hx.list s
    rw [hy.int]
    refine .inr (.inr ⟨p, j, vs, rfl, rfl, a1, by have := h.1.2.1; omega, by have := h.1.1; omega, by rw [a2.len]; exact h.1.2.2, fun l hl => ?_⟩)
    have g := Grow.newF (o := .lst (List.replicate j.toNat vs).flatten) s hl
    exact kk _ _ _ _ g (.lst upd_same ((a2.rep j.toNat).same g.f)) h.2
  · exact h.elim

/-! in -/
theorem flatV_of {F H : Hp} {v : V} {d : PyData} (h : View K F H v d) (hs : match d with | .none | .bool _ | .int _ | .str _ => True | _ => False) : flatV v = true := by
  rcases h with h | ⟨p, rfl, h⟩
  · cases h <;> first | rfl | exact hs.elim
  · cases h <;> exact hs.elim
/-- a sign in a text -/
def fInC : DF2 := fun x y Q => match x, y with
  | .str i, .str j => match i.cps.toList with
    | [c] => Q (.bool (decide (c ∈ j.cps.toList)))
    | _ => False
  | _, _ => False
def fNotInC : DF2 := fun x y Q => match x, y with
  | .str i, .str j => match i.cps.toList with
    | [c] => Q (.bool (!decide (c ∈ j.cps.toList)))
    | _ => False
  | _, _ => False
abbrev rInC : R2 := fun x y H Q => ∃ (c : Nat) (z : Str), x = .str ⟨#[c]⟩ ∧ y = .str z ∧ Q (.bl (decide (c ∈ z.cps.toList))) H
abbrev rNotInC : R2 := fun x y H Q => ∃ (c : Nat) (z : Str), x = .str ⟨#[c]⟩ ∧ y = .str z ∧ Q (.bl (!decide (c ∈ z.cps.toList))) H
theorem one_sign {i : Str} {c : Nat} (h : i.cps.toList = [c]) : i = ⟨#[c]⟩ := by
  rw [← SX.S_tl i, h]
theorem dInC : DOp K rInC fInC := by
  intro F H vx vy dx dy Qd k s hx hy h kk
  unfold fInC at h
  split at h
  · rename_i i j
    split at h
    · rename_i c e
      rw [hx.str, hy.str, one_sign e]
      exact ⟨c, j, rfl, rfl, kk _ _ _ _ (.refl s) (.bl _) h⟩
    · exact h.elim
  · exact h.elim
theorem dNotInC : DOp K rNotInC fNotInC := by
  intro F H vx vy dx dy Qd k s hx hy h kk
  unfold fNotInC at h
  split at h
  · rename_i i j
    split at h
    · rename_i c e
      rw [hx.str, hy.str, one_sign e]
      exact ⟨c, j, rfl, rfl, kk _ _ _ _ (.refl s) (.bl _) h⟩
    · exact h.elim
  · exact h.elim
end
end DL

/-! DL3: subscripts, slices, displays, tests, arguments, calls. -/
namespace DL
open PySem PySem.Spec L2 PyProof.Rows
section
variable {X : Cx} {R : XP} {K : PySem.W.Frag} {e a b c : Expr} {es : List Expr} {pos : Pos} {wa wb wc : WE} {oa ob oc : WO} {ta tb : WT}

/-! e[i] -/
theorem DVs.atI {F : Hp} {vs : List V} {ds : List PyData} {i : Int} {d : PyData} (h : DVs K F vs ds) (e : atI ds i = some d) : ∃ v, L2.atI vs i = some v ∧ DV K F v d := by
  unfold L2.atI at *
  rw [h.len]
  cases z : ixN ds.length i with
  | none => rw [z] at e; cases e
  | some j =>
    rw [z] at e
    exact h.get e
def fIx : DF2 := fun x y Q => match x, y with
  | .list ds, .int i => match atI ds i with
    | some d => Q d
    | none => False
  | .tuple ds, .int i => match atI ds i with
    | some d => Q d
    | none => False
  | .str s, .int i => s.cps.toList.length ≤ sizeLine ∧ match atI s.cps.toList i with
    | some c => Q (.str (S [c]))
    | none => False
  | _, _ => False
theorem dIx : DOp K (rIx K) fIx := by
  intro F H vx vy dx dy Qd k s hx hy h kk
  unfold fIx at h
  split at h
  · rename_i ds i
    split at h
    · rename_i d e
      obtain ⟨p, vs, rfl, a1, a2⟩ := hx.list s
      obtain ⟨v, h1, h2⟩ := a2.atI e
      rw [hy.int]
      exact .inl ⟨p, vs, i, v, rfl, rfl, SqL.of a1, h1, kk _ _ _ _ (.refl s) h2 h⟩
    · exact h.elim
  · rename_i ds i
    split at h
    · rename_i d e
      obtain ⟨p, vs, rfl, a1, a2⟩ := hx.tup s
      obtain ⟨v, h1, h2⟩ := a2.atI e
      rw [hy.int]
      exact .inr (.inl ⟨p, vs, i, v, rfl, rfl, a1, h1, kk _ _ _ _ (.refl s) h2 h⟩)
    · exact h.elim
  · rename_i z i
    obtain ⟨hz, h⟩ := h
    split at h
    · rename_i d e
      rw [hy.int, hx.str]
      exact .inr (.inr ⟨z, i, d, rfl, rfl, by rw [strLen]; exact hz, e, kk _ _ _ _ (.refl s) (.str _) h⟩)
    · exact h.elim
  · exact h.elim
theorem dE_ix (ha : DO X R a oa) (hb : DO X R b ob) (hs : PlainIx b := by exact fun _ _ => rfl) : DE X R (.Subscript a b pos) (wOp fIx oa ob) := by
  obtain ⟨t1, p1, q1⟩ := ha.ex
  obtain ⟨t2, p2, q2⟩ := hb.ex
  refine ⟨_, pe_ix ix_seq p1 p2 hs, fun r l hw kk => ?_⟩
  refine q1 r l hw fun vx x M1 F1 H1 s1 r1 hx z1 => q2 r1 l z1 fun vy y M2 F2 H2 s2 r2 hy z2 => ?_
  exact app2_run dIx r2 (hx.same s2) hy z2 fun v d M' F' H' s => kk v d M' F' H' (s1.trans (s2.trans s))

/-! e[i:j] -/
def cut {α : Type} (l : List α) (lo hi : Option Int) : List α := (l.drop (HT.sIx l.length 0 lo)).take (HT.sIx l.length l.length hi - HT.sIx l.length 0 lo)
abbrev WP := Xn → Mem → (Option Int → Mem → Prop) → Prop
structure DP (X : Cx) (R : XP) (e : Option Expr) (w : WP) : Prop where
  ex : ∃ t : TO, PO X e t ∧ ∀ {F0 H0 F H : Hp} {W : Option (Addr × Addr)} {M : Mem} {σ : List (Option V)} {xn : Xn} {Q : Option Int → Mem → Prop} {k : Option Int → Hp → Prop}, Rel X.K F0 H0 W M σ F H → Lnk X.K R F0 H0 W xn → w xn M Q →
    (∀ o M' F' H', Same F F' → Rel X.K F0 H0 W M' σ F' H' → Q o M' → k o H') → t σ H k
theorem dP_n : DP X R none (fun _ M Q => Q none M) := ⟨_, po_none, fun r _ hw kk => kk _ _ _ _ (.refl _) r hw⟩
def wPart (oa : WO) : WP := fun xn M Q => oa xn M fun x M1 => match x.get M1 with
  | some (.int i) => Q (some i) M1
  | _ => False
theorem dP_s (h : DO X R a oa) : DP X R (some a) (wPart oa) := by
  obtain ⟨t1, p1, q1⟩ := h.ex
  refine ⟨_, po_some p1, fun r l hw kk => q1 r l hw fun v x M1 F1 H1 s1 r1 hx z => ?_⟩
  split at z
  · rename_i i e
    exact ⟨i, (r1.opd hx e).int, kk _ _ _ _ s1 r1 z⟩
  · exact z.elim
abbrev rSl (K : PySem.W.Frag) : V → Option Int → Option Int → Hp → VK → Prop := fun x lo hi H Q => rSlL K x lo hi H Q ∨ (rSlA K x lo hi H Q ∨ rSlS x lo hi H Q)
theorem slAll : SlR X (rSl X.K) := sl_list.or (sl_tupA.or sl_str)
def fSl (x : PyData) (lo hi : Option Int) (Q : PyData → Prop) : Prop := match x with
  | .list ds => Q (.list (cut ds lo hi))
  | .tuple ds => Q (.tuple (cut ds lo hi))
  | .str s => s.cps.toList.length ≤ sizeLine ∧ Q (.str (S (cut s.cps.toList lo hi)))
  | _ => False
def wSl (oa : WO) (pl ph : WP) : WE := fun xn M Q => oa xn M fun x M1 => pl xn M1 fun lo M2 => ph xn M2 fun hi M3 => match x.get M3 with
  | some d => fSl d lo hi fun r => Q r M3
  | none => False
theorem View.frzT {F H : Hp} {v : V} {x : List PyData} (z : View K F H v (.tuple x)) : DV K F v (.tuple x) := by
  rcases z with z | ⟨_, _, z⟩
  · exact z
  · cases z
theorem cut_whole {α : Type} {l : List α} {lo hi : Option Int} (h : HT.sIx l.length 0 lo = 0 ∧ HT.sIx l.length l.length hi = l.length) : cut l lo hi = l := by
  unfold cut
  rw [h.1, h.2, List.drop_zero, Nat.sub_zero, List.take_length]
theorem dE_sl {lo hi : Option Expr} {pl ph : WP} {p2 : Pos} (ha : DO X R a oa) (hl : DP X R lo pl) (hh : DP X R hi ph) : DE X R (.Subscript a (.Slice lo hi none p2) pos) (wSl oa pl ph) := by
  obtain ⟨t1, p1, q1⟩ := ha.ex
  obtain ⟨t2, p2', q2⟩ := hl.ex
  obtain ⟨t3, p3, q3⟩ := hh.ex
  refine ⟨_, pe_slice slAll p1 p2' p3, fun r l hw kk => ?_⟩
  refine q1 r l hw fun vx x M1 F1 H1 s1 r1 hx z1 => q2 r1 l z1 fun lo M2 F2 H2 s2 r2 z2 => q3 r2 l z2 fun hi M3 F3 H3 s3 r3 z3 => ?_
  have ss := s1.trans (s2.trans s3)
  split at z3
  · rename_i d e
    have hv := r3.opd ((hx.same s2).same s3) e
    unfold fSl at z3
    split at z3
    · obtain ⟨p, vs, rfl, a1, a2⟩ := hv.list r3.sub
      refine .inl ⟨p, vs, rfl, SqL.of a1, fun q hq => ?_⟩
      have g := Grow.newF (o := .lst (cutV vs lo hi)) r3.sub hq
      refine kk _ _ _ _ _ (ss.trans g.f) (r3.grow g) (.lst upd_same ?_) z3
      refine DVs.same g.f ?_
      unfold cutV cut
      rw [a2.len]
      exact (a2.drop _).take _
    · obtain ⟨p, vs, rfl, a1, a2⟩ := hv.tup r3.sub
      refine .inr (.inl ⟨p, vs, rfl, a1, fun w => ?_, fun _ q hq => ?_⟩)
      · rw [a2.len] at w
        rw [cut_whole w] at z3
        exact kk _ _ _ _ _ ss r3 hv.frzT z3
      · have g := Grow.newF (o := .tup (cutV vs lo hi)) r3.sub hq
        refine kk _ _ _ _ _ (ss.trans g.f) (r3.grow g) (.tup upd_same ?_) z3
        refine DVs.same g.f ?_
        unfold cutV cut
        rw [a2.len]
        exact (a2.drop _).take _
    · rename_i z
      rw [hv.str]
      refine .inr (.inr ⟨z, rfl, by rw [strLen]; exact z3.1, kk _ _ _ _ _ ss r3 ?_ z3.2⟩)
      have : cutS z lo hi = S (cut z.cps.toList lo hi) := by
        unfold cutS cut
        rw [strLen]
      rw [this]
      exact .str _
    · exact z3.elim
  · exact z3.elim

/-! e[::-1] -/
abbrev rRev (K : PySem.W.Frag) (x : V) (H : Hp) (Q : VK) : Prop := (∃ a xs, x = .ref a ∧ SqL K H a xs ∧ ∀ p, H p = none → Q (.ref p) (upd H p (.lst xs.reverse))) ∨ (∃ z : Str, x = .str z ∧ z.length ≤ sizeLine ∧ Q (.str (S z.cps.toList.reverse)) H)
theorem rev_str (z : Str) : ((Builtin.Str.strSliceIndices none none (-1) z.length).filterMap (z.cps[·]?)) = z.cps.toList.reverse := by
  have e : Builtin.Str.strSliceIndices none none (-1) z.length = sliceRange ((z.length : Int) - 1) (-1) (-1) := by
    unfold Builtin.Str.strSliceIndices
    simp
  rw [e, PySem.W.krv_sliceRange, PySem.W.krv_range, List.filterMap_reverse]
  show (List.filterMap (fun x => z.cps[x]?) (List.range z.cps.size)).reverse = _
  rw [PySem.W.krv_all]
theorem rev_get {pins : List (Addr × Obj)} {s : Shared} {σ : List (Option V)} {H : Hp} {x : V} {v vs : Value} {sl : Addr} {Q : VK} (I : Inv X pins σ H s) (rx : RelV x v) (hs : s.heap.IsSliceOf sl .none .none vs) (ps : IsPart vs (some (-1))) (h : rRev X.K x H Q) :
    ∃ T id, typeLookup (.type T) "__getitem__" = pure (some (.builtin id)) ∧ s.TypeIs v T ∧ wpAny (model X.prog X.w) X.A (getItem v (.ref sl)) (EP X pins σ Q) X.xe s := by
  rcases h with ⟨a, xs, rfl, hx, q⟩ | ⟨z, rfl, hz, q⟩
  · cases rx
    obtain ⟨its, r, ht, hz⟩ := I.list hx
    have hlen := r.length
    refine ⟨"list", _, slot_list_getitem.lookup, ht.isList.typeIs, ?_⟩
    refine wpAny_getItem_list_slice ht.isList hs .none .none ps (by simp) ?_ (by rw [List.size_toArray] <;> omega)
    rw [PySem.W.krv_pick]
    have rr : Vals xs.reverse its.reverse := by
      have go : ∀ {a : List V} {b : List Value}, Vals a b → Vals a.reverse b.reverse := by
        intro a b h
        induction h with
        | nil => exact .nil
        | cons r t ih => rw [List.reverse_cons, List.reverse_cons]; exact ih.append (.cons r .nil)
      exact go r
    refine ⟨.ref s.heap.objs.size, _, I.laid (t' := s.toks) (o := .lst xs.reverse) (fun b ob q => Heap.get?_push_of_some _ q) (Nat.le_refl _) ?_, rfl, q _ (I.hok.fresh (Nat.le_refl _))⟩
    exact ⟨by rw [List.length_reverse]; exact hz, its.reverse, 0, rr, Heap.get?_push_size _ rfl⟩
  · obtain ⟨t, rfl⟩ := rx
    obtain ⟨st, rfl, e1⟩ := IsPart.raw ps
    obtain ⟨os, hos, hcs, hds⟩ := hs
    have e2 : (st.map (·.1)).getD 1 = -1 := by rw [e1]; rfl
    refine ⟨"str", _, F.slot_str_getitem.lookup, typeIs_str _ _ _, ?_⟩
    refine wpAny_getItem_str_slice (l := none) (u := none) (st := st) ⟨os, hos, hcs, hds⟩ (by rw [e2]; rfl) ?_
    unfold sliceMade slicePicked
    rw [e2, if_neg (by simp)]
    show Made.post (Made.str ⟨((Builtin.Str.strSliceIndices none none (-1) z.length).filterMap (z.cps[·]?)).toArray⟩) (EP X pins σ Q) s
    rw [rev_str]
    refine ⟨?_, .str _, H, I.tok _, ⟨_, rfl⟩, q⟩
    show (S z.cps.toList.reverse).length ≤ sizeLine
    rw [SX.S_len, List.length_reverse, ← strLen]
    exact hz
theorem pe_rev {te : TE} {p2 p3 p4 : Pos} {j : Nat} (he : PE X e te) : PE X (.Subscript e (.Slice none none (some (.UnaryOp .USub (.Constant (.int 1) j p4) p3)) p2) pos) (fun σ H Q => te σ H fun x H1 => rRev X.K x H1 Q) := by
  refine ⟨fun pins s σ H Q I h => ?_⟩
  refine Subscript_ (thn (he.run pins s σ H _ I h) fun v s1 ⟨x, H1, I1, r1, q1⟩ => ?_)
  refine wpAny_Slice ?_
  rw [evalPart_none]
  refine wpAny_pure ?_
  refine wpAny_pure ?_
  refine thn ((po_some (pe_un un_neg pe_int)).run pins s1 σ H1 (fun o H2 => o = some (-1) ∧ rRev X.K x H2 Q) I1 ?_) fun vs s3 ⟨o, H3, I3, ps, e3, q3⟩ => ?_
  · exact ⟨1, rfl, -1, rfl, rfl, q1⟩
  subst e3
  have I4 : Inv X pins σ H3 { s3 with heap := s3.heap.push { cls := .type "slice", data := .fields #[.none, .none, vs] } } := I3.kept (t' := s3.toks) fun b ob q => Heap.get?_push_of_some _ q
  obtain ⟨T, id, hT, ht, hg⟩ := rev_get I4 r1 (Heap.IsSliceOf.new s3.heap .none .none vs) ps q3
  show wpAny (model X.prog X.w) X.A (subscriptTail e (.Slice none none (some (.UnaryOp .USub (.Constant (.int 1) j p4) p3)) p2) v (.ref s3.heap.objs.size)) (EP X pins σ Q) X.xe { s3 with heap := s3.heap.push { cls := .type "slice", data := .fields #[.none, .none, vs] } }
  exact tail_any (ops := [v, .ref s3.heap.objs.size]) ht hT hg (by with_unfolding_all rfl)
def wRev (oa : WO) : WE := fun xn M Q => oa xn M fun x M1 => match x.get M1 with
  | some (.list ds) => Q (.list ds.reverse) M1
  | some (.str s) => s.cps.toList.length ≤ sizeLine ∧ Q (.str (S s.cps.toList.reverse)) M1
  | _ => False
theorem dE_rev {p2 p3 p4 : Pos} {j : Nat} (ha : DO X R a oa) : DE X R (.Subscript a (.Slice none none (some (.UnaryOp .USub (.Constant (.int 1) j p4) p3)) p2) pos) (wRev oa) := by
  obtain ⟨t1, p1, q1⟩ := ha.ex
  refine ⟨_, pe_rev p1, fun r l hw kk => ?_⟩
  refine q1 r l hw fun vx x M1 F1 H1 s1 r1 hx z1 => ?_
  split at z1
  · rename_i ds e
    obtain ⟨p, vs, rfl, a1, a2⟩ := (r1.opd hx e).list r1.sub
    refine .inl ⟨p, vs, rfl, SqL.of a1, fun q hq => ?_⟩
    have g := Grow.newF (o := .lst vs.reverse) r1.sub hq
    exact kk _ _ _ _ _ (s1.trans g.f) (r1.grow g) (.lst upd_same (a2.rev.same g.f)) z1
  · rename_i z e
    rw [(r1.opd hx e).str]
    exact .inr ⟨z, rfl, by rw [strLen]; exact z1.1, kk _ _ _ _ _ s1 r1 (.str _) z1.2⟩
  · exact z1.elim
end
end DL

/-! DL4: tests, conditional expressions, displays, argument lists, calls of built-ins, of defs. -/
namespace DL
open PySem PySem.Spec L2 PyProof.Rows
section
variable {X : Cx} {R : XP} {K : PySem.W.Frag} {e a b c : Expr} {es rest : List Expr} {pos : Pos} {wa wb wc : WE} {oa ob oc : WO} {ta tb : WT}

/-! tests -/
def tAndD (t u : WT) : WT := fun xn M Q => t xn M fun b M1 => if b = true then u xn M1 Q else Q false M1
def tOrD (t u : WT) : WT := fun xn M Q => t xn M fun b M1 => if b = true then Q true M1 else u xn M1 Q
def tNotD (t : WT) : WT := fun xn M Q => t xn M fun b M1 => Q (!b) M1
theorem DTW.t {w : WT} (h : DTW X R e w) : DT X R e w := by
  obtain ⟨t, p, q⟩ := h.ex
  exact ⟨t, p.pt, q⟩
theorem dW_and1 (h : DT X R a ta) : DTW X R (.BoolOp .And [a] pos) ta := by
  obtain ⟨t, p, q⟩ := h.ex
  exact ⟨t, pw_and1 p, q⟩
theorem dW_or1 (h : DT X R a ta) : DTW X R (.BoolOp .Or [a] pos) ta := by
  obtain ⟨t, p, q⟩ := h.ex
  exact ⟨t, pw_or1 p, q⟩
theorem dW_and (h : DT X R a ta) (h2 : DTW X R (.BoolOp .And (b :: rest) pos) tb) : DTW X R (.BoolOp .And (a :: b :: rest) pos) (tAndD ta tb) := by
  obtain ⟨t, p, q⟩ := h.ex
  obtain ⟨t2, p2, q2⟩ := h2.ex
  refine ⟨_, pw_and p p2, fun r l hw kk => q r l hw fun b M1 F1 H1 s1 r1 z => ?_⟩
  cases b with
  | true => exact q2 r1 l z fun b' M' F' H' s => kk b' M' F' H' (s1.trans s)
  | false => exact kk _ _ _ _ s1 r1 z
theorem dW_or (h : DT X R a ta) (h2 : DTW X R (.BoolOp .Or (b :: rest) pos) tb) : DTW X R (.BoolOp .Or (a :: b :: rest) pos) (tOrD ta tb) := by
  obtain ⟨t, p, q⟩ := h.ex
  obtain ⟨t2, p2, q2⟩ := h2.ex
  refine ⟨_, pw_or p p2, fun r l hw kk => q r l hw fun b M1 F1 H1 s1 r1 z => ?_⟩
  cases b with
  | false => exact q2 r1 l z fun b' M' F' H' s => kk b' M' F' H' (s1.trans s)
  | true => exact kk _ _ _ _ s1 r1 z
theorem dT_not (h : DT X R a ta) : DT X R (.UnaryOp .Not a pos) (tNotD ta) := by
  obtain ⟨t, p, q⟩ := h.ex
  exact ⟨_, pt_not p, fun r l hw kk => q r l hw fun b M1 F1 H1 s1 r1 z => kk _ _ _ _ s1 r1 z⟩
/-! and, or, not as values, all bools -/
def wAndV (wa wb : WE) : WE := fun xn M Q => wa xn M fun d M1 => match d with
  | .bool b => if b = true then wb xn M1 Q else Q (.bool false) M1
  | _ => False
def wOrV (wa wb : WE) : WE := fun xn M Q => wa xn M fun d M1 => match d with
  | .bool b => if b = true then Q (.bool true) M1 else wb xn M1 Q
  | _ => False
def wNotV (wa : WE) : WE := fun xn M Q => wa xn M fun d M1 => match d with
  | .bool b => Q (.bool (!b)) M1
  | _ => False
theorem dE_one {op : BoolOp} (h : DE X R a wa) : DE X R (.BoolOp op [a] pos) wa := by
  obtain ⟨t, p, q⟩ := h.ex
  exact ⟨t, pe_one p, q⟩
theorem dE_and (h : DE X R a wa) (h2 : DE X R (.BoolOp .And (b :: rest) pos) wb) : DE X R (.BoolOp .And (a :: b :: rest) pos) (wAndV wa wb) := by
  obtain ⟨t, p, q⟩ := h.ex
  obtain ⟨t2, p2, q2⟩ := h2.ex
  refine ⟨_, pe_and p p2, fun r l hw kk => q r l hw fun v d M1 F1 H1 s1 r1 dv z => ?_⟩
  cases dv with
  | bl b =>
    refine ⟨b, rfl, ?_⟩
    cases b with
    | true => exact q2 r1 l z fun v' d' M' F' H' s => kk v' d' M' F' H' (s1.trans s)
    | false => exact kk _ _ _ _ _ s1 r1 (.bl _) z
  | _ => exact z.elim
theorem dE_or (h : DE X R a wa) (h2 : DE X R (.BoolOp .Or (b :: rest) pos) wb) : DE X R (.BoolOp .Or (a :: b :: rest) pos) (wOrV wa wb) := by
  obtain ⟨t, p, q⟩ := h.ex
  obtain ⟨t2, p2, q2⟩ := h2.ex
  refine ⟨_, pe_or p p2, fun r l hw kk => q r l hw fun v d M1 F1 H1 s1 r1 dv z => ?_⟩
  cases dv with
  | bl b =>
    refine ⟨b, rfl, ?_⟩
    cases b with
    | false => exact q2 r1 l z fun v' d' M' F' H' s => kk v' d' M' F' H' (s1.trans s)
    | true => exact kk _ _ _ _ _ s1 r1 (.bl _) z
  | _ => exact z.elim
theorem dE_not (h : DE X R a wa) : DE X R (.UnaryOp .Not a pos) (wNotV wa) := by
  obtain ⟨t, p, q⟩ := h.ex
  refine ⟨_, pe_not p, fun r l hw kk => q r l hw fun v d M1 F1 H1 s1 r1 dv z => ?_⟩
  cases dv with
  | bl b => exact ⟨b, rfl, kk _ _ _ _ _ s1 r1 (.bl _) z⟩
  | _ => exact z.elim
def wIf (t : WT) (wa wb : WE) : WE := fun xn M Q => t xn M fun b M1 => if b = true then wa xn M1 Q else wb xn M1 Q
theorem dE_if (h : DT X R c ta) (h1 : DE X R a wa) (h2 : DE X R b wb) : DE X R (.IfExp c a b pos) (wIf ta wa wb) := by
  obtain ⟨t, p, q⟩ := h.ex
  obtain ⟨t1, p1, q1⟩ := h1.ex
  obtain ⟨t2, p2, q2⟩ := h2.ex
  refine ⟨_, pe_ifExp p p1 p2, fun r l hw kk => q r l hw fun b M1 F1 H1 s1 r1 z => ?_⟩
  cases b with
  | true => exact q1 r1 l z fun v' d' M' F' H' s => kk v' d' M' F' H' (s1.trans s)
  | false => exact q2 r1 l z fun v' d' M' F' H' s => kk v' d' M' F' H' (s1.trans s)
/-! a < b < c -/
def wChain (f g : DF2) (oa ob oc : WO) : WE := fun xn M Q => oa xn M fun x M1 => ob xn M1 fun y M2 => app2 f x y M2 fun d M3 => match d with
  | .bool k => if k = true then oc xn M3 fun z M4 => app2 g y z M4 Q else Q (.bool false) M3
  | _ => False
theorem dE_chain {op op' : CmpOp} {r r' : R2} {f g : DF2} (ho : OpR X (compareOp op) r) (hd : DOp X.K r f) (ho' : OpR X (compareOp op') r') (hd' : DOp X.K r' g) (ha : DO X R a oa) (hb : DO X R b ob) (hc : DO X R c oc)
    (hp : ∀ {t1 t2 t3 : TE}, PE X a t1 → PE X b t2 → PE X c t3 → PE X (.Compare a [op, op'] [b, c] pos) (tChain r r' t1 t2 t3)) : DE X R (.Compare a [op, op'] [b, c] pos) (wChain f g oa ob oc) := by
  obtain ⟨t1, p1, q1⟩ := ha.ex
  obtain ⟨t2, p2, q2⟩ := hb.ex
  obtain ⟨t3, p3, q3⟩ := hc.ex
  refine ⟨_, hp p1 p2 p3, fun r l hw kk => ?_⟩
  refine q1 r l hw fun vx x M1 F1 H1 s1 r1 hx z1 => q2 r1 l z1 fun vy y M2 F2 H2 s2 r2 hy z2 => ?_
  refine app2_run hd r2 (hx.same s2) hy z2 fun v d M3 F3 H3 s3 r3 dv z3 => ?_
  cases dv with
  | bl k =>
    refine ⟨k, rfl, ?_⟩
    cases k with
    | true =>
      refine q3 r3 l z3 fun vz z M4 F4 H4 s4 r4 hz z4 => ?_
      exact app2_run hd' r4 ((hy.same s3).same s4) hz z4 fun v d M' F' H' s => kk v d M' F' H' (s1.trans (s2.trans (s3.trans (s4.trans s))))
    | false => exact kk _ _ _ _ _ (s1.trans (s2.trans s3)) r3 (.bl _) z3
  | _ => exact z3.elim

/-! operands in a row -/
def getAll : List Opd → Mem → Option (List PyData)
  | [], _ => some []
  | o :: os, M => match o.get M, getAll os M with
    | some d, some ds => some (d :: ds)
    | _, _ => none
inductive OpdsR (K : PySem.W.Frag) (F : Hp) (σ : List (Option V)) : List V → List Opd → Prop
  | nil : OpdsR K F σ [] []
  | cons {v : V} {vs : List V} {o : Opd} {os : List Opd} : OpdR K F σ v o → OpdsR K F σ vs os → OpdsR K F σ (v :: vs) (o :: os)
inductive Views (K : PySem.W.Frag) (F H : Hp) : List V → List PyData → Prop
  | nil : Views K F H [] []
  | cons {v : V} {vs : List V} {o : PyData} {os : List PyData} : View K F H v o → Views K F H vs os → Views K F H (v :: vs) (o :: os)
theorem views_of {F0 H0 F H : Hp} {W : Option (Addr × Addr)} {M : Mem} {σ : List (Option V)} (rel : Rel K F0 H0 W M σ F H) : ∀ {vs : List V} {os : List Opd} {ds : List PyData}, OpdsR K F σ vs os → getAll os M = some ds → Views K F H vs ds
  | _, _, _, .nil, h => by cases h; exact .nil
  | _, o :: os, ds, .cons r q, h => by
    unfold getAll at h
    split at h
    · rename_i d ds' e1 e2
      cases h
      exact .cons (rel.opd r e1) (views_of rel q e2)
    · cases h
abbrev QOs := List Opd → Mem → Prop
abbrev WOs := Xn → Mem → QOs → Prop
structure DOs (X : Cx) (R : XP) (es : List Expr) (w : WOs) : Prop where
  ex : ∃ t : TA, PA X es t ∧ ∀ {F0 H0 F H : Hp} {W : Option (Addr × Addr)} {M : Mem} {σ : List (Option V)} {xn : Xn} {Q : QOs} {k : List V → Hp → Prop}, Rel X.K F0 H0 W M σ F H → Lnk X.K R F0 H0 W xn → w xn M Q →
    (∀ vs os M' F' H', Same F F' → Rel X.K F0 H0 W M' σ F' H' → OpdsR X.K F' σ vs os → Q os M' → k vs H') → t σ H k
def osN : WOs := fun _ M Q => Q [] M
def osC (oa : WO) (os : WOs) : WOs := fun xn M Q => oa xn M fun x M1 => os xn M1 fun xs M2 => Q (x :: xs) M2
theorem dOs_n : DOs X R [] osN := ⟨_, pa_nil, fun r _ hw kk => kk _ _ _ _ _ (.refl _) r .nil hw⟩
theorem dOs_c {os : WOs} (h : DO X R e oa) (h2 : DOs X R es os) (hs : starEach (e :: es) X.env = (false, eval e X.env) :: starEach es X.env := by rfl) : DOs X R (e :: es) (osC oa os) := by
  obtain ⟨t, p, q⟩ := h.ex
  obtain ⟨t2, p2, q2⟩ := h2.ex
  refine ⟨_, pa_cons p p2 hs, fun r l hw kk => q r l hw fun v x M1 F1 H1 s1 r1 hx z => q2 r1 l z fun vs os M2 F2 H2 s2 r2 hy z2 => ?_⟩
  exact kk _ _ _ _ _ (s1.trans s2) r2 (.cons (hx.same s2) hy) z2
abbrev DFN := List PyData → (PyData → Prop) → Prop
def DCall (K : PySem.W.Frag) (r : List V → Hp → VK → Prop) (f : DFN) : Prop := ∀ {F H : Hp} {vs : List V} {ds : List PyData} {Qd : PyData → Prop} {k : VK}, Same F H → Views K F H vs ds → f ds Qd →
  (∀ v d F' H', Grow F H F' H' → DV K F' v d → Qd d → k v H') → r vs H k
def appN (f : DFN) (os : List Opd) (M : Mem) (Q : QD) : Prop := match getAll os M with
  | some ds => f ds fun r => Q r M
  | none => False
def wCB (f : DFN) (os : WOs) : WE := fun xn M Q => os xn M fun xs M1 => appN f xs M1 Q
theorem appN_run {r : List V → Hp → VK → Prop} {f : DFN} (hd : DCall K r f) {F0 H0 F H : Hp} {W : Option (Addr × Addr)} {M : Mem} {σ : List (Option V)} {Q : QD} {k : VK} {os : List Opd} {vs : List V}
    (rel : Rel K F0 H0 W M σ F H) (hx : OpdsR K F σ vs os) (h : appN f os M Q)
    (kk : ∀ v d M' F' H', Same F F' → Rel K F0 H0 W M' σ F' H' → DV K F' v d → Q d M' → k v H') : r vs H k := by
  unfold appN at h
  split at h
  · rename_i ds e
    exact hd rel.sub (views_of rel hx e) h fun v d F' H' g dv q => kk v d M F' H' g.f (rel.grow g) dv q
  · exact h.elim
theorem dE_cb {x : Str} {p : Pos} {id : String} {r : List V → Hp → VK → Prop} {f : DFN} {os : WOs} (hc : CallR X (.builtin id) r) (hd : DCall X.K r f) (hg : Gl X x) (hm : X.mg x = none) (hv : bootBuiltins x = some (.builtin id)) (ha : DOs X R (e :: es) os) (hn : x ≠ "__name__" := by decide) (hdb : (x == ("__debug__" : Str)) = false := by decide)
    (he : starEach (e :: es) X.env = (false, eval e X.env) :: starEach es X.env := by rfl) (hpl : (backTo pos (starEach es X.env)).any (·.1) = false := by rfl) : DE X R (.Call (.Name x p) (e :: es) [] pos) (wCB f os) := by
  obtain ⟨t, q, z⟩ := ha.ex
  refine ⟨_, pe_callB hc hg hm hv q hn hdb he hpl, fun r l hw kk => z r l hw fun vs os M1 F1 H1 s1 r1 hx y => ?_⟩
  exact appN_run hd r1 hx y fun v d M' F' H' s => kk v d M' F' H' (s1.trans s)
theorem dE_ct {x : Str} {p : Pos} {T : String} {r : List V → Hp → VK → Prop} {f : DFN} {os : WOs} (hc : CallR X (.type T) r) (hd : DCall X.K r f) (hg : Gl X x) (hm : X.mg x = none) (hv : bootBuiltins x = some (.type T)) (ha : DOs X R (e :: es) os) (hn : x ≠ "__name__" := by decide) (hdb : (x == ("__debug__" : Str)) = false := by decide)
    (he : starEach (e :: es) X.env = (false, eval e X.env) :: starEach es X.env := by rfl) (hpl : (backTo pos (starEach es X.env)).any (·.1) = false := by rfl) : DE X R (.Call (.Name x p) (e :: es) [] pos) (wCB f os) := by
  obtain ⟨t, q, z⟩ := ha.ex
  refine ⟨_, pe_callTy hc hg hm hv q hn hdb he hpl, fun r l hw kk => z r l hw fun vs os M1 F1 H1 s1 r1 hx y => ?_⟩
  exact appN_run hd r1 hx y fun v d M' F' H' s => kk v d M' F' H' (s1.trans s)
/-! a method of a built-in type that changes nothing -/
abbrev DFM := PyData → List PyData → (PyData → Prop) → Prop
def DMeth (K : PySem.W.Frag) (T : String) (r : V → List V → Hp → VK → Prop) (f : DFM) : Prop := ∀ {F H : Hp} {v : V} {vs : List V} {d : PyData} {ds : List PyData} {Qd : PyData → Prop} {k : VK}, Same F H → View K F H v d → Views K F H vs ds → f d ds Qd →
  (∀ v d F' H', Grow F H F' H' → DV K F' v d → Qd d → k v H') → r v vs H k
def TyD (K : PySem.W.Frag) (T : String) (P : PyData → Bool) : Prop := ∀ {F H : Hp} {v : V} {d : PyData}, Same F H → View K F H v d → P d = true → tyV K T v H
def appM (P : PyData → Bool) (f : DFM) (o : Opd) (os : List Opd) (M : Mem) (Q : QD) : Prop := match o.get M, getAll os M with
  | some d, some ds => P d = true ∧ f d ds fun r => Q r M
  | _, _ => False
def wBM (P : PyData → Bool) (f : DFM) (oa : WO) (os : WOs) : WE := fun xn M Q => oa xn M fun x M1 => (match x.get M1 with
  | some d => P d = true
  | none => False) ∧ os xn M1 fun xs M2 => appM P f x xs M2 Q
def wBM0 (P : PyData → Bool) (f : DFM) (oa : WO) : WE := fun xn M Q => oa xn M fun x M1 => appM P f x [] M1 Q
theorem dE_bm0 {name : Str} {apos : Pos} {T id : String} {r : V → List V → Hp → VK → Prop} {P : PyData → Bool} {f : DFM} (pa : PlainAttrs T) (slot : Slot T name id) (hty : typeOf (.builtin id) = pure (.type "method_descriptor")) (hm : MtR X id r) (ht : TyD X.K T P) (hd : DMeth X.K T r f) (ha : DO X R a oa)
    (hbase : attributeBase a name X.env (eval a X.env) = eval a X.env := by rfl) (hline : (apos.endLine == pos.line) = true := by rfl) : DE X R (.Call (.Attribute a name apos) [] [] pos) (wBM0 P f oa) := by
  obtain ⟨t, p, q⟩ := ha.ex
  refine ⟨_, pe_bm0 pa slot hty hm p hbase hline, fun r l hw kk => q r l hw fun v x M1 F1 H1 s1 r1 hx y => ?_⟩
  unfold appM at y
  split at y
  · rename_i d ds e1 e2
    have hv := r1.opd hx e1
    refine ⟨ht r1.sub hv y.1, hd r1.sub hv (views_of r1 .nil e2) y.2 fun v d F' H' g dv z => kk v d M1 F' H' (s1.trans g.f) (r1.grow g) dv z⟩
  · exact y.elim
theorem dE_bm {name : Str} {apos : Pos} {T id : String} {r : V → List V → Hp → VK → Prop} {P : PyData → Bool} {f : DFM} {os : WOs} (pa : PlainAttrs T) (slot : Slot T name id) (hty : typeOf (.builtin id) = pure (.type "method_descriptor")) (hm : MtR X id r) (ht : TyD X.K T P) (hd : DMeth X.K T r f) (ha : DO X R a oa) (hb : DOs X R (e :: es) os)
    (hbase : attributeBase a name X.env (eval a X.env) = eval a X.env := by rfl)
    (hfew : ((backTo pos (starEach (e :: es) X.env)).all (fun x => !x.1) && (backToKw pos (keywordEach [] X.env)).all (fun x => x.1.isSome)
      && decide ((e :: es).length + ([] : List Keyword).length + (if ([] : List Keyword).isEmpty then 0 else 1) < 30)) = true := by rfl)
    (hline : (apos.endLine == pos.line) = true := by rfl) (hs : starEach (e :: es) X.env = (false, eval e X.env) :: starEach es X.env := by rfl) (hplain : (backTo pos (starEach es X.env)).any (·.1) = false := by rfl) :
    DE X R (.Call (.Attribute a name apos) (e :: es) [] pos) (wBM P f oa os) := by
  obtain ⟨t, p, q⟩ := ha.ex
  obtain ⟨t2, p2, q2⟩ := hb.ex
  refine ⟨_, pe_bm pa slot hty hm p p2 hbase hfew hline hs hplain, fun r l hw kk => q r l hw fun v x M1 F1 H1 s1 r1 hx y => ?_⟩
  obtain ⟨y1, y2⟩ := y
  cases e1 : x.get M1 with
  | none => rw [e1] at y1; exact y1.elim
  | some d =>
    rw [e1] at y1
    refine ⟨ht r1.sub (r1.opd hx e1) y1, q2 r1 l y2 fun vs xs M2 F2 H2 s2 r2 hxs y => ?_⟩
    unfold appM at y
    split at y
    · rename_i d ds e1 e2
      exact hd r2.sub (r2.opd (hx.same s2) e1) (views_of r2 hxs e2) y.2 fun v d F' H' g dv z => kk v d M2 F' H' (s1.trans (s2.trans g.f)) (r2.grow g) dv z
    · exact y.elim

/-! displays: items frozen -/
abbrev WL := Xn → Mem → (List PyData → Mem → Prop) → Prop
structure DL (X : Cx) (R : XP) (es : List Expr) (w : WL) : Prop where
  ex : ∃ t : TA, PA X es t ∧ ∀ {F0 H0 F H : Hp} {W : Option (Addr × Addr)} {M : Mem} {σ : List (Option V)} {xn : Xn} {Q : List PyData → Mem → Prop} {k : List V → Hp → Prop}, Rel X.K F0 H0 W M σ F H → Lnk X.K R F0 H0 W xn → w xn M Q →
    (∀ vs ds M' F' H', Same F F' → Rel X.K F0 H0 W M' σ F' H' → DVs X.K F' vs ds → Q ds M' → k vs H') → t σ H k
def wN : WL := fun _ M Q => Q [] M
def wCs (wa : WE) (wl : WL) : WL := fun xn M Q => wa xn M fun d M1 => wl xn M1 fun ds M2 => Q (d :: ds) M2
theorem dL_n : DL X R [] wN := ⟨_, pa_nil, fun r _ hw kk => kk _ _ _ _ _ (.refl _) r .nil hw⟩
theorem dL_c {wl : WL} (h : DE X R e wa) (h2 : DL X R es wl) (hs : starEach (e :: es) X.env = (false, eval e X.env) :: starEach es X.env := by rfl) : DL X R (e :: es) (wCs wa wl) := by
  obtain ⟨t, p, q⟩ := h.ex
  obtain ⟨t2, p2, q2⟩ := h2.ex
  refine ⟨_, pa_cons p p2 hs, fun r l hw kk => q r l hw fun v x M1 F1 H1 s1 r1 hx z => q2 r1 l z fun vs os M2 F2 H2 s2 r2 hy z2 => ?_⟩
  exact kk _ _ _ _ _ (s1.trans s2) r2 (.cons (hx.same s2) hy) z2
def wTup (wl : WL) : WE := fun xn M Q => wl xn M fun ds M1 => ds.length ≤ sizeLine ∧ Q (.tuple ds) M1
def wLst (wl : WL) : WE := fun xn M Q => wl xn M fun ds M1 => ds.length ≤ sizeLine ∧ Q (.list ds) M1
theorem dE_tup {wl : WL} {x1 : Nat} (h : DL X R es wl) : DE X R (.Tuple es x1 pos) (wTup wl) := by
  obtain ⟨t, p, q⟩ := h.ex
  refine ⟨_, pe_tup p, fun r l hw kk => q r l hw fun vs ds M1 F1 H1 s1 r1 hx z => ⟨by rw [hx.len]; exact z.1, fun p hp => ?_⟩⟩
  have g := Grow.newF (o := .tup vs) r1.sub hp
  exact kk _ _ _ _ _ (s1.trans g.f) (r1.grow g) (.tup upd_same (hx.same g.f)) z.2
theorem dF_lst {wl : WL} (h : DL X R es wl) : DF X R (.List es pos) (wLst wl) := by
  obtain ⟨t, p, q⟩ := h.ex
  refine ⟨_, pe_lst p, fun r l hw kk => q r l hw fun vs ds M1 F1 H1 s1 r1 hx z => ⟨by rw [hx.len]; exact z.1, fun p hp => ?_⟩⟩
  obtain ⟨r2, f2⟩ := r1.isFresh (o := .lst vs) (d := .list ds) hp (.lst upd_same hx)
  exact kk _ _ _ _ _ s1 r2 f2 z.2
def wDic0 : WE := fun _ M Q => Q (.dict []) M
def wDicT : WE := fun _ M Q => Q (.dict [(.none, .none)]) M
theorem dF_dicK : DF X R (.Dict [] [] pos) wDic0 := by
  refine ⟨_, pe_dnewK, fun {F0 H0 F H W M σ xn Q k} r l hw kk p hp => ?_⟩
  obtain ⟨r2, f2⟩ := r.isFresh (o := .dK []) (d := .dict []) hp (.dic upd_same rfl .nil)
  exact kk _ _ _ _ _ (.refl _) r2 f2 hw
theorem dF_dicT : DF X R (.Dict [] [] pos) wDicT := by
  refine ⟨_, pe_dnewT, fun {F0 H0 F H W M σ xn Q k} r l hw kk p hp => ?_⟩
  obtain ⟨r2, f2⟩ := r.isFresh (o := .dT []) (d := .dict [(.none, .none)]) hp (.dit (kvs := []) upd_same rfl .nil)
  exact kk _ _ _ _ _ (.refl _) r2 f2 hw

/-! a def's promise over plain data -/
abbrev GSpec := List Arg → Option Wel → (PyData → Option Wel → Prop) → Prop
structure After (F H : Hp) (W : Option (Addr × Addr)) (F' H' : Hp) : Prop where
  f : Same F F'
  s : Same F' H'
  h : ∀ a o, H a = some o → ¬ InW W a → H' a = some o
  n : ∀ a o, F' a = some o → F a = some o ∨ H a = none
def spD (K : PySem.W.Frag) (g : GSpec) : Sp := fun vs H Q _ => ∃ (F : Hp) (W : Option (Addr × Addr)) (args : List Arg) (wl : Option Wel) (Qd : PyData → Option Wel → Prop), Same F H ∧ ArgsR K F W vs args ∧ WelR F H W wl ∧ g args wl Qd ∧
  ∀ v d F' H' wl', After F H W F' H' → WelR F' H' W wl' → DV K F' v d → Qd d wl' → Q v H'
theorem Rel.of_after {F0 H0 F F' H H' : Hp} {W : Option (Addr × Addr)} {M : Mem} {σ : List (Option V)} {wl' : Option Wel} (rel : Rel K F0 H0 W M σ F H) (a : After F H W F' H') (w : WelR F' H' W wl') : Rel K F0 H0 W ⟨M.env, wl'⟩ σ F' H' where
  sub := a.s
  old := fun b o e n => a.h _ _ (rel.old b o e n) n
  fol := rel.fol.trans a.f
  fnw := fun b o e => by
    rcases a.n b o e with z | z
    · exact rel.fnw _ _ z
    · by_cases q : H0 b = none
      · exact .inr q
      · cases y : H0 b with
        | none => exact absurd y q
        | some u =>
          by_cases iw : InW W b
          · exfalso
            cases W with
            | none => exact iw
            | some t =>
              obtain ⟨t1, t2⟩ := t
              have wl := rel.wel
              cases hm : M.wl with
              | none => rw [hm] at wl; exact wl
              | some w2 =>
                rw [hm] at wl
                rcases iw with rfl | rfl
                · rw [wl.1.dic] at z; cases z
                · rw [wl.1.lst] at z; cases z
          · rw [rel.old b u y iw] at z; cases z
  len := rel.len
  slt := fun i e h => by
    obtain ⟨v, h1, h2⟩ := rel.slt i e h
    refine ⟨v, h1, ?_⟩
    cases e with
    | im d => exact DV.same a.f h2
    | wel => exact h2
    | scr ns => obtain ⟨b, e, h⟩ := h2; exact ⟨b, e, sameL a.f h⟩
    | exc _ _ _ _ _ => exact ⟨h2.1, h2.2.same a.f⟩
    | rng lo hi => obtain ⟨b, e, h⟩ := h2; exact ⟨b, e, a.f _ _ h⟩
    | ow d =>
      obtain ⟨p, rfl, o, n, n0, nw⟩ := h2
      obtain ⟨u, hu⟩ := o.there
      refine ⟨p, rfl, o.move a.f ((a.h _ _ hu nw).trans hu.symm), ?_, n0, nw⟩
      cases z : F' p with
      | none => rfl
      | some y =>
        rcases a.n p y z with t | t
        · rw [n] at t; cases t
        · rw [hu] at t; cases t
    | ro d =>
      obtain ⟨p, rfl, o, n0, nw⟩ := h2
      obtain ⟨u, hu⟩ := o.there
      exact ⟨p, rfl, o.move a.f ((a.h _ _ hu nw).trans hu.symm), n0, nw⟩
  dis := rel.dis
  wel := w
/-! arguments of a def -/
def aN : WA := fun _ M Q => Q [] M
def aC (wa : WE) (as : WA) : WA := fun xn M Q => wa xn M fun d M1 => as xn M1 fun xs M2 => Q (.x d :: xs) M2
def aW (i : Nat) (as : WA) : WA := fun xn M Q => M.env[i]? = some (some .wel) ∧ as xn M fun xs M2 => Q (.wel :: xs) M2
theorem ArgR.same {F F' : Hp} {W : Option (Addr × Addr)} {v : V} {x : Arg} (s : Same F F') (h : ArgR K F W v x) : ArgR K F' W v x := by
  cases x with
  | x d => exact DV.same s h
  | wel => exact h
  | scr ns => obtain ⟨a, e, h⟩ := h; exact ⟨a, e, sameL s h⟩
theorem dA_n : DA X R [] aN := ⟨_, pa_nil, fun r _ hw kk => kk _ _ _ _ _ (.refl _) r .nil hw⟩
theorem dA_c {as : WA} (h : DE X R e wa) (h2 : DA X R es as) (hs : starEach (e :: es) X.env = (false, eval e X.env) :: starEach es X.env := by rfl) : DA X R (e :: es) (aC wa as) := by
  obtain ⟨t, p, q⟩ := h.ex
  obtain ⟨t2, p2, q2⟩ := h2.ex
  refine ⟨_, pa_cons p p2 hs, fun r l hw kk => q r l hw fun v x M1 F1 H1 s1 r1 hx z => q2 r1 l z fun vs os M2 F2 H2 s2 r2 hy z2 => ?_⟩
  exact kk _ _ _ _ _ (s1.trans s2) r2 (.cons (a := .x x) (hx.same s2) hy) z2
theorem dA_w (i : Nat) {x : Str} {xp : Pos} {as : WA} (h2 : DA X R es as) (hN : X.N[i]? = some x := by rfl) (hv : Vis X.env.scope x := by first | exact Or.inl rfl | exact Or.inr (Or.inl rfl) | exact Or.inr (Or.inr rfl)) (hd : (x == ("__debug__" : Str)) = false := by decide)
    (hcd : (x == ("__classdict__" : Str)) = false := by decide) (hs : starEach (.Name x xp :: es) X.env = (false, eval (.Name x xp) X.env) :: starEach es X.env := by rfl) : DA X R (.Name x xp :: es) (aW i as) := by
  obtain ⟨t2, p2, q2⟩ := h2.ex
  refine ⟨_, pa_cons (pe_var (i := i) hN hv hd hcd) p2 hs, fun {F0 H0 F H W M σ xn Q k} r l hw kk => ?_⟩
  obtain ⟨w1, w2⟩ := hw
  obtain ⟨u, h1, q, rr, e1, e2⟩ := r.slt i _ w1
  refine ⟨u, h1, q2 r l w2 fun vs os M2 F2 H2 s2 r2 hy z2 => ?_⟩
  exact kk _ _ _ _ _ s2 r2 (.cons (a := .wel) ⟨q, rr, e1, e2⟩ hy) z2
def wCall (g : GSpec) (as : WA) : WE := fun xn M Q => as xn M fun xs M1 => g xs M1.wl fun d wl => Q d ⟨M1.env, wl⟩
theorem spD_run {g : GSpec} {F0 H0 F H : Hp} {W : Option (Addr × Addr)} {M : Mem} {σ : List (Option V)} {Q : QD} {k : VK} {E : XK} {vs : List V} {xs : List Arg} (rel : Rel K F0 H0 W M σ F H) (ha : ArgsR K F W vs xs)
    (h : g xs M.wl fun d wl => Q d ⟨M.env, wl⟩) (kk : ∀ v d M' F' H', Same F F' → Rel K F0 H0 W M' σ F' H' → DV K F' v d → Q d M' → k v H') : spD K g vs H k E :=
  ⟨F, W, xs, M.wl, _, rel.sub, ha, rel.wel, h, fun v d F' H' wl' a w dv q => kk v d ⟨M.env, wl'⟩ F' H' a.f (rel.of_after a w) dv q⟩
theorem dE_call {k j : Nat} {f : Addr} {fd : FuncData} {ps : List Str} {g : GSpec} {x : Str} {p : Pos} {as : WA} (F : FnOk X.prog X.w X.K X.mg X.base CX0 k f fd ps (spD X.K g)) (hr : Room j X.A) (hk : k ≤ j) (hg : Gl X x) (hm : X.mg x = some (.ref f)) (hkp : PySem.W.keepIn X.K (.ref f) = true) (hb : Binds X.K fd ps [])
    (ha : DA X R (e :: es) as) (hdb : (x == ("__debug__" : Str)) = false := by decide) (he : starEach (e :: es) X.env = (false, eval e X.env) :: starEach es X.env := by rfl) (hpl : (backTo pos (starEach es X.env)).any (·.1) = false := by rfl) :
    DE X R (.Call (.Name x p) (e :: es) [] pos) (wCall g as) := by
  obtain ⟨t, q, z⟩ := ha.ex
  refine ⟨_, pe_call F (hr.mono hk) hg hm hkp hb .nil pass0 q hdb he hpl, fun {F0 H0 F H W M σ xn Q kc} r l hw kk => ?_⟩
  refine z r l hw fun vs xs M1 F1 H1 s1 r1 hx y => ?_
  rw [List.append_nil]
  exact spD_run r1 hx y fun v d M' F' H' s => kk v d M' F' H' (s1.trans s)
end
end DL

/-! DL5: statements, loops, comprehensions, a def by its body. -/
namespace DL
open PySem PySem.Spec L2 PyProof.Rows

structure DEn where
  nx : Mem → Prop
  rt : PyData → Mem → Prop
  bk : Mem → Prop := fun _ => False
  ct : Mem → Prop := fun _ => False
abbrev WS := Xn → DEn → Mem → Prop
structure EndsR (K : PySem.W.Frag) (F0 H0 F : Hp) (W : Option (Addr × Addr)) (De : DEn) (D : Ends) : Prop where
  nx : ∀ M' σ' F' H', Same F F' → Rel K F0 H0 W M' σ' F' H' → De.nx M' → D.nx σ' H'
  rt : ∀ v d M' σ' F' H', Same F F' → Rel K F0 H0 W M' σ' F' H' → DV K F' v d → De.rt d M' → D.rt v H'
  bk : ∀ M' σ' F' H', Same F F' → Rel K F0 H0 W M' σ' F' H' → De.bk M' → D.bk σ' H'
  ct : ∀ M' σ' F' H', Same F F' → Rel K F0 H0 W M' σ' F' H' → De.ct M' → D.ct σ' H'
theorem EndsR.same {K : PySem.W.Frag} {F0 H0 F F' : Hp} {W : Option (Addr × Addr)} {De : DEn} {D : Ends} (s : Same F F') (h : EndsR K F0 H0 F W De D) : EndsR K F0 H0 F' W De D :=
  ⟨fun M' σ' F2 H' t => h.nx M' σ' F2 H' (s.trans t), fun v d M' σ' F2 H' t => h.rt v d M' σ' F2 H' (s.trans t), fun M' σ' F2 H' t => h.bk M' σ' F2 H' (s.trans t), fun M' σ' F2 H' t => h.ct M' σ' F2 H' (s.trans t)⟩
structure DS (X : Cx) (R : XP) (st : Stmt) (u : WS) : Prop where
  ex : ∃ t : TS, PS X st t ∧ ∀ {F0 H0 F H : Hp} {W : Option (Addr × Addr)} {M : Mem} {σ : List (Option V)} {xn : Xn} {De : DEn} {D : Ends}, Rel X.K F0 H0 W M σ F H → Lnk X.K R F0 H0 W xn → u xn De M → EndsR X.K F0 H0 F W De D → t D σ H
structure DSs (X : Cx) (R : XP) (st : List Stmt) (u : WS) : Prop where
  ex : ∃ t : TS, PSs X st t ∧ ∀ {F0 H0 F H : Hp} {W : Option (Addr × Addr)} {M : Mem} {σ : List (Option V)} {xn : Xn} {De : DEn} {D : Ends}, Rel X.K F0 H0 W M σ F H → Lnk X.K R F0 H0 W xn → u xn De M → EndsR X.K F0 H0 F W De D → t D σ H
section
variable {X : Cx} {R : XP} {K : PySem.W.Frag} {e a b c : Expr} {es : List Expr} {st : Stmt} {rest body : List Stmt} {pos : Pos} {wa wb wc : WE} {oa ob oc : WO} {ta tb : WT} {u v : WS}
def uNext : WS := fun _ De M => De.nx M
def uSeq (u v : WS) : WS := fun xn De M => u xn { De with nx := v xn De } M
theorem dSs_n : DSs X R [] uNext := ⟨_, pss_nil, fun r _ h E => E.nx _ _ _ _ (.refl _) r h⟩
theorem dSs_c (h : DS X R st u) (h2 : DSs X R rest v) : DSs X R (st :: rest) (uSeq u v) := by
  obtain ⟨t, p, q⟩ := h.ex
  obtain ⟨t2, p2, q2⟩ := h2.ex
  refine ⟨_, pss_cons p p2, fun r l hw E => q r l hw ⟨fun M' σ' F' H' s r' z => ?_, E.rt, E.bk, E.ct⟩⟩
  exact q2 r' l z (E.same s)
theorem dSs_1 (h : DS X R st u) : DSs X R [st] u := by
  obtain ⟨t, p, q⟩ := h.ex
  exact ⟨_, pss_one p, q⟩
theorem dS_pass : DS X R (.Pass pos) uNext := ⟨_, ps_pass, fun r _ h E => E.nx _ _ _ _ (.refl _) r h⟩
theorem dS_break : DS X R (.Break pos) (fun _ De M => De.bk M) := ⟨_, ps_break, fun r _ h E => E.bk _ _ _ _ (.refl _) r h⟩
theorem dS_cont : DS X R (.Continue pos) (fun _ De M => De.ct M) := ⟨_, ps_continue, fun r _ h E => E.ct _ _ _ _ (.refl _) r h⟩
/-- before a statement some slots are forgotten -/
def uKill (ks : List Nat) (u : WS) : WS := fun xn De M => u xn De (M.kill ks)
theorem dS_kill (ks : List Nat) (h : DS X R st u) : DS X R st (uKill ks u) := by
  obtain ⟨t, p, q⟩ := h.ex
  exact ⟨t, p, fun r l hw E => q (r.kill ks) l hw E⟩
/-- before a statement some owned slots are frozen -/
def Mem.frz (M : Mem) (i : Nat) : Mem := match M.env[i]? with
  | some (some (.ow d)) => M.set i (.im d)
  | _ => M
theorem Rel.frz {F0 H0 F H : Hp} {W : Option (Addr × Addr)} {M : Mem} {σ : List (Option V)} (r : Rel K F0 H0 W M σ F H) (i : Nat) : ∃ F', Same F F' ∧ Rel K F0 H0 W (M.frz i) σ F' H := by
  unfold Mem.frz
  split
  · rename_i d e
    obtain ⟨v, h1, p, rfl, o, nf, n0, nw⟩ := r.slt i _ e
    -- the slot is emptied, what it held is fresh, then frozen
    have rk : Rel K F0 H0 W (M.kill [i]) σ F H := r.kill [i]
    have fr : Fresh K H0 W (M.kill [i]) σ F H p d := ⟨o, nf, n0, nw, fun j d' hj hs => by
      have hn := killNot hj
      have hj' := getKill hj
      exact r.dis i j d d' (.ref p) (fun z => hn (by simp [z])) e hj' h1 hs⟩
    obtain ⟨F', s, r2, dv⟩ := rk.freeze fr
    refine ⟨F', s, ?_⟩
    have r3 := r2.setIm (i := i) dv
    have e1 : (M.kill [i]).set i (.im d) = M.set i (.im d) := by
      show (⟨(M.env.set i none).set i (some (.im d)), M.wl⟩ : Mem) = ⟨M.env.set i (some (.im d)), M.wl⟩
      rw [List.set_set]
    have e2 : σ.set i (some (.ref p)) = σ := by
      have hl := (List.getElem?_eq_some_iff.mp h1)
      obtain ⟨hl, he⟩ := hl
      rw [← he]
      exact List.set_getElem_self hl
    rw [e1, e2] at r3
    exact r3
  · exact ⟨F, .refl _, r⟩
def uFrz (i : Nat) (u : WS) : WS := fun xn De M => u xn De (M.frz i)
theorem dS_frz (i : Nat) (h : DS X R st u) : DS X R st (uFrz i u) := by
  obtain ⟨t, p, q⟩ := h.ex
  refine ⟨t, p, fun r l hw E => ?_⟩
  obtain ⟨F', s, r2⟩ := r.frz i
  exact q r2 l hw (E.same s)
/-- an expression whose value is dropped -/
def uDrop (wa : WE) : WS := fun xn De M => wa xn M fun _ M1 => De.nx M1
theorem dS_expr (h : DE X R e wa) (hs : swapsWith e none pos.line X.env = pure false := by rfl) : DS X R (.Expr e pos) (uDrop wa) := by
  obtain ⟨t, p, q⟩ := h.ex
  exact ⟨_, ps_expr p hs, fun r l hw E => q r l hw fun v d M' F' H' s r' dv z => E.nx _ _ _ _ s r' z⟩
def uRet (wa : WE) : WS := fun xn De M => wa xn M De.rt
theorem dS_ret (h : DE X R e wa) : DS X R (.Return (some e) pos) (uRet wa) := by
  obtain ⟨t, p, q⟩ := h.ex
  exact ⟨_, ps_ret p, fun r l hw E => q r l hw fun v d M' F' H' s r' dv z => E.rt _ _ _ _ _ _ s r' dv z⟩
def uIf (tc : WT) (u v : WS) : WS := fun xn De M => tc xn M fun b M1 => if b = true then u xn De M1 else v xn De M1
theorem dS_if {st1 st2 : List Stmt} (h : DT X R c ta) (h1 : DSs X R st1 u) (h2 : DSs X R st2 v) : DS X R (.If c st1 st2 pos) (uIf ta u v) := by
  obtain ⟨t, p, q⟩ := h.ex
  obtain ⟨t1, p1, q1⟩ := h1.ex
  obtain ⟨t2, p2, q2⟩ := h2.ex
  refine ⟨_, ps_if p p1 p2, fun r l hw E => q r l hw fun b M1 F1 H1 s1 r1 z => ?_⟩
  cases b with
  | true => exact q1 r1 l z (E.same s1)
  | false => exact q2 r1 l z (E.same s1)
/-- the ways behind a statement meet -/
def uCut (Mid : Xn → Mem → Mem → Prop) (u v : WS) : WS := fun xn De M => u xn { De with nx := Mid xn M } M ∧ ∀ M', Mid xn M M' → v xn De M'

/-! targets -/
abbrev WG := PyData → Mem → (Mem → Prop) → Prop
structure DG (X : Cx) (tg : Expr) (is : List Nat) (g : WG) : Prop where
  ex : ∃ t : TG, PG X tg t ∧ ∀ {F0 H0 F H : Hp} {W : Option (Addr × Addr)} {M : Mem} {σ : List (Option V)} {v : V} {d : PyData} {Q : Mem → Prop} {k : List (Option V) → Hp → Prop}, Rel X.K F0 H0 W M σ F H → DV X.K F v d → g d M Q →
    (∀ (M' : Mem) (σ' : List (Option V)), (∀ i : Nat, i ∉ is → σ'[i]? = σ[i]?) ∧ σ'.length = σ.length → Rel X.K F0 H0 W M' σ' F H → Q M' → k σ' H) → t v σ H k
def gSet (i : Nat) : WG := fun d M Q => Q (M.set i (.im d))
theorem dG_n {i : Nat} {x : Str} (hN : X.N.Nodup) (hi : X.N[i]? = some x) (hx : Loc X.env.scope x) (hf : X.fn x = true ∨ X.env.scope.names.lookup x = some .local := by first | exact .inl rfl | exact .inr rfl | assumption) : DG X (.Name x pos) [i] (gSet i) :=
  ⟨_, pg_name hN hi hx hf, fun r dv h kk => kk _ _ ⟨fun j hj => List.getElem?_set_ne (fun z => hj (by simp [z])), List.length_set⟩ (r.setIm dv) h⟩
abbrev WGs := List PyData → Mem → (Mem → Prop) → Prop
structure DGs (X : Cx) (ts : List Expr) (is : List Nat) (g : WGs) : Prop where
  ex : ∃ t : TGs, PGs X ts t ∧ ∀ {F0 H0 F H : Hp} {W : Option (Addr × Addr)} {M : Mem} {σ : List (Option V)} {vs : List V} {ds : List PyData} {Q : Mem → Prop} {k : List (Option V) → Hp → Prop}, Rel X.K F0 H0 W M σ F H → DVs X.K F vs ds → g ds M Q →
    (∀ (M' : Mem) (σ' : List (Option V)), (∀ i : Nat, i ∉ is → σ'[i]? = σ[i]?) ∧ σ'.length = σ.length → Rel X.K F0 H0 W M' σ' F H → Q M' → k σ' H) → t vs σ H k
def gN : WGs := fun ds M Q => ds = [] ∧ Q M
def gC (g : WG) (gs : WGs) : WGs := fun ds M Q => match ds with
  | d :: r => g d M fun M1 => gs r M1 Q
  | [] => False
theorem dGs_n : DGs X [] [] gN := ⟨_, pgs_nil, fun {F0 H0 F H W M σ vs ds Q k} r dv h kk => by
  obtain ⟨rfl, h⟩ := h
  cases dv
  exact ⟨rfl, kk _ _ ⟨fun _ _ => rfl, rfl⟩ r h⟩⟩
theorem dGs_c {g : WG} {gs : WGs} {is js : List Nat} (h : DG X e is g) (h2 : DGs X es js gs) (hs : (assignEach (e :: es) X.env).map (·.2) = assign e X.env :: (assignEach es X.env).map (·.2) := by rfl) : DGs X (e :: es) (is ++ js) (gC g gs) := by
  obtain ⟨t, p, q⟩ := h.ex
  obtain ⟨t2, p2, q2⟩ := h2.ex
  refine ⟨_, pgs_cons p p2 hs, fun {F0 H0 F H W M σ vs ds Q k} r dv hw kk => ?_⟩
  cases dv with
  | nil => exact hw.elim
  | cons d1 d2 => exact ⟨_, _, rfl, q r d1 hw fun M1 σ1 h1 r1 z => q2 r1 d2 z fun M2 σ2 h2 r2 z2 => kk M2 σ2 ⟨fun i hi => (h2.1 i fun y => hi (List.mem_append_right _ y)).trans (h1.1 i fun y => hi (List.mem_append_left _ y)), h2.2.trans h1.2⟩ r2 z2⟩
def gT (n : Nat) (gs : WGs) : WG := fun d M Q => match d with
  | .tuple ds => ds.length = n ∧ gs ds M Q
  | _ => False
theorem dG_t {gs : WGs} {is : List Nat} {k n : Nat} (hc : X.calm = true) (h : DGs X es is gs) (hn : (assignEach es X.env).length = n := by rfl) (hst : (assignEach es X.env).findIdx? (·.1) = none := by rfl) : DG X (.Tuple es k pos) is (gT n gs) := by
  obtain ⟨t, p, q⟩ := h.ex
  refine ⟨_, pg_tup hc p hn hst, fun {F0 H0 F H W M σ v d Q k} r dv hw kk => ?_⟩
  cases dv with
  | tup s ds => exact ⟨_, _, rfl, SqT.of (r.sub _ _ s), by rw [ds.len]; exact hw.1, q r ds hw.2 kk⟩
  | _ => exact hw.elim
def uAsg (wa : WE) (g : WG) : WS := fun xn De M => wa xn M fun d M1 => g d M1 De.nx
theorem dS_asg {tg : Expr} {g : WG} {is : List Nat} (h : DE X R e wa) (hg : DG X tg is g) (hs : swapsWithSole [tg] e pos.line X.env = pure false := by rfl) (hw : swappedStores [tg] e X.env = pure none := by rfl)
    (h1 : (assignEach [tg] X.env).map (·.2) = [assign tg X.env] := by rfl) : DS X R (.Assign [tg] e pos) (uAsg wa g) := by
  obtain ⟨t, p, q⟩ := h.ex
  obtain ⟨t2, p2, q2⟩ := hg.ex
  refine ⟨_, ps_asg p p2 hs hw h1, fun r l hw E => q r l hw fun v d M1 F1 H1 s1 r1 dv z => ?_⟩
  exact q2 r1 dv z fun M' σ' _ r' z' => E.nx _ _ _ _ s1 r' z'
/-- x = e -/
theorem dS_set {i : Nat} {x : Str} {pos' : Pos} (hN : X.N.Nodup) (hi : X.N[i]? = some x) (hx : Loc X.env.scope x) (h : DE X R e wa) (hs : swapsWith e (some (.Name x pos')) pos.line X.env = pure false := by rfl) (hf : X.fn x = true ∨ X.env.scope.names.lookup x = some .local := by first | exact .inl rfl | exact .inr rfl | assumption) :
    DS X R (.Assign [.Name x pos'] e pos) (uAsg wa (gSet i)) := by
  obtain ⟨t, p, q⟩ := h.ex
  exact ⟨_, ps_set hN hi hx p hs hf, fun r l hw E => q r l hw fun v d M1 F1 H1 s1 r1 dv z => E.nx _ _ _ _ s1 (r1.setIm dv) z⟩
/-- x = e, e an object of nobody's -/
def uAsgO (wa : WE) (i : Nat) : WS := fun xn De M => wa xn M fun d M1 => De.nx (M1.set i (.ow d))
theorem dS_setO {i : Nat} {x : Str} {pos' : Pos} (hN : X.N.Nodup) (hi : X.N[i]? = some x) (hx : Loc X.env.scope x) (h : DF X R e wa) (hs : swapsWith e (some (.Name x pos')) pos.line X.env = pure false := by rfl) (hf : X.fn x = true ∨ X.env.scope.names.lookup x = some .local := by first | exact .inl rfl | exact .inr rfl | assumption) :
    DS X R (.Assign [.Name x pos'] e pos) (uAsgO wa i) := by
  obtain ⟨t, p, q⟩ := h.ex
  exact ⟨_, ps_set hN hi hx p hs hf, fun r l hw E => q r l hw fun v d M1 F1 H1 s1 r1 dv z => E.nx _ _ _ _ s1 (r1.setOw dv) z⟩
/-! x, y = e1, e2 -/
def uPar (i j : Nat) (wl : WL) : WS := fun xn De M => wl xn M fun ds M1 => match ds with
  | [d1, d2] => De.nx ((M1.set i (.im d1)).set j (.im d2))
  | _ => False
theorem dS_par {i j : Nat} {x y : Str} {px py pt : Pos} {kt k2 : Nat} {pt2 : Pos} {wl : WL} (hc : X.calm = true) (hN : X.N.Nodup) (hi : X.N[i]? = some x) (hj : X.N[j]? = some y) (hij : i ≠ j)
    (hx : X.env.scope.names.lookup x = some .local) (hy : X.env.scope.names.lookup y = some .local) (h : DL X R [a, b] wl)
    (hw : swappedStores [.Tuple [.Name x px, .Name y py] kt pt] (.Tuple [a, b] k2 pt2) X.env = pure (some [x, y]) := by rfl)
    (hs : swapsWithSole [.Tuple [.Name x px, .Name y py] kt pt] (.Tuple [a, b] k2 pt2) pos.line X.env = pure false := by rfl) :
    DS X R (.Assign [.Tuple [.Name x px, .Name y py] kt pt] (.Tuple [a, b] k2 pt2) pos) (uPar i j wl) := by
  obtain ⟨t, p, q⟩ := h.ex
  refine ⟨_, ps_par hc hN hi hj hij hx hy p hw hs, fun r l hw E => q r l hw fun vs ds M1 F1 H1 s1 r1 dv z => ?_⟩
  cases dv with
  | nil => exact z.elim
  | cons h1 dv =>
    cases dv with
    | nil => exact z.elim
    | cons h2 dv =>
      cases dv with
      | nil => exact ⟨_, _, rfl, E.nx _ _ _ _ s1 ((r1.setIm h1).setIm h2) z⟩
      | cons _ _ => exact z.elim

/-! what an owned slot holds is changed -/
theorem Rel.writeOw {F0 H0 F H : Hp} {W : Option (Addr × Addr)} {M : Mem} {σ : List (Option V)} {i : Nat} {p : Addr} {d d' : PyData} {o : HO} (r : Rel K F0 H0 W M σ F H) (he : M.env[i]? = some (some (.ow d))) (hs : σ[i]? = some (some (.ref p)))
    (ho : OwAt K F (upd H p o) p d') : Rel K F0 H0 W (M.set i (.ow d')) σ F (upd H p o) := by
  obtain ⟨v, h1, q, e1, ow, nf, n0, nw⟩ := r.slt i _ he
  rw [hs] at h1
  cases h1
  cases e1
  have neF : ∀ b u, F b = some u → b ≠ p := fun b u e z => by subst z; rw [nf] at e; cases e
  refine ⟨fun b u e => by rw [upd_ne (neF b u e)]; exact r.sub b u e, fun b u e n => ?_, r.fol, r.fnw, by simp [Mem.set, r.len], fun j e hj => ?_, fun x y dx dy v ne hx hy sx sy => ?_, ?_⟩
  · have : b ≠ p := fun z => by subst z; rw [n0] at e; cases e
    rw [upd_ne this]; exact r.old b u e n
  · rcases getSet hj with ⟨rfl, z⟩ | ⟨ne, hj⟩
    · cases z
      exact ⟨.ref p, hs, p, rfl, ho, nf, n0, nw⟩
    · obtain ⟨v, g1, g2⟩ := r.slt j e hj
      refine ⟨v, g1, ?_⟩
      cases e with
      | im d => exact g2
      | wel => exact g2
      | scr ns => exact g2
      | exc _ _ _ _ _ => exact g2
      | rng _ _ => exact g2
      | ow d2 =>
        obtain ⟨q, rfl, a1, a2⟩ := g2
        have : q ≠ p := fun z => by subst z; exact r.dis i j d d2 _ ne he hj hs g1
        exact ⟨q, rfl, a1.move (.refl _) (upd_ne this), a2⟩
      | ro d2 =>
        obtain ⟨q, rfl, a1, ⟨u, hu⟩, a3⟩ := g2
        have : q ≠ p := fun z => by subst z; rw [n0] at hu; cases hu
        exact ⟨q, rfl, a1.move (.refl _) (upd_ne this), ⟨u, hu⟩, a3⟩
  · have fx : ∀ {x : Nat} {dx : PyData}, (M.set i (.ow d')).env[x]? = some (some (.ow dx)) → ∃ dz, M.env[x]? = some (some (.ow dz)) := fun {x dx} hx => by
      rcases getSet hx with ⟨rfl, z⟩ | ⟨ne, hx⟩
      · exact ⟨_, he⟩
      · exact ⟨_, hx⟩
    obtain ⟨d1, h1⟩ := fx hx
    obtain ⟨d2, h2⟩ := fx hy
    exact r.dis x y d1 d2 v ne h1 h2 sx sy
  · show WelR F (upd H p o) W M.wl
    have wl := r.wel
    cases W with
    | none => cases hm : M.wl <;> rw [hm] at wl <;> exact wl
    | some z =>
      obtain ⟨q, t⟩ := z
      cases hm : M.wl with
      | none => rw [hm] at wl; exact wl
      | some w =>
        rw [hm] at wl
        obtain ⟨a, b, c⟩ := wl
        have nq : q ≠ p := fun z => nw (by subst z; exact .inl rfl)
        have nt : t ≠ p := fun z => nw (by subst z; exact .inr rfl)
        exact ⟨⟨by rw [upd_ne nq]; exact a.dic, by rw [upd_ne nt]; exact a.lst, a.ne⟩, b, c⟩
/-- xs.append(e) -/
def wApp (i : Nat) (wa : WE) : WE := fun xn M Q => (∃ ds, M.env[i]? = some (some (.ow (.list ds)))) ∧ wa xn M fun d M1 => match M1.env[i]? with
  | some (some (.ow (.list ds))) => ds.length < sizeLine ∧ Q .none (M1.set i (.ow (.list (ds ++ [d]))))
  | _ => False
theorem Rel.owL {F0 H0 F H : Hp} {W : Option (Addr × Addr)} {M : Mem} {σ : List (Option V)} {i : Nat} {ds : List PyData} (r : Rel K F0 H0 W M σ F H) (he : M.env[i]? = some (some (.ow (.list ds)))) : ∃ p vs, σ[i]? = some (some (.ref p)) ∧ H p = some (.lst vs) ∧ DVs K F vs ds := by
  obtain ⟨v, h1, q, rfl, ow, _⟩ := r.slt i _ he
  cases ow with
  | lst a b => exact ⟨_, _, h1, a, b⟩
theorem dE_app {i : Nat} {x : Str} {xp apos : Pos} (h : DE X R e wa) (hN : X.N[i]? = some x := by rfl) (hv : Vis X.env.scope x := by first | exact Or.inl rfl | exact Or.inr (Or.inl rfl) | exact Or.inr (Or.inr rfl)) (hd : (x == ("__debug__" : Str)) = false := by decide)
    (hcd : (x == ("__classdict__" : Str)) = false := by decide)
    (hbase : attributeBase (.Name x xp) "append" X.env (eval (.Name x xp) X.env) = eval (.Name x xp) X.env := by rfl)
    (hfew : ((backTo pos (starEach [e] X.env)).all (fun x => !x.1) && (backToKw pos (keywordEach [] X.env)).all (fun x => x.1.isSome)
      && decide ([e].length + ([] : List Keyword).length + (if ([] : List Keyword).isEmpty then 0 else 1) < 30)) = true := by rfl)
    (hline : (apos.endLine == pos.line) = true := by rfl) (hs : starEach [e] X.env = (false, eval e X.env) :: starEach [] X.env := by rfl) (hplain : (backTo pos (starEach [] X.env)).any (·.1) = false := by rfl) :
    DE X R (.Call (.Attribute (.Name x xp) "append" apos) [e] [] pos) (wApp i wa) := by
  obtain ⟨t, p, q⟩ := h.ex
  refine ⟨_, pe_bm PySem.F.plainAttrs_list PySem.F.slot_list_append PySem.F.type_list_append mt_append (pe_var (i := i) hN hv hd hcd) (pa_cons p pa_nil hs) hbase hfew hline hs hplain, fun {F0 H0 F H W M σ xn Q k} r l hw kk => ?_⟩
  obtain ⟨⟨ds0, e0⟩, hw⟩ := hw
  obtain ⟨p0, vs0, s0, h0, _⟩ := r.owL e0
  refine ⟨.ref p0, s0, .inl ⟨rfl, _, SqL.of h0⟩, q r l hw fun v d M1 F1 H1 s1 r1 dv z => ?_⟩
  split at z
  · rename_i ds e1
    obtain ⟨p1, vs, s1', h1, d1⟩ := r1.owL e1
    rw [s0] at s1'
    cases s1'
    refine ⟨p0, vs, v, rfl, rfl, h1, by rw [d1.len]; exact z.1, ?_⟩
    exact kk _ _ _ _ _ s1 (r1.writeOw e1 s0 (.lst upd_same (d1.app (.cons dv .nil)))) .non z.2
  · exact z.elim
/-- xs.extend(list) -/
def wExt (i : Nat) (wa : WE) : WE := fun xn M Q => (∃ ds, M.env[i]? = some (some (.ow (.list ds)))) ∧ wa xn M fun d M1 => match d, M1.env[i]? with
  | .list es, some (some (.ow (.list ds))) => ds.length + es.length ≤ sizeLine ∧ Q .none (M1.set i (.ow (.list (ds ++ es))))
  | _, _ => False
theorem dE_ext {i : Nat} {x : Str} {xp apos : Pos} (h : DE X R e wa) (hN : X.N[i]? = some x := by rfl) (hv : Vis X.env.scope x := by first | exact Or.inl rfl | exact Or.inr (Or.inl rfl) | exact Or.inr (Or.inr rfl)) (hd : (x == ("__debug__" : Str)) = false := by decide)
    (hcd : (x == ("__classdict__" : Str)) = false := by decide)
    (hbase : attributeBase (.Name x xp) "extend" X.env (eval (.Name x xp) X.env) = eval (.Name x xp) X.env := by rfl)
    (hfew : ((backTo pos (starEach [e] X.env)).all (fun x => !x.1) && (backToKw pos (keywordEach [] X.env)).all (fun x => x.1.isSome)
      && decide ([e].length + ([] : List Keyword).length + (if ([] : List Keyword).isEmpty then 0 else 1) < 30)) = true := by rfl)
    (hline : (apos.endLine == pos.line) = true := by rfl) (hs : starEach [e] X.env = (false, eval e X.env) :: starEach [] X.env := by rfl) (hplain : (backTo pos (starEach [] X.env)).any (·.1) = false := by rfl) :
    DE X R (.Call (.Attribute (.Name x xp) "extend" apos) [e] [] pos) (wExt i wa) := by
  obtain ⟨t, p, q⟩ := h.ex
  refine ⟨_, pe_bm PySem.F.plainAttrs_list PySem.F.slot_list_extend PySem.F.type_list_extend mt_extend (pe_var (i := i) hN hv hd hcd) (pa_cons p pa_nil hs) hbase hfew hline hs hplain, fun {F0 H0 F H W M σ xn Q k} r l hw kk => ?_⟩
  obtain ⟨⟨ds0, e0⟩, hw⟩ := hw
  obtain ⟨p0, vs0, s0, h0, _⟩ := r.owL e0
  refine ⟨.ref p0, s0, .inl ⟨rfl, _, SqL.of h0⟩, q r l hw fun v d M1 F1 H1 s1 r1 dv z => ?_⟩
  split at z
  · rename_i es ds e1
    obtain ⟨p1, vs, s1', h1, d1⟩ := r1.owL e1
    rw [s0] at s1'
    cases s1'
    cases dv with
    | lst hb db =>
      refine ⟨p0, _, vs, _, rfl, rfl, h1, r1.sub _ _ hb, by rw [d1.len, db.len]; exact z.1, ?_⟩
      exact kk _ _ _ _ _ s1 (r1.writeOw e1 s0 (.lst upd_same (d1.app db))) .non z.2
  · exact z.elim
/-- xs.pop() -/
def wPop (i : Nat) : WE := fun _ M Q => match M.env[i]? with
  | some (some (.ow (.list ds))) => match ds[ds.length - 1]? with
    | some d => Q d (M.set i (.ow (.list ds.dropLast)))
    | none => False
  | _ => False
theorem DVs.dropLast {F : Hp} : ∀ {vs : List V} {ds : List PyData}, DVs K F vs ds → DVs K F vs.dropLast ds.dropLast := fun {vs ds} h => by
  rw [List.dropLast_eq_take, List.dropLast_eq_take, h.len]
  exact h.take _
theorem dE_pop {i : Nat} {x : Str} {xp apos : Pos} (hN : X.N[i]? = some x := by rfl) (hv : Vis X.env.scope x := by first | exact Or.inl rfl | exact Or.inr (Or.inl rfl) | exact Or.inr (Or.inr rfl)) (hd : (x == ("__debug__" : Str)) = false := by decide)
    (hcd : (x == ("__classdict__" : Str)) = false := by decide)
    (hbase : attributeBase (.Name x xp) "pop" X.env (eval (.Name x xp) X.env) = eval (.Name x xp) X.env := by rfl) (hline : (apos.endLine == pos.line) = true := by rfl) :
    DE X R (.Call (.Attribute (.Name x xp) "pop" apos) [] [] pos) (wPop i) := by
  refine ⟨_, pe_bm0 PySem.F.plainAttrs_list PySem.F.slot_list_pop PySem.F.type_list_pop mt_pop (pe_var (i := i) hN hv hd hcd) hbase hline, fun {F0 H0 F H W M σ xn Q k} r l hw kk => ?_⟩
  unfold wPop at hw
  split at hw
  · rename_i ds e0
    split at hw
    · rename_i d e1
      obtain ⟨p0, vs0, s0, h0, d0⟩ := r.owL e0
      rw [← d0.len] at e1
      obtain ⟨v, g1, g2⟩ := d0.get e1
      refine ⟨.ref p0, s0, .inl ⟨rfl, _, SqL.of h0⟩, p0, vs0, v, rfl, rfl, h0, g1, ?_⟩
      exact kk _ _ _ _ _ (.refl _) (r.writeOw e0 s0 (.lst upd_same d0.dropLast)) g2 hw
    · exact hw.elim
  · exact hw.elim
/-- xs[i] = e -/
def uPut (i : Nat) (wa : WE) (oa : WO) : WS := fun xn De M => wa xn M fun d M1 => (∃ ds, M1.env[i]? = some (some (.ow (.list ds)))) ∧ oa xn M1 fun o M2 => match o.get M2, M2.env[i]? with
  | some (.int j), some (some (.ow (.list ds))) => match ixN ds.length j with
    | some n => De.nx (M2.set i (.ow (.list (ds.set n d))))
    | none => False
  | _, _ => False
theorem dS_put {i : Nat} {x : Str} {xp p2 : Pos} (h : DE X R e wa) (hi : DO X R a oa) (hN : X.N[i]? = some x := by rfl) (hv : Vis X.env.scope x := by first | exact Or.inl rfl | exact Or.inr (Or.inl rfl) | exact Or.inr (Or.inr rfl)) (hd : (x == ("__debug__" : Str)) = false := by decide)
    (hcd : (x == ("__classdict__" : Str)) = false := by decide)
    (ha : ∀ v, assign (.Subscript (.Name x xp) a p2) X.env v = (do
      let ov ← holding [v] (eval (.Name x xp) X.env)
      let iv ← holding [v, ov] (eval a X.env)
      standAt p2
      holding [v, ov, iv] (setItem ov iv v)
      release [v, ov, iv] []) := by intro _; rfl)
    (hs : swapsWithSole [.Subscript (.Name x xp) a p2] e pos.line X.env = pure false := by rfl) (hw : swappedStores [.Subscript (.Name x xp) a p2] e X.env = pure none := by rfl)
    (h1 : (assignEach [.Subscript (.Name x xp) a p2] X.env).map (·.2) = [assign (.Subscript (.Name x xp) a p2) X.env] := by rfl) : DS X R (.Assign [.Subscript (.Name x xp) a p2] e pos) (uPut i wa oa) := by
  obtain ⟨t, p, q⟩ := h.ex
  obtain ⟨t2, p2', q2⟩ := hi.ex
  refine ⟨_, ps_asg p (pg_sub (pe_var (i := i) hN hv hd hcd) p2' set_list ha) hs hw h1, fun {F0 H0 F H W M σ xn De D} r l hw E => ?_⟩
  refine q r l hw fun v d M1 F1 H1 s1 r1 dv z => ?_
  obtain ⟨⟨ds0, e0⟩, z⟩ := z
  obtain ⟨p0, vs0, s0, h0, _⟩ := r1.owL e0
  refine ⟨.ref p0, s0, q2 r1 l z fun vi o M2 F2 H2 s2 r2 ho z2 => ?_⟩
  split at z2
  · rename_i j ds eo e1
    split at z2
    · rename_i n en
      obtain ⟨p1, vs, s1', h1, d1⟩ := r2.owL e1
      rw [s0] at s1'
      cases s1'
      rw [(r2.opd ho eo).int]
      refine ⟨p0, vs, j, n, rfl, rfl, h1, by rw [d1.len]; exact en, ?_⟩
      exact E.nx _ _ _ _ (s1.trans s2) (r2.writeOw e1 s0 (.lst upd_same (d1.set n (dv.same s2)))) z2
    · exact z2.elim
  · exact z2.elim
end
end DL

/-! DL6: walks, for, while, comprehensions, a def by its body, calls by keywords. -/
namespace DL
open PySem PySem.Spec L2 PyProof.Rows
/-- the walk J yields the data ds, whatever grows meanwhile -/
structure Walks (K : PySem.W.Frag) (J : It) (F : Hp) (ds : List PyData) : Prop where
  stop : ∀ F' H', Same F F' → Same F' H' → J.stop ds.length H'
  go : ∀ (i : Nat) d F' H', ds[i]? = some d → Same F F' → Same F' H' → J.go i H' ∧ ∀ x H'', J.yld i H' x H'' → ∃ F'', Grow F' H' F'' H'' ∧ DV K F'' x d
abbrev WI := Xn → Mem → (List PyData → Mem → Prop) → Prop
structure DI (X : Cx) (R : XP) (tg iter : Expr) (w : WI) : Prop where
  ex : ∃ wi : TI, PI X tg iter wi ∧ ∀ {F0 H0 F H : Hp} {W : Option (Addr × Addr)} {M : Mem} {σ : List (Option V)} {xn : Xn} {Q : List PyData → Mem → Prop} {k : It → Hp → Prop}, Rel X.K F0 H0 W M σ F H → Lnk X.K R F0 H0 W xn → w xn M Q →
    (∀ J ds M' F' H', Same F F' → Rel X.K F0 H0 W M' σ F' H' → Walks X.K J F' ds → Q ds M' → k J H') → wi σ H k
section
variable {X : Cx} {R : XP} {K : PySem.W.Frag} {e a b c tg iter : Expr} {es : List Expr} {st : Stmt} {rest body : List Stmt} {pos : Pos} {wa wb wc : WE} {oa ob oc : WO} {ta tb : WT} {u v : WS}
/-! what is walked -/
def iL (wa : WE) : WI := fun xn M Q => wa xn M fun d M1 => match d with
  | .list ds => Q ds M1
  | _ => False
def iT (wa : WE) : WI := fun xn M Q => wa xn M fun d M1 => match d with
  | .tuple ds => Q ds M1
  | _ => False
def iS (wa : WE) : WI := fun xn M Q => wa xn M fun d M1 => match d with
  | .str s => Q (s.cps.toList.map fun c => .str (S [c])) M1
  | _ => False
theorem walk_list {F : Hp} {p : Addr} {vs : List V} {ds : List PyData} (h : F p = some (.lst vs)) (hd : DVs K F vs ds) : Walks K (Itl K p) F ds where
  stop := fun F' H' s s' => ⟨vs, SqL.of (s' _ _ (s _ _ h)), by rw [hd.len]; exact Nat.le_refl _⟩
  go := fun i d F' H' e s s' => by
    obtain ⟨v, h1, h2⟩ := hd.get e
    refine ⟨⟨vs, v, SqL.of (s' _ _ (s _ _ h)), h1⟩, fun x H'' y => ?_⟩
    obtain ⟨rfl, y⟩ := y
    have := y vs (SqL.of (s' _ _ (s _ _ h)))
    rw [h1] at this
    cases this
    exact ⟨F', Grow.refl s', h2.same s⟩
theorem walk_tup {F : Hp} {p : Addr} {vs : List V} {ds : List PyData} (h : SqT K F p vs) (hd : DVs K F vs ds) : Walks K (Itt K p) F ds where
  stop := fun F' H' s s' => ⟨vs, sameT s' (sameT s h), by rw [hd.len]; exact Nat.le_refl _⟩
  go := fun i d F' H' e s s' => by
    obtain ⟨v, h1, h2⟩ := hd.get e
    refine ⟨⟨vs, v, sameT s' (sameT s h), h1⟩, fun x H'' y => ?_⟩
    obtain ⟨rfl, y⟩ := y
    have := y vs (sameT s' (sameT s h))
    rw [h1] at this
    cases this
    exact ⟨F', Grow.refl s', h2.same s⟩
theorem walk_str {F : Hp} {s : Str} : Walks K (Its s) F (s.cps.toList.map fun c => .str (S [c])) where
  stop := fun F' H' _ _ => by show s.cps.size ≤ _; simp
  go := fun i d F' H' e _ s' => by
    rw [List.getElem?_map] at e
    cases z : s.cps.toList[i]? with
    | none => rw [z] at e; cases e
    | some c =>
      rw [z] at e
      cases e
      have hl : i < s.cps.size := by have := (List.getElem?_eq_some_iff.mp z).1; simpa using this
      refine ⟨hl, fun x H'' y => ?_⟩
      obtain ⟨rfl, c', h1, rfl⟩ := y
      have : s.cps[i]? = some c := by simpa using z
      rw [this] at h1
      cases h1
      exact ⟨F', Grow.refl s', .str _⟩
theorem dI_l (h : DE X R e wa) : DI X R tg e (iL wa) := by
  obtain ⟨t, p, q⟩ := h.ex
  refine ⟨_, pi_list p, fun r l hw kk => q r l hw fun v d M1 F1 H1 s1 r1 dv z => ?_⟩
  cases dv with
  | lst h hd => exact ⟨_, rfl, ⟨_, SqL.of (r1.sub _ _ h)⟩, kk _ _ _ _ _ s1 r1 (walk_list h hd) z⟩
  | _ => exact z.elim
theorem dI_t (h : DE X R e wa) : DI X R tg e (iT wa) := by
  obtain ⟨t, p, q⟩ := h.ex
  refine ⟨_, pi_tup p, fun r l hw kk => q r l hw fun v d M1 F1 H1 s1 r1 dv z => ?_⟩
  cases dv with
  | tup h hd => exact ⟨_, rfl, ⟨_, SqT.of (r1.sub _ _ h)⟩, kk _ _ _ _ _ s1 r1 (walk_tup (SqT.of h) hd) z⟩
  | _ => exact z.elim
theorem dI_s (h : DE X R e wa) : DI X R tg e (iS wa) := by
  obtain ⟨t, p, q⟩ := h.ex
  refine ⟨_, pi_str p, fun r l hw kk => q r l hw fun v d M1 F1 H1 s1 r1 dv z => ?_⟩
  cases dv with
  | str s => exact ⟨_, rfl, kk _ _ _ _ _ s1 r1 walk_str z⟩
  | _ => exact z.elim
/-! ranges -/
def rng (lo : Int) (n : Nat) : List PyData := (List.range n).map fun k => .int (lo + (k : Nat))
theorem walk_rng {F : Hp} {lo : Int} {n : Nat} : Walks K (Itr lo n) F (rng lo n) where
  stop := fun F' H' _ _ => by show n ≤ _; simp [rng]
  go := fun i d F' H' e _ s' => by
    unfold rng at e
    rw [List.getElem?_map] at e
    cases z : (List.range n)[i]? with
    | none => rw [z] at e; cases e
    | some c =>
      rw [z] at e
      cases e
      obtain ⟨hl, hc⟩ := List.getElem?_eq_some_iff.mp z
      simp at hl hc
      subst hc
      refine ⟨hl, fun x H'' y => ?_⟩
      obtain ⟨rfl, rfl⟩ := y
      exact ⟨F', Grow.refl s', .int _⟩
def iR1 (os : WOs) : WI := fun xn M Q => os xn M fun xs M1 => match getAll xs M1 with
  | some [.int j] => (-(2 ^ 62) ≤ j ∧ j < 2 ^ 62) ∧ Q (rng 0 j.toNat) M1
  | _ => False
def iR2 (os : WOs) : WI := fun xn M Q => os xn M fun xs M1 => match getAll xs M1 with
  | some [.int i, .int j] => (-(2 ^ 62) ≤ i ∧ i < 2 ^ 62 ∧ -(2 ^ 62) ≤ j ∧ j < 2 ^ 62) ∧ Q (rng i (j - i).toNat) M1
  | _ => False
theorem Views.cons' {F H : Hp} {vs : List V} {d : PyData} {ds : List PyData} (h : Views K F H vs (d :: ds)) : ∃ v ws, vs = v :: ws ∧ View K F H v d ∧ Views K F H ws ds := by
  cases h with
  | cons a b => exact ⟨_, _, rfl, a, b⟩
theorem Views.nil' {F H : Hp} {vs : List V} (h : Views K F H vs []) : vs = [] := by cases h; rfl
theorem Views.one {F H : Hp} {vs : List V} {d : PyData} (h : Views K F H vs [d]) : ∃ v, vs = [v] ∧ View K F H v d := by
  obtain ⟨v, ws, rfl, a, b⟩ := h.cons'
  rw [b.nil']
  exact ⟨v, rfl, a⟩
theorem Views.two {F H : Hp} {vs : List V} {d d' : PyData} (h : Views K F H vs [d, d']) : ∃ v w, vs = [v, w] ∧ View K F H v d ∧ View K F H w d' := by
  obtain ⟨v, ws, rfl, a, b⟩ := h.cons'
  obtain ⟨w, rfl, b'⟩ := b.one
  exact ⟨v, w, rfl, a, b'⟩
theorem dI_r1 {p : Pos} {os : WOs} (hg : Gl X "range") (hm : X.mg "range" = none) (h : DOs X R [a] os) (hs : starEach [a] X.env = [(false, eval a X.env)] := by rfl) : DI X R tg (.Call (.Name "range" p) [a] [] pos) (iR1 os) := by
  obtain ⟨t, p, q⟩ := h.ex
  refine ⟨_, pi_range1 hg hm p hs, fun r l hw kk => q r l hw fun vs xs M1 F1 H1 s1 r1 hx z => ?_⟩
  split at z
  · rename_i j e
    obtain ⟨v, rfl, hv⟩ := (views_of r1 hx e).one
    exact ⟨j, by rw [hv.int], z.1.1, z.1.2, kk _ _ _ _ _ s1 r1 walk_rng z.2⟩
  · exact z.elim
theorem dI_r2 {p : Pos} {os : WOs} (hg : Gl X "range") (hm : X.mg "range" = none) (h : DOs X R [a, b] os) (hs : starEach [a, b] X.env = [(false, eval a X.env), (false, eval b X.env)] := by rfl) (hs2 : starEach [b] X.env = [(false, eval b X.env)] := by rfl) : DI X R tg (.Call (.Name "range" p) [a, b] [] pos) (iR2 os) := by
  obtain ⟨t, p, q⟩ := h.ex
  refine ⟨_, pi_range2 hg hm p hs hs2, fun r l hw kk => q r l hw fun vs xs M1 F1 H1 s1 r1 hx z => ?_⟩
  split at z
  · rename_i i j e
    obtain ⟨v, w, rfl, hv, hw2⟩ := (views_of r1 hx e).two
    exact ⟨i, j, by rw [hv.int, hw2.int], z.1, kk _ _ _ _ _ s1 r1 walk_rng z.2⟩
  · exact z.elim

/-! for -/
def forW (ks : List Nat) (g : WG) (tb : WS) (xn : Xn) (De : DEn) (ds : List PyData) (M : Mem) : Prop := ∃ I : Nat → Mem → Prop, I 0 M ∧ (∀ i d M', ds[i]? = some d → I i M' →
  g d (M'.kill ks) fun M1 => tb xn { nx := I (i + 1), rt := De.rt, bk := fun M'' => De.nx (M''.kill ks), ct := I (i + 1) } M1) ∧ ∀ M', I ds.length M' → De.nx (M'.kill ks)
def uFor (ks : List Nat) (wi : WI) (g : WG) (tb : WS) : WS := fun xn De M => wi xn M fun ds M1 => forW ks g tb xn De ds M1
theorem dS_for (ks : List Nat) {wi : WI} {g : WG} {is : List Nat} {tb : WS} (hp : PassesOwn (model X.prog X.w) X.A X.env X.xe) (hc : X.calm = true) (hi : DI X R tg iter wi) (hg : DG X tg is g) (hb : DSs X R body tb) (hs : ∀ x, foldedSetIterable iter X.env x = pure x := by intro _; rfl) : DS X R (.For tg iter body [] pos) (uFor ks wi g tb) := by
  obtain ⟨t1, p1, q1⟩ := hi.ex
  obtain ⟨t2, p2, q2⟩ := hg.ex
  obtain ⟨t3, p3, q3⟩ := hb.ex
  refine ⟨_, ps_for hp hc p1 p2 p3 (hs := hs), fun {F0 H0 F H W M σ xn De D} r l hw E => ?_⟩
  refine q1 r l hw fun J ds M1 F1 H1 s1 r1 wk z => ?_
  obtain ⟨I, z0, zs, ze⟩ := z
  refine ⟨fun i m σ' H' => ∃ M' F', i + m = ds.length ∧ Same F1 F' ∧ Rel X.K F0 H0 W M' σ' F' H' ∧ I i M', ⟨ds.length, M1, F1, by omega, .refl _, r1, z0⟩, fun i m σ' H' hW => ?_⟩
  obtain ⟨M', F', em, s2, r2, z2⟩ := hW
  cases hd : ds[i]? with
  | none =>
    have hl : ds.length ≤ i := List.getElem?_eq_none_iff.mp hd
    have : i = ds.length := by omega
    subst this
    exact .inl ⟨wk.stop F' H' s2 r2.sub, E.nx _ _ _ _ (s1.trans s2) (r2.kill ks) (ze _ z2)⟩
  | some d =>
    have hl : i < ds.length := (List.getElem?_eq_some_iff.mp hd).1
    have z2 := zs i d M' hd z2
    obtain ⟨g1, g2⟩ := wk.go i d F' H' hd s2 r2.sub
    refine .inr ⟨g1, fun σ'' H'' => ∃ M'' F'', Same F1 F'' ∧ Rel X.K F0 H0 W M'' σ'' F'' H'' ∧ I (i + 1) M'', fun σ'' H'' hN => ?_, fun x H'' hy => ?_⟩
    · obtain ⟨M'', F'', a1, a2, a3⟩ := hN
      exact ⟨m - 1, by omega, M'', F'', by omega, a1, a2, a3⟩
    · obtain ⟨F'', gr, dv⟩ := g2 x H'' hy
      have r3 := (r2.kill ks).grow gr
      refine q2 r3 dv z2 fun M3 σ3 _ r4 z3 => ?_
      have s4 := s2.trans gr.f
      refine q3 r4 l z3 ⟨fun Ma σa Fa Ha sa ra za => ⟨Ma, Fa, s4.trans sa, ra, za⟩, fun v d Ma σa Fa Ha sa ra dva za => E.rt _ _ _ _ _ _ (s1.trans (s4.trans sa)) ra dva za,
        fun Ma σa Fa Ha sa ra za => E.nx _ _ _ _ (s1.trans (s4.trans sa)) (ra.kill ks) za, fun Ma σa Fa Ha sa ra za => ⟨Ma, Fa, s4.trans sa, ra, za⟩⟩

/-! while -/
def uWhile (ks : List Nat) (tc : WT) (tb : WS) : WS := fun xn De M => ∃ Wm : Nat → Mem → Prop, (∃ m, Wm m (M.kill ks)) ∧ ∀ m M, Wm m M → tc xn M fun b M1 => if b = true then
  tb xn { nx := fun M' => ∃ m', m' < m ∧ Wm m' (M'.kill ks), rt := De.rt, bk := fun M' => De.nx (M'.kill ks), ct := fun M' => ∃ m', m' < m ∧ Wm m' (M'.kill ks) } M1 else De.nx M1
theorem dS_while (ks : List Nat) {tb : WS} (hp : PassesOwn (model X.prog X.w) X.A X.env X.xe) (hc : DT X R c ta) (hb : DSs X R body tb) : DS X R (.While c body [] pos) (uWhile ks ta tb) := by
  obtain ⟨t1, p1, q1⟩ := hc.ex
  obtain ⟨t3, p3, q3⟩ := hb.ex
  refine ⟨_, ps_while hp p1 p3, fun {F0 H0 F H W M σ xn De D} r l hw E => ?_⟩
  obtain ⟨Wm, ⟨m0, h0⟩, hs⟩ := hw
  refine ⟨fun m σ' H' => ∃ M' F', Same F F' ∧ Rel X.K F0 H0 W M' σ' F' H' ∧ Wm m M', ⟨m0, _, F, .refl _, r.kill ks, h0⟩, fun m σ' H' hW => ?_⟩
  obtain ⟨M', F', s2, r2, z2⟩ := hW
  refine q1 r2 l (hs m M' z2) fun b M1 F1 H1 s1 r1 z => ?_
  cases b with
  | true =>
    refine ⟨fun σa Ha => ∃ m', m' < m ∧ ∃ Ma Fa, Same F Fa ∧ Rel X.K F0 H0 W Ma σa Fa Ha ∧ Wm m' Ma, fun σa Ha ⟨m', a1, a2⟩ => ⟨m', a1, a2⟩, ?_⟩
    refine q3 r1 l z ⟨fun Ma σa Fa Ha sa ra ⟨m', y1, y2⟩ => ⟨m', y1, _, Fa, s2.trans (s1.trans sa), ra.kill ks, y2⟩, fun v d Ma σa Fa Ha sa ra dva za => E.rt _ _ _ _ _ _ (s2.trans (s1.trans sa)) ra dva za,
      fun Ma σa Fa Ha sa ra za => E.nx _ _ _ _ (s2.trans (s1.trans sa)) (ra.kill ks) za, fun Ma σa Fa Ha sa ra ⟨m', y1, y2⟩ => ⟨m', y1, _, Fa, s2.trans (s1.trans sa), ra.kill ks, y2⟩⟩
  | false => exact E.nx _ _ _ _ (s2.trans s1) r1 z

/-! comprehensions -/
def Ent.ro' : Ent → Ent
  | .ow d => .ro d
  | e => e
def Mem.ro (M : Mem) : Mem := ⟨M.env.map (·.map Ent.ro'), M.wl⟩
theorem Rel.toRo {F0 H0 F H : Hp} {W : Option (Addr × Addr)} {M : Mem} {σ : List (Option V)} (r : Rel K F0 H0 W M σ F H) : Rel K F H W M.ro σ F H where
  sub := r.sub
  old := fun _ _ e _ => e
  fol := .refl _
  fnw := fun _ _ e => .inl e
  len := by simp [Mem.ro, r.len]
  slt := fun i e h => by
    have : ∃ e0, M.env[i]? = some (some e0) ∧ e = Ent.ro' e0 := by
      simp only [Mem.ro, List.getElem?_map] at h
      cases z : M.env[i]? with
      | none => rw [z] at h; simp at h
      | some y =>
        rw [z] at h
        cases y with
        | none => simp at h
        | some e0 => simp at h; exact ⟨e0, rfl, h.symm⟩
    obtain ⟨e0, h0, rfl⟩ := this
    obtain ⟨v, h1, h2⟩ := r.slt i e0 h0
    refine ⟨v, h1, ?_⟩
    cases e0 with
    | im d => exact h2
    | wel => exact h2
    | scr ns => exact h2
    | exc _ _ _ _ _ => exact h2
    | rng _ _ => exact h2
    | ow d =>
      obtain ⟨p, rfl, o, n, n0, nw⟩ := h2
      obtain ⟨u, hu⟩ := o.there
      exact ⟨p, rfl, o, ⟨u, hu⟩, nw⟩
    | ro d =>
      obtain ⟨p, rfl, o, n0, nw⟩ := h2
      obtain ⟨u, hu⟩ := o.there
      exact ⟨p, rfl, o, ⟨u, hu⟩, nw⟩
  dis := fun i j d e v ne h => by
    exfalso
    simp only [Mem.ro, List.getElem?_map] at h
    cases z : M.env[i]? with
    | none => rw [z] at h; simp at h
    | some y =>
      rw [z] at h
      cases y with
      | none => simp at h
      | some e0 => cases e0 <;> simp [Ent.ro'] at h
  wel := r.wel
theorem Rel.after {F H F' H' : Hp} {W : Option (Addr × Addr)} {M : Mem} {σ : List (Option V)} (r : Rel K F H W M σ F' H') : After F H W F' H' := ⟨r.fol, r.sub, r.old, r.fnw⟩
def compW (vs : List Nat) (g : WG) (tt : WT) (te : WE) (xn : Xn) (env : List (Option Ent)) (ds : List PyData) (wl : Option Wel) (Q : List PyData → Option Wel → Prop) : Prop := ∃ I : Nat → List PyData → Option Wel → Prop, I 0 [] wl ∧
  (∀ i d ys wl', ds[i]? = some d → I i ys wl' → g d ((Mem.mk env wl').ro.kill vs) fun M1 => tt xn M1 fun b M2 => if b = true then te xn M2 fun y M3 => I (i + 1) (ys ++ [y]) M3.wl else I (i + 1) ys M2.wl) ∧ ∀ ys wl', I ds.length ys wl' → Q ys wl'
def wComp (vs : List Nat) (wi : WI) (g : WG) (tt : WT) (te : WE) : WE := fun xn M Q => wi xn M fun ds M1 => ds.length ≤ sizeLine ∧ compW vs g tt te (fun _ _ => False) M1.env ds M1.wl fun ys wl => Q (.list ys) ⟨M1.env, wl⟩
structure DTs (X : Cx) (R : XP) (ifs : List Expr) (w : WT) : Prop where
  ex : ∃ t : TT, PTs X ifs t ∧ ∀ {F0 H0 F H : Hp} {W : Option (Addr × Addr)} {M : Mem} {σ : List (Option V)} {xn : Xn} {Q : Bool → Mem → Prop} {k : Bool → Hp → Prop}, Rel X.K F0 H0 W M σ F H → Lnk X.K R F0 H0 W xn → w xn M Q →
    (∀ b M' F' H', Same F F' → Rel X.K F0 H0 W M' σ F' H' → Q b M' → k b H') → t σ H k
def ttY : WT := fun _ M Q => Q true M
theorem dTs_n : DTs X R [] ttY := ⟨_, pts_nil, fun r _ hw kk => kk _ _ _ _ (.refl _) r hw⟩
theorem dTs_1 (h : DT X R c ta) : DTs X R [c] ta := by
  obtain ⟨t, p, q⟩ := h.ex
  exact ⟨_, pts_one p, q⟩
theorem wipe_eq {σ σ' : List (Option V)} {vs : List Nat} (hl : σ'.length = σ.length) (h : ∀ i : Nat, i ∉ vs → σ'[i]? = σ[i]?) : wipe σ' vs = wipe σ vs := by
  apply List.ext_getElem?
  intro i
  by_cases hi : i ∈ vs
  · have key : ∀ {τ : List (Option V)} {ws : List Nat}, i ∈ ws → (wipe τ ws)[i]? = if i < τ.length then some none else none := by
      intro τ ws
      induction ws with
      | nil => intro h; cases h
      | cons w ws ih =>
        intro h
        show ((wipe τ ws).set w none)[i]? = _
        by_cases e : w = i
        · subst e
          by_cases hl : w < τ.length
          · rw [List.getElem?_set_self (by rw [wipe_length]; exact hl), if_pos hl]
          · rw [if_neg hl]
            exact List.getElem?_eq_none_iff.mpr (by rw [List.length_set, wipe_length]; omega)
        · rw [List.getElem?_set_ne e]
          exact ih ((List.mem_cons.mp h).resolve_left fun z => e z.symm)
    rw [key hi, key hi, hl]
  · rw [wipe_out hi, wipe_out hi, h i hi]
/-- a comprehension's reading -/
theorem comp_run {wi : TI} {g0 : TG} {tt0 : TT} {te0 : TE} {own : List (Str × Nat)} {w : WI} {g : WG} {tt : WT} {te : WE} {is : List Nat} {elt : Expr} {ifs : List Expr} {scope : Scope}
    (hi : ∀ {F0 H0 F H : Hp} {W : Option (Addr × Addr)} {M : Mem} {σ : List (Option V)} {xn : Xn} {Q : List PyData → Mem → Prop} {k : It → Hp → Prop}, Rel K F0 H0 W M σ F H → Lnk K R F0 H0 W xn → w xn M Q →
      (∀ J ds M' F' H', Same F F' → Rel K F0 H0 W M' σ F' H' → Walks K J F' ds → Q ds M' → k J H') → wi σ H k)
    (hg : ∀ {F0 H0 F H : Hp} {W : Option (Addr × Addr)} {M : Mem} {σ : List (Option V)} {v : V} {d : PyData} {Q : Mem → Prop} {k : List (Option V) → Hp → Prop}, Rel K F0 H0 W M σ F H → DV K F v d → g d M Q →
      (∀ (M' : Mem) (σ' : List (Option V)), (∀ i : Nat, i ∉ is → σ'[i]? = σ[i]?) ∧ σ'.length = σ.length → Rel K F0 H0 W M' σ' F H → Q M' → k σ' H) → g0 v σ H k)
    (ht : ∀ {F0 H0 F H : Hp} {W : Option (Addr × Addr)} {M : Mem} {σ : List (Option V)} {xn : Xn} {Q : Bool → Mem → Prop} {k : Bool → Hp → Prop}, Rel K F0 H0 W M σ F H → Lnk K X0 F0 H0 W xn → tt xn M Q →
      (∀ b M' F' H', Same F F' → Rel K F0 H0 W M' σ F' H' → Q b M' → k b H') → tt0 σ H k)
    (he : ∀ {F0 H0 F H : Hp} {W : Option (Addr × Addr)} {M : Mem} {σ : List (Option V)} {xn : Xn} {Q : QD} {k : VK}, Rel K F0 H0 W M σ F H → Lnk K X0 F0 H0 W xn → te xn M Q →
      (∀ v d M' F' H', Same F F' → Rel K F0 H0 W M' σ F' H' → DV K F' v d → Q d M' → k v H') → te0 σ H k)
    (hin : ∀ i ∈ is, i ∈ own.map (·.2))
    {F0 H0 F H : Hp} {W : Option (Addr × Addr)} {M : Mem} {σ : List (Option V)} {xn : Xn} {Q : QD} {k : VK} (r : Rel K F0 H0 W M σ F H) (l : Lnk K R F0 H0 W xn) (hw : wComp (own.map (·.2)) w g tt te xn M Q)
    (kk : ∀ p d M' F' H', Same F F' → Rel K F0 H0 W M' σ F' H' → Fresh K H0 W M' σ F' H' p d → Q d M' → k (.ref p) H') : tLc wi g0 tt0 te0 (own.map (·.2)) σ H k := by
  refine hi r l hw fun J ds M1 F1 H1 s1 r1 wk z D hD => ?_
  obtain ⟨zl, z⟩ := z
  obtain ⟨r2, f2⟩ := r1.isFresh (o := .lst []) (d := .list []) hD (.lst upd_same .nil)
  obtain ⟨I, z0, zs, ze⟩ := z
  refine ⟨fun i m H' => ∃ F' wl' ys, i + m = ds.length ∧ Same F1 F' ∧ Rel K F0 H0 W ⟨M1.env, wl'⟩ σ F' H' ∧ Fresh K H0 W ⟨M1.env, wl'⟩ σ F' H' D (.list ys) ∧ ys.length ≤ i ∧ I i ys wl', ⟨ds.length, F1, M1.wl, [], by omega, .refl _, r2, f2, Nat.le_refl _, z0⟩, fun i m H' hW => ?_⟩
  obtain ⟨F', wl', ys, em, s3, r3, f3, hy, z3⟩ := hW
  cases hd : ds[i]? with
  | none =>
    have hl : ds.length ≤ i := List.getElem?_eq_none_iff.mp hd
    have : i = ds.length := by omega
    subst this
    exact .inl ⟨wk.stop F' H' s3 r3.sub, kk _ _ _ _ _ (s1.trans s3) r3 f3 (ze _ _ z3)⟩
  | some d =>
    have hl : i < ds.length := (List.getElem?_eq_some_iff.mp hd).1
    have z3 := zs i d ys wl' hd z3
    obtain ⟨g1, g2⟩ := wk.go i d F' H' hd s3 r3.sub
    refine .inr ⟨g1, fun H'' => ∃ F'' wl'' ys', Same F1 F'' ∧ Rel K F0 H0 W ⟨M1.env, wl''⟩ σ F'' H'' ∧ Fresh K H0 W ⟨M1.env, wl''⟩ σ F'' H'' D (.list ys') ∧ ys'.length ≤ i + 1 ∧ I (i + 1) ys' wl'', fun H'' hN => ?_, fun x H'' hx => ?_⟩
    · obtain ⟨F'', wl'', ys', a1, a2, a3, a4, a5⟩ := hN
      exact ⟨m - 1, by omega, F'', wl'', ys', by omega, a1, a2, a3, a4, a5⟩
    · obtain ⟨F4, gr, dv⟩ := g2 x H'' hx
      have r4 := r3.grow gr
      have dl : D ≠ D → False := fun h => h rfl
      -- the new list stands where it stood
      have keepD : ∀ {Fa Ha : Hp}, After F4 H'' W Fa Ha → Same F' Fa → ∀ {wl}, Fresh K H0 W ⟨M1.env, wl⟩ σ Fa Ha D (.list ys) ∧ Ha D = H'' D := fun {Fa Ha} af sf {wl} => by
        obtain ⟨u, hu⟩ := f3.at_.there
        have h4 : H'' D = some u := gr.h _ _ hu
        have ha : Ha D = some u := af.h _ _ h4 f3.nw
        refine ⟨⟨f3.at_.move sf (ha.trans hu.symm), ?_, f3.n0, f3.nw, f3.ns⟩, ha.trans h4.symm⟩
        cases y : Fa D with
        | none => rfl
        | some o =>
          rcases af.n D o y with t | t
          · rcases gr.n D o t with t | t
            · rw [f3.nf] at t; cases t
            · rw [hu] at t; cases t
          · rw [h4] at t; cases t
      have rb := (r4.toRo).wipe (own.map (·.2))
      have lk : ∀ {W : Option (Addr × Addr)}, Lnk K X0 F4 H'' W (fun _ _ => False) := fun _ _ _ _ _ _ _ _ _ h => h.elim
      refine hg rb dv z3 fun M5 σ5 hσ r5 z5 => ?_
      refine ⟨?_, ?_⟩
      · rw [wipe_eq hσ.2 fun i hi => hσ.1 i fun y => hi (hin i y)]
        apply wipe_eq (wipe_length _ _)
        intro i hi
        exact wipe_out hi
      refine ht r5 lk z5 fun b M6 F6 H6 s6 r6 z6 => ?_
      cases b with
      | true =>
        refine he r6 lk z6 fun y dy M7 F7 H7 s7 r7 dvy z7 => ?_
        have s47 : Same F' F7 := gr.f.trans (s6.trans s7)
        obtain ⟨f7, eD⟩ := keepD r7.after s47 (wl := M7.wl)
        have rel7 := r4.of_after r7.after r7.wel
        cases f7.at_ with
        | @lst vs7 _ hD7 dys =>
          refine ⟨_, hD7, ?_, ?_⟩
          · rw [dys.len]
            omega
          · have nw := f7.nw
            have nf := f7.nf
            have relD : Rel K F0 H0 W ⟨M1.env, M7.wl⟩ σ F7 (upd H7 D (.lst (vs7 ++ [y]))) := by
              refine ⟨fun b u e => ?_, fun b u e n => ?_, rel7.fol, rel7.fnw, rel7.len, fun j e hj => ?_, rel7.dis, ?_⟩
              · have : b ≠ D := fun z => by subst z; rw [nf] at e; cases e
                rw [upd_ne this]; exact rel7.sub _ _ e
              · have : b ≠ D := fun z => by subst z; rw [f7.n0] at e; cases e
                rw [upd_ne this]; exact rel7.old _ _ e n
              · obtain ⟨v, h1, h2⟩ := rel7.slt j e hj
                refine ⟨v, h1, ?_⟩
                cases e with
                | im d => exact h2
                | wel => exact h2
                | scr ns => exact h2
                | exc _ _ _ _ _ => exact h2
                | rng _ _ => exact h2
                | ow d =>
                  obtain ⟨q, rfl, a1, a2⟩ := h2
                  have : q ≠ D := fun z => by subst z; exact f7.ns j d hj h1
                  exact ⟨q, rfl, a1.move (.refl _) (upd_ne this), a2⟩
                | ro d =>
                  obtain ⟨q, rfl, a1, ⟨t, ht'⟩, a3⟩ := h2
                  have : q ≠ D := fun z => by subst z; rw [f7.n0] at ht'; cases ht'
                  exact ⟨q, rfl, a1.move (.refl _) (upd_ne this), ⟨t, ht'⟩, a3⟩
              · have wl := rel7.wel
                cases W with
                | none => cases hm : M7.wl <;> simp only [hm] at wl ⊢ <;> exact wl
                | some zz =>
                  obtain ⟨q, t⟩ := zz
                  cases hm : M7.wl with
                  | none => simp only [hm] at wl; exact wl.elim
                  | some w2 =>
                    simp only [hm] at wl ⊢
                    obtain ⟨a, b, c⟩ := wl
                    have nq : q ≠ D := fun z => nw (by subst z; exact .inl rfl)
                    have nt : t ≠ D := fun z => nw (by subst z; exact .inr rfl)
                    exact ⟨⟨by rw [upd_ne nq]; exact a.dic, by rw [upd_ne nt]; exact a.lst, a.ne⟩, b, c⟩
            refine ⟨F7, M7.wl, ys ++ [dy], s3.trans s47, relD, ⟨.lst upd_same (dys.app (.cons dvy .nil)), nf, f7.n0, nw, f7.ns⟩, by simp; omega, ?_⟩
            exact z7
      | false =>
        have s46 : Same F' F6 := gr.f.trans s6
        obtain ⟨f6, _⟩ := keepD r6.after s46 (wl := M6.wl)
        exact ⟨F6, M6.wl, ys, s3.trans s46, r4.of_after r6.after r6.wel, f6, by omega, z6⟩

abbrev BI := Shared × Hp × Addr × List (Str × Addr) × List Addr
abbrev blkX (X : Cx) (scope : Scope) (i : BI) : Cx := X.blk i.1 i.2.1 scope (compEnvC scope i.2.2.2.1 i.2.2.1 X.env) i.2.2.2.2
/-- one reading for all blocks -/
theorem blkG {scope : Scope} {is : List Nat} {g : WG} (h : ∀ i : BI, DG (blkX X scope i) tg is g) : ∃ t : TG, (∀ i : BI, PG (blkX X scope i) tg t) ∧ ∀ {F0 H0 F H : Hp} {W : Option (Addr × Addr)} {M : Mem} {σ : List (Option V)} {v : V} {d : PyData} {Q : Mem → Prop} {k : List (Option V) → Hp → Prop}, Rel X.K F0 H0 W M σ F H → DV X.K F v d → g d M Q →
    (∀ (M' : Mem) (σ' : List (Option V)), (∀ i : Nat, i ∉ is → σ'[i]? = σ[i]?) ∧ σ'.length = σ.length → Rel X.K F0 H0 W M' σ' F H → Q M' → k σ' H) → t v σ H k :=
  ⟨fun v σ H k => ∀ i : BI, (h i).ex.choose v σ H k, fun i => ⟨fun pins s σ H v u Q I r hw => (h i).ex.choose_spec.1.run pins s σ H v u Q I r (hw i)⟩, fun r dv hw kk i => (h i).ex.choose_spec.2 r dv hw kk⟩
theorem blkT {scope : Scope} {ifs : List Expr} {w : WT} (h : ∀ i : BI, DTs (blkX X scope i) X0 ifs w) : ∃ t : TT, (∀ i : BI, PTs (blkX X scope i) ifs t) ∧ ∀ {F0 H0 F H : Hp} {W : Option (Addr × Addr)} {M : Mem} {σ : List (Option V)} {xn : Xn} {Q : Bool → Mem → Prop} {k : Bool → Hp → Prop}, Rel X.K F0 H0 W M σ F H → Lnk X.K X0 F0 H0 W xn → w xn M Q →
    (∀ b M' F' H', Same F F' → Rel X.K F0 H0 W M' σ F' H' → Q b M' → k b H') → t σ H k :=
  ⟨fun σ H k => ∀ i : BI, (h i).ex.choose σ H k, fun i => ⟨fun pins s σ H Q I hw => (h i).ex.choose_spec.1.run pins s σ H Q I (hw i)⟩, fun r dv hw kk i => (h i).ex.choose_spec.2 r dv hw kk⟩
theorem blkE {scope : Scope} {w : WE} (h : ∀ i : BI, DE (blkX X scope i) X0 e w) : ∃ t : TE, (∀ i : BI, PE (blkX X scope i) e t) ∧ ∀ {F0 H0 F H : Hp} {W : Option (Addr × Addr)} {M : Mem} {σ : List (Option V)} {xn : Xn} {Q : QD} {k : VK}, Rel X.K F0 H0 W M σ F H → Lnk X.K X0 F0 H0 W xn → w xn M Q →
    (∀ v d M' F' H', Same F F' → Rel X.K F0 H0 W M' σ F' H' → DV X.K F' v d → Q d M' → k v H') → t σ H k :=
  ⟨fun σ H k => ∀ i : BI, (h i).ex.choose σ H k, fun i => ⟨fun pins s σ H Q I hw => (h i).ex.choose_spec.1.run pins s σ H Q I (hw i)⟩, fun r dv hw kk i => (h i).ex.choose_spec.2 r dv hw kk⟩
theorem dF_comp {elt : Expr} {ifs : List Expr} {scope : Scope} {own : List (Str × Nat)} {w : WI} {g : WG} {tt : WT} {te : WE} {is : List Nat} (hc : X.calm = true) (hN : X.N.Nodup) (hi : DI X R tg iter w) (ok : BlkOk X.N X.env.scope scope own)
    (hg : ∀ i : BI, DG (blkX X scope i) tg is g) (ht : ∀ i : BI, DTs (blkX X scope i) X0 ifs tt) (he : ∀ i : BI, DE (blkX X scope i) X0 elt te)
    (hin : ∀ i ∈ is, i ∈ own.map (·.2) := by decide) (hs : ∀ x, foldedSetIterable iter X.env x = pure x := by intro _; rfl) : DF X R (.ListComp elt [⟨tg, iter, ifs, 0⟩] scope pos) (wComp (own.map (·.2)) w g tt te) := by
  obtain ⟨t1, p1, q1⟩ := hi.ex
  obtain ⟨t2, p2, q2⟩ := blkG hg
  obtain ⟨t3, p3, q3⟩ := blkT ht
  obtain ⟨t4, p4, q4⟩ := blkE he
  refine ⟨_, pe_lc hc hN p1 ok (fun s H C cl fp => p2 (s, H, C, cl, fp)) (fun s H C cl fp => p3 (s, H, C, cl, fp)) (fun s H C cl fp => p4 (s, H, C, cl, fp)) hs, fun r l hw kk => ?_⟩
  exact comp_run (scope := scope) (elt := elt) (ifs := ifs) q1 q2 q3 q4 hin r l hw kk
theorem dS_comp {i : Nat} {y : Str} {py spos : Pos} {elt : Expr} {ifs : List Expr} {scope : Scope} {own : List (Str × Nat)} {w : WI} {g : WG} {tt : WT} {te : WE} {is : List Nat} (hc : X.calm = true) (hN : X.N.Nodup) (hy : X.N[i]? = some y) (hyl : X.env.scope.names.lookup y = some .local)
    (hsw : swapsWith (.ListComp elt [⟨tg, iter, ifs, 0⟩] scope pos) (some (.Name y py)) spos.line X.env = pure true) (hi : DI X R tg iter w) (ok : BlkOk X.N X.env.scope scope own)
    (hg : ∀ i : BI, DG (blkX X scope i) tg is g) (ht : ∀ i : BI, DTs (blkX X scope i) X0 ifs tt) (he : ∀ i : BI, DE (blkX X scope i) X0 elt te)
    (hin : ∀ i ∈ is, i ∈ own.map (·.2) := by decide) (hs : ∀ x, foldedSetIterable iter X.env x = pure x := by intro _; rfl) : DS X R (.Assign [.Name y py] (.ListComp elt [⟨tg, iter, ifs, 0⟩] scope pos) spos) (uAsgO (wComp (own.map (·.2)) w g tt te) i) := by
  obtain ⟨t1, p1, q1⟩ := hi.ex
  obtain ⟨t2, p2, q2⟩ := blkG hg
  obtain ⟨t3, p3, q3⟩ := blkT ht
  obtain ⟨t4, p4, q4⟩ := blkE he
  refine ⟨_, ps_setLc hc hN hy hyl hsw p1 ok (fun s H C cl fp => p2 (s, H, C, cl, fp)) (fun s H C cl fp => p3 (s, H, C, cl, fp)) (fun s H C cl fp => p4 (s, H, C, cl, fp)) hs, fun {F0 H0 F H W M σ xn De D} r l hw E => ?_⟩
  exact comp_run (scope := scope) (elt := elt) (ifs := ifs) q1 q2 q3 q4 hin r l hw fun p d M' F' H' s r' f z => E.nx _ _ _ _ s (r'.setOw f) z

end
end DL

/-! DL7: a def by its body, calls by keywords. -/
namespace DL
open PySem PySem.Spec L2 PyProof.Rows
section
variable {X : Cx} {R : XP} {K : PySem.W.Frag} {e a b c tg iter : Expr} {es : List Expr} {st : Stmt} {rest body : List Stmt} {pos : Pos} {wa wb wc : WE} {oa ob oc : WO} {ta tb : WT} {u v : WS}
/-! a def by its body -/
def toEnt : Arg → Option Ent
  | .x d => some (.im d)
  | .wel => some .wel
  | .scr ns => some (.scr ns)
def mem0 (n : Nat) (args : List Arg) (wl : Option Wel) : Mem := ⟨args.map toEnt ++ List.replicate (n - args.length) none, wl⟩
abbrev noX : Xn := fun _ _ => False
def endsG (Q : PyData → Option Wel → Prop) : DEn := { nx := fun M => Q .none M.wl, rt := fun d M => Q d M.wl }
theorem rel_start {F H : Hp} {W : Option (Addr × Addr)} {args : List Arg} {wl : Option Wel} {N : List Str} {vs : List V} (s : Same F H) (ha : ArgsR K F W vs args) (hw : WelR F H W wl) (hn : vs.length ≤ N.length) : Rel K F H W (mem0 N.length args wl) (L2.start N vs) F H where
  sub := s
  old := fun _ _ e _ => e
  fol := .refl _
  fnw := fun _ _ e => .inl e
  len := by
    have : vs.length = args.length := by
      clear hw hn
      induction ha with
      | nil => rfl
      | cons _ _ ih => simp [ih]
    simp [mem0, L2.start, this]
  slt := fun i e h => by
    have key : ∀ {vs : List V} {args : List Arg} {i : Nat} {rest : List (Option Ent)} {r2 : List (Option V)}, ArgsR K F W vs args → (∀ (j : Nat) (e : Ent), rest[j]? ≠ some (some e)) → (args.map toEnt ++ rest)[i]? = some (some e) → ∃ v, (vs.map some ++ r2)[i]? = some (some v) ∧ EntR K H F H W v e := by
      intro vs args i rest r2 ha
      induction ha generalizing i with
      | nil => intro hr h; exact absurd h (hr i e)
      | @cons v vs a as r q ih =>
        intro hr h
        cases i with
        | zero =>
          simp at h
          refine ⟨v, by simp, ?_⟩
          cases a with
          | x d => simp [toEnt] at h; subst h; exact r
          | wel => simp [toEnt] at h; subst h; exact r
          | scr u => simp [toEnt] at h; subst h; exact r
        | succ i =>
          simp at h ⊢
          exact ih hr h
    have h : (args.map toEnt ++ List.replicate (N.length - args.length) none)[i]? = some (some e) := h
    exact key ha (fun j e z => by rw [List.getElem?_replicate] at z; split at z <;> simp at z) h
  dis := fun i j d e v _ h => by
    exfalso
    have key : ∀ {args : List Arg} {i : Nat} {rest : List (Option Ent)}, (∀ (j : Nat) (e : Ent), rest[j]? ≠ some (some e)) → (args.map toEnt ++ rest)[i]? ≠ some (some (.ow d)) := by
      intro args
      induction args with
      | nil => intro i rest hr h; exact hr i _ h
      | cons a as ih =>
        intro i rest hr h
        cases i with
        | zero => cases a <;> simp [toEnt] at h
        | succ i => simp at h; exact ih hr h
    have h : (args.map toEnt ++ List.replicate (N.length - args.length) none)[i]? = some (some (.ow d)) := h
    exact key (fun j e z => by rw [List.getElem?_replicate] at z; split at z <;> simp at z) h
  wel := hw
theorem fnD {P : Program} {w : World} {mg : Str → Option Value} {base : Heap} {x qual : Str} {st : Stmt} {f : Addr} {fd : FuncData} {N ps : List Str} {k : Nat} {g : GSpec} (F : Fun K x qual st f fd) (S : FnScope N ps (defScope st)) (hN : ps.length ≤ N.length)
    (hlen : ∀ args wl Q, g args wl Q → args.length = ps.length)
    (hbody : ∀ (cdv : Value) (A : Around) (outer : List Env) (s : Shared) (H : Hp) (E : XK), Room k (A.deeper (envOfC qual (defScope st) s.heap.objs.size f cdv)) →
      ∃ u, DSs (cxOf CX0 P w K mg base N qual (defScope st) f cdv A outer s H E).nox X0 (defBody st) u ∧ ∀ args wl Q, g args wl Q → u noX (endsG Q) (mem0 N.length args wl)) : FnOk P w K mg base CX0 (k + 1) f fd ps (spD K g) := by
  have al : ∀ {F W vs args}, ArgsR K F W vs args → vs.length = args.length := fun ha => by
    induction ha with
    | nil => rfl
    | cons _ _ ih => simp [ih]
  refine F.ok S (fun vs H Q E h => ?_) fun cdv A outer s H vs Q E hr h => ?_
  · obtain ⟨F, W, args, wl, Qd, _, ha, _, hg, _⟩ := h
    rw [al ha]; exact hlen _ _ _ hg
  · obtain ⟨u, hu, hb⟩ := hbody cdv A outer s H E hr
    obtain ⟨F, W, args, wl, Qd, s1, ha, hw, hg, kk⟩ := h
    obtain ⟨t, p, q⟩ := hu.ex
    have hl : vs.length = ps.length := by rw [al ha]; exact hlen _ _ _ hg
    refine ⟨t, p, q (xn := noX) (rel_start s1 ha hw (by omega)) (fun _ _ _ _ _ _ _ _ _ z => z.elim) (hb _ _ _ hg) ⟨fun M' σ' F' H' s r z => ?_, fun v d M' σ' F' H' s r dv z => ?_, fun _ _ _ _ _ _ z => z.elim, fun _ _ _ _ _ _ z => z.elim⟩⟩
    · exact kk _ _ F' H' M'.wl r.after r.wel .non z
    · exact kk _ _ F' H' M'.wl r.after r.wel dv z

/-! a call by keywords alone -/
theorem pe_callK0 {k : Nat} {f : Addr} {fd : FuncData} {ps ks : List Str} {sp : Sp} {g : List Value → List Value → List Value} {gV : List V → List V → List V} {x : Str} {p : Pos} {kws : List Keyword} {E : XK} {tk : TA} {CX : CXT} (F : FnOk X.prog X.w X.K X.mg X.base CX k f fd ps sp) (hr : Room k X.A) (hg : Gl X x) (hm : X.mg x = some (.ref f)) (hk : PySem.W.keepIn X.K (.ref f) = true) (hb : KBinds X.K fd ps ks g gV) (hx : Passes CX X E)
    (hkw : PK X kws tk) (hall : (backToKw pos (keywordEach kws X.env)).all (·.1.isSome) = true := by rfl) (hks : (backToKw pos (keywordEach kws X.env)).filterMap (·.1) = ks := by rfl)
    (hdb : (x == ("__debug__" : Str)) = false := by decide) (hpl : ((backTo pos (starEach [] X.env)).any (·.1) || (backToKw pos (keywordEach kws X.env)).any (·.1.isNone)) = false := by rfl) :
    PE X (.Call (.Name x p) [] kws pos) (fun σ H Q => tk σ H fun zs H2 => sp (gV [] zs) H2 Q E) := by
  refine ⟨fun pins s σ H Q I h => ?_⟩
  refine wpAny_Call_Name_kw (ld_glob I hg hm ?_ hdb)
  refine PySem.W.callWith_KW0 (h₀ := X.base) I.ok.mod.kin hk hall ?_ hpl
  refine thn (hkw.run pos pins s σ H _ I h) fun ws s2 ⟨zs, H2, I2, rz, q2⟩ => ⟨I2.kIn, ?_⟩
  rw [hks]
  exact run_fnk (us := []) F hr hb hx I2 .nil rz q2
structure DK (X : Cx) (R : XP) (es : List Keyword) (w : WA) : Prop where
  ex : ∃ t : TA, PK X es t ∧ ∀ {F0 H0 F H : Hp} {W : Option (Addr × Addr)} {M : Mem} {σ : List (Option V)} {xn : Xn} {Q : QA} {k : List V → Hp → Prop}, Rel X.K F0 H0 W M σ F H → Lnk X.K R F0 H0 W xn → w xn M Q →
    (∀ vs as M' F' H', Same F F' → Rel X.K F0 H0 W M' σ F' H' → ArgsR X.K F' W vs as → Q as M' → k vs H') → t σ H k
theorem dK_n : DK X R [] aN := ⟨_, pk_nil, fun r _ hw kk => kk _ _ _ _ _ (.refl _) r .nil hw⟩
theorem dK_c {as : WA} {nm : Option Str} {kpos : Pos} {kws : List Keyword} (h : DE X R e wa) (h2 : DK X R kws as) : DK X R (⟨nm, e, kpos⟩ :: kws) (aC wa as) := by
  obtain ⟨t, p, q⟩ := h.ex
  obtain ⟨t2, p2, q2⟩ := h2.ex
  refine ⟨_, pk_cons p p2, fun r l hw kk => q r l hw fun v x M1 F1 H1 s1 r1 hx z => q2 r1 l z fun vs os M2 F2 H2 s2 r2 hy z2 => ?_⟩
  exact kk _ _ _ _ _ (s1.trans s2) r2 (.cons (a := .x x) (hx.same s2) hy) z2
/-- the arguments by the parameters' order: pi i is where parameter i stands among the keywords -/
def perm {α : Type} (pi : List Nat) (zs : List α) : List α := pi.filterMap fun i => zs[i]?
def wCallK (g : GSpec) (pi : List Nat) (as : WA) : WE := fun xn M Q => as xn M fun xs M1 => g (perm pi xs) M1.wl fun d wl => Q d ⟨M1.env, wl⟩
theorem ArgsR.get {F : Hp} {W : Option (Addr × Addr)} : ∀ {vs : List V} {as : List Arg} (i : Nat), ArgsR K F W vs as → (vs[i]? = none ∧ as[i]? = none) ∨ ∃ v a, vs[i]? = some v ∧ as[i]? = some a ∧ ArgR K F W v a
  | _, _, i, .nil => .inl (by simp)
  | _, _, 0, .cons r _ => .inr ⟨_, _, rfl, rfl, r⟩
  | _, _, i + 1, .cons _ q => by simpa using ArgsR.get i q
theorem ArgsR.perm {F : Hp} {W : Option (Addr × Addr)} {vs : List V} {as : List Arg} (h : ArgsR K F W vs as) : ∀ pi : List Nat, ArgsR K F W (perm pi vs) (DL.perm pi as)
  | [] => .nil
  | i :: pi => by
    unfold DL.perm
    rw [List.filterMap_cons, List.filterMap_cons]
    rcases h.get i with ⟨h1, h2⟩ | ⟨v, a, h1, h2, r⟩
    · rw [h1, h2]; exact h.perm pi
    · rw [h1, h2]; exact .cons r (h.perm pi)
theorem permVals {vs : List V} {us : List Value} (h : Vals vs us) : ∀ pi : List Nat, Vals (perm pi vs) (perm pi us)
  | [] => .nil
  | i :: pi => by
    unfold perm
    rw [List.filterMap_cons, List.filterMap_cons]
    cases e : vs[i]? with
    | none => rw [Vals.none_of h e]; exact permVals h pi
    | some v =>
      obtain ⟨u, h1, h2⟩ := h.get e
      rw [h1]
      exact .cons h2 (permVals h pi)
def gK {α : Type} (pi : List Nat) (us ws : List α) : List α := match us with
  | [] => perm pi ws
  | _ => []
theorem kbinds {fd : FuncData} {ps ks : List Str} {pi : List Nat} (h0 : ps ≠ []) (h : ∀ ws : List Value, (perm pi ws).length = ps.length → bindArgs fd ⟨[], ks.zip ws⟩ = pure (ps.zip (perm pi ws))) : KBinds K fd ps ks (gK pi) (gK pi) where
  to := fun s us ws _ hl => by
    cases us with
    | nil => exact .of_eq (h ws hl)
    | cons u us => exact absurd (List.eq_nil_of_length_eq_zero hl.symm) h0
  rel := fun r1 r2 => by
    cases r1 with
    | nil => exact permVals r2 _
    | cons _ _ => exact .nil
theorem dE_callK {k j : Nat} {f : Addr} {fd : FuncData} {ps ks : List Str} {g : GSpec} {x : Str} {p : Pos} {as : WA} {kws : List Keyword} {pi : List Nat} (F : FnOk X.prog X.w X.K X.mg X.base CX0 k f fd ps (spD X.K g)) (hr : Room j X.A) (hk : k ≤ j) (hg : Gl X x) (hm : X.mg x = some (.ref f)) (hkp : PySem.W.keepIn X.K (.ref f) = true) (hb : KBinds X.K fd ps ks (gK pi) (gK pi))
    (ha : DK X R kws as) (hall : (backToKw pos (keywordEach kws X.env)).all (·.1.isSome) = true := by rfl) (hks : (backToKw pos (keywordEach kws X.env)).filterMap (·.1) = ks := by rfl)
    (hdb : (x == ("__debug__" : Str)) = false := by decide) (hpl : ((backTo pos (starEach [] X.env)).any (·.1) || (backToKw pos (keywordEach kws X.env)).any (·.1.isNone)) = false := by rfl) :
    DE X R (.Call (.Name x p) [] kws pos) (wCallK g pi as) := by
  obtain ⟨t, q, z⟩ := ha.ex
  refine ⟨_, pe_callK0 F (hr.mono hk) hg hm hkp hb pass0 q hall hks hdb hpl, fun {F0 H0 F H W M σ xn Q kc} r l hw kk => ?_⟩
  refine z r l hw fun vs xs M1 F1 H1 s1 r1 hx y => ?_
  exact spD_run r1 (hx.perm pi) y fun v d M' F' H' s => kk v d M' F' H' (s1.trans s)
end
end DL

/-! DL8: built-in functions, methods of texts. -/
namespace DL
open PySem PySem.Spec L2 PyProof.Rows
section
variable {X : Cx} {R : XP} {K : PySem.W.Frag} {e a b c tg iter : Expr} {es : List Expr} {pos : Pos} {wa wb wc : WE} {oa ob oc : WO} {ta tb : WT}
/-! len -/
/-- a dict's pairs: one of tuple keys bears a mark ahead of them -/
def dpairs : List (PyData × PyData) → List (PyData × PyData)
  | (.none, _) :: r => r
  | l => l
theorem dpairs_k {ks : List (Key × V)} {kvs : List (PyData × PyData)} (h : kvs.map (·.1) = ks.map fun p => kD p.1) : dpairs kvs = kvs := by
  cases kvs with
  | nil => rfl
  | cons p r =>
    obtain ⟨a, b⟩ := p
    cases ks with
    | nil => simp at h
    | cons q s =>
      simp at h
      obtain ⟨k, v⟩ := q
      cases k <;> (simp [kD] at h; rw [h.1]; rfl)
def fLen : DFN := fun ds Q => match ds with
  | [.list l] => Q (.int (l.length : Nat))
  | [.tuple l] => Q (.int (l.length : Nat))
  | [.str s] => s.cps.toList.length ≤ sizeLine ∧ Q (.int (s.cps.toList.length : Nat))
  | [.dict kvs] => Q (.int ((dpairs kvs).length : Nat))
  | _ => False
abbrev rLn (K : PySem.W.Frag) : List V → Hp → VK → Prop := fun xs H Q => (∃ x n, xs = [x] ∧ LenV K x H n ∧ Q (.int n) H) ∨ ((∃ a kvs, xs = [V.ref a] ∧ Rd H a (.dK kvs) ∧ Q (.int (kvs.length : Nat)) H) ∨ (∃ a kvs, xs = [V.ref a] ∧ Rd H a (.dT kvs) ∧ Q (.int (kvs.length : Nat)) H))
theorem call_lenK : CallR X (.builtin "len") (fun xs H Q => ∃ a kvs, xs = [V.ref a] ∧ Rd H a (.dK kvs) ∧ Q (.int (kvs.length : Nat)) H) := by
  intro pins s σ H xs us Q I r h
  obtain ⟨a, kvs, rfl, ha, q⟩ := h
  obtain ⟨u, rfl, ru⟩ := vals1 r
  cases ru
  exact d_len I ha fun t s' I' => ⟨.int kvs.length, H, I', ⟨t, rfl⟩, q⟩
theorem call_lenTR : CallR X (.builtin "len") (fun xs H Q => ∃ a kvs, xs = [V.ref a] ∧ Rd H a (.dT kvs) ∧ Q (.int (kvs.length : Nat)) H) := by
  intro pins s σ H xs us Q I r h
  obtain ⟨p, kvs, rfl, hp, q⟩ := h
  obtain ⟨u, rfl, ru⟩ := vals1 r
  cases ru
  obtain ⟨z, hd, ys, rel, dd⟩ := dt_rd I.hok hp
  have hl : kvs.length = ys.length := Paired.length rel
  refine call_len_dictH hd dd (by rw [← hl]; rw [sizeLine_eq] at z; omega) ?_
  rw [← hl]
  exact ⟨.int ((kvs.length : Nat) : Int), H, I.tok _, ⟨_, rfl⟩, q⟩
theorem hLen : CallR X (.builtin "len") (rLn X.K) := call_len.or (call_lenK.or call_lenTR)
theorem DVs.len' {F : Hp} {α : Type} {ks : List (α × V)} {kvs : List (PyData × PyData)} (h : DVs K F (ks.map (·.2)) (kvs.map (·.2))) : ks.length = kvs.length := by
  have := h.len
  simpa using this
theorem dLen : DCall K (rLn K) fLen := by
  intro F H vs ds Qd k s hv h kk
  unfold fLen at h
  split at h
  · obtain ⟨v, rfl, h1⟩ := hv.one
    obtain ⟨p, vs, rfl, a1, a2⟩ := h1.list s
    refine .inl ⟨_, vs.length, rfl, .inl ⟨vs, SqL.of a1, rfl⟩, ?_⟩
    rw [a2.len]
    exact kk _ _ _ _ (.refl s) (.int _) h
  · obtain ⟨v, rfl, h1⟩ := hv.one
    obtain ⟨p, vs, rfl, a1, a2⟩ := h1.tup s
    refine .inl ⟨_, vs.length, rfl, .inr ⟨vs, a1, rfl⟩, ?_⟩
    rw [a2.len]
    exact kk _ _ _ _ (.refl s) (.int _) h
  · obtain ⟨v, rfl, h1⟩ := hv.one
    rw [h1.str]
    refine .inl ⟨_, _, rfl, ⟨by rw [strLen]; exact h.1, rfl⟩, ?_⟩
    rw [strLen]
    exact kk _ _ _ _ (.refl s) (.int _) h.2
  · obtain ⟨v, rfl, h1⟩ := hv.one
    have fin : ∀ {p : Addr} {n : Nat}, Qd (.int (n : Nat)) → ((∃ ks, Rd H p (.dK ks) ∧ ks.length = n) ∨ (∃ ks, Rd H p (.dT ks) ∧ ks.length = n)) → rLn K [V.ref p] H k := fun hq o => by
      rcases o with ⟨ks, r, e⟩ | ⟨ks, r, e⟩
      · exact .inr (.inl ⟨_, _, rfl, r, by rw [e]; exact kk _ _ _ _ (.refl s) (.int _) hq⟩)
      · exact .inr (.inr ⟨_, _, rfl, r, by rw [e]; exact kk _ _ _ _ (.refl s) (.int _) hq⟩)
    rcases h1 with h1 | ⟨p, rfl, h1⟩
    · cases h1 with
      | dic r e q => rw [dpairs_k e] at h; exact fin h (.inl ⟨_, sameRd s r, q.len'⟩)
      | dit r e q => exact fin h (.inr ⟨_, sameRd s r, q.len'⟩)
    · cases h1 with
      | dic r e q => rw [dpairs_k e] at h; exact fin h (.inl ⟨_, .inl r, q.len'⟩)
      | dit r e q => exact fin h (.inr ⟨_, .inl r, q.len'⟩)
  · exact h.elim

/-! tuple(x), list(x) -/
def fTuple : DFN := fun ds Q => match ds with
  | [.list l] => Q (.tuple l)
  | [.tuple l] => Q (.tuple l)
  | _ => False
abbrev rTupO (K : PySem.W.Frag) : List V → Hp → VK → Prop := fun xs H Q => ∃ p ys, xs = [.ref p] ∧ ((SqL K H p ys ∧ ∀ l, H l = none → Q (.ref l) (upd H l (.tup ys))) ∨ (SqT K H p ys ∧ Q (.ref p) H))
theorem dTuple : DCall K (rTupO K) fTuple := by
  intro F H vs ds Qd k s hv h kk
  unfold fTuple at h
  split at h
  · obtain ⟨v, rfl, h1⟩ := hv.one
    obtain ⟨p, vs, rfl, a1, a2⟩ := h1.list s
    refine ⟨p, vs, rfl, .inl ⟨SqL.of a1, fun l hl => ?_⟩⟩
    have g := Grow.newF (o := .tup vs) s hl
    exact kk _ _ _ _ g (.tup upd_same (a2.same g.f)) h
  · obtain ⟨v, rfl, h1⟩ := hv.one
    have f := h1.frzT
    obtain ⟨p, vs, rfl, a1, a2⟩ := h1.tup s
    exact ⟨p, vs, rfl, .inr ⟨a1, kk _ _ _ _ (.refl s) f h⟩⟩
  · exact h.elim
/-! list(x): a list of nobody's -/
abbrev rListO (K : PySem.W.Frag) : List V → Hp → VK → Prop := fun xs H Q => ∃ p ys, xs = [.ref p] ∧ (SqL K H p ys ∨ SqT K H p ys) ∧ ∀ l, H l = none → Q (.ref l) (upd H l (.lst ys))
def wListO (os : WOs) : WE := fun xn M Q => os xn M fun xs M1 => match getAll xs M1 with
  | some [.list l] => Q (.list l) M1
  | some [.tuple l] => Q (.list l) M1
  | _ => False
theorem dF_list {x : Str} {p : Pos} {os : WOs} (hg : Gl X x) (hm : X.mg x = none) (hv : bootBuiltins x = some (.type "list")) (ha : DOs X R [e] os) (hn : x ≠ "__name__" := by decide) (hdb : (x == ("__debug__" : Str)) = false := by decide)
    (he : starEach [e] X.env = (false, eval e X.env) :: starEach [] X.env := by rfl) (hpl : (backTo pos (starEach [] X.env)).any (·.1) = false := by rfl) : DF X R (.Call (.Name x p) [e] [] pos) (wListO os) := by
  obtain ⟨t, q, z⟩ := ha.ex
  refine ⟨_, pe_callTy call_list_of hg hm hv q hn hdb he hpl, fun r l hw kk => z r l hw fun vs os M1 F1 H1 s1 r1 hx y => ?_⟩
  split at y
  · rename_i e1
    obtain ⟨v, rfl, h1⟩ := (views_of r1 hx e1).one
    obtain ⟨p, vs, rfl, a1, a2⟩ := h1.list r1.sub
    refine ⟨p, vs, rfl, .inl (SqL.of a1), fun l hl => ?_⟩
    obtain ⟨r2, f2⟩ := r1.isFresh (o := .lst vs) (d := .list _) hl (.lst upd_same a2)
    exact kk _ _ _ _ _ s1 r2 f2 y
  · rename_i e1
    obtain ⟨v, rfl, h1⟩ := (views_of r1 hx e1).one
    obtain ⟨p, vs, rfl, a1, a2⟩ := h1.tup r1.sub
    refine ⟨p, vs, rfl, .inr a1, fun l hl => ?_⟩
    obtain ⟨r2, f2⟩ := r1.isFresh (o := .lst vs) (d := .list _) hl (.lst upd_same a2)
    exact kk _ _ _ _ _ s1 r2 f2 y
  · exact y.elim
/-! fresh: xs * n, xs + ys -/
theorem dF_rep {oa ob : WO} (ha : DO X R a oa) (hb : DO X R b ob) : DF X R (.BinOp a .Mult b pos) (fun xn M Q => oa xn M fun x M1 => ob xn M1 fun y M2 => match x.get M2, y.get M2 with
    | some (.list i), some (.int j) => (j < 2 ^ 62 ∧ -(2 ^ 62) < j ∧ i.length * j.toNat ≤ sizeLine) ∧ Q (.list (repL j.toNat i)) M2
    | _, _ => False) := by
  obtain ⟨t1, p1, q1⟩ := ha.ex
  obtain ⟨t2, p2, q2⟩ := hb.ex
  refine ⟨_, pe_op op_rep p1 p2, fun r l hw kk => ?_⟩
  refine q1 r l hw fun vx x M1 F1 H1 s1 r1 hx z1 => q2 r1 l z1 fun vy y M2 F2 H2 s2 r2 hy z2 => ?_
  split at z2
  · rename_i i j e1 e2
    obtain ⟨p, vs, rfl, a1, a2⟩ := (r2.opd (hx.same s2) e1).list r2.sub
    rw [(r2.opd hy e2).int]
    refine ⟨p, j, vs, rfl, rfl, a1, by have := z2.1.2.1; omega, by have := z2.1.1; omega, by rw [a2.len]; exact z2.1.2.2, fun q hq => ?_⟩
    obtain ⟨r3, f3⟩ := r2.isFresh (o := .lst (List.replicate j.toNat vs).flatten) (d := .list (repL j.toNat i)) hq (.lst upd_same (a2.rep j.toNat))
    exact kk _ _ _ _ _ (s1.trans s2) r3 f3 z2.2
  · exact z2.elim
/-! min, max, sum, all, any of a list -/
def intsOf : List PyData → Option (List Int)
  | [] => some []
  | .int i :: r => (intsOf r).map (i :: ·)
  | _ :: _ => none
theorem intsOf_map : ∀ ns : List Int, intsOf (ns.map PyData.int) = some ns
  | [] => rfl
  | n :: ns => by rw [List.map_cons, intsOf, intsOf_map ns]; rfl
theorem intsOf_eq : ∀ {ds : List PyData} {ns : List Int}, intsOf ds = some ns → ds = ns.map PyData.int
  | [], ns, h => by cases h; rfl
  | .int i :: r, ns, h => by
    unfold intsOf at h
    cases e : intsOf r with
    | none => rw [e] at h; cases h
    | some ms => rw [e] at h; cases h; rw [intsOf_eq e]; rfl
  | .none :: _, _, h => by cases h
  | .bool _ :: _, _, h => by cases h
  | .str _ :: _, _, h => by cases h
  | .list _ :: _, _, h => by cases h
  | .tuple _ :: _, _, h => by cases h
  | .dict _ :: _, _, h => by cases h
def boolsOf : List PyData → Option (List Bool)
  | [] => some []
  | .bool i :: r => (boolsOf r).map (i :: ·)
  | _ :: _ => none
theorem boolsOf_map : ∀ ns : List Bool, boolsOf (ns.map PyData.bool) = some ns
  | [] => rfl
  | n :: ns => by rw [List.map_cons, boolsOf, boolsOf_map ns]; rfl
theorem boolsOf_eq : ∀ {ds : List PyData} {ns : List Bool}, boolsOf ds = some ns → ds = ns.map PyData.bool
  | [], ns, h => by cases h; rfl
  | .bool i :: r, ns, h => by
    unfold boolsOf at h
    cases e : boolsOf r with
    | none => rw [e] at h; cases h
    | some ms => rw [e] at h; cases h; rw [boolsOf_eq e]; rfl
  | .none :: _, _, h => by cases h
  | .int _ :: _, _, h => by cases h
  | .str _ :: _, _, h => by cases h
  | .list _ :: _, _, h => by cases h
  | .tuple _ :: _, _, h => by cases h
  | .dict _ :: _, _, h => by cases h
def strsOf : List PyData → Option (List Str)
  | [] => some []
  | .str i :: r => (strsOf r).map (i :: ·)
  | _ :: _ => none
theorem strsOf_map : ∀ ns : List Str, strsOf (ns.map PyData.str) = some ns
  | [] => rfl
  | n :: ns => by rw [List.map_cons, strsOf, strsOf_map ns]; rfl
theorem strsOf_eq : ∀ {ds : List PyData} {ns : List Str}, strsOf ds = some ns → ds = ns.map PyData.str
  | [], ns, h => by cases h; rfl
  | .str i :: r, ns, h => by
    unfold strsOf at h
    cases e : strsOf r with
    | none => rw [e] at h; cases h
    | some ms => rw [e] at h; cases h; rw [strsOf_eq e]; rfl
  | .none :: _, _, h => by cases h
  | .int _ :: _, _, h => by cases h
  | .bool _ :: _, _, h => by cases h
  | .list _ :: _, _, h => by cases h
  | .tuple _ :: _, _, h => by cases h
  | .dict _ :: _, _, h => by cases h
theorem View.ints {F H : Hp} {v : V} {ds : List PyData} {ns : List Int} (s : Same F H) (h : View K F H v (.list ds)) (e : intsOf ds = some ns) : ∃ p, v = .ref p ∧ H p = some (.lst (ns.map V.int)) := by
  obtain ⟨p, vs, rfl, a1, a2⟩ := h.list s
  rw [intsOf_eq e] at a2
  rw [a2.ints] at a1
  exact ⟨p, rfl, a1⟩
theorem View.bools {F H : Hp} {v : V} {ds : List PyData} {ns : List Bool} (s : Same F H) (h : View K F H v (.list ds)) (e : boolsOf ds = some ns) : ∃ p, v = .ref p ∧ H p = some (.lst (ns.map V.bl)) := by
  obtain ⟨p, vs, rfl, a1, a2⟩ := h.list s
  rw [boolsOf_eq e] at a2
  rw [a2.bools] at a1
  exact ⟨p, rfl, a1⟩
theorem View.strs {F H : Hp} {v : V} {ds : List PyData} {ns : List Str} (s : Same F H) (h : View K F H v (.list ds)) (e : strsOf ds = some ns) : ∃ p, v = .ref p ∧ H p = some (.lst (ns.map V.str)) := by
  obtain ⟨p, vs, rfl, a1, a2⟩ := h.list s
  rw [strsOf_eq e] at a2
  rw [a2.strs] at a1
  exact ⟨p, rfl, a1⟩
def lmin : List Int → Option Int
  | [] => none
  | a :: r => some (r.foldl min a)
def lmax : List Int → Option Int
  | [] => none
  | a :: r => some (r.foldl max a)
theorem foldl_min : ∀ (l : List Int) (a : Int), (l.foldl min a ≤ a ∧ (∀ x ∈ l, l.foldl min a ≤ x)) ∧ (l.foldl min a = a ∨ l.foldl min a ∈ l)
  | [], a => by simp
  | b :: l, a => by
    obtain ⟨⟨h1, h2⟩, h3⟩ := foldl_min l (min a b)
    rw [List.foldl_cons]
    refine ⟨⟨by omega, fun x hx => ?_⟩, ?_⟩
    · rcases List.mem_cons.mp hx with rfl | hx
      · omega
      · exact h2 x hx
    · rcases h3 with h3 | h3
      · by_cases hb : a ≤ b
        · left; omega
        · right; rw [h3, Int.min_eq_right (by omega)]; exact List.mem_cons_self
      · exact .inr (List.mem_cons_of_mem _ h3)
theorem foldl_max : ∀ (l : List Int) (a : Int), (a ≤ l.foldl max a ∧ (∀ x ∈ l, x ≤ l.foldl max a)) ∧ (l.foldl max a = a ∨ l.foldl max a ∈ l)
  | [], a => by simp
  | b :: l, a => by
    obtain ⟨⟨h1, h2⟩, h3⟩ := foldl_max l (max a b)
    rw [List.foldl_cons]
    refine ⟨⟨by omega, fun x hx => ?_⟩, ?_⟩
    · rcases List.mem_cons.mp hx with rfl | hx
      · omega
      · exact h2 x hx
    · rcases h3 with h3 | h3
      · by_cases hb : b ≤ a
        · left; omega
        · right; rw [h3, Int.max_eq_right (by omega)]; exact List.mem_cons_self
      · exact .inr (List.mem_cons_of_mem _ h3)
theorem lmin_spec {l : List Int} {m : Int} (h : lmin l = some m) : m ∈ l ∧ ∀ x ∈ l, m ≤ x := by
  cases l with
  | nil => cases h
  | cons a r =>
    cases h
    obtain ⟨⟨h1, h2⟩, h3⟩ := foldl_min r a
    refine ⟨?_, fun x hx => ?_⟩
    · rcases h3 with h3 | h3
      · rw [h3]; exact List.mem_cons_self
      · exact List.mem_cons_of_mem _ h3
    · rcases List.mem_cons.mp hx with rfl | hx
      · exact h1
      · exact h2 x hx
theorem lmax_spec {l : List Int} {m : Int} (h : lmax l = some m) : m ∈ l ∧ ∀ x ∈ l, x ≤ m := by
  cases l with
  | nil => cases h
  | cons a r =>
    cases h
    obtain ⟨⟨h1, h2⟩, h3⟩ := foldl_max r a
    refine ⟨?_, fun x hx => ?_⟩
    · rcases h3 with h3 | h3
      · rw [h3]; exact List.mem_cons_self
      · exact List.mem_cons_of_mem _ h3
    · rcases List.mem_cons.mp hx with rfl | hx
      · exact h1
      · exact h2 x hx
def fMin1 : DFN := fun ds Q => match ds with
  | [.list l] => match intsOf l with
    | some ns => match lmin ns with
      | some m => Q (.int m)
      | none => False
    | none => False
  | [.int i, .int j] => Q (.int (if j < i then j else i))
  | _ => False
def fMax1 : DFN := fun ds Q => match ds with
  | [.list l] => match intsOf l with
    | some ns => match lmax ns with
      | some m => Q (.int m)
      | none => False
    | none => False
  | [.int i, .int j] => Q (.int (if j > i then j else i))
  | _ => False
abbrev rMn (K : PySem.W.Frag) : List V → Hp → VK → Prop := fun xs H Q => rMin K xs H Q ∨ (∃ i j, xs = [.int i, .int j] ∧ Q (.int (if j < i then j else i)) H)
abbrev rMx (K : PySem.W.Frag) : List V → Hp → VK → Prop := fun xs H Q => rMax K xs H Q ∨ (∃ i j, xs = [.int i, .int j] ∧ Q (.int (if j > i then j else i)) H)
theorem hMin (hc : X.calm = true) : CallR X (.builtin "min") (rMn X.K) := (cr_min hc).or (call_min2 hc)
theorem hMax (hc : X.calm = true) : CallR X (.builtin "max") (rMx X.K) := (cr_max hc).or (call_max2 hc)
theorem dMin : DCall K (rMn K) fMin1 := by
  intro F H vs ds Qd k s hv h kk
  unfold fMin1 at h
  split at h
  · obtain ⟨v, rfl, h1⟩ := hv.one
    split at h
    · rename_i ns e
      obtain ⟨p, rfl, hp⟩ := h1.ints s e
      split at h
      · rename_i m em
        obtain ⟨g1, g2⟩ := lmin_spec em
        refine .inl ⟨p, ns, rfl, SqL.of hp, ?_, fun m' h1' h2' => ?_⟩
        · exact List.length_pos_of_mem g1
        · have : m' = m := by have := g2 m' h1'; have := h2' m g1; omega
          rw [this]
          exact kk _ _ _ _ (.refl s) (.int _) h
      · exact h.elim
    · exact h.elim
  · obtain ⟨v, w, rfl, h1, h2⟩ := hv.two
    rw [h1.int, h2.int]
    exact .inr ⟨_, _, rfl, kk _ _ _ _ (.refl s) (.int _) h⟩
  · exact h.elim
theorem dMax : DCall K (rMx K) fMax1 := by
  intro F H vs ds Qd k s hv h kk
  unfold fMax1 at h
  split at h
  · obtain ⟨v, rfl, h1⟩ := hv.one
    split at h
    · rename_i ns e
      obtain ⟨p, rfl, hp⟩ := h1.ints s e
      split at h
      · rename_i m em
        obtain ⟨g1, g2⟩ := lmax_spec em
        refine .inl ⟨p, ns, rfl, SqL.of hp, ?_, fun m' h1' h2' => ?_⟩
        · exact List.length_pos_of_mem g1
        · have : m' = m := by have := g2 m' h1'; have := h2' m g1; omega
          rw [this]
          exact kk _ _ _ _ (.refl s) (.int _) h
      · exact h.elim
    · exact h.elim
  · obtain ⟨v, w, rfl, h1, h2⟩ := hv.two
    rw [h1.int, h2.int]
    exact .inr ⟨_, _, rfl, kk _ _ _ _ (.refl s) (.int _) h⟩
  · exact h.elim
def fSum : DFN := fun ds Q => match ds with
  | [.list l] => match intsOf l with
    | some ns => Q (.int ns.sum)
    | none => False
  | _ => False
theorem dSum : DCall K (rSum K) fSum := by
  intro F H vs ds Qd k s hv h kk
  unfold fSum at h
  split at h
  · obtain ⟨v, rfl, h1⟩ := hv.one
    split at h
    · rename_i ns e
      obtain ⟨p, rfl, hp⟩ := h1.ints s e
      exact ⟨p, ns, rfl, SqL.of hp, kk _ _ _ _ (.refl s) (.int _) h⟩
    · exact h.elim
  · exact h.elim
def fAll : DFN := fun ds Q => match ds with
  | [.list l] => match boolsOf l with
    | some ns => Q (.bool (ns.all id))
    | none => False
  | _ => False
theorem dAll : DCall K (rAll K) fAll := by
  intro F H vs ds Qd k s hv h kk
  unfold fAll at h
  split at h
  · obtain ⟨v, rfl, h1⟩ := hv.one
    split at h
    · rename_i ns e
      obtain ⟨p, rfl, hp⟩ := h1.bools s e
      exact ⟨p, ns, rfl, SqL.of hp, kk _ _ _ _ (.refl s) (.bl _) h⟩
    · exact h.elim
  · exact h.elim
def fAny : DFN := fun ds Q => match ds with
  | [.list l] => match boolsOf l with
    | some ns => Q (.bool (ns.any id))
    | none => False
  | _ => False
theorem dAny : DCall K (rAny K) fAny := by
  intro F H vs ds Qd k s hv h kk
  unfold fAny at h
  split at h
  · obtain ⟨v, rfl, h1⟩ := hv.one
    split at h
    · rename_i ns e
      obtain ⟨p, rfl, hp⟩ := h1.bools s e
      exact ⟨p, ns, rfl, SqL.of hp, kk _ _ _ _ (.refl s) (.bl _) h⟩
    · exact h.elim
  · exact h.elim
/-! sorted of texts, fewer than 64: a list of nobody's -/
def fSortS (l : List PyData) (Q : PyData → Prop) : Prop := match strsOf l with
  | some ss => ss.length < 64 ∧ ∀ ys : List Str, ys.Perm ss → sortedS ys = true → Q (.list (ys.map PyData.str))
  | none => False
def fSorted : DFN := fun ds Q => match ds with
  | [.list l] => fSortS l Q
  | _ => False
theorem dSorted : DCall K (rSortedS K) fSorted := by
  intro F H vs ds Qd k s hv h kk
  unfold fSorted at h
  split at h
  · obtain ⟨v, rfl, h1⟩ := hv.one
    unfold fSortS at h
    split at h
    · rename_i ns e
      obtain ⟨p, rfl, hp⟩ := h1.strs s e
      refine ⟨p, ns, rfl, SqL.of hp, h.1, fun ys q pm so hq => ?_⟩
      have g := Grow.newF (o := .lst (ys.map V.str)) s hq
      exact kk _ _ _ _ g (.lst upd_same DVs.ofStrs) (h.2 ys pm so)
    · exact h.elim
  · exact h.elim
/-! abs, int -/
def fAbs : DFN := fun ds Q => match ds with
  | [.int i] => Q (.int (if i < 0 then -i else i))
  | _ => False
theorem dAbs : DCall K (fun xs H Q => ∃ i, xs = [.int i] ∧ Q (.int (if i < 0 then -i else i)) H) fAbs := by
  intro F H vs ds Qd k s hv h kk
  unfold fAbs at h
  split at h
  · obtain ⟨v, rfl, h1⟩ := hv.one
    rw [h1.int]
    exact ⟨_, rfl, kk _ _ _ _ (.refl s) (.int _) h⟩
  · exact h.elim
def fInt : DFN := fun ds Q => match ds with
  | [.int i] => Q (.int i)
  | [.bool b] => Q (.int (if b then 1 else 0))
  | _ => False
theorem dInt : DCall K (fun xs H Q => (∃ i, xs = [.int i] ∧ Q (.int i) H) ∨ ∃ k, xs = [.bl k] ∧ Q (.int (if k then 1 else 0)) H) fInt := by
  intro F H vs ds Qd k s hv h kk
  unfold fInt at h
  split at h
  · obtain ⟨v, rfl, h1⟩ := hv.one
    rw [h1.int]
    exact .inl ⟨_, rfl, kk _ _ _ _ (.refl s) (.int _) h⟩
  · obtain ⟨v, rfl, h1⟩ := hv.one
    rw [h1.bl]
    exact .inr ⟨_, rfl, kk _ _ _ _ (.refl s) (.int _) h⟩
  · exact h.elim
/-! len(set(xs)), xs a list of fewer than 64 tuples of ints -/
theorem call_lenTO : CallR X (.builtin "len") (fun xs H Q => ∃ a L, xs = [V.ref a] ∧ H a = some (SetTO X.prog X.w a L) ∧ ((L.map (·.2)).Nodup → Q (.int (L.length : Nat)) H)) := by
  intro pins s σ H xs us Q I r h
  obtain ⟨a, L, rfl, ha, q⟩ := h
  obtain ⟨u, rfl, ru⟩ := vals1 r
  cases ru
  have R0 : SetT0 X.prog X.w s.heap a L := (I.hok a _ ha).1
  obtain ⟨es, ep, t, ⟨o, ho, hex, hd⟩, hr, tab, nd, _, _, hroom, hf⟩ := R0.ex
  have hs : es.size = L.length := by
    have h := congrArg List.length hr
    unfold rowsOf at h
    rw [Array.length_toList, List.length_map] at h
    exact h
  refine call_len_set ho hex hd ?_ (by rw [hs]; omega) ?_
  · unfold SetTable.fits SetTable.fill
    rw [tab.sz, tab.dm, List.length_map, hs]
    simp
    omega
  · rw [hs]
    exact ⟨.int (L.length : Nat), H, I.tok _, ⟨_, rfl⟩, q nd⟩
end
end DL

/-! DL9: methods of texts, sets of tuples, dicts, repr. -/
namespace DL
open PySem PySem.Spec L2 PyProof.Rows
section
open Builtin.Str
/-! where a sign stands -/
theorem subAt_one (s : Str) (c i : Nat) : subAt s ⟨#[c]⟩ i = decide (s.cps.toList[i]? = some c) := by
  unfold subAt
  show (s.cps.extract i (i + 1) == #[c]) = _
  rw [Bool.eq_iff_iff, beq_iff_eq, decide_eq_true_iff]
  constructor
  · intro h
    have h2 := congrArg (fun a : Array Nat => a.toList) h
    simp only [Array.toList_extract] at h2
    have : (s.cps.toList.drop i).take 1 = [c] := by simpa [List.extract_eq_take_drop] using h2
    have h3 := congrArg (fun l : List Nat => l[0]?) this
    simpa [List.getElem?_take, List.getElem?_drop] using h3
  · intro h
    apply Array.toList_inj.mp
    simp only [Array.toList_extract]
    have hl := (List.getElem?_eq_some_iff.mp h)
    obtain ⟨hl, he⟩ := hl
    have : s.cps.toList.drop i = c :: s.cps.toList.drop (i + 1) := by rw [List.drop_eq_getElem_cons hl, he]
    simp [List.extract_eq_take_drop, this]
theorem occ_loop (s : Str) (c hi limit : Nat) : ∀ (l : List Nat) (st : Array Nat × Nat), l.Pairwise (· < ·) → (∀ i ∈ l, st.2 ≤ i) → st.1.size + l.length ≤ limit →
    (forIn l st (StrLaws.occBody s ⟨#[c]⟩ hi limit)).run.fst.toList = st.1.toList ++ l.filter fun i => decide (i < hi) && decide (s.cps.toList[i]? = some c)
  | [], st, _, _, _ => by simp
  | a :: l, st, hp, hf, hl => by
    rw [List.forIn_cons]
    unfold StrLaws.occBody
    have hp' := List.pairwise_cons.mp hp
    have ha := hf a (List.mem_cons_self ..)
    rw [subAt_one]
    have e1 : ((⟨#[c]⟩ : Str).length) = 1 := rfl
    rw [e1]
    simp only [List.length_cons] at hl
    by_cases hc : a < hi ∧ s.cps.toList[a]? = some c
    · rw [if_pos ⟨⟨⟨by omega, ha⟩, by omega⟩, decide_eq_true hc.2⟩]
      have ih := occ_loop s c hi limit l (st.1.push a, a + 1) hp'.2 (fun i hi' => hp'.1 i hi') (by simp; omega)
      have e2 : (a :: l).filter (fun i => decide (i < hi) && decide (s.cps.toList[i]? = some c)) = a :: l.filter fun i => decide (i < hi) && decide (s.cps.toList[i]? = some c) := by
        rw [List.filter_cons_of_pos]
        simp [hc.1, hc.2]
      rw [e2]
      refine Eq.trans ih ?_
      simp
    · have e2 : (a :: l).filter (fun i => decide (i < hi) && decide (s.cps.toList[i]? = some c)) = l.filter fun i => decide (i < hi) && decide (s.cps.toList[i]? = some c) := by
        rw [List.filter_cons_of_neg]
        simp only [Bool.and_eq_true, decide_eq_true_eq]
        exact hc
      rw [if_neg (by
        intro h
        exact hc ⟨by omega, of_decide_eq_true h.2⟩), e2]
      exact occ_loop s c hi limit l st hp'.2 (fun i hi' => hf i (List.mem_cons_of_mem _ hi')) (by omega)
theorem occ_one (s : Str) (c lo hi limit : Nat) (h : hi + 1 - lo ≤ limit) : occurrences s ⟨#[c]⟩ lo hi limit = (List.range' lo (hi - lo)).filter fun i => decide (s.cps.toList[i]? = some c) := by
  rw [StrLaws.occ_eq, occ_loop s c hi limit _ _ List.pairwise_lt_range' (fun i hi' => by have := List.mem_range'.mp hi'; obtain ⟨j, h1, h2⟩ := this; show lo ≤ i; omega) (by simpa using h)]
  show [] ++ _ = _
  rw [List.nil_append]
  by_cases hl : lo ≤ hi
  · have : hi + 1 - lo = (hi - lo) + 1 := by omega
    rw [this, List.range'_concat, List.filter_append]
    have e1 : (List.range' lo (hi - lo)).filter (fun i => decide (i < hi) && decide (s.cps.toList[i]? = some c)) = (List.range' lo (hi - lo)).filter fun i => decide (s.cps.toList[i]? = some c) := by
      apply List.filter_congr
      intro i hi'
      obtain ⟨j, h1, h2⟩ := List.mem_range'.mp hi'
      have : i < hi := by omega
      simp [this]
    rw [e1]
    have : ¬ (lo + (hi - lo) < hi) := by omega
    simp [this]
  · have e1 : hi + 1 - lo = 0 := by omega
    have e2 : hi - lo = 0 := by omega
    rw [e1, e2]
    rfl
theorem count_range (c : Nat) : ∀ (n lo : Nat) (l : List Nat), ((List.range' lo n).filter fun i => decide (l[i]? = some c)).length = ((l.drop lo).take n).count c
  | 0, lo, l => by simp
  | n + 1, lo, l => by
    rw [List.range'_succ]
    have ih := count_range c n (lo + 1) l
    by_cases hl : lo < l.length
    · have e : l.drop lo = l[lo] :: l.drop (lo + 1) := List.drop_eq_getElem_cons hl
      rw [e, List.take_succ_cons, List.count_cons, ← ih]
      by_cases hc : l[lo]? = some c
      · rw [List.filter_cons_of_pos (by simpa using hc), List.length_cons]
        have : l[lo] = c := by rw [List.getElem?_eq_getElem hl] at hc; exact Option.some.inj hc
        simp [this]
      · rw [List.filter_cons_of_neg (by simpa using hc)]
        have : l[lo] ≠ c := fun z => hc (by rw [List.getElem?_eq_getElem hl, z])
        simp [this]
    · have hn : l[lo]? = none := List.getElem?_eq_none_iff.mpr (by omega)
      rw [List.filter_cons_of_neg (by simp [hn]), ih, List.drop_of_length_le (by omega), List.drop_of_length_le (by omega)]
      simp
theorem count_sign (x : Str) (c : Nat) : Txt.count x ⟨#[c]⟩ = ((x.cps.toList.count c : Nat) : Int) := by
  unfold Txt.count
  rw [occ_one _ _ _ _ _ (by omega), count_range, strLen, List.drop_zero, Nat.sub_zero, List.take_length]
/-- the part from i to j, as count(.., i, j) has it -/
def within (l : List Nat) (i j : Int) : List Nat := let lo := fromIndex l.length i; let hi := toIndexW l.length j; (l.drop lo).take (hi - lo)
theorem countIn_sign (x : Str) (c : Nat) (i j : Int) : Txt.countIn x ⟨#[c]⟩ i j = (((within x.cps.toList i j).count c : Nat) : Int) := by
  unfold Txt.countIn within
  rw [occ_one _ _ _ _ _ (by unfold toIndexW; omega), count_range, strLen]
theorem within_nat (l : List Nat) (i j : Nat) : within l (i : Int) (j : Int) = (l.drop i).take (min j l.length - i) := by
  unfold within fromIndex toIndexW
  have e1 : (max 0 (if (i : Int) < 0 then (i : Int) + l.length else i)).toNat = i := by rw [if_neg (by omega)]; omega
  have e2 : min (max 0 (if (j : Int) < 0 then (j : Int) + l.length else j)).toNat l.length = min j l.length := by rw [if_neg (by omega)]; congr 1
  simp only [e1, e2]
theorem idx_le (c : Nat) : ∀ (l : List Nat) (i : Nat), l[i]? = some c → l.idxOf c ≤ i
  | [], i, h => by simp at h
  | a :: l, 0, h => by simp at h; subst h; simp
  | a :: l, i + 1, h => by
    rw [List.idxOf_cons]
    have := idx_le c l i (by simpa using h)
    cases hb : (a == c) <;> simp [hb] <;> omega
theorem index_sign (x : Str) (c : Nat) (h : c ∈ x.cps.toList) : ∃ rest, occurrences x ⟨#[c]⟩ 0 x.length 1 = x.cps.toList.idxOf c :: rest := by
  have at1 : ∀ i, StrLaws.At x ⟨#[c]⟩ x.length i ↔ x.cps.toList[i]? = some c := fun i => by
    unfold StrLaws.At
    rw [subAt_one, decide_eq_true_iff]
    constructor
    · exact fun z => z.2
    · intro z
      refine ⟨?_, z⟩
      have := (List.getElem?_eq_some_iff.mp z).1
      rw [strLen]
      exact this
  have hi : x.cps.toList[x.cps.toList.idxOf c]? = some c := by
    have hl := List.idxOf_lt_length_of_mem h
    rw [List.getElem?_eq_getElem hl]
    simp
  rcases StrLaws.occ_head x ⟨#[c]⟩ 1 (Nat.le_refl _) with ⟨_, hn⟩ | ⟨i, r, e, ha, hk⟩
  · exact absurd ((at1 _).mpr hi) (hn _)
  · have h1 := (at1 i).mp ha
    have : i = x.cps.toList.idxOf c := by
      rcases Nat.lt_trichotomy i (x.cps.toList.idxOf c) with z | z | z
      · have := idx_le c _ _ h1; omega
      · exact z
      · exact absurd ((at1 _).mpr hi) (hk _ z)
    exact ⟨r, by rw [e, this]⟩
end
end DL

/-! DL10: rules for methods of texts, sets of tuples, dicts, repr. -/
namespace DL
open PySem PySem.Spec L2 PyProof.Rows
section
variable {X : Cx} {R : XP} {K : PySem.W.Frag} {e a b c tg iter : Expr} {es : List Expr} {pos : Pos} {wa wb wc : WE} {oa ob oc : WO} {ta tb : WT}
def isStr : PyData → Bool
  | .str _ => true
  | _ => false
def isList : PyData → Bool
  | .list _ => true
  | _ => false
theorem tyStr : TyD K "str" isStr := by
  intro F H v d s hv h
  cases d with
  | str x => rw [hv.str]; rfl
  | _ => cases h
theorem tyList : TyD K "list" isList := by
  intro F H v d s hv h
  cases d with
  | list x =>
    obtain ⟨p, vs, rfl, a1, _⟩ := hv.list s
    exact .inl ⟨rfl, _, SqL.of a1⟩
  | _ => cases h
/-! s.count(c), s.count(c, i, j): c one sign -/
def fCnt : DFM := fun d ds Q => match d, ds with
  | .str s, [.str t] => match t.cps.toList with
    | [c] => Q (.int ((s.cps.toList.count c : Nat)))
    | _ => False
  | .str s, [.str t, .int i, .int j] => match t.cps.toList with
    | [c] => Q (.int (((within s.cps.toList i j).count c : Nat)))
    | _ => False
  | _, _ => False
abbrev rCnt : V → List V → Hp → VK → Prop := fun x xs H Q => (∃ a b, x = .str a ∧ xs = [.str b] ∧ Q (.int (Txt.count a b)) H) ∨ ∃ (a b : Str) (i j : Int), x = .str a ∧ xs = [.str b, .int i, .int j] ∧ Q (.int (Txt.countIn a b i j)) H
theorem MtR.or {id : String} {r r' : V → List V → Hp → VK → Prop} (h : MtR X id r) (h' : MtR X id r') : MtR X id (fun x xs H Q => r x xs H Q ∨ r' x xs H Q) :=
  fun pins s σ H x xs v us Q I rx rv q => q.elim (h pins s σ H x xs v us Q I rx rv) (h' pins s σ H x xs v us Q I rx rv)
theorem mCnt : MtR X "str.count" rCnt := MtR.or mt_count mt_count4
theorem Views.three {F H : Hp} {vs : List V} {d d' d'' : PyData} (h : Views K F H vs [d, d', d'']) : ∃ v w u, vs = [v, w, u] ∧ View K F H v d ∧ View K F H w d' ∧ View K F H u d'' := by
  obtain ⟨v, ws, rfl, a, b⟩ := h.cons'
  obtain ⟨w, u, rfl, b', c'⟩ := b.two
  exact ⟨v, w, u, rfl, a, b', c'⟩
theorem dCnt : DMeth K "str" rCnt fCnt := by
  intro F H v vs d ds Qd k s hv hvs h kk
  unfold fCnt at h
  split at h
  · split at h
    · rename_i c e
      obtain ⟨w, rfl, h1⟩ := hvs.one
      rw [hv.str, h1.str, one_sign e]
      exact .inl ⟨_, _, rfl, rfl, by rw [count_sign]; exact kk _ _ _ _ (.refl s) (.int _) h⟩
    · exact h.elim
  · split at h
    · rename_i c e
      obtain ⟨w, w2, w3, rfl, h1, h2, h3⟩ := hvs.three
      rw [hv.str, h1.str, h2.int, h3.int, one_sign e]
      exact .inr ⟨_, _, _, _, rfl, rfl, by rw [countIn_sign]; exact kk _ _ _ _ (.refl s) (.int _) h⟩
    · exact h.elim
  · exact h.elim
/-! s.index(c) -/
def fIdx : DFM := fun d ds Q => match d, ds with
  | .str s, [.str t] => match t.cps.toList with
    | [c] => c ∈ s.cps.toList ∧ Q (.int ((s.cps.toList.idxOf c : Nat)))
    | _ => False
  | _, _ => False
abbrev rIdxS : V → List V → Hp → VK → Prop := fun x xs H Q => ∃ (a b : Str) (i : Nat) (rest : List Nat), x = .str a ∧ xs = [.str b] ∧ Builtin.Str.occurrences a b 0 a.length 1 = i :: rest ∧ Q (.int i) H
theorem mt_indexS : MtR X "str.index" rIdxS := by
  intro pins s σ H x xs v us Q I rx rxs h
  obtain ⟨a, b, i, rest, rfl, rfl, e, q⟩ := h
  obtain ⟨t, rfl⟩ := rx
  obtain ⟨u, rfl, ru⟩ := vals1 rxs
  obtain ⟨t', rfl⟩ := ru
  exact call_gives PySem.F.slot_str_index (typeIs_str _ _ _) PySem.F.entry_str_index (PySem.F.args_str_index_2 _ _) (gives_str_index a b t t' i rest e) ⟨.int i, H, I.tok _, ⟨_, rfl⟩, q⟩
theorem dIdx : DMeth K "str" rIdxS fIdx := by
  intro F H v vs d ds Qd k s hv hvs h kk
  unfold fIdx at h
  split at h
  · split at h
    · rename_i c e
      obtain ⟨w, rfl, h1⟩ := hvs.one
      rw [hv.str, h1.str, one_sign e]
      obtain ⟨r, hr⟩ := index_sign _ _ h.1
      exact ⟨_, _, _, r, rfl, rfl, hr, kk _ _ _ _ (.refl s) (.int _) h.2⟩
    · exact h.elim
  · exact h.elim
/-! sep.join(list of texts) -/
def joinL (sep : List Nat) : List (List Nat) → List Nat
  | [] => []
  | [x] => x
  | x :: rest => x ++ sep ++ joinL sep rest
theorem join_eq (sep : Str) : ∀ ys : List Str, Txt.join sep ys = S (joinL sep.cps.toList (ys.map fun y => y.cps.toList)) := by
  have key : ∀ ys : List Str, Str.join sep ys = S (joinL sep.cps.toList (ys.map fun y => y.cps.toList)) := by
    intro ys
    induction ys with
    | nil => rfl
    | cons x rest ih =>
      cases rest with
      | nil => rfl
      | cons y rest =>
        show (x ++ sep) ++ Str.join sep (y :: rest) = _
        rw [ih, S_app, S_app]
        rfl
  intro ys
  show Builtin.Str.glued sep ys = _
  rw [StrLaws.glued_eq_join]
  exact key ys
def fJoin : DFM := fun d ds Q => match d, ds with
  | .str s, [.list l] => match strsOf l with
    | some ss => (ss.map (fun y => y.cps.toList.length)).sum + ss.length * s.cps.toList.length ≤ 16777216 ∧ Q (.str (S (joinL s.cps.toList (ss.map fun y => y.cps.toList))))
    | none => False
  | _, _ => False
abbrev rJn (K : PySem.W.Frag) : V → List V → Hp → VK → Prop := fun x xs H Q => ∃ a p, ∃ ys : List Str, x = .str a ∧ xs = [.ref p] ∧ (SqL K H p (ys.map V.str) ∨ SqT K H p (ys.map V.str)) ∧
    (ys.map (·.length)).sum + ys.length * a.length ≤ 16777216 ∧ Q (.str (Txt.join a ys)) H
theorem dJoin : DMeth K "str" (rJn K) fJoin := by
  intro F H v vs d ds Qd k s hv hvs h kk
  unfold fJoin at h
  split at h
  · split at h
    · rename_i ss e
      obtain ⟨w, rfl, h1⟩ := hvs.one
      obtain ⟨p, rfl, hp⟩ := h1.strs s e
      rw [hv.str]
      refine ⟨_, p, ss, rfl, rfl, .inl (SqL.of hp), ?_, by rw [join_eq]; exact kk _ _ _ _ (.refl s) (.str _) h.2⟩
      have : ss.map (·.length) = ss.map (fun y => y.cps.toList.length) := List.map_congr_left fun y _ => strLen y
      rw [this, strLen]
      exact h.1
    · exact h.elim
  · exact h.elim
/-! len(set(list of tuples of ints)) -/
def tupsOf : List PyData → Option (List (List Int))
  | [] => some []
  | .tuple t :: r => match intsOf t, tupsOf r with
    | some ns, some ts => some (ns :: ts)
    | _, _ => none
  | _ :: _ => none
theorem tupsOf_map : ∀ ts : List (List Int), tupsOf (ts.map fun t => .tuple (t.map PyData.int)) = some ts
  | [] => rfl
  | t :: ts => by rw [List.map_cons, tupsOf, intsOf_map, tupsOf_map ts]
theorem sub_len {α : Type} [DecidableEq α] : ∀ (l m : List α), l.Nodup → (∀ x ∈ l, x ∈ m) → l.length ≤ m.length
  | [], m, _, _ => Nat.zero_le _
  | a :: l, m, hn, hs => by
    have h1 := List.nodup_cons.mp hn
    have ha : a ∈ m := hs a List.mem_cons_self
    have := sub_len l (m.erase a) h1.2 fun x hx => by
      have : x ≠ a := fun z => h1.1 (z ▸ hx)
      exact (List.mem_erase_of_ne this).mpr (hs x (List.mem_cons_of_mem _ hx))
    rw [List.length_erase_of_mem ha] at this
    have hp : 0 < m.length := List.length_pos_of_mem ha
    simp only [List.length_cons]
    omega
def distinct {α : Type} [DecidableEq α] : List α → List α
  | [] => []
  | a :: l => if a ∈ l then distinct l else a :: distinct l
theorem mem_distinct {α : Type} [DecidableEq α] {x : α} : ∀ {l : List α}, x ∈ distinct l ↔ x ∈ l
  | [] => by simp [distinct]
  | a :: l => by
    unfold distinct
    split
    · rename_i h
      rw [mem_distinct (l := l), List.mem_cons]
      constructor
      · exact .inr
      · rintro (rfl | h2)
        · exact h
        · exact h2
    · rw [List.mem_cons, List.mem_cons, mem_distinct (l := l)]
theorem nodup_distinct {α : Type} [DecidableEq α] : ∀ l : List α, (distinct l).Nodup
  | [] => List.nodup_nil
  | a :: l => by
    unfold distinct
    split
    · exact nodup_distinct l
    · rename_i h
      exact List.nodup_cons.mpr ⟨fun z => h (mem_distinct.mp z), nodup_distinct l⟩
def wLenSet (oa : WO) : WE := fun xn M Q => oa xn M fun x M1 => match x.get M1 with
  | some (.list l) => match tupsOf l with
    | some ts => ts.length < 64 ∧ Q (.int ((distinct ts).length : Nat)) M1
    | none => False
  | _ => False
theorem tups_refs {F H : Hp} (s : Same F H) : ∀ {l : List PyData} {vs : List V} {ts : List (List Int)}, DVs K F vs l → tupsOf l = some ts → ∃ ks : List (Addr × List Int), vs = ks.map (fun p => V.ref p.1) ∧ ts = ks.map (·.2) ∧ ∀ p ∈ ks, SqT K H p.1 (p.2.map V.int)
  | [], _, ts, .nil, h => by cases h; exact ⟨[], rfl, rfl, fun _ z => nomatch z⟩
  | .tuple t :: r, _, ts, .cons (.tup h1 h2) q, h => by
    unfold tupsOf at h
    split at h
    · rename_i ns ts' e1 e2
      cases h
      obtain ⟨ks, e3, e4, e5⟩ := tups_refs s q e2
      rw [intsOf_eq e1] at h2
      rw [h2.ints] at h1
      refine ⟨(_, ns) :: ks, by rw [e3]; rfl, by rw [e4]; rfl, fun p hp => ?_⟩
      rcases List.mem_cons.mp hp with rfl | hp
      · exact SqT.of (s _ _ h1)
      · exact e5 p hp
    · cases h
theorem dE_lenset {p p2 q pos : Pos} (hc : X.calm = true) (hu : X.A.units + 64 < cLine) (hg : Gl X "len") (hm : X.mg "len" = none) (hg2 : Gl X "set") (hm2 : X.mg "set" = none) (ha : DO X R a oa)
    (hs1 : starEach [a] X.env = [(false, eval a X.env)] := by rfl) (hs2 : starEach [.Call (.Name "set" p2) [a] [] q] X.env = [(false, eval (.Call (.Name "set" p2) [a] [] q) X.env)] := by rfl) : DE X R (.Call (.Name "len" p) [.Call (.Name "set" p2) [a] [] q] [] pos) (wLenSet oa) := by
  obtain ⟨t, pp, qq⟩ := ha.ex
  refine ⟨_, pe_callB call_lenTO hg hm boot_len (pa_cons (pe_callTy (cr_setOfT hc hu) hg2 hm2 boot_set (pa_cons pp pa_nil hs1) (by decide) (by decide) hs1 rfl) pa_nil hs2) (by decide) (by decide) hs2 rfl, fun r l hw kk => qq r l hw fun v x M1 F1 H1 s1 r1 hx y => ?_⟩
  split at y
  · rename_i l e
    split at y
    · rename_i ts e2
      obtain ⟨p, vs, rfl, a1, a2⟩ := (r1.opd hx e).list r1.sub
      obtain ⟨ks, rfl, rfl, h3⟩ := tups_refs r1.sub a2 e2
      refine ⟨p, ks, rfl, SqL.of a1, h3, by simpa using y.1, fun b L hb hL1 hL2 => ?_⟩
      refine ⟨b, L, rfl, upd_same, fun nd => ?_⟩
      have e3 : L.length = (distinct (ks.map (·.2))).length := by
        have h1 : (L.map (·.2)).length ≤ (distinct (ks.map (·.2))).length := sub_len _ _ nd fun z hz => by
          obtain ⟨p, hp, rfl⟩ := List.mem_map.mp hz
          exact mem_distinct.mpr (List.mem_map.mpr ⟨p, hL1 p hp, rfl⟩)
        have h2 : (distinct (ks.map (·.2))).length ≤ (L.map (·.2)).length := sub_len _ _ (nodup_distinct _) fun z hz => by
          obtain ⟨p, hp, rfl⟩ := List.mem_map.mp (mem_distinct.mp hz)
          exact hL2 p hp
        rw [List.length_map] at h1 h2
        omega
      rw [e3]
      exact kk _ _ _ _ _ s1 (r1.grow (Grow.new r1.sub hb)) (.int _) y.2
    · exact y.elim
  · exact y.elim

/-! dicts: keys ints and texts, or tuples of such -/
def kEq1 : PyData → PyData → Bool
  | .int i, .int j => decide (i = j)
  | .str a, .str b => decide (a = b)
  | _, _ => false
def kEqs : List PyData → List PyData → Bool
  | [], [] => true
  | a :: l, b :: m => kEq1 a b && kEqs l m
  | _, _ => false
def kEq : PyData → PyData → Bool
  | .tuple l, .tuple m => kEqs l m
  | a, b => kEq1 a b
theorem kEq1_kD (a b : Key) : kEq1 (kD a) (kD b) = decide (a = b) := by
  cases a <;> cases b <;> simp [kD, kEq1]
theorem kEqs_kD : ∀ a b : List Key, kEqs (a.map kD) (b.map kD) = decide (a = b)
  | [], [] => by simp [kEqs]
  | [], _ :: _ => by simp [kEqs]
  | _ :: _, [] => by simp [kEqs]
  | a :: l, b :: m => by
    rw [List.map_cons, List.map_cons, kEqs, kEq1_kD, kEqs_kD l m]
    simp
theorem kEq_kD (a b : Key) : kEq (kD a) (kD b) = decide (a = b) := by
  rw [← kEq1_kD]
  cases a <;> cases b <;> rfl
theorem kEq_tD (a b : List Key) : kEq (.tuple (a.map kD)) (.tuple (b.map kD)) = decide (a = b) := kEqs_kD a b
def dlook (kvs : List (PyData × PyData)) (k : PyData) : Option PyData := (kvs.find? fun kv => kEq kv.1 k).map (·.2)
def dput (kvs : List (PyData × PyData)) (k v : PyData) : List (PyData × PyData) :=
  if (kvs.any fun kv => kEq kv.1 k) = true then kvs.map (fun kv => if kEq kv.1 k = true then (kv.1, v) else kv) else kvs ++ [(k, v)]
/-- an abstract dict and its data -/
theorem look_run {α : Type} [DecidableEq α] {F : Hp} {kd : α → PyData} (hk : ∀ a b, kEq (kd a) (kd b) = decide (a = b)) {k : α} : ∀ {ks : List (α × V)} {kvs : List (PyData × PyData)}, kvs.map (·.1) = ks.map (fun p => kd p.1) → DVs K F (ks.map (·.2)) (kvs.map (·.2)) →
    (valV ks k = none ∧ dlook kvs (kd k) = none) ∨ ∃ v d, valV ks k = some v ∧ dlook kvs (kd k) = some d ∧ DV K F v d
  | [], [], _, _ => .inl ⟨rfl, rfl⟩
  | [], _ :: _, h, _ => by simp at h
  | _ :: _, [], h, _ => by simp at h
  | (a, v) :: ks, (d, e) :: kvs, h, .cons r q => by
    simp only [List.map_cons, List.cons.injEq] at h
    have hd : d = kd a := h.1
    have e1 : dlook ((d, e) :: kvs) (kd k) = if a = k then some e else dlook kvs (kd k) := by
      unfold dlook
      rw [List.find?_cons]
      simp only [hd, hk]
      by_cases z : a = k <;> simp [z]
    have e2 : valV ((a, v) :: ks) k = if a = k then some v else valV ks k := by
      unfold valV
      rw [List.find?_cons]
      by_cases z : a = k <;> simp [z]
    rw [e1, e2]
    by_cases z : a = k
    · rw [if_pos z, if_pos z]
      exact .inr ⟨v, e, rfl, rfl, r⟩
    · rw [if_neg z, if_neg z]
      exact look_run hk h.2 q
theorem put_run {α : Type} [DecidableEq α] {F : Hp} {kd : α → PyData} (hk : ∀ a b, kEq (kd a) (kd b) = decide (a = b)) {k : α} {v : V} {d : PyData} {ks : List (α × V)} {kvs : List (PyData × PyData)} (h : kvs.map (·.1) = ks.map (fun p => kd p.1)) (hd : DVs K F (ks.map (·.2)) (kvs.map (·.2))) (hv : DV K F v d) :
    (dput kvs (kd k) d).map (·.1) = (putK ks k v).map (fun p => kd p.1) ∧ DVs K F ((putK ks k v).map (·.2)) ((dput kvs (kd k) d).map (·.2)) ∧ (putK ks k v).length ≤ ks.length + 1 := by
  have any_eq : ∀ {ks : List (α × V)} {kvs : List (PyData × PyData)}, kvs.map (·.1) = ks.map (fun p => kd p.1) → (kvs.any fun kv => kEq kv.1 (kd k)) = ks.any fun kv => decide (kv.1 = k) := by
    intro ks
    induction ks with
    | nil => intro kvs h; cases kvs <;> simp at h ⊢
    | cons p ks ih =>
      intro kvs h
      cases kvs with
      | nil => simp at h
      | cons q kvs =>
        simp only [List.map_cons, List.cons.injEq] at h
        rw [List.any_cons, List.any_cons, ih h.2, h.1, hk]
  unfold dput putK
  rw [any_eq h]
  split
  · refine ⟨?_, ?_, by simp⟩
    · rw [List.map_map, List.map_map]
      have e1 : ((fun kv : PyData × PyData => kv.1) ∘ fun kv => if kEq kv.1 (kd k) = true then (kv.1, d) else kv) = fun kv => kv.1 := by
        funext kv; simp only [Function.comp]; split <;> rfl
      have e2 : ((fun p : α × V => kd p.1) ∘ fun kv => if kv.1 = k then (kv.1, v) else kv) = fun p => kd p.1 := by
        funext kv; simp only [Function.comp]; split <;> rfl
      rw [e1, e2, h]
    · rename_i hany; clear any_eq hany
      induction ks generalizing kvs with
      | nil => cases kvs with
        | nil => exact .nil
        | cons _ _ => simp at h
      | cons p ks ih =>
        cases kvs with
        | nil => simp at h
        | cons q kvs =>
          simp only [List.map_cons, List.cons.injEq] at h
          cases hd with
          | cons r q2 =>
            simp only [List.map_cons]
            refine .cons ?_ (ih h.2 q2)
            rw [h.1, hk]
            by_cases z : p.1 = k
            · simp only [z, decide_true, if_true]; exact hv
            · simp only [z, decide_false, if_false]; simpa using r
  · refine ⟨?_, ?_, by simp⟩
    · rw [List.map_append, List.map_append, h]; rfl
    · rw [List.map_append, List.map_append]; exact hd.app (.cons hv .nil)
/-- a key as the dict at hand wants it: kvs begins with a mark where keys are tuples -/
def keyFits (kvs : List (PyData × PyData)) (k : PyData) : Bool := match kvs, k with
  | (.none, _) :: _, .tuple ds => ds.all fun d => match d with
    | .int _ | .str _ => true
    | _ => false
  | (.none, _) :: _, _ => false
  | _, .int _ => true
  | _, .str _ => true
  | _, _ => false
theorem keys_of : ∀ {ds : List PyData}, (ds.all fun d => match d with
    | .int _ | .str _ => true
    | _ => false) = true → ∃ ks : List Key, ds = ks.map kD
  | [], _ => ⟨[], rfl⟩
  | .int i :: r, h => by
    obtain ⟨ks, e⟩ := keys_of (ds := r) (by simpa using h)
    exact ⟨.inl i :: ks, by rw [e]; rfl⟩
  | .str i :: r, h => by
    obtain ⟨ks, e⟩ := keys_of (ds := r) (by simpa using h)
    exact ⟨.inr i :: ks, by rw [e]; rfl⟩
  | .none :: _, h => by simp at h
  | .bool _ :: _, h => by simp at h
  | .list _ :: _, h => by simp at h
  | .tuple _ :: _, h => by simp at h
  | .dict _ :: _, h => by simp at h
theorem keys_vals {F : Hp} : ∀ {ks : List Key} {vs : List V}, DVs K F vs (ks.map kD) → vs = ks.map kV
  | [], _, .nil => rfl
  | .inl i :: ks, _, .cons (.int _) q => by rw [keys_vals q]; rfl
  | .inr i :: ks, _, .cons (.str _) q => by rw [keys_vals q]; rfl
/-- a dict that is seen, asked -/
theorem View.dget {F H : Hp} {v w : V} {kvs : List (PyData × PyData)} {k : PyData} (s : Same F H) (hd : View K F H v (.dict kvs)) (hk : View K F H w k) (fit : keyFits kvs k = true) :
    ∃ a o, v = .ref a ∧ IsD H a ∧ DGet H a w o ∧ ((o = none ∧ dlook (dpairs kvs) k = none) ∨ ∃ x d, o = some x ∧ dlook (dpairs kvs) k = some d ∧ DV K F x d) := by
  have goK : ∀ {a : Addr} {ks : List (Key × V)} {kvs : List (PyData × PyData)}, Rd H a (.dK ks) → kvs.map (·.1) = ks.map (fun p => kD p.1) → DVs K F (ks.map (·.2)) (kvs.map (·.2)) → keyFits kvs k = true →
      ∃ o, IsD H a ∧ DGet H a w o ∧ ((o = none ∧ dlook (dpairs kvs) k = none) ∨ ∃ x d, o = some x ∧ dlook (dpairs kvs) k = some d ∧ DV K F x d) := by
    intro a ks kvs r e q fit
    have key : ∃ kk : Key, k = kD kk := by
      unfold keyFits at fit
      split at fit
      · exfalso
        cases ks with
        | nil => simp at e
        | cons p _ => obtain ⟨z, _⟩ := p; cases z <;> simp [kD] at e
      · cases fit
      · exact ⟨.inl _, rfl⟩
      · exact ⟨.inr _, rfl⟩
      · cases fit
    obtain ⟨kk, rfl⟩ := key
    have hw : w = kV kk := by cases kk with
      | inl i => exact hk.int
      | inr x => exact hk.str
    refine ⟨valV ks kk, .inl ⟨_, r⟩, .inl ⟨ks, kk, r, hw, rfl⟩, ?_⟩
    rw [dpairs_k e]
    rcases look_run (K := K) kEq_kD (k := kk) e q with z | ⟨v, d, z1, z2, z3⟩
    · exact .inl z
    · exact .inr ⟨v, d, z1, z2, z3⟩
  have goT : ∀ {a : Addr} {ks : List (List Key × V)} {kvs : List (PyData × PyData)}, Rd H a (.dT ks) → kvs.map (·.1) = ks.map (fun p => .tuple (p.1.map kD)) → DVs K F (ks.map (·.2)) (kvs.map (·.2)) → keyFits ((.none, .none) :: kvs) k = true →
      ∃ o, IsD H a ∧ DGet H a w o ∧ ((o = none ∧ dlook kvs k = none) ∨ ∃ x d, o = some x ∧ dlook kvs k = some d ∧ DV K F x d) := by
    intro a ks kvs r e q fit
    have key : ∃ kk : List Key, k = .tuple (kk.map kD) := by
      cases k with
      | tuple ds => obtain ⟨kk, rfl⟩ := keys_of (show _ = true from fit); exact ⟨kk, rfl⟩
      | _ => cases fit
    obtain ⟨kk, rfl⟩ := key
    obtain ⟨b, vs, rfl, hb, hvs⟩ := hk.tupP s
    rw [keys_vals hvs] at hb
    refine ⟨valV ks kk, .inr ⟨_, r⟩, .inr ⟨ks, kk, b, r, rfl, hb, rfl⟩, ?_⟩
    rcases look_run (K := K) (kd := fun z => .tuple (z.map kD)) kEq_tD (k := kk) e q with z | ⟨v, d, z1, z2, z3⟩
    · exact .inl z
    · exact .inr ⟨v, d, z1, z2, z3⟩
  rcases hd with hd | ⟨p, rfl, hd⟩
  · cases hd with
    | dic r e q => obtain ⟨o, h1, h2, h3⟩ := goK (sameRd s r) e q fit; exact ⟨_, o, rfl, h1, h2, h3⟩
    | dit r e q => obtain ⟨o, h1, h2, h3⟩ := goT (sameRd s r) e q fit; exact ⟨_, o, rfl, h1, h2, h3⟩
  · cases hd with
    | dic r e q => obtain ⟨o, h1, h2, h3⟩ := goK (.inl r) e q fit; exact ⟨_, o, rfl, h1, h2, h3⟩
    | dit r e q => obtain ⟨o, h1, h2, h3⟩ := goT (.inl r) e q fit; exact ⟨_, o, rfl, h1, h2, h3⟩
/-! k in d, d[k], d.get(k), d.get(k, x) -/
def askD (x y : Opd) (M : Mem) (P : Option PyData → Prop) : Prop := match x.get M, y.get M with
  | some (.dict kvs), some k => keyFits kvs k = true ∧ P (dlook (dpairs kvs) k)
  | _, _ => False
def wDGet (oa ob : WO) : WE := fun xn M Q => oa xn M fun x M1 => ob xn M1 fun y M2 => askD x y M2 fun o => match o with
  | some d => Q d M2
  | none => False
theorem dE_dget (hu : X.A.units + 1 < cLine) (ha : DO X R a oa) (hb : DO X R b ob) (hs : NoSl b := by exact fun _ _ => rfl) : DE X R (.Subscript a b pos) (wDGet oa ob) := by
  obtain ⟨t1, p1, q1⟩ := ha.ex
  obtain ⟨t2, p2, q2⟩ := hb.ex
  refine ⟨_, pe_dget hu p1 p2 hs, fun r l hw kk => ?_⟩
  refine q1 r l hw fun vx x M1 F1 H1 s1 r1 hx z1 => q2 r1 l z1 fun vy y M2 F2 H2 s2 r2 hy z2 => ?_
  unfold askD at z2
  split at z2
  · rename_i kvs k e1 e2
    obtain ⟨a, o, rfl, h1, h2, h3⟩ := (r2.opd (hx.same s2) e1).dget r2.sub (r2.opd hy e2) z2.1
    rcases h3 with ⟨rfl, h4⟩ | ⟨v, d, rfl, h4, h5⟩
    · rw [h4] at z2; exact z2.2.elim
    · rw [h4] at z2
      exact ⟨a, v, rfl, h2, kk _ _ _ _ _ (s1.trans s2) r2 h5 z2.2⟩
  · exact z2.elim
def wDIn (oa ob : WO) : WE := fun xn M Q => oa xn M fun y M1 => ob xn M1 fun x M2 => askD x y M2 fun o => Q (.bool o.isSome) M2
def wDNotIn (oa ob : WO) : WE := fun xn M Q => oa xn M fun y M1 => ob xn M1 fun x M2 => askD x y M2 fun o => Q (.bool (!o.isSome)) M2
theorem dE_din (hu : X.A.units + 1 < cLine) (ha : DO X R a oa) (hb : DO X R b ob) (hm : behindInMarks .In b = false := by first | rfl | with_unfolding_all rfl) : DE X R (.Compare a [.In] [b] pos) (wDIn oa ob) := by
  obtain ⟨t1, p1, q1⟩ := ha.ex
  obtain ⟨t2, p2, q2⟩ := hb.ex
  refine ⟨_, pe_cmp (pc_din hu p1 p2) hm, fun r l hw kk => ?_⟩
  refine q1 r l hw fun vy y M1 F1 H1 s1 r1 hy z1 => q2 r1 l z1 fun vx x M2 F2 H2 s2 r2 hx z2 => ?_
  unfold askD at z2
  split at z2
  · rename_i kvs k e1 e2
    obtain ⟨a, o, rfl, h1, h2, h3⟩ := (r2.opd hx e1).dget r2.sub (r2.opd (hy.same s2) e2) z2.1
    refine ⟨a, o, rfl, h2, ?_⟩
    rcases h3 with ⟨rfl, h4⟩ | ⟨v, d, rfl, h4, h5⟩
    · rw [h4] at z2; exact kk _ _ _ _ _ (s1.trans s2) r2 (.bl _) z2.2
    · rw [h4] at z2; exact kk _ _ _ _ _ (s1.trans s2) r2 (.bl _) z2.2
  · exact z2.elim
theorem dE_dnotin (hu : X.A.units + 1 < cLine) (ha : DO X R a oa) (hb : DO X R b ob) (hm : behindInMarks .NotIn b = false := by first | rfl | with_unfolding_all rfl) : DE X R (.Compare a [.NotIn] [b] pos) (wDNotIn oa ob) := by
  obtain ⟨t1, p1, q1⟩ := ha.ex
  obtain ⟨t2, p2, q2⟩ := hb.ex
  refine ⟨_, pe_cmp (pc_dnotin hu p1 p2) hm, fun r l hw kk => ?_⟩
  refine q1 r l hw fun vy y M1 F1 H1 s1 r1 hy z1 => q2 r1 l z1 fun vx x M2 F2 H2 s2 r2 hx z2 => ?_
  unfold askD at z2
  split at z2
  · rename_i kvs k e1 e2
    obtain ⟨a, o, rfl, h1, h2, h3⟩ := (r2.opd hx e1).dget r2.sub (r2.opd (hy.same s2) e2) z2.1
    refine ⟨a, o, rfl, h2, ?_⟩
    rcases h3 with ⟨rfl, h4⟩ | ⟨v, d, rfl, h4, h5⟩
    · rw [h4] at z2; exact kk _ _ _ _ _ (s1.trans s2) r2 (.bl _) z2.2
    · rw [h4] at z2; exact kk _ _ _ _ _ (s1.trans s2) r2 (.bl _) z2.2
  · exact z2.elim
def wDG2 (oa ob : WO) (wc : WE) : WE := fun xn M Q => oa xn M fun x M1 => (∃ kvs, x.get M1 = some (.dict kvs)) ∧ ob xn M1 fun y M2 => wc xn M2 fun dd M3 => askD x y M3 fun o => Q (o.getD dd) M3
def wDG1 (oa ob : WO) : WE := fun xn M Q => oa xn M fun x M1 => (∃ kvs, x.get M1 = some (.dict kvs)) ∧ ob xn M1 fun y M2 => askD x y M2 fun o => Q (o.getD .none) M2
theorem View.isD {F H : Hp} {v : V} {kvs : List (PyData × PyData)} (s : Same F H) (hd : View K F H v (.dict kvs)) : ∃ a, v = .ref a ∧ IsD H a := by
  rcases hd with hd | ⟨p, rfl, hd⟩
  · cases hd with
    | dic r e q => exact ⟨_, rfl, .inl ⟨_, sameRd s r⟩⟩
    | dit r e q => exact ⟨_, rfl, .inr ⟨_, sameRd s r⟩⟩
  · cases hd with
    | dic r e q => exact ⟨_, rfl, .inl ⟨_, .inl r⟩⟩
    | dit r e q => exact ⟨_, rfl, .inr ⟨_, .inl r⟩⟩
theorem dE_dg2 {apos : Pos} (hu : X.A.units + 1 < cLine) (ha : DO X R a oa) (hb : DO X R b ob) (hc : DE X R c wc) (m : M2 X a "get" apos b c pos) : DE X R (.Call (.Attribute a "get" apos) [b, c] [] pos) (wDG2 oa ob wc) := by
  obtain ⟨t1, p1, q1⟩ := ha.ex
  obtain ⟨t2, p2, q2⟩ := hb.ex
  obtain ⟨t3, p3, q3⟩ := hc.ex
  refine ⟨_, pe_dget2 hu p1 p2 p3 m, fun r l hw kk => ?_⟩
  refine q1 r l hw fun vx x M1 F1 H1 s1 r1 hx z1 => ?_
  obtain ⟨⟨kv0, e0⟩, z1⟩ := z1
  obtain ⟨a, rfl, hD⟩ := (r1.opd hx e0).isD r1.sub
  refine ⟨a, rfl, hD, q2 r1 l z1 fun vy y M2 F2 H2 s2 r2 hy z2 => q3 r2 l z2 fun vz dz M3 F3 H3 s3 r3 hz z3 => ?_⟩
  unfold askD at z3
  split at z3
  · rename_i kvs k e1 e2
    obtain ⟨a', o, ea, h1, h2, h3⟩ := (r3.opd ((hx.same s2).same s3) e1).dget r3.sub (r3.opd (hy.same s3) e2) z3.1
    cases ea
    refine ⟨o, h2, ?_⟩
    rcases h3 with ⟨rfl, h4⟩ | ⟨v, d, rfl, h4, h5⟩
    · rw [h4] at z3; exact kk _ _ _ _ _ (s1.trans (s2.trans s3)) r3 hz z3.2
    · rw [h4] at z3; exact kk _ _ _ _ _ (s1.trans (s2.trans s3)) r3 h5 z3.2
  · exact z3.elim
theorem dE_dg1 {apos : Pos} (hu : X.A.units + 1 < cLine) (ha : DO X R a oa) (hb : DO X R b ob) (m : M1 X a "get" apos b pos) : DE X R (.Call (.Attribute a "get" apos) [b] [] pos) (wDG1 oa ob) := by
  obtain ⟨t1, p1, q1⟩ := ha.ex
  obtain ⟨t2, p2, q2⟩ := hb.ex
  refine ⟨_, pe_dget1 hu p1 p2 m, fun r l hw kk => ?_⟩
  refine q1 r l hw fun vx x M1 F1 H1 s1 r1 hx z1 => ?_
  obtain ⟨⟨kv0, e0⟩, z1⟩ := z1
  obtain ⟨a, rfl, hD⟩ := (r1.opd hx e0).isD r1.sub
  refine ⟨a, rfl, hD, q2 r1 l z1 fun vy y M3 F3 H3 s3 r3 hy z3 => ?_⟩
  unfold askD at z3
  split at z3
  · rename_i kvs k e1 e2
    obtain ⟨a', o, ea, h1, h2, h3⟩ := (r3.opd (hx.same s3) e1).dget r3.sub (r3.opd hy e2) z3.1
    cases ea
    refine ⟨o, h2, ?_⟩
    rcases h3 with ⟨rfl, h4⟩ | ⟨v, d, rfl, h4, h5⟩
    · rw [h4] at z3; exact kk _ _ _ _ _ (s1.trans s3) r3 .non z3.2
    · rw [h4] at z3; exact kk _ _ _ _ _ (s1.trans s3) r3 h5 z3.2
  · exact z3.elim
/-! d[k] = v, the dict a slot's own -/
/-- the dict with a key put in (its mark stays) -/
def dputM (kvs : List (PyData × PyData)) (k v : PyData) : List (PyData × PyData) := match kvs with
  | (.none, m) :: r => (.none, m) :: dput r k v
  | l => dput l k v
def uDPut (i : Nat) (wa : WE) (oa : WO) : WS := fun xn De M => wa xn M fun d M1 => (∃ kvs, M1.env[i]? = some (some (.ow (.dict kvs)))) ∧ oa xn M1 fun o M2 => match o.get M2, M2.env[i]? with
  | some k, some (some (.ow (.dict kvs))) => keyFits kvs k = true ∧ kvs.length < sizeLine ∧ De.nx (M2.set i (.ow (.dict (dputM kvs k d))))
  | _, _ => False
theorem dS_dput {i : Nat} {x : Str} {xp p2 : Pos} (hu : X.A.units + 1 < cLine) (h : DE X R e wa) (hi : DO X R a oa) (hN : X.N[i]? = some x := by rfl) (hv : Vis X.env.scope x := by first | exact Or.inl rfl | exact Or.inr (Or.inl rfl) | exact Or.inr (Or.inr rfl)) (hd : (x == ("__debug__" : Str)) = false := by decide)
    (hcd : (x == ("__classdict__" : Str)) = false := by decide) (hs : swapsWith e (some (.Subscript (.Name x xp) a p2)) pos.line X.env = pure false := by rfl) : DS X R (.Assign [.Subscript (.Name x xp) a p2] e pos) (uDPut i wa oa) := by
  obtain ⟨t, p, q⟩ := h.ex
  obtain ⟨t2, p2', q2⟩ := hi.ex
  refine ⟨_, ps_dput hu (pe_var (i := i) hN hv hd hcd) p2' p hs, fun {F0 H0 F H W M σ xn De D} r l hw E => ?_⟩
  refine q r l hw fun v d M1 F1 H1 s1 r1 dv z => ?_
  obtain ⟨⟨kv0, e0⟩, z⟩ := z
  obtain ⟨v0, g1, p0, rfl, _⟩ := r1.slt i _ e0
  refine ⟨.ref p0, g1, q2 r1 l z fun vi o M2 F2 H2 s2 r2 ho z2 => ?_⟩
  split at z2
  · rename_i k kvs eo e1
    obtain ⟨z3, z4, z5⟩ := z2
    obtain ⟨v1, g2, p1, rfl, ow, _⟩ := r2.slt i _ e1
    rw [g1] at g2
    cases g2
    have hk := r2.opd ho eo
    cases ow with
    | @dic ks _ r e q =>
      have key : ∃ kk : Key, k = kD kk := by
        unfold keyFits at z3
        split at z3
        · exfalso
          cases ks with
          | nil => simp at e
          | cons p _ => obtain ⟨z, _⟩ := p; cases z <;> simp [kD] at e
        · cases z3
        · exact ⟨.inl _, rfl⟩
        · exact ⟨.inr _, rfl⟩
        · cases z3
      obtain ⟨kk, rfl⟩ := key
      have hw : vi = kV kk := by cases kk with
        | inl i => exact hk.int
        | inr x => exact hk.str
      have em : dputM kvs (kD kk) d = dput kvs (kD kk) d := by
        unfold dputM
        split
        · exfalso
          cases ks with
          | nil => simp at e
          | cons p _ => obtain ⟨z, _⟩ := p; cases z <;> simp [kD] at e
        · rfl
      rw [em] at z5
      obtain ⟨a1, a2, a3⟩ := put_run (K := X.K) kEq_kD (k := kk) e q (dv.same s2)
      refine ⟨p0, _, rfl, .inl ⟨ks, kk, r, hw, by rw [q.len']; exact z4, rfl⟩, ?_⟩
      exact E.nx _ _ _ _ (s1.trans s2) (r2.writeOw e1 g1 (.dic upd_same a1 a2)) z5
    | @dit ks kvs r e q =>
      have key : ∃ kk : List Key, k = .tuple (kk.map kD) := by
        cases k with
        | tuple ds => obtain ⟨kk, rfl⟩ := keys_of (show _ = true from z3); exact ⟨kk, rfl⟩
        | _ => cases z3
      obtain ⟨kk, rfl⟩ := key
      obtain ⟨b, vs, rfl, hb, hvs⟩ := hk.tupP r2.sub
      rw [keys_vals hvs] at hb
      obtain ⟨a1, a2, a3⟩ := put_run (K := X.K) (kd := fun z => .tuple (z.map kD)) kEq_tD (k := kk) e q (dv.same s2)
      refine ⟨p0, _, rfl, .inr ⟨ks, kk, b, r, rfl, hb, by rw [q.len']; simp at z4; omega, rfl⟩, ?_⟩
      exact E.nx _ _ _ _ (s1.trans s2) (r2.writeOw e1 g1 (.dit upd_same a1 a2)) z5
  · exact z2.elim
end
end DL

/-! DL11: the script, the well, displays of dicts, repr. -/
namespace DL
open PySem PySem.Spec L2 PyProof.Rows
section
variable {X : Cx} {R : XP} {K : PySem.W.Frag} {e a b c tg iter : Expr} {es : List Expr} {pos : Pos} {wa wb wc : WE} {oa ob oc : WO} {ta tb : WT}
/-- what nobody holds stays so while an expression is reckoned beside it -/
theorem held {F0 H0 F H F' H' : Hp} {W : Option (Addr × Addr)} {M M' : Mem} {σ : List (Option V)} {p : Addr} {d : PyData} (r : Rel K F0 H0 W M σ F H) (f : Fresh K H0 W M σ F H p d) (n : Rel K F H W M' σ F' H') :
    Rel K F0 H0 W ⟨M.env, M'.wl⟩ σ F' H' ∧ Fresh K H0 W ⟨M.env, M'.wl⟩ σ F' H' p d ∧ H' p = H p := by
  have af := n.after
  obtain ⟨u, hu⟩ := f.at_.there
  have ha : H' p = some u := af.h _ _ hu f.nw
  refine ⟨r.of_after af n.wel, ⟨f.at_.move af.f (ha.trans hu.symm), ?_, f.n0, f.nw, f.ns⟩, ha.trans hu.symm⟩
  cases y : F' p with
  | none => rfl
  | some o =>
    rcases af.n p o y with t | t
    · rw [f.nf] at t; cases t
    · rw [hu] at t; cases t
/-- and may then be filled -/
theorem fillF {F0 H0 F H : Hp} {W : Option (Addr × Addr)} {M : Mem} {σ : List (Option V)} {p : Addr} {d d' : PyData} {o : HO} (r : Rel K F0 H0 W M σ F H) (f : Fresh K H0 W M σ F H p d) (ho : OwAt K F (upd H p o) p d') :
    Rel K F0 H0 W M σ F (upd H p o) ∧ Fresh K H0 W M σ F (upd H p o) p d' := by
  have nf := f.nf
  have nw := f.nw
  refine ⟨⟨fun b u e => ?_, fun b u e n => ?_, r.fol, r.fnw, r.len, fun j e hj => ?_, r.dis, ?_⟩, ho, nf, f.n0, nw, f.ns⟩
  · have : b ≠ p := fun z => by subst z; rw [nf] at e; cases e
    rw [upd_ne this]; exact r.sub _ _ e
  · have : b ≠ p := fun z => by subst z; rw [f.n0] at e; cases e
    rw [upd_ne this]; exact r.old _ _ e n
  · obtain ⟨v, h1, h2⟩ := r.slt j e hj
    refine ⟨v, h1, ?_⟩
    cases e with
    | im d => exact h2
    | wel => exact h2
    | scr ns => exact h2
    | exc _ _ _ _ _ => exact h2
    | rng _ _ => exact h2
    | ow d =>
      obtain ⟨q, rfl, a1, a2⟩ := h2
      have : q ≠ p := fun z => by subst z; exact f.ns j d hj h1
      exact ⟨q, rfl, a1.move (.refl _) (upd_ne this), a2⟩
    | ro d =>
      obtain ⟨q, rfl, a1, ⟨t, ht'⟩, a3⟩ := h2
      have : q ≠ p := fun z => by subst z; rw [f.n0] at ht'; cases ht'
      exact ⟨q, rfl, a1.move (.refl _) (upd_ne this), ⟨t, ht'⟩, a3⟩
  · have wl := r.wel
    cases W with
    | none => cases hm : M.wl <;> rw [hm] at wl <;> exact wl
    | some zz =>
      obtain ⟨q, t⟩ := zz
      cases hm : M.wl with
      | none => rw [hm] at wl; exact wl
      | some w2 =>
        rw [hm] at wl
        obtain ⟨a, b, c⟩ := wl
        have nq : q ≠ p := fun z => nw (by subst z; exact .inl rfl)
        have nt : t ≠ p := fun z => nw (by subst z; exact .inr rfl)
        exact ⟨⟨by rw [upd_ne nq]; exact a.dic, by rw [upd_ne nt]; exact a.lst, a.ne⟩, b, c⟩

/-! {k: v, ..} written, the keys ints and texts -/
abbrev WPs := Xn → Mem → (List (PyData × PyData) → Mem → Prop) → Prop
structure DPs (X : Cx) (R : XP) (pos : Pos) (ks : List (Option Expr)) (vs : List Expr) (w : WPs) : Prop where
  ex : ∃ trs : List (TE × TE), PPs X pos ks vs trs ∧ ∀ {F0 H0 F H : Hp} {W : Option (Addr × Addr)} {M : Mem} {σ : List (Option V)} {xn : Xn} {Q : List (PyData × PyData) → Mem → Prop} {k : List (V × V) → Hp → Prop}, Rel X.K F0 H0 W M σ F H → Lnk X.K R F0 H0 W xn → w xn M Q →
    (∀ ps ds M' F' H', Same F F' → Rel X.K F0 H0 W M' σ F' H' → DVs X.K F' (ps.map (·.1)) (ds.map (·.1)) → DVs X.K F' (ps.map (·.2)) (ds.map (·.2)) → Q ds M' → k ps H') → tPairs trs σ H k
theorem dPs_n : DPs X R pos [] [] (fun _ M Q => Q [] M) := ⟨[], pps_nil, fun r _ hw kk => kk [] [] _ _ _ (.refl _) r .nil .nil hw⟩
theorem dPs_c {ks : List (Option Expr)} {vs : List Expr} {wp : WPs} (h1 : DE X R a wa) (h2 : DE X R b wb) (h3 : DPs X R pos ks vs wp) : DPs X R pos (some a :: ks) (b :: vs) (fun xn M Q => wa xn M fun d M1 => wb xn M1 fun e M2 => wp xn M2 fun ps M3 => Q ((d, e) :: ps) M3) := by
  obtain ⟨t1, p1, q1⟩ := h1.ex
  obtain ⟨t2, p2, q2⟩ := h2.ex
  obtain ⟨t3, p3, q3⟩ := h3.ex
  refine ⟨_, pps_cons p1 p2 p3, fun r l hw kk => q1 r l hw fun v d M1 F1 H1 s1 r1 dv z1 => q2 r1 l z1 fun v2 d2 M2 F2 H2 s2 r2 dv2 z2 => q3 r2 l z2 fun ps ds M3 F3 H3 s3 r3 e1 e2 z3 => ?_⟩
  exact kk ((v, v2) :: ps) ((d, d2) :: ds) _ _ _ (s1.trans (s2.trans s3)) r3 (.cons ((dv.same s2).same s3) e1) (.cons (dv2.same s3) e2) z3
def wDisp (wp : WPs) : WE := fun xn M Q => wp (fun _ _ => False) M.ro fun ds M' => ((ds.map (·.1)).all (fun d => match d with
    | .int _ | .str _ => true
    | _ => false) = true ∧ ds.length ≤ 15) ∧ Q (.dict (ds.foldl (fun acc kv => dput acc kv.1 kv.2) [])) ⟨M.env, M'.wl⟩
theorem merge_run {F : Hp} : ∀ {ks more : List (Key × V)} {kvs ds : List (PyData × PyData)}, kvs.map (·.1) = ks.map (fun p => kD p.1) → DVs K F (ks.map (·.2)) (kvs.map (·.2)) → ds.map (·.1) = more.map (fun p => kD p.1) → DVs K F (more.map (·.2)) (ds.map (·.2)) →
    (ds.foldl (fun acc kv => dput acc kv.1 kv.2) kvs).map (·.1) = (mergeK ks more).map (fun p => kD p.1) ∧ DVs K F ((mergeK ks more).map (·.2)) ((ds.foldl (fun acc kv => dput acc kv.1 kv.2) kvs).map (·.2))
  | ks, [], kvs, [], h1, h2, _, _ => ⟨h1, h2⟩
  | _, [], _, _ :: _, _, _, h, _ => by simp at h
  | _, _ :: _, _, [], _, _, h, _ => by simp at h
  | ks, p :: more, kvs, q :: ds, h1, h2, h3, h4 => by
    simp only [List.map_cons, List.cons.injEq] at h3
    cases h4 with
    | cons r4 q4 =>
      obtain ⟨a1, a2, _⟩ := put_run (K := K) kEq_kD (k := p.1) (v := p.2) (d := q.2) h1 h2 r4
      rw [← h3.1] at a1 a2
      exact merge_run (kvs := dput kvs q.1 q.2) (ks := putK ks p.1 p.2) a1 a2 h3.2 q4
theorem dF_disp {ks : List (Option Expr)} {vs : List Expr} {wp : WPs} (h : DPs X X0 pos ks vs wp) (hall : ks.all (·.isSome) = true) (hl : ks.length = vs.length) (h0 : ks ≠ []) (hk : ks.length ≤ 15) : DF X R (.Dict ks vs pos) (wDisp wp) := by
  obtain ⟨trs, p1, q1⟩ := h.ex
  refine ⟨_, pe_disp p1 hall hl h0 hk, fun {F0 H0 F H W M σ xn Q k} r l hw kk p hp => ?_⟩
  obtain ⟨r2, f2⟩ := r.isFresh (o := .dK []) (d := .dict []) hp (.dic upd_same rfl .nil)
  have lk : ∀ {W : Option (Addr × Addr)}, Lnk X.K X0 F (upd H p (.dK [])) W (fun _ _ => False) := fun _ _ _ _ _ _ _ _ _ h => h.elim
  refine q1 r2.toRo lk hw fun ps ds M' F' H' s' r' e1 e2 z => ?_
  obtain ⟨r3, f3, h3⟩ := held r2 f2 r'
  refine ⟨h3.trans upd_same, ?_⟩
  obtain ⟨⟨z1, z2⟩, z3⟩ := z
  obtain ⟨kk2, e3⟩ := keys_of z1
  rw [e3] at e1
  have e4 := keys_vals e1
  have hlen : ps.length = kk2.length := by have := congrArg List.length e4; simpa using this
  refine ⟨kk2.zip (ps.map (·.2)), ?_, ?_, ?_⟩
  · apply List.ext_getElem
    · simp [hlen]
    · intro i h1 h2
      have := congrArg (fun l : List V => l[i]?) e4
      simp at h1 h2
      simp [List.getElem?_eq_getElem h1, List.getElem?_eq_getElem (show i < kk2.length by omega)] at this
      simp [← this]
  · have := e2.len
    simp at this
    simp [← hlen]
    omega
  · have hm := merge_run (K := X.K) (F := F') (ks := []) (kvs := []) (more := kk2.zip (ps.map (·.2))) (ds := ds) rfl .nil (by
      rw [e3]
      apply List.ext_getElem
      · simp [hlen]
      · intro i h1 h2
        simp at h1 h2
        simp) (by
      have : (kk2.zip (ps.map (·.2))).map (·.2) = ps.map (·.2) := by
        rw [List.map_snd_zip]
        simp [hlen]
      rw [this]
      exact e2)
    obtain ⟨r4, f4⟩ := fillF r3 f3 (o := .dK (mergeK [] (kk2.zip (ps.map (·.2))))) (.dic upd_same hm.1 hm.2)
    exact kk _ _ _ _ _ s' r4 f4 z3
/-! repr, where nothing is being shown -/
theorem noDict_flat : ∀ (d : PyData), flat d = true → d.hasDict = false
  | .none, _ => rfl
  | .bool _, _ => rfl
  | .int _, _ => rfl
  | .str _, _ => rfl
  | .list ds, h => by rw [PyData.hasDict]; exact noDict_flats ds (by simpa [flat] using h)
  | .tuple ds, h => by rw [PyData.hasDict]; exact noDict_flats ds (by simpa [flat] using h)
  | .dict _, h => by simp [flat] at h
where noDict_flats : ∀ (ds : List PyData), flats ds = true → PyData.hasDictAll ds = false
  | [], _ => rfl
  | d :: ds, h => by
    simp only [flats, Bool.and_eq_true] at h
    rw [PyData.hasDictAll, noDict_flat d h.1, noDict_flats ds h.2]
    rfl
def fRepr : DFN := fun ds Q => match ds with
  | [d] => (flat d = true ∧ d.showable = true ∧ d.depth ≤ 40 ∧ d.shown.length ≤ sizeLine) ∧ Q (.str d.shown)
  | _ => False
abbrev rRepr (K : PySem.W.Frag) : List V → Hp → VK → Prop := fun xs H Q => ∃ x d, xs = [x] ∧ Dp K H x d ∧ flat d = true ∧ d.showable = true ∧ d.depth ≤ 40 ∧ d.shown.length ≤ sizeLine ∧ Q (.str d.shown) H
theorem call_repr (hg : X.A.guards = some []) (hu : X.A.units + 64 < cLine) : CallR X (.builtin "repr") (rRepr X.K) := by
  intro pins s σ H xs us Q I r h
  obtain ⟨x, d, rfl, dp, fl, sh, de, sz, q⟩ := h
  obtain ⟨u, rfl, ru⟩ := vals1 r
  have fin : ∀ h' v tk, (∀ b o, s.heap.get? b = some o → h'.get? b = some o) → EP X pins σ Q (.str d.shown v) { s with heap := h', toks := tk } := fun h' v tk hk => ⟨.str d.shown, H, I.kept hk, ⟨_, rfl⟩, q⟩
  obtain ⟨as, rd⟩ := Dp.reads I d x u dp ru
  cases rd with
  | none => exact PySem.P.repr_of_none (fin _ _ _ fun _ _ e => e)
  | bool b => exact PySem.P.repr_of_bool (fin _ _ _ fun _ _ e => e)
  | int i t => exact PySem.P.repr_of_int (by simpa [PyData.showable] using sh) (fin _ _ _ fun _ _ e => e)
  | str y t => exact PySem.P.repr_of_str (fin _ _ _ fun _ _ e => e) sz
  | list h1 h2 h3 h4 => exact repr_of_reads' (.list h1 h2 h3 h4) sh (PyData.noDict_hsm (noDict_flat _ fl)) hg (by omega) (fun _ _ e => e) fin sz
  | tuple h1 h2 h3 h4 => exact repr_of_reads' (.tuple h1 h2 h3 h4) sh (PyData.noDict_hsm (noDict_flat _ fl)) hg (by omega) (fun _ _ e => e) fin sz
  | dict h1 h2 h3 h4 h5 => simp [flat] at fl
theorem dRepr : DCall K (rRepr K) fRepr := by
  intro F H vs ds Qd k s hv h kk
  unfold fRepr at h
  split at h
  · obtain ⟨v, rfl, h1⟩ := hv.one
    obtain ⟨⟨a1, a2, a3, a4⟩, h⟩ := h
    exact ⟨v, _, rfl, h1.dp s a1, a1, a2, a3, a4, kk _ _ _ _ (.refl s) (.str _) h⟩
  · exact h.elim
end
end DL

/-! DL12: the script; the well, a dict of a list and two ints that many defs draw from. -/
namespace DL
open PySem PySem.Spec L2 PyProof.Rows
section
variable {X : Cx} {R : XP} {K : PySem.W.Frag} {e a b c tg iter : Expr} {es : List Expr} {pos : Pos} {wa wb wc : WE} {oa ob oc : WO} {ta tb : WT}
/-! the script -/
def wLenScr (i : Nat) : WE := fun _ M Q => match M.env[i]? with
  | some (some (.scr ns)) => Q (.int (ns.length : Nat)) M
  | _ => False
theorem dE_lenscr (i : Nat) {x : Str} {xp p : Pos} (hg : Gl X "len") (hm : X.mg "len" = none) (hN : X.N[i]? = some x := by rfl) (hv : Vis X.env.scope x := by first | exact Or.inl rfl | exact Or.inr (Or.inl rfl) | exact Or.inr (Or.inr rfl)) (hd : (x == ("__debug__" : Str)) = false := by decide)
    (hcd : (x == ("__classdict__" : Str)) = false := by decide) (hs : starEach [.Name x xp] X.env = [(false, eval (.Name x xp) X.env)] := by rfl) : DE X R (.Call (.Name "len" p) [.Name x xp] [] pos) (wLenScr i) := by
  refine ⟨_, pe_callB call_len_seq hg hm boot_len (pa_cons (pe_var (i := i) hN hv hd hcd) pa_nil hs) (by decide) (by decide) hs rfl, fun {F0 H0 F H W M σ xn Q k} r l hw kk => ?_⟩
  unfold wLenScr at hw
  split at hw
  · rename_i ns e0
    obtain ⟨v, h1, a, rfl, h2⟩ := r.slt i _ e0
    refine ⟨_, h1, a, _, rfl, .inl (sameL r.sub h2), ?_⟩
    rw [List.length_map]
    exact kk _ _ _ _ _ (.refl _) r (.int _) hw
  · exact hw.elim
/-- for x in script[:n] -/
def iScr (i : Nat) (n : Int) : WI := fun _ M Q => match M.env[i]? with
  | some (some (.scr ns)) => Q ((cut ns none (some n)).map PyData.int) M
  | _ => False
theorem cut_map {α β : Type} (f : α → β) (l : List α) (lo hi : Option Int) : cut (l.map f) lo hi = (cut l lo hi).map f := by
  unfold cut
  rw [List.length_map, List.map_take, List.map_drop]
theorem dI_scr (i : Nat) {x : Str} {xp p2 p3 : Pos} {n : Int} {j : Nat} (hN : X.N[i]? = some x := by rfl) (hv : Vis X.env.scope x := by first | exact Or.inl rfl | exact Or.inr (Or.inl rfl) | exact Or.inr (Or.inr rfl)) (hd : (x == ("__debug__" : Str)) = false := by decide)
    (hcd : (x == ("__classdict__" : Str)) = false := by decide) : DI X R tg (.Subscript (.Name x xp) (.Slice none (some (.Constant (.int n) j p3)) none p2) pos) (iScr i n) := by
  refine ⟨_, pi_list (pe_slice sl_list (pe_var (i := i) hN hv hd hcd) po_none (po_some pe_int)), fun {F0 H0 F H W M σ xn Q k} r l hw kk => ?_⟩
  unfold iScr at hw
  split at hw
  · rename_i ns e0
    obtain ⟨v, h1, a, rfl, h2⟩ := r.slt i _ e0
    refine ⟨_, h1, n, rfl, a, _, rfl, sameL r.sub h2, fun q hq => ?_⟩
    have g := Grow.newF (o := .lst (cutV (ns.map V.int) none (some n))) r.sub hq
    have e2 : cutV (ns.map V.int) none (some n) = (cut ns none (some n)).map V.int := cut_map V.int ns none (some n)
    exact ⟨q, rfl, ⟨_, SqL.of upd_same⟩, kk _ _ _ _ _ g.f (r.grow g) (walk_list upd_same (by rw [e2]; exact DVs.ofInts)) hw⟩
  · exact hw.elim

/-! the well -/
theorem Rel.welAt {F0 H0 F H : Hp} {W : Option (Addr × Addr)} {M : Mem} {σ : List (Option V)} {i : Nat} (r : Rel K F0 H0 W M σ F H) (h : M.env[i]? = some (some .wel)) : ∃ q t w, W = some (q, t) ∧ M.wl = some w ∧ WelAt H q t w ∧ F q = none ∧ F t = none ∧ σ[i]? = some (some (.ref q)) := by
  obtain ⟨v, h1, q, t, rfl, rfl⟩ := r.slt i _ h
  have wl := r.wel
  cases hm : M.wl with
  | none => rw [hm] at wl; exact wl.elim
  | some w => rw [hm] at wl; exact ⟨q, t, w, rfl, rfl, wl.1, wl.2.1, wl.2.2, h1⟩
theorem Rel.writeWel {F0 H0 F H H' : Hp} {q t : Addr} {M : Mem} {σ : List (Option V)} {w' : Wel} (r : Rel K F0 H0 (some (q, t)) M σ F H) (hF : F q = none ∧ F t = none) (keep : ∀ b, b ≠ q → b ≠ t → H' b = H b) (hw : WelAt H' q t w') : Rel K F0 H0 (some (q, t)) ⟨M.env, some w'⟩ σ F H' where
  sub := fun b o e => by
    have h1 : b ≠ q := fun z => by rw [z, hF.1] at e; cases e
    have h2 : b ≠ t := fun z => by rw [z, hF.2] at e; cases e
    rw [keep b h1 h2]; exact r.sub _ _ e
  old := fun b o e n => by
    rw [keep b (fun z => n (.inl z)) (fun z => n (.inr z))]; exact r.old _ _ e n
  fol := r.fol
  fnw := r.fnw
  len := r.len
  slt := fun i e h => by
    obtain ⟨v, h1, h2⟩ := r.slt i e h
    refine ⟨v, h1, ?_⟩
    cases e with
    | im d => exact h2
    | wel => exact h2
    | scr ns => exact h2
    | exc _ _ _ _ _ => exact h2
    | rng _ _ => exact h2
    | ow d => obtain ⟨p, rfl, a1, a2, a3, a4⟩ := h2; exact ⟨p, rfl, a1.move (.refl _) (keep p (fun z => a4 (.inl z)) (fun z => a4 (.inr z))), a2, a3, a4⟩
    | ro d => obtain ⟨p, rfl, a1, a2, a4⟩ := h2; exact ⟨p, rfl, a1.move (.refl _) (keep p (fun z => a4 (.inl z)) (fun z => a4 (.inr z))), a2, a4⟩
  dis := r.dis
  wel := ⟨hw, hF⟩
theorem key3 : (("deep" : Str) = "mix") = False ∧ (("deep" : Str) = "drawn") = False ∧ (("mix" : Str) = "deep") = False ∧ (("mix" : Str) = "drawn") = False ∧ (("drawn" : Str) = "deep") = False ∧ (("drawn" : Str) = "mix") = False := by decide +kernel
theorem wel_deep {r m d : V} : valV [((.inr "deep" : Key), r), (.inr "mix", m), (.inr "drawn", d)] (.inr "deep") = some r := by simp [valV]
theorem wel_mix {r m d : V} : valV [((.inr "deep" : Key), r), (.inr "mix", m), (.inr "drawn", d)] (.inr "mix") = some m := by simp [valV, key3]
theorem wel_drawn {r m d : V} : valV [((.inr "deep" : Key), r), (.inr "mix", m), (.inr "drawn", d)] (.inr "drawn") = some d := by simp [valV, key3]
theorem wel_put {r m d v : V} : putK [((.inr "deep" : Key), r), (.inr "mix", m), (.inr "drawn", d)] (.inr "drawn") v = [(.inr "deep", r), (.inr "mix", m), (.inr "drawn", v)] := by simp [putK, key3]
section
variable {x : Str} {xp kp sp apos : Pos} {j : Nat}
def wWelI (i : Nat) (f : Wel → Int) : WE := fun _ M Q => M.env[i]? = some (some .wel) ∧ match M.wl with
  | some w => Q (.int (f w)) M
  | none => False
theorem dE_wmix (i : Nat) (hu : X.A.units + 1 < cLine) (hN : X.N[i]? = some x := by rfl) (hv : Vis X.env.scope x := by first | exact Or.inl rfl | exact Or.inr (Or.inl rfl) | exact Or.inr (Or.inr rfl)) (hd : (x == ("__debug__" : Str)) = false := by decide)
    (hcd : (x == ("__classdict__" : Str)) = false := by decide) : DE X R (.Subscript (.Name x xp) (.Constant (.str "mix") j kp) sp) (wWelI i (·.mix)) := by
  refine ⟨_, pe_dget hu (pe_var (i := i) hN hv hd hcd) pe_str (fun _ _ => rfl), fun {F0 H0 F H W M σ xn Q k} r l hw kk => ?_⟩
  obtain ⟨q, t, w, rfl, hm, wa, f1, f2, h1⟩ := r.welAt hw.1
  have h2 := hw.2
  rw [hm] at h2
  exact ⟨.ref q, h1, q, .int w.mix, rfl, .inl ⟨_, .inr "mix", .inl wa.dic, rfl, wel_mix.symm⟩, kk _ _ _ _ _ (.refl _) r (.int _) h2⟩
theorem dE_wdrawn (i : Nat) (hu : X.A.units + 1 < cLine) (hN : X.N[i]? = some x := by rfl) (hv : Vis X.env.scope x := by first | exact Or.inl rfl | exact Or.inr (Or.inl rfl) | exact Or.inr (Or.inr rfl)) (hd : (x == ("__debug__" : Str)) = false := by decide)
    (hcd : (x == ("__classdict__" : Str)) = false := by decide) : DE X R (.Subscript (.Name x xp) (.Constant (.str "drawn") j kp) sp) (wWelI i (·.drawn)) := by
  refine ⟨_, pe_dget hu (pe_var (i := i) hN hv hd hcd) pe_str (fun _ _ => rfl), fun {F0 H0 F H W M σ xn Q k} r l hw kk => ?_⟩
  obtain ⟨q, t, w, rfl, hm, wa, f1, f2, h1⟩ := r.welAt hw.1
  have h2 := hw.2
  rw [hm] at h2
  exact ⟨.ref q, h1, q, .int w.drawn, rfl, .inl ⟨_, .inr "drawn", .inl wa.dic, rfl, wel_drawn.symm⟩, kk _ _ _ _ _ (.refl _) r (.int _) h2⟩
/-- well["drawn"] = e -/
def uWelD (i : Nat) (wa : WE) : WS := fun xn De M => M.env[i]? = some (some .wel) ∧ wa xn M fun d M1 => M1.env = M.env ∧ match d, M1.wl with
  | .int n, some w => De.nx ⟨M.env, some { w with drawn := n }⟩
  | _, _ => False
theorem dS_wdrawn (i : Nat) (hu : X.A.units + 1 < cLine) (h : DE X R e wa) (hN : X.N[i]? = some x := by rfl) (hv : Vis X.env.scope x := by first | exact Or.inl rfl | exact Or.inr (Or.inl rfl) | exact Or.inr (Or.inr rfl)) (hd : (x == ("__debug__" : Str)) = false := by decide)
    (hcd : (x == ("__classdict__" : Str)) = false := by decide) (hs : swapsWith e (some (.Subscript (.Name x xp) (.Constant (.str "drawn") j kp) sp)) pos.line X.env = pure false := by rfl) : DS X R (.Assign [.Subscript (.Name x xp) (.Constant (.str "drawn") j kp) sp] e pos) (uWelD i wa) := by
  obtain ⟨t, p, q⟩ := h.ex
  refine ⟨_, ps_dput hu (pe_var (i := i) hN hv hd hcd) pe_str p hs, fun {F0 H0 F H W M σ xn De D} r l hw E => ?_⟩
  obtain ⟨w1, w2⟩ := hw
  refine q r l w2 fun v d M1 F1 H1 s1 r1 dv z => ?_
  obtain ⟨he, z⟩ := z
  rw [← he] at w1 z
  obtain ⟨q, t, w, rfl, hm, wa, f1, f2, h1⟩ := r1.welAt w1
  rw [hm] at z
  cases dv with
  | int n =>
    refine ⟨.ref q, h1, q, _, rfl, .inl ⟨_, .inr "drawn", wa.dic, rfl, by show 3 < sizeLine; decide, rfl⟩, ?_⟩
    rw [wel_put]
    exact E.nx _ _ _ _ s1 (r1.writeWel (w' := { w with drawn := n }) ⟨f1, f2⟩ (fun b hb _ => upd_ne hb) ⟨upd_same, by rw [upd_ne wa.ne.symm]; exact wa.lst, wa.ne⟩) z
  | _ => exact z.elim
theorem shapedInts (ns : List Int) : SeqAt.shaped (.list (ns.map PyData.int)) = true := by
  have h1 : ∀ ns : List Int, PyData.canLayAll0 (ns.map PyData.int) = true := by
    intro ns
    induction ns with
    | nil => rfl
    | cons n ns ih => rw [List.map_cons, PyData.canLayAll0, ih, PyData.canLay0]; rfl
  have h2 : ∀ ns : List Int, PyData.depthAll (ns.map PyData.int) = 0 := by
    intro ns
    induction ns with
    | nil => rfl
    | cons n ns ih => rw [List.map_cons, PyData.depthAll, ih, PyData.depth]; rfl
  unfold SeqAt.shaped
  rw [PyData.canLay0, h1, PyData.depth, h2]
  rfl
theorem dpInts {H : Hp} : ∀ ns : List Int, DpAll K H (ns.map V.int) (ns.map PyData.int)
  | [] => .nil
  | n :: ns => .cons (.int n) (dpInts ns)
/-- well["deep"] != [] -/
def tWelNE (i : Nat) : WT := fun _ M Q => M.env[i]? = some (some .wel) ∧ match M.wl with
  | some w => Q (!w.deep.isEmpty) M
  | none => False
theorem dT_wne (i : Nat) {lp : Pos} (hu : X.A.units + 64 < cLine) (hN : X.N[i]? = some x := by rfl) (hv : Vis X.env.scope x := by first | exact Or.inl rfl | exact Or.inr (Or.inl rfl) | exact Or.inr (Or.inr rfl)) (hd : (x == ("__debug__" : Str)) = false := by decide)
    (hcd : (x == ("__classdict__" : Str)) = false := by decide) : DT X R (.Compare (.Subscript (.Name x xp) (.Constant (.str "deep") j kp) sp) [.NotEq] [.List [] lp] pos) (tWelNE i) := by
  refine ⟨_, pt_cmpR (op_neD hu) (pe_dget (by omega) (pe_var (i := i) hN hv hd hcd) pe_str (fun _ _ => rfl)) (pe_lst pa_nil) (nomark _), fun {F0 H0 F H W M σ xn Q k} r l hw kk => ?_⟩
  obtain ⟨q, t, w, rfl, hm, wa, f1, f2, h1⟩ := r.welAt hw.1
  have h2 := hw.2
  rw [hm] at h2
  refine ⟨.ref q, h1, q, .ref t, rfl, .inl ⟨_, .inr "deep", .inl wa.dic, rfl, wel_deep.symm⟩, by show 0 ≤ sizeLine; decide, fun p hp => ?_⟩
  have ht : t ≠ p := fun z => by rw [← z, wa.lst] at hp; cases hp
  refine ⟨.list (w.deep.map PyData.int), .list [], .lst (SqL.of (by rw [upd_ne ht]; exact wa.lst)) (dpInts _), .lst (SqL.of upd_same) .nil, shapedInts _, by decide, _, rfl, ?_⟩
  have e2 : (!PyData.eqv (.list (w.deep.map PyData.int)) (.list [])) = !w.deep.isEmpty := by
    cases w.deep with
    | nil => rfl
    | cons a l => rw [List.map_cons, PyData.eqv, PyData.eqvAll]; rfl
  rw [e2]
  exact kk _ _ _ _ (.refl _) (r.grow (Grow.new r.sub hp)) h2
/-- well["deep"].pop() -/
def wWelPop (i : Nat) : WE := fun _ M Q => M.env[i]? = some (some .wel) ∧ match M.wl with
  | some w => match w.deep[w.deep.length - 1]? with
    | some n => Q (.int n) ⟨M.env, some { w with deep := w.deep.dropLast }⟩
    | none => False
  | none => False
theorem dE_wpop (i : Nat) (hu : X.A.units + 1 < cLine) (hN : X.N[i]? = some x := by rfl) (hv : Vis X.env.scope x := by first | exact Or.inl rfl | exact Or.inr (Or.inl rfl) | exact Or.inr (Or.inr rfl)) (hd : (x == ("__debug__" : Str)) = false := by decide)
    (hcd : (x == ("__classdict__" : Str)) = false := by decide)
    (hbase : attributeBase (.Subscript (.Name x xp) (.Constant (.str "deep") j kp) sp) "pop" X.env (eval (.Subscript (.Name x xp) (.Constant (.str "deep") j kp) sp) X.env) = eval (.Subscript (.Name x xp) (.Constant (.str "deep") j kp) sp) X.env := by rfl) (hline : (apos.endLine == pos.line) = true := by rfl) :
    DE X R (.Call (.Attribute (.Subscript (.Name x xp) (.Constant (.str "deep") j kp) sp) "pop" apos) [] [] pos) (wWelPop i) := by
  refine ⟨_, pe_bm0 PySem.F.plainAttrs_list PySem.F.slot_list_pop PySem.F.type_list_pop mt_pop (pe_dget hu (pe_var (i := i) hN hv hd hcd) pe_str (fun _ _ => rfl)) hbase hline, fun {F0 H0 F H W M σ xn Q k} r l hw kk => ?_⟩
  obtain ⟨q, t, w, rfl, hm, wa, f1, f2, h1⟩ := r.welAt hw.1
  have h2 := hw.2
  rw [hm] at h2
  have h2 : (match w.deep[w.deep.length - 1]? with
    | some n => Q (.int n) ⟨M.env, some { w with deep := w.deep.dropLast }⟩
    | none => False) := h2
  cases en : w.deep[w.deep.length - 1]? with
  | some n =>
    rw [en] at h2
    refine ⟨.ref q, h1, q, .ref t, rfl, .inl ⟨_, .inr "deep", .inl wa.dic, rfl, wel_deep.symm⟩, .inl ⟨rfl, _, SqL.of wa.lst⟩, t, _, .int n, rfl, rfl, wa.lst, by rw [List.length_map, List.getElem?_map, en]; rfl, ?_⟩
    exact kk _ _ _ _ _ (.refl _) (r.writeWel (w' := { w with deep := w.deep.dropLast }) ⟨f1, f2⟩ (fun b _ hb => upd_ne hb) ⟨by rw [upd_ne wa.ne]; exact wa.dic, by rw [upd_same, List.map_dropLast], wa.ne⟩) (.int n) h2
  | none => rw [en] at h2; exact h2.elim
/-- well["deep"].append(e) -/
def wWelApp (i : Nat) (wa : WE) : WE := fun xn M Q => M.env[i]? = some (some .wel) ∧ wa xn M fun d M1 => M1.env = M.env ∧ match d, M1.wl with
  | .int n, some w => w.deep.length < sizeLine ∧ Q .none ⟨M.env, some { w with deep := w.deep ++ [n] }⟩
  | _, _ => False
theorem dE_wapp (i : Nat) (hu : X.A.units + 1 < cLine) (h : DE X R e wa) (hN : X.N[i]? = some x := by rfl) (hv : Vis X.env.scope x := by first | exact Or.inl rfl | exact Or.inr (Or.inl rfl) | exact Or.inr (Or.inr rfl)) (hd : (x == ("__debug__" : Str)) = false := by decide)
    (hcd : (x == ("__classdict__" : Str)) = false := by decide)
    (hbase : attributeBase (.Subscript (.Name x xp) (.Constant (.str "deep") j kp) sp) "append" X.env (eval (.Subscript (.Name x xp) (.Constant (.str "deep") j kp) sp) X.env) = eval (.Subscript (.Name x xp) (.Constant (.str "deep") j kp) sp) X.env := by rfl)
    (hfew : ((backTo pos (starEach [e] X.env)).all (fun x => !x.1) && (backToKw pos (keywordEach [] X.env)).all (fun x => x.1.isSome)
      && decide ([e].length + ([] : List Keyword).length + (if ([] : List Keyword).isEmpty then 0 else 1) < 30)) = true := by rfl)
    (hline : (apos.endLine == pos.line) = true := by rfl) (hs : starEach [e] X.env = (false, eval e X.env) :: starEach [] X.env := by rfl) (hplain : (backTo pos (starEach [] X.env)).any (·.1) = false := by rfl) :
    DE X R (.Call (.Attribute (.Subscript (.Name x xp) (.Constant (.str "deep") j kp) sp) "append" apos) [e] [] pos) (wWelApp i wa) := by
  obtain ⟨t0, p, q0⟩ := h.ex
  refine ⟨_, pe_bm PySem.F.plainAttrs_list PySem.F.slot_list_append PySem.F.type_list_append mt_append (pe_dget hu (pe_var (i := i) hN hv hd hcd) pe_str (fun _ _ => rfl)) (pa_cons p pa_nil hs) hbase hfew hline hs hplain, fun {F0 H0 F H W M σ xn Q k} r l hw kk => ?_⟩
  obtain ⟨w1, w2⟩ := hw
  obtain ⟨q, t, w, rfl, hm, wa, f1, f2, h1⟩ := r.welAt w1
  refine ⟨.ref q, h1, q, .ref t, rfl, .inl ⟨_, .inr "deep", .inl wa.dic, rfl, wel_deep.symm⟩, .inl ⟨rfl, _, SqL.of wa.lst⟩, q0 r l w2 fun v d M1 F1 H1 s1 r1 dv z => ?_⟩
  obtain ⟨he, z⟩ := z
  rw [← he] at w1 z
  obtain ⟨q', t', w', e1, hm, wa, f1, f2, h1⟩ := r1.welAt w1
  cases e1
  rw [hm] at z
  cases dv with
  | int n =>
    refine ⟨t, _, .int n, rfl, rfl, wa.lst, by rw [List.length_map]; exact z.1, ?_⟩
    exact kk _ _ _ _ _ s1 (r1.writeWel (w' := { w' with deep := w'.deep ++ [n] }) ⟨f1, f2⟩ (fun b _ hb => upd_ne hb) ⟨by rw [upd_ne wa.ne]; exact wa.dic, by rw [upd_same, List.map_append]; rfl, wa.ne⟩) .non z.2
  | _ => exact z.elim
end
end
end DL

/-! DL13: the law's own call, of which it is known that nothing is being shown around it. -/
namespace DL
open PySem PySem.Spec L2 PyProof.Rows

/-- the law's def keeps its promise where the claim calls it -/
def LawOk (P : Program) (w : World) (K : PySem.W.Frag) (mg : Str → Option Value) (base : Heap) (fa : Addr) (n : Nat) : Prop :=
  ∀ (s : Shared) (H : Hp) (a : Addr) (ns : List Int), ns.length ≤ n → Only H → SqL K H a (ns.map V.int) → Env0 P w K mg base callerA [] s H →
    codeAny (model P w) callerA (.call (.ref fa) ⟨[.ref a], []⟩) (CR CX0 [] P w H s (fun v _ => v = .bl true) E0) s

/-- the state at the claim's call: the script alone is tracked, or nothing is -/
theorem law_state {P : Program} {w : World} {K : PySem.W.Frag} {s : Shared} {a : Addr} {vs : List Value} {ns : List Int} (KX : K.In s.heap) (ha : s.heap.get? a = some { cls := .type "list", data := .seq vs.toArray }) (hi : IntsAre vs ns) (hl : ns.length ≤ sizeLine) :
    ∃ H : Hp, Only H ∧ SqL K H a (ns.map V.int) ∧ HOk P w H s.heap ∧ ∀ b, H b ≠ none → b = a ∧ K.lookup a = none := by
  have rv := vals_ints hi
  have hz : (ns.map V.int).length ≤ sizeLine := by rw [List.length_map]; exact hl
  cases hk : K.lookup a with
  | some o =>
    have e : some o = some { cls := .type "list", data := .seq vs.toArray } := (KX a o hk).symm.trans ha
    cases e
    refine ⟨fun _ => none, fun _ => .inl rfl, .inr ⟨_, vs.toArray, _, hk, rfl, rfl, rfl, ?_, ?_⟩, fun b u z => ?_, fun b z => absurd rfl z⟩
    · rw [List.size_toArray, hi.length]; exact hl
    · exact rv
    · cases (show (none : Option HO) = some u from z)
  | none =>
    have at_ : ∀ {b : Addr} {o : HO}, b = a → (fun c : Addr => if c = a then some o else none) b = some o := fun e => if_pos e
    refine ⟨fun b => if b = a then some (.frz { cls := .type "list", data := .seq vs.toArray } (.lst (ns.map V.int))) else none, fun b => ?_, .inl (.inr ⟨_, at_ rfl⟩), fun b u z => ?_, fun b z => ?_⟩
    · by_cases e : b = a
      · exact .inr ⟨_, _, at_ e⟩
      · exact .inl (if_neg e)
    · by_cases e : b = a
      · cases (if_pos e).symm.trans z
        rw [e]
        exact ⟨ha, hz, vs, _, rv, ha⟩
      · cases (if_neg e).symm.trans z
    · by_cases e : b = a
      · exact ⟨e, rfl⟩
      · exact absurd (if_neg e) z
theorem law_callG {P : Program} {w : World} {K : PySem.W.Frag} {mg mb : Str → Option Value} {fa a : Addr} {n : Nat} {s : Shared} {vs : List Value} {ns : List Int}
    (KX : K.In s.heap) (g1 : s.heap.Ns mainGlobals mg) (g2 : s.heap.Ns builtinsNs mb) (g3 : ∀ y : Str, y ≠ "__name__" → mb y = bootBuiltins y) (g4 : s.heap.NoLimit) (g5 : s.gens = #[])
    (ha : s.heap.get? a = some { cls := .type "list", data := .seq vs.toArray }) (hi : IntsAre vs ns) (hn : ns.length ≤ n) (hl : n ≤ sizeLine)
    (F : ∀ base : Heap, K.In base → base.Ns mainGlobals mg → LawOk P w K mg base fa n) :
    codeAny (model P w) callerA (.call (.ref fa) ⟨[.ref a], []⟩) (fun r s' => r = .ok (.ret (.bool true)) ∧ OldK s.heap s'.heap ∧ s'.os = s.os ∧ AllBare s'.gens) s := by
  obtain ⟨H, only, hS, ok, hA⟩ := law_state (P := P) (w := w) KX ha hi (Nat.le_trans hn hl)
  -- what bears no list is in the ground
  have ground : ∀ {b : Addr} {o : Obj}, s.heap.get? b = some o → o.data ≠ .seq vs.toArray → (hidT s.heap H).get? b = some o := fun {b o} e d => hidT_get e (by
    cases q : H b with
    | none => rfl
    | some u =>
      exfalso
      have eb := (hA b (by simp [q])).1
      rw [eb, ha] at e
      exact d (by cases e; rfl))
  have nsG : ∀ {b : Addr} {m : Str → Option Value}, s.heap.Ns b m → (hidT s.heap H).Ns b m := fun ⟨o, es, ep, e, d, r⟩ => ⟨o, es, ep, ground e (by rw [d]; exact fun z => nomatch z), d, r⟩
  have inG : K.In (hidT s.heap H) := fun b o e => hidT_get (KX b o e) (by
    cases q : H b with
    | none => rfl
    | some u =>
      obtain ⟨rfl, hk⟩ := hA b (by simp [q])
      rw [hk] at e; cases e)
  obtain ⟨mc, l1, l2⟩ := g4
  have env : Env0 P w K mg (hidT s.heap H) callerA [] s H :=
    { frames := rfl, mod := ⟨inG, nsG g1, ⟨mb, nsG g2, g3⟩, ⟨mc, nsG l1, l2⟩⟩, bs := fun b o e => of_hidT e, bsz := by rw [hidT_size]; exact Nat.le_refl _, funs := trivial, frf := fun b hb => absurd (show b ∈ ([] : List Addr) from hb) (by simp), hok := ok, bare := .of_eq g5 }
  refine codeAny_mono (F _ inG (nsG g1) s H a ns hn only hS env) fun r s' h => ?_
  match r, h with
  | .ok (.ret u), ⟨v, H', os, bare, un, ok', rv, q⟩ =>
    have q : v = .bl true := q
    subst q
    have e : u = Value.bool true := rv
    subst e
    refine ⟨rfl, OldK.of_keep fun b o e => ?_, os, bare⟩
    rcases only b with z | ⟨ob, xs, z⟩
    · exact un.keep b o e z (fun y => nomatch y) (by simp)
    · have e1 := (ok b _ z).1
      rw [e] at e1
      cases e1
      exact (ok' b _ (un.frzs b _ _ z)).1
theorem walkG {l : PySem.W.OpenLaw} {n : Nat} {q : Program} {loose : List Str} {XP : (Str → Option Value) → Heap → Prop} {YP : World → Heap → Prop} {d : DefRec} {K : Params → PySem.W.Frag}
    (hn : l.most = some n) (hl : n ≤ sizeLine) (hdf : d.params.defaults = []) (hY : ∀ (w : World) (h : Heap), YP w h → (K w.params).In h)
    (F : ∀ (w : World) (mg : Str → Option Value) (fa : Addr) (h : Heap), (K w.params).In h → h.Ns mainGlobals mg → mg d.name = some (.ref fa) → ∀ base : Heap, (K w.params).In base → base.Ns mainGlobals mg → LawOk l.prog w (K w.params) mg base fa n) :
    PySem.W.WalkO q loose XP YP l.row.toRowW d [] (fun f vs => PySem.call f vs) := by
  refine Att.attach_call hn hdf fun w s₀ s₁ mg mb fa o pm cd doc a vs ns G Y ho hd hcd hmg hobj hints hlen hg => ?_
  exact law_callG (hY w _ Y) G.T.g G.T.b G.T.builtins G.T.nolimit hg hobj hints hlen hl (F w mg fa _ (hY w _ Y) G.T.g hmg)
/-- the law's def by its body -/
theorem law_of {P : Program} {w : World} {K : PySem.W.Frag} {mg : Str → Option Value} {base : Heap} {x qual p : Str} {st : Stmt} {f : Addr} {fd : FuncData} {N : List Str} {n : Nat} (F : Fun K x qual st f fd) (S : FnScope N [p] (defScope st)) (hb : ∀ (s : Shared) (u : Value), BindsTo s fd ⟨[u], []⟩ [(p, u)])
    (hbody : ∀ (cdv : Value) (s : Shared) (H : Hp) (a : Addr) (ns : List Int), ns.length ≤ n → Only H → SqL K H a (ns.map V.int) →
      ∃ t, PSs (cxOf CX0 P w K mg base N qual (defScope st) f cdv callerA [] s H E0).nox (defBody st) t ∧ t { nx := fun _ _ => False, rt := fun v _ => v = .bl true } (L2.start N [.ref a]) H) : LawOk P w K mg base f n := by
  obtain ⟨oc, od, kV, doc, pm, an, cdv, ct, osl, rfl, lk, hcd⟩ := F.ex
  intro s H a ns hlen only hS e0
  have keep : ∀ b o, base.get? b = some o → s.heap.get? b = some o := fun b o e => (e0.bs b o e).1
  have KX : K.In s.heap := e0.mod.kin.keeps keep
  have kinds : ∀ y ∈ [p].zip [Value.ref a], (defScope st).names.lookup y.1 = some .local ∨ ((defScope st).names.lookup y.1 = some .cell ∧ ((cellsFrom (s.heap.objs.size + 1) (defScope st).names []).lookup y.1).isSome = true) := fun y hy => by
    have hy1 : y.1 ∈ [p] := (List.of_mem_zip (show (y.1, y.2) ∈ _ from hy)).1
    exact (S.par y.1 hy1).imp id fun k => ⟨k, PySem.W.cellsFrom_some _ _ _ (.inl k)⟩
  refine codeAny_call_function (by decide) (KX _ _ lk) rfl S.co S.gen rfl (PySem.W.codeRec_of KX hcd) (hb s (.ref a) _ _ _ _ ?_)
  refine wpAny_newFunctionEnv_cells S.kind kinds fun env he s1 y => ?_
  subst he
  refine ⟨(e0.mod.nolimit.keeps keep).keeps y.toInCall.keep, codeAny_func ?_⟩
  obtain ⟨t, ht, hq⟩ := hbody cdv s H a ns hlen only hS
  have J := inv_start (CX := CX0) (P := P) (w := w) (mg := mg) (base := base) (f := f) (cd := cdv) (qual := qual) (E := E0) (us := [.ref a]) (vs := [.ref a]) S rfl e0 rfl (.cons rfl .nil) y
  refine wpAny_mono (ht.nox.run [] s1 (L2.start N [.ref a]) H _ J hq) (fun fl s' hs => ?_) fun e s' hs => hs
  match fl, hs with
  | .ret u, ⟨v, σ', H', J', rv, z⟩ => exact ⟨v, H', J'.os, J'.bare, J'.base, J'.hok, rv, z⟩
  | .next, ⟨_, _, _, z⟩ => exact z.elim
  | .brk, ⟨_, _, _, z⟩ => exact z.elim
  | .cont, ⟨_, _, _, z⟩ => exact z.elim
end DL

/-! DL14: rules that look at the data for themselves; walks of two; defs by name. -/
namespace DL
open PySem PySem.Spec L2 PyProof.Rows
section
variable {X : Cx} {R : XP} {K : PySem.W.Frag} {e a b c tg iter : Expr} {es : List Expr} {pos : Pos} {wa wb wc : WE} {oa ob oc : WO} {ta tb : WT}
/-! a walk over a list, a tuple, a text -/
abbrev rItX (K : PySem.W.Frag) (x : V) (H : Hp) (k : It → Hp → Prop) : Prop := (∃ a xs, x = .ref a ∧ SqL K H a xs ∧ k (Itl K a) H) ∨ (∃ a xs, x = .ref a ∧ SqT K H a xs ∧ k (Itt K a) H) ∨ ∃ z, x = .str z ∧ k (Its z) H
theorem pi_any {te : TE} (h : PE X e te) : PI X tg e (fun σ H k => te σ H fun x H1 => rItX X.K x H1 k) := by
  refine ⟨fun pins s σ H k I hw => thn (h.run pins s σ H _ I hw) fun v s1 ⟨x, H1, I1, r1, q1⟩ => ?_⟩
  rcases q1 with ⟨a, xs, rfl, hq, q⟩ | ⟨a, xs, rfl, hq, q⟩ | ⟨z, rfl, q⟩
  · cases r1
    obtain ⟨its, _, p, _⟩ := I1.list hq
    exact wpAny_pyIter_list p.isList (pi_one (tk := s1.toks) I1 _ (turn_list a _) ⟨_, Heap.get?_push_size _ rfl, rfl, rfl⟩ q)
  · cases r1
    obtain ⟨its, _, p, _⟩ := I1.tuple hq
    exact wpAny_pyIter_tuple (show s1.heap.IsTuple a its.toArray from p) (pi_one (tk := s1.toks) I1 _ (turn_tuple a _) ⟨_, Heap.get?_push_size _ rfl, rfl, rfl⟩ q)
  · obtain ⟨t, rfl⟩ := r1
    cases ha : z.cps.all (· < 128)
    · exact wpAny_pyIter_wide ha (pi_one (tk := s1.toks) I1 _ (turn_str _ z t "str_iterator" (.inr rfl)) ⟨_, Heap.get?_push_size _ rfl, rfl, rfl⟩ q)
    · exact wpAny_pyIter_ascii ha (pi_one (tk := s1.toks) I1 _ (turn_str _ z t "str_ascii_iterator" (.inl rfl)) ⟨_, Heap.get?_push_size _ rfl, rfl, rfl⟩ q)
def iX (wa : WE) : WI := fun xn M Q => wa xn M fun d M1 => match d with
  | .list ds => Q ds M1
  | .tuple ds => Q ds M1
  | .str s => Q (s.cps.toList.map fun c => .str (S [c])) M1
  | _ => False
theorem dI_x (h : DE X R e wa) : DI X R tg e (iX wa) := by
  obtain ⟨t, p, q⟩ := h.ex
  refine ⟨_, pi_any p, fun r l hw kk => q r l hw fun v d M1 F1 H1 s1 r1 dv z => ?_⟩
  cases dv with
  | lst h hd => exact .inl ⟨_, _, rfl, SqL.of (r1.sub _ _ h), kk _ _ _ _ _ s1 r1 (walk_list h hd) z⟩
  | tup h hd => exact .inr (.inl ⟨_, _, rfl, SqT.of (r1.sub _ _ h), kk _ _ _ _ _ s1 r1 (walk_tup (SqT.of h) hd) z⟩)
  | str s => exact .inr (.inr ⟨_, rfl, kk _ _ _ _ _ s1 r1 walk_str z⟩)
  | _ => exact z.elim
/-! for a, b in zip(x, y): two lists, two tuples; for i, x in enumerate(list) -/
def zipD : List PyData → List PyData → List PyData
  | x :: xs, y :: ys => .tuple [x, y] :: zipD xs ys
  | _, _ => []
theorem zipD_get : ∀ {xs ys : List PyData} {i : Nat} {d : PyData}, (zipD xs ys)[i]? = some d → ∃ x y, xs[i]? = some x ∧ ys[i]? = some y ∧ d = .tuple [x, y]
  | [], _, i, d, h => by simp [zipD] at h
  | _ :: _, [], i, d, h => by simp [zipD] at h
  | x :: xs, y :: ys, 0, d, h => by simp [zipD] at h; exact ⟨x, y, rfl, rfl, h.symm⟩
  | x :: xs, y :: ys, i + 1, d, h => by
    simp only [zipD, List.getElem?_cons_succ] at h
    obtain ⟨a, b, h1, h2, h3⟩ := zipD_get h
    exact ⟨a, b, by simpa using h1, by simpa using h2, h3⟩
theorem zipD_len : ∀ (xs ys : List PyData), (zipD xs ys).length = min xs.length ys.length
  | [], ys => by simp [zipD]
  | _ :: _, [] => by simp [zipD]
  | x :: xs, y :: ys => by simp [zipD, zipD_len xs ys]
def iZ (os : WOs) : WI := fun xn M Q => os xn M fun xs M1 => match getAll xs M1 with
  | some [.list ds, .list es] => Q (zipD ds es) M1
  | some [.tuple ds, .tuple es] => Q (zipD ds es) M1
  | _ => False
/-- lists that are seen stay while nothing but growth comes: so both must be frozen -/
def froz (xs : List Opd) : Bool := xs.all fun o => match o with
  | .x _ => true
  | .s _ => false
theorem walk_zip {F H : Hp} {p q : Addr} {vs ws : List V} {ds es : List PyData} (h1 : F p = some (.lst vs)) (d1 : DVs K F vs ds) (h2 : F q = some (.lst ws)) (d2 : DVs K F ws es) : Walks K (Itz K p q) F (zipD ds es) where
  stop := fun F' H' s s' => ⟨vs, ws, SqL.of (s' _ _ (s _ _ h1)), SqL.of (s' _ _ (s _ _ h2)), by rw [zipD_len, d1.len, d2.len]; omega⟩
  go := fun i d F' H' e s s' => by
    obtain ⟨x, y, e1, e2, rfl⟩ := zipD_get e
    obtain ⟨v, g1, g2⟩ := d1.get e1
    obtain ⟨w, g3, g4⟩ := d2.get e2
    have l1 : SqL K H' p vs := SqL.of (s' _ _ (s _ _ h1))
    have l2 : SqL K H' q ws := SqL.of (s' _ _ (s _ _ h2))
    refine ⟨⟨vs, ws, v, w, l1, l2, g1, g3⟩, fun z H'' hy => ?_⟩
    obtain ⟨T, x1, x2, rfl, nT, rfl, f1, f2⟩ := hy
    have ex1 : x1 = v := Option.some.inj ((f1 _ l1).symm.trans g1)
    have ex2 : x2 = w := Option.some.inj ((f2 _ l2).symm.trans g3)
    subst ex1
    subst ex2
    have g := Grow.newF (o := .tup [x1, x2]) s' nT
    exact ⟨_, g, .tup upd_same (.cons ((g2.same s).same g.f) (.cons ((g4.same s).same g.f) .nil))⟩
theorem walk_zipT {F H : Hp} {p q : Addr} {vs ws : List V} {ds es : List PyData} (h1 : F p = some (.tup vs)) (d1 : DVs K F vs ds) (h2 : F q = some (.tup ws)) (d2 : DVs K F ws es) : Walks K (RZ.ItzT K p q) F (zipD ds es) where
  stop := fun F' H' s s' => ⟨vs, ws, SqT.of (s' _ _ (s _ _ h1)), SqT.of (s' _ _ (s _ _ h2)), by rw [zipD_len, d1.len, d2.len]; omega⟩
  go := fun i d F' H' e s s' => by
    obtain ⟨x, y, e1, e2, rfl⟩ := zipD_get e
    obtain ⟨v, g1, g2⟩ := d1.get e1
    obtain ⟨w, g3, g4⟩ := d2.get e2
    have l1 : SqT K H' p vs := SqT.of (s' _ _ (s _ _ h1))
    have l2 : SqT K H' q ws := SqT.of (s' _ _ (s _ _ h2))
    refine ⟨⟨vs, ws, v, w, l1, l2, g1, g3⟩, fun z H'' hy => ?_⟩
    obtain ⟨T, x1, x2, rfl, nT, rfl, f1, f2⟩ := hy
    have ex1 : x1 = v := Option.some.inj ((f1 _ l1).symm.trans g1)
    have ex2 : x2 = w := Option.some.inj ((f2 _ l2).symm.trans g3)
    subst ex1
    subst ex2
    have g := Grow.newF (o := .tup [x1, x2]) s' nT
    exact ⟨_, g, .tup upd_same (.cons ((g2.same s).same g.f) (.cons ((g4.same s).same g.f) .nil))⟩
/-- both as frozen data -/
def iZD (wl : WL) : WI := fun xn M Q => wl xn M fun l M1 => match l with
  | [.list ds, .list es] => Q (zipD ds es) M1
  | [.tuple ds, .tuple es] => Q (zipD ds es) M1
  | _ => False
theorem dI_zip {p tpos : Pos} {elts : List Expr} {kk : Nat} {wl : WL} (hg : Gl X "zip") (hm : X.mg "zip" = none) (h : DL X R [a, b] wl) (hs : starEach [a, b] X.env = (false, eval a X.env) :: starEach [b] X.env := by rfl) (hpl : (backTo pos (starEach [b] X.env)).any (·.1) = false := by rfl) :
    DI X R (.Tuple elts kk tpos) (.Call (.Name "zip" p) [a, b] [] pos) (iZD wl) := by
  obtain ⟨t, p, q⟩ := h.ex
  refine ⟨_, RZ.pi_zipA hg hm p hs hpl, fun {F0 H0 F H W M σ xn Q k} r l hw kk => q r l hw fun vs ds M1 F1 H1 s1 r1 dv z => ?_⟩
  cases dv with
  | nil => exact z.elim
  | cons d1 dv =>
    cases dv with
    | nil => cases d1 <;> exact z.elim
    | cons d2 dv =>
      cases dv with
      | cons _ _ => cases d1 <;> cases d2 <;> exact z.elim
      | nil =>
        cases d1 with
        | lst h1 q1 => cases d2 with
          | lst h2 q2 => exact ⟨_, _, _, _, rfl, .inl ⟨SqL.of (r1.sub _ _ h1), SqL.of (r1.sub _ _ h2), kk _ _ _ _ _ s1 r1 (walk_zip (H := H) h1 q1 h2 q2) z⟩⟩
          | _ => exact z.elim
        | tup h1 q1 => cases d2 with
          | tup h2 q2 => exact ⟨_, _, _, _, rfl, .inr ⟨SqT.of (r1.sub _ _ h1), SqT.of (r1.sub _ _ h2), kk _ _ _ _ _ s1 r1 (walk_zipT (H := H) h1 q1 h2 q2) z⟩⟩
          | _ => exact z.elim
        | _ => exact z.elim
def enumD : Nat → List PyData → List PyData
  | _, [] => []
  | n, x :: xs => .tuple [.int (n : Nat), x] :: enumD (n + 1) xs
theorem enumD_get : ∀ {xs : List PyData} {n i : Nat} {d : PyData}, (enumD n xs)[i]? = some d → ∃ x, xs[i]? = some x ∧ d = .tuple [.int ((n + i : Nat) : Int), x]
  | [], n, i, d, h => by simp [enumD] at h
  | x :: xs, n, 0, d, h => by simp [enumD] at h; exact ⟨x, rfl, h.symm⟩
  | x :: xs, n, i + 1, d, h => by
    simp only [enumD, List.getElem?_cons_succ] at h
    obtain ⟨a, h1, h3⟩ := enumD_get h
    exact ⟨a, by simpa using h1, by rw [h3]; congr 4; omega⟩
theorem enumD_len : ∀ (xs : List PyData) (n : Nat), (enumD n xs).length = xs.length
  | [], n => rfl
  | x :: xs, n => by simp [enumD, enumD_len xs]
theorem walk_enum {F : Hp} {p : Addr} {vs : List V} {ds : List PyData} (h1 : F p = some (.lst vs)) (d1 : DVs K F vs ds) : Walks K (Ite K p) F (enumD 0 ds) where
  stop := fun F' H' s s' => ⟨vs, SqL.of (s' _ _ (s _ _ h1)), by rw [enumD_len, d1.len]; omega⟩
  go := fun i d F' H' e s s' => by
    obtain ⟨x, e1, rfl⟩ := enumD_get e
    obtain ⟨v, g1, g2⟩ := d1.get e1
    have l1 : SqL K H' p vs := SqL.of (s' _ _ (s _ _ h1))
    refine ⟨⟨vs, v, l1, g1⟩, fun z H'' hy => ?_⟩
    obtain ⟨T, x1, rfl, nT, rfl, f1⟩ := hy
    have ex1 : x1 = v := Option.some.inj ((f1 _ l1).symm.trans g1)
    subst ex1
    have g := Grow.newF (o := .tup [.int (i : Nat), x1]) s' nT
    refine ⟨_, g, .tup upd_same (.cons ?_ (.cons ((g2.same s).same g.f) .nil))⟩
    rw [Nat.zero_add]
    exact .int _
def iE (wl : WL) : WI := fun xn M Q => wl xn M fun l M1 => match l with
  | [.list ds] => Q (enumD 0 ds) M1
  | _ => False
theorem dI_enum {p tpos : Pos} {elts : List Expr} {kk : Nat} {wl : WL} (hg : Gl X "enumerate") (hm : X.mg "enumerate" = none) (h : DL X R [a] wl) (hs : starEach [a] X.env = [(false, eval a X.env)] := by rfl) :
    DI X R (.Tuple elts kk tpos) (.Call (.Name "enumerate" p) [a] [] pos) (iE wl) := by
  obtain ⟨t, p, q⟩ := h.ex
  refine ⟨_, pi_enum hg hm p hs, fun {F0 H0 F H W M σ xn Q k} r l hw kk => q r l hw fun vs ds M1 F1 H1 s1 r1 dv z => ?_⟩
  cases dv with
  | nil => exact z.elim
  | cons d1 dv =>
    cases dv with
    | cons _ _ => cases d1 <;> exact z.elim
    | nil =>
      cases d1 with
      | lst h1 q1 => exact ⟨_, _, rfl, SqL.of (r1.sub _ _ h1), kk _ _ _ _ _ s1 r1 (walk_enum h1 q1) z⟩
      | _ => exact z.elim

/-! e[i] of anything -/
abbrev rIxDc : R2 := fun x y H Q => ∃ a v, x = .ref a ∧ DGet H a y (some v) ∧ Q v H
theorem ix_dict (hu : X.A.units + 1 < cLine) : IxR X rIxDc := by
  intro value slice pins s σ H x y v u Q I rx ry h hs
  obtain ⟨a, z, rfl, g, q⟩ := h
  cases rx
  exact tail_any (dict_typeIs I g) PySem.F.slot_dict_getitem.lookup (d_getItem hu I g ry fun w' s3 I3 rw' => ⟨z, H, I3, rw', q⟩) hs
def fSub_ : DF2 := fun x y Q => match x with
  | .dict kvs => keyFits kvs y = true ∧ match dlook (dpairs kvs) y with
    | some d => Q d
    | none => False
  | _ => fIx x y Q
abbrev rSub_ (K : PySem.W.Frag) : R2 := fun x y H Q => rIxDc x y H Q ∨ rIx K x y H Q
theorem dSub_ : DOp K (rSub_ K) fSub_ := by
  intro F H vx vy dx dy Qd k s hx hy h kk
  cases dx with
  | dict kvs =>
    have h : keyFits kvs dy = true ∧ (match dlook (dpairs kvs) dy with
      | some d => Qd d
      | none => False) := h
    obtain ⟨h1, h2⟩ := h
    obtain ⟨a, o, rfl, _, g, h3⟩ := hx.dget s hy h1
    rcases h3 with ⟨rfl, h4⟩ | ⟨v, d, rfl, h4, h5⟩
    · rw [h4] at h2; exact h2.elim
    · rw [h4] at h2
      exact .inl ⟨a, v, rfl, g, kk _ _ _ _ (.refl s) h5 h2⟩
  | _ => exact .inr (dIx s hx hy h kk)
theorem dE_sub (hu : X.A.units + 1 < cLine) (ha : DO X R a oa) (hb : DO X R b ob) (hs : PlainIx b := by exact fun _ _ => rfl) : DE X R (.Subscript a b pos) (wOp fSub_ oa ob) := by
  obtain ⟨t1, p1, q1⟩ := ha.ex
  obtain ⟨t2, p2, q2⟩ := hb.ex
  refine ⟨_, pe_ix ((ix_dict hu).or ix_seq) p1 p2 hs, fun r l hw kk => ?_⟩
  refine q1 r l hw fun vx x M1 F1 H1 s1 r1 hx z1 => q2 r1 l z1 fun vy y M2 F2 H2 s2 r2 hy z2 => ?_
  exact app2_run dSub_ r2 (hx.same s2) hy z2 fun v d M' F' H' s => kk v d M' F' H' (s1.trans (s2.trans s))

/-! x in e of anything: a sign in a text, a key in a dict, flat things in a list or a tuple -/
theorem op_inD (hu : X.A.units + 1 < cLine) : OpR X (compareOp .In) (fun y x H Q => ∃ a o, x = .ref a ∧ DGet H a y o ∧ Q (.bl o.isSome) H) := by
  intro pins s σ H y x u v Q I ry rx h
  obtain ⟨a, o, rfl, g, q⟩ := h
  cases rx
  exact d_in hu I g ry fun s3 I3 => ⟨.bl o.isSome, H, I3, rfl, q⟩
theorem op_notInD (hu : X.A.units + 1 < cLine) : OpR X (compareOp .NotIn) (fun y x H Q => ∃ a o, x = .ref a ∧ DGet H a y o ∧ Q (.bl (!o.isSome)) H) := by
  intro pins s σ H y x u v Q I ry rx h
  obtain ⟨a, o, rfl, g, q⟩ := h
  cases rx
  exact d_notIn hu I g ry fun s3 I3 => ⟨.bl (!o.isSome), H, I3, rfl, q⟩
end
end DL

/-! DL15: ways that meet; defs by their names; the well's birth; the law by its body. -/
namespace DL
open PySem PySem.Spec L2 PyProof.Rows
section
variable {X : Cx} {R : XP} {K : PySem.W.Frag} {e a b c tg iter : Expr} {es : List Expr} {st : Stmt} {rest body : List Stmt} {pos : Pos} {wa wb wc : WE} {oa ob oc : WO} {ta tb : WT} {u v : WS}
/-- the ways behind a statement meet in Mid -/
def uSeqM (u v : WS) : WS := fun xn De M => ∃ Mid : Mem → Prop, u xn { De with nx := Mid } M ∧ ∀ M', Mid M' → v xn De M'
theorem dSs_m (h : DS X R st u) (h2 : DSs X R rest v) : DSs X R (st :: rest) (uSeqM u v) := by
  obtain ⟨t, p, q⟩ := h.ex
  obtain ⟨t2, p2, q2⟩ := h2.ex
  refine ⟨_, pss_cons p p2, fun r l hw E => ?_⟩
  obtain ⟨Mid, h1, h2⟩ := hw
  exact q r l h1 ⟨fun M' σ' F' H' s r' z => q2 r' l (h2 _ z) (E.same s), E.rt, E.bk, E.ct⟩
/-! comprehensions that compute -/
theorem compW_map {vs : List Nat} {g : WG} {te : WE} {xn : Xn} {env : List (Option Ent)} {ds : List PyData} {wl : Option Wel} {Q : List PyData → Option Wel → Prop} (f : PyData → PyData)
    (h : ∀ d ∈ ds, ∀ P : PyData → Option Wel → Prop, P (f d) wl → g d ((Mem.mk env wl).ro.kill vs) fun M1 => te xn M1 fun y M3 => P y M3.wl) (hq : Q (ds.map f) wl) : compW vs g ttY te xn env ds wl Q := by
  refine ⟨fun i ys w => ys = (ds.take i).map f ∧ w = wl, ⟨rfl, rfl⟩, fun i d ys wl' e ⟨e1, e2⟩ => ?_, fun ys wl' ⟨e1, e2⟩ => ?_⟩
  · subst e1 e2
    refine h d (List.mem_of_getElem? e) (fun y w => (ds.take i).map f ++ [y] = (ds.take (i + 1)).map f ∧ w = wl') ⟨?_, rfl⟩
    rw [List.take_add_one, e]
    simp
  · subst e1 e2
    rw [List.take_length]
    exact hq
theorem compW_filter {vs : List Nat} {g : WG} {tt : WT} {te : WE} {xn : Xn} {env : List (Option Ent)} {ds : List PyData} {wl : Option Wel} {Q : List PyData → Option Wel → Prop} (f : PyData → PyData) (p : PyData → Bool)
    (h : ∀ d ∈ ds, ∀ P : PyData → Option Wel → Prop, ∀ P2 : Option Wel → Prop, (p d = true → P (f d) wl) → (p d = false → P2 wl) → g d ((Mem.mk env wl).ro.kill vs) fun M1 => tt xn M1 fun b M2 => if b = true then te xn M2 fun y M3 => P y M3.wl else P2 M2.wl) (hq : Q ((ds.filter p).map f) wl) : compW vs g tt te xn env ds wl Q := by
  refine ⟨fun i ys w => ys = ((ds.take i).filter p).map f ∧ w = wl, ⟨rfl, rfl⟩, fun i d ys wl' e ⟨e1, e2⟩ => ?_, fun ys wl' ⟨e1, e2⟩ => ?_⟩
  · subst e1 e2
    have key : (ds.take (i + 1)).filter p = (ds.take i).filter p ++ if p d = true then [d] else [] := by
      rw [List.take_add_one, e, List.filter_append]
      simp only [Option.toList]
      cases hp : p d <;> simp [hp]
    refine h d (List.mem_of_getElem? e) (fun y w => ((ds.take i).filter p).map f ++ [y] = ((ds.take (i + 1)).filter p).map f ∧ w = wl') (fun w => ((ds.take i).filter p).map f = ((ds.take (i + 1)).filter p).map f ∧ w = wl') (fun hp => ⟨?_, rfl⟩) (fun hp => ⟨?_, rfl⟩)
    · rw [key, if_pos hp]; simp
    · rw [key, hp]; simp
  · subst e1 e2
    rw [List.take_length]
    exact hq
end
/-! defs by their names -/
structure Raw (K : PySem.W.Frag) (mg : Str → Option Value) (x : Str) (st : Stmt) (ps : List Str) : Prop where
  ex : ∃ (f : Addr) (fd : FuncData), Fun K x x st f fd ∧ mg x = some (.ref f) ∧ Binds K fd ps []
structure Fn (P : Program) (w : World) (K : PySem.W.Frag) (mg : Str → Option Value) (base : Heap) (x : Str) (st : Stmt) (ps : List Str) (k : Nat) (g : GSpec) : Prop where
  ex : ∃ (f : Addr) (fd : FuncData), Fun K x x st f fd ∧ mg x = some (.ref f) ∧ Binds K fd ps [] ∧ FnOk P w K mg base CX0 k f fd ps (spD K g)
theorem Raw.mk' {K : PySem.W.Frag} {mg : Str → Option Value} {x : Str} {st : Stmt} {ps : List Str} {f : Addr} {fd : FuncData} (F : Fun K x x st f fd) (hm : mg x = some (.ref f))
    (h : ∀ (kV doc pm : Value) (an : Option Addr) (cdv ct : Value) (us : List Value), us.length = ps.length → bindArgs (PySem.W.fnOf x x (defArgs st) (defBody st) (defScope st) .none kV doc pm an cdv ct) ⟨us, []⟩ = pure (ps.zip us)) : Raw K mg x st ps :=
  ⟨f, fd, F, hm, F.binds h⟩
section
variable {X : Cx} {R : XP} {P : Program} {w : World} {K : PySem.W.Frag} {mg : Str → Option Value} {base : Heap} {e : Expr} {es : List Expr} {pos : Pos}
theorem Raw.fn {x : Str} {st : Stmt} {N ps : List Str} {k : Nat} {g : GSpec} (r : Raw K mg x st ps) (S : FnScope N ps (defScope st)) (hN : ps.length ≤ N.length)
    (hlen : ∀ args wl Q, g args wl Q → args.length = ps.length)
    (hbody : ∀ (cdv : Value) (A : Around) (outer : List Env) (s : Shared) (H : Hp) (E : XK) (f : Addr), Room k (A.deeper (envOfC x (defScope st) s.heap.objs.size f cdv)) →
      ∃ u, DSs (cxOf CX0 P w K mg base N x (defScope st) f cdv A outer s H E).nox X0 (defBody st) u ∧ ∀ args wl Q, g args wl Q → u noX (endsG Q) (mem0 N.length args wl)) : Fn P w K mg base x st ps (k + 1) g := by
  obtain ⟨f, fd, F, hm, hb⟩ := r.ex
  exact ⟨f, fd, F, hm, hb, fnD F S hN hlen fun cdv A outer s H E hr => hbody cdv A outer s H E f hr⟩
theorem dE_callF {k j : Nat} {ps : List Str} {g : GSpec} {x : Str} {st : Stmt} {p : Pos} {as : WA} (F : Fn X.prog X.w X.K X.mg X.base x st ps k g) (hr : Room j X.A) (hk : k ≤ j) (hg : Gl X x) (ha : DA X R (e :: es) as)
    (hdb : (x == ("__debug__" : Str)) = false := by decide) (he : starEach (e :: es) X.env = (false, eval e X.env) :: starEach es X.env := by rfl) (hpl : (backTo pos (starEach es X.env)).any (·.1) = false := by rfl) :
    DE X R (.Call (.Name x p) (e :: es) [] pos) (wCall g as) := by
  obtain ⟨f, fd, F, hm, hb, ok⟩ := F.ex
  exact dE_call ok hr hk hg hm F.kp hb ha hdb he hpl
theorem dE_callKF {k j : Nat} {ps ks : List Str} {pi : List Nat} {g : GSpec} {x : Str} {st : Stmt} {p : Pos} {as : WA} {kws : List Keyword} (F : Fn X.prog X.w X.K X.mg X.base x st ps k g) (hr : Room j X.A) (hk : k ≤ j) (hg : Gl X x) (ha : DK X R kws as) (h0 : ps ≠ [])
    (hb : ∀ (kV doc pm : Value) (an : Option Addr) (cdv ct : Value) (ws : List Value), (perm pi ws).length = ps.length → bindArgs (PySem.W.fnOf x x (defArgs st) (defBody st) (defScope st) .none kV doc pm an cdv ct) ⟨[], ks.zip ws⟩ = pure (ps.zip (perm pi ws)))
    (hall : (backToKw pos (keywordEach kws X.env)).all (·.1.isSome) = true := by rfl) (hks : (backToKw pos (keywordEach kws X.env)).filterMap (·.1) = ks := by rfl)
    (hdb : (x == ("__debug__" : Str)) = false := by decide) (hpl : ((backTo pos (starEach [] X.env)).any (·.1) || (backToKw pos (keywordEach kws X.env)).any (·.1.isNone)) = false := by rfl) :
    DE X R (.Call (.Name x p) [] kws pos) (wCallK g pi as) := by
  obtain ⟨f, fd, F, hm, _, ok⟩ := F.ex
  have hkb : KBinds X.K fd ps ks (gK pi) (gK pi) := by
    obtain ⟨oc, od, kV, doc, pm, an, cdv, ct, osl, rfl, lk, hcd⟩ := F.ex
    exact kbinds h0 (hb kV doc pm an cdv ct)
  exact dE_callK ok hr hk hg hm F.kp hkb ha hall hks hdb hpl
end
/-! the well is made: a def that returns what is its own -/
def spW (K : PySem.W.Frag) (n : Nat) (wellOf : List Int → Wel) : Sp := fun vs H Q _ => ∃ (a : Addr) (ns : List Int), vs = [.ref a] ∧ Only H ∧ SqL K H a (ns.map V.int) ∧ ns.length ≤ n ∧
  ∀ q r H', (∀ b o, H b = some o → H' b = some o) → H q = none → H r = none → WelAt H' q r (wellOf ns) → Q (.ref q) H'
structure FnW (P : Program) (w : World) (K : PySem.W.Frag) (mg : Str → Option Value) (base : Heap) (x : Str) (k : Nat) (n : Nat) (wellOf : List Int → Wel) : Prop where
  ex : ∃ (f : Addr) (fd : FuncData) (ps : List Str), mg x = some (.ref f) ∧ PySem.W.keepIn K (.ref f) = true ∧ Binds K fd ps [] ∧ FnOk P w K mg base CX0 k f fd ps (spW K n wellOf)
section
variable {X : Cx} {R : XP} {P : Program} {w : World} {K : PySem.W.Frag} {mg : Str → Option Value} {base : Heap} {e : Expr} {es : List Expr} {pos : Pos}
def welDict (w : Wel) : PyData := .dict [(.str "deep", .list (w.deep.map .int)), (.str "mix", .int w.mix), (.str "drawn", .int w.drawn)]
theorem Raw.fnW {x : Str} {st s1 s2 : Stmt} {N : List Str} {p : Str} {k n : Nat} {wellOf : List Int → Wel} {wr : WE} {u1 u2 : WS} (r : Raw K mg x st [p]) (S : FnScope N [p] (defScope st)) (hN : 1 ≤ N.length) (hbd : defBody st = [s1, s2, .Return (some e) pos])
    (hbody : ∀ (cdv : Value) (A : Around) (outer : List Env) (s : Shared) (H : Hp) (E : XK) (f : Addr), Room k (A.deeper (envOfC x (defScope st) s.heap.objs.size f cdv)) →
      DS (cxOf CX0 P w K mg base N x (defScope st) f cdv A outer s H E).nox X0 s1 u1 ∧ DS (cxOf CX0 P w K mg base N x (defScope st) f cdv A outer s H E).nox X0 s2 u2 ∧ DF (cxOf CX0 P w K mg base N x (defScope st) f cdv A outer s H E).nox X0 e wr)
    (hw : ∀ ns : List Int, ns.length ≤ n → u1 noX { nx := fun M1 => u2 noX { nx := fun M2 => wr noX M2 fun d _ => d = welDict (wellOf ns), rt := fun _ _ => False } M1, rt := fun _ _ => False } (mem0 N.length [.scr ns] none)) : FnW P w K mg base x (k + 1) n wellOf := by
  obtain ⟨f, fd, F, hm, hb⟩ := r.ex
  refine ⟨f, fd, [p], hm, F.kp, hb, F.ok S (fun vs H Q E h => ?_) fun cdv A outer s H vs Q E hr h => ?_⟩
  · obtain ⟨a, ns, rfl, _⟩ := h
    rfl
  · obtain ⟨a, ns, rfl, only, hS, hl, q⟩ := h
    obtain ⟨h1, h2, h3⟩ := hbody cdv A outer s H E f hr
    obtain ⟨t1, p1, q1⟩ := h1.ex
    obtain ⟨t2, p2, q2⟩ := h2.ex
    obtain ⟨t3, p3, q3⟩ := h3.ex
    refine ⟨_, by rw [hbd]; exact pss_cons p1 (pss_cons p2 (pss_one (ps_ret p3))), ?_⟩
    have rel : Rel K H H none (mem0 N.length [.scr ns] none) (L2.start N [.ref a]) H H := rel_start (.refl H) (.cons (a := .scr ns) ⟨a, rfl, hS⟩ .nil) trivial hN
    have lk : ∀ {W : Option (Addr × Addr)}, Lnk K X0 H H W noX := fun _ _ _ _ _ _ _ _ _ z => z.elim
    refine q1 (xn := noX) rel lk (hw ns hl) ⟨fun M1 σ1 F1 H1 s1 r1 z1 => ?_, fun _ _ _ _ _ _ _ _ _ z => z.elim, fun _ _ _ _ _ _ z => z.elim, fun _ _ _ _ _ _ z => z.elim⟩
    · refine q2 (xn := noX) r1 lk z1 ⟨fun M2 σ2 F2 H2 s2 r2 z2 => ?_, fun _ _ _ _ _ _ _ _ _ z => z.elim, fun _ _ _ _ _ _ z => z.elim, fun _ _ _ _ _ _ z => z.elim⟩
      · refine q3 (xn := noX) r2 lk z2 fun p d M' F' H' s r3 f3 z => ?_
        subst z
        cases f3.at_ with
        | @dic ks _ hp hk dv =>
          -- three keys
          have newL : ∀ {b : Addr} {vs : List V}, F' b = some (.lst vs) → H b = none := fun {b vs} e => by
            rcases r3.fnw b _ e with y | y
            · rcases only b with z | ⟨ob, xs, z⟩
              · exact z
              · rw [z] at y; cases y
            · exact y
          match ks, hk, dv, hp with
          | [(k1, v1), (k2, v2), (k3, v3)], hk, dv, hp =>
            simp only [List.map_cons, List.map_nil, List.cons.injEq, and_true] at hk
            have kk : ∀ {z : Str} {k : Key}, PyData.str z = kD k → k = .inr z := fun {z k} e => by
              cases k with
              | inl i => cases e
              | inr y => cases e; rfl
            rw [kk hk.1, kk hk.2.1, kk hk.2.2] at hp
            cases dv with
            | cons d1 dv => cases dv with
              | cons d2 dv => cases dv with
                | cons d3 dv =>
                  cases d2
                  cases d3
                  cases d1 with
                  | lst hr dr =>
                    rename_i rr vs
                    have ev := dr.ints
                    subst ev
                    have nq : H p = none := f3.n0
                    have hr' := r3.sub _ _ hr
                    refine q p rr H' (fun b o e => r3.old b o e (fun z => z)) nq (newL hr) ⟨hp, hr', fun z => ?_⟩
                    subst z
                    rw [hp] at hr'; cases hr'
theorem law_ofD {x : Str} {st : Stmt} {rest : List Stmt} {N : List Str} {p y gw : Str} {i n k : Nat} {wellOf : List Int → Wel} {f : Addr} {fd : FuncData} {py pg pp pc : Pos} {spos : Pos} (F : Fun K x x st f fd) (S : FnScope N [p] (defScope st)) (hN : 1 ≤ N.length)
    (hb : ∀ (s : Shared) (u : Value), BindsTo s fd ⟨[u], []⟩ [(p, u)]) (hbd : defBody st = .Assign [.Name y py] (.Call (.Name gw pg) [.Name p pp] [] pc) spos :: rest) (W : FnW P w K mg base gw k n wellOf) (hk : k ≤ 100)
    (hi : N[i]? = some y) (hi0 : i ≠ 0) (h0 : N[0]? = some p)
    (hbody : ∀ (cdv : Value) (s : Shared) (H : Hp), ∃ u, DSs (cxOf CX0 P w K mg base N x (defScope st) f cdv callerA [] s H E0).nox X0 rest u ∧
      ∀ ns : List Int, ns.length ≤ n → u noX { nx := fun _ => False, rt := fun d _ => d = .bool true } ⟨(List.replicate N.length none).set i (some .wel), some (wellOf ns)⟩)
    (hside : ∀ (cdv : Value) (s : Shared) (H : Hp), ∃ t1 : TS, PS (cxOf CX0 P w K mg base N x (defScope st) f cdv callerA [] s H E0).nox (.Assign [.Name y py] (.Call (.Name gw pg) [.Name p pp] [] pc) spos) t1 ∧
      ∀ (D : Ends) (σ : List (Option V)) (H : Hp), (∃ v, σ[0]? = some (some v) ∧ ∀ Q, (Q = fun u H2 => D.nx (σ.set i (some u)) H2) → spW K n wellOf [v] H Q E0) → t1 D σ H) : LawOk P w K mg base f n := by
  refine law_of F S hb fun cdv s H a ns hl only hS => ?_
  obtain ⟨u, hu, hU⟩ := hbody cdv s H
  obtain ⟨t1, p1, q1⟩ := hside cdv s H
  obtain ⟨t2, p2, q2⟩ := hu.ex
  refine ⟨_, by rw [hbd]; exact pss_cons p1 p2, ?_⟩
  refine q1 _ _ _ ⟨.ref a, rfl, fun Q hQ => ⟨a, ns, rfl, only, hS, hl, fun q r H' keep nq nr wa => ?_⟩⟩
  subst hQ
  have lk : ∀ {W : Option (Addr × Addr)}, Lnk K X0 H H' W noX := fun _ _ _ _ _ _ _ _ _ z => z.elim
  refine q2 (F0 := H) (H0 := H') (F := H) (W := some (q, r)) (M := ⟨(List.replicate N.length none).set i (some .wel), some (wellOf ns)⟩) (xn := noX) ⟨keep, fun _ _ e _ => e, .refl _, fun _ _ e => .inl e, ?_, fun j e h => ?_, fun j j' d e v ne h => ?_, ⟨wa, nq, nr⟩⟩ lk (hU ns hl) ⟨fun _ _ _ _ _ _ z => z.elim, fun v d M' σ' F' H'' s r dv z => ?_, fun _ _ _ _ _ _ z => z.elim, fun _ _ _ _ _ _ z => z.elim⟩
  · simp [L2.start]; omega
  · have h : ((List.replicate N.length (none : Option Ent)).set i (some .wel))[j]? = some (some e) := h
    have hN' := (List.getElem?_eq_some_iff.mp hi).1
    by_cases ej : j = i
    · subst ej
      rw [List.getElem?_set_self (by simpa using hN')] at h
      cases h
      refine ⟨.ref q, ?_, q, r, rfl, rfl⟩
      rw [List.getElem?_set_self]
      simp [L2.start]; omega
    · rw [List.getElem?_set_ne (fun z => ej z.symm), List.getElem?_replicate] at h
      split at h <;> simp at h
  · exfalso
    have h : ((List.replicate N.length (none : Option Ent)).set i (some .wel))[j]? = some (some (.ow d)) := h
    by_cases ej : j = i
    · subst ej
      rw [List.getElem?_set_self (by simpa using (List.getElem?_eq_some_iff.mp hi).1)] at h
      cases h
    · rw [List.getElem?_set_ne (fun z => ej z.symm), List.getElem?_replicate] at h
      split at h <;> simp at h
  · subst z
    cases dv
    rfl
end
end DL

/-! DL16: two names at once, each what is seen or what is one's own. -/
namespace DL
open PySem PySem.Spec L2 PyProof.Rows
def PVal (K : PySem.W.Frag) (H0 : Hp) (W : Option (Addr × Addr)) (M : Mem) (σ : List (Option V)) (F H : Hp) (v : V) : Ent → Prop
  | .im d => DV K F v d
  | .ow d => ∃ p, v = .ref p ∧ Fresh K H0 W M σ F H p d
  | _ => False
abbrev WZ := Xn → Mem → (Ent → Mem → Prop) → Prop
structure DZ (X : Cx) (R : XP) (e : Expr) (w : WZ) : Prop where
  ex : ∃ t : TE, PE X e t ∧ ∀ {F0 H0 F H : Hp} {W : Option (Addr × Addr)} {M : Mem} {σ : List (Option V)} {xn : Xn} {Q : Ent → Mem → Prop} {k : VK}, Rel X.K F0 H0 W M σ F H → Lnk X.K R F0 H0 W xn → w xn M Q →
    (∀ v e M' F' H', Same F F' → Rel X.K F0 H0 W M' σ F' H' → PVal X.K H0 W M' σ F' H' v e → Q e M' → k v H') → t σ H k
section
variable {X : Cx} {R : XP} {K : PySem.W.Frag} {e a b c : Expr} {pos : Pos} {wa wb : WE}
def zE (wa : WE) : WZ := fun xn M Q => wa xn M fun d M1 => Q (.im d) M1
def zF (wa : WE) : WZ := fun xn M Q => wa xn M fun d M1 => Q (.ow d) M1
theorem dZ_e (h : DE X R e wa) : DZ X R e (zE wa) := by
  obtain ⟨t, p, q⟩ := h.ex
  exact ⟨t, p, fun r l hw k => q r l hw fun v d M' F' H' s r' f z => k v (.im d) M' F' H' s r' f z⟩
theorem dZ_f (h : DF X R e wa) : DZ X R e (zF wa) := by
  obtain ⟨t, p, q⟩ := h.ex
  exact ⟨t, p, fun r l hw k => q r l hw fun p d M' F' H' s r' f z => k (.ref p) (.ow d) M' F' H' s r' ⟨p, rfl, f⟩ z⟩
/-- what was got stands while another expression is taken -/
theorem PVal.after {F0 H0 F1 H1 F2 H2 : Hp} {W : Option (Addr × Addr)} {M : Mem} {wl : Option Wel} {σ : List (Option V)} {v : V} {e : Ent} (r : Rel K F0 H0 W M σ F1 H1) (af : After F1 H1 W F2 H2) (h : PVal K H0 W M σ F1 H1 v e) : PVal K H0 W ⟨M.env, wl⟩ σ F2 H2 v e := by
  cases e with
  | im d => exact DV.same af.f h
  | ow d =>
    obtain ⟨p, rfl, f⟩ := h
    obtain ⟨u, hu⟩ := f.at_.there
    have ha := af.h _ _ hu f.nw
    refine ⟨p, rfl, f.at_.move af.f (ha.trans hu.symm), ?_, f.n0, f.nw, f.ns⟩
    cases y : F2 p with
    | none => rfl
    | some o =>
      rcases af.n p o y with t | t
      · rw [f.nf] at t; cases t
      · rw [hu] at t; cases t
  | _ => exact h.elim
theorem PVal.back {F0 H0 F1 H1 F2 H2 : Hp} {W : Option (Addr × Addr)} {M M2 : Mem} {wl : Option Wel} {σ : List (Option V)} {v : V} {e : Ent} (r : Rel K F0 H0 W M σ F1 H1) (h : PVal K H1 W M2 σ F2 H2 v e) : PVal K H0 W ⟨M.env, wl⟩ σ F2 H2 v e := by
  cases e with
  | im d => exact h
  | ow d =>
    obtain ⟨p, rfl, f⟩ := h
    refine ⟨p, rfl, f.at_, f.nf, ?_, f.nw, fun i d' hi hs => ?_⟩
    · cases y : H0 p with
      | none => rfl
      | some o =>
        have := r.old p o y f.nw
        rw [f.n0] at this; cases this
    · obtain ⟨v, h1, q, rfl, o, _⟩ := r.slt i _ hi
      rw [hs] at h1
      cases h1
      obtain ⟨u, hu⟩ := o.there
      rw [f.n0] at hu; cases hu
  | _ => exact h.elim
theorem Rel.setP {F0 H0 F H : Hp} {W : Option (Addr × Addr)} {M : Mem} {σ : List (Option V)} {v : V} {e : Ent} {i : Nat} (r : Rel K F0 H0 W M σ F H) (h : PVal K H0 W M σ F H v e) : Rel K F0 H0 W (M.set i e) (σ.set i (some v)) F H := by
  cases e with
  | im d => exact r.setIm h
  | ow d => obtain ⟨p, rfl, f⟩ := h; exact r.setOw f
  | _ => exact h.elim
theorem PVal.set {H0 H1 F H : Hp} {W : Option (Addr × Addr)} {M : Mem} {σ : List (Option V)} {v v1 : V} {e e1 : Ent} {i : Nat} (h1 : PVal K H0 W M σ F H v1 e1) (hp : ∀ p, v1 = .ref p → ∀ d, e1 = .ow d → H1 p ≠ none) {M2 : Mem} {σ2 : List (Option V)} (h : PVal K H1 W M2 σ2 F H v e) (h' : PVal K H0 W M σ F H v e) : PVal K H0 W (M.set i e1) (σ.set i (some v1)) F H v e := by
  cases e with
  | im d => exact h'
  | ow d =>
    obtain ⟨p, rfl, f⟩ := h'
    obtain ⟨p', e', f'⟩ := h
    cases e'
    refine ⟨p, rfl, f.at_, f.nf, f.n0, f.nw, fun j d' hj hs => ?_⟩
    rcases getSet hj with ⟨rfl, z⟩ | ⟨ne, hj⟩
    · cases z
      rw [List.getElem?_set] at hs
      rw [if_pos rfl] at hs
      split at hs
      · cases hs
        exact hp p rfl _ rfl f'.n0
      · cases hs
    · rw [List.getElem?_set_ne ne] at hs
      exact f.ns j d' hj hs
  | _ => exact h'.elim
def uPar2 (i j : Nat) (za zb : WZ) : WS := fun xn De M => za xn M fun d1 M1 => zb noX M1.ro fun d2 M2 => De.nx ((Mem.set ⟨M1.env, M2.wl⟩ i d1).set j d2)
theorem dS_par2 {i j : Nat} {x y : Str} {px py pt : Pos} {kt k2 : Nat} {pt2 : Pos} {za zb : WZ} (hc : X.calm = true) (hN : X.N.Nodup) (hi : X.N[i]? = some x) (hj : X.N[j]? = some y) (hij : i ≠ j)
    (hx : X.env.scope.names.lookup x = some .local) (hy : X.env.scope.names.lookup y = some .local) (ha : DZ X R a za) (hb : DZ X X0 b zb)
    (hw : swappedStores [.Tuple [.Name x px, .Name y py] kt pt] (.Tuple [a, b] k2 pt2) X.env = pure (some [x, y]) := by rfl)
    (hs : swapsWithSole [.Tuple [.Name x px, .Name y py] kt pt] (.Tuple [a, b] k2 pt2) pos.line X.env = pure false := by rfl)
    (h1 : starEach [a, b] X.env = (false, eval a X.env) :: starEach [b] X.env := by rfl) (h2 : starEach [b] X.env = (false, eval b X.env) :: starEach [] X.env := by rfl) :
    DS X R (.Assign [.Tuple [.Name x px, .Name y py] kt pt] (.Tuple [a, b] k2 pt2) pos) (uPar2 i j za zb) := by
  obtain ⟨t, p, q⟩ := ha.ex
  obtain ⟨t2, p2, q2⟩ := hb.ex
  refine ⟨_, ps_par hc hN hi hj hij hx hy (pa_cons p (pa_cons p2 pa_nil h2) h1) hw hs, fun {F0 H0 F H W M σ xn De D} r l hw E => ?_⟩
  refine q r l hw fun v1 e1 M1 F1 H1 s1 r1 g1 z => ?_
  have lk : ∀ {W : Option (Addr × Addr)}, Lnk X.K X0 F1 H1 W noX := fun _ _ _ _ _ _ _ _ _ h => h.elim
  refine q2 (r1.toRo) lk z fun v2 e2 M2 F2 H2 s2 r2 g2 z2 => ?_
  refine ⟨v1, v2, rfl, ?_⟩
  have af := r2.after
  have rel := r1.of_after af r2.wel
  have g1' := g1.after (wl := M2.wl) r1 af
  have g2' := PVal.back (wl := M2.wl) r1 g2
  have rel2 := rel.setP (i := i) g1'
  refine E.nx _ _ _ _ (s1.trans s2) (rel2.setP (i := j) (PVal.set g1' (fun p hp d hd hn => ?_) g2 g2')) z2
  subst hp hd
  obtain ⟨p', e', f⟩ := g1
  cases e'
  obtain ⟨u, hu⟩ := f.at_.there
  rw [hn] at hu; cases hu
end
end DL

/-! DL17: names for the printer's sake; the law's frame in short. -/
namespace DL
open PySem PySem.Spec L2 PyProof.Rows
def uBrk : WS := fun _ De M => De.bk M
def uCnt : WS := fun _ De M => De.ct M
def psC (wa wb : WE) (wp : WPs) : WPs := fun xn M Q => wa xn M fun d M1 => wb xn M1 fun e M2 => wp xn M2 fun ps M3 => Q ((d, e) :: ps) M3
def psN : WPs := fun _ M Q => Q [] M
def wRep (oa ob : WO) : WE := fun xn M Q => oa xn M fun x M1 => ob xn M1 fun y M2 => match x.get M2, y.get M2 with
    | some (.list i), some (.int j) => (j < 2 ^ 62 ∧ -(2 ^ 62) < j ∧ i.length * j.toNat ≤ sizeLine) ∧ Q (.list (repL j.toNat i)) M2
    | _, _ => False
def plN : WP := fun _ M Q => Q none M
section
variable {X : Cx} {R : XP} {K : PySem.W.Frag} {e a b c : Expr} {pos : Pos} {wa wb : WE} {oa ob : WO}
theorem dS_brk : DS X R (.Break pos) uBrk := dS_break
theorem dS_cnt : DS X R (.Continue pos) uCnt := dS_cont
theorem dQ_n : DPs X R pos [] [] psN := dPs_n
theorem dQ_c {ks : List (Option Expr)} {vs : List Expr} {wp : WPs} (h1 : DE X R a wa) (h2 : DE X R b wb) (h3 : DPs X R pos ks vs wp) : DPs X R pos (some a :: ks) (b :: vs) (psC wa wb wp) := dPs_c h1 h2 h3
theorem dF_repp (ha : DO X R a oa) (hb : DO X R b ob) : DF X R (.BinOp a .Mult b pos) (wRep oa ob) := dF_rep ha hb
theorem dP_no : DP X R none plN := dP_n
theorem dF_cmp {tg iter elt : Expr} {ifs : List Expr} {scope : Scope} {w : WI} {g : WG} {tt : WT} {te : WE} {is vs : List Nat} (own : List (Str × Nat)) (hc : X.calm = true) (hN : X.N.Nodup) (hi : DI X R tg iter w) (N : List Str) (sc : Scope) (ok : blkC N sc scope own = true)
    (hg : ∀ i : BI, DG (blkX X scope i) tg is g) (ht : ∀ i : BI, DTs (blkX X scope i) X0 ifs tt) (he : ∀ i : BI, DE (blkX X scope i) X0 elt te)
    (eN : X.N = N := by rfl) (es : X.env.scope = sc := by rfl) (hvs : own.map (·.2) = vs := by rfl) (hin : ∀ i ∈ is, i ∈ vs := by decide) (hs : ∀ x, foldedSetIterable iter X.env x = pure x := by intro _; rfl) : DF X R (.ListComp elt [⟨tg, iter, ifs, 0⟩] scope pos) (wComp vs w g tt te) := by
  subst hvs eN es
  exact dF_comp hc hN hi (blkOk_by ok) hg ht he hin hs
theorem dS_cmp {i : Nat} {y : Str} {py spos : Pos} {tg iter elt : Expr} {ifs : List Expr} {scope : Scope} {w : WI} {g : WG} {tt : WT} {te : WE} {is vs : List Nat} (own : List (Str × Nat)) (hc : X.calm = true) (hN : X.N.Nodup) (hy : X.N[i]? = some y) (hyl : X.env.scope.names.lookup y = some .local)
    (hsw : swapsWith (.ListComp elt [⟨tg, iter, ifs, 0⟩] scope pos) (some (.Name y py)) spos.line X.env = pure true) (hi : DI X R tg iter w) (N : List Str) (sc : Scope) (ok : blkC N sc scope own = true)
    (hg : ∀ i : BI, DG (blkX X scope i) tg is g) (ht : ∀ i : BI, DTs (blkX X scope i) X0 ifs tt) (he : ∀ i : BI, DE (blkX X scope i) X0 elt te)
    (eN : X.N = N := by rfl) (es : X.env.scope = sc := by rfl) (hvs : own.map (·.2) = vs := by rfl) (hin : ∀ i ∈ is, i ∈ vs := by decide) (hs : ∀ x, foldedSetIterable iter X.env x = pure x := by intro _; rfl) : DS X R (.Assign [.Name y py] (.ListComp elt [⟨tg, iter, ifs, 0⟩] scope pos) spos) (uAsgO (wComp vs w g tt te) i) := by
  subst hvs eN es
  exact dS_comp hc hN hy hyl hsw hi (blkOk_by ok) hg ht he hin hs
end
/-! what is looked at step by step: continuations are left alone (nothing rewrites what a later argument's type speaks of) -/
inductive Lock {α : Sort _} (a : α) : Type
  | mk
def callG (g : GSpec) (args : List Arg) (wl : Option Wel) (Q : PyData → Option Wel → Prop) (_ : Lock Q) : Prop := g args wl Q
theorem wCall_eq {g : GSpec} {as : WA} {xn : Xn} {M : Mem} {Q : QD} : wCall g as xn M Q = as xn M fun xs M1 => callG g xs M1.wl (fun d wl => Q d ⟨M1.env, wl⟩) .mk := rfl
theorem wCallK_eq {g : GSpec} {pi : List Nat} {as : WA} {xn : Xn} {M : Mem} {Q : QD} : wCallK g pi as xn M Q = as xn M fun xs M1 => callG g (perm pi xs) M1.wl (fun d wl => Q d ⟨M1.env, wl⟩) .mk := rfl
def forL (ks : List Nat) (g : WG) (tb : WS) (xn : Xn) (De : DEn) (_ : Lock De) (ds : List PyData) (M : Mem) : Prop := forW ks g tb xn De ds M
theorem uFor_eq {ks : List Nat} {wi : WI} {g : WG} {tb : WS} {xn : Xn} {De : DEn} {M : Mem} : uFor ks wi g tb xn De M = wi xn M fun ds M1 => forL ks g tb xn De .mk ds M1 := rfl
def compL (vs : List Nat) (g : WG) (tt : WT) (te : WE) (env : List (Option Ent)) (ds : List PyData) (wl : Option Wel) (Q : List PyData → Option Wel → Prop) (_ : Lock Q) : Prop := compW vs g tt te (fun _ _ => False) env ds wl Q
theorem wComp_eq {vs : List Nat} {wi : WI} {g : WG} {tt : WT} {te : WE} {xn : Xn} {M : Mem} {Q : QD} : wComp vs wi g tt te xn M Q = wi xn M fun ds M1 => ds.length ≤ sizeLine ∧ compL vs g tt te M1.env ds M1.wl (fun ys wl => Q (.list ys) ⟨M1.env, wl⟩) .mk := rfl
def whileL (ks : List Nat) (tc : WT) (tb : WS) (xn : Xn) (De : DEn) (_ : Lock De) (M : Mem) : Prop := uWhile ks tc tb xn De M
theorem uWhile_eq {ks : List Nat} {tc : WT} {tb : WS} {xn : Xn} {De : DEn} {M : Mem} : uWhile ks tc tb xn De M = whileL ks tc tb xn De .mk M := rfl
def seqL (u v : WS) (xn : Xn) (De : DEn) (_ : Lock De) (M : Mem) : Prop := uSeqM u v xn De M
theorem uSeqM_eq {u v : WS} {xn : Xn} {De : DEn} {M : Mem} : uSeqM u v xn De M = seqL u v xn De .mk M := rfl
theorem seq_i {u v : WS} {xn : Xn} {De : DEn} {l : Lock De} {M : Mem} (Mid : Mem → Prop) (h1 : u xn { De with nx := Mid } M) (h2 : ∀ M', Mid M' → v xn De M') : seqL u v xn De l M := ⟨Mid, h1, h2⟩
theorem for_i {ks : List Nat} {g : WG} {tb : WS} {xn : Xn} {De : DEn} {l : Lock De} {ds : List PyData} {M : Mem} (I : Nat → Mem → Prop) (h0 : I 0 M)
    (hs : ∀ i d M', ds[i]? = some d → I i M' → g d (M'.kill ks) fun M1 => tb xn { nx := I (i + 1), rt := De.rt, bk := fun M'' => De.nx (M''.kill ks), ct := I (i + 1) } M1) (he : ∀ M', I ds.length M' → De.nx (M'.kill ks)) : forL ks g tb xn De l ds M := ⟨I, h0, hs, he⟩
theorem while_i {ks : List Nat} {tc : WT} {tb : WS} {xn : Xn} {De : DEn} {l : Lock De} {M : Mem} (I : Nat → Mem → Prop) (m : Nat) (h0 : I m (M.kill ks))
    (hs : ∀ m M, I m M → tc xn M fun b M1 => if b = true then
      tb xn { nx := fun M' => ∃ m', m' < m ∧ I m' (M'.kill ks), rt := De.rt, bk := fun M' => De.nx (M'.kill ks), ct := fun M' => ∃ m', m' < m ∧ I m' (M'.kill ks) } M1 else De.nx M1) : whileL ks tc tb xn De l M := ⟨I, ⟨m, h0⟩, hs⟩
theorem comp_i {vs : List Nat} {g : WG} {tt : WT} {te : WE} {env : List (Option Ent)} {ds : List PyData} {wl : Option Wel} {Q : List PyData → Option Wel → Prop} {l : Lock Q} (I : Nat → List PyData → Option Wel → Prop) (h0 : I 0 [] wl)
    (hs : ∀ i d ys wl', ds[i]? = some d → I i ys wl' → g d ((Mem.mk env wl').ro.kill vs) fun M1 => tt (fun _ _ => False) M1 fun b M2 => if b = true then te (fun _ _ => False) M2 fun y M3 => I (i + 1) (ys ++ [y]) M3.wl else I (i + 1) ys M2.wl)
    (he : ∀ ys wl', I ds.length ys wl' → Q ys wl') : compL vs g tt te env ds wl Q l := ⟨I, h0, hs, he⟩
theorem comp_map {vs : List Nat} {g : WG} {te : WE} {env : List (Option Ent)} {ds : List PyData} {wl : Option Wel} {Q : List PyData → Option Wel → Prop} {l : Lock Q} (f : PyData → PyData)
    (h : ∀ d ∈ ds, ∀ P : PyData → Option Wel → Prop, P (f d) wl → g d ((Mem.mk env wl).ro.kill vs) fun M1 => te (fun _ _ => False) M1 fun y M3 => P y M3.wl) (hq : Q (ds.map f) wl) : compL vs g ttY te env ds wl Q l := compW_map f h hq
theorem comp_filter {vs : List Nat} {g : WG} {tt : WT} {te : WE} {env : List (Option Ent)} {ds : List PyData} {wl : Option Wel} {Q : List PyData → Option Wel → Prop} {l : Lock Q} (f : PyData → PyData) (p : PyData → Bool)
    (h : ∀ d ∈ ds, ∀ P : PyData → Option Wel → Prop, ∀ P2 : Option Wel → Prop, (p d = true → P (f d) wl) → (p d = false → P2 wl) → g d ((Mem.mk env wl).ro.kill vs) fun M1 => tt (fun _ _ => False) M1 fun b M2 => if b = true then te (fun _ _ => False) M2 fun y M3 => P y M3.wl else P2 M2.wl) (hq : Q ((ds.filter p).map f) wl) : compL vs g tt te env ds wl Q l := compW_filter f p h hq
end DL

/-! DL18: orders of data that are alike, pop(i), list(text), replace where a token is out. -/
namespace DL
open PySem PySem.Spec L2 PyProof.Rows
open PySem.W (alike dataLt gt_data lt_data le_data ge_data)
section
variable {X : Cx} {R : XP} {K : PySem.W.Frag} {e a b c tg iter : Expr} {es : List Expr} {st : Stmt} {rest body : List Stmt} {pos : Pos} {wa wb wc : WE} {oa ob oc : WO} {u v : WS}
/-! orders -/
def Alk (x y : PyData) : Prop := flat x = true ∧ flat y = true ∧ alike x y = true ∧ x ≠ .none ∧ x.depth ≤ 64
abbrev rCmpD (K : PySem.W.Frag) (f : PyData → PyData → Bool) : R2 := fun x y H Q => ∃ dx dy, Dp K H x dx ∧ Dp K H y dy ∧ alike dx dy = true ∧ dx ≠ .none ∧ dx.depth ≤ 64 ∧ Q (.bl (f dx dy)) H
theorem dCmpD {f : PyData → PyData → Bool} : DOp K (rCmpD K f) (fun x y Q => Alk x y ∧ Q (.bool (f x y))) := by
  intro F H vx vy dx dy Qd k s hx hy h kk
  obtain ⟨⟨h1, h2, h3, h4, h5⟩, h⟩ := h
  exact ⟨dx, dy, hx.dp s h1, hy.dp s h2, h3, h4, h5, kk _ _ _ _ (.refl s) (.bl _) h⟩
theorem op_gtDt (hu : X.A.units + 64 < cLine) : OpR X (compareOp .Gt) (rCmpD X.K fun x y => dataLt y x) := by
  intro pins s σ H x y u v Q I rx ry h
  obtain ⟨dx, dy, h1, h2, h3, h4, h5, q⟩ := h
  obtain ⟨as, ra⟩ := Dp.reads I dx x u h1 rx
  obtain ⟨bs, rb⟩ := Dp.reads I dy y v h2 ry
  exact gt_data ra rb h3 h4 (by have : min dx.depth dy.depth ≤ dx.depth := Nat.min_le_left _ _; omega) ⟨.bl _, H, I, rfl, q⟩
theorem op_ltDt (hu : X.A.units + 64 < cLine) : OpR X (compareOp .Lt) (rCmpD X.K fun x y => dataLt x y) := by
  intro pins s σ H x y u v Q I rx ry h
  obtain ⟨dx, dy, h1, h2, h3, h4, h5, q⟩ := h
  obtain ⟨as, ra⟩ := Dp.reads I dx x u h1 rx
  obtain ⟨bs, rb⟩ := Dp.reads I dy y v h2 ry
  exact lt_data ra rb h3 h4 (by have : min dx.depth dy.depth ≤ dx.depth := Nat.min_le_left _ _; omega) ⟨.bl _, H, I, rfl, q⟩
theorem op_leDt (hu : X.A.units + 64 < cLine) : OpR X (compareOp .LtE) (rCmpD X.K fun x y => !dataLt y x) := by
  intro pins s σ H x y u v Q I rx ry h
  obtain ⟨dx, dy, h1, h2, h3, h4, h5, q⟩ := h
  obtain ⟨as, ra⟩ := Dp.reads I dx x u h1 rx
  obtain ⟨bs, rb⟩ := Dp.reads I dy y v h2 ry
  exact le_data ra rb h3 h4 (by have : min dx.depth dy.depth ≤ dx.depth := Nat.min_le_left _ _; omega) ⟨.bl _, H, I, rfl, q⟩
theorem op_geDt (hu : X.A.units + 64 < cLine) : OpR X (compareOp .GtE) (rCmpD X.K fun x y => !dataLt x y) := by
  intro pins s σ H x y u v Q I rx ry h
  obtain ⟨dx, dy, h1, h2, h3, h4, h5, q⟩ := h
  obtain ⟨as, ra⟩ := Dp.reads I dx x u h1 rx
  obtain ⟨bs, rb⟩ := Dp.reads I dy y v h2 ry
  exact ge_data ra rb h3 h4 (by have : min dx.depth dy.depth ≤ dx.depth := Nat.min_le_left _ _; omega) ⟨.bl _, H, I, rfl, q⟩
theorem DOp.or {r r' : R2} {f g : DF2} (p : PyData → PyData → Bool) (h : DOp K r f) (h' : DOp K r' g) : DOp K (fun x y H Q => r x y H Q ∨ r' x y H Q) (fun x y Q => if p x y = true then f x y Q else g x y Q) := by
  intro F H vx vy dx dy Qd k s hx hy z kk
  by_cases hp : p dx dy = true
  · simp only [hp, if_true] at z
    exact .inl (h s hx hy z kk)
  · simp only [hp] at z
    exact .inr (h' s hx hy z kk)
theorem DOp.orR {r r' : R2} {g : DF2} (h' : DOp K r' g) : DOp K (fun x y H Q => r x y H Q ∨ r' x y H Q) g := fun s hx hy z kk => .inr (h' s hx hy z kk)
def fGtD : DF2 := fun x y Q => match x, y with
  | .int i, .int j => Q (.bool (decide (j < i)))
  | x, y => Alk x y ∧ Q (.bool (dataLt y x))
def fLtD : DF2 := fun x y Q => match x, y with
  | .int i, .int j => Q (.bool (decide (i < j)))
  | x, y => Alk x y ∧ Q (.bool (dataLt x y))
def fLeD : DF2 := fun x y Q => match x, y with
  | .int i, .int j => Q (.bool (decide (i ≤ j)))
  | x, y => Alk x y ∧ Q (.bool (!dataLt y x))
def fGeD : DF2 := fun x y Q => match x, y with
  | .int i, .int j => Q (.bool (decide (j ≤ i)))
  | x, y => Alk x y ∧ Q (.bool (!dataLt x y))
abbrev rGtD (K : PySem.W.Frag) : R2 := fun x y H Q => (rI0 fun i j => .bl (decide (j < i))) x y H Q ∨ rCmpD K (fun x y => dataLt y x) x y H Q
abbrev rLtD (K : PySem.W.Frag) : R2 := fun x y H Q => (rI0 fun i j => .bl (decide (i < j))) x y H Q ∨ rCmpD K (fun x y => dataLt x y) x y H Q
abbrev rLeD (K : PySem.W.Frag) : R2 := fun x y H Q => (rI0 fun i j => .bl (decide (i ≤ j))) x y H Q ∨ rCmpD K (fun x y => !dataLt y x) x y H Q
abbrev rGeD (K : PySem.W.Frag) : R2 := fun x y H Q => (rI0 fun i j => .bl (decide (j ≤ i))) x y H Q ∨ rCmpD K (fun x y => !dataLt x y) x y H Q
theorem hGtD (hu : X.A.units + 64 < cLine) : OpR X (compareOp .Gt) (rGtD X.K) := op_gt.or (op_gtDt hu)
theorem hLtD (hu : X.A.units + 64 < cLine) : OpR X (compareOp .Lt) (rLtD X.K) := op_lt.or (op_ltDt hu)
theorem hLeD (hu : X.A.units + 64 < cLine) : OpR X (compareOp .LtE) (rLeD X.K) := op_le.or (op_leDt hu)
theorem hGeD (hu : X.A.units + 64 < cLine) : OpR X (compareOp .GtE) (rGeD X.K) := op_ge.or (op_geDt hu)
theorem dGtD : DOp K (rGtD K) fGtD := by
  intro F H vx vy dx dy Qd k s hx hy h kk
  unfold fGtD at h
  split at h
  · rename_i i j
    rw [hx.int, hy.int]
    exact .inl ⟨i, j, rfl, rfl, kk _ _ _ _ (.refl s) (.bl _) h⟩
  · exact .inr (dCmpD s hx hy h kk)
theorem dLtD : DOp K (rLtD K) fLtD := by
  intro F H vx vy dx dy Qd k s hx hy h kk
  unfold fLtD at h
  split at h
  · rename_i i j
    rw [hx.int, hy.int]
    exact .inl ⟨i, j, rfl, rfl, kk _ _ _ _ (.refl s) (.bl _) h⟩
  · exact .inr (dCmpD s hx hy h kk)
theorem dLeD : DOp K (rLeD K) fLeD := by
  intro F H vx vy dx dy Qd k s hx hy h kk
  unfold fLeD at h
  split at h
  · rename_i i j
    rw [hx.int, hy.int]
    exact .inl ⟨i, j, rfl, rfl, kk _ _ _ _ (.refl s) (.bl _) h⟩
  · exact .inr (dCmpD s hx hy h kk)
theorem dGeD : DOp K (rGeD K) fGeD := by
  intro F H vx vy dx dy Qd k s hx hy h kk
  unfold fGeD at h
  split at h
  · rename_i i j
    rw [hx.int, hy.int]
    exact .inl ⟨i, j, rfl, rfl, kk _ _ _ _ (.refl s) (.bl _) h⟩
  · exact .inr (dCmpD s hx hy h kk)
/-! xs.pop(i) -/
def wPopAt (i : Nat) (oa : WO) : WE := fun xn M Q => (∃ ds, M.env[i]? = some (some (.ow (.list ds)))) ∧ oa xn M fun o M1 => match o.get M1, M1.env[i]? with
  | some (.int j), some (some (.ow (.list ds))) => (-(2 ^ 62) ≤ j ∧ j < 2 ^ 62) ∧ match ixN ds.length j with
    | some n => match ds[n]? with
      | some d => Q d (M1.set i (.ow (.list (ds.eraseIdx n))))
      | none => False
    | none => False
  | _, _ => False
theorem dE_popAt {i : Nat} {x : Str} {xp apos : Pos} (h : DO X R e oa) (hN : X.N[i]? = some x := by rfl) (hv : Vis X.env.scope x := by first | exact Or.inl rfl | exact Or.inr (Or.inl rfl) | exact Or.inr (Or.inr rfl)) (hd : (x == ("__debug__" : Str)) = false := by decide)
    (hcd : (x == ("__classdict__" : Str)) = false := by decide)
    (hbase : attributeBase (.Name x xp) "pop" X.env (eval (.Name x xp) X.env) = eval (.Name x xp) X.env := by rfl)
    (hfew : ((backTo pos (starEach [e] X.env)).all (fun x => !x.1) && (backToKw pos (keywordEach [] X.env)).all (fun x => x.1.isSome)
      && decide ([e].length + ([] : List Keyword).length + (if ([] : List Keyword).isEmpty then 0 else 1) < 30)) = true := by rfl)
    (hline : (apos.endLine == pos.line) = true := by rfl) (hs : starEach [e] X.env = (false, eval e X.env) :: starEach [] X.env := by rfl) (hplain : (backTo pos (starEach [] X.env)).any (·.1) = false := by rfl) :
    DE X R (.Call (.Attribute (.Name x xp) "pop" apos) [e] [] pos) (wPopAt i oa) := by
  obtain ⟨t, p, q⟩ := h.ex
  refine ⟨_, pe_bm PySem.F.plainAttrs_list PySem.F.slot_list_pop PySem.F.type_list_pop mt_popAt (pe_var (i := i) hN hv hd hcd) (pa_cons p pa_nil hs) hbase hfew hline hs hplain, fun {F0 H0 F H W M σ xn Q k} r l hw kk => ?_⟩
  obtain ⟨⟨ds0, e0⟩, hw⟩ := hw
  obtain ⟨p0, vs0, s0, h0, _⟩ := r.owL e0
  refine ⟨.ref p0, s0, .inl ⟨rfl, _, SqL.of h0⟩, q r l hw fun v o M1 F1 H1 s1 r1 ho z => ?_⟩
  split at z
  · rename_i j ds eo e1
    obtain ⟨⟨b1, b2⟩, z⟩ := z
    split at z
    · rename_i n en
      split at z
      · rename_i d ed
        obtain ⟨p1, vs, s1', h1, d1⟩ := r1.owL e1
        rw [s0] at s1'
        cases s1'
        obtain ⟨w, g1, g2⟩ := d1.get ed
        rw [(r1.opd ho eo).int]
        refine ⟨p0, vs, j, n, w, rfl, rfl, h1, by omega, by omega, by rw [d1.len]; exact (ixN_seq en).1, g1, ?_⟩
        exact kk _ _ _ _ _ s1 (r1.writeOw e1 s0 (.lst upd_same (d1.erase n))) g2 z
      · exact z.elim
    · exact z.elim
  · exact z.elim
/-! list(text) -/
theorem call_listS (hc : X.calm = true) : CallR X (.type "list") (fun xs H Q => ∃ z : Str, xs = [V.str z] ∧ z.cps.toList.length ≤ sizeLine ∧ ∀ l, H l = none → Q (.ref l) (upd H l (.lst (z.cps.toList.map fun c => V.str (S [c]))))) := by
  intro pins s σ H xs us Q I r h
  obtain ⟨z, rfl, hz, q⟩ := h
  obtain ⟨u, rfl, rx⟩ := vals1 r
  obtain ⟨t, rfl⟩ := rx
  refine call_list_str (I.ok.hd hc) z t (fun h' tk acc' c' kp e its => ?_) (by simpa using hz)
  have hv : Vals (z.cps.toList.map fun c => V.str (S [c])) acc'.toList := by
    obtain ⟨h1, h2⟩ := its
    have key : ∀ (l : List Nat) (us : List Value), us.length = l.length → (∀ (j : Nat) (v : Value), us[j]? = some v → ∃ (c : Nat) (u : Tok), l[j]? = some c ∧ v = Value.str ⟨#[c]⟩ u) → Vals (l.map fun c => V.str (S [c])) us := by
      intro l
      induction l with
      | nil => intro us h _; cases us with
        | nil => exact .nil
        | cons _ _ => simp at h
      | cons c l ih =>
        intro us h hh
        cases us with
        | nil => simp at h
        | cons u us =>
          obtain ⟨c', t', e1, e2⟩ := hh 0 u rfl
          simp at e1
          subst e1
          refine .cons ⟨t', e2⟩ (ih us (by simpa using h) fun j v hj => ?_)
          obtain ⟨c', t', e1, e2⟩ := hh (j + 1) v (by simpa using hj)
          exact ⟨c', t', by simpa using e1, e2⟩
    refine key _ _ (by simpa using h1) fun j v hj => ?_
    obtain ⟨c, t', e1, e2⟩ := h2 j v (by simpa using hj)
    exact ⟨c, t', by simpa using e1, e2⟩
  exact ⟨.ref s.heap.objs.size, _, I.laid (t' := tk) kp (Nat.le_refl _) (show ObjOk X.prog X.w _ h' _ (.lst _) from ⟨by simpa using hz, acc'.toList, c', hv, by simpa using e⟩), rfl, q _ (I.hok.fresh (Nat.le_refl _))⟩
def wListA (os : WOs) : WE := fun xn M Q => os xn M fun xs M1 => match getAll xs M1 with
  | some [.list l] => Q (.list l) M1
  | some [.tuple l] => Q (.list l) M1
  | some [.str z] => z.cps.toList.length ≤ sizeLine ∧ Q (.list (z.cps.toList.map fun c => .str (S [c]))) M1
  | _ => False
theorem dF_listA {x : Str} {p : Pos} {os : WOs} (hc : X.calm = true) (hg : Gl X x) (hm : X.mg x = none) (hv : bootBuiltins x = some (.type "list")) (ha : DOs X R [e] os) (hn : x ≠ "__name__" := by decide) (hdb : (x == ("__debug__" : Str)) = false := by decide)
    (he : starEach [e] X.env = (false, eval e X.env) :: starEach [] X.env := by rfl) (hpl : (backTo pos (starEach [] X.env)).any (·.1) = false := by rfl) : DF X R (.Call (.Name x p) [e] [] pos) (wListA os) := by
  obtain ⟨t, q, z⟩ := ha.ex
  refine ⟨_, pe_callTy (call_list_of.or (call_listS hc)) hg hm hv q hn hdb he hpl, fun r l hw kk => z r l hw fun vs os M1 F1 H1 s1 r1 hx y => ?_⟩
  split at y
  · rename_i e1
    obtain ⟨v, rfl, h1⟩ := (views_of r1 hx e1).one
    obtain ⟨p, vs, rfl, a1, a2⟩ := h1.list r1.sub
    refine .inl ⟨p, vs, rfl, .inl (SqL.of a1), fun l hl => ?_⟩
    obtain ⟨r2, f2⟩ := r1.isFresh (o := .lst vs) (d := .list _) hl (.lst upd_same a2)
    exact kk _ _ _ _ _ s1 r2 f2 y
  · rename_i e1
    obtain ⟨v, rfl, h1⟩ := (views_of r1 hx e1).one
    obtain ⟨p, vs, rfl, a1, a2⟩ := h1.tup r1.sub
    refine .inl ⟨p, vs, rfl, .inr a1, fun l hl => ?_⟩
    obtain ⟨r2, f2⟩ := r1.isFresh (o := .lst vs) (d := .list _) hl (.lst upd_same a2)
    exact kk _ _ _ _ _ s1 r2 f2 y
  · rename_i z e1
    obtain ⟨v, rfl, h1⟩ := (views_of r1 hx e1).one
    rw [h1.str]
    have a2 : DVs X.K F1 (z.cps.toList.map fun c => V.str (S [c])) (z.cps.toList.map fun c => PyData.str (S [c])) := by
      have := DVs.ofStrs (K := X.K) (F := F1) (ns := z.cps.toList.map fun c => S [c])
      rw [List.map_map, List.map_map] at this
      exact this
    refine .inr ⟨z, rfl, y.1, fun l hl => ?_⟩
    obtain ⟨r2, f2⟩ := r1.isFresh (o := .lst _) (d := .list _) hl (.lst upd_same a2)
    exact kk _ _ _ _ _ s1 r2 f2 y.2
  · exact y.elim
/-! where a token is out -/
structure DSsT (X : Cx) (R : XP) (st : List Stmt) (u : WS) : Prop where
  ex : ∃ t : TS, PSsT X st t ∧ ∀ {F0 H0 F H : Hp} {W : Option (Addr × Addr)} {M : Mem} {σ : List (Option V)} {xn : Xn} {De : DEn} {D : Ends}, Rel X.K F0 H0 W M σ F H → Lnk X.K R F0 H0 W xn → u xn De M → EndsR X.K F0 H0 F W De D → t D σ H
structure DET (X : Cx) (R : XP) (e : Expr) (w : WE) : Prop where
  ex : ∃ t : TE, PET X e t ∧ ∀ {F0 H0 F H : Hp} {W : Option (Addr × Addr)} {M : Mem} {σ : List (Option V)} {xn : Xn} {Q : QD} {k : VK}, Rel X.K F0 H0 W M σ F H → Lnk X.K R F0 H0 W xn → w xn M Q →
    (∀ v d M' F' H', Same F F' → Rel X.K F0 H0 W M' σ F' H' → DV X.K F' v d → Q d M' → k v H') → t σ H k
theorem dT_of (h : DSs X R rest u) : DSsT X R rest u := by
  obtain ⟨t, p, q⟩ := h.ex
  exact ⟨t, .of p, q⟩
theorem dT_c (h : DS X R st u) (h2 : DSsT X R rest v) : DSsT X R (st :: rest) (uSeq u v) := by
  obtain ⟨t, p, q⟩ := h.ex
  obtain ⟨t2, p2, q2⟩ := h2.ex
  refine ⟨_, psst_cons (.of p) p2, fun r l hw E => q r l hw ⟨fun M' σ' F' H' s r' z => ?_, E.rt, E.bk, E.ct⟩⟩
  exact q2 r' l z (E.same s)
theorem dT_m (h : DS X R st u) (h2 : DSsT X R rest v) : DSsT X R (st :: rest) (uSeqM u v) := by
  obtain ⟨t, p, q⟩ := h.ex
  obtain ⟨t2, p2, q2⟩ := h2.ex
  refine ⟨_, psst_cons (.of p) p2, fun r l hw E => ?_⟩
  obtain ⟨Mid, h1, h2⟩ := hw
  exact q r l h1 ⟨fun M' σ' F' H' s r' z => q2 r' l (h2 _ z) (E.same s), E.rt, E.bk, E.ct⟩
theorem dET_e (h : DE X R e wa) : DET X R e wa := by
  obtain ⟨t, p, q⟩ := h.ex
  exact ⟨t, fun pins s σ H Q _ I hw => p.run pins s σ H Q I hw, q⟩
/-- e.replace(one written text, another) -/
def wRpl (wa : WE) (y z : Str) : WE := fun xn M Q => wa xn M fun d M1 => match d with
  | .str x => (y ≠ z ∧ x.cps.toList.length + (x.cps.toList.length + 1) * z.cps.toList.length ≤ 16777216) ∧ Q (.str (Txt.replace x y z)) M1
  | _ => False
theorem dET_rpl {y z : Str} {j0 j1 : Nat} {c0 c1 apos : Pos} (h : DET X R e wa)
    (hst : starEach [.Constant (.str y) j0 c0, .Constant (.str z) j1 c1] X.env = [(false, eval (.Constant (.str y) j0 c0) X.env), (false, eval (.Constant (.str z) j1 c1) X.env)] := by rfl)
    (hbase : attributeBase e "replace" X.env (eval e X.env) = eval e X.env := by rfl) (hline : (apos.endLine == pos.line) = true := by rfl) :
    DET X R (.Call (.Attribute e "replace" apos) [.Constant (.str y) j0 c0, .Constant (.str z) j1 c1] [] pos) (wRpl wa y z) := by
  obtain ⟨t, p, q⟩ := h.ex
  refine ⟨fun σ H Q => t σ H fun v H1 => ∃ x, v = .str x ∧ (y ≠ z ∧ x.length + (x.length + 1) * z.length ≤ 16777216) ∧ Q (.str (Txt.replace x y z)) H1, fun pins s σ H Q h0 I hw => ?_, fun r l hw kk => q r l hw fun v d M1 F1 H1 s1 r1 dv y => ?_⟩
  · refine PySem.Call_method2 hbase hst hline (wpAny_mono (PySem.wpAny_toks (p pins s σ H _ h0 I hw)) (fun v s1 q => ?_) fun _ _ x => x.2)
    obtain ⟨hk, x, H1, I1, r1, w, rfl, ⟨hyz, hb⟩, q⟩ := q
    obtain ⟨tx, rfl⟩ := r1
    refine ⟨"str", _, F.plainAttrs_str, F.slot_str_replace, F.type_str_replace, typeIs_str _ _ _, (fun _ e => nomatch e), Calls.callWith_builtin rfl (Calls.evalArgs_plain (Calls.spliced_cons (Calls.Constant_str ?_)))⟩
    refine Calls.spliced_cons (Calls.Constant_str (Calls.spliced_nil ?_))
    exact PySem.SC.replace (show s1.toks ≠ 0 by omega) (show s1.toks + 1 ≠ 0 by omega) (show s1.toks ≠ s1.toks + 1 by omega) (beq_eq_false_iff_ne.mpr hyz) hb fun t' k => ⟨.str (Txt.replace w y z), H1, I1.tok k, ⟨t', rfl⟩, q⟩
  · cases dv with
    | str x => exact ⟨x, rfl, ⟨y.1.1, by rw [strLen, strLen]; exact y.1.2⟩, kk _ _ _ _ _ s1 r1 (.str _) y.2⟩
    | _ => exact y.elim
theorem dT_set {i : Nat} {x : Str} {pos' : Pos} (hN : X.N.Nodup) (hi : X.N[i]? = some x) (hx : Loc X.env.scope x) (h : DET X R e wa) (h2 : DSsT X R rest v) (hs : swapsWith e (some (.Name x pos')) pos.line X.env = pure false := by rfl) (hf : X.fn x = true ∨ X.env.scope.names.lookup x = some .local := by first | exact .inl rfl | exact .inr rfl | assumption) :
    DSsT X R (.Assign [.Name x pos'] e pos :: rest) (uSeq (uAsg wa (gSet i)) v) := by
  obtain ⟨t, p, q⟩ := h.ex
  obtain ⟨t2, p2, q2⟩ := h2.ex
  refine ⟨tSeq (tAsg t (gName i)) t2, psst_cons (fun pins s σ H D h0 I hw => ?_) p2, fun r l hw E => q r l hw fun v d M1 F1 H1 s1 r1 dv z => ?_⟩
  · refine wpAny_Assign_Name (thn (p pins s σ H _ h0 I hw) fun v s1 ⟨w, H1, I1, r1, q1⟩ => ?_) hs
    exact store_ok I1 hN hi hx r1 (fun s2 I2 => ⟨_, H1, I2, q1⟩) hf
  · exact q2 (r1.setIm dv) l z (E.same s1)
end
end DL

/-! DL19: for over a range: behind it a token is out. -/
namespace DL
open PySem PySem.Spec L2 PyProof.Rows
section
variable {X : Cx} {R : XP} {tg iter a : Expr} {body : List Stmt} {pos : Pos}
def PIK (X : Cx) (tg iter : Expr) (wi : TI) : Prop := ∀ (pins : List (Addr × Obj)) (s : Shared) (σ : List (Option V)) (H : Hp) (R : It → Hp → Prop), Inv X pins σ H s → wi σ H R →
    wpAny (model X.prog X.w) X.A (eval iter X.env) (fun v s1 => wpAny (model X.prog X.w) X.A (pyIter v) (fun it s2 => 1 ≤ s2.toks ∧ PIE X pins σ tg R it s2) X.xe s1) X.xe s
theorem pik_range1 {ta : TA} {p : Pos} (hg : Gl X "range") (hm : X.mg "range" = none) (ha : PA X [a] ta) (hs : starEach [a] X.env = [(false, eval a X.env)] := by rfl) : PIK X tg (.Call (.Name "range" p) [a] [] pos) (iRng1 ta) := by
  intro pins s σ H R I h
  refine Call_ (ld_blt I hg hm boot_range (PyProof.Rows.callWith_type1 (thn (ha.run pos pins s σ H _ I h) fun us s1 ⟨vs, H1, I1, r1, q1⟩ => ?_) hs rfl))
  obtain ⟨j, e, b1, b2, q⟩ := q1
  subst e
  cases r1 with
  | cons r rr =>
    cases rr
    obtain ⟨t, rfl⟩ := r
    exact call_range_1 (wpAny_mono (PySem.wpAny_toks_of (n := 1) (show 1 ≤ s1.toks + 1 + 1 by omega) (range_it I1 (by omega) (by omega) b1 b2 (by simpa using q))) (fun _ _ h => h) fun _ _ h => h.2)
/-- a for whose body may lean on a token's being out -/
theorem psk_for {wi : TI} {g : TG} {tb : TS} (hp : PassesOwn (model X.prog X.w) X.A X.env X.xe) (hc : X.calm = true) (hi : PIK X tg iter wi) (hg : PG X tg g) (hb : PSsT X body tb)
    (hs : ∀ x, foldedSetIterable iter X.env x = pure x := by intro _; rfl) : PS X (.For tg iter body [] pos) (tFor wi g tb) := by
  refine ⟨fun pins s σ H D I h => ?_⟩
  refine wpAny_For (thn (hi pins s σ H _ I h) fun v s1 h1 => thn h1 fun itv s2 h2 => ?_) hs
  obtain ⟨k2, it, fp, tn, J, H2, e, I2, T, st2, f2, W, ⟨m0, w0⟩, turn⟩ := h2
  subst e
  have stat : ∀ {Hx : Hp}, (∀ b ∈ fp, Hx b = none) → ∀ b ∈ fp, FpOk X pins Hx b := fun hn b hb => ⟨hn b hb, (f2 b hb).2⟩
  refine codeAny_forLoop_any (fun n sx => 1 ≤ sx.toks ∧ ∃ i σx Hx, Inv X pins σx Hx sx ∧ tn i sx.heap ∧ (∀ b ∈ fp, Hx b = none) ∧ W i n σx Hx) ?_ m0 ⟨k2, 0, σ, H2, I2, st2, fun b hb => (f2 b hb).1, w0⟩
  rintro n s3 ⟨k3, i, σ3, H3, I3, st3, fr3, w3⟩
  rcases turn i n σ3 H3 w3 with ⟨stop, qn⟩ | ⟨go, N, hN, step⟩
  · refine wpAny_passesOwn hp (thn (T.done X rfl rfl rfl hc i pins s3 σ3 H3 X.xe I3 (stat fr3) st3 stop) fun r s4 ⟨hr, I4⟩ => ?_)
    subst hr
    exact wpAny_execs_nil ⟨σ3, H3, I4, qn⟩
  · have dropE : ∀ {α : Type} {t : Sem α} {Q : α → Shared → Prop} {E : Value → Shared → Prop} {sx : Shared}, 1 ≤ sx.toks → wpAny (model X.prog X.w) X.A t Q E sx → wpAny (model X.prog X.w) X.A t (fun a s' => 1 ≤ s'.toks ∧ Q a s') E sx :=
      fun hk h => wpAny_mono (PySem.wpAny_toks_of hk h) (fun _ _ h => h) fun _ _ h => h.2
    refine wpAny_passesOwn hp (thn (dropE k3 (T.item X rfl rfl rfl hc i pins s3 σ3 H3 X.xe I3 (stat fr3) st3 go)) fun r s4 ⟨k4, u, hr, h4⟩ => ?_)
    subst hr
    refine wpAny_passesOwn hp (thn (dropE k4 h4) fun _ s5 ⟨k5, x, H5, I5, r5, y5, st5, fr5⟩ => ?_)
    have I6 := I5.pinned (stat fr5) (T.obj _ _ st5)
    refine wpAny_passesOwn hp (thn (dropE k5 (hg.run _ s5 σ3 H5 x u _ I6 r5 (step x H5 y5))) fun _ s6 ⟨k6, σ6, H6, I7, q6⟩ => ?_)
    refine wpAny_passesOwn hp (thn (dropE k6 (hb _ s6 σ6 H6 _ k6 I7 q6)) fun f s7 ⟨k7, q7⟩ => ?_)
    have again : ∀ {σ7 : List (Option V)} {H7 : Hp}, Inv X (pins ++ pinsAt fp s5.heap) σ7 H7 s7 → N σ7 H7 → ∃ m, m < n ∧ 1 ≤ s7.toks ∧ ∃ i σx Hx, Inv X pins σx Hx s7 ∧ tn i s7.heap ∧ (∀ b ∈ fp, Hx b = none) ∧ W i m σx Hx := fun {σ7 H7} I8 n7 => by
      obtain ⟨m1, hm, w7⟩ := hN σ7 H7 n7
      refine ⟨m1, hm, k7, i + 1, σ7, H7, I8.unpinned, T.keep _ _ _ st5 fun b hb o e => (I8.pin (b, o) (List.mem_append_right _ (List.mem_append_right _ (mem_pinsAt hb e)))).1, fun b hb => ?_, w7⟩
      obtain ⟨o, e, d⟩ := T.obj _ _ st5 b hb
      exact (I8.pin (b, o) (List.mem_append_right _ (List.mem_append_right _ (mem_pinsAt hb e)))).2.1
    cases f with
    | next => obtain ⟨σ7, H7, I8, n7⟩ := q7; exact again I8 n7
    | cont => obtain ⟨σ7, H7, I8, n7⟩ := q7; exact again I8 n7
    | brk => obtain ⟨σ7, H7, I8, q8⟩ := q7; exact ⟨σ7, H7, I8.unpinned, q8⟩
    | ret v => obtain ⟨x7, σ7, H7, I8, r7, q8⟩ := q7; exact ⟨x7, σ7, H7, I8.unpinned, r7, q8⟩
theorem dS_forT (ks : List Nat) {p : Pos} {os : WOs} {g : WG} {is : List Nat} {tb : WS} (hp : PassesOwn (model X.prog X.w) X.A X.env X.xe) (hc : X.calm = true) (hgl : Gl X "range") (hm : X.mg "range" = none) (ha : DOs X R [a] os) (hg : DG X tg is g) (hb : DSsT X R body tb)
    (h1 : starEach [a] X.env = [(false, eval a X.env)] := by rfl) (hs : ∀ x, foldedSetIterable (.Call (.Name "range" p) [a] [] pos) X.env x = pure x := by intro _; rfl) {fpos : Pos} : DS X R (.For tg (.Call (.Name "range" p) [a] [] pos) body [] fpos) (uFor ks (iR1 os) g tb) := by
  obtain ⟨t1, p1, q1⟩ := ha.ex
  obtain ⟨t2, p2, q2⟩ := hg.ex
  obtain ⟨t3, p3, q3⟩ := hb.ex
  refine ⟨_, psk_for hp hc (pik_range1 hgl hm p1 h1) p2 p3 (hs := hs), fun {F0 H0 F H W M σ xn De D} r l hw E => ?_⟩
  refine q1 r l hw fun vs xs M1 F1 H1 s1 r1 hx z => ?_
  have wk : ∀ {J : It} {ds : List PyData}, Walks X.K J F1 ds → forW ks g tb xn De ds M1 → ∃ Wv : Nat → Nat → List (Option V) → Hp → Prop, (∃ m, Wv 0 m σ H1) ∧ ∀ i m σ' H', Wv i m σ' H' → (J.stop i H' ∧ D.nx σ' H') ∨ (J.go i H' ∧ ∃ N : List (Option V) → Hp → Prop, (∀ σ'' H'', N σ'' H'' → ∃ m', m' < m ∧ Wv (i + 1) m' σ'' H'') ∧ ∀ x H'', J.yld i H' x H'' → t2 x σ' H'' fun σ2 H2 => t3 { D with nx := N, ct := N, bk := D.nx } σ2 H2) := by
    intro J ds wk z
    obtain ⟨I, z0, zs, ze⟩ := z
    refine ⟨fun i m σ' H' => ∃ M' F', i + m = ds.length ∧ Same F1 F' ∧ Rel X.K F0 H0 W M' σ' F' H' ∧ I i M', ⟨ds.length, M1, F1, by omega, .refl _, r1, z0⟩, fun i m σ' H' hW => ?_⟩
    obtain ⟨M', F', em, s2, r2, z2⟩ := hW
    cases hd : ds[i]? with
    | none =>
      have hl : ds.length ≤ i := List.getElem?_eq_none_iff.mp hd
      have : i = ds.length := by omega
      subst this
      exact .inl ⟨wk.stop F' H' s2 r2.sub, E.nx _ _ _ _ (s1.trans s2) (r2.kill ks) (ze _ z2)⟩
    | some d =>
      have hl : i < ds.length := (List.getElem?_eq_some_iff.mp hd).1
      have z2 := zs i d M' hd z2
      obtain ⟨g1, g2⟩ := wk.go i d F' H' hd s2 r2.sub
      refine .inr ⟨g1, fun σ'' H'' => ∃ M'' F'', Same F1 F'' ∧ Rel X.K F0 H0 W M'' σ'' F'' H'' ∧ I (i + 1) M'', fun σ'' H'' hN => ?_, fun x H'' hy => ?_⟩
      · obtain ⟨M'', F'', a1, a2, a3⟩ := hN
        exact ⟨m - 1, by omega, M'', F'', by omega, a1, a2, a3⟩
      · obtain ⟨F'', gr, dv⟩ := g2 x H'' hy
        have r3 := (r2.kill ks).grow gr
        refine q2 r3 dv z2 fun M3 σ3 _ r4 z3 => ?_
        have s4 := s2.trans gr.f
        refine q3 r4 l z3 ⟨fun Ma σa Fa Ha sa ra za => ⟨Ma, Fa, s4.trans sa, ra, za⟩, fun v d Ma σa Fa Ha sa ra dva za => E.rt _ _ _ _ _ _ (s1.trans (s4.trans sa)) ra dva za,
          fun Ma σa Fa Ha sa ra za => E.nx _ _ _ _ (s1.trans (s4.trans sa)) (ra.kill ks) za, fun Ma σa Fa Ha sa ra za => ⟨Ma, Fa, s4.trans sa, ra, za⟩⟩
  split at z
  · rename_i j e
    obtain ⟨v, rfl, hv⟩ := (views_of r1 hx e).one
    exact ⟨j, by rw [hv.int], z.1.1, z.1.2, wk walk_rng z.2⟩
  · exact z.elim
end
end DL

/-! DL20: ranges of three, three names at once, x += e, x in a list or a tuple. -/
namespace DL
open PySem PySem.Spec L2 PyProof.Rows
section
variable {X : Cx} {R : XP} {K : PySem.W.Frag} {e a b c tg iter : Expr} {es : List Expr} {pos : Pos} {wa wb wc : WE} {oa ob oc : WO}
/-! range(i, j, -1) -/
def rngC (lo c : Int) (n : Nat) : List PyData := (List.range n).map fun k => .int (lo + (k : Nat) * c)
theorem walk_rngC {F : Hp} {lo c : Int} {n : Nat} : Walks K (Itc lo c n) F (rngC lo c n) where
  stop := fun F' H' _ _ => by show n ≤ _; simp [rngC]
  go := fun i d F' H' e _ s' => by
    unfold rngC at e
    rw [List.getElem?_map] at e
    obtain ⟨z, hz, e⟩ := Option.map_eq_some_iff.mp e
    obtain ⟨hl, hc⟩ := List.getElem?_eq_some_iff.mp hz
    simp at hl hc
    subst hc
    subst e
    refine ⟨hl, fun x H'' y => ?_⟩
    obtain ⟨rfl, rfl⟩ := y
    exact ⟨F', Grow.refl s', .int _⟩
def iR3 (os : WOs) : WI := fun xn M Q => os xn M fun xs M1 => match getAll xs M1 with
  | some [.int i, .int j, .int c] => (c = -1 ∧ -(2 ^ 62) ≤ i ∧ i < 2 ^ 62 ∧ -(2 ^ 62) ≤ j ∧ j < 2 ^ 62) ∧ Q (rngC i (-1) (i - j).toNat) M1
  | _ => False
theorem dI_r3 {p : Pos} {os : WOs} (hg : Gl X "range") (hm : X.mg "range" = none) (h : DOs X R [a, b, c] os) (hs : starEach [a, b, c] X.env = (false, eval a X.env) :: starEach [b, c] X.env := by rfl) (hpl : (backTo pos (starEach [b, c] X.env)).any (·.1) = false := by rfl) : DI X R tg (.Call (.Name "range" p) [a, b, c] [] pos) (iR3 os) := by
  obtain ⟨t, p, q⟩ := h.ex
  refine ⟨_, pi_range3 hg hm p hs hpl, fun r l hw kk => q r l hw fun vs xs M1 F1 H1 s1 r1 hx z => ?_⟩
  split at z
  · rename_i i j k e
    obtain ⟨v, w, u, rfl, h1, h2, h3⟩ := (views_of r1 hx e).three
    obtain ⟨⟨rfl, b1, b2, b3, b4⟩, z⟩ := z
    exact ⟨i, j, -1, _, by rw [h1.int, h2.int, h3.int], RgC.neg b1 b2 b3 b4, kk _ _ _ _ _ s1 r1 walk_rngC z⟩
  · exact z.elim
/-! x += e, numbers -/
def uAug (i : Nat) (f : Int → Int → Int) (wa : WE) : WS := fun xn De M => (∃ d, M.env[i]? = some (some (.im d))) ∧ wa xn M fun d M1 => match M1.env[i]?, d with
  | some (some (.im (.int x))), .int y => M1.env[i]? = M.env[i]? ∧ De.nx (M1.set i (.im (.int (f x y))))
  | _, _ => False
theorem dS_aug {i : Nat} {x : Str} {op : Operator} {f : Int → Int → Int} {pos' : Pos} (hN : X.N.Nodup) (hi : X.N[i]? = some x) (hx : Loc X.env.scope x) (h : DE X R e wa) (ho : PIp X op (ipI f)) (hf : X.fn x = true ∨ X.env.scope.names.lookup x = some .local := by first | exact .inl rfl | exact .inr rfl | assumption) :
    DS X R (.AugAssign (.Name x pos') op e pos) (uAug i f wa) := by
  obtain ⟨t, p, q⟩ := h.ex
  refine ⟨_, ps_aug hN hi hx p ho hf, fun {F0 H0 F H W M σ xn De D} r l hw E => ?_⟩
  obtain ⟨⟨d0, e0⟩, hw⟩ := hw
  obtain ⟨u, hu, dv0⟩ := r.slt i _ e0
  refine ⟨u, hu, q r l hw fun v d M1 F1 H1 s1 r1 dv z => ?_⟩
  split at z
  · rename_i x y e1
    obtain ⟨z1, z2⟩ := z
    rw [e1, e0] at z1
    cases z1
    cases dv0
    cases dv
    exact ⟨x, y, rfl, rfl, E.nx _ _ _ _ s1 (r1.setIm (.int _)) z2⟩
  · exact z.elim
/-! three names at once -/
def uPar3 (i j l : Nat) (za zb zc : WZ) : WS := fun xn De M => za xn M fun d1 M1 => zb noX M1.ro fun d2 M2 => zc noX (Mem.ro ⟨M1.env, M2.wl⟩) fun d3 M3 => De.nx (((Mem.set ⟨M1.env, M3.wl⟩ i d1).set j d2).set l d3)
theorem dS_par3 {i j l : Nat} {x y z : Str} {px py pz pt : Pos} {kt k2 : Nat} {pt2 : Pos} {za zb zc : WZ} (hc : X.calm = true) (hN : X.N.Nodup) (hi : X.N[i]? = some x) (hj : X.N[j]? = some y) (hl : X.N[l]? = some z) (hij : i ≠ j) (hil : i ≠ l) (hjl : j ≠ l)
    (hx : X.env.scope.names.lookup x = some .local) (hy : X.env.scope.names.lookup y = some .local) (hz : X.env.scope.names.lookup z = some .local) (ha : DZ X R a za) (hb : DZ X X0 b zb) (hcc : DZ X X0 c zc)
    (hw : swappedStores [.Tuple [.Name x px, .Name y py, .Name z pz] kt pt] (.Tuple [a, b, c] k2 pt2) X.env = pure (some [x, y, z]) := by rfl)
    (hs : swapsWithSole [.Tuple [.Name x px, .Name y py, .Name z pz] kt pt] (.Tuple [a, b, c] k2 pt2) pos.line X.env = pure false := by rfl)
    (h1 : starEach [a, b, c] X.env = (false, eval a X.env) :: starEach [b, c] X.env := by rfl) (h2 : starEach [b, c] X.env = (false, eval b X.env) :: starEach [c] X.env := by rfl) (h3 : starEach [c] X.env = (false, eval c X.env) :: starEach [] X.env := by rfl) :
    DS X R (.Assign [.Tuple [.Name x px, .Name y py, .Name z pz] kt pt] (.Tuple [a, b, c] k2 pt2) pos) (uPar3 i j l za zb zc) := by
  obtain ⟨t, p, q⟩ := ha.ex
  obtain ⟨t2, p2, q2⟩ := hb.ex
  obtain ⟨t3, p3, q3⟩ := hcc.ex
  refine ⟨_, ps_par3 hc hN hi hj hl hij hil hjl hx hy hz (pa_cons p (pa_cons p2 (pa_cons p3 pa_nil h3) h2) h1) hw hs, fun {F0 H0 F H W M σ xn De D} r lk hw E => ?_⟩
  refine q r lk hw fun v1 e1 M1 F1 H1 s1 r1 g1 z => ?_
  have lk1 : ∀ {W : Option (Addr × Addr)}, Lnk X.K X0 F1 H1 W noX := fun _ _ _ _ _ _ _ _ _ h => h.elim
  refine q2 (r1.toRo) lk1 z fun v2 e2 M2 F2 H2 s2 r2 g2 z2 => ?_
  have af := r2.after
  have rel := r1.of_after af r2.wel
  have g1a := g1.after (wl := M2.wl) r1 af
  have g2a := PVal.back (wl := M2.wl) r1 g2
  have lk2 : ∀ {W : Option (Addr × Addr)}, Lnk X.K X0 F2 H2 W noX := fun _ _ _ _ _ _ _ _ _ h => h.elim
  refine q3 (rel.toRo) lk2 z2 fun v3 e3 M3 F3 H3 s3 r3 g3 z3 => ?_
  refine ⟨v1, v2, v3, rfl, ?_⟩
  have af3 := r3.after
  have rel3 := rel.of_after af3 r3.wel
  have g1b := g1a.after (wl := M3.wl) rel af3
  have g2b := g2a.after (wl := M3.wl) rel af3
  have g2c := g2.after (wl := M3.wl) r2 af3
  have g3b := PVal.back (wl := M3.wl) rel g3
  have there : ∀ {K : PySem.W.Frag} {Hb : Hp} {M : Mem} {σ : List (Option V)} {F H : Hp} {v : V} {e : Ent}, PVal K Hb W M σ F H v e → ∀ p, v = .ref p → ∀ d, e = .ow d → H p ≠ none := fun {K Hb M σ F H v e} g p hp d hd hn => by
    subst hp hd
    obtain ⟨p', e', f⟩ := g
    cases e'
    obtain ⟨u, hu⟩ := f.at_.there
    rw [hn] at hu; cases hu
  have relA := rel3.setP (i := i) g1b
  have g2A := PVal.set (i := i) g1b (there g1) g2c g2b
  have g3A := PVal.set (i := i) g1b (there g1a) g3 g3b
  have relB := relA.setP (i := j) g2A
  have g3B := PVal.set (i := j) g2A (there g2) g3 g3A
  exact E.nx _ _ _ _ (s1.trans (s2.trans s3)) (relB.setP (i := l) g3B) z3
/-! x in a list of data, in a tuple of texts or numbers -/
abbrev rInL (K : PySem.W.Frag) : R2 := fun x y H Q => rInD K x y H Q ∨ rIn K false x y H Q
abbrev rNinL (K : PySem.W.Frag) : R2 := fun x y H Q => rNotInD K x y H Q ∨ rIn K true x y H Q
theorem hInL (hu : X.A.units + 65 < cLine) : OpR X (compareOp .In) (rInL X.K) := (L2.op_inD hu).or op_in_seq
theorem hNinL (hu : X.A.units + 65 < cLine) : OpR X (compareOp .NotIn) (rNinL X.K) := (L2.op_notInD hu).or op_notIn_seq
end
end DL

/-! DL21: methods of texts by what they tell. -/
namespace DL
open PySem PySem.Spec L2 PyProof.Rows
section
variable {K : PySem.W.Frag}
/-- text to text, nothing given -/
def mSS (C : Str → Prop) (g : Str → Str) : DFM := fun d ds Q => match d, ds with
  | .str a, [] => C a ∧ Q (.str (g a))
  | _, _ => False
theorem dSS {C : Str → Prop} {g : Str → Str} : DMeth K "str" (fun x xs H Q => ∃ a, x = .str a ∧ xs = [] ∧ C a ∧ Q (.str (g a)) H) (mSS C g) := by
  intro F H v vs d ds Qd k s hv hvs h kk
  unfold mSS at h
  split at h
  · rw [hv.str, hvs.nil']
    exact ⟨_, rfl, rfl, h.1, kk _ _ _ _ (.refl s) (.str _) h.2⟩
  · exact h.elim
/-- text to truth, nothing given -/
def mSB (g : Str → Bool) : DFM := fun d ds Q => match d, ds with
  | .str a, [] => Q (.bool (g a))
  | _, _ => False
theorem dSB {g : Str → Bool} : DMeth K "str" (fun x xs H Q => ∃ a, x = .str a ∧ xs = [] ∧ True ∧ Q (.bl (g a)) H) (mSB g) := by
  intro F H v vs d ds Qd k s hv hvs h kk
  unfold mSB at h
  split at h
  · rw [hv.str, hvs.nil']
    exact ⟨_, rfl, rfl, trivial, kk _ _ _ _ (.refl s) (.bl _) h⟩
  · exact h.elim
/-- text and text to number, to truth -/
def mTI (g : Str → Str → Int) : DFM := fun d ds Q => match d, ds with
  | .str a, [.str b] => Q (.int (g a b))
  | _, _ => False
theorem dTI {g : Str → Str → Int} : DMeth K "str" (fun x xs H Q => ∃ a b, x = .str a ∧ xs = [.str b] ∧ Q (.int (g a b)) H) (mTI g) := by
  intro F H v vs d ds Qd k s hv hvs h kk
  unfold mTI at h
  split at h
  · obtain ⟨w, rfl, h1⟩ := hvs.one
    rw [hv.str, h1.str]
    exact ⟨_, _, rfl, rfl, kk _ _ _ _ (.refl s) (.int _) h⟩
  · exact h.elim
def mTB (g : Str → Str → Bool) : DFM := fun d ds Q => match d, ds with
  | .str a, [.str b] => Q (.bool (g a b))
  | _, _ => False
theorem dTB {g : Str → Str → Bool} : DMeth K "str" (fun x xs H Q => ∃ a b, x = .str a ∧ xs = [.str b] ∧ Q (.bl (g a b)) H) (mTB g) := by
  intro F H v vs d ds Qd k s hv hvs h kk
  unfold mTB at h
  split at h
  · obtain ⟨w, rfl, h1⟩ := hvs.one
    rw [hv.str, h1.str]
    exact ⟨_, _, rfl, rfl, kk _ _ _ _ (.refl s) (.bl _) h⟩
  · exact h.elim
/-- text, text and a place to number -/
def mTI3 (g : Str → Str → Int → Int) : DFM := fun d ds Q => match d, ds with
  | .str a, [.str b, .int i] => Q (.int (g a b i))
  | _, _ => False
theorem dTI3 {g : Str → Str → Int → Int} : DMeth K "str" (fun x xs H Q => ∃ (a b : Str) (i : Int), x = .str a ∧ xs = [.str b, .int i] ∧ Q (.int (g a b i)) H) (mTI3 g) := by
  intro F H v vs d ds Qd k s hv hvs h kk
  unfold mTI3 at h
  split at h
  · obtain ⟨w, u, rfl, h1, h2⟩ := hvs.two
    rw [hv.str, h1.str, h2.int]
    exact ⟨_, _, _, rfl, rfl, kk _ _ _ _ (.refl s) (.int _) h⟩
  · exact h.elim
/-! readings of `in` over data -/
def fInL : DF2 := fun x y Q => match y with
  | .list ds => (flat x = true ∧ flat (.list ds) = true ∧ SeqAt.shaped x = true ∧ SeqAt.shaped (.list ds) = true) ∧ Q (.bool (ds.any fun z => PyData.eqv z x))
  | _ => False
def fNinL : DF2 := fun x y Q => match y with
  | .list ds => (flat x = true ∧ flat (.list ds) = true ∧ SeqAt.shaped x = true ∧ SeqAt.shaped (.list ds) = true) ∧ Q (.bool (!ds.any fun z => PyData.eqv z x))
  | _ => False
theorem dInL : DOp K (rInL K) fInL := by
  intro F H vx vy dx dy Qd k s hx hy h kk
  cases dy with
  | list ds =>
    obtain ⟨⟨h1, h2, h3, h4⟩, h⟩ := h
    exact .inl ⟨dx, ds, hx.dp s h1, hy.dp s h2, h3, h4, kk _ _ _ _ (.refl s) (.bl _) h⟩
  | _ => exact h.elim
theorem dNinL : DOp K (rNinL K) fNinL := by
  intro F H vx vy dx dy Qd k s hx hy h kk
  cases dy with
  | list ds =>
    obtain ⟨⟨h1, h2, h3, h4⟩, h⟩ := h
    exact .inl ⟨dx, ds, hx.dp s h1, hy.dp s h2, h3, h4, kk _ _ _ _ (.refl s) (.bl _) h⟩
  | _ => exact h.elim
end
end DL

/-! DL22: isinstance against one built-in type. -/
namespace DL
open PySem PySem.Spec L2 PyProof.Rows
def tyName : PyData → String
  | .none => "NoneType"
  | .bool _ => "bool"
  | .int _ => "int"
  | .str _ => "str"
  | .list _ => "list"
  | .tuple _ => "tuple"
  | .dict _ => "dict"
def isiD (d : PyData) (T : String) : Bool := tyName d == T || (tyName d == "bool" && T == "int")
section
variable {X : Cx} {R : XP} {K : PySem.W.Frag} {a : Expr} {pos : Pos} {oa : WO}
def plainD : PyData → Bool
  | .dict ((.none, _) :: _) => false
  | _ => true
theorem View.tyx {F H : Hp} {v : V} {d : PyData} (s : Same F H) (h : View K F H v d) (hp : plainD d = true) : TyX K H v (.type (tyName d)) := by
  cases d with
  | none => rw [h.non]; exact .base .non
  | bool b => rw [h.bl]; exact .base (.bl b)
  | int i => rw [h.int]; exact .base (.int i)
  | str x => rw [h.str]; exact .base (.str x)
  | list l =>
    obtain ⟨p, vs, rfl, a1, _⟩ := h.list s
    exact .base (.lst a1)
  | tuple l =>
    obtain ⟨p, vs, rfl, a1, _⟩ := h.tupP s
    exact .base (.tup a1)
  | dict l =>
    rcases h with h | ⟨p, rfl, h⟩
    · cases h with
      | dic r _ _ =>
        rcases r with r | ⟨o, r⟩
        · exact .base (.dK (s _ _ r))
        · exact .fDict (s _ _ r)
      | dit r _ _ => cases hp
    · cases h with
      | dic r _ _ => exact .base (.dK r)
      | dit r _ _ => cases hp
def tyOk (T : String) : Bool := T == "int" || T == "bool" || T == "str" || T == "tuple" || T == "list" || T == "dict"
theorem kit_isi {d : PyData} {T : String} (hT : tyOk T = true) : PySem.W.kitOne K (.type (tyName d)) (.type T) = some (isiD d T) := by
  unfold tyOk at hT
  simp only [Bool.or_eq_true, beq_iff_eq] at hT
  rcases hT with ((((rfl | rfl) | rfl) | rfl) | rfl) | rfl <;> cases d <;> first | rfl | decide
def wIsi (oa : WO) (T : String) : WE := fun xn M Q => oa xn M fun x M1 => match x.get M1 with
  | some d => plainD d = true ∧ Q (.bool (isiD d T)) M1
  | none => False
theorem dE_isi {T : String} {p q : Pos} (hT : tyOk T = true) (hg : Gl X "isinstance") (hm : X.mg "isinstance" = none) (hgT : Gl X T) (hmT : X.mg T = none) (hv : bootBuiltins T = some (.type T)) (ha : DO X R a oa)
    (hnT : (T : Str) ≠ "__name__" := by decide) (hdT : ((T : Str) == ("__debug__" : Str)) = false := by decide)
    (hs : starEach [a, .Name T q] X.env = (false, eval a X.env) :: starEach [.Name T q] X.env := by rfl) (hs2 : starEach [.Name T q] X.env = (false, eval (.Name T q) X.env) :: starEach [] X.env := by rfl) (hpl : (backTo pos (starEach [.Name T q] X.env)).any (·.1) = false := by rfl) :
    DE X R (.Call (.Name "isinstance" p) [a, .Name T q] [] pos) (wIsi oa T) := by
  obtain ⟨t, pp, qq⟩ := ha.ex
  have pT : PE X (.Name T q) (tC (.ty T)) := ⟨fun pins s σ H Q I h => ld_blt I hgT hmT hv ⟨.ty T, H, I, rfl, h⟩ hnT hdT⟩
  refine ⟨_, pe_callB call_isi hg hm boot_isinstance (pa_cons pp (pa_cons pT pa_nil hs2) hs) (by decide) (by decide) hs hpl, fun r l hw kk => qq r l hw fun v x M1 F1 H1 s1 r1 hx z => ?_⟩
  split at z
  · rename_i d e
    have hv := r1.opd hx e
    exact ⟨v, .ty T, _, _, _, rfl, .ty T, hv.tyx r1.sub z.1, kit_isi hT, kk _ _ _ _ _ s1 r1 (.bl _) z.2⟩
  · exact z.elim
end
end DL

/-! DL23: x in a tuple of numbers, texts, truths. -/
namespace DL
open PySem PySem.Spec L2 PyProof.Rows
def scalD : PyData → Bool
  | .none | .bool _ | .int _ | .str _ => true
  | _ => false
section
variable {K : PySem.W.Frag}
theorem scal_view {F H : Hp} {v : V} {d : PyData} (h : View K F H v d) (hs : scalD d = true) : flatV v = true ∧ ∀ w e, (∃ F' : Hp, DV K F' w e) → scalD e = true → eqV w v = PyData.eqv e d := by
  have key : ∀ {w : V} {e : PyData}, (∃ F' : Hp, DV K F' w e) → scalD e = true → (w = .non ∧ e = .none) ∨ (∃ b, w = .bl b ∧ e = .bool b) ∨ (∃ i, w = .int i ∧ e = .int i) ∨ ∃ x, w = .str x ∧ e = .str x := by
    rintro w e ⟨F', q⟩ hs
    cases q with
    | non => exact .inl ⟨rfl, rfl⟩
    | bl b => exact .inr (.inl ⟨b, rfl, rfl⟩)
    | int i => exact .inr (.inr (.inl ⟨i, rfl, rfl⟩))
    | str x => exact .inr (.inr (.inr ⟨x, rfl, rfl⟩))
    | _ => cases hs
  cases d with
  | none =>
    rw [h.non]
    refine ⟨rfl, fun w e he hs => ?_⟩
    rcases key he hs with ⟨rfl, rfl⟩ | ⟨b, rfl, rfl⟩ | ⟨i, rfl, rfl⟩ | ⟨x, rfl, rfl⟩ <;> simp [eqV, PyData.eqv]
  | bool c =>
    rw [h.bl]
    refine ⟨rfl, fun w e he hs => ?_⟩
    rcases key he hs with ⟨rfl, rfl⟩ | ⟨b, rfl, rfl⟩ | ⟨i, rfl, rfl⟩ | ⟨x, rfl, rfl⟩ <;> simp [eqV, PyData.eqv]
  | int c =>
    rw [h.int]
    refine ⟨rfl, fun w e he hs => ?_⟩
    rcases key he hs with ⟨rfl, rfl⟩ | ⟨b, rfl, rfl⟩ | ⟨i, rfl, rfl⟩ | ⟨x, rfl, rfl⟩ <;> simp [eqV, PyData.eqv]
  | str c =>
    rw [h.str]
    refine ⟨rfl, fun w e he hs => ?_⟩
    rcases key he hs with ⟨rfl, rfl⟩ | ⟨b, rfl, rfl⟩ | ⟨i, rfl, rfl⟩ | ⟨x, rfl, rfl⟩ <;> simp [eqV, PyData.eqv]
  | _ => cases hs
theorem inV_data {F H : Hp} {v : V} {d : PyData} (h : View K F H v d) (hs : scalD d = true) : ∀ {ds : List PyData} {vs : List V}, DVs K F vs ds → ds.all scalD = true → vs.all flatV = true ∧ inV v vs = ds.any fun z => PyData.eqv z d
  | _, _, .nil, _ => ⟨rfl, rfl⟩
  | _, _, .cons r q, ha => by
    rw [List.all_cons, Bool.and_eq_true] at ha
    obtain ⟨h1, h2⟩ := inV_data h hs q ha.2
    have h3 := (scal_view h hs).2 _ _ ⟨F, r⟩ ha.1
    have h4 := (scal_view (H := H) (.inl r) ha.1).1
    refine ⟨by rw [List.all_cons, h4, h1]; rfl, ?_⟩
    unfold inV at h2 ⊢
    rw [List.any_cons, List.any_cons, h3, h2]
def fInT : DF2 := fun x y Q => match y with
  | .tuple ds => (scalD x = true ∧ ds.all scalD = true) ∧ Q (.bool (ds.any fun z => PyData.eqv z x))
  | y => fInL x y Q
def fNinT : DF2 := fun x y Q => match y with
  | .tuple ds => (scalD x = true ∧ ds.all scalD = true) ∧ Q (.bool (!ds.any fun z => PyData.eqv z x))
  | y => fNinL x y Q
theorem dInT : DOp K (rInL K) fInT := by
  intro F H vx vy dx dy Qd k s hx hy h kk
  cases dy with
  | tuple ds =>
    obtain ⟨⟨h1, h2⟩, h⟩ := h
    obtain ⟨p, vs, rfl, a1, a2⟩ := hy.tup s
    obtain ⟨h3, h4⟩ := inV_data hx h1 a2 h2
    exact .inr ⟨p, vs, rfl, .inr a1, (scal_view hx h1).1, h3, by rw [if_neg Bool.false_ne_true, h4]; exact kk _ _ _ _ (.refl s) (.bl _) h⟩
  | _ => exact dInL s hx hy h kk
theorem dNinT : DOp K (rNinL K) fNinT := by
  intro F H vx vy dx dy Qd k s hx hy h kk
  cases dy with
  | tuple ds =>
    obtain ⟨⟨h1, h2⟩, h⟩ := h
    obtain ⟨p, vs, rfl, a1, a2⟩ := hy.tup s
    obtain ⟨h3, h4⟩ := inV_data hx h1 a2 h2
    exact .inr ⟨p, vs, rfl, .inr a1, (scal_view hx h1).1, h3, by rw [if_pos rfl, h4]; exact kk _ _ _ _ (.refl s) (.bl _) h⟩
  | _ => exact dNinL s hx hy h kk
end
end DL

/-! DL24: `in` of whatever is no text. -/
namespace DL
open PySem PySem.Spec L2 PyProof.Rows
section
variable {X : Cx} {K : PySem.W.Frag}
abbrev rInDc : R2 := fun y x H Q => ∃ a o, x = .ref a ∧ DGet H a y o ∧ Q (.bl o.isSome) H
abbrev rNinDc : R2 := fun y x H Q => ∃ a o, x = .ref a ∧ DGet H a y o ∧ Q (.bl (!o.isSome)) H
def fInA : DF2 := fun x y Q => match y with
  | .dict kvs => keyFits kvs x = true ∧ Q (.bool (dlook (dpairs kvs) x).isSome)
  | y => fInT x y Q
def fNinA : DF2 := fun x y Q => match y with
  | .dict kvs => keyFits kvs x = true ∧ Q (.bool (!(dlook (dpairs kvs) x).isSome))
  | y => fNinT x y Q
abbrev rInA (K : PySem.W.Frag) : R2 := fun x y H Q => rInDc x y H Q ∨ rInL K x y H Q
abbrev rNinA (K : PySem.W.Frag) : R2 := fun x y H Q => rNinDc x y H Q ∨ rNinL K x y H Q
theorem hInA (hu : X.A.units + 65 < cLine) : OpR X (compareOp .In) (rInA X.K) := (DL.op_inD (by omega)).or (hInL hu)
theorem hNinA (hu : X.A.units + 65 < cLine) : OpR X (compareOp .NotIn) (rNinA X.K) := (DL.op_notInD (by omega)).or (hNinL hu)
theorem dInA : DOp K (rInA K) fInA := by
  intro F H vx vy dx dy Qd k s hx hy h kk
  cases dy with
  | dict kvs =>
    obtain ⟨h1, h2⟩ := h
    obtain ⟨a, o, rfl, g1, g2, h3⟩ := hy.dget s hx h1
    refine .inl ⟨a, o, rfl, g2, ?_⟩
    rcases h3 with ⟨rfl, h4⟩ | ⟨v, d, rfl, h4, h5⟩
    · rw [h4] at h2; exact kk _ _ _ _ (.refl s) (.bl _) h2
    · rw [h4] at h2; exact kk _ _ _ _ (.refl s) (.bl _) h2
  | _ => exact .inr (dInT s hx hy h kk)
theorem dNinA : DOp K (rNinA K) fNinA := by
  intro F H vx vy dx dy Qd k s hx hy h kk
  cases dy with
  | dict kvs =>
    obtain ⟨h1, h2⟩ := h
    obtain ⟨a, o, rfl, g1, g2, h3⟩ := hy.dget s hx h1
    refine .inl ⟨a, o, rfl, g2, ?_⟩
    rcases h3 with ⟨rfl, h4⟩ | ⟨v, d, rfl, h4, h5⟩
    · rw [h4] at h2; exact kk _ _ _ _ (.refl s) (.bl _) h2
    · rw [h4] at h2; exact kk _ _ _ _ (.refl s) (.bl _) h2
  | _ => exact .inr (dNinT s hx hy h kk)
end
end DL

/-! DL25: enumerate and zip of lists, tuples, texts. -/
namespace DL
open PySem PySem.Spec L2 PyProof.Rows
/-- what is walked in step with another -/
inductive SrcV where
  | l (a : Addr) (xs : List V)
  | t (a : Addr) (xs : List V)
  | s (x : Str)
def SrcV.v : SrcV → V
  | .l a _ => .ref a
  | .t a _ => .ref a
  | .s x => .str x
def SrcV.its : SrcV → List V
  | .l _ xs => xs
  | .t _ xs => xs
  | .s x => x.cps.toList.map fun c => .str (S [c])
def SrcV.ok (K : PySem.W.Frag) (H : Hp) : SrcV → Prop
  | .l a xs => SqL K H a xs
  | .t a xs => SqT K H a xs
  | .s _ => True
def SrcV.ads : SrcV → List Addr
  | .l a _ => [a]
  | .t a _ => [a]
  | .s _ => []
def SrcV.at (z : SrcV) (it : Addr) (i : Nat) (h : Heap) : Prop := match z with
  | .l a _ => h.IsListIter it a i
  | .t a _ => h.IsTupleIter it a i
  | .s x => ∃ t, h.IsStrIter it (strIterType x) x t i
theorem SrcV.at_obj {z : SrcV} {it : Addr} {i : Nat} {h : Heap} (st : z.at it i h) : ∃ o, h.get? it = some o ∧ ∀ v, o.data ≠ .cell v := by
  cases z with
  | l a xs => obtain ⟨o, e, _, d⟩ := st; exact ⟨o, e, fun v q => by rw [d] at q; cases q⟩
  | t a xs => obtain ⟨o, e, _, d⟩ := st; exact ⟨o, e, fun v q => by rw [d] at q; cases q⟩
  | s x => obtain ⟨t, o, e, _, d⟩ := st; exact ⟨o, e, fun v q => by rw [d] at q; cases q⟩
theorem SrcV.at_keep {z : SrcV} {it : Addr} {i : Nat} {h h' : Heap} (st : z.at it i h) (k : ∀ o, h.get? it = some o → h'.get? it = some o) : z.at it i h' := by
  cases z with
  | l a xs => exact Heap.IsListIter.at st k
  | t a xs => exact Heap.IsTupleIter.at st k
  | s x => obtain ⟨t, o, e, r⟩ := st; exact ⟨t, o, k o e, r⟩
theorem vals_back {xs : List V} {us : List Value} (r : Vals xs us) {j : Nat} {v : Value} (h : us[j]? = some v) : ∃ x, xs[j]? = some x ∧ RelV x v := by
  have hl : j < us.length := (List.getElem?_eq_some_iff.mp h).1
  have hx : j < xs.length := by rw [r.length]; exact hl
  obtain ⟨u, e, ru⟩ := r.get (List.getElem?_eq_getElem hx)
  rw [h] at e
  cases e
  exact ⟨_, List.getElem?_eq_getElem hx, ru⟩
theorem SrcV.draws {X : Cx} {pins : List (Addr × Obj)} {σ : L2.St} {H : Hp} {s : Shared} (I : Inv X pins σ H s) (hh : X.A.handled = none) (z : SrcV) {it : Addr} {i : Nat} (hz : z.ok X.K H) (hne : it ∉ z.ads) (st : z.at it i s.heap) :
    ∃ (P : Nat → Value → Prop) (St : Nat → Heap → Prop), PySem.Draws X.prog X.w X.A.in1 it (it :: z.ads) z.its.length P St ∧ St i s.heap ∧ (∀ j v, P j v → ∃ x, z.its[j]? = some x ∧ RelV x v) ∧ (∀ j h, St j h → z.at it j h) := by
  have hh1 : X.A.in1.handled = none := hh
  cases z with
  | l a xs =>
    obtain ⟨its, rv, p, _⟩ := I.list hz
    have hn : a ≠ it := fun e => hne (by simp [SrcV.ads, e])
    have D := PySem.Draws.list (prog := X.prog) (w := X.w) hh1 it a hn its.toArray
    have e : its.toArray.size = xs.length := by simp [rv.length]
    rw [e] at D
    exact ⟨_, _, D, ⟨st, p.isList⟩, fun j v h => vals_back rv (by simpa using h), fun j h q => q.1⟩
  | t a xs =>
    obtain ⟨its, rv, p, _⟩ := I.tuple hz
    have hn : a ≠ it := fun e => hne (by simp [SrcV.ads, e])
    have D := PySem.Draws.tuple (prog := X.prog) (w := X.w) hh1 it a hn its.toArray
    have e : its.toArray.size = xs.length := by simp [rv.length]
    rw [e] at D
    exact ⟨_, _, D, ⟨st, p⟩, fun j v h => vals_back rv (by simpa using h), fun j h q => q.1⟩
  | s x =>
    obtain ⟨t, st⟩ := st
    have D := PySem.Draws.text (prog := X.prog) (w := X.w) hh1 it x t
    have e : x.cps.size = (SrcV.s x).its.length := by simp [SrcV.its]
    rw [e] at D
    refine ⟨_, _, D, st, fun j v h => ?_, fun j h q => ⟨t, q⟩⟩
    obtain ⟨c, u, hc, rfl⟩ := h
    refine ⟨.str (S [c]), ?_, ⟨u, rfl⟩⟩
    show (x.cps.toList.map fun c => V.str (S [c]))[j]? = _
    rw [List.getElem?_map, Array.getElem?_toList, hc]
    rfl
theorem SrcV.begins {X : Cx} {pins : List (Addr × Obj)} {σ : L2.St} {H : Hp} {s : Shared} (I : Inv X pins σ H s) (z : SrcV) {v : Value} (hz : z.ok X.K H) (rv : RelV z.v v) :
    ∃ (o : Obj) (C : Heap → Prop), PySem.Begins v o C ∧ C s.heap ∧ (∀ b ∈ z.ads, b < s.heap.objs.size) ∧ ∀ it h, h.get? it = some o → z.at it 0 h := by
  cases z with
  | l a xs =>
    cases (show v = .ref a from rv)
    obtain ⟨its, _, p, _⟩ := I.list hz
    refine ⟨_, _, PySem.begins_list a its.toArray, p.isList, fun b hb => ?_, fun it h e => ⟨_, e, rfl, rfl⟩⟩
    have : b = a := by simpa [SrcV.ads] using hb
    rw [this]
    obtain ⟨o, n, e, _⟩ := p
    exact Heap.lt_size e
  | t a xs =>
    cases (show v = .ref a from rv)
    obtain ⟨its, _, p, _⟩ := I.tuple hz
    refine ⟨_, _, PySem.begins_tuple a its.toArray, p, fun b hb => ?_, fun it h e => ⟨_, e, rfl, rfl⟩⟩
    have : b = a := by simpa [SrcV.ads] using hb
    rw [this]
    obtain ⟨o, e, _⟩ := p
    exact Heap.lt_size e
  | s x =>
    obtain ⟨t, rfl⟩ := (show ∃ t, v = .str x t from rv)
    exact ⟨_, _, PySem.begins_text x t, True.intro, fun b hb => absurd hb (by simp [SrcV.ads]), fun it h e => ⟨t, _, e, rfl, rfl⟩⟩
/-- rows of values, each in a new tuple -/
def Itg (C : Hp → Prop) (rows : List (List V)) : It :=
  ⟨fun i H => C H ∧ i < rows.length, fun i H v H' => ∃ T row, v = .ref T ∧ H T = none ∧ H' = upd H T (.tup row) ∧ rows[i]? = some row, fun i H => C H ∧ rows.length ≤ i⟩
def enumR : Nat → List V → List (List V)
  | _, [] => []
  | n, x :: r => [.int (n : Nat), x] :: enumR (n + 1) r
theorem enumR_len : ∀ (n : Nat) (xs : List V), (enumR n xs).length = xs.length
  | _, [] => rfl
  | n, x :: r => by simp [enumR, enumR_len (n + 1) r]
theorem enumR_get : ∀ (n : Nat) (xs : List V) (i : Nat) (x : V), xs[i]? = some x → (enumR n xs)[i]? = some [.int ((n + i : Nat) : Int), x]
  | _, [], i, x, h => by simp at h
  | n, y :: r, 0, x, h => by simp at h; subst h; simp [enumR]
  | n, y :: r, i + 1, x, h => by
    simp only [List.getElem?_cons_succ] at h
    have := enumR_get (n + 1) r i x h
    simp only [enumR, List.getElem?_cons_succ]
    rw [this]
    congr 4
    omega
theorem turn_enumG {P : Program} {w : World} {K : PySem.W.Frag} {elts : List Expr} {kk : Nat} {tpos : Pos} (z : SrcV) (e it : Addr) (hit : it ∉ z.ads) (he : e ∉ it :: z.ads) :
    Turn P w K (.Tuple elts kk tpos) (Itg (fun H => z.ok K H) (enumR 0 z.its)) [e, it] e (fun i h => ((∃ old, IsEnum h e it ((i : Nat) : Int) old) ∧ z.at it i h) ∧ i ≤ z.its.length) where
  mem := by simp
  obj := fun i h st b hb => by
    obtain ⟨⟨⟨old, he⟩, st⟩, _⟩ := st
    have e' : b = e ∨ b = it := by simpa using hb
    rcases e' with z | z
    · rw [z]; exact ⟨_, he, fun v q => nomatch q⟩
    · rw [z]; exact SrcV.at_obj st
  keep := fun i h h' st k => let ⟨⟨⟨old, he⟩, hi⟩, l⟩ := st; ⟨⟨⟨old, k e (by simp) _ he⟩, SrcV.at_keep hi fun o q => k it (by simp) o q⟩, l⟩
  item := by
    intro X hP hw hK hc i pins s σ H E I hf st hg
    subst hP hw hK
    obtain ⟨⟨⟨old, hen⟩, hst⟩, _⟩ := st
    obtain ⟨hz, hlt⟩ := hg
    rw [enumR_len] at hlt
    have hne : e ≠ it := fun q => he (by simp [q])
    obtain ⟨Pi, St, D, hSt, hP, hA⟩ := z.draws I (I.ok.hd hc) hz hit hst
    have hel : e < s.heap.objs.size := Heap.lt_size hen
    have hil : it < s.heap.objs.size := by obtain ⟨_, q, _⟩ := SrcV.at_obj hst; exact Heap.lt_size q
    refine wpAny_pyNext_enum_itemD D hen hSt hlt hne he fun u h' tk hu ho hit' hT hsz hk => ?_
    obtain ⟨x, hx, ru⟩ := hP _ _ hu
    refine ⟨_, rfl, wpAny_letOwnedTupleGo_enum (s := { s with heap := h', toks := tk + 1 }) ho fun h'' he' sb => ?_⟩
    have hT2 : h''.get? s.heap.objs.size = some { cls := .type "tuple", data := .seq #[.int i tk, u] } := (sb.2 _ (Nat.ne_of_gt hel)).trans hT
    have new : ObjOk X.prog X.w (upd H s.heap.objs.size (.tup [.int (i : Nat), x])) h'' s.heap.objs.size (.tup [.int (i : Nat), x]) :=
      ⟨by show 2 ≤ sizeLine; decide, [.int i tk, u], .cons ⟨_, rfl⟩ (.cons ru .nil), ⟨_, hT2, rfl, _, rfl⟩⟩
    have I1 : Inv X pins σ (upd H s.heap.objs.size (.tup [.int (i : Nat), x])) { s with heap := h'', toks := tk + 1 } :=
      I.turnedNew (ch := [e, it]) (fun b ob hb q => (sb.2 b (fun z => hb (by simp [z]))).trans (hk b ob (fun z => hb (by simp [z])) (fun z => hb (by simp [z])) q)) hf (Nat.le_refl _) new
    refine ⟨.ref s.heap.objs.size, _, I1, rfl, ⟨_, _, rfl, I.hok.fresh (Nat.le_refl _), rfl, ?_⟩, ⟨⟨⟨u, ?_⟩, SrcV.at_keep (hA _ _ hit') fun o q => (sb.2 it (Ne.symm hne)).trans q⟩, hlt⟩, fun b hb => ?_⟩
    · have := enumR_get 0 z.its i x hx
      rw [this]
      congr 4
      omega
    · have e1 : ((i + 1 : Nat) : Int) = (i : Int) + 1 := by omega
      rw [e1]; exact he'
    · have hb' : b < s.heap.objs.size := by
        have e' : b = e ∨ b = it := by simpa using hb
        rcases e' with z | z
        · rw [z]; exact hel
        · rw [z]; exact hil
      rw [upd_ne (Nat.ne_of_lt hb')]
      exact (hf b hb).1
  done := by
    intro X hP hw hK hc i pins s σ H E I hf st hg
    subst hP hw hK
    obtain ⟨⟨⟨old, hen⟩, hst⟩, hle⟩ := st
    obtain ⟨hz, hge⟩ := hg
    rw [enumR_len] at hge
    obtain ⟨Pi, St, D, hSt, hP, hA⟩ := z.draws I (I.ok.hd hc) hz hit hst
    have ei : i = z.its.length := by omega
    rw [ei] at hSt
    obtain ⟨f0, f1, f2, f3, f4, f5⟩ := hf it (by simp)
    exact wpAny_pyNext_enum_endD D hen hSt fun h' eb => ⟨rfl, I.turned (t' := s.toks) (fun b o hb q => eb b o hb q) f0 f1 f3 f4 f5⟩
  self := fun A i s Q E st h => let ⟨⟨⟨_, he⟩, _⟩, _⟩ := st; wpAny_pyIter_enum he h
end DL
namespace PySem
open PySem.W
theorem meets_enumerate_newB1 {v : Value} {o : Obj} {H : Heap → Prop} (B : Begins v o H) :
    Meets (Builtin.«enumerate.__new__» ⟨[.type "enumerate", v], []⟩) (fun _ R s => H s.heap ∧
      R (.ok (.ret (.ref (s.heap.push o).objs.size))) { s with heap := (s.heap.push o).push { cls := .type "enumerate", data := .fields #[.none, .bool false, .ref s.heap.objs.size, rawInt 0, .none, .none] } }) :=
  .of_wp fun prog w A R s h => by
    obtain ⟨hp, g, d, tk, os⟩ := s; obtain ⟨h1, h⟩ := h
    have hsub := sub_enumerate
    have q1 : ∀ {A' : Around} {E : Value → Shared → Prop} {Q : Value → Shared → Prop}, Q (.ref hp.objs.size) ⟨hp.push o, g, d, tk, os⟩ → wpAny (model prog w) A' (pyIter v) Q E ⟨hp, g, d, tk, os⟩ :=
      fun q => B.iter prog w _ _ ⟨hp, g, d, tk, os⟩ _ h1 q
    wp_walk using q1
    refine wpAny_stack_any fun st => wpAny_pure ?_
    split
    · rename_i c _ _ _ _ _
      cases (c == Value.type "enumerate")
      · wp_walk using q1
        exact ⟨_, rfl, h⟩
      · wp_walk using q1
        exact ⟨_, rfl, h⟩
    · wp_walk using q1
      exact ⟨_, rfl, h⟩
theorem enum_begins1 {prog : Program} {w : World} {A : Around} {E : Value → Shared → Prop} {s : Shared} {v : Value} {o : Obj} {H : Heap → Prop} {Q : Value → Shared → Prop} (B : Begins v o H) (h1 : H s.heap)
    (h : ∀ h', IsEnum h' (s.heap.objs.size + 1) s.heap.objs.size 0 .none → h'.get? s.heap.objs.size = some o → h'.objs.size = s.heap.objs.size + 2 →
      (∀ b o, s.heap.get? b = some o → h'.get? b = some o) → Q (.ref (s.heap.objs.size + 1)) { s with heap := h' }) :
    wpAny (model prog w) A (call (.type "enumerate") [v]) Q E s := by
  refine callType_new F.called_enumerate (by decide) (F.typeCall_enumerate_1 _) (F.newCall_enumerate_1 _) (fun obj => F.args_object_init_2 obj _) F.entry_enumerate_new
    (meets_enumerate_newB1 B) ⟨h1, ?_⟩
  have hz : (s.heap.push o).objs.size = s.heap.objs.size + 1 := Heap.size_push ..
  show _ ∧ _
  rw [hz]
  have he : IsEnum ((s.heap.push o).push { cls := .type "enumerate", data := .fields #[.none, .bool false, .ref s.heap.objs.size, rawInt 0, .none, .none] }) (s.heap.objs.size + 1) s.heap.objs.size 0 .none := by
    have := Heap.get?_push_size (s.heap.push o) (o := { cls := .type "enumerate", data := .fields #[.none, .bool false, .ref s.heap.objs.size, rawInt 0, .none, .none] }) rfl
    rw [hz] at this; exact this
  exact ⟨⟨_, he, rfl⟩, h _ he (Heap.get?_push_of_some _ (Heap.get?_push_size _ B.free)) (by rw [Heap.size_push, hz]) fun b o x => Heap.get?_push_of_some _ (Heap.get?_push_of_some _ x)⟩
end PySem
namespace DL
open PySem PySem.Spec L2 PyProof.Rows
abbrev rEnumG (K : PySem.W.Frag) (ta : TA) : TI := fun σ H R => ta σ H fun vs H1 => ∃ z : SrcV, vs = [z.v] ∧ z.ok K H1 ∧ R (Itg (fun H => z.ok K H) (enumR 0 z.its)) H1
theorem pi_enumG {X : Cx} {e : Expr} {ta : TA} {p pos tpos : Pos} {elts : List Expr} {kk : Nat} (hg : Gl X "enumerate") (hm : X.mg "enumerate" = none) (ha : PA X [e] ta) (hs : starEach [e] X.env = [(false, eval e X.env)] := by rfl) :
    PI X (.Tuple elts kk tpos) (.Call (.Name "enumerate" p) [e] [] pos) (rEnumG X.K ta) := by
  refine ⟨fun pins s σ H R I h => ?_⟩
  refine Call_ (ld_blt I hg hm boot_enumerate (PyProof.Rows.callWith_type1 (thn (ha.run pos pins s σ H _ I h) fun us s1 ⟨vs, H1, I1, r1, q1⟩ => ?_) hs rfl))
  obtain ⟨z, ex, hz, q⟩ := q1
  subst ex
  obtain ⟨u, rfl, ru⟩ := vals1 r1
  obtain ⟨o, C, B, hC, hlt, hat⟩ := z.begins I1 hz ru
  refine enum_begins1 B hC fun h' he hit hsz hk => wpAny_pyIter_enum he ?_
  have I2 : Inv X pins σ H1 { s1 with heap := h' } := I1.kept (t' := s1.toks) hk
  have a1 : s1.heap.objs.size ∉ z.ads := fun q => absurd (hlt _ q) (Nat.lt_irrefl _)
  have a2 : s1.heap.objs.size + 1 ∉ s1.heap.objs.size :: z.ads := fun q => by
    rcases List.mem_cons.mp q with q | q
    · exact absurd q (Nat.succ_ne_self _)
    · exact absurd (hlt _ q) (Nat.not_lt.mpr (Nat.le_succ _))
  refine ⟨s1.heap.objs.size + 1, [s1.heap.objs.size + 1, s1.heap.objs.size], _, _, H1, rfl, I2, turn_enumG z (s1.heap.objs.size + 1) s1.heap.objs.size a1 a2, ⟨⟨⟨.none, he⟩, hat _ _ hit⟩, Nat.zero_le _⟩, fun b hb => ?_, q⟩
  have e' : b = s1.heap.objs.size + 1 ∨ b = s1.heap.objs.size := by simpa using hb
  have hle : s1.heap.objs.size ≤ b := by
    rcases e' with z | z
    · rw [z]; exact Nat.le_add_right _ _
    · rw [z]; exact Nat.le_refl _
  exact I1.fpOk hle (I1.hok.fresh hle)
end DL

/-! DL26: zip of two, of three: lists, tuples, texts. -/
namespace DL
open PySem PySem.Spec L2 PyProof.Rows
def rows2 : List V → List V → List (List V)
  | x :: xs, y :: ys => [x, y] :: rows2 xs ys
  | _, _ => []
theorem rows2_get : ∀ {xs ys : List V} {i : Nat} {x y : V}, xs[i]? = some x → ys[i]? = some y → (rows2 xs ys)[i]? = some [x, y]
  | [], _, i, _, _, h, _ => by simp at h
  | _ :: _, [], i, _, _, _, h => by simp at h
  | a :: xs, b :: ys, 0, x, y, h, h' => by simp at h h'; subst h h'; simp [rows2]
  | a :: xs, b :: ys, i + 1, x, y, h, h' => by
    simp only [List.getElem?_cons_succ] at h h'
    simp only [rows2, List.getElem?_cons_succ]
    exact rows2_get h h'
theorem rows2_len : ∀ (xs ys : List V), (rows2 xs ys).length = min xs.length ys.length
  | [], ys => by simp [rows2]
  | _ :: _, [] => by simp [rows2]
  | x :: xs, y :: ys => by simp [rows2, rows2_len xs ys]
def rows3 : List V → List V → List V → List (List V)
  | x :: xs, y :: ys, z :: zs => [x, y, z] :: rows3 xs ys zs
  | _, _, _ => []
theorem rows3_get : ∀ {xs ys zs : List V} {i : Nat} {x y z : V}, xs[i]? = some x → ys[i]? = some y → zs[i]? = some z → (rows3 xs ys zs)[i]? = some [x, y, z]
  | [], _, _, i, _, _, _, h, _, _ => by simp at h
  | _ :: _, [], _, i, _, _, _, _, h, _ => by simp at h
  | _ :: _, _ :: _, [], i, _, _, _, _, _, h => by simp at h
  | a :: xs, b :: ys, c :: zs, 0, x, y, z, h, h', h'' => by simp at h h' h''; subst h h' h''; simp [rows3]
  | a :: xs, b :: ys, c :: zs, i + 1, x, y, z, h, h', h'' => by
    simp only [List.getElem?_cons_succ] at h h' h''
    simp only [rows3, List.getElem?_cons_succ]
    exact rows3_get h h' h''
theorem rows3_len : ∀ (xs ys zs : List V), (rows3 xs ys zs).length = min (min xs.length ys.length) zs.length
  | [], ys, zs => by simp [rows3]
  | _ :: _, [], zs => by simp [rows3]
  | _ :: _, _ :: _, [] => by simp [rows3]
  | x :: xs, y :: ys, z :: zs => by simp [rows3, rows3_len xs ys zs]
theorem turn_zipG2 {P : Program} {w : World} {K : PySem.W.Frag} {elts : List Expr} {kk : Nat} {tpos : Pos} (u v : SrcV) {z TI TO i1 i2 : Addr} (D : ZipSep2 z TI TO i1 i2 (i1 :: u.ads) (i2 :: v.ads)) (hu : i1 ∉ u.ads) (hv : i2 ∉ v.ads) :
    Turn P w K (.Tuple elts kk tpos) (Itg (fun H => u.ok K H ∧ v.ok K H) (rows2 u.its v.its)) [z, TI, TO, i1, i2] z (fun i h => (IsZip h z TI TO .none ∧ IsTupOf2 h TI (.ref i1) (.ref i2) ∧ (∃ x y, IsTupOf2 h TO x y) ∧ u.at i1 i h ∧ v.at i2 i h) ∧ i ≤ u.its.length ∧ i ≤ v.its.length) where
  mem := by simp
  obj := fun i h st c hc => by
    obtain ⟨⟨hz, hTI, ⟨x, y, hTO⟩, h1, h2⟩, _⟩ := st
    have e' : c = z ∨ c = TI ∨ c = TO ∨ c = i1 ∨ c = i2 := by simpa using hc
    rcases e' with q | q | q | q | q
    · rw [q]; exact ⟨_, hz, fun v q => nomatch q⟩
    · rw [q]; exact ⟨_, hTI, fun v q => nomatch q⟩
    · rw [q]; exact ⟨_, hTO, fun v q => nomatch q⟩
    · rw [q]; exact SrcV.at_obj h1
    · rw [q]; exact SrcV.at_obj h2
  keep := fun i h h' st k => by
    obtain ⟨⟨hz, hTI, ⟨x, y, hTO⟩, h1, h2⟩, l⟩ := st
    exact ⟨⟨k z (by simp) _ hz, k TI (by simp) _ hTI, ⟨x, y, k TO (by simp) _ hTO⟩, SrcV.at_keep h1 fun o q => k i1 (by simp) o q, SrcV.at_keep h2 fun o q => k i2 (by simp) o q⟩, l⟩
  item := by
    intro X hP hw hK hc i pins s σ H E I hf st hg
    subst hP hw hK
    obtain ⟨⟨hz, hTI, ⟨x0, y0, hTO⟩, h1, h2⟩, _⟩ := st
    obtain ⟨⟨ou, ov⟩, hlt⟩ := hg
    rw [rows2_len] at hlt
    obtain ⟨P1, St1, D1, s1, p1, a1⟩ := u.draws I (I.ok.hd hc) ou hu h1
    obtain ⟨P2, St2, D2, s2, p2, a2⟩ := v.draws I (I.ok.hd hc) ov hv h2
    have hzl : z < s.heap.objs.size := Heap.lt_size hz
    refine wpAny_pyNext_zipD2_item D D1 D2 hz hTI hTO s1 s2 (by omega) (by omega) fun w1 w2 h' tk q1 q2 z' TO' h1' h2' hT hsz hk => ?_
    obtain ⟨x, hx, rx⟩ := p1 _ _ q1
    obtain ⟨y, hy, ry⟩ := p2 _ _ q2
    refine ⟨_, rfl, wpAny_letOwnedTupleGo_zip (s := { s with heap := h', toks := tk }) z' fun h'' z'' sb => ?_⟩
    have hT2 : h''.get? s.heap.objs.size = some { cls := .type "tuple", data := .seq #[w1, w2] } := (sb.2 _ (Nat.ne_of_gt hzl)).trans hT
    have new : ObjOk X.prog X.w (upd H s.heap.objs.size (.tup [x, y])) h'' s.heap.objs.size (.tup [x, y]) :=
      ⟨by show 2 ≤ sizeLine; decide, [w1, w2], .cons rx (.cons ry .nil), ⟨_, hT2, rfl, _, rfl⟩⟩
    have I1 : Inv X pins σ (upd H s.heap.objs.size (.tup [x, y])) { s with heap := h'', toks := tk } :=
      I.turnedNew (t' := tk) (ch := [z, TI, TO, i1, i2]) (fun c o hb q => (sb.2 c (fun q' => hb (by simp [q']))).trans (hk c o (fun q' => hb (by simp [q'])) (fun q' => hb (by simp [q'])) (fun q' => hb (by simp [q'])) (fun q' => hb (by simp [q'])) q)) hf (Nat.le_refl _) new
    refine ⟨.ref s.heap.objs.size, _, I1, rfl, ⟨_, _, rfl, I.hok.fresh (Nat.le_refl _), rfl, rows2_get hx hy⟩, ⟨⟨z'', ?_, ⟨w1, w2, ?_⟩, ?_, ?_⟩, by omega, by omega⟩, fun c hcm => ?_⟩
    · exact (sb.2 _ D.TIz).trans (hk _ _ D.TIz D.TITO D.TIi1 D.TIi2 hTI)
    · exact (sb.2 _ D.TOz).trans TO'
    · exact SrcV.at_keep (a1 _ _ h1') fun o q => (sb.2 _ (Ne.symm D.zi1)).trans q
    · exact SrcV.at_keep (a2 _ _ h2') fun o q => (sb.2 _ (Ne.symm D.zi2)).trans q
    · have hlt : c < s.heap.objs.size := by
        have e' : c = z ∨ c = TI ∨ c = TO ∨ c = i1 ∨ c = i2 := by simpa using hcm
        rcases e' with q | q | q | q | q
        · rw [q]; exact hzl
        · rw [q]; exact Heap.lt_size hTI
        · rw [q]; exact Heap.lt_size hTO
        · rw [q]; obtain ⟨_, e1, _⟩ := SrcV.at_obj h1; exact Heap.lt_size e1
        · rw [q]; obtain ⟨_, e2, _⟩ := SrcV.at_obj h2; exact Heap.lt_size e2
      rw [upd_ne (Nat.ne_of_lt hlt)]
      exact (hf c hcm).1
  done := by
    intro X hP hw hK hc i pins s σ H E I hf st hg
    subst hP hw hK
    obtain ⟨⟨hz, hTI, ⟨x0, y0, hTO⟩, h1, h2⟩, l1, l2⟩ := st
    obtain ⟨⟨ou, ov⟩, hge⟩ := hg
    rw [rows2_len] at hge
    obtain ⟨P1, St1, D1, s1, p1, a1⟩ := u.draws I (I.ok.hd hc) ou hu h1
    obtain ⟨P2, St2, D2, s2, p2, a2⟩ := v.draws I (I.ok.hd hc) ov hv h2
    exact wpAny_pyNext_zipD2_end D D1 D2 hz hTI hTO s1 s2 l1 l2 (by omega) fun h' tk hk => ⟨rfl, I.turnedL (t' := tk) (ch := [z, TI, TO, i1, i2]) (fun c o hb q =>
      hk c o (fun q' => hb (by simp [q'])) (fun q' => hb (by simp [q'])) (fun q' => hb (by simp [q'])) (fun q' => hb (by simp [q'])) q) hf⟩
  self := fun A i s Q E st h => wpAny_pyIter_zip st.1.1 h
abbrev rZipG2 (K : PySem.W.Frag) (ta : TA) : TI := fun σ H R => ta σ H fun vs H1 => ∃ u v : SrcV, vs = [u.v, v.v] ∧ (u.ok K H1 ∧ v.ok K H1) ∧ R (Itg (fun H => u.ok K H ∧ v.ok K H) (rows2 u.its v.its)) H1
theorem pi_zipG2 {X : Cx} {e e2 : Expr} {ta : TA} {p pos tpos : Pos} {elts : List Expr} {kk : Nat} (hg : Gl X "zip") (hm : X.mg "zip" = none) (ha : PA X [e, e2] ta)
    (hs : starEach [e, e2] X.env = (false, eval e X.env) :: starEach [e2] X.env := by rfl) (hpl : (backTo pos (starEach [e2] X.env)).any (·.1) = false := by rfl) :
    PI X (.Tuple elts kk tpos) (.Call (.Name "zip" p) [e, e2] [] pos) (rZipG2 X.K ta) := by
  refine ⟨fun pins s σ H R I h => ?_⟩
  refine Call_ (ld_blt I hg hm PyProof.Rows.boot_zip (PyProof.Rows.callWith_type1 (thn (ha.run pos pins s σ H _ I h) fun us s1 ⟨vs, H1, I1, r1, q1⟩ => ?_) hs hpl))
  obtain ⟨u, v, ex, ⟨ou, ov⟩, q⟩ := q1
  subst ex
  cases r1 with
  | cons ru rr =>
    obtain ⟨w2, rfl, rv⟩ := vals1 rr
    obtain ⟨o1, C1, B1, c1, l1, a1⟩ := u.begins I1 ou ru
    obtain ⟨o2, C2, B2, c2, l2, a2⟩ := v.begins I1 ov rv
    refine zip_begins2 B1 B2 c1 c2 fun h' hz hTI hTO g1 g2 hsz hk => wpAny_pyIter_zip hz ?_
    have I2 : Inv X pins σ H1 { s1 with heap := h' } := I1.kept (t' := s1.toks) hk
    have n1 : s1.heap.objs.size ∉ u.ads := fun q => absurd (l1 _ q) (Nat.lt_irrefl _)
    have n2 : s1.heap.objs.size + 1 ∉ v.ads := fun q => absurd (l2 _ q) (Nat.not_lt.mpr (Nat.le_succ _))
    refine ⟨s1.heap.objs.size + 4, [s1.heap.objs.size + 4, s1.heap.objs.size + 2, s1.heap.objs.size + 3, s1.heap.objs.size, s1.heap.objs.size + 1], _, _, H1, rfl, I2, turn_zipG2 u v (zip_sep2 l1 l2) n1 n2, ⟨⟨hz, hTI, ⟨_, _, hTO⟩, a1 _ _ g1, a2 _ _ g2⟩, Nat.zero_le _, Nat.zero_le _⟩, fun c hcm => ?_, q⟩
    have e' : c = s1.heap.objs.size + 4 ∨ c = s1.heap.objs.size + 2 ∨ c = s1.heap.objs.size + 3 ∨ c = s1.heap.objs.size ∨ c = s1.heap.objs.size + 1 := by simpa using hcm
    have hle : s1.heap.objs.size ≤ c := by
      rcases e' with z | z | z | z | z
      · rw [z]; exact Nat.le_add_right _ _
      · rw [z]; exact Nat.le_add_right _ _
      · rw [z]; exact Nat.le_add_right _ _
      · rw [z]; exact Nat.le_refl _
      · rw [z]; exact Nat.le_add_right _ _
    exact I1.fpOk hle (I1.hok.fresh hle)
theorem turn_zipG3 {P : Program} {w : World} {K : PySem.W.Frag} {elts : List Expr} {kk : Nat} {tpos : Pos} (u v r : SrcV) {z TI TO i1 i2 i3 : Addr} (D : ZipSep3 z TI TO i1 i2 i3 (i1 :: u.ads) (i2 :: v.ads) (i3 :: r.ads)) (hu : i1 ∉ u.ads) (hv : i2 ∉ v.ads) (hr : i3 ∉ r.ads) :
    Turn P w K (.Tuple elts kk tpos) (Itg (fun H => u.ok K H ∧ v.ok K H ∧ r.ok K H) (rows3 u.its v.its r.its)) [z, TI, TO, i1, i2, i3] z (fun i h => (IsZip h z TI TO .none ∧ IsTupOf3 h TI (.ref i1) (.ref i2) (.ref i3) ∧ (∃ x y w, IsTupOf3 h TO x y w) ∧ u.at i1 i h ∧ v.at i2 i h ∧ r.at i3 i h) ∧ i ≤ u.its.length ∧ i ≤ v.its.length ∧ i ≤ r.its.length) where
  mem := by simp
  obj := fun i h st c hc => by
    obtain ⟨⟨hz, hTI, ⟨x, y, w, hTO⟩, h1, h2, h3⟩, _⟩ := st
    have e' : c = z ∨ c = TI ∨ c = TO ∨ c = i1 ∨ c = i2 ∨ c = i3 := by simpa using hc
    rcases e' with q | q | q | q | q | q
    · rw [q]; exact ⟨_, hz, fun v q => nomatch q⟩
    · rw [q]; exact ⟨_, hTI, fun v q => nomatch q⟩
    · rw [q]; exact ⟨_, hTO, fun v q => nomatch q⟩
    · rw [q]; exact SrcV.at_obj h1
    · rw [q]; exact SrcV.at_obj h2
    · rw [q]; exact SrcV.at_obj h3
  keep := fun i h h' st k => by
    obtain ⟨⟨hz, hTI, ⟨x, y, w, hTO⟩, h1, h2, h3⟩, l⟩ := st
    exact ⟨⟨k z (by simp) _ hz, k TI (by simp) _ hTI, ⟨x, y, w, k TO (by simp) _ hTO⟩, SrcV.at_keep h1 fun o q => k i1 (by simp) o q, SrcV.at_keep h2 fun o q => k i2 (by simp) o q, SrcV.at_keep h3 fun o q => k i3 (by simp) o q⟩, l⟩
  item := by
    intro X hP hw hK hc i pins s σ H E I hf st hg
    subst hP hw hK
    obtain ⟨⟨hz, hTI, ⟨x0, y0, z0, hTO⟩, h1, h2, h3⟩, _⟩ := st
    obtain ⟨⟨ou, ov, or⟩, hlt⟩ := hg
    rw [rows3_len] at hlt
    obtain ⟨P1, St1, D1, s1, p1, a1⟩ := u.draws I (I.ok.hd hc) ou hu h1
    obtain ⟨P2, St2, D2, s2, p2, a2⟩ := v.draws I (I.ok.hd hc) ov hv h2
    obtain ⟨P3, St3, D3, s3, p3, a3⟩ := r.draws I (I.ok.hd hc) or hr h3
    have hzl : z < s.heap.objs.size := Heap.lt_size hz
    refine wpAny_pyNext_zipD3_item D D1 D2 D3 hz hTI hTO s1 s2 s3 (by omega) (by omega) (by omega) fun w1 w2 w3 h' tk q1 q2 q3 z' TO' h1' h2' h3' hT hsz hk => ?_
    obtain ⟨x, hx, rx⟩ := p1 _ _ q1
    obtain ⟨y, hy, ry⟩ := p2 _ _ q2
    obtain ⟨w, hw, rw'⟩ := p3 _ _ q3
    refine ⟨_, rfl, wpAny_letOwnedTupleGo_zip (s := { s with heap := h', toks := tk }) z' fun h'' z'' sb => ?_⟩
    have hT2 : h''.get? s.heap.objs.size = some { cls := .type "tuple", data := .seq #[w1, w2, w3] } := (sb.2 _ (Nat.ne_of_gt hzl)).trans hT
    have new : ObjOk X.prog X.w (upd H s.heap.objs.size (.tup [x, y, w])) h'' s.heap.objs.size (.tup [x, y, w]) :=
      ⟨by show 3 ≤ sizeLine; decide, [w1, w2, w3], .cons rx (.cons ry (.cons rw' .nil)), ⟨_, hT2, rfl, _, rfl⟩⟩
    have I1 : Inv X pins σ (upd H s.heap.objs.size (.tup [x, y, w])) { s with heap := h'', toks := tk } :=
      I.turnedNew (t' := tk) (ch := [z, TI, TO, i1, i2, i3]) (fun c o hb q => (sb.2 c (fun q' => hb (by simp [q']))).trans (hk c o (fun q' => hb (by simp [q'])) (fun q' => hb (by simp [q'])) (fun q' => hb (by simp [q'])) (fun q' => hb (by simp [q'])) (fun q' => hb (by simp [q'])) q)) hf (Nat.le_refl _) new
    refine ⟨.ref s.heap.objs.size, _, I1, rfl, ⟨_, _, rfl, I.hok.fresh (Nat.le_refl _), rfl, rows3_get hx hy hw⟩, ⟨⟨z'', ?_, ⟨w1, w2, w3, ?_⟩, ?_, ?_, ?_⟩, by omega, by omega, by omega⟩, fun c hcm => ?_⟩
    · exact (sb.2 _ D.TIz).trans (hk _ _ D.TIz D.TITO D.TIi1 D.TIi2 D.TIi3 hTI)
    · exact (sb.2 _ D.TOz).trans TO'
    · exact SrcV.at_keep (a1 _ _ h1') fun o q => (sb.2 _ (Ne.symm D.zi1)).trans q
    · exact SrcV.at_keep (a2 _ _ h2') fun o q => (sb.2 _ (Ne.symm D.zi2)).trans q
    · exact SrcV.at_keep (a3 _ _ h3') fun o q => (sb.2 _ (Ne.symm D.zi3)).trans q
    · have hlt : c < s.heap.objs.size := by
        have e' : c = z ∨ c = TI ∨ c = TO ∨ c = i1 ∨ c = i2 ∨ c = i3 := by simpa using hcm
        rcases e' with q | q | q | q | q | q
        · rw [q]; exact hzl
        · rw [q]; exact Heap.lt_size hTI
        · rw [q]; exact Heap.lt_size hTO
        · rw [q]; obtain ⟨_, e1, _⟩ := SrcV.at_obj h1; exact Heap.lt_size e1
        · rw [q]; obtain ⟨_, e2, _⟩ := SrcV.at_obj h2; exact Heap.lt_size e2
        · rw [q]; obtain ⟨_, e3, _⟩ := SrcV.at_obj h3; exact Heap.lt_size e3
      rw [upd_ne (Nat.ne_of_lt hlt)]
      exact (hf c hcm).1
  done := by
    intro X hP hw hK hc i pins s σ H E I hf st hg
    subst hP hw hK
    obtain ⟨⟨hz, hTI, ⟨x0, y0, z0, hTO⟩, h1, h2, h3⟩, l1, l2, l3⟩ := st
    obtain ⟨⟨ou, ov, or⟩, hge⟩ := hg
    rw [rows3_len] at hge
    obtain ⟨P1, St1, D1, s1, p1, a1⟩ := u.draws I (I.ok.hd hc) ou hu h1
    obtain ⟨P2, St2, D2, s2, p2, a2⟩ := v.draws I (I.ok.hd hc) ov hv h2
    obtain ⟨P3, St3, D3, s3, p3, a3⟩ := r.draws I (I.ok.hd hc) or hr h3
    exact wpAny_pyNext_zipD3_end D D1 D2 D3 hz hTI hTO s1 s2 s3 l1 l2 l3 (by omega) fun h' tk hk => ⟨rfl, I.turnedL (t' := tk) (ch := [z, TI, TO, i1, i2, i3]) (fun c o hb q =>
      hk c o (fun q' => hb (by simp [q'])) (fun q' => hb (by simp [q'])) (fun q' => hb (by simp [q'])) (fun q' => hb (by simp [q'])) (fun q' => hb (by simp [q'])) q) hf⟩
  self := fun A i s Q E st h => wpAny_pyIter_zip st.1.1 h
abbrev rZipG3 (K : PySem.W.Frag) (ta : TA) : TI := fun σ H R => ta σ H fun vs H1 => ∃ u v r : SrcV, vs = [u.v, v.v, r.v] ∧ (u.ok K H1 ∧ v.ok K H1 ∧ r.ok K H1) ∧ R (Itg (fun H => u.ok K H ∧ v.ok K H ∧ r.ok K H) (rows3 u.its v.its r.its)) H1
theorem pi_zipG3 {X : Cx} {e e2 e3 : Expr} {ta : TA} {p pos tpos : Pos} {elts : List Expr} {kk : Nat} (hg : Gl X "zip") (hm : X.mg "zip" = none) (ha : PA X [e, e2, e3] ta)
    (hs : starEach [e, e2, e3] X.env = (false, eval e X.env) :: starEach [e2, e3] X.env := by rfl) (hpl : (backTo pos (starEach [e2, e3] X.env)).any (·.1) = false := by rfl) :
    PI X (.Tuple elts kk tpos) (.Call (.Name "zip" p) [e, e2, e3] [] pos) (rZipG3 X.K ta) := by
  refine ⟨fun pins s σ H R I h => ?_⟩
  refine Call_ (ld_blt I hg hm PyProof.Rows.boot_zip (PyProof.Rows.callWith_type1 (thn (ha.run pos pins s σ H _ I h) fun us s1 ⟨vs, H1, I1, r1, q1⟩ => ?_) hs hpl))
  obtain ⟨u, v, r, ex, ⟨ou, ov, or⟩, q⟩ := q1
  subst ex
  cases r1 with
  | cons ru rr =>
    cases rr with
    | cons rv rr =>
    obtain ⟨w3, rfl, rw'⟩ := vals1 rr
    obtain ⟨o1, C1, B1, c1, l1, a1⟩ := u.begins I1 ou ru
    obtain ⟨o2, C2, B2, c2, l2, a2⟩ := v.begins I1 ov rv
    obtain ⟨o3, C3, B3, c3, l3, a3⟩ := r.begins I1 or rw'
    refine zip_begins3 B1 B2 B3 c1 c2 c3 fun h' hz hTI hTO g1 g2 g3 hsz hk => wpAny_pyIter_zip hz ?_
    have I2 : Inv X pins σ H1 { s1 with heap := h' } := I1.kept (t' := s1.toks) hk
    have n1 : s1.heap.objs.size ∉ u.ads := fun q => absurd (l1 _ q) (Nat.lt_irrefl _)
    have n2 : s1.heap.objs.size + 1 ∉ v.ads := fun q => absurd (l2 _ q) (Nat.not_lt.mpr (Nat.le_succ _))
    have n3 : s1.heap.objs.size + 2 ∉ r.ads := fun q => absurd (l3 _ q) (Nat.not_lt.mpr (Nat.le_add_right _ _))
    refine ⟨s1.heap.objs.size + 5, [s1.heap.objs.size + 5, s1.heap.objs.size + 3, s1.heap.objs.size + 4, s1.heap.objs.size, s1.heap.objs.size + 1, s1.heap.objs.size + 2], _, _, H1, rfl, I2, turn_zipG3 u v r (zip_sep3 l1 l2 l3) n1 n2 n3, ⟨⟨hz, hTI, ⟨_, _, _, hTO⟩, a1 _ _ g1, a2 _ _ g2, a3 _ _ g3⟩, Nat.zero_le _, Nat.zero_le _, Nat.zero_le _⟩, fun c hcm => ?_, q⟩
    have e' : c = s1.heap.objs.size + 5 ∨ c = s1.heap.objs.size + 3 ∨ c = s1.heap.objs.size + 4 ∨ c = s1.heap.objs.size ∨ c = s1.heap.objs.size + 1 ∨ c = s1.heap.objs.size + 2 := by simpa using hcm
    have hle : s1.heap.objs.size ≤ c := by
      rcases e' with z | z | z | z | z | z
      · rw [z]; exact Nat.le_add_right _ _
      · rw [z]; exact Nat.le_add_right _ _
      · rw [z]; exact Nat.le_add_right _ _
      · rw [z]; exact Nat.le_refl _
      · rw [z]; exact Nat.le_add_right _ _
      · rw [z]; exact Nat.le_add_right _ _
    exact I1.fpOk hle (I1.hok.fresh hle)
end DL

/-! DL27: enumerate, zip over plain data; a text in a text; isinstance of dicts. -/
namespace DL
open PySem PySem.Spec L2 PyProof.Rows
def seqD : PyData → Option (List PyData)
  | .list l => some l
  | .tuple l => some l
  | .str s => some (s.cps.toList.map fun c => .str (S [c]))
  | _ => none
section
variable {X : Cx} {R : XP} {K : PySem.W.Frag} {e a b c tg iter : Expr} {es : List Expr} {pos : Pos} {wa wb wc : WE} {oa ob oc : WO}
theorem src_of {F : Hp} {v : V} {d : PyData} {ds : List PyData} (h : DV K F v d) (e : seqD d = some ds) : ∃ z : SrcV, v = z.v ∧ (∀ F' H', Same F F' → Same F' H' → z.ok K H') ∧ DVs K F z.its ds := by
  cases h with
  | lst h q => cases e; exact ⟨.l _ _, rfl, fun F' H' s s' => SqL.of (s' _ _ (s _ _ h)), q⟩
  | tup h q => cases e; exact ⟨.t _ _, rfl, fun F' H' s s' => SqT.of (s' _ _ (s _ _ h)), q⟩
  | str x =>
    cases e
    refine ⟨.s x, rfl, fun _ _ _ _ => True.intro, ?_⟩
    show DVs K F (x.cps.toList.map fun c => V.str (S [c])) _
    have := DVs.ofStrs (K := K) (F := F) (ns := x.cps.toList.map fun c => S [c])
    simpa [List.map_map, Function.comp_def] using this
  | _ => cases e
theorem walk_g {F : Hp} {C : Hp → Prop} {rows : List (List V)} {ds : List PyData} (hC : ∀ F' H', Same F F' → Same F' H' → C H') (hl : rows.length = ds.length)
    (hr : ∀ (i : Nat) row d, rows[i]? = some row → ds[i]? = some d → ∃ es, d = .tuple es ∧ DVs K F row es) : Walks K (Itg C rows) F ds where
  stop := fun F' H' s s' => ⟨hC F' H' s s', by omega⟩
  go := fun i d F' H' e s s' => by
    have hi : i < rows.length := by rw [hl]; exact (List.getElem?_eq_some_iff.mp e).1
    refine ⟨⟨hC F' H' s s', hi⟩, fun x H'' hy => ?_⟩
    obtain ⟨T, row, rfl, nT, rfl, er⟩ := hy
    obtain ⟨es, rfl, q⟩ := hr i row d er e
    have g := Grow.newF (o := .tup row) s' nT
    exact ⟨_, g, .tup upd_same ((q.same s).same g.f)⟩
theorem enumR_data {F : Hp} : ∀ {vs : List V} {ds : List PyData} (n i : Nat) (row : List V) (d : PyData), DVs K F vs ds → (enumR n vs)[i]? = some row → (enumD n ds)[i]? = some d → ∃ es, d = .tuple es ∧ DVs K F row es
  | _, _, n, i, row, d, .nil, h, _ => by simp [enumR] at h
  | _, _, n, 0, row, d, .cons r q, h, h' => by
    simp [enumR] at h
    simp [enumD] at h'
    subst h h'
    exact ⟨_, rfl, .cons (.int _) (.cons r .nil)⟩
  | _, _, n, i + 1, row, d, .cons r q, h, h' => by
    simp only [enumR, enumD, List.getElem?_cons_succ] at h h'
    exact enumR_data (n + 1) i row d q h h'
def iE2 (wl : WL) : WI := fun xn M Q => wl xn M fun l M1 => match l with
  | [d] => match seqD d with
    | some ds => Q (enumD 0 ds) M1
    | none => False
  | _ => False
theorem dI_enumG {p tpos : Pos} {elts : List Expr} {kk : Nat} {wl : WL} (hg : Gl X "enumerate") (hm : X.mg "enumerate" = none) (h : DL X R [a] wl) (hs : starEach [a] X.env = [(false, eval a X.env)] := by rfl) :
    DI X R (.Tuple elts kk tpos) (.Call (.Name "enumerate" p) [a] [] pos) (iE2 wl) := by
  obtain ⟨t, p, q⟩ := h.ex
  refine ⟨_, pi_enumG hg hm p hs, fun {F0 H0 F H W M σ xn Q k} r l hw kk => q r l hw fun vs ds M1 F1 H1 s1 r1 dv z => ?_⟩
  cases dv with
  | nil => exact z.elim
  | cons d1 dv =>
    cases dv with
    | cons _ _ => exact z.elim
    | nil =>
      rename_i v d
      cases es : seqD d with
      | none => simp only [es] at z
      | some ds =>
        simp only [es] at z
        obtain ⟨sz, rfl, ok, dz⟩ := src_of d1 es
        exact ⟨sz, rfl, ok F1 H1 (.refl _) r1.sub, kk _ _ _ _ _ s1 r1 (walk_g (fun F' H' s s' => ok F' H' s s') (by rw [enumR_len, enumD_len, dz.len]) fun i row d h1 h2 => enumR_data 0 i row d dz h1 h2) z⟩
theorem rows2_data {F : Hp} : ∀ {vs ws : List V} {ds es : List PyData} (i : Nat) (row : List V) (d : PyData), DVs K F vs ds → DVs K F ws es → (rows2 vs ws)[i]? = some row → (zipD ds es)[i]? = some d → ∃ es, d = .tuple es ∧ DVs K F row es
  | _, _, _, _, i, row, d, .nil, _, h, _ => by simp [rows2] at h
  | _, _, _, _, i, row, d, .cons _ _, .nil, h, _ => by simp [rows2] at h
  | _, _, _, _, 0, row, d, .cons r q, .cons r' q', h, h' => by
    simp [rows2] at h
    simp [zipD] at h'
    subst h h'
    exact ⟨_, rfl, .cons r (.cons r' .nil)⟩
  | _, _, _, _, i + 1, row, d, .cons r q, .cons r' q', h, h' => by
    simp only [rows2, zipD, List.getElem?_cons_succ] at h h'
    exact rows2_data i row d q q' h h'
def iZ2 (wl : WL) : WI := fun xn M Q => wl xn M fun l M1 => match l with
  | [d, e] => match seqD d, seqD e with
    | some ds, some es => Q (zipD ds es) M1
    | _, _ => False
  | _ => False
theorem dI_zipG {p tpos : Pos} {elts : List Expr} {kk : Nat} {wl : WL} (hg : Gl X "zip") (hm : X.mg "zip" = none) (h : DL X R [a, b] wl) (hs : starEach [a, b] X.env = (false, eval a X.env) :: starEach [b] X.env := by rfl) (hpl : (backTo pos (starEach [b] X.env)).any (·.1) = false := by rfl) :
    DI X R (.Tuple elts kk tpos) (.Call (.Name "zip" p) [a, b] [] pos) (iZ2 wl) := by
  obtain ⟨t, p, q⟩ := h.ex
  refine ⟨_, pi_zipG2 hg hm p hs hpl, fun {F0 H0 F H W M σ xn Q k} r l hw kk => q r l hw fun vs ds M1 F1 H1 s1 r1 dv z => ?_⟩
  cases dv with
  | nil => exact z.elim
  | cons d1 dv =>
    cases dv with
    | nil => exact z.elim
    | cons d2 dv =>
      cases dv with
      | cons _ _ => exact z.elim
      | nil =>
        rename_i v1 x1 v2 x2
        cases e1 : seqD x1 with
        | none => simp only [e1] at z
        | some ds =>
          cases e2 : seqD x2 with
          | none => simp only [e1, e2] at z
          | some es =>
            simp only [e1, e2] at z
            obtain ⟨z1, rfl, ok1, dz1⟩ := src_of d1 e1
            obtain ⟨z2, rfl, ok2, dz2⟩ := src_of d2 e2
            exact ⟨z1, z2, rfl, ⟨ok1 F1 H1 (.refl _) r1.sub, ok2 F1 H1 (.refl _) r1.sub⟩, kk _ _ _ _ _ s1 r1 (walk_g (fun F' H' s s' => ⟨ok1 F' H' s s', ok2 F' H' s s'⟩) (by rw [rows2_len, zipD_len, dz1.len, dz2.len]) fun i row d h1 h2 => rows2_data i row d dz1 dz2 h1 h2) z⟩
def zipD3 : List PyData → List PyData → List PyData → List PyData
  | x :: xs, y :: ys, z :: zs => .tuple [x, y, z] :: zipD3 xs ys zs
  | _, _, _ => []
theorem zipD3_get : ∀ {xs ys zs : List PyData} {i : Nat} {d : PyData}, (zipD3 xs ys zs)[i]? = some d → ∃ x y z, xs[i]? = some x ∧ ys[i]? = some y ∧ zs[i]? = some z ∧ d = .tuple [x, y, z]
  | [], _, _, i, d, h => by simp [zipD3] at h
  | _ :: _, [], _, i, d, h => by simp [zipD3] at h
  | _ :: _, _ :: _, [], i, d, h => by simp [zipD3] at h
  | x :: xs, y :: ys, z :: zs, 0, d, h => by simp [zipD3] at h; exact ⟨x, y, z, rfl, rfl, rfl, h.symm⟩
  | x :: xs, y :: ys, z :: zs, i + 1, d, h => by
    simp only [zipD3, List.getElem?_cons_succ] at h
    obtain ⟨a, b, c, h1, h2, h3, h4⟩ := zipD3_get h
    exact ⟨a, b, c, by simpa using h1, by simpa using h2, by simpa using h3, h4⟩
theorem zipD3_len : ∀ (xs ys zs : List PyData), (zipD3 xs ys zs).length = min (min xs.length ys.length) zs.length
  | [], ys, zs => by simp [zipD3]
  | _ :: _, [], zs => by simp [zipD3]
  | _ :: _, _ :: _, [] => by simp [zipD3]
  | x :: xs, y :: ys, z :: zs => by simp [zipD3, zipD3_len xs ys zs]
theorem rows3_data {F : Hp} : ∀ {vs ws us : List V} {ds es gs : List PyData} (i : Nat) (row : List V) (d : PyData), DVs K F vs ds → DVs K F ws es → DVs K F us gs → (rows3 vs ws us)[i]? = some row → (zipD3 ds es gs)[i]? = some d → ∃ es, d = .tuple es ∧ DVs K F row es
  | _, _, _, _, _, _, i, row, d, .nil, _, _, h, _ => by simp [rows3] at h
  | _, _, _, _, _, _, i, row, d, .cons _ _, .nil, _, h, _ => by simp [rows3] at h
  | _, _, _, _, _, _, i, row, d, .cons _ _, .cons _ _, .nil, h, _ => by simp [rows3] at h
  | _, _, _, _, _, _, 0, row, d, .cons r q, .cons r' q', .cons r'' q'', h, h' => by
    simp [rows3] at h
    simp [zipD3] at h'
    subst h h'
    exact ⟨_, rfl, .cons r (.cons r' (.cons r'' .nil))⟩
  | _, _, _, _, _, _, i + 1, row, d, .cons r q, .cons r' q', .cons r'' q'', h, h' => by
    simp only [rows3, zipD3, List.getElem?_cons_succ] at h h'
    exact rows3_data i row d q q' q'' h h'
def iZ3 (wl : WL) : WI := fun xn M Q => wl xn M fun l M1 => match l with
  | [d, e, f] => match seqD d, seqD e, seqD f with
    | some ds, some es, some fs => Q (zipD3 ds es fs) M1
    | _, _, _ => False
  | _ => False
theorem dI_zipG3 {p tpos : Pos} {elts : List Expr} {kk : Nat} {wl : WL} (hg : Gl X "zip") (hm : X.mg "zip" = none) (h : DL X R [a, b, c] wl) (hs : starEach [a, b, c] X.env = (false, eval a X.env) :: starEach [b, c] X.env := by rfl) (hpl : (backTo pos (starEach [b, c] X.env)).any (·.1) = false := by rfl) :
    DI X R (.Tuple elts kk tpos) (.Call (.Name "zip" p) [a, b, c] [] pos) (iZ3 wl) := by
  obtain ⟨t, p, q⟩ := h.ex
  refine ⟨_, pi_zipG3 hg hm p hs hpl, fun {F0 H0 F H W M σ xn Q k} r l hw kk => q r l hw fun vs ds M1 F1 H1 s1 r1 dv z => ?_⟩
  cases dv with
  | nil => exact z.elim
  | cons d1 dv =>
    cases dv with
    | nil => exact z.elim
    | cons d2 dv =>
      cases dv with
      | nil => exact z.elim
      | cons d3 dv =>
        cases dv with
        | cons _ _ => exact z.elim
        | nil =>
          rename_i v1 x1 v2 x2 v3 x3
          cases e1 : seqD x1 with
          | none => simp only [e1] at z
          | some ds =>
            cases e2 : seqD x2 with
            | none => simp only [e1, e2] at z
            | some es =>
              cases e3 : seqD x3 with
              | none => simp only [e1, e2, e3] at z
              | some fs =>
                simp only [e1, e2, e3] at z
                obtain ⟨z1, rfl, ok1, dz1⟩ := src_of d1 e1
                obtain ⟨z2, rfl, ok2, dz2⟩ := src_of d2 e2
                obtain ⟨z3, rfl, ok3, dz3⟩ := src_of d3 e3
                exact ⟨z1, z2, z3, rfl, ⟨ok1 F1 H1 (.refl _) r1.sub, ok2 F1 H1 (.refl _) r1.sub, ok3 F1 H1 (.refl _) r1.sub⟩, kk _ _ _ _ _ s1 r1 (walk_g (fun F' H' s s' => ⟨ok1 F' H' s s', ok2 F' H' s s', ok3 F' H' s s'⟩) (by rw [rows3_len, zipD3_len, dz1.len, dz2.len, dz3.len]) fun i row d h1 h2 => rows3_data i row d dz1 dz2 dz3 h1 h2) z⟩
/-! a text in a text -/
def inL (y x : List Nat) : Bool := (List.range (x.length + 1)).any fun i => decide ((x.drop i).take y.length = y)
theorem inL_iff {y x : List Nat} : inL y x = true ↔ ∃ i, i + y.length ≤ x.length ∧ (x.drop i).take y.length = y := by
  unfold inL
  rw [List.any_eq_true]
  constructor
  · rintro ⟨i, hi, h⟩
    have h := of_decide_eq_true h
    have hi := List.mem_range.mp hi
    refine ⟨i, ?_, h⟩
    have := congrArg List.length h
    rw [List.length_take, List.length_drop] at this
    omega
  · rintro ⟨i, hi, h⟩
    exact ⟨i, List.mem_range.mpr (by omega), decide_eq_true h⟩
theorem occ_in (x y : Str) : (!(Builtin.Str.occurrences x y 0 x.length 1).isEmpty) = inL y.cps.toList x.cps.toList := by
  rw [Bool.eq_iff_iff, PySem.StrLaws.found_iff, inL_iff, ← strLen, ← strLen]
  have key : ∀ i, Builtin.Str.subAt x y i = true ↔ (x.cps.toList.drop i).take y.length = y.cps.toList := fun i => by
    unfold Builtin.Str.subAt
    show (x.cps.extract i (i + y.length) == y.cps) = true ↔ _
    rw [beq_iff_eq, ← Array.toList_inj, Array.toList_extract, List.extract_eq_take_drop]
    have : i + y.length - i = y.length := by omega
    rw [this]
  constructor
  · rintro ⟨i, h1, h2⟩
    exact ⟨i, h1, (key i).mp h2⟩
  · rintro ⟨i, h1, h2⟩
    exact ⟨i, h1, (key i).mpr h2⟩
def fInB : DF2 := fun x y Q => match x, y with
  | .str a, .str b => Q (.bool (inL a.cps.toList b.cps.toList))
  | x, y => fInA x y Q
def fNinB : DF2 := fun x y Q => match x, y with
  | .str a, .str b => Q (.bool (!inL a.cps.toList b.cps.toList))
  | x, y => fNinA x y Q
abbrev rInSt : R2 := fun x y H Q => ∃ i j, x = .str i ∧ y = .str j ∧ Q (.bl (!(Builtin.Str.occurrences j i 0 j.length 1).isEmpty)) H
abbrev rNinSt : R2 := fun x y H Q => ∃ i j, x = .str i ∧ y = .str j ∧ Q (.bl (!(!(Builtin.Str.occurrences j i 0 j.length 1).isEmpty))) H
theorem op_notIn_str : OpR X (compareOp .NotIn) rNinSt := by
  intro pins s σ H x y v u Q I rx ry h
  obtain ⟨i, j, rfl, rfl, q⟩ := h
  obtain ⟨t, rfl⟩ := rx
  obtain ⟨t', rfl⟩ := ry
  exact notIn_str (fin_bl I q rfl)
abbrev rInB (K : PySem.W.Frag) : R2 := fun x y H Q => rInSt x y H Q ∨ rInA K x y H Q
abbrev rNinB (K : PySem.W.Frag) : R2 := fun x y H Q => rNinSt x y H Q ∨ rNinA K x y H Q
theorem hInB (hu : X.A.units + 65 < cLine) : OpR X (compareOp .In) (rInB X.K) := OpR.or op_in_str (hInA hu)
theorem hNinB (hu : X.A.units + 65 < cLine) : OpR X (compareOp .NotIn) (rNinB X.K) := OpR.or op_notIn_str (hNinA hu)
theorem dInB : DOp K (rInB K) fInB := by
  intro F H vx vy dx dy Qd k s hx hy h kk
  unfold fInB at h
  split at h
  · have e1 := hx.str
    have e2 := hy.str
    subst e1 e2
    refine .inl ⟨_, _, rfl, rfl, ?_⟩
    rw [occ_in]
    exact kk _ _ _ _ (.refl s) (.bl _) h
  · exact .inr (dInA s hx hy h kk)
theorem dNinB : DOp K (rNinB K) fNinB := by
  intro F H vx vy dx dy Qd k s hx hy h kk
  unfold fNinB at h
  split at h
  · have e1 := hx.str
    have e2 := hy.str
    subst e1 e2
    refine .inl ⟨_, _, rfl, rfl, ?_⟩
    rw [occ_in]
    exact kk _ _ _ _ (.refl s) (.bl _) h
  · exact .inr (dNinA s hx hy h kk)
end
end DL

/-! DL28: own exceptions whose __init__ says super().__init__(..), then self.f = the argument. -/
namespace DL
open PySem PySem.Spec L2 PyProof.Rows PySem.W PySem.Calls
section
variable {prog : Program} {w : World} {A : Around} {E : Value → Shared → Prop} {h : Heap} {g : Array GenState} {d : Drawn} {t : Nat} {os : OsState}
variable {nm q : Str} {C N : Addr} {bs bm : List Value} {hdct : Bool} {sn : List Str} {sub : List Value} {ab : Bool} {col : Option Bool} {dd : Option Addr} {k0 k1 k2 k3 k5 : Option Value}
theorem call_mw {u e t0 : Addr} {rest : List Value} {Q : Value → Shared → Prop}
    (hC : h.get? C = some (excClassObj nm q C N bs bm hdct sn sub ab col dd k0 k1 k2 k3 k5 "ValueError.__new__")) (he : h.get? e = some (HandSPX.excO C t0)) (hu : h.get? u = some (kxs_mw "ValueError.__init__" e)) (hrest : rest.length ≤ sizeLine)
    (hq : ∀ h' t1, (∀ b o, b ≠ e → h.get? b = some o → h'.get? b = some o) → h'.get? e = some (HandSPX.excO C t1) → Q .none ⟨h', g, d, t, os⟩) :
    wpAny (model prog w) A (call (.ref u) rest) Q E ⟨h, g, d, t, os⟩ := by
  refine wpAny_call (codeAny_of_tree ?_)
  show wpAny _ A.in1 (callAny (.ref u) ⟨rest, []⟩) _ _ _
  simp only [callAny]
  refine wpAny_bind (wpAny_load hu ?_)
  simp only [kxs_mw, show (Value.type "method-wrapper" == Value.type "method" || Value.type "method-wrapper" == Value.type "builtin_function_or_method" || Value.type "method-wrapper" == Value.type "method-wrapper") = true by decide, if_true]
  refine KFB.if_so (by decide) ?_
  refine wpAny_bind (ESX.check_bound F.excBase_ValueError hC he rfl ?_)
  refine wpAny_bind (wpAny_pure (wpAny_pure ?_))
  refine ⟨Code.quiet_builtin _ (by decide +kernel), codeAny_builtin F.excBase_ValueError.initEntry ?_⟩
  rw [Around.under_plainId F.excBase_ValueError.init.plain _]
  wp_walk
  refine hq _ h.objs.size (fun b o hb ho => ?_) ?_
  · rw [Heap.get?_update_other _ _ (Ne.symm hb)]
    exact Heap.get?_push_of_some _ ho
  · rw [Heap.get?_update_self _ (Heap.get?_push_of_some _ he) rfl]
    rfl
end
/-! the texts -/
def ixA (ps : List (Str × Pos)) : Arguments := { posonlyargs := [], args := ps.map fun p => { arg := p.1, annotation := none, pos := p.2 }, vararg := none, kwonlyargs := [], kw_defaults := [], kwarg := none, defaults := [] }
/-- super().__init__(args) -/
def ixS (p0 p1 p2 p3 p4 : Pos) (args : List Expr) : Stmt := .Expr (.Call (.Attribute (.Call (.Name "super" p0) [] [] p1) "__init__" p2) args [] p3) p4
def ixC (ps : List Str) : Scope := { kind := .function, names := ps.map (fun p => (p, NameKind.local)) ++ [(PySem.Str.ofString "__class__", NameKind.free), (PySem.Str.ofString "super", NameKind.globalImplicit)], isGenerator := false, isCoroutine := false, more := [] }
/-- what the written part says of an own class and of its __init__ -/
structure SxC (P : Program) (K : Frag) (mg : Str → Option Value) (C fI : Addr) (ps : List Str) (args : Arguments) (body : List Stmt) : Prop where
  oex : OexC K C
  iC : findIn K (.ref C) "__init__" = some (some (.ref fI))
  tI : typeIn K (.ref fI) = some (.type "function")
  sup : ks_superIn K C C "__init__" = some (some (.builtin "ValueError.__init__"))
  sB : subIn K (.ref C) (.type "ValueError") = some true
  sC : mroIn K C (.ref C) = some true
  opq : nsIn K cStatics "thirdparty.any" = some none
  gS : mg "super" = none
  top : (P.main.scope.names.lookup ("super" : Str)).isSome = false
  fn : ∃ (cc cda : Addr) (oc : Value) (od : Option Addr) (qual : Str) (kV doc pm ct : Value) (an : Option Addr) (osl : Array (Option Value)) (ccl cl : Value) (cdd cld : Option Addr) (ccs csl : Array (Option Value)) (vs : Array Value) (file : Str) (tf : Tok),
    K.lookup fI = some ⟨oc, od, .func (fnX "__init__" qual args body (ixC ps) [("__class__", cc)] .none kV doc pm an (.ref cda) ct), osl⟩ ∧ codeIn K (.ref cda) qual = true ∧
    K.lookup cc = some ⟨cl, cld, .cell (some (.ref C)), csl⟩ ∧ K.lookup cda = some ⟨ccl, cdd, .fields vs, ccs⟩ ∧ vs[2]? = some (.str file tf) ∧ ((P.main.file : Str) == file) = true
theorem boot_super : bootBuiltins ("super" : Str) = some (.type "super") := by first | rfl | decide +kernel | kernel_rfl
section
variable {prog : Program} {w : World} {A : Around} {R : Result → Shared → Prop} {K : Frag} {mg : Str → Option Value} {base : Heap} {C fI : Addr}
/-- behind super(): the super object, the wrapper -/
theorem super_then {s : Shared} {x t0 : Addr} {env : Env} {body : List Stmt} {p0 p1 p2 p3 : Pos} {args : List Expr} {E : Value → Shared → Prop} {Q : Value → Shared → Prop} {f cc cda : Addr} {fd : FuncData} {m : Str → Option Value} {of : Obj} {vs : Array Value} {file : Str} {tf : Tok} {ccl cl : Value} {cdd cld : Option Addr} {ccs csl : Array (Option Value)} {pl : Sem Bool}
    (oex : OexC K C) (sup : ks_superIn K C C "__init__" = some (some (.builtin "ValueError.__init__"))) (sB : subIn K (.ref C) (.type "ValueError") = some true) (sC : mroIn K C (.ref C) = some true) (opq : nsIn K cStatics "thirdparty.any" = some none)
    (M : Mod K mg base) (gS : mg "super" = none) (top : (prog.main.scope.names.lookup ("super" : Str)).isSome = false) (hb : ∀ b o, base.get? b = some o → s.heap.get? b = some o) (X : K.In s.heap)
    (hks : env.kindOf "super" = some .globalImplicit) (hkc : env.kindOf "__class__" = some .free) (hself : env.kindOf "self" = some .local) (hkind : env.scope.kind = .function) (hglob : env.globals = mainGlobals) (hblt : env.builtins = builtinsNs) (hcell : env.cells.lookup ("__class__" : Str) = some cc)
    (hfu : env.func = some f) (hf : s.heap.get? f = some of) (hfd : of.data = .func fd) (hp : ∃ p, (fd.params.posonlyargs ++ fd.params.args).head? = some ⟨"self", none, p⟩) (hco : env.code = .ref cda)
    (hcc : K.lookup cc = some ⟨cl, cld, .cell (some (.ref C)), csl⟩) (hcda : K.lookup cda = some ⟨ccl, cdd, .fields vs, ccs⟩) (hvs : vs[2]? = some (.str file tf)) (hfile : ((prog.main.file : Str) == file) = true)
    (hns : s.heap.Ns env.locals m) (hm : m "self" = some (.ref x)) (hx : s.heap.get? x = some (HandSPX.excO C t0)) (hCx : x ≠ C)
    (heq : eval (.Call (.Attribute (.Call (.Name "super" p0) [] [] p1) "__init__" p2) args [] p3) env = (do
      let ov ← attributeBase (.Call (.Name "super" p0) [] [] p1) "__init__" env (eval (.Call (.Name "super" p0) [] [] p1) env)
      standAt p2.atName
      let (f, first) ← holding [ov] (getMethod ov "__init__" pl)
      callWith p3 f first (backTo p3 (starEach args env)) []) := by rfl)
    (hgo : ∀ h' tk u, (∀ b o, s.heap.get? b = some o → h'.get? b = some o) → h'.get? u = some (kxs_mw "ValueError.__init__" x) →
      wpAny (model prog w) A (callWith p3 (.ref u) [] (backTo p3 (starEach args env)) []) Q E { s with heap := h', toks := tk }) :
    _root_.PySem.wpAt (model prog w) A (.func body env) (eval (.Call (.Attribute (.Call (.Name "super" p0) [] [] p1) "__init__" p2) args [] p3) env) Q E s := by
  obtain ⟨nm, q, N, bs, bm, sn, sub, ab, col, dd, k0, k1, k2, k3, k5, hC, hbm⟩ := oex.cls
  have hcl : clsIn K C = some { name := nm, bases := bs, mro := .ref C :: bm, ns := N, qualname := q, hasDict := true, slotNames := sn, subclasses := sub, abstract := ab, collection := col, hasDel := false } := by unfold clsIn; rw [hC] <;> rfl
  obtain ⟨mb, hmb, hbo⟩ := M.blt
  obtain ⟨pp, hp⟩ := hp
  refine ks_wpAt_MethodCall (pl := pl) ?_ heq
  refine ks_wpAt_super_base hks hkc (by decide) hfu hf hfd hp hco (X _ _ hcda) rfl hvs hfile top ?_
  refine ks_loadName_global hkind hks (loadGlobal_builtin (by rw [hglob]; exact M.glob.keeps hb) gS (by rw [hblt]; exact hmb.keeps hb) ((hbo _ (by decide)).trans boot_super) ⟨rfl, ?_⟩)
  refine wpAny_loadName_free hkind hkc hcell ⟨_, X _ _ hcc, rfl⟩ ?_
  refine wpAny_loadName_local hkind hself hns hm ?_
  refine ks_wpAny_isType_cls (X _ _ hC) rfl ⟨rfl, ?_⟩
  obtain ⟨hp', g, d, tk, os⟩ := s
  refine ks_wpAny_call_super (X _ _ hC) rfl hx rfl (fun c z => nomatch z) (looks_mroIn X sC) fun h1 e1 k1' => ?_
  have X1 : K.In h1 := X.keeps k1'
  have hx1 := k1' _ _ hx
  have I1 : InstAt h1 x (HandSPX.excO C t0) C none := ⟨hx1, rfl, rfl, trivial⟩
  have hI : Looks (model prog w) h1 (isInstance (.ref x) (.type "ValueError")) true := I1.type.andThen (looks_subIn X1 sB)
  have hm0 := sup
  unfold ks_superIn at hm0
  rw [hcl] at hm0
  refine kxs_getMethod kxs_ValueError e1 (looks_opaque X1 opq) (l₀ := .ref C :: bm) (fun A Q E s k q => wpAny_bind ((looks_clsIn X1 hcl) A _ E s k (wpAny_pure q))) rfl X1 hm0 hI hCx (by decide) ?_
  exact hgo _ _ _ (fun b o e => Heap.get?_push_of_some _ (k1' b o e)) (Heap.get?_push_at rfl rfl)
structure InitEnd1 (h h' : Heap) (x C dx t1 : Addr) (f : Str) (v : Value) : Prop where
  keep : ∀ b o, b ≠ x → h.get? b = some o → h'.get? b = some o
  obj : h'.get? x = some { cls := .ref C, dict := some dx, data := .fields #[.ref t1, .none, .none, .none, .bool false, .none] }
  dbig : h.objs.size ≤ dx
  dne : dx ≠ x
  ns : h'.Ns1 dx (fun y => if y = f then some v else none)
theorem ldN {M : Model} {A : Around} {s : Shared} {env : Env} {m : Str → Option Value} {x : Str} {pos : Pos} {v : Value} {Q : Value → Shared → Prop} {E : Value → Shared → Prop} (hn : s.heap.Ns env.locals m) (hv : m x = some v) (h : Q v s)
    (hk : env.scope.kind = .function) (hl : env.kindOf x = some .local) (hd : (x == ("__debug__" : Str)) = false := by decide) : wpAny M A (eval (.Name x pos) env) Q E s := wpAny_Name (wpAny_loadName_local hk hl hn hv h) hd
theorem eval_super1 {p0 p1 p2 p3 p7 : Pos} {x : Str} {env : Env} (hl : (p2.endLine == p3.line) = true) : eval (.Call (.Attribute (.Call (.Name "super" p0) [] [] p1) "__init__" p2) [.Name x p7] [] p3) env = (do
      let ov ← attributeBase (.Call (.Name "super" p0) [] [] p1) "__init__" env (eval (.Call (.Name "super" p0) [] [] p1) env)
      standAt p2.atName
      let (f, first) ← holding [ov] (getMethod ov "__init__" (do return (← importBound (.Call (.Name "super" p0) [] [] p1) env).getD true))
      callWith p3 f first (backTo p3 (starEach [.Name x p7] env)) []) := by
  have e : eval (.Call (.Attribute (.Call (.Name "super" p0) [] [] p1) "__init__" p2) [.Name x p7] [] p3) env = (do
      let ov ← attributeBase (.Call (.Name "super" p0) [] [] p1) "__init__" env (eval (.Call (.Name "super" p0) [] [] p1) env)
      standAt p2.atName
      methodCall (.Call (.Name "super" p0) [] [] p1) "__init__" p2 p3 env ov 1 (backTo p3 (starEach [.Name x p7] env)) []) := by rfl
  rw [e]
  have f : ∀ ov, methodCall (.Call (.Name "super" p0) [] [] p1) "__init__" p2 p3 env ov 1 (backTo p3 (starEach [.Name x p7] env)) [] = (do
      let (f, first) ← holding [ov] (getMethod ov "__init__" (do return (← importBound (.Call (.Name "super" p0) [] [] p1) env).getD true))
      callWith p3 f first (backTo p3 (starEach [.Name x p7] env)) []) := fun ov => by
    unfold methodCall methodCallPos
    rw [hl]
    rfl
  simp only [f]
theorem eval_super0 {p0 p1 p2 p3 : Pos} {env : Env} (hl : (p2.endLine == p3.line) = true) : eval (.Call (.Attribute (.Call (.Name "super" p0) [] [] p1) "__init__" p2) [] [] p3) env = (do
      let ov ← attributeBase (.Call (.Name "super" p0) [] [] p1) "__init__" env (eval (.Call (.Name "super" p0) [] [] p1) env)
      standAt p2.atName
      let (f, first) ← holding [ov] (getMethod ov "__init__" (do return (← importBound (.Call (.Name "super" p0) [] [] p1) env).getD true))
      callWith p3 f first (backTo p3 (starEach [] env)) []) := by
  have e : eval (.Call (.Attribute (.Call (.Name "super" p0) [] [] p1) "__init__" p2) [] [] p3) env = (do
      let ov ← attributeBase (.Call (.Name "super" p0) [] [] p1) "__init__" env (eval (.Call (.Name "super" p0) [] [] p1) env)
      standAt p2.atName
      methodCall (.Call (.Name "super" p0) [] [] p1) "__init__" p2 p3 env ov 0 (backTo p3 (starEach [] env)) []) := by rfl
  rw [e]
  have f : ∀ ov, methodCall (.Call (.Name "super" p0) [] [] p1) "__init__" p2 p3 env ov 0 (backTo p3 (starEach [] env)) [] = (do
      let (f, first) ← holding [ov] (getMethod ov "__init__" (do return (← importBound (.Call (.Name "super" p0) [] [] p1) env).getD true))
      callWith p3 f first (backTo p3 (starEach [] env)) []) := fun ov => by
    unfold methodCall methodCallPos
    rw [hl]
    rfl
  simp only [f]
theorem limit_init {s : Shared} {p0 p1 p2 p3 p4 p5 p6 p7 q1 q2 q3 q4 : Pos} (T : SxC prog K mg C fI ["self", "limit"] (ixA [("self", p5), ("limit", p6)]) [ixS p0 p1 p2 p3 p4 [.Name "limit" p7], .Assign [.Attribute (.Name "self" q1) "limit" q2] (.Name "limit" q3) q4]) (hl : (p2.endLine == p3.line) = true) (noN : findIn K (.ref C) "limit" = some none) (M : Mod K mg base) (hb : ∀ b o, base.get? b = some o → s.heap.get? b = some o)
    {x t0 : Addr} {v : Value} (X : K.In s.heap) (hlim : s.heap.NoLimit) (hx : s.heap.get? x = some (HandSPX.excO C t0)) (hnx : K.lookup x = none) (hroom : A.depth < recursionLimit)
    (hq : ∀ h' tk dx t1, InitEnd1 s.heap h' x C dx t1 "limit" v → R (.ok (.ret .none)) { s with heap := h', toks := tk }) :
    codeAny (model prog w) A (.call (.ref fI) ⟨[.ref x, v], []⟩) R s := by
  obtain ⟨cc, cda, oc, od, qual, kV, doc, pm, ct, an, osl, ccl, cl, cdd, cld, ccs, csl, vs, file, tf, ho, hcd, hcc, hcda, hvs, hfile⟩ := T.fn
  obtain ⟨nm, q, N, bs, bm, sn, sub, ab, col, dd, k0, k1, k2, k3, k5, hC, hbm⟩ := T.oex.cls
  have hcl : clsIn K C = some { name := nm, bases := bs, mro := .ref C :: bm, ns := N, qualname := q, hasDict := true, slotNames := sn, subclasses := sub, abstract := ab, collection := col, hasDel := false } := by unfold clsIn; rw [hC] <;> rfl
  have hCx : x ≠ C := fun z => by rw [z, hC] at hnx; cases hnx
  refine ks_codeAny_call_defAt (binds := [("self", .ref x), ("limit", v)]) hroom (X _ _ ho) rfl hlim (codeRec_of X hcd) rfl (BindsTo.of_eq (by first | rfl | with_unfolding_all rfl)) (show ∀ x ∈ (ixC ["self", "limit"]).names, x.2 ≠ .cell from by decide +kernel) (by
    intro y hy
    simp only [List.mem_cons, List.not_mem_nil, or_false] at hy
    rcases hy with rfl | rfl <;> first | rfl | decide +kernel) (fun h₁ hns k => ?_) rfl rfl rfl
  have X₁ : K.In h₁ := X.keeps k
  have hx₁ := k _ _ hx
  have nL : ∀ {b : Addr} {o : Obj}, s.heap.get? b = some o → b ≠ s.heap.objs.size := fun e => Nat.ne_of_lt (Heap.lt_size e)
  refine ks_wpAt_execs_cons (ks_wpAt_Expr_any (super_then (x := x) (t0 := t0) (s := { s with heap := h₁, toks := s.toks + 2 }) T.oex T.sup T.sB T.sC T.opq M T.gS T.top (fun b o e => k b o (hb b o e)) X₁ (by first | rfl | decide +kernel) (by first | rfl | decide +kernel) (by first | rfl | decide +kernel) rfl rfl rfl (by first | rfl | decide +kernel) rfl (X₁ _ _ ho) rfl ⟨_, rfl⟩ rfl hcc hcda hvs hfile hns rfl hx₁ hCx (eval_super1 hl) fun h2 tk2 u k2' hu => ?_))
  have hns2 : h2.Ns s.heap.objs.size (fun y => List.lookup y (List.reverse [("self", .ref x), ("limit", v)])) := hns.at fun o e => k2' _ _ e
  refine kxs_callWith (i := "ValueError.__init__") (x := x) (by first | rfl | decide) (evalArgs_plain ?_)
  refine spliced_more (ldN hns2 (by first | rfl | decide +kernel) ?_ rfl (by first | rfl | decide +kernel)) (by first | rfl | with_unfolding_all rfl)
  refine spliced_none ⟨hu, ?_⟩
  obtain ⟨hp0, g0, d0, tk0, os0⟩ := s
  refine call_mw (nm := nm) (q := q) (hC := (X₁.keeps k2') _ _ hC) (k2' _ _ hx₁) hu (by show 1 ≤ sizeLine; decide) fun h3 t1 k3 e3 => ?_
  have X₃ : K.In h3 := fun a o e => k3 a o (fun z => by rw [z, hnx] at e; cases e) ((X₁.keeps k2') a o e)
  have hns3 : h3.Ns hp0.objs.size (fun y => List.lookup y (List.reverse [("self", .ref x), ("limit", v)])) := hns2.at fun o e => k3 _ _ (Ne.symm (nL hx)) e
  show _root_.PySem.wpAt _ _ _ (execs _ _) _ _ _
  refine ks_wpAt_execs_cons (ks_wpAt_Assign_Attr (wpAt_of_wpAny ?_))
  refine ldN hns3 (by first | rfl | decide +kernel) (ldN hns3 (by first | rfl | decide +kernel) ?_ rfl (by first | rfl | decide +kernel)) rfl (by first | rfl | decide +kernel)
  refine set_plain X₃ (ox := HandSPX.excO C t1) (od := none) ⟨e3, rfl, rfl, trivial⟩ T.oex.sa ?_
  refine HandSPX.exc_osa X₃ e3 hcl (show HandSPX.refsVE (.ref C :: bm) = true from hbm) rfl noN (fun h₄ tk₄ dx k₄ dn dne hx₄ hn₄ => ?_)
  show _root_.PySem.wpAt _ _ _ (execs [] _) _ _ _
  have old : ∀ b o, b ≠ x → hp0.get? b = some o → h₄.get? b = some o := fun b o hb' e => k₄ b o hb' (k3 b o hb' (k2' b o (k b o e)))
  have big : hp0.objs.size ≤ dx := by
    have z : hp0.objs.size < h3.objs.size := by
      obtain ⟨o, es, ep, e, _⟩ := hns3
      exact Heap.lt_size e
    exact Nat.le_of_lt (Nat.lt_of_lt_of_le z dn)
  exact wpAt_of_wpAny (wpAny_execs_nil (hq h₄ tk₄ dx t1 ⟨old, hx₄, big, dne, hn₄⟩))
end
end DL

/-! DL29: Unfit(), TooMany(n) made. -/
namespace DL
open PySem PySem.Spec L2 PyProof.Rows PySem.W PySem.Calls
section
variable {prog : Program} {w : World} {A : Around} {R : Result → Shared → Prop} {K : Frag} {mg : Str → Option Value} {base : Heap} {C fI : Addr}
theorem unfit_init {s : Shared} {p0 p1 p2 p3 p4 p5 : Pos} (T : SxC prog K mg C fI ["self"] (ixA [("self", p5)]) [ixS p0 p1 p2 p3 p4 []]) (hl : (p2.endLine == p3.line) = true) (M : Mod K mg base) (hb : ∀ b o, base.get? b = some o → s.heap.get? b = some o)
    {x t0 : Addr} (X : K.In s.heap) (hlim : s.heap.NoLimit) (hx : s.heap.get? x = some (HandSPX.excO C t0)) (hnx : K.lookup x = none) (hroom : A.depth < recursionLimit)
    (hq : ∀ h' tk t1, (∀ b o, b ≠ x → s.heap.get? b = some o → h'.get? b = some o) → h'.get? x = some (HandSPX.excO C t1) → R (.ok (.ret .none)) { s with heap := h', toks := tk }) :
    codeAny (model prog w) A (.call (.ref fI) ⟨[.ref x], []⟩) R s := by
  obtain ⟨cc, cda, oc, od, qual, kV, doc, pm, ct, an, osl, ccl, cl, cdd, cld, ccs, csl, vs, file, tf, ho, hcd, hcc, hcda, hvs, hfile⟩ := T.fn
  obtain ⟨nm, q, N, bs, bm, sn, sub, ab, col, dd, k0, k1, k2, k3, k5, hC, hbm⟩ := T.oex.cls
  have hCx : x ≠ C := fun z => by rw [z, hC] at hnx; cases hnx
  refine ks_codeAny_call_defAt (binds := [("self", .ref x)]) hroom (X _ _ ho) rfl hlim (codeRec_of X hcd) rfl (BindsTo.of_eq (by first | rfl | with_unfolding_all rfl)) (show ∀ x ∈ (ixC ["self"]).names, x.2 ≠ .cell from by decide +kernel) (by
    intro y hy
    simp only [List.mem_cons, List.not_mem_nil, or_false] at hy
    subst hy
    first | rfl | decide +kernel) (fun h₁ hns k => ?_) rfl rfl rfl
  have X₁ : K.In h₁ := X.keeps k
  have hx₁ := k _ _ hx
  refine ks_wpAt_execs_cons (ks_wpAt_Expr_any (super_then (x := x) (t0 := t0) (s := { s with heap := h₁, toks := s.toks + 1 }) T.oex T.sup T.sB T.sC T.opq M T.gS T.top (fun b o e => k b o (hb b o e)) X₁ (by first | rfl | decide +kernel) (by first | rfl | decide +kernel) (by first | rfl | decide +kernel) rfl rfl rfl (by first | rfl | decide +kernel) rfl (X₁ _ _ ho) rfl ⟨_, rfl⟩ rfl hcc hcda hvs hfile hns rfl hx₁ hCx (eval_super0 hl) fun h2 tk2 u k2' hu => ?_))
  refine kxs_callWith (i := "ValueError.__init__") (x := x) (by first | rfl | decide) (evalArgs_empty ⟨hu, ?_⟩)
  obtain ⟨hp0, g0, d0, tk0, os0⟩ := s
  refine call_mw (nm := nm) (q := q) (hC := (X₁.keeps k2') _ _ hC) (k2' _ _ hx₁) hu (by show 0 ≤ sizeLine; decide) fun h3 t1 k3 e3 => ?_
  show _root_.PySem.wpAt _ _ _ (execs [] _) _ _ _
  exact wpAt_of_wpAny (wpAny_execs_nil (hq h3 _ t1 (fun b o hb' e => k3 b o hb' (k2' b o (k b o e))) e3))
theorem lk_none {hp : Heap} (X : K.In hp) : K.lookup (hp.objs.size + 1) = none := by
  cases e : K.lookup (hp.objs.size + 1) with
  | none => rfl
  | some o =>
    have z : hp.get? (hp.objs.size + 1) = some o := X _ _ e
    exact absurd (Nat.lt_of_succ_lt (Heap.lt_size z)) (Nat.lt_irrefl _)
theorem unfit_made {s : Shared} {p0 p1 p2 p3 p4 p5 : Pos} (T : SxC prog K mg C fI ["self"] (ixA [("self", p5)]) [ixS p0 p1 p2 p3 p4 []]) (hl : (p2.endLine == p3.line) = true) (M : Mod K mg base) (hb : ∀ b o, base.get? b = some o → s.heap.get? b = some o)
    (X : K.In s.heap) (hlim : s.heap.NoLimit) (hroom : A.depth + 1 < recursionLimit)
    (hq : ∀ h' tk e t1, (∀ b o, s.heap.get? b = some o → h'.get? b = some o) → s.heap.objs.size ≤ e → h'.get? e = some (HandSPX.excO C t1) → R (.ok (.ret (.ref e))) { s with heap := h', toks := tk }) :
    codeAny (model prog w) A (.call (.ref C) ⟨[], []⟩) R s := by
  obtain ⟨nm, q, N, bs, bm, sn, sub, ab, col, dd, k0, k1, k2, k3, k5, hC, hbm⟩ := T.oex.cls
  obtain ⟨hp, g, dr, tk, os⟩ := s
  have k : ∀ b o, hp.get? b = some o → ((hp.push (kdv_tup [])).push (HandSPX.excO C hp.objs.size)).get? b = some o := fun b o e => Heap.get?_push_of_some _ (Heap.get?_push_of_some _ e)
  have hget : ((hp.push (kdv_tup [])).push (HandSPX.excO C hp.objs.size)).get? (hp.objs.size + 1) = some (HandSPX.excO C hp.objs.size) := by heap_get
  refine HandSPX.call_own F.excBase_ValueError (fun Y => HandSPX.refsVE_contains Y bm hbm) (X _ _ hC) (looks_findIn X T.iC) (fun self => bind_fn X self T.tI) (by show 0 ≤ sizeLine; decide) ?_
  refine unfit_init (s := ⟨(hp.push (kdv_tup [])).push (HandSPX.excO C hp.objs.size), g, dr, tk, os⟩) T hl M (fun b o e => k b o (hb b o e)) (X.keeps k) (hlim.keeps k) hget (lk_none X) ?_ fun h' tk' t1 k' hx => ?_
  · show A.depth + 1 < recursionLimit
    exact hroom
  · exact ⟨rfl, hq h' tk' (hp.objs.size + 1) t1 (fun b o e => k' b o (Nat.ne_of_lt (Nat.lt_succ_of_lt (Heap.lt_size e))) (k b o e)) (Nat.le_succ _) hx⟩
theorem limit_made {s : Shared} {v : Value} {p0 p1 p2 p3 p4 p5 p6 p7 q1 q2 q3 q4 : Pos} (T : SxC prog K mg C fI ["self", "limit"] (ixA [("self", p5), ("limit", p6)]) [ixS p0 p1 p2 p3 p4 [.Name "limit" p7], .Assign [.Attribute (.Name "self" q1) "limit" q2] (.Name "limit" q3) q4]) (hl : (p2.endLine == p3.line) = true) (noN : findIn K (.ref C) "limit" = some none) (M : Mod K mg base) (hb : ∀ b o, base.get? b = some o → s.heap.get? b = some o)
    (X : K.In s.heap) (hlim : s.heap.NoLimit) (hroom : A.depth + 1 < recursionLimit)
    (hq : ∀ h' tk e d, (∀ b o, s.heap.get? b = some o → h'.get? b = some o) → s.heap.objs.size ≤ e → (∃ oe vs, h'.get? e = some oe ∧ oe.cls = .ref C ∧ oe.dict = some d ∧ oe.data = .fields vs ∧ vs[1]? = some .none) → s.heap.objs.size ≤ d → d ≠ e → h'.Ns1 d (fun y => if y = "limit" then some v else none) → R (.ok (.ret (.ref e))) { s with heap := h', toks := tk }) :
    codeAny (model prog w) A (.call (.ref C) ⟨[v], []⟩) R s := by
  obtain ⟨nm, q, N, bs, bm, sn, sub, ab, col, dd, k0, k1, k2, k3, k5, hC, hbm⟩ := T.oex.cls
  obtain ⟨hp, g, dr, tk, os⟩ := s
  have k : ∀ b o, hp.get? b = some o → ((hp.push (kdv_tup [v])).push (HandSPX.excO C hp.objs.size)).get? b = some o := fun b o e => Heap.get?_push_of_some _ (Heap.get?_push_of_some _ e)
  have hget : ((hp.push (kdv_tup [v])).push (HandSPX.excO C hp.objs.size)).get? (hp.objs.size + 1) = some (HandSPX.excO C hp.objs.size) := by heap_get
  refine HandSPX.call_own F.excBase_ValueError (fun Y => HandSPX.refsVE_contains Y bm hbm) (X _ _ hC) (looks_findIn X T.iC) (fun self => bind_fn X self T.tI) (by show 1 ≤ sizeLine; decide) ?_
  refine limit_init (s := ⟨(hp.push (kdv_tup [v])).push (HandSPX.excO C hp.objs.size), g, dr, tk, os⟩) T hl noN M (fun b o e => k b o (hb b o e)) (X.keeps k) (hlim.keeps k) hget (lk_none X) ?_ fun h' tk' dx t1 ⟨k', hx, dn, dne, hns⟩ => ?_
  · show A.depth + 1 < recursionLimit
    exact hroom
  · have old : ∀ b o, hp.get? b = some o → h'.get? b = some o := fun b o e => k' b o (Nat.ne_of_lt (Nat.lt_succ_of_lt (Heap.lt_size e))) (k b o e)
    have z : hp.objs.size + 1 + 1 ≤ dx := by
      first
        | (simpa only [Heap.size_push] using dn)
        | exact dn
    exact ⟨rfl, hq h' tk' (hp.objs.size + 1) dx old (Nat.le_succ _) ⟨_, _, hx, rfl, rfl, rfl, rfl⟩ (Nat.le_trans (Nat.le_trans (Nat.le_succ _) (Nat.le_succ _)) z) dne hns⟩
end
section
variable {X : Cx} {C fI : Addr}
theorem relO_lim {v : V} {v' : Value} (r : RelV v v') (f : Str) : RelO (List.lookup f [(("limit" : Str), v)]) (if f = "limit" then some v' else none) := by
  rw [lookup_put]
  by_cases hw : f = "limit"
  · rw [if_pos hw, if_pos hw]
    exact r
  · rw [if_neg hw, if_neg hw]
    trivial
/-- TooMany(e) -/
def tMkL (C : Addr) (ta : TA) : L2.St → Hp → XK → Prop := fun σ H Q => ta σ H fun vs H1 => ∃ v, vs = [v] ∧ ∀ d, H1 d = none → Q (.ref C) (some d) (upd H1 d (.xd [(("limit" : Str), v)]))
theorem pmk_limit {a : Expr} {ta : TA} {x : Str} {p pos : Pos} {k : Nat} {p0 p1 p2 p3 p4 p5 p6 p7 q1 q2 q3 q4 : Pos} (T : SxC X.prog X.K X.mg C fI ["self", "limit"] (ixA [("self", p5), ("limit", p6)]) [ixS p0 p1 p2 p3 p4 [.Name "limit" p7], .Assign [.Attribute (.Name "self" q1) "limit" q2] (.Name "limit" q3) q4]) (hl : (p2.endLine == p3.line) = true) (noN : findIn X.K (.ref C) "limit" = some none)
    (hr : Room k X.A) (ha : PA X [a] ta) (hg : Gl X x) (hm : X.mg x = some (.ref C)) (hdb : (x == ("__debug__" : Str)) = false := by decide)
    (he : starEach (a :: []) X.env = (false, eval a X.env) :: starEach [] X.env := by rfl) (hpl : (backTo pos (starEach [] X.env)).any (·.1) = false := by rfl) :
    PMk X (.Call (.Name x p) [a] [] pos) (tMkL C ta) := by
  intro pins s σ H Q I h
  refine wpAny_Call_Name_kw (ld_glob I hg hm ?_ hdb)
  refine callWith_K (h₀ := X.base) I.ok.mod.kin T.oex.kC (thn (ha.run pos pins s σ H _ I h) fun us s1 hh => ?_) he hpl
  obtain ⟨vs, H1, I1, r1, v, ev, qq⟩ := hh
  subst ev
  refine ⟨I1.kIn, ?_⟩
  obtain ⟨v', rfl, rv⟩ := vals1 r1
  show wpAny _ _ (call (.ref C) [v']) _ _ _
  have hlim := I1.nolimit
  have hbk := I1.bk
  obtain ⟨hp, g, dr, tk, os⟩ := s1
  refine wpAny_call (limit_made T hl noN I1.mod hbk I1.kIn hlim (by have := hr.dp; omega) fun h' tk' e d keep new hob dbig dne hns => ?_)
  show MkP X pins σ Q (.ref e) ⟨h', g, dr, tk', os⟩
  obtain ⟨oe, fv, hoe, hc, hd, hdat, h1⟩ := hob
  obtain ⟨G', g1, g2⟩ := restrict h' fun b => decide (b ≠ e)
  have gk : ∀ b, b ≠ e → G'.get? b = h'.get? b := fun b hb => g1 b (decide_eq_true hb)
  have ge : G'.get? e = none := g2 e (by simp)
  have old : ∀ b o, hp.get? b = some o → G'.get? b = some o := fun b o q => (gk b (Nat.ne_of_lt (Nat.lt_of_lt_of_le (Heap.lt_size q) new))).trans (keep b o q)
  have ob : ObjOk X.prog X.w (upd H1 d (.xd [(("limit" : Str), v)])) G' d (.xd [(("limit" : Str), v)]) :=
    ⟨_, hns.at (fun o q => (gk d dne).trans q), fun f => relO_lim rv f⟩
  have J : Inv X pins σ (upd H1 d (.xd [(("limit" : Str), v)])) ⟨G', g, dr, tk', os⟩ := I1.laid (t' := tk') old dbig ob
  refine ⟨e, oe, fv, ⟨G', g, dr, tk', os⟩, _, .ref C, some d, rfl, J, fun b o q => ?_, ge, hoe, ⟨hc, hd⟩, hdat, h1, ?_, rfl, I1.bare, raises_own T.oex.exC T.oex.tyC, qq d (I1.hok.fresh dbig)⟩
  · by_cases hb : b = e
    · have q' : G'.get? b = some o := q
      rw [hb, ge] at q'; cases q'
    · exact (gk b hb).symm.trans q
  · rw [upd_ne (Ne.symm dne)]
    exact I1.hok.fresh new
/-- Unfit() -/
theorem pmk_unfit {x : Str} {p pos : Pos} {k : Nat} {p0 p1 p2 p3 p4 p5 : Pos} (T : SxC X.prog X.K X.mg C fI ["self"] (ixA [("self", p5)]) [ixS p0 p1 p2 p3 p4 []]) (hl : (p2.endLine == p3.line) = true)
    (hr : Room k X.A) (hg : Gl X x) (hm : X.mg x = some (.ref C)) (hdb : (x == ("__debug__" : Str)) = false := by decide) :
    PMk X (.Call (.Name x p) [] [] pos) (fun _ H Q => Q (.ref C) none H) := by
  intro pins s σ H Q I h
  refine wpAny_Call_Name_kw (ld_glob I hg hm ?_ hdb)
  refine callWith_K0 I.kIn T.oex.kC ?_
  show wpAny _ _ (call (.ref C) []) _ _ _
  have hlim := I.nolimit
  have hbk := I.bk
  obtain ⟨hp, g, dr, tk, os⟩ := s
  refine wpAny_call (unfit_made T hl I.mod hbk I.kIn hlim (by have := hr.dp; omega) fun h' tk' e t1 keep new hoe => ?_)
  show MkP X pins σ Q (.ref e) ⟨h', g, dr, tk', os⟩
  obtain ⟨G', g1, g2⟩ := restrict h' fun b => decide (b ≠ e)
  have gk : ∀ b, b ≠ e → G'.get? b = h'.get? b := fun b hb => g1 b (decide_eq_true hb)
  have ge : G'.get? e = none := g2 e (by simp)
  have old : ∀ b o, hp.get? b = some o → G'.get? b = some o := fun b o q => (gk b (Nat.ne_of_lt (Nat.lt_of_lt_of_le (Heap.lt_size q) new))).trans (keep b o q)
  have J : Inv X pins σ H ⟨G', g, dr, tk', os⟩ := I.kept (t' := tk') old
  refine ⟨e, _, _, ⟨G', g, dr, tk', os⟩, _, .ref C, none, rfl, J, fun b o q => ?_, ge, hoe, ⟨rfl, rfl⟩, rfl, rfl, I.hok.fresh new, rfl, I.bare, raises_own T.oex.exC T.oex.tyC, h⟩
  by_cases hb : b = e
  · have q' : G'.get? b = some o := q
    rw [hb, ge] at q'; cases q'
  · exact (gk b hb).symm.trans q
end
end DL

/-! DL30: defs that raise, raise, try. -/
namespace DL
open PySem PySem.Spec L2 PyProof.Rows
def XRof (K : PySem.W.Frag) (mg : Str → Option Value) (e : Exn) (cls : Value) (d : Option Addr) (F : Hp) : Prop := mg e.1 = some cls ∧ XFld K F d e.1 e.2
abbrev xR (K : PySem.W.Frag) (mg : Str → Option Value) (W : WX) : XP := ⟨W, XRof K mg⟩
theorem XRof.same {K : PySem.W.Frag} {mg : Str → Option Value} {e : Exn} {cls : Value} {d : Option Addr} {F F' : Hp} (s : Same F F') (h : XRof K mg e cls d F) : XRof K mg e cls d F' := ⟨h.1, h.2.same s⟩
abbrev GXSpec := List Arg → Option Wel → (PyData → Option Wel → Prop) → (Exn → Option Wel → Prop) → Prop
def spX (K : PySem.W.Frag) (mg : Str → Option Value) (g : GXSpec) : Sp := fun vs H Q E => ∃ (F : Hp) (W : Option (Addr × Addr)) (args : List Arg) (wl : Option Wel) (Qd : PyData → Option Wel → Prop) (Xd : Exn → Option Wel → Prop), Same F H ∧ ArgsR K F W vs args ∧ WelR F H W wl ∧ g args wl Qd Xd ∧
  (∀ v d F' H' wl', After F H W F' H' → WelR F' H' W wl' → DV K F' v d → Qd d wl' → Q v H') ∧
  ∀ e cls d F' H' wl', After F H W F' H' → WelR F' H' W wl' → XRof K mg e cls d F' → Xd e wl' → E cls d H'
section
variable {K : PySem.W.Frag} {mg : Str → Option Value}
theorem fnDX {P : Program} {w : World} {base : Heap} {x qual : Str} {st : Stmt} {f : Addr} {fd : FuncData} {N ps : List Str} {k : Nat} {g : GXSpec} (F : Fun K x qual st f fd) (S : FnScope N ps (defScope st)) (hN : ps.length ≤ N.length)
    (hlen : ∀ args wl Q Xd, g args wl Q Xd → args.length = ps.length)
    (hbody : ∀ (cdv : Value) (A : Around) (outer : List Env) (s : Shared) (H : Hp) (E : XK), Room k (A.deeper (envOfC qual (defScope st) s.heap.objs.size f cdv)) →
      ∃ u, DSs (cxOf (L2.CX P w) P w K mg base N qual (defScope st) f cdv A outer s H E) (xR K mg fun cls d _ H => E cls d H) (defBody st) u ∧ ∀ args wl Q Xd, g args wl Q Xd → u (fun e M => Xd e M.wl) (endsG Q) (mem0 N.length args wl)) : FnOk P w K mg base (L2.CX P w) (k + 1) f fd ps (spX K mg g) := by
  have al : ∀ {F W vs args}, ArgsR K F W vs args → vs.length = args.length := fun ha => by
    induction ha with
    | nil => rfl
    | cons _ _ ih => simp [ih]
  refine F.okX S (fun vs H Q E h => ?_) fun cdv A outer s H vs Q E hr h => ?_
  · obtain ⟨F, W, args, wl, Qd, Xd, _, ha, _, hg, _⟩ := h
    rw [al ha]; exact hlen _ _ _ _ hg
  · obtain ⟨u, hu, hb⟩ := hbody cdv A outer s H E hr
    obtain ⟨F, W, args, wl, Qd, Xd, s1, ha, hw, hg, kk, kx⟩ := h
    obtain ⟨t, p, q⟩ := hu.ex
    have hl : vs.length = ps.length := by rw [al ha]; exact hlen _ _ _ _ hg
    refine ⟨t, p, q (xn := fun e M => Xd e M.wl) (rel_start s1 ha hw (by omega)) (fun M' σ' F' H' e cls d r xr z => ?_) (hb _ _ _ _ hg) ⟨fun M' σ' F' H' s r z => ?_, fun v d M' σ' F' H' s r dv z => ?_, fun _ _ _ _ _ _ z => z.elim, fun _ _ _ _ _ _ z => z.elim⟩⟩
    · exact kx e cls d F' H' M'.wl r.after r.wel xr z
    · exact kk _ _ F' H' M'.wl r.after r.wel .non z
    · exact kk _ _ F' H' M'.wl r.after r.wel dv z
structure FnX (P : Program) (w : World) (K : PySem.W.Frag) (mg : Str → Option Value) (base : Heap) (x : Str) (st : Stmt) (ps : List Str) (k : Nat) (g : GXSpec) : Prop where
  ex : ∃ (f : Addr) (fd : FuncData), Fun K x x st f fd ∧ mg x = some (.ref f) ∧ Binds K fd ps [] ∧ FnOk P w K mg base (L2.CX P w) k f fd ps (spX K mg g)
theorem Raw.fnX {P : Program} {w : World} {base : Heap} {x : Str} {st : Stmt} {N ps : List Str} {k : Nat} {g : GXSpec} (r : Raw K mg x st ps) (S : FnScope N ps (defScope st)) (hN : ps.length ≤ N.length)
    (hlen : ∀ args wl Q Xd, g args wl Q Xd → args.length = ps.length)
    (hbody : ∀ (cdv : Value) (A : Around) (outer : List Env) (s : Shared) (H : Hp) (E : XK) (f : Addr), Room k (A.deeper (envOfC x (defScope st) s.heap.objs.size f cdv)) →
      ∃ u, DSs (cxOf (L2.CX P w) P w K mg base N x (defScope st) f cdv A outer s H E) (xR K mg fun cls d _ H => E cls d H) (defBody st) u ∧ ∀ args wl Q Xd, g args wl Q Xd → u (fun e M => Xd e M.wl) (endsG Q) (mem0 N.length args wl)) : FnX P w K mg base x st ps (k + 1) g := by
  obtain ⟨f, fd, F, hm, hb⟩ := r.ex
  exact ⟨f, fd, F, hm, hb, fnDX F S hN hlen fun cdv A outer s H E hr => hbody cdv A outer s H E f hr⟩
end
/-! calls of what may raise -/
def wCallX (g : GXSpec) (as : WA) : WE := fun xn M Q => as xn M fun xs M1 => g xs M1.wl (fun d wl => Q d ⟨M1.env, wl⟩) fun e wl => xn e ⟨M1.env, wl⟩
def wCallKX (g : GXSpec) (pi : List Nat) (as : WA) : WE := fun xn M Q => as xn M fun xs M1 => g (perm pi xs) M1.wl (fun d wl => Q d ⟨M1.env, wl⟩) fun e wl => xn e ⟨M1.env, wl⟩
section
variable {X : Cx} {e a b c : Expr} {es : List Expr} {pos : Pos} {wa wb wc : WE} {Wx : WX}
theorem spX_run {g : GXSpec} {F0 H0 F H : Hp} {W : Option (Addr × Addr)} {M : Mem} {σ : List (Option V)} {Q : QD} {xn : Xn} {k : VK} {vs : List V} {xs : List Arg} (rel : Rel X.K F0 H0 W M σ F H) (l : Lnk X.K (xR X.K X.mg Wx) F0 H0 W xn) (ha : ArgsR X.K F W vs xs)
    (h : g xs M.wl (fun d wl => Q d ⟨M.env, wl⟩) fun e wl => xn e ⟨M.env, wl⟩) (kk : ∀ v d M' F' H', Same F F' → Rel X.K F0 H0 W M' σ F' H' → DV X.K F' v d → Q d M' → k v H') : spX X.K X.mg g vs H k (L2.WE Wx σ) :=
  ⟨F, W, xs, M.wl, _, _, rel.sub, ha, rel.wel, h, fun v d F' H' wl' a w dv q => kk v d ⟨M.env, wl'⟩ F' H' a.f (rel.of_after a w) dv q, fun e cls d F' H' wl' a w xr z => l ⟨M.env, wl'⟩ σ F' H' e cls d (rel.of_after a w) xr z⟩
theorem dE_callX {k j : Nat} {ps : List Str} {g : GXSpec} {x : Str} {st : Stmt} {p : Pos} {as : WA} (tk : Takes X Wx) (F : FnX X.prog X.w X.K X.mg X.base x st ps k g) (hr : Room j X.A) (hk : k ≤ j) (hg : Gl X x) (ha : DA X (xR X.K X.mg Wx) (e :: es) as)
    (hdb : (x == ("__debug__" : Str)) = false := by decide) (he : starEach (e :: es) X.env = (false, eval e X.env) :: starEach es X.env := by rfl) (hpl : (backTo pos (starEach es X.env)).any (·.1) = false := by rfl) :
    DE X (xR X.K X.mg Wx) (.Call (.Name x p) (e :: es) [] pos) (wCallX g as) := by
  obtain ⟨f, fd, F, hm, hb, ok⟩ := F.ex
  obtain ⟨t, q, z⟩ := ha.ex
  refine ⟨_, pe_callS (E := L2.WE Wx) ok (hr.mono hk) hg hm F.kp hb (fun σ => passAt tk σ) q hdb he hpl, fun {F0 H0 F H W M σ xn Q kc} r l hw kk => ?_⟩
  refine z r l hw fun vs xs M1 F1 H1 s1 r1 hx y => ?_
  exact spX_run r1 l hx y fun v d M' F' H' s => kk v d M' F' H' (s1.trans s)
theorem run_fnkS {CX : CXT} {k : Nat} {f : Addr} {fd : FuncData} {ps ks : List Str} {sp : Sp} {E : L2.St → XK} {g : List Value → List Value → List Value} {gV : List V → List V → List V} {pins : List (Addr × Obj)} {σ : L2.St} {H : Hp} {s : Shared} {Q : VK} {us ws : List Value} {vs zs : List V} (F : FnOk X.prog X.w X.K X.mg X.base CX k f fd ps sp) (hr : Room k X.A) (hb : KBinds X.K fd ps ks g gV) (hx : PassesAt CX X σ (E σ))
    (I : Inv X pins σ H s) (r : Vals vs us) (rz : Vals zs ws) (h : sp (gV vs zs) H Q (E σ)) : wpAny (model X.prog X.w) X.A (call (.ref f) us (ks.zip ws)) (EP X pins σ Q) X.xe s := by
  have r2 := hb.rel r rz
  have hl : (g us ws).length = ps.length := by rw [← r2.length]; exact F.len _ _ _ _ h
  refine wpAny_call (codeAny_mono (F.run X.A X.stack s H ⟨us, ks.zip ws⟩ (g us ws) (gV vs zs) Q (E σ) hr I.env0 (hb.to s us ws I.kIn hl) r2 h) fun r s' hq => ?_)
  cases r with
  | error e => exact hx pins H s e s' I hq
  | ok fl =>
    cases fl with
    | ret u => exact I.after hq
    | next => exact False.elim hq
    | brk => exact False.elim hq
    | cont => exact False.elim hq
theorem pe_callKS0 {k : Nat} {f : Addr} {fd : FuncData} {ps ks : List Str} {sp : Sp} {g : List Value → List Value → List Value} {gV : List V → List V → List V} {x : Str} {p : Pos} {kws : List Keyword} {E : L2.St → XK} {tk : TA} {CX : CXT} (F : FnOk X.prog X.w X.K X.mg X.base CX k f fd ps sp) (hr : Room k X.A) (hg : Gl X x) (hm : X.mg x = some (.ref f)) (hk : PySem.W.keepIn X.K (.ref f) = true) (hb : KBinds X.K fd ps ks g gV) (hx : ∀ σ, PassesAt CX X σ (E σ))
    (hkw : PK X kws tk) (hall : (backToKw pos (keywordEach kws X.env)).all (·.1.isSome) = true := by rfl) (hks : (backToKw pos (keywordEach kws X.env)).filterMap (·.1) = ks := by rfl)
    (hdb : (x == ("__debug__" : Str)) = false := by decide) (hpl : ((backTo pos (starEach [] X.env)).any (·.1) || (backToKw pos (keywordEach kws X.env)).any (·.1.isNone)) = false := by rfl) :
    PE X (.Call (.Name x p) [] kws pos) (fun σ H Q => tk σ H fun zs H2 => sp (gV [] zs) H2 Q (E σ)) := by
  refine ⟨fun pins s σ H Q I h => ?_⟩
  refine wpAny_Call_Name_kw (ld_glob I hg hm ?_ hdb)
  refine PySem.W.callWith_KW0 (h₀ := X.base) I.ok.mod.kin hk hall ?_ hpl
  refine thn (hkw.run pos pins s σ H _ I h) fun ws s2 ⟨zs, H2, I2, rz, q2⟩ => ⟨I2.kIn, ?_⟩
  rw [hks]
  exact run_fnkS (us := []) F hr hb (hx σ) I2 .nil rz q2
theorem dE_callKX {k j : Nat} {ps ks : List Str} {pi : List Nat} {g : GXSpec} {x : Str} {st : Stmt} {p : Pos} {as : WA} {kws : List Keyword} (tk : Takes X Wx) (F : FnX X.prog X.w X.K X.mg X.base x st ps k g) (hr : Room j X.A) (hk : k ≤ j) (hg : Gl X x) (ha : DK X (xR X.K X.mg Wx) kws as) (h0 : ps ≠ [])
    (hb : ∀ (kV doc pm : Value) (an : Option Addr) (cdv ct : Value) (ws : List Value), (perm pi ws).length = ps.length → bindArgs (PySem.W.fnOf x x (defArgs st) (defBody st) (defScope st) .none kV doc pm an cdv ct) ⟨[], ks.zip ws⟩ = pure (ps.zip (perm pi ws)))
    (hall : (backToKw pos (keywordEach kws X.env)).all (·.1.isSome) = true := by rfl) (hks : (backToKw pos (keywordEach kws X.env)).filterMap (·.1) = ks := by rfl)
    (hdb : (x == ("__debug__" : Str)) = false := by decide) (hpl : ((backTo pos (starEach [] X.env)).any (·.1) || (backToKw pos (keywordEach kws X.env)).any (·.1.isNone)) = false := by rfl) :
    DE X (xR X.K X.mg Wx) (.Call (.Name x p) [] kws pos) (wCallKX g pi as) := by
  obtain ⟨f, fd, F, hm, _, ok⟩ := F.ex
  obtain ⟨_, _, kV, doc, pm, an, cdv, ct, _, rfl, _, _⟩ := F.ex
  obtain ⟨t, q, z⟩ := ha.ex
  refine ⟨_, pe_callKS0 (E := L2.WE Wx) ok (hr.mono hk) hg hm F.kp (kbinds (pi := pi) h0 (hb kV doc pm an cdv ct)) (fun σ => passAt tk σ) q hall hks hdb hpl, fun {F0 H0 F H W M σ xn Q kc} r l hw kk => ?_⟩
  refine z r l hw fun vs xs M1 F1 H1 s1 r1 hx y => ?_
  exact spX_run r1 l (hx.perm pi) y fun v d M' F' H' s => kk v d M' F' H' (s1.trans s)
/-! raise -/
def uRaise (x : Str) (wa : WE) : WS := fun xn De M => wa xn M fun d M1 => xn (x, d) M1
def uRaise0 (x : Str) : WS := fun xn De M => xn (x, .none) M
theorem dS_raiseL {C fI : Addr} {k : Nat} {p p' pos' : Pos} {p0 p1 p2 p3 p4 p5 p6 p7 q1 q2 q3 q4 : Pos} (hc : X.calm = true) (tk : Takes X Wx) (T : SxC X.prog X.K X.mg C fI ["self", "limit"] (ixA [("self", p5), ("limit", p6)]) [ixS p0 p1 p2 p3 p4 [.Name "limit" p7], .Assign [.Attribute (.Name "self" q1) "limit" q2] (.Name "limit" q3) q4]) (hl : (p2.endLine == p3.line) = true) (noN : PySem.W.findIn X.K (.ref C) "limit" = some none)
    (hr : Room k X.A) (ha : DE X (xR X.K X.mg Wx) a wa) (hg : Gl X "TooMany") (hm : X.mg "TooMany" = some (.ref C))
    (hs : starEach (a :: []) X.env = (false, eval a X.env) :: starEach [] X.env := by rfl) (hpl : (backTo pos (starEach [] X.env)).any (·.1) = false := by rfl) :
    DS X (xR X.K X.mg Wx) (.Raise (some (.Call (.Name "TooMany" p) [a] [] pos)) none pos') (uRaise "TooMany" wa) := by
  obtain ⟨t, q, z⟩ := ha.ex
  refine ⟨_, ps_raise hc tk (pmk_limit T hl noN hr (pa_cons q pa_nil hs) hg hm (by decide) hs hpl), fun {F0 H0 F H W M σ xn De D} r l hw E => ?_⟩
  refine z r l hw fun v d M1 F1 H1 s1 r1 dv y => ?_
  refine ⟨v, rfl, fun dd hd => ?_⟩
  have g := Grow.newF (o := .xd [(("limit" : Str), v)]) r1.sub hd
  refine l M1 σ _ _ ("TooMany", d) _ _ (r1.grow g) ⟨hm, ?_⟩ y
  show XFld _ _ _ _ _
  unfold XFld
  rw [show fldOf "TooMany" = some "limit" from by decide +kernel]
  exact ⟨dd, v, rfl, upd_same, dv.same g.f⟩
theorem dS_raise0 {C fI : Addr} {k : Nat} {p p' pos' : Pos} {p0 p1 p2 p3 p4 p5 : Pos} (hc : X.calm = true) (tk : Takes X Wx) (T : SxC X.prog X.K X.mg C fI ["self"] (ixA [("self", p5)]) [ixS p0 p1 p2 p3 p4 []]) (hl : (p2.endLine == p3.line) = true)
    (hr : Room k X.A) (hg : Gl X "Unfit") (hm : X.mg "Unfit" = some (.ref C)) :
    DS X (xR X.K X.mg Wx) (.Raise (some (.Call (.Name "Unfit" p) [] [] pos)) none pos') (uRaise0 "Unfit") := by
  refine ⟨_, ps_raise hc tk (pmk_unfit T hl hr hg hm (by decide)), fun {F0 H0 F H W M σ xn De D} r l hw E => ?_⟩
  refine l M σ _ _ ("Unfit", .none) _ _ r ⟨hm, ?_⟩ hw
  show XFld _ _ _ _ _
  unfold XFld
  rw [show fldOf "Unfit" = none from by decide +kernel]
end
end DL

/-! DL31: try: body except C as x: suite; both end by return. -/
namespace DL
open PySem PySem.Spec L2 PyProof.Rows
section
variable {K : PySem.W.Frag} {F0 H0 F H : Hp} {W : Option (Addr × Addr)} {M : Mem} {σ : List (Option V)} {i : Nat}
theorem Rel.setExc {a : Addr} {cls : Value} {d : Option Addr} {nm : Str} {fv : PyData} (R : Rel K F0 H0 W M σ F H) (hx : XFld K F d nm fv) : Rel K F0 H0 W (M.set i (.exc a cls d nm fv)) (σ.set i (some (.ref a))) F H where
  sub := R.sub
  old := R.old
  fol := R.fol
  fnw := R.fnw
  len := by simp [Mem.set, R.len]
  slt := fun j e h => by
    rcases getSet h with ⟨rfl, he⟩ | ⟨ne, h⟩
    · cases he
      have hl : i < σ.length := by
        rw [R.len]
        by_cases z : i < M.env.length
        · exact z
        · rw [Mem.set] at h; simp [List.getElem?_set, z] at h
      exact ⟨.ref a, by rw [List.getElem?_set_self hl], rfl, hx⟩
    · obtain ⟨v, h1, h2⟩ := R.slt j e h
      exact ⟨v, by rw [List.getElem?_set_ne ne]; exact h1, h2⟩
  dis := fun j l d1 d2 v hne h1 h2 h3 => by
    have f : ∀ {j : Nat} {d1 : PyData}, (M.set i (.exc a cls d nm fv)).env[j]? = some (some (.ow d1)) → j ≠ i ∧ M.env[j]? = some (some (.ow d1)) := fun {j d1} h => by
      rcases getSet h with ⟨rfl, he⟩ | ⟨ne, h⟩
      · cases he
      · exact ⟨Ne.symm ne, h⟩
    obtain ⟨n1, e1⟩ := f h1
    obtain ⟨n2, e2⟩ := f h2
    rw [List.getElem?_set_ne (Ne.symm n1)] at h3
    rw [List.getElem?_set_ne (Ne.symm n2)]
    exact R.dis j l d1 d2 v hne e1 e2 h3
  wel := R.wel
end
/-- us: the suite, by the exception's place and dict -/
def uTry (x : Str) (i : Nat) (ub : WS) (us : Addr → Option Addr → WS) : WS := fun _ De M =>
  ub (fun e M' => e.1 = x ∧ ∀ a cls d, us a d noX { nx := fun _ => False, rt := fun y M'' => De.rt y ⟨M.env, M''.wl⟩ } (M'.set i (.exc a cls d e.1 e.2))) { nx := fun _ => False, rt := fun y M' => De.rt y ⟨M.env, M'.wl⟩ } M.ro
section
variable {X : Cx} {R : XP} {a₀ : Addr} {e a b c : Expr} {es : List Expr} {body suite : List Stmt} {b₀ : Stmt} {pos : Pos} {wa wb wc : WE} {Wx : WX}
theorem dS_try {x n : Str} {C : Addr} {i : Nat} {np pos' : Pos} {ub : WS} {us : Addr → Option Addr → WS} (hs : X.stack = X.env :: X.outer) (hf : X.env.frame = some X.env.locals) (hN : X.N.Nodup) (hi : X.N[i]? = some n) (hln : X.env.kindOf n = some .local) (hg : Gl X x) (hdb : (x == ("__debug__" : Str)) = false) (hm : X.mg x = some (.ref C))
    (hex : PySem.W.exmOne X.K (.ref C) (.ref C) = some true)
    (hb : ∀ (Wb : WX) (pn : List (Addr × Obj)) (xe : Value → Shared → Prop), Takes (X.tr pn xe) Wb → PassesOwn (model X.prog X.w) X.A X.env xe → DSs (X.tr pn xe) (xR X.K X.mg Wb) body ub)
    (hsu : ∀ (a : Addr) (oe : Obj) (d : Option Addr) (pn : List (Addr × Obj)), Zc (.ref C) d oe → (∃ vs, oe.data = .fields vs) → DSs (X.suite a ((a, oe) :: pn)) X0 (b₀ :: suite) (us a d)) :
    DS X R (.Try body [.ExceptHandler (some (.Name x np)) (some n) (b₀ :: suite) pos'] [] [] pos) (uTry x i ub us) := by
  refine ⟨_, ps_try_as (Wout := fun _ _ _ _ => False) (tb := fun Wb D σ H => ∀ pn xe tk ho, (hb Wb pn xe tk ho).ex.choose D σ H) (ts := fun a cls d D σ H => cls = .ref C ∧ ∀ oe pn hz hf, (hsu a oe d pn hz hf).ex.choose D σ H) hs hf hN hi hln ⟨hg, hdb, .inl hm⟩ takes0
    (fun Wb pn xe tk ho => ⟨fun pins s σ H D I h => (hb Wb pn xe tk ho).ex.choose_spec.1.run pins s σ H D I (h pn xe tk ho)⟩)
    (fun a oe cls d pn hz hf => ⟨fun pins s σ H D I h => by
      obtain ⟨rfl, h⟩ := h
      exact (hsu a oe d pn hz hf).ex.choose_spec.1.run pins s σ H D I (h oe pn hz hf)⟩), fun {F0 H0 F H W M σ xn De D} r l hw E => ?_⟩
  intro pn xe tk ho
  refine (hb _ pn xe tk ho).ex.choose_spec.2 r.toRo (fun M' σ' F' H' e cls d r' xr z => ?_) hw ⟨fun _ _ _ _ _ _ z => z.elim, fun v d M' σ' F' H' s' r' dv z => E.rt v d ⟨M.env, M'.wl⟩ σ F' H' s' (r.of_after r'.after r'.wel) dv z, fun _ _ _ _ _ _ z => z.elim, fun _ _ _ _ _ _ z => z.elim⟩
  obtain ⟨e1, z⟩ := z
  obtain ⟨x1, x2⟩ := xr
  rw [e1, hm] at x1
  cases x1
  refine ⟨true, hex, fun _ a na => ⟨rfl, fun oe pn hz hf => ?_⟩, fun q => nomatch q⟩
  refine (hsu a oe d pn hz hf).ex.choose_spec.2 (xn := noX) (r'.setExc (i := i) (cls := .ref C) x2) (fun _ _ _ _ _ _ _ _ _ q => q.elim) (z a (.ref C) d) ⟨fun _ _ _ _ _ _ z => z.elim, fun v d' M2 σ2 F2 H2 s2 r2 dv z2 => ?_, fun _ _ _ _ _ _ z => z.elim, fun _ _ _ _ _ _ z => z.elim⟩
  exact E.rt v d' ⟨M.env, M2.wl⟩ σ F2 H2 (r'.after.f.trans s2) (r.of_after r2.after r2.wel) dv z2
/-! the suite: error.limit, isinstance(error, D) -/
def wXf (a : Addr) (d : Option Addr) (i : Nat) (f : Str) : WE := fun xn M Q => match M.env[i]? with
  | some (some (.exc a' _ d' nm fv)) => a' = a ∧ d' = d ∧ fldOf nm = some f ∧ Q fv M
  | _ => False
theorem dE_xf {x f : Str} {C : Addr} {i : Nat} {d : Option Addr} {oe : Obj} {pn : List (Addr × Obj)} {xp : Pos} (T : XfC X.K C) (hno : PySem.W.findIn X.K (.ref C) f = some none) (hz : Zc (.ref C) d oe) (hf : ∃ vs, oe.data = .fields vs) (hN : X.N[i]? = some x) (hv : X.env.kindOf x = some .local) (hd : (x == ("__debug__" : Str)) = false := by decide) (hcd : (x == ("__classdict__" : Str)) = false := by decide)
    (hb : attributeBase (.Name x xp) f X.env (eval (.Name x xp) X.env) = eval (.Name x xp) X.env := by rfl) :
    DE (X.suite a₀ ((a₀, oe) :: pn)) R (.Attribute (.Name x xp) f pos) (wXf a₀ d i f) := by
  refine ⟨_, pe_xf T hno hz hf (pe_var (X := X.suite a₀ ((a₀, oe) :: pn)) (i := i) hN (.inl hv) hd hcd) hb, fun {F0 H0 F H W M σ xn Q k} r l hw kk => ?_⟩
  unfold wXf at hw
  split at hw
  · rename_i a' cls' d' nm fv he
    obtain ⟨rfl, rfl, hn, q⟩ := hw
    obtain ⟨v, h1, h2, h3⟩ := r.slt i _ he
    subst h2
    unfold XFld at h3
    rw [hn] at h3
    obtain ⟨dd, v, rfl, h4, h5⟩ := h3
    exact ⟨_, h1, rfl, rfl, dd, _, v, rfl, r.sub _ _ h4, by simp [List.lookup], kk _ _ _ _ _ (.refl _) r h5 q⟩
  · exact hw.elim
def wIsX (a : Addr) (d : Option Addr) (i : Nat) (b : Bool) : WE := fun xn M Q => match M.env[i]? with
  | some (some (.exc a' _ d' _ _)) => a' = a ∧ d' = d ∧ Q (.bool b) M
  | _ => False
theorem call_isX {a D : Addr} {oe : Obj} {d : Option Addr} {pn : List (Addr × Obj)} (C : ExcC X.K D) (hz : Zc (.ref D) d oe) (hf : ∃ vs, oe.data = .fields vs) : CallR (X.suite a ((a, oe) :: pn)) (.builtin "isinstance") (fun xs H Q => ∃ (c : V) (cv : Value) (b : Bool), xs = [.ref a, c] ∧ (∀ u, RelV c u → u = cv) ∧ PySem.W.kitOne X.K (.ref D) cv = some b ∧ (∀ dd, d = some dd → ∃ fs, H dd = some (.xd fs)) ∧ Q (.bl b) H) := by
  intro pins s σ H xs us Q I r h
  obtain ⟨c, cv, b, rfl, hcv, e, hdd, q⟩ := h
  cases r with
  | cons rx rr =>
    cases rr with
    | cons rt rr =>
      cases rr
      cases rx
      have ec := hcv _ rt
      subst ec
      obtain ⟨hget, _⟩ := I.pin (a, oe) (List.mem_append.mpr (.inl List.mem_cons_self))
      obtain ⟨vs, hv⟩ := hf
      have J : ∃ od, PySem.W.InstAt s.heap a oe D od := by
        obtain ⟨oc, od, oda, osl⟩ := oe
        obtain ⟨h1, h2⟩ := hz
        dsimp only at h1 h2 hv
        subst h1 h2 hv
        cases od with
        | none => exact ⟨none, hget, rfl, rfl, trivial⟩
        | some dd =>
          obtain ⟨fs, hfs⟩ := hdd dd rfl
          have hx : ObjOk X.prog X.w H s.heap dd (.xd fs) := I.hok dd _ hfs
          obtain ⟨mA, hns, hr⟩ := hx
          obtain ⟨od, ho, hl⟩ := lookIn_ns hns
          exact ⟨some od, hget, rfl, rfl, ho⟩
      obtain ⟨od, J⟩ := J
      exact PySem.W.kia_one (PySem.W.kitx_exc (by obtain ⟨cd, hc, _⟩ := PySem.W.any_some C.hd; rw [hc]; rfl) C.hg C.hk C.hs C.ha C.hn C.ht C.hm) I.kIn J e (fun z => nomatch z) fun tk => ⟨.bl b, H, I.kept (t' := tk) fun _ _ z => z, rfl, q⟩
theorem dE_isX {x D : Str} {C DD : Addr} {i : Nat} {b : Bool} {d : Option Addr} {oe : Obj} {pn : List (Addr × Obj)} {xp p q : Pos} (T : ExcC X.K C) (hk : PySem.W.kitOne X.K (.ref C) (.ref DD) = some b) (hz : Zc (.ref C) d oe) (hf : ∃ vs, oe.data = .fields vs) (hN : X.N[i]? = some x) (hv : X.env.kindOf x = some .local) (hg : Gl X "isinstance") (hm : X.mg "isinstance" = none) (hgD : Gl X D) (hmD : X.mg D = some (.ref DD)) (hd : (x == ("__debug__" : Str)) = false := by decide) (hcd : (x == ("__classdict__" : Str)) = false := by decide)
    (hdT : (D == ("__debug__" : Str)) = false := by decide)
    (hs : starEach [.Name x xp, .Name D q] X.env = (false, eval (.Name x xp) X.env) :: starEach [.Name D q] X.env := by rfl) (hs2 : starEach [.Name D q] X.env = (false, eval (.Name D q) X.env) :: starEach [] X.env := by rfl) (hpl : (backTo pos (starEach [.Name D q] X.env)).any (·.1) = false := by rfl) :
    DE (X.suite a₀ ((a₀, oe) :: pn)) R (.Call (.Name "isinstance" p) [.Name x xp, .Name D q] [] pos) (wIsX a₀ d i b) := by
  have pT : PE (X.suite a₀ ((a₀, oe) :: pn)) (.Name D q) (tC (.ref DD)) := ⟨fun pins s σ H Q I h => ld_glob (X := X.suite a₀ ((a₀, oe) :: pn)) I hgD hmD ⟨.ref DD, H, I, rfl, h⟩ hdT⟩
  refine ⟨_, pe_callB (X := X.suite a₀ ((a₀, oe) :: pn)) (call_isX (d := d) T hz hf) hg hm boot_isinstance (pa_cons (pe_var (X := X.suite a₀ ((a₀, oe) :: pn)) (i := i) hN (.inl hv) hd hcd) (pa_cons pT pa_nil hs2) hs) (by decide) (by decide) hs hpl, fun {F0 H0 F H W M σ xn Q k} r l hw kk => ?_⟩
  unfold wIsX at hw
  split at hw
  · rename_i a' cls' d' nm fv he
    obtain ⟨rfl, rfl, q⟩ := hw
    obtain ⟨v, h1, h2, h3⟩ := r.slt i _ he
    subst h2
    refine ⟨_, h1, .ref DD, _, b, rfl, fun u ru => ru, hk, fun dd e => ?_, kk _ _ _ _ _ (.refl _) r (.bl _) q⟩
    unfold XFld at h3
    split at h3
    · rw [h3] at e; cases e
    · obtain ⟨dd', v, h4, h5, h6⟩ := h3
      rw [h4] at e; cases e
      exact ⟨_, r.sub _ _ h5⟩
  · exact hw.elim
end
end DL

/-! DL32: the own classes of the program, as the defs' terms want them. -/
namespace DL
open PySem PySem.Spec L2 PyProof.Rows PySem.W PySem.Calls
/-- TooMany -/
structure LimC (P : Program) (K : Frag) (mg : Str → Option Value) : Prop where
  ex : ∃ (C fI : Addr) (p0 p1 p2 p3 p4 p5 p6 p7 q1 q2 q3 q4 : Pos), SxC P K mg C fI ["self", "limit"] (ixA [("self", p5), ("limit", p6)]) [ixS p0 p1 p2 p3 p4 [.Name "limit" p7], .Assign [.Attribute (.Name "self" q1) "limit" q2] (.Name "limit" q3) q4] ∧ (p2.endLine == p3.line) = true ∧ findIn K (.ref C) "limit" = some none ∧ mg "TooMany" = some (.ref C)
/-- Unfit -/
structure FitC (P : Program) (K : Frag) (mg : Str → Option Value) : Prop where
  ex : ∃ (C fI : Addr) (p0 p1 p2 p3 p4 p5 : Pos), SxC P K mg C fI ["self"] (ixA [("self", p5)]) [ixS p0 p1 p2 p3 p4 []] ∧ (p2.endLine == p3.line) = true ∧ mg "Unfit" = some (.ref C)
/-- x caught, D asked for in the suite -/
structure TryF (K : Frag) (mg : Str → Option Value) (x D : Str) (C DD : Addr) : Prop where
  mx : mg x = some (.ref C)
  mD : mg D = some (.ref DD)
  te : exmOne K (.ref C) (.ref C) = some true
  no : kitOne K (.ref C) (.ref DD) = some false
  xf : XfC K C
  ec : ExcC K C
  noN : findIn K (.ref C) "limit" = some none
structure TryC (K : Frag) (mg : Str → Option Value) (x D : Str) : Prop where
  ex : ∃ C DD, TryF K mg x D C DD
section
variable {X : Cx} {R : XP} {a₀ : Addr} {e a b c : Expr} {es : List Expr} {body suite : List Stmt} {b₀ : Stmt} {pos : Pos} {wa wb wc : WE} {Wx : WX}
theorem dS_rL {k : Nat} {p pos' : Pos} (hc : X.calm = true) (tk : Takes X Wx) (T : LimC X.prog X.K X.mg) (hr : Room k X.A) (ha : DE X (xR X.K X.mg Wx) a wa) (hg : Gl X "TooMany")
    (hs : starEach (a :: []) X.env = (false, eval a X.env) :: starEach [] X.env := by rfl) (hpl : (backTo pos (starEach [] X.env)).any (·.1) = false := by rfl) :
    DS X (xR X.K X.mg Wx) (.Raise (some (.Call (.Name "TooMany" p) [a] [] pos)) none pos') (uRaise "TooMany" wa) := by
  obtain ⟨C, fI, p0, p1, p2, p3, p4, p5, p6, p7, q1, q2, q3, q4, T, hl, noN, hm⟩ := T.ex
  exact dS_raiseL (p' := p) hc tk T hl noN hr ha hg hm hs hpl
theorem dS_rU {k : Nat} {p pos' : Pos} (hc : X.calm = true) (tk : Takes X Wx) (T : FitC X.prog X.K X.mg) (hr : Room k X.A) (hg : Gl X "Unfit") :
    DS X (xR X.K X.mg Wx) (.Raise (some (.Call (.Name "Unfit" p) [] [] pos)) none pos') (uRaise0 "Unfit") := by
  obtain ⟨C, fI, p0, p1, p2, p3, p4, p5, T, hl, hm⟩ := T.ex
  exact dS_raise0 (p' := pos) hc tk T hl hr hg hm
theorem dS_tryT {x n D : Str} {i : Nat} {np pos' : Pos} {ub : WS} {us : Addr → Option Addr → WS} (T : TryC X.K X.mg x D) (hs : X.stack = X.env :: X.outer) (hf : X.env.frame = some X.env.locals) (hN : X.N.Nodup) (hi : X.N[i]? = some n) (hln : X.env.kindOf n = some .local) (hg : Gl X x) (hdb : (x == ("__debug__" : Str)) = false)
    (hb : ∀ (Wb : WX) (pn : List (Addr × Obj)) (xe : Value → Shared → Prop), Takes (X.tr pn xe) Wb → PassesOwn (model X.prog X.w) X.A X.env xe → DSs (X.tr pn xe) (xR X.K X.mg Wb) body ub)
    (hsu : ∀ (C DD a : Addr) (oe : Obj) (d : Option Addr) (pn : List (Addr × Obj)), TryF X.K X.mg x D C DD → Zc (.ref C) d oe → (∃ vs, oe.data = .fields vs) → DSs (X.suite a ((a, oe) :: pn)) X0 (b₀ :: suite) (us a d)) :
    DS X R (.Try body [.ExceptHandler (some (.Name x np)) (some n) (b₀ :: suite) pos'] [] [] pos) (uTry x i ub us) := by
  obtain ⟨C, DD, T⟩ := T.ex
  exact dS_try hs hf hN hi hln hg hdb T.mx T.te hb fun a oe d pn hz hf => hsu C DD a oe d pn T hz hf
end
section
variable {P : Program} {K : Frag} {mg : Str → Option Value} {C fI WEa DD : Addr}
/-- the bases of WordError -/
abbrev bmV : List Value := [.type "ValueError", .type "Exception", .type "BaseException", .type "object"]
theorem sup_of {nm q nm' q' : Str} {N N' : Addr} {bs bs' : List Value} {sn sn' : List Str} {sub sub' : List Value} {ab ab' : Bool} {col col' : Option Bool} {dd dd' : Option Addr} {k0 k1 k2 k3 k5 l0 l1 l2 l3 l5 : Option Value} {o : Option Value}
    (xL : K.lookup C = some (excClassObj nm q C N bs (.ref WEa :: bmV) true sn sub ab col dd k0 k1 k2 k3 k5 "ValueError.__new__"))
    (xW : K.lookup WEa = some (excClassObj nm' q' WEa N' bs' bmV true sn' sub' ab' col' dd' l0 l1 l2 l3 l5 "ValueError.__new__")) (iW : findIn K (.ref WEa) "__init__" = some o) : ks_superIn K C C "__init__" = some o := by
  have h1 : findIn K (.ref WEa) "__init__" = alongIn K "__init__" (.ref WEa :: bmV) := by
    show (match K.lookup WEa with | some ⟨_, _, .cls cd, _⟩ => alongIn K "__init__" cd.mro | _ => none) = _
    rw [xW]
  have h2 : clsIn K C = some { name := nm, bases := bs, mro := .ref C :: (.ref WEa :: bmV), ns := N, qualname := q, hasDict := true, slotNames := sn, subclasses := sub, abstract := ab, collection := col, hasDel := false } := by
    unfold clsIn
    rw [xL] <;> rfl
  unfold ks_superIn
  rw [h2, Option.bind_some]
  rw [h1] at iW
  have h3 : ((.ref C :: (.ref WEa :: bmV) : List Value).dropWhile (· != .ref C)).drop 1 = .ref WEa :: bmV := by
    rw [List.dropWhile_cons]
    simp
  show alongIn K "__init__" (((.ref C :: (.ref WEa :: bmV) : List Value).dropWhile (· != .ref C)).drop 1) = some o
  rw [h3]
  exact iW
theorem sxC_mk {ps : List Str} {args : Arguments} {body : List Stmt} {nm q nm' q' : Str} {N N' : Addr} {bs bs' : List Value} {sn sn' : List Str} {sub sub' : List Value} {ab ab' : Bool} {col col' : Option Bool} {dd dd' : Option Addr} {k0 k1 k2 k3 k5 l0 l1 l2 l3 l5 : Option Value}
    {cc cda : Addr} {oc : Value} {od : Option Addr} {qual : Str} {kV doc pm ct : Value} {an : Option Addr} {osl : Array (Option Value)} {ccl cl : Value} {cdd cld : Option Addr} {ccs csl : Array (Option Value)} {vs : Array Value} {file : Str} {tf : Tok}
    (xL : K.lookup C = some (excClassObj nm q C N bs (.ref WEa :: bmV) true sn sub ab col dd k0 k1 k2 k3 k5 "ValueError.__new__"))
    (xW : K.lookup WEa = some (excClassObj nm' q' WEa N' bs' bmV true sn' sub' ab' col' dd' l0 l1 l2 l3 l5 "ValueError.__new__")) (iW : findIn K (.ref WEa) "__init__" = some (some (.builtin "ValueError.__init__")))
    (sa : findIn K (.ref C) "__setattr__" = some (some (.builtin "object.__setattr__"))) (exC : subIn K (.ref C) (.type "BaseException") = some true) (tyC : typeIn K (.ref C) = some (.type "type")) (kC : keepIn K (.ref C) = true)
    (iC : findIn K (.ref C) "__init__" = some (some (.ref fI))) (tI : typeIn K (.ref fI) = some (.type "function")) (sB : subIn K (.ref C) (.type "ValueError") = some true) (sC : mroIn K C (.ref C) = some true) (opq : nsIn K cStatics "thirdparty.any" = some none) (gS : mg "super" = none) (top : (P.main.scope.names.lookup ("super" : Str)).isSome = false)
    (lI : K.lookup fI = some ⟨oc, od, .func (fnX "__init__" qual args body (ixC ps) [("__class__", cc)] .none kV doc pm an (.ref cda) ct), osl⟩) (cI : codeIn K (.ref cda) qual = true)
    (lc : K.lookup cc = some ⟨cl, cld, .cell (some (.ref C)), csl⟩) (ld : K.lookup cda = some ⟨ccl, cdd, .fields vs, ccs⟩) (hv : vs[2]? = some (.str file tf)) (hf : ((P.main.file : Str) == file) = true) : SxC P K mg C fI ps args body where
  oex := { cls := ⟨nm, q, N, bs, _, sn, sub, ab, col, dd, k0, k1, k2, k3, k5, xL, by first | rfl | decide +kernel⟩, sa := sa, exC := exC, tyC := tyC, kC := kC }
  iC := iC
  tI := tI
  sup := sup_of xL xW iW
  sB := sB
  sC := sC
  opq := opq
  gS := gS
  top := top
  fn := ⟨cc, cda, oc, od, qual, kV, doc, pm, ct, an, osl, ccl, cl, cdd, cld, ccs, csl, vs, file, tf, lI, cI, lc, ld, hv, hf⟩
theorem tryC_mk {x D : Str} (mx : mg x = some (.ref C)) (mD : mg D = some (.ref DD)) (ga : findIn K (.ref C) "__getattribute__" = some (some (.builtin "BaseException.__getattribute__"))) (gg : findIn K (.ref C) "__getattr__" = some none) (exC : subIn K (.ref C) (.type "BaseException") = some true) (hdC : hasDictIn K C = true)
    (gc : findIn K (.ref C) "__class__" = some (some (.builtin "object.__class__"))) (hn : specialIn K (.builtin "object.__class__") "__get__" = some (some (.builtin "getset_descriptor.__get__"))) (ht : takesIn K (.builtin "object.__class__") = some true) (hm : mroIn K C (.type "object") = some true)
    (tyC : typeIn K (.ref C) = some (.type "type")) (sub : subIn K (.ref C) (.ref C) = some true) (noN : findIn K (.ref C) "limit" = some none)
    (ne : (Value.ref C == Value.ref DD) = false) (iD : isClsIn K DD = true) (tD : typeIn K (.ref DD) = some (.type "type")) (sD : subIn K (.ref C) (.ref DD) = some false) : TryC K mg x D := by
  refine ⟨C, DD, mx, mD, exm_ref exC hdC tyC sub, ?_, ⟨ga, gg, exC, hdC⟩, ⟨ga, gg, exC, hdC, gc, hn, ht, hm⟩, noN⟩
  unfold kitOne kitCls
  have e2 : ((clsIn K DD).isSome && typeIn K (.ref DD) == some (.type "type")) = true := by
    have h2 : (clsIn K DD).isSome = true := iD
    rw [h2, tD] <;> rfl
  rw [ne]
  simp only [e2, if_true, sD]
  rfl
end
/-! for simp -/
def callGX (g : GXSpec) (args : List Arg) (wl : Option Wel) (Q : PyData → Option Wel → Prop) (Xd : Exn → Option Wel → Prop) (_ : Lock Q) (_ : Lock Xd) : Prop := g args wl Q Xd
theorem wCallX_eq {g : GXSpec} {as : WA} {xn : Xn} {M : Mem} {Q : QD} : wCallX g as xn M Q = as xn M fun xs M1 => callGX g xs M1.wl (fun d wl => Q d ⟨M1.env, wl⟩) (fun e wl => xn e ⟨M1.env, wl⟩) .mk .mk := rfl
theorem wCallKX_eq {g : GXSpec} {pi : List Nat} {as : WA} {xn : Xn} {M : Mem} {Q : QD} : wCallKX g pi as xn M Q = as xn M fun xs M1 => callGX g (perm pi xs) M1.wl (fun d wl => Q d ⟨M1.env, wl⟩) (fun e wl => xn e ⟨M1.env, wl⟩) .mk .mk := rfl
def uNever : WS := fun _ _ _ => False
theorem dS_never {X : Cx} {R : XP} {st : Stmt} : DS X R st uNever := ⟨fun _ _ _ => False, ⟨fun _ _ _ _ _ _ h => h.elim⟩, fun _ _ h _ => h⟩
theorem fld_TooMany : fldOf "TooMany" = some "limit" := by decide +kernel
theorem fld_Unfit : fldOf "Unfit" = none := by decide +kernel
end DL

/-! DL33: a range kept in a variable, then walked. -/
namespace DL
open PySem PySem.Spec L2 PyProof.Rows
section
variable {K : PySem.W.Frag} {F0 H0 F H : Hp} {W : Option (Addr × Addr)} {M : Mem} {σ : List (Option V)} {i : Nat}
theorem Rel.setRng {a : Addr} {lo hi : Int} (R : Rel K F0 H0 W M σ F H) (hx : F a = some (.rng lo hi)) : Rel K F0 H0 W (M.set i (.rng lo hi)) (σ.set i (some (.ref a))) F H where
  sub := R.sub
  old := R.old
  fol := R.fol
  fnw := R.fnw
  len := by simp [Mem.set, R.len]
  slt := fun j e h => by
    rcases getSet h with ⟨rfl, he⟩ | ⟨ne, h⟩
    · cases he
      have hl : i < σ.length := by rw [R.len]; have := (List.getElem?_eq_some_iff.mp h).1; simpa [Mem.set] using this
      exact ⟨.ref a, List.getElem?_set_self hl, a, rfl, hx⟩
    · obtain ⟨v, h1, h2⟩ := R.slt j e h
      exact ⟨v, by rw [List.getElem?_set_ne ne]; exact h1, h2⟩
  dis := fun j l x y u ne h1 h2 h3 h4 => by
    rcases getSet h1 with ⟨_, z⟩ | ⟨na, h1⟩
    · cases z
    rcases getSet h2 with ⟨_, z⟩ | ⟨nb, h2⟩
    · cases z
    rw [List.getElem?_set_ne na] at h3
    rw [List.getElem?_set_ne nb] at h4
    exact R.dis j l x y u ne h1 h2 h3 h4
  wel := R.wel
end
section
variable {X : Cx} {R : XP} {a b tg iter l : Expr} {pos : Pos}
def iRngV (tl : TE) : TI := fun σ H Q => tl σ H fun x H1 => ∃ (p : Addr) (lo hi : Int), x = .ref p ∧ H1 p = some (.rng lo hi) ∧ (-(2 ^ 62) ≤ lo ∧ lo < 2 ^ 62 ∧ -(2 ^ 62) ≤ hi ∧ hi < 2 ^ 62) ∧ Q (Itr lo (hi - lo).toNat) H1
theorem pi_rngV {tl : TE} (hl : PE X l tl) : PI X tg l (iRngV tl) := by
  refine ⟨fun pins s σ H Q I h => ?_⟩
  refine thn (hl.run pins s σ H _ I h) fun v s1 ⟨x, H1, I1, r1, q1⟩ => ?_
  obtain ⟨p, lo, hi, e, hp, ⟨h1, h2, h3, h4⟩, q⟩ := q1
  subst e
  cases r1
  have ok : ObjOk X.prog X.w H1 s1.heap p (.rng lo hi) := I1.hok p _ hp
  obtain ⟨t, u, v, hg⟩ := ok
  refine wpAny_pyIter_range (a := lo) (b := hi) hg (small_one h1 h2 h3 h4) ?_
  refine ⟨s1.heap.objs.size, [s1.heap.objs.size], _, _, H1, rfl, I1.kept (t' := s1.toks) fun b o e => Heap.get?_push_of_some _ e, turn_range _ lo (hi - lo).toNat, ?_, fun b hb => ?_, q⟩
  · have e1 : lo + ((0 : Nat) : Int) * 1 = lo := by simp
    have e2 : (((hi - lo).toNat : Nat) : Int) - ((0 : Nat) : Int) = Builtin.Range.rangeSize lo hi 1 := by rw [rangeSize_one]; split <;> omega
    show IsRangeIter _ _ (lo + ((0 : Nat) : Int) * 1) ((((hi - lo).toNat : Nat) : Int) - ((0 : Nat) : Int)) 1
    rw [e1, e2]
    exact Heap.get?_push_size _ rfl
  · have e : b = s1.heap.objs.size := by simpa using hb
    subst e
    exact I1.fpOk (Nat.le_refl _) (I1.hok.fresh (Nat.le_refl _))
/-- for .. in x, x a range -/
def iRV (i : Nat) : WI := fun xn M Q => match M.env[i]? with
  | some (some (.rng lo hi)) => (-(2 ^ 62) ≤ lo ∧ lo < 2 ^ 62 ∧ -(2 ^ 62) ≤ hi ∧ hi < 2 ^ 62) ∧ Q (rng lo (hi - lo).toNat) M
  | _ => False
theorem dI_rv (i : Nat) {x : Str} {xp : Pos} (hN : X.N[i]? = some x := by rfl) (hv : Vis X.env.scope x := by first | exact Or.inl rfl | exact Or.inr (Or.inl rfl) | exact Or.inr (Or.inr rfl)) (hd : (x == ("__debug__" : Str)) = false := by decide) (hcd : (x == ("__classdict__" : Str)) = false := by decide) : DI X R tg (.Name x xp) (iRV i) := by
  refine ⟨_, pi_rngV (pe_var (i := i) hN hv hd hcd), fun {F0 H0 F H W M σ xn Q k} r l hw kk => ?_⟩
  unfold iRV at hw
  split at hw
  · rename_i lo hi he
    obtain ⟨v, h1, p, rfl, h2⟩ := r.slt i _ he
    exact ⟨_, h1, p, lo, hi, rfl, r.sub _ _ h2, hw.1, kk _ _ _ _ _ (.refl _) r walk_rng hw.2⟩
  · exact hw.elim
/-- x = range(a, b) -/
def uRng (i : Nat) (os : WOs) : WS := fun xn De M => os xn M fun xs M1 => match getAll xs M1 with
  | some [.int lo, .int hi] => De.nx (M1.set i (.rng lo hi))
  | _ => False
theorem boot_rangeT : bootBuiltins "range" = some (.type "range") := by first | rfl | decide +kernel | kernel_rfl
theorem dS_rng {i : Nat} {y : Str} {py p spos : Pos} {os : WOs} (hN : X.N.Nodup) (hy : X.N[i]? = some y) (hyl : Loc X.env.scope y) (hg : Gl X "range") (hm : X.mg "range" = none) (h : DOs X R [a, b] os)
    (hs : starEach [a, b] X.env = (false, eval a X.env) :: starEach [b] X.env := by rfl) (hpl : (backTo pos (starEach [b] X.env)).any (·.1) = false := by rfl) (hsw : swapsWith (.Call (.Name "range" p) [a, b] [] pos) (some (.Name y py)) spos.line X.env = pure false := by rfl) (hf : X.fn y = true ∨ X.env.scope.names.lookup y = some .local := by first | exact .inl rfl | exact .inr rfl | assumption) : DS X R (.Assign [.Name y py] (.Call (.Name "range" p) [a, b] [] pos) spos) (uRng i os) := by
  obtain ⟨t, p1, q⟩ := h.ex
  refine ⟨_, ps_set (i := i) hN hy hyl (pe_callTy cr_range2 hg hm boot_rangeT p1 (by decide) (by decide) hs hpl) hsw hf, fun {F0 H0 F H W M σ xn De D} r l hw E => ?_⟩
  refine q r l hw fun vs xs M1 F1 H1 s1 r1 hx z => ?_
  split at z
  · rename_i lo hi e
    obtain ⟨v, w, rfl, hv, hw2⟩ := (views_of r1 hx e).two
    refine ⟨lo, hi, by rw [hv.int, hw2.int], fun p hp => ?_⟩
    have g := Grow.newF (o := .rng lo hi) r1.sub hp
    exact E.nx _ _ _ _ (s1.trans g.f) ((r1.grow g).setRng (a := p) upd_same) z
  · exact z.elim
end
end DL

/-! DL34: {k: v, ..} written, the keys tuples. -/
namespace DL
open PySem PySem.Spec L2 PyProof.Rows
abbrev Tr := List Key × Addr × V
def mergeT (kvs : List (List Key × V)) (tr : List Tr) : List (List Key × V) := tr.foldl (fun acc t => putK acc t.1 t.2.2) kvs
theorem mergeT_len : ∀ (tr : List Tr) (kvs : List (List Key × V)), (mergeT kvs tr).length ≤ kvs.length + tr.length
  | [], kvs => Nat.le_refl _
  | t :: tr, kvs => by
    have a := mergeT_len tr (putK kvs t.1 t.2.2)
    have b := length_putK kvs t.1 t.2.2
    show (mergeT (putK kvs t.1 t.2.2) tr).length ≤ _
    rw [List.length_cons]
    omega
theorem carriesT {P : Program} {w : World} {H : Hp} {h : Heap} (ok : HOk P w H h) : ∀ {tr : List Tr} {ws : List (Value × Value)}, VV (tr.map fun t => (V.ref t.2.1, t.2.2)) ws → (∀ t ∈ tr, H t.2.1 = some (.tup (t.1.map kV))) →
    ∃ xs : List (List Key × Addr × Value), CarriesH (tupleKind (mixKind P w)) h ws xs ∧ ∀ {kvs : List (List Key × V)} {ys : List (List Key × Addr × Value)}, KT H kvs ys → KT H (mergeT kvs tr) (storedAllH ys xs)
  | [], _, r, _ => by
    rw [List.map_nil] at r
    cases r
    exact ⟨[], trivial, fun q => q⟩
  | t :: tr, _, r, hk => by
    rw [List.map_cons] at r
    cases r with
    | @cons a b as bs h1 h2 =>
      obtain ⟨xs, c, m⟩ := carriesT ok h2 fun t' ht' => hk t' (List.mem_cons_of_mem _ ht')
      obtain ⟨b1, b2⟩ := b
      have e1 : b1 = Value.ref t.2.1 := h1.1
      have hb := hk t List.mem_cons_self
      refine ⟨(t.1, t.2.1, b2) :: xs, ⟨e1, rfl, key_of ok hb, c⟩, fun q => ?_⟩
      exact m (q.put t.1 hb h1.2)
def tDispT (trs : List (TE × TE)) : TE := fun σ H Q => ∀ p, H p = none → tPairs trs σ (upd H p (.dT [])) fun ps H2 => H2 p = some (.dT []) ∧ ∃ tr : List Tr, ps = tr.map (fun t => (V.ref t.2.1, t.2.2)) ∧ (∀ t ∈ tr, H2 t.2.1 = some (.tup (t.1.map kV))) ∧ tr.length ≤ 15 ∧ Q (.ref p) (upd H2 p (.dT (mergeT [] tr)))
theorem pe_dispT {X : Cx} {pos : Pos} {keys : List (Option Expr)} {values : List Expr} {trs : List (TE × TE)} (hu : X.A.units + 1 < cLine) (h : PPs X pos keys values trs) (hall : keys.all (·.isSome) = true) (hl : keys.length = values.length) (h0 : keys ≠ []) (h15 : keys.length ≤ 15) : PE X (.Dict keys values pos) (tDispT trs) := by
  refine ⟨fun pins s σ H Q I q => ?_⟩
  have hn := I.hok.fresh (Nat.le_refl s.heap.objs.size)
  have I1 := I.laid (a := s.heap.objs.size) (o := .dT []) (h' := s.heap.push { cls := .type "dict", data := .dict #[] }) (t' := s.toks) (fun _ _ q => Heap.get?_push_of_some _ q) (Nat.le_refl _) (dt_empty s.heap I.big)
  have hpl := pairTrees_length keys values X.env pos hall hl
  rw [arm_eval_Dict, zip_pairTrees keys values X.env pos hall hl, dictDisplay_pairs (pairTrees keys values X.env pos) (by
    intro he
    rw [he] at hpl
    exact h0 (List.length_eq_zero_iff.mp hpl.symm)) (by omega)]
  refine wpAny_bind (wpAny_standAt (wpAny_bind (wpAny_subDictH (knd := tupleKind (mixKind X.prog X.w)) (show X.A.units < cLine by omega) (by rw [hpl]; exact h15) ?_)))
  refine thn (h.run pins _ σ _ _ I1 (q _ hn)) fun ws s2 ⟨ps, H2, I2, rel, e, tr, ep, hk, lk, q2⟩ => ?_
  subst ep
  obtain ⟨xs, c, m⟩ := carriesT (P := X.prog) (w := X.w) I2.hok rel hk
  obtain ⟨z, hd, vs0, r0, dd⟩ := dt_of I2.hok e
  cases r0
  refine ⟨xs, c, dd, fun h' tk dd' hs => wpAny_pure ⟨.ref s.heap.objs.size, _, ?_, rfl, q2⟩⟩
  have hz : (mergeT [] tr).length ≤ sizeLine := by
    have h1 := mergeT_len tr []
    rw [List.length_nil] at h1
    rw [sizeLine_eq]; omega
  obtain ⟨o, es, ep, ho, hc, hdat, hes, _, hnd⟩ := dd'
  have kt : KT (upd H2 s.heap.objs.size (.dT (mergeT [] tr))) (mergeT [] tr) (storedAllH [] xs) := (m .nil).keeps fun b ys hb => by
    have ne : b ≠ s.heap.objs.size := fun z => by rw [z, e] at hb; cases hb
    rw [upd_ne ne]
    exact hb
  exact d_write I2 (by rw [e]; exact True.intro) hs ⟨o, ho⟩ ⟨hz, hd, _, kt, o, es, ep, ho, hc, hdat, hes, hnd⟩
/-! over plain data -/
def tKey : PyData → Bool
  | .tuple ds => ds.all fun d => match d with
    | .int _ | .str _ => true
    | _ => false
  | _ => false
def wDispT (wp : WPs) : WE := fun xn M Q => wp (fun _ _ => False) M.ro fun ds M' => ((ds.map (·.1)).all tKey = true ∧ ds.length ≤ 15) ∧ Q (.dict ((.none, .none) :: ds.foldl (fun acc kv => dput acc kv.1 kv.2) [])) ⟨M.env, M'.wl⟩
section
variable {X : Cx} {R : XP} {K : PySem.W.Frag} {pos : Pos}
theorem mergeT_run {F : Hp} : ∀ {ks : List (List Key × V)} {tr : List Tr} {kvs ds : List (PyData × PyData)}, kvs.map (·.1) = ks.map (fun p => .tuple (p.1.map kD)) → DVs K F (ks.map (·.2)) (kvs.map (·.2)) → ds.map (·.1) = tr.map (fun t => .tuple (t.1.map kD)) → DVs K F (tr.map (·.2.2)) (ds.map (·.2)) →
    (ds.foldl (fun acc kv => dput acc kv.1 kv.2) kvs).map (·.1) = (mergeT ks tr).map (fun p => .tuple (p.1.map kD)) ∧ DVs K F ((mergeT ks tr).map (·.2)) ((ds.foldl (fun acc kv => dput acc kv.1 kv.2) kvs).map (·.2))
  | ks, [], kvs, [], h1, h2, _, _ => ⟨h1, h2⟩
  | _, [], _, _ :: _, _, _, h, _ => by simp at h
  | _, _ :: _, _, [], _, _, h, _ => by simp at h
  | ks, t :: tr, kvs, q :: ds, h1, h2, h3, h4 => by
    simp only [List.map_cons, List.cons.injEq] at h3
    cases h4 with
    | cons r4 q4 =>
      obtain ⟨a1, a2, _⟩ := put_run (K := K) (kd := fun z => .tuple (z.map kD)) kEq_tD (k := t.1) (v := t.2.2) (d := q.2) h1 h2 r4
      rw [← h3.1] at a1 a2
      exact mergeT_run (kvs := dput kvs q.1 q.2) (ks := putK ks t.1 t.2.2) a1 a2 h3.2 q4
theorem tr_of {F : Hp} : ∀ {ps : List (V × V)} {ds : List (PyData × PyData)}, DVs K F (ps.map (·.1)) (ds.map (·.1)) → (ds.map (·.1)).all tKey = true → ∃ tr : List Tr, ps = tr.map (fun t => (V.ref t.2.1, t.2.2)) ∧ (∀ t ∈ tr, F t.2.1 = some (.tup (t.1.map kV))) ∧ ds.map (·.1) = tr.map (fun t => .tuple (t.1.map kD))
  | [], [], _, _ => ⟨[], rfl, fun _ h => (by cases h), rfl⟩
  | [], _ :: _, h, _ => by cases h
  | _ :: _, [], h, _ => by cases h
  | p :: ps, d :: ds, h, hk => by
    rw [List.map_cons, List.map_cons] at h
    rw [List.map_cons, List.all_cons, Bool.and_eq_true] at hk
    cases h with
    | cons h1 h2 =>
      obtain ⟨tr, e1, e2, e3⟩ := tr_of h2 hk.2
      obtain ⟨k, v⟩ := p
      obtain ⟨dk, dv⟩ := d
      have hk1 := hk.1
      cases dk with
      | tuple xs =>
        obtain ⟨ks, rfl⟩ := keys_of (show _ = true from hk1)
        cases h1 with
        | tup ha hv =>
          rename_i a vs
          rw [keys_vals hv] at ha
          refine ⟨(ks, a, v) :: tr, by rw [List.map_cons, e1], fun t ht => ?_, by rw [List.map_cons, List.map_cons, e3]⟩
          rcases List.mem_cons.mp ht with rfl | ht
          · exact ha
          · exact e2 t ht
      | _ => cases hk1
theorem dF_dispT {ks : List (Option Expr)} {vs : List Expr} {wp : WPs} (hu : X.A.units + 1 < cLine) (h : DPs X X0 pos ks vs wp) (hall : ks.all (·.isSome) = true) (hl : ks.length = vs.length) (h0 : ks ≠ []) (hk : ks.length ≤ 15) : DF X R (.Dict ks vs pos) (wDispT wp) := by
  obtain ⟨trs, p1, q1⟩ := h.ex
  refine ⟨_, pe_dispT hu p1 hall hl h0 hk, fun {F0 H0 F H W M σ xn Q k} r l hw kk p hp => ?_⟩
  obtain ⟨r2, f2⟩ := r.isFresh (o := .dT []) (d := .dict [(.none, .none)]) hp (.dit upd_same rfl .nil)
  have lk : ∀ {W : Option (Addr × Addr)}, Lnk X.K X0 F (upd H p (.dT [])) W noX := fun _ _ _ _ _ _ _ _ _ h => h.elim
  refine q1 r2.toRo lk hw fun ps ds M' F' H' s' r' e1 e2 z => ?_
  obtain ⟨r3, f3, h3⟩ := held r2 f2 r'
  obtain ⟨⟨z1, z2⟩, z3⟩ := z
  obtain ⟨tr, g1, g2, g3⟩ := tr_of e1 z1
  have len : ds.length = tr.length := by have := congrArg List.length g3; simpa using this
  refine ⟨h3.trans upd_same, tr, g1, fun t ht => r'.sub _ _ (g2 t ht), by omega, ?_⟩
  subst g1
  rw [List.map_map] at e2
  obtain ⟨m1, m2⟩ := mergeT_run (K := X.K) (F := F') (ks := []) (kvs := []) rfl .nil g3 e2
  obtain ⟨r4, f4⟩ := fillF r3 f3 (o := .dT (mergeT [] tr)) (.dit upd_same m1 m2)
  exact kk _ _ _ _ _ s' r4 f4 z3
end
end DL

/-! M0: data small enough to be shown and compared. -/
namespace DL
open PySem PySem.Spec L2 PyProof.Rows
structure Sm (n k : Nat) (d : PyData) : Prop where
  fl : flat d = true
  sh : d.showable = true
  de : d.depth ≤ n
  le : d.shown.length ≤ k
  la : d.canLay0 = true
theorem Sm.mono {n k n' k' : Nat} {d : PyData} (h : Sm n k d) (h1 : n ≤ n') (h2 : k ≤ k') : Sm n' k' d := ⟨h.fl, h.sh, Nat.le_trans h.de h1, Nat.le_trans h.le h2, h.la⟩
theorem Sm.none : Sm 0 5 .none := ⟨rfl, rfl, Nat.le_refl _, by decide +kernel, rfl⟩
theorem Sm.bool (b : Bool) : Sm 0 5 (.bool b) := ⟨rfl, rfl, Nat.le_refl _, by cases b <;> decide +kernel, rfl⟩
theorem Sm.int {i : Int} {m : Nat} (hm : m < 1900) (h0 : 0 < m) (h : i.natAbs < 2 ^ m) : Sm 0 (m + 1) (.int i) := by
  have hl : i.natAbs.log2 < m := by
    by_cases h0 : i.natAbs = 0
    · rw [h0]; simpa using ‹0 < m›
    · exact (Nat.log2_lt h0).mpr h
  refine ⟨rfl, by rw [PyData.showable]; exact decide_eq_true (by omega), Nat.le_refl _, ?_, rfl⟩
  rw [PyData.shown]
  have := int_text_length_le h0 hl
  have e : (Str.ofString (toString i)).length = (toString i).length := by rw [PySem.ofString_length]
  show (Str.ofString (toString i)).length ≤ _
  omega
theorem Sm.str {l : List Nat} {m : Nat} (h : ∀ c ∈ l, c < 1000) (hl : l.length ≤ m) : Sm 0 (10 * m + 2) (.str (S l)) := by
  refine ⟨rfl, rfl, Nat.le_refl _, ?_, ?_⟩
  · rw [PyData.shown]
    have := StrLaws.reprText_len (S l) (fun c hc => by have := h c hc; omega)
    have e : (S l).length = l.length := strLen _
    omega
  · rw [PyData.canLay0]
    show Array.all _ _ = true
    rw [Array.all_eq_true_iff_forall_mem]
    intro c hc
    have := h c (by simpa using hc)
    exact decide_eq_true (by omega)
theorem flats_of : ∀ {l : List PyData}, (∀ x ∈ l, flat x = true) → flats l = true
  | [], _ => rfl
  | x :: r, h => by rw [flats, h x List.mem_cons_self, flats_of fun y hy => h y (List.mem_cons_of_mem _ hy)]; rfl
theorem depthAll_of {n : Nat} : ∀ {l : List PyData}, (∀ x ∈ l, x.depth ≤ n) → PyData.depthAll l ≤ n
  | [], _ => Nat.zero_le _
  | x :: r, h => by rw [PyData.depthAll]; exact Nat.max_le.mpr ⟨h x List.mem_cons_self, depthAll_of fun y hy => h y (List.mem_cons_of_mem _ hy)⟩
theorem canLayAll_of : ∀ {l : List PyData}, (∀ x ∈ l, x.canLay0 = true) → PyData.canLayAll0 l = true
  | [], _ => rfl
  | x :: r, h => by rw [PyData.canLayAll0, h x List.mem_cons_self, canLayAll_of fun y hy => h y (List.mem_cons_of_mem _ hy)]; rfl
theorem join_le {k : Nat} : ∀ {l : List Str}, (∀ x ∈ l, x.length ≤ k) → (Str.join ", " l).length ≤ l.length * (k + 2)
  | [], _ => Nat.zero_le _
  | [x], h => by have := h x List.mem_cons_self; show x.length ≤ 1 * (k + 2); omega
  | x :: y :: r, h => by
    have h1 := h x List.mem_cons_self
    have h2 := join_le (l := y :: r) fun z hz => h z (List.mem_cons_of_mem _ hz)
    show ((x ++ ", ") ++ Str.join ", " (y :: r)).length ≤ _
    rw [Str.length_append, Str.length_append]
    have e : (Str.ofString ", ").length = 2 := by decide +kernel
    rw [e]
    simp only [List.length_cons] at h2 ⊢
    rw [Nat.add_mul (r.length + 1) 1]
    omega
theorem shownAll_mem : ∀ {l : List PyData} {s : Str}, s ∈ PyData.shownAll l → ∃ d ∈ l, s = d.shown
  | [], s, h => by simp [PyData.shownAll] at h
  | x :: r, s, h => by
    simp only [PyData.shownAll, List.mem_cons] at h
    rcases h with rfl | h
    · exact ⟨x, List.mem_cons_self, rfl⟩
    · obtain ⟨d, h1, h2⟩ := shownAll_mem h
      exact ⟨d, List.mem_cons_of_mem _ h1, h2⟩
theorem shownAll_len : ∀ l : List PyData, (PyData.shownAll l).length = l.length
  | [] => rfl
  | x :: r => by simp [PyData.shownAll, shownAll_len r]
theorem Sm.list {n k m : Nat} {l : List PyData} (h : ∀ x ∈ l, Sm n k x) (hl : l.length ≤ m) : Sm (n + 1) (m * (k + 2) + 3) (.list l) := by
  refine ⟨by rw [flat]; exact flats_of fun x hx => (h x hx).fl, by rw [PyData.showable]; exact showableAll_of fun x hx => (h x hx).sh, by rw [PyData.depth]; exact Nat.succ_le_succ (depthAll_of fun x hx => (h x hx).de), ?_, by rw [PyData.canLay0]; exact canLayAll_of fun x hx => (h x hx).la⟩
  rw [PyData.shown_list, Str.length_append, Str.length_append]
  have e := join_le (k := k) (l := PyData.shownAll l) fun s hs => by
    obtain ⟨d, h1, rfl⟩ := shownAll_mem hs
    exact (h d h1).le
  rw [shownAll_len] at e
  have e1 : (Str.ofString "[").length = 1 := by decide +kernel
  have e2 : (Str.ofString "]").length = 1 := by decide +kernel
  have := Nat.mul_le_mul_right (k + 2) hl
  omega
theorem Sm.tup {n k m : Nat} {l : List PyData} (h : ∀ x ∈ l, Sm n k x) (hl : l.length ≤ m) : Sm (n + 1) (m * (k + 2) + 3) (.tuple l) := by
  refine ⟨by rw [flat]; exact flats_of fun x hx => (h x hx).fl, by rw [PyData.showable]; exact showableAll_of fun x hx => (h x hx).sh, by rw [PyData.depth]; exact Nat.succ_le_succ (depthAll_of fun x hx => (h x hx).de), ?_, by rw [PyData.canLay0]; exact canLayAll_of fun x hx => (h x hx).la⟩
  rw [PyData.shown_tuple, Str.length_append, Str.length_append]
  have e := join_le (k := k) (l := PyData.shownAll l) fun s hs => by
    obtain ⟨d, h1, rfl⟩ := shownAll_mem hs
    exact (h d h1).le
  rw [shownAll_len] at e
  have e1 : (Str.ofString "(").length = 1 := by decide +kernel
  have e2 : (Str.ofString (if (l.length == 1) = true then ",)" else ")")).length ≤ 2 := by split <;> decide +kernel
  have := Nat.mul_le_mul_right (k + 2) hl
  omega
theorem Sm.shaped {n k : Nat} {d : PyData} (h : Sm n k d) (hn : n ≤ 64) : SeqAt.shaped d = true := by
  unfold SeqAt.shaped
  rw [h.la, decide_eq_true (Nat.le_trans h.de hn)]
  rfl
/-- what repr wants -/
theorem Sm.repr {n k : Nat} {d : PyData} (h : Sm n k d) (hn : n ≤ 40) (hk : k ≤ 16777216) : flat d = true ∧ d.showable = true ∧ d.depth ≤ 40 ∧ d.shown.length ≤ sizeLine := ⟨h.fl, h.sh, Nat.le_trans h.de hn, Nat.le_trans h.le (by rw [sizeLine_eq]; exact hk)⟩
theorem Sm.eq {n k n' k' : Nat} {d e : PyData} (h : Sm n k d) (h' : Sm n' k' e) (hn : n ≤ 64) (hn' : n' ≤ 64) : flat d = true ∧ flat e = true ∧ SeqAt.shaped d = true ∧ SeqAt.shaped e = true := ⟨h.fl, h'.fl, h.shaped hn, h'.shaped hn'⟩
theorem eqv_nil : ∀ l : List PyData, PyData.eqv (.list l) (.list []) = l.isEmpty
  | [] => by rw [PyData.eqv, PyData.eqvAll]; rfl
  | x :: r => by rw [PyData.eqv, PyData.eqvAll]; rfl
theorem Sm.nil : Sm 1 3 (.list []) := (Sm.list (n := 0) (k := 0) (m := 0) (fun x hx => by simp at hx) (Nat.le_refl _)).mono (by omega) (by omega)
theorem isNone_1 : isNone .none = true := rfl
theorem isNone_2 {i : Int} : isNone (.int i) = false := rfl
theorem isNone_3 {i : Str} : isNone (.str i) = false := rfl
theorem isNone_4 {i : Bool} : isNone (.bool i) = false := rfl
theorem isNone_5 {i : List PyData} : isNone (.list i) = false := rfl
theorem isNone_6 {i : List PyData} : isNone (.tuple i) = false := rfl
theorem isNone_7 {i : List (PyData × PyData)} : isNone (.dict i) = false := rfl
theorem atI_0 {α : Type} (a : α) (l : List α) : atI (a :: l) 0 = some a := by
  unfold L2.atI ixN
  rw [if_pos (by decide), if_pos (by simp)]
  rfl
theorem atI_1 {α : Type} (a b : α) (l : List α) : atI (a :: b :: l) 1 = some b := by
  unfold L2.atI ixN
  rw [if_pos (by decide), if_pos (by simp; omega)]
  rfl
theorem atI_2 {α : Type} (a b c : α) (l : List α) : atI (a :: b :: c :: l) 2 = some c := by
  unfold L2.atI ixN
  rw [if_pos (by decide), if_pos (by simp; omega)]
  rfl
theorem atI_3 {α : Type} (a b c d : α) (l : List α) : atI (a :: b :: c :: d :: l) 3 = some d := by
  unfold L2.atI ixN
  rw [if_pos (by decide), if_pos (by simp; omega)]
  rfl
end DL

namespace DL
open PySem PySem.Spec L2 PyProof.Rows
structure WelOk (w : Wel) : Prop where
  pos : ∀ c ∈ w.deep, 0 ≤ c
  len : w.deep.length ≤ 63
/-! the well's numbers, as they come -/
def bl1 (m d : Int) : Int := (m + 2654435769 * d) % 4294967291
def bl2 (m d : Int) : Int := (bl1 m d * bl1 m d + 374761393 * d + 9) % 4294967279
def bl3 (m d : Int) : Int := (bl2 m d * bl2 m d + m) % 4294967231
def dipV (w : Wel) (many : Int) : Int × Wel :=
  if many < 2 then (0, w) else match w.deep[w.deep.length - 1]? with
  | some n => (n % many, { w with deep := if many ≤ n then w.deep.dropLast ++ [n / many] else w.deep.dropLast })
  | none => (bl3 w.mix (w.drawn + 1) / 128 % many, { w with drawn := w.drawn + 1 })
def g__law_dip : GSpec := fun args wl Q => ∃ w many, args = [.wel, .x (.int many)] ∧ wl = some w ∧ WelOk w ∧ many < 2 ^ 62 ∧ Q (.int (dipV w many).1) (some (dipV w many).2)
theorem divW {i j : Int} (h0 : 0 < j) (h : j < 2 ^ 62) : CDivW i j := by
  refine ⟨h0, ?_⟩
  have : j.natAbs < 2 ^ 62 := by omega
  have := (Nat.log2_lt (by omega)).mpr this
  omega
def u__law_dip : WS :=
  (uSeq (uIf (wTst (wOp fLt (oV 1) (oE (wC (.int 2)))))
  (uRet (wC (.int 0)))
  uNext)
  (uSeq (uIf (tWelNE 0)
  (uSeq (uAsg (wWelPop 0) (gSet 2))
  (uSeqM (uIf (wTst (wOp fGe (oV 2) (oV 1)))
  (uDrop (wWelApp 0 (wOp fDiv (oV 2) (oV 1))))
  uNext)
  (uRet (wOp fMod (oE (wCB fInt (osC (oV 2) osN))) (oV 1)))))
  uNext)
  (uSeq (uWelD 0 (wOp fAdd (oE (wWelI 0 (·.drawn))) (oE (wC (.int 1)))))
  (uSeq (uAsg (wOp fMod (oE (wCB fInt (osC (oE (wOp fAdd (oE (wWelI 0 (·.mix))) (oE (wOp fMul (oE (wC (.int 2654435769))) (oE (wWelI 0 (·.drawn))))))) osN))) (oE (wC (.int 4294967291)))) (gSet 3))
  (uSeq (uAsg (wOp fMod (oE (wCB fInt (osC (oE (wOp fAdd (oE (wOp fAdd (oE (wOp fMul (oV 3) (oV 3))) (oE (wOp fMul (oE (wC (.int 374761393))) (oE (wWelI 0 (·.drawn))))))) (oE (wC (.int 9))))) osN))) (oE (wC (.int 4294967279)))) (gSet 3))
  (uSeq (uAsg (wOp fMod (oE (wCB fInt (osC (oE (wOp fAdd (oE (wOp fMul (oV 3) (oV 3))) (oE (wWelI 0 (·.mix))))) osN))) (oE (wC (.int 4294967231)))) (gSet 3))
  (uRet (wOp fMod (oE (wCB fInt (osC (oE (wOp fDiv (oV 3) (oE (wC (.int 128))))) osN))) (oV 1)))))))))
theorem pf__law_dip (args : List Arg) (wl : Option Wel) (Q : PyData → Option Wel → Prop) (h : g__law_dip args wl Q) : u__law_dip noX (endsG Q) (mem0 4 args wl) := by
  obtain ⟨w, many, rfl, rfl, ok, hm, q⟩ := h
  simp -dsimp only [u__law_dip, ↓uSeq, ↓uNext, ↓uKill, ↓uFrz, ↓uDrop, ↓uRet, ↓uIf, ↓uAsg, ↓uAsgO, ↓uPar2, ↓uPar3, ↓uAug, ↓uPut, ↓uDPut, ↓uFor_eq, ↓uWhile_eq, ↓uSeqM_eq, ↓uBrk, ↓uCnt, ↓uWelD, ↓gSet, ↓gN, ↓gC, ↓gT, ↓zE, ↓zF, ↓oE, ↓oV, ↓wV, ↓wC, ↓wOp, ↓wUn, ↓app2, ↓app1, ↓wTst, ↓tAndD, ↓tOrD, ↓tNotD, ↓wAndV, ↓wOrV, ↓wNotV, ↓wIf, ↓wChain, ↓osN, ↓osC, getAll, ↓appN, ↓wCB, ↓appM, ↓wBM, ↓wBM0, ↓wN, ↓wCs, ↓wTup, ↓wLst, ↓wDic0, ↓wDicT, ↓aN, ↓aC, ↓aW, ↓wCall_eq, ↓wCallK_eq, perm, List.filterMap_cons, List.filterMap_nil, ↓wApp, ↓wExt, ↓wPop, ↓wPopAt, ↓wListA, ↓wRpl, ↓iX, ↓iL, ↓iT, ↓iS, ↓iR1, ↓iR2, ↓iR3, ↓iScr, ↓iZD, ↓iE, ↓iE2, ↓iZ2, ↓iZ3, ↓seqD, ↓zipD3, ↓wComp_eq, ↓ttY, ↓wSl, ↓wPart, ↓plN, ↓wRev, ↓wListO, ↓wRep, ↓wLenSet, ↓wLenScr, ↓wWelI, ↓wWelPop, ↓wWelApp, ↓tWelNE, ↓wDisp, ↓wDispT, ↓psC, ↓psN, ↓wDIn, ↓wDNotIn, ↓wDG1, ↓wDG2, ↓wIsi, ↓askD, ↓uTry, ↓uRng, ↓iRV, ↓uRaise, ↓uRaise0, ↓uNever, ↓wCallX_eq, ↓wCallKX_eq, ↓wXf, ↓wIsX, ↓fAdd, ↓fSub, ↓fII, ↓fII0, ↓fDiv, ↓fMod, ↓fPow, ↓fLt, ↓fGt, ↓fLe, ↓fGe, ↓fGtD, ↓fLtD, ↓fLeD, ↓fGeD, ↓fNeg, ↓fMul, ↓fEq, ↓fNe, ↓eqQ, ↓fIsN, ↓fNotN, isNone_1, isNone_2, isNone_3, isNone_4, isNone_5, isNone_6, isNone_7, ↓fInC, ↓fNotInC, ↓fSub_, ↓fIx, ↓fSl, ↓fLen, ↓fTuple, ↓fMin1, ↓fMax1, ↓fSum, ↓fAll, ↓fAny, ↓fSorted, ↓fSortS, ↓fAbs, ↓fInt, ↓fRepr, ↓fCnt, ↓fIdx, ↓fJoin, ↓mSS, ↓mSB, ↓mTI, ↓mTB, ↓mTI3, ↓fInL, ↓fNinL, ↓fInT, ↓fNinT, ↓fInA, ↓fNinA, ↓fInB, ↓fNinB, isStr,
 atI_0, atI_1, atI_2, atI_3, endsG, fld_TooMany, fld_Unfit, mem0, toEnt, Mem.set, Mem.view, Mem.kill, Mem.frz, Mem.ro, Ent.ro', Opd.get,
 List.set_cons_zero, List.set_cons_succ, List.getElem?_cons_zero, List.getElem?_cons_succ, List.map_cons, List.map_nil, List.length_cons, List.length_nil, List.cons_append, List.nil_append, List.replicate_succ, List.replicate_zero, Option.map_some, Option.map_none, List.cons.injEq, and_true, true_and, Arg.x.injEq, exists_eq_left, exists_eq_right, Option.some.injEq, Ent.ow.injEq, Ent.im.injEq, PyData.int.injEq, PyData.list.injEq, PyData.dict.injEq, PyData.tuple.injEq, PyData.str.injEq, exists_eq', exists_eq, decide_eq_true_eq, Bool.not_eq_true', ite_true, ite_false, decide_true, decide_false, decide_eq_false_iff_not, not_true_eq_false, not_false_eq_true, reduceCtorEq, eq_self]
  by_cases h2 : many < 2
  · rw [if_pos h2]
    have e : dipV w many = (0, w) := by unfold dipV; rw [if_pos h2]
    rw [e] at q
    exact q
  rw [if_neg h2]
  have small : ∀ {a b : Int}, 0 < b → b < 2 ^ 64 → CMul (a % b) (a % b) := fun {a b} h1 h2 => by
    have := Int.emod_nonneg a (b := b) (by omega)
    have := Int.emod_lt_of_pos a h1
    exact .inl ⟨by omega, by omega⟩
  by_cases hd : w.deep.isEmpty = true
  · rw [if_neg (by simp [hd])]
    refine ⟨.inl (by decide), by decide, small (by decide) (by decide), .inl (by decide), by decide, small (by decide) (by decide), by decide, divW (by decide) (by decide), by omega, ?_⟩
    have e0 : w.deep = [] := by simpa using hd
    have e : dipV w many = (bl3 w.mix (w.drawn + 1) / 128 % many, { w with drawn := w.drawn + 1 }) := by
      unfold dipV
      rw [if_neg h2, e0]
      rfl
    rw [e] at q
    exact q
  · rw [if_pos (by simpa using hd)]
    obtain ⟨n, hn⟩ : ∃ n, w.deep[w.deep.length - 1]? = some n := by
      cases e : w.deep with
      | nil => rw [e] at hd; exact absurd rfl hd
      | cons a l => simp
    simp only [hn]
    have nn : 0 ≤ n := ok.pos n (List.mem_of_getElem? hn)
    have dl : ∀ c ∈ w.deep.dropLast, 0 ≤ c := fun c hc => ok.pos c (List.dropLast_subset _ hc)
    have dn : w.deep.dropLast.length + 1 ≤ w.deep.length := by
      rw [List.length_dropLast]
      have := (List.getElem?_eq_some_iff.mp hn).1
      omega
    have := ok.len
    have e : dipV w many = (n % many, { w with deep := if many ≤ n then w.deep.dropLast ++ [n / many] else w.deep.dropLast }) := by
      unfold dipV
      rw [if_neg h2, hn]
    rw [e] at q
    refine seq_i (fun M => M = ⟨[some .wel, some (.im (.int many)), some (.im (.int n)), none], some { w with deep := if many ≤ n then w.deep.dropLast ++ [n / many] else w.deep.dropLast }⟩) ?_ ?_
    · simp -dsimp only [↓uSeq, ↓uNext, ↓uKill, ↓uFrz, ↓uDrop, ↓uRet, ↓uIf, ↓uAsg, ↓uAsgO, ↓uPar2, ↓uPar3, ↓uAug, ↓uPut, ↓uDPut, ↓uFor_eq, ↓uWhile_eq, ↓uSeqM_eq, ↓uBrk, ↓uCnt, ↓uWelD, ↓gSet, ↓gN, ↓gC, ↓gT, ↓zE, ↓zF, ↓oE, ↓oV, ↓wV, ↓wC, ↓wOp, ↓wUn, ↓app2, ↓app1, ↓wTst, ↓tAndD, ↓tOrD, ↓tNotD, ↓wAndV, ↓wOrV, ↓wNotV, ↓wIf, ↓wChain, ↓osN, ↓osC, getAll, ↓appN, ↓wCB, ↓appM, ↓wBM, ↓wBM0, ↓wN, ↓wCs, ↓wTup, ↓wLst, ↓wDic0, ↓wDicT, ↓aN, ↓aC, ↓aW, ↓wCall_eq, ↓wCallK_eq, perm, List.filterMap_cons, List.filterMap_nil, ↓wApp, ↓wExt, ↓wPop, ↓wPopAt, ↓wListA, ↓wRpl, ↓iX, ↓iL, ↓iT, ↓iS, ↓iR1, ↓iR2, ↓iR3, ↓iScr, ↓iZD, ↓iE, ↓iE2, ↓iZ2, ↓iZ3, ↓seqD, ↓zipD3, ↓wComp_eq, ↓ttY, ↓wSl, ↓wPart, ↓plN, ↓wRev, ↓wListO, ↓wRep, ↓wLenSet, ↓wLenScr, ↓wWelI, ↓wWelPop, ↓wWelApp, ↓tWelNE, ↓wDisp, ↓wDispT, ↓psC, ↓psN, ↓wDIn, ↓wDNotIn, ↓wDG1, ↓wDG2, ↓wIsi, ↓askD, ↓uTry, ↓uRng, ↓iRV, ↓uRaise, ↓uRaise0, ↓uNever, ↓wCallX_eq, ↓wCallKX_eq, ↓wXf, ↓wIsX, ↓fAdd, ↓fSub, ↓fII, ↓fII0, ↓fDiv, ↓fMod, ↓fPow, ↓fLt, ↓fGt, ↓fLe, ↓fGe, ↓fGtD, ↓fLtD, ↓fLeD, ↓fGeD, ↓fNeg, ↓fMul, ↓fEq, ↓fNe, ↓eqQ, ↓fIsN, ↓fNotN, isNone_1, isNone_2, isNone_3, isNone_4, isNone_5, isNone_6, isNone_7, ↓fInC, ↓fNotInC, ↓fSub_, ↓fIx, ↓fSl, ↓fLen, ↓fTuple, ↓fMin1, ↓fMax1, ↓fSum, ↓fAll, ↓fAny, ↓fSorted, ↓fSortS, ↓fAbs, ↓fInt, ↓fRepr, ↓fCnt, ↓fIdx, ↓fJoin, ↓mSS, ↓mSB, ↓mTI, ↓mTB, ↓mTI3, ↓fInL, ↓fNinL, ↓fInT, ↓fNinT, ↓fInA, ↓fNinA, ↓fInB, ↓fNinB, isStr,
 atI_0, atI_1, atI_2, atI_3, endsG, fld_TooMany, fld_Unfit, mem0, toEnt, Mem.set, Mem.view, Mem.kill, Mem.frz, Mem.ro, Ent.ro', Opd.get,
 List.set_cons_zero, List.set_cons_succ, List.getElem?_cons_zero, List.getElem?_cons_succ, List.map_cons, List.map_nil, List.length_cons, List.length_nil, List.cons_append, List.nil_append, List.replicate_succ, List.replicate_zero, Option.map_some, Option.map_none, List.cons.injEq, and_true, true_and, Arg.x.injEq, exists_eq_left, exists_eq_right, Option.some.injEq, Ent.ow.injEq, Ent.im.injEq, PyData.int.injEq, PyData.list.injEq, PyData.dict.injEq, PyData.tuple.injEq, PyData.str.injEq, exists_eq', exists_eq, decide_eq_true_eq, Bool.not_eq_true', ite_true, ite_false, decide_true, decide_false, decide_eq_false_iff_not, not_true_eq_false, not_false_eq_true, reduceCtorEq, eq_self]
      by_cases hc : many ≤ n
      · rw [if_pos hc, if_pos hc]
        exact ⟨divW (by omega) hm, small1000 (by omega), rfl⟩
      · rw [if_neg hc, if_neg hc]
    · rintro M' rfl
      simp -dsimp only [↓uSeq, ↓uNext, ↓uKill, ↓uFrz, ↓uDrop, ↓uRet, ↓uIf, ↓uAsg, ↓uAsgO, ↓uPar2, ↓uPar3, ↓uAug, ↓uPut, ↓uDPut, ↓uFor_eq, ↓uWhile_eq, ↓uSeqM_eq, ↓uBrk, ↓uCnt, ↓uWelD, ↓gSet, ↓gN, ↓gC, ↓gT, ↓zE, ↓zF, ↓oE, ↓oV, ↓wV, ↓wC, ↓wOp, ↓wUn, ↓app2, ↓app1, ↓wTst, ↓tAndD, ↓tOrD, ↓tNotD, ↓wAndV, ↓wOrV, ↓wNotV, ↓wIf, ↓wChain, ↓osN, ↓osC, getAll, ↓appN, ↓wCB, ↓appM, ↓wBM, ↓wBM0, ↓wN, ↓wCs, ↓wTup, ↓wLst, ↓wDic0, ↓wDicT, ↓aN, ↓aC, ↓aW, ↓wCall_eq, ↓wCallK_eq, perm, List.filterMap_cons, List.filterMap_nil, ↓wApp, ↓wExt, ↓wPop, ↓wPopAt, ↓wListA, ↓wRpl, ↓iX, ↓iL, ↓iT, ↓iS, ↓iR1, ↓iR2, ↓iR3, ↓iScr, ↓iZD, ↓iE, ↓iE2, ↓iZ2, ↓iZ3, ↓seqD, ↓zipD3, ↓wComp_eq, ↓ttY, ↓wSl, ↓wPart, ↓plN, ↓wRev, ↓wListO, ↓wRep, ↓wLenSet, ↓wLenScr, ↓wWelI, ↓wWelPop, ↓wWelApp, ↓tWelNE, ↓wDisp, ↓wDispT, ↓psC, ↓psN, ↓wDIn, ↓wDNotIn, ↓wDG1, ↓wDG2, ↓wIsi, ↓askD, ↓uTry, ↓uRng, ↓iRV, ↓uRaise, ↓uRaise0, ↓uNever, ↓wCallX_eq, ↓wCallKX_eq, ↓wXf, ↓wIsX, ↓fAdd, ↓fSub, ↓fII, ↓fII0, ↓fDiv, ↓fMod, ↓fPow, ↓fLt, ↓fGt, ↓fLe, ↓fGe, ↓fGtD, ↓fLtD, ↓fLeD, ↓fGeD, ↓fNeg, ↓fMul, ↓fEq, ↓fNe, ↓eqQ, ↓fIsN, ↓fNotN, isNone_1, isNone_2, isNone_3, isNone_4, isNone_5, isNone_6, isNone_7, ↓fInC, ↓fNotInC, ↓fSub_, ↓fIx, ↓fSl, ↓fLen, ↓fTuple, ↓fMin1, ↓fMax1, ↓fSum, ↓fAll, ↓fAny, ↓fSorted, ↓fSortS, ↓fAbs, ↓fInt, ↓fRepr, ↓fCnt, ↓fIdx, ↓fJoin, ↓mSS, ↓mSB, ↓mTI, ↓mTB, ↓mTI3, ↓fInL, ↓fNinL, ↓fInT, ↓fNinT, ↓fInA, ↓fNinA, ↓fInB, ↓fNinB, isStr,
 atI_0, atI_1, atI_2, atI_3, endsG, fld_TooMany, fld_Unfit, mem0, toEnt, Mem.set, Mem.view, Mem.kill, Mem.frz, Mem.ro, Ent.ro', Opd.get,
 List.set_cons_zero, List.set_cons_succ, List.getElem?_cons_zero, List.getElem?_cons_succ, List.map_cons, List.map_nil, List.length_cons, List.length_nil, List.cons_append, List.nil_append, List.replicate_succ, List.replicate_zero, Option.map_some, Option.map_none, List.cons.injEq, and_true, true_and, Arg.x.injEq, exists_eq_left, exists_eq_right, Option.some.injEq, Ent.ow.injEq, Ent.im.injEq, PyData.int.injEq, PyData.list.injEq, PyData.dict.injEq, PyData.tuple.injEq, PyData.str.injEq, exists_eq', exists_eq, decide_eq_true_eq, Bool.not_eq_true', ite_true, ite_false, decide_true, decide_false, decide_eq_false_iff_not, not_true_eq_false, not_false_eq_true, reduceCtorEq, eq_self]
      exact ⟨by omega, q⟩
theorem dipV_ok {w : Wel} {many : Int} (ok : WelOk w) : WelOk (dipV w many).2 ∧ 0 ≤ (dipV w many).1 ∧ ((dipV w many).1 < many ∨ (dipV w many).1 = 0) := by
  unfold dipV
  by_cases h2 : many < 2
  · rw [if_pos h2]
    exact ⟨ok, Int.le_refl _, .inr rfl⟩
  rw [if_neg h2]
  cases hn : w.deep[w.deep.length - 1]? with
  | none =>
    exact ⟨⟨ok.pos, ok.len⟩, Int.emod_nonneg _ (by omega), .inl (Int.emod_lt_of_pos _ (by omega))⟩
  | some n =>
    have nn : 0 ≤ n := ok.pos n (List.mem_of_getElem? hn)
    have dl : ∀ c ∈ w.deep.dropLast, 0 ≤ c := fun c hc => ok.pos c (List.dropLast_subset _ hc)
    have dn : w.deep.dropLast.length + 1 ≤ w.deep.length := by
      rw [List.length_dropLast]
      have := (List.getElem?_eq_some_iff.mp hn).1
      omega
    have := ok.len
    refine ⟨⟨?_, ?_⟩, Int.emod_nonneg _ (by omega), .inl (Int.emod_lt_of_pos _ (by omega))⟩
    · show ∀ c ∈ (if many ≤ n then w.deep.dropLast ++ [n / many] else w.deep.dropLast), 0 ≤ c
      by_cases hc : many ≤ n
      · rw [if_pos hc]
        intro c hc
        rcases List.mem_append.mp hc with hc | hc
        · exact dl c hc
        · rw [List.mem_singleton.mp hc]
          exact Int.ediv_nonneg nn (by omega)
      · rw [if_neg hc]
        exact dl
    · show (if many ≤ n then w.deep.dropLast ++ [n / many] else w.deep.dropLast).length ≤ 63
      by_cases hc : many ≤ n
      · rw [if_pos hc]
        simp only [List.length_append, List.length_cons, List.length_nil]
        omega
      · rw [if_neg hc]
        omega
theorem dip_x {w : Wel} {many : Int} {Q : PyData → Option Wel → Prop} {l : Lock Q} (ok : WelOk w) (hm : many < 2 ^ 62) (h : Q (.int (dipV w many).1) (some (dipV w many).2)) : callG g__law_dip [.wel, .x (.int many)] (some w) Q l := ⟨w, many, rfl, rfl, ok, hm, h⟩
theorem S_cps (l : List Nat) : (S l).cps.toList = l := rfl
theorem S_of (s : Str) : s = S s.cps.toList := (SX.S_tl s).symm
theorem S_inj {a b : List Nat} (h : S a = S b) : a = b := by
  have := congrArg (fun s : Str => s.cps.toList) h
  simpa [S_cps] using this
abbrev sD (l : List Nat) : PyData := .str (S l)
theorem k_abcd : ("abcd" : Str) = S [97, 98, 99, 100] := by decide +kernel
theorem k_a : ("a" : Str) = S [97] := by decide +kernel
theorem k_ab : ("ab" : Str) = S [97, 98] := by decide +kernel
theorem k_ : ("" : Str) = S [] := by decide +kernel
theorem zl (n : Nat) (h : n ≤ 1000) : n ≤ sizeLine := Nat.le_of_lt (small1000 h)
theorem atI_nn {α : Type} {l : List α} {i : Int} (h0 : 0 ≤ i) (h : i < l.length) : ∃ x, atI l i = some x ∧ x ∈ l := by
  have hl : i.toNat < l.length := by omega
  refine ⟨l[i.toNat], ?_, List.getElem_mem hl⟩
  unfold L2.atI ixN
  rw [if_pos h0, if_pos h]
  simp [List.getElem?_eq_getElem hl]
theorem dip_i {w : Wel} {many : Int} {Q : PyData → Option Wel → Prop} {l : Lock Q} (ok : WelOk w) (hm : many < 2 ^ 62) (h : ∀ r w', 0 ≤ r → (r < many ∨ r = 0) → WelOk w' → Q (.int r) (some w')) : callG g__law_dip [.wel, .x (.int many)] (some w) Q l :=
  have z := dipV_ok (many := many) ok
  dip_x ok hm (h _ _ z.2.1 z.2.2 z.1)
/-! the well does not stand still -/
def PP : Nat := 4294967291 * 4294967279
theorem bl_all (m d b : Int) (h0 : 0 ≤ b) (h1 : b < 4294967279) : ∃ n : Nat, 1 ≤ n ∧ n ≤ PP ∧ bl2 m (d + (n : Int)) = b := by
  obtain ⟨t, ht⟩ : ∃ t : Int, t = b - 9 - 374761393 * (-229286561 * m) := ⟨_, rfl⟩
  obtain ⟨A, hA⟩ : ∃ A : Int, A = -229286561 * m + 4294967291 * (1572143149 * t) := ⟨_, rfl⟩
  have e1 := Int.emod_add_mul_ediv (A - d - 1) 18446743979220271189
  have e2 := Int.emod_nonneg (A - d - 1) (b := 18446743979220271189) (by decide)
  have e3 := Int.emod_lt_of_pos (A - d - 1) (b := 18446743979220271189) (by decide)
  generalize (A - d - 1) / 18446743979220271189 = k at e1
  generalize (A - d - 1) % 18446743979220271189 = r at e1 e2 e3
  have ep : PP = 18446743979220271189 := by decide +kernel
  refine ⟨r.toNat + 1, by omega, by rw [ep]; omega, ?_⟩
  have en : d + ((r.toNat + 1 : Nat) : Int) = A - 18446743979220271189 * k := by omega
  rw [en]
  have z1 : bl1 m (A - 18446743979220271189 * k) = 0 := by
    unfold bl1
    omega
  unfold bl2
  rw [z1]
  omega
theorem ne_next {q many x : Int} (h : 2 ≤ many) (h1 : q % many = x) (h2 : (q + 1) % many = x) : False := by
  have e := Int.sub_emod (q + 1) q many
  rw [h1, h2] at e
  have e1 : q + 1 - q = 1 := by omega
  rw [e1, Int.sub_self, Int.zero_emod, Int.emod_eq_of_lt (by omega) (by omega)] at e
  exact absurd e (by decide)
theorem bl_hit (m d many x : Int) (h : 2 ≤ many) : ∃ n : Nat, 1 ≤ n ∧ n ≤ PP ∧ bl3 m (d + (n : Int)) / 128 % many ≠ x := by
  apply Classical.byContradiction
  intro hno
  have all : ∀ b : Int, 0 ≤ b → b < 4294967279 → (b * b + m) % 4294967231 / 128 % many = x := fun b h0 h1 => by
    obtain ⟨n, n1, n2, e⟩ := bl_all m d b h0 h1
    apply Classical.byContradiction
    intro hx
    refine hno ⟨n, n1, n2, ?_⟩
    unfold bl3
    rw [e]
    exact hx
  have a0 := all 0 (by decide) (by decide)
  have a1 := all 11 (by decide) (by decide)
  have a2 := all 12 (by decide) (by decide)
  have a3 := all 16 (by decide) (by decide)
  have a4 := all 17 (by decide) (by decide)
  have key : (0 * 0 + m) % 4294967231 / 128 + 1 = (11 * 11 + m) % 4294967231 / 128 ∨ (0 * 0 + m) % 4294967231 / 128 + 1 = (12 * 12 + m) % 4294967231 / 128 ∨ (12 * 12 + m) % 4294967231 / 128 + 1 = (16 * 16 + m) % 4294967231 / 128 ∨ (12 * 12 + m) % 4294967231 / 128 + 1 = (17 * 17 + m) % 4294967231 / 128 ∨ (16 * 16 + m) % 4294967231 / 128 + 1 = (17 * 17 + m) % 4294967231 / 128 := by omega
  rcases key with k | k | k | k | k
  · exact ne_next h a0 (by rw [k]; exact a1)
  · exact ne_next h a0 (by rw [k]; exact a2)
  · exact ne_next h a2 (by rw [k]; exact a3)
  · exact ne_next h a2 (by rw [k]; exact a4)
  · exact ne_next h a3 (by rw [k]; exact a4)
def dm (w : Wel) : Nat := (w.deep.map fun c => c.toNat + 1).sum
theorem dip_step {w : Wel} {many : Int} (ok : WelOk w) (h : 2 ≤ many) : (dm (dipV w many).2 < dm w ∧ (dipV w many).2.mix = w.mix) ∨ (w.deep = [] ∧ dipV w many = (bl3 w.mix (w.drawn + 1) / 128 % many, { w with drawn := w.drawn + 1 })) := by
  unfold dipV
  rw [if_neg (by omega)]
  cases hn : w.deep[w.deep.length - 1]? with
  | none =>
    refine .inr ⟨?_, rfl⟩
    cases e : w.deep with
    | nil => rfl
    | cons a l => rw [e] at hn; simp at hn
  | some n =>
    refine .inl ⟨?_, rfl⟩
    have nn : 0 ≤ n := ok.pos n (List.mem_of_getElem? hn)
    have e : w.deep = w.deep.dropLast ++ [n] := by
      have h1 := (List.getElem?_eq_some_iff.mp hn).1
      have h2 := (List.getElem?_eq_some_iff.mp hn).2
      have h3 : w.deep ≠ [] := by intro z; rw [z] at h1; simp at h1
      have h4 := List.dropLast_concat_getLast h3
      rw [List.getLast_eq_getElem] at h4
      rw [h2] at h4
      exact h4.symm
    have e2 : dm w = (w.deep.dropLast.map fun c => c.toNat + 1).sum + (n.toNat + 1) := by
      unfold dm
      conv => lhs; rw [e]
      rw [List.map_append, List.sum_append]
      simp
    rw [e2]
    show ((if many ≤ n then w.deep.dropLast ++ [n / many] else w.deep.dropLast).map fun c => c.toNat + 1).sum < _
    by_cases hc : many ≤ n
    · rw [if_pos hc, List.map_append, List.sum_append]
      simp
      have h5 : n / many < n := Int.ediv_lt_self_of_pos_of_ne_one (by omega) (by omega)
      have h6 : 0 ≤ n / many := Int.ediv_nonneg nn (by omega)
      omega
    · rw [if_neg hc]
      omega
/-! _law_take -/
def itemsOf : PyData → Option (List PyData)
  | .list l => some l
  | .tuple l => some l
  | _ => none
def g__law_take : GSpec := fun args wl Q => ∃ w d l, args = [.wel, .x d] ∧ wl = some w ∧ WelOk w ∧ itemsOf d = some l ∧ 0 < l.length ∧ l.length ≤ 1000 ∧ ∀ x w', x ∈ l → WelOk w' → Q x (some w')
def u__law_take : WS :=
  (uRet (wOp fSub_ (oV 1) (oE (wCall g__law_dip (aW 0 (aC (wCB fLen (osC (oV 1) osN)) aN))))))
theorem pf__law_take (args : List Arg) (wl : Option Wel) (Q : PyData → Option Wel → Prop) (h : g__law_take args wl Q) : u__law_take noX (endsG Q) (mem0 2 args wl) := by
  obtain ⟨w, d, l, rfl, rfl, ok, hi, h0, hl, q⟩ := h
  cases d with
  | list l' =>
    cases hi
    simp -dsimp only [u__law_take, ↓uSeq, ↓uNext, ↓uKill, ↓uFrz, ↓uDrop, ↓uRet, ↓uIf, ↓uAsg, ↓uAsgO, ↓uPar2, ↓uPar3, ↓uAug, ↓uPut, ↓uDPut, ↓uFor_eq, ↓uWhile_eq, ↓uSeqM_eq, ↓uBrk, ↓uCnt, ↓uWelD, ↓gSet, ↓gN, ↓gC, ↓gT, ↓zE, ↓zF, ↓oE, ↓oV, ↓wV, ↓wC, ↓wOp, ↓wUn, ↓app2, ↓app1, ↓wTst, ↓tAndD, ↓tOrD, ↓tNotD, ↓wAndV, ↓wOrV, ↓wNotV, ↓wIf, ↓wChain, ↓osN, ↓osC, getAll, ↓appN, ↓wCB, ↓appM, ↓wBM, ↓wBM0, ↓wN, ↓wCs, ↓wTup, ↓wLst, ↓wDic0, ↓wDicT, ↓aN, ↓aC, ↓aW, ↓wCall_eq, ↓wCallK_eq, perm, List.filterMap_cons, List.filterMap_nil, ↓wApp, ↓wExt, ↓wPop, ↓wPopAt, ↓wListA, ↓wRpl, ↓iX, ↓iL, ↓iT, ↓iS, ↓iR1, ↓iR2, ↓iR3, ↓iScr, ↓iZD, ↓iE, ↓iE2, ↓iZ2, ↓iZ3, ↓seqD, ↓zipD3, ↓wComp_eq, ↓ttY, ↓wSl, ↓wPart, ↓plN, ↓wRev, ↓wListO, ↓wRep, ↓wLenSet, ↓wLenScr, ↓wWelI, ↓wWelPop, ↓wWelApp, ↓tWelNE, ↓wDisp, ↓wDispT, ↓psC, ↓psN, ↓wDIn, ↓wDNotIn, ↓wDG1, ↓wDG2, ↓wIsi, ↓askD, ↓uTry, ↓uRng, ↓iRV, ↓uRaise, ↓uRaise0, ↓uNever, ↓wCallX_eq, ↓wCallKX_eq, ↓wXf, ↓wIsX, ↓fAdd, ↓fSub, ↓fII, ↓fII0, ↓fDiv, ↓fMod, ↓fPow, ↓fLt, ↓fGt, ↓fLe, ↓fGe, ↓fGtD, ↓fLtD, ↓fLeD, ↓fGeD, ↓fNeg, ↓fMul, ↓fEq, ↓fNe, ↓eqQ, ↓fIsN, ↓fNotN, isNone_1, isNone_2, isNone_3, isNone_4, isNone_5, isNone_6, isNone_7, ↓fInC, ↓fNotInC, ↓fSub_, ↓fIx, ↓fSl, ↓fLen, ↓fTuple, ↓fMin1, ↓fMax1, ↓fSum, ↓fAll, ↓fAny, ↓fSorted, ↓fSortS, ↓fAbs, ↓fInt, ↓fRepr, ↓fCnt, ↓fIdx, ↓fJoin, ↓mSS, ↓mSB, ↓mTI, ↓mTB, ↓mTI3, ↓fInL, ↓fNinL, ↓fInT, ↓fNinT, ↓fInA, ↓fNinA, ↓fInB, ↓fNinB, isStr,
 atI_0, atI_1, atI_2, atI_3, endsG, fld_TooMany, fld_Unfit, mem0, toEnt, Mem.set, Mem.view, Mem.kill, Mem.frz, Mem.ro, Ent.ro', Opd.get,
 List.set_cons_zero, List.set_cons_succ, List.getElem?_cons_zero, List.getElem?_cons_succ, List.map_cons, List.map_nil, List.length_cons, List.length_nil, List.cons_append, List.nil_append, List.replicate_succ, List.replicate_zero, Option.map_some, Option.map_none, List.cons.injEq, and_true, true_and, Arg.x.injEq, exists_eq_left, exists_eq_right, Option.some.injEq, Ent.ow.injEq, Ent.im.injEq, PyData.int.injEq, PyData.list.injEq, PyData.dict.injEq, PyData.tuple.injEq, PyData.str.injEq, exists_eq', exists_eq, decide_eq_true_eq, Bool.not_eq_true', ite_true, ite_false, decide_true, decide_false, decide_eq_false_iff_not, not_true_eq_false, not_false_eq_true, reduceCtorEq, eq_self]
    refine dip_i ok (by omega) fun r w' h1 h2 ok' => ?_
    obtain ⟨x, e, hx⟩ := atI_nn (l := l) h1 (by omega)
    simp -dsimp only [↓uSeq, ↓uNext, ↓uKill, ↓uFrz, ↓uDrop, ↓uRet, ↓uIf, ↓uAsg, ↓uAsgO, ↓uPar2, ↓uPar3, ↓uAug, ↓uPut, ↓uDPut, ↓uFor_eq, ↓uWhile_eq, ↓uSeqM_eq, ↓uBrk, ↓uCnt, ↓uWelD, ↓gSet, ↓gN, ↓gC, ↓gT, ↓zE, ↓zF, ↓oE, ↓oV, ↓wV, ↓wC, ↓wOp, ↓wUn, ↓app2, ↓app1, ↓wTst, ↓tAndD, ↓tOrD, ↓tNotD, ↓wAndV, ↓wOrV, ↓wNotV, ↓wIf, ↓wChain, ↓osN, ↓osC, getAll, ↓appN, ↓wCB, ↓appM, ↓wBM, ↓wBM0, ↓wN, ↓wCs, ↓wTup, ↓wLst, ↓wDic0, ↓wDicT, ↓aN, ↓aC, ↓aW, ↓wCall_eq, ↓wCallK_eq, perm, List.filterMap_cons, List.filterMap_nil, ↓wApp, ↓wExt, ↓wPop, ↓wPopAt, ↓wListA, ↓wRpl, ↓iX, ↓iL, ↓iT, ↓iS, ↓iR1, ↓iR2, ↓iR3, ↓iScr, ↓iZD, ↓iE, ↓iE2, ↓iZ2, ↓iZ3, ↓seqD, ↓zipD3, ↓wComp_eq, ↓ttY, ↓wSl, ↓wPart, ↓plN, ↓wRev, ↓wListO, ↓wRep, ↓wLenSet, ↓wLenScr, ↓wWelI, ↓wWelPop, ↓wWelApp, ↓tWelNE, ↓wDisp, ↓wDispT, ↓psC, ↓psN, ↓wDIn, ↓wDNotIn, ↓wDG1, ↓wDG2, ↓wIsi, ↓askD, ↓uTry, ↓uRng, ↓iRV, ↓uRaise, ↓uRaise0, ↓uNever, ↓wCallX_eq, ↓wCallKX_eq, ↓wXf, ↓wIsX, ↓fAdd, ↓fSub, ↓fII, ↓fII0, ↓fDiv, ↓fMod, ↓fPow, ↓fLt, ↓fGt, ↓fLe, ↓fGe, ↓fGtD, ↓fLtD, ↓fLeD, ↓fGeD, ↓fNeg, ↓fMul, ↓fEq, ↓fNe, ↓eqQ, ↓fIsN, ↓fNotN, isNone_1, isNone_2, isNone_3, isNone_4, isNone_5, isNone_6, isNone_7, ↓fInC, ↓fNotInC, ↓fSub_, ↓fIx, ↓fSl, ↓fLen, ↓fTuple, ↓fMin1, ↓fMax1, ↓fSum, ↓fAll, ↓fAny, ↓fSorted, ↓fSortS, ↓fAbs, ↓fInt, ↓fRepr, ↓fCnt, ↓fIdx, ↓fJoin, ↓mSS, ↓mSB, ↓mTI, ↓mTB, ↓mTI3, ↓fInL, ↓fNinL, ↓fInT, ↓fNinT, ↓fInA, ↓fNinA, ↓fInB, ↓fNinB, isStr,
 atI_0, atI_1, atI_2, atI_3, endsG, fld_TooMany, fld_Unfit, mem0, toEnt, Mem.set, Mem.view, Mem.kill, Mem.frz, Mem.ro, Ent.ro', Opd.get,
 List.set_cons_zero, List.set_cons_succ, List.getElem?_cons_zero, List.getElem?_cons_succ, List.map_cons, List.map_nil, List.length_cons, List.length_nil, List.cons_append, List.nil_append, List.replicate_succ, List.replicate_zero, Option.map_some, Option.map_none, List.cons.injEq, and_true, true_and, Arg.x.injEq, exists_eq_left, exists_eq_right, Option.some.injEq, Ent.ow.injEq, Ent.im.injEq, PyData.int.injEq, PyData.list.injEq, PyData.dict.injEq, PyData.tuple.injEq, PyData.str.injEq, exists_eq', exists_eq, decide_eq_true_eq, Bool.not_eq_true', ite_true, ite_false, decide_true, decide_false, decide_eq_false_iff_not, not_true_eq_false, not_false_eq_true, reduceCtorEq, eq_self, e]
    exact q x w' hx ok'
  | tuple l' =>
    cases hi
    simp -dsimp only [u__law_take, ↓uSeq, ↓uNext, ↓uKill, ↓uFrz, ↓uDrop, ↓uRet, ↓uIf, ↓uAsg, ↓uAsgO, ↓uPar2, ↓uPar3, ↓uAug, ↓uPut, ↓uDPut, ↓uFor_eq, ↓uWhile_eq, ↓uSeqM_eq, ↓uBrk, ↓uCnt, ↓uWelD, ↓gSet, ↓gN, ↓gC, ↓gT, ↓zE, ↓zF, ↓oE, ↓oV, ↓wV, ↓wC, ↓wOp, ↓wUn, ↓app2, ↓app1, ↓wTst, ↓tAndD, ↓tOrD, ↓tNotD, ↓wAndV, ↓wOrV, ↓wNotV, ↓wIf, ↓wChain, ↓osN, ↓osC, getAll, ↓appN, ↓wCB, ↓appM, ↓wBM, ↓wBM0, ↓wN, ↓wCs, ↓wTup, ↓wLst, ↓wDic0, ↓wDicT, ↓aN, ↓aC, ↓aW, ↓wCall_eq, ↓wCallK_eq, perm, List.filterMap_cons, List.filterMap_nil, ↓wApp, ↓wExt, ↓wPop, ↓wPopAt, ↓wListA, ↓wRpl, ↓iX, ↓iL, ↓iT, ↓iS, ↓iR1, ↓iR2, ↓iR3, ↓iScr, ↓iZD, ↓iE, ↓iE2, ↓iZ2, ↓iZ3, ↓seqD, ↓zipD3, ↓wComp_eq, ↓ttY, ↓wSl, ↓wPart, ↓plN, ↓wRev, ↓wListO, ↓wRep, ↓wLenSet, ↓wLenScr, ↓wWelI, ↓wWelPop, ↓wWelApp, ↓tWelNE, ↓wDisp, ↓wDispT, ↓psC, ↓psN, ↓wDIn, ↓wDNotIn, ↓wDG1, ↓wDG2, ↓wIsi, ↓askD, ↓uTry, ↓uRng, ↓iRV, ↓uRaise, ↓uRaise0, ↓uNever, ↓wCallX_eq, ↓wCallKX_eq, ↓wXf, ↓wIsX, ↓fAdd, ↓fSub, ↓fII, ↓fII0, ↓fDiv, ↓fMod, ↓fPow, ↓fLt, ↓fGt, ↓fLe, ↓fGe, ↓fGtD, ↓fLtD, ↓fLeD, ↓fGeD, ↓fNeg, ↓fMul, ↓fEq, ↓fNe, ↓eqQ, ↓fIsN, ↓fNotN, isNone_1, isNone_2, isNone_3, isNone_4, isNone_5, isNone_6, isNone_7, ↓fInC, ↓fNotInC, ↓fSub_, ↓fIx, ↓fSl, ↓fLen, ↓fTuple, ↓fMin1, ↓fMax1, ↓fSum, ↓fAll, ↓fAny, ↓fSorted, ↓fSortS, ↓fAbs, ↓fInt, ↓fRepr, ↓fCnt, ↓fIdx, ↓fJoin, ↓mSS, ↓mSB, ↓mTI, ↓mTB, ↓mTI3, ↓fInL, ↓fNinL, ↓fInT, ↓fNinT, ↓fInA, ↓fNinA, ↓fInB, ↓fNinB, isStr,
 atI_0, atI_1, atI_2, atI_3, endsG, fld_TooMany, fld_Unfit, mem0, toEnt, Mem.set, Mem.view, Mem.kill, Mem.frz, Mem.ro, Ent.ro', Opd.get,
 List.set_cons_zero, List.set_cons_succ, List.getElem?_cons_zero, List.getElem?_cons_succ, List.map_cons, List.map_nil, List.length_cons, List.length_nil, List.cons_append, List.nil_append, List.replicate_succ, List.replicate_zero, Option.map_some, Option.map_none, List.cons.injEq, and_true, true_and, Arg.x.injEq, exists_eq_left, exists_eq_right, Option.some.injEq, Ent.ow.injEq, Ent.im.injEq, PyData.int.injEq, PyData.list.injEq, PyData.dict.injEq, PyData.tuple.injEq, PyData.str.injEq, exists_eq', exists_eq, decide_eq_true_eq, Bool.not_eq_true', ite_true, ite_false, decide_true, decide_false, decide_eq_false_iff_not, not_true_eq_false, not_false_eq_true, reduceCtorEq, eq_self]
    refine dip_i ok (by omega) fun r w' h1 h2 ok' => ?_
    obtain ⟨x, e, hx⟩ := atI_nn (l := l) h1 (by omega)
    simp -dsimp only [↓uSeq, ↓uNext, ↓uKill, ↓uFrz, ↓uDrop, ↓uRet, ↓uIf, ↓uAsg, ↓uAsgO, ↓uPar2, ↓uPar3, ↓uAug, ↓uPut, ↓uDPut, ↓uFor_eq, ↓uWhile_eq, ↓uSeqM_eq, ↓uBrk, ↓uCnt, ↓uWelD, ↓gSet, ↓gN, ↓gC, ↓gT, ↓zE, ↓zF, ↓oE, ↓oV, ↓wV, ↓wC, ↓wOp, ↓wUn, ↓app2, ↓app1, ↓wTst, ↓tAndD, ↓tOrD, ↓tNotD, ↓wAndV, ↓wOrV, ↓wNotV, ↓wIf, ↓wChain, ↓osN, ↓osC, getAll, ↓appN, ↓wCB, ↓appM, ↓wBM, ↓wBM0, ↓wN, ↓wCs, ↓wTup, ↓wLst, ↓wDic0, ↓wDicT, ↓aN, ↓aC, ↓aW, ↓wCall_eq, ↓wCallK_eq, perm, List.filterMap_cons, List.filterMap_nil, ↓wApp, ↓wExt, ↓wPop, ↓wPopAt, ↓wListA, ↓wRpl, ↓iX, ↓iL, ↓iT, ↓iS, ↓iR1, ↓iR2, ↓iR3, ↓iScr, ↓iZD, ↓iE, ↓iE2, ↓iZ2, ↓iZ3, ↓seqD, ↓zipD3, ↓wComp_eq, ↓ttY, ↓wSl, ↓wPart, ↓plN, ↓wRev, ↓wListO, ↓wRep, ↓wLenSet, ↓wLenScr, ↓wWelI, ↓wWelPop, ↓wWelApp, ↓tWelNE, ↓wDisp, ↓wDispT, ↓psC, ↓psN, ↓wDIn, ↓wDNotIn, ↓wDG1, ↓wDG2, ↓wIsi, ↓askD, ↓uTry, ↓uRng, ↓iRV, ↓uRaise, ↓uRaise0, ↓uNever, ↓wCallX_eq, ↓wCallKX_eq, ↓wXf, ↓wIsX, ↓fAdd, ↓fSub, ↓fII, ↓fII0, ↓fDiv, ↓fMod, ↓fPow, ↓fLt, ↓fGt, ↓fLe, ↓fGe, ↓fGtD, ↓fLtD, ↓fLeD, ↓fGeD, ↓fNeg, ↓fMul, ↓fEq, ↓fNe, ↓eqQ, ↓fIsN, ↓fNotN, isNone_1, isNone_2, isNone_3, isNone_4, isNone_5, isNone_6, isNone_7, ↓fInC, ↓fNotInC, ↓fSub_, ↓fIx, ↓fSl, ↓fLen, ↓fTuple, ↓fMin1, ↓fMax1, ↓fSum, ↓fAll, ↓fAny, ↓fSorted, ↓fSortS, ↓fAbs, ↓fInt, ↓fRepr, ↓fCnt, ↓fIdx, ↓fJoin, ↓mSS, ↓mSB, ↓mTI, ↓mTB, ↓mTI3, ↓fInL, ↓fNinL, ↓fInT, ↓fNinT, ↓fInA, ↓fNinA, ↓fInB, ↓fNinB, isStr,
 atI_0, atI_1, atI_2, atI_3, endsG, fld_TooMany, fld_Unfit, mem0, toEnt, Mem.set, Mem.view, Mem.kill, Mem.frz, Mem.ro, Ent.ro', Opd.get,
 List.set_cons_zero, List.set_cons_succ, List.getElem?_cons_zero, List.getElem?_cons_succ, List.map_cons, List.map_nil, List.length_cons, List.length_nil, List.cons_append, List.nil_append, List.replicate_succ, List.replicate_zero, Option.map_some, Option.map_none, List.cons.injEq, and_true, true_and, Arg.x.injEq, exists_eq_left, exists_eq_right, Option.some.injEq, Ent.ow.injEq, Ent.im.injEq, PyData.int.injEq, PyData.list.injEq, PyData.dict.injEq, PyData.tuple.injEq, PyData.str.injEq, exists_eq', exists_eq, decide_eq_true_eq, Bool.not_eq_true', ite_true, ite_false, decide_true, decide_false, decide_eq_false_iff_not, not_true_eq_false, not_false_eq_true, reduceCtorEq, eq_self, e]
    exact q x w' hx ok'
  | _ => cases hi
theorem strsOf_f {α : Type} (f : α → Str) (l : List α) : strsOf (l.map fun c => PyData.str (f c)) = some (l.map f) := by
  have := strsOf_map (l.map f)
  rw [List.map_map] at this
  exact this
theorem intsOf_f {α : Type} (f : α → Int) (l : List α) : intsOf (l.map fun c => PyData.int (f c)) = some (l.map f) := by
  have := intsOf_map (l.map f)
  rw [List.map_map] at this
  exact this
theorem join_one : ∀ l : List Nat, joinL [] (l.map fun c => [c]) = l
  | [] => rfl
  | [x] => rfl
  | x :: y :: r => by
    have := join_one (y :: r)
    simp only [List.map_cons] at this ⊢
    show [x] ++ [] ++ joinL [] ([y] :: List.map (fun c => [c]) r) = _
    rw [this]; rfl
theorem rng_len (a : Int) (n : Nat) : (rng a n).length = n := by simp [rng]
theorem atI_abcd {r : Int} (h0 : 0 ≤ r) (h1 : r < 4) : atI [97, 98, 99, 100] r = some (97 + r.toNat) := by
  obtain ⟨n, rfl⟩ := Int.eq_ofNat_of_zero_le h0
  have : n < 4 := by omega
  match n, this with
  | 0, _ => rfl
  | 1, _ => rfl
  | 2, _ => rfl
  | 3, _ => rfl
theorem cut_lo {α : Type} {l : List α} {i : Int} (h : 0 ≤ i) : cut l (some i) none = l.drop i.toNat := by
  obtain ⟨n, rfl⟩ := Int.eq_ofNat_of_zero_le h
  unfold cut
  rw [HT.sIx_nat, HT.sIx_none, Int.toNat_natCast]
  by_cases hn : n ≤ l.length
  · rw [Nat.min_eq_left hn]
    exact List.take_of_length_le (by rw [List.length_drop]; exact Nat.le_refl _)
  · rw [Nat.min_eq_right (by omega), List.drop_length, List.drop_of_length_le (by omega)]
    simp
theorem cut_hi {α : Type} {l : List α} {i : Int} (h : 0 ≤ i) : cut l none (some i) = l.take i.toNat := by
  obtain ⟨n, rfl⟩ := Int.eq_ofNat_of_zero_le h
  unfold cut
  rw [HT.sIx_nat, HT.sIx_none, Int.toNat_natCast, List.drop_zero, Nat.sub_zero]
  by_cases hn : n ≤ l.length
  · rw [Nat.min_eq_left hn]
  · rw [Nat.min_eq_right (by omega), List.take_length, List.take_of_length_le (by omega)]
theorem cut_lh {α : Type} {l : List α} {i j : Int} (h : 0 ≤ i) (h2 : 0 ≤ j) : cut l (some i) (some j) = (l.drop i.toNat).take (j.toNat - i.toNat) := by
  obtain ⟨n, rfl⟩ := Int.eq_ofNat_of_zero_le h
  obtain ⟨m, rfl⟩ := Int.eq_ofNat_of_zero_le h2
  unfold cut
  rw [HT.sIx_nat, HT.sIx_nat, Int.toNat_natCast, Int.toNat_natCast]
  by_cases hn : n ≤ l.length
  · rw [Nat.min_eq_left hn]
    by_cases hm : m ≤ l.length
    · rw [Nat.min_eq_left hm]
    · rw [Nat.min_eq_right (by omega), List.take_of_length_le (by rw [List.length_drop]; omega), List.take_of_length_le (by rw [List.length_drop]; omega)]
  · rw [Nat.min_eq_right (show l.length ≤ n by omega), List.drop_length, List.drop_of_length_le (by omega)]
    simp
theorem ite_i {c : Prop} [Decidable c] {A B : Prop} (h1 : c → A) (h2 : ¬ c → B) : if c then A else B := by
  by_cases h : c
  · rw [if_pos h]; exact h1 h
  · rw [if_neg h]; exact h2 h
theorem repL_mem {α : Type} {x : α} : ∀ {n : Nat} {l : List α}, x ∈ repL n l → x ∈ l
  | 0, l, h => by simp [repL] at h
  | n + 1, l, h => by
    simp only [repL, List.replicate_succ, List.flatten_cons, List.mem_append] at h
    rcases h with h | h
    · exact h
    · exact repL_mem (n := n) h
theorem repL_len {α : Type} : ∀ (n : Nat) (l : List α), (repL n l).length = n * l.length
  | 0, l => by simp [repL]
  | n + 1, l => by
    simp only [repL, List.replicate_succ, List.flatten_cons, List.length_append]
    have := repL_len n l
    simp only [repL] at this
    rw [this, Nat.add_mul]; omega
def LetK (kinds : Int) (l : List Nat) : Prop := ∀ c ∈ l, 97 ≤ c ∧ (c : Int) < 97 + kinds
theorem comp_letters {kinds : Int} {n : Nat} {w : Wel} {Q : List PyData → Option Wel → Prop} {lk : Lock Q} {e1 e3 e4 e5 e6 e7 e8 e9 e10 : Option Ent} (k0 : 1 ≤ kinds) (k1 : kinds ≤ 4) (ok : WelOk w)
    (h : ∀ ls w', ls.length = n → LetK kinds ls → WelOk w' → Q (ls.map fun c => .str (S [c])) (some w')) :
    compL [10] (gSet 10) ttY (wOp fSub_ (oE (wC (PyData.str "abcd"))) (oE (wCall g__law_dip (aW 0 (aC (wV 2) aN))))) [some .wel, e1, some (.im (.int kinds)), e3, e4, e5, e6, e7, e8, e9, e10] (rng 0 n) (some w) Q lk := by
  refine comp_i (fun i ys wl => ∃ ls w', ys = (ls.map fun c => .str (S [c])) ∧ ls.length = i ∧ LetK kinds ls ∧ wl = some w' ∧ WelOk w') ⟨[], w, rfl, rfl, (fun _ hc => absurd hc (List.not_mem_nil)), rfl, ok⟩ ?_ ?_
  · rintro i d ys wl' hd ⟨ls, w', rfl, rfl, hl, rfl, ok'⟩
    simp -dsimp only [↓uSeq, ↓uNext, ↓uKill, ↓uFrz, ↓uDrop, ↓uRet, ↓uIf, ↓uAsg, ↓uAsgO, ↓uPar2, ↓uPar3, ↓uAug, ↓uPut, ↓uDPut, ↓uFor_eq, ↓uWhile_eq, ↓uSeqM_eq, ↓uBrk, ↓uCnt, ↓uWelD, ↓gSet, ↓gN, ↓gC, ↓gT, ↓zE, ↓zF, ↓oE, ↓oV, ↓wV, ↓wC, ↓wOp, ↓wUn, ↓app2, ↓app1, ↓wTst, ↓tAndD, ↓tOrD, ↓tNotD, ↓wAndV, ↓wOrV, ↓wNotV, ↓wIf, ↓wChain, ↓osN, ↓osC, getAll, ↓appN, ↓wCB, ↓appM, ↓wBM, ↓wBM0, ↓wN, ↓wCs, ↓wTup, ↓wLst, ↓wDic0, ↓wDicT, ↓aN, ↓aC, ↓aW, ↓wCall_eq, ↓wCallK_eq, perm, List.filterMap_cons, List.filterMap_nil, ↓wApp, ↓wExt, ↓wPop, ↓wPopAt, ↓wListA, ↓wRpl, ↓iX, ↓iL, ↓iT, ↓iS, ↓iR1, ↓iR2, ↓iR3, ↓iScr, ↓iZD, ↓iE, ↓iE2, ↓iZ2, ↓iZ3, ↓seqD, ↓zipD3, ↓wComp_eq, ↓ttY, ↓wSl, ↓wPart, ↓plN, ↓wRev, ↓wListO, ↓wRep, ↓wLenSet, ↓wLenScr, ↓wWelI, ↓wWelPop, ↓wWelApp, ↓tWelNE, ↓wDisp, ↓wDispT, ↓psC, ↓psN, ↓wDIn, ↓wDNotIn, ↓wDG1, ↓wDG2, ↓wIsi, ↓askD, ↓uTry, ↓uRng, ↓iRV, ↓uRaise, ↓uRaise0, ↓uNever, ↓wCallX_eq, ↓wCallKX_eq, ↓wXf, ↓wIsX, ↓fAdd, ↓fSub, ↓fII, ↓fII0, ↓fDiv, ↓fMod, ↓fPow, ↓fLt, ↓fGt, ↓fLe, ↓fGe, ↓fGtD, ↓fLtD, ↓fLeD, ↓fGeD, ↓fNeg, ↓fMul, ↓fEq, ↓fNe, ↓eqQ, ↓fIsN, ↓fNotN, isNone_1, isNone_2, isNone_3, isNone_4, isNone_5, isNone_6, isNone_7, ↓fInC, ↓fNotInC, ↓fSub_, ↓fIx, ↓fSl, ↓fLen, ↓fTuple, ↓fMin1, ↓fMax1, ↓fSum, ↓fAll, ↓fAny, ↓fSorted, ↓fSortS, ↓fAbs, ↓fInt, ↓fRepr, ↓fCnt, ↓fIdx, ↓fJoin, ↓mSS, ↓mSB, ↓mTI, ↓mTB, ↓mTI3, ↓fInL, ↓fNinL, ↓fInT, ↓fNinT, ↓fInA, ↓fNinA, ↓fInB, ↓fNinB, isStr,
 atI_0, atI_1, atI_2, atI_3, endsG, fld_TooMany, fld_Unfit, mem0, toEnt, Mem.set, Mem.view, Mem.kill, Mem.frz, Mem.ro, Ent.ro', Opd.get,
 List.set_cons_zero, List.set_cons_succ, List.getElem?_cons_zero, List.getElem?_cons_succ, List.map_cons, List.map_nil, List.length_cons, List.length_nil, List.cons_append, List.nil_append, List.replicate_succ, List.replicate_zero, Option.map_some, Option.map_none, List.cons.injEq, and_true, true_and, Arg.x.injEq, exists_eq_left, exists_eq_right, Option.some.injEq, Ent.ow.injEq, Ent.im.injEq, PyData.int.injEq, PyData.list.injEq, PyData.dict.injEq, PyData.tuple.injEq, PyData.str.injEq, exists_eq', exists_eq, decide_eq_true_eq, Bool.not_eq_true', ite_true, ite_false, decide_true, decide_false, decide_eq_false_iff_not, not_true_eq_false, not_false_eq_true, reduceCtorEq, eq_self]
    refine dip_i ok' (by omega) fun r w2 h1 h2 ok2 => ?_
    simp -dsimp only [↓uSeq, ↓uNext, ↓uKill, ↓uFrz, ↓uDrop, ↓uRet, ↓uIf, ↓uAsg, ↓uAsgO, ↓uPar2, ↓uPar3, ↓uAug, ↓uPut, ↓uDPut, ↓uFor_eq, ↓uWhile_eq, ↓uSeqM_eq, ↓uBrk, ↓uCnt, ↓uWelD, ↓gSet, ↓gN, ↓gC, ↓gT, ↓zE, ↓zF, ↓oE, ↓oV, ↓wV, ↓wC, ↓wOp, ↓wUn, ↓app2, ↓app1, ↓wTst, ↓tAndD, ↓tOrD, ↓tNotD, ↓wAndV, ↓wOrV, ↓wNotV, ↓wIf, ↓wChain, ↓osN, ↓osC, getAll, ↓appN, ↓wCB, ↓appM, ↓wBM, ↓wBM0, ↓wN, ↓wCs, ↓wTup, ↓wLst, ↓wDic0, ↓wDicT, ↓aN, ↓aC, ↓aW, ↓wCall_eq, ↓wCallK_eq, perm, List.filterMap_cons, List.filterMap_nil, ↓wApp, ↓wExt, ↓wPop, ↓wPopAt, ↓wListA, ↓wRpl, ↓iX, ↓iL, ↓iT, ↓iS, ↓iR1, ↓iR2, ↓iR3, ↓iScr, ↓iZD, ↓iE, ↓iE2, ↓iZ2, ↓iZ3, ↓seqD, ↓zipD3, ↓wComp_eq, ↓ttY, ↓wSl, ↓wPart, ↓plN, ↓wRev, ↓wListO, ↓wRep, ↓wLenSet, ↓wLenScr, ↓wWelI, ↓wWelPop, ↓wWelApp, ↓tWelNE, ↓wDisp, ↓wDispT, ↓psC, ↓psN, ↓wDIn, ↓wDNotIn, ↓wDG1, ↓wDG2, ↓wIsi, ↓askD, ↓uTry, ↓uRng, ↓iRV, ↓uRaise, ↓uRaise0, ↓uNever, ↓wCallX_eq, ↓wCallKX_eq, ↓wXf, ↓wIsX, ↓fAdd, ↓fSub, ↓fII, ↓fII0, ↓fDiv, ↓fMod, ↓fPow, ↓fLt, ↓fGt, ↓fLe, ↓fGe, ↓fGtD, ↓fLtD, ↓fLeD, ↓fGeD, ↓fNeg, ↓fMul, ↓fEq, ↓fNe, ↓eqQ, ↓fIsN, ↓fNotN, isNone_1, isNone_2, isNone_3, isNone_4, isNone_5, isNone_6, isNone_7, ↓fInC, ↓fNotInC, ↓fSub_, ↓fIx, ↓fSl, ↓fLen, ↓fTuple, ↓fMin1, ↓fMax1, ↓fSum, ↓fAll, ↓fAny, ↓fSorted, ↓fSortS, ↓fAbs, ↓fInt, ↓fRepr, ↓fCnt, ↓fIdx, ↓fJoin, ↓mSS, ↓mSB, ↓mTI, ↓mTB, ↓mTI3, ↓fInL, ↓fNinL, ↓fInT, ↓fNinT, ↓fInA, ↓fNinA, ↓fInB, ↓fNinB, isStr,
 atI_0, atI_1, atI_2, atI_3, endsG, fld_TooMany, fld_Unfit, mem0, toEnt, Mem.set, Mem.view, Mem.kill, Mem.frz, Mem.ro, Ent.ro', Opd.get,
 List.set_cons_zero, List.set_cons_succ, List.getElem?_cons_zero, List.getElem?_cons_succ, List.map_cons, List.map_nil, List.length_cons, List.length_nil, List.cons_append, List.nil_append, List.replicate_succ, List.replicate_zero, Option.map_some, Option.map_none, List.cons.injEq, and_true, true_and, Arg.x.injEq, exists_eq_left, exists_eq_right, Option.some.injEq, Ent.ow.injEq, Ent.im.injEq, PyData.int.injEq, PyData.list.injEq, PyData.dict.injEq, PyData.tuple.injEq, PyData.str.injEq, exists_eq', exists_eq, decide_eq_true_eq, Bool.not_eq_true', ite_true, ite_false, decide_true, decide_false, decide_eq_false_iff_not, not_true_eq_false, not_false_eq_true, reduceCtorEq, eq_self, k_abcd, S_cps, atI_abcd h1 (by omega : r < 4)]
    refine ⟨by decide, ls ++ [97 + r.toNat], w2, by simp, by simp, fun c hc => ?_, rfl, ok2⟩
    rcases List.mem_append.mp hc with hc | hc
    · exact hl c hc
    · have := List.mem_singleton.mp hc
      omega
  · rintro ys wl' ⟨ls, w', rfl, hn, hl, rfl, ok'⟩
    rw [rng_len] at hn
    exact h ls w' hn hl ok'
theorem sum_ones {α : Type} (l : List α) : (l.map fun _ => 1).sum = l.length := by
  induction l with
  | nil => rfl
  | cons a l ih => simp; omega
/-! _law_word -/
def g__law_word : GSpec := fun args wl Q => ∃ (w : Wel) (most kinds : Int), args = [.wel, .x (.int most), .x (.int kinds)] ∧ wl = some w ∧ WelOk w ∧ 0 ≤ most ∧ most ≤ 64 ∧ 1 ≤ kinds ∧ kinds ≤ 4 ∧
  ∀ (l : List Nat) w', (∀ c ∈ l, 97 ≤ c ∧ (c : Int) < 97 + kinds) → l.length ≤ most.toNat → WelOk w' → Q (sD l) (some w')
def u__law_word : WS :=
  (uSeq (uPar2 3 4 (zE (wCall g__law_dip (aW 0 (aC (wOp fAdd (oV 1) (oE (wC (.int 1)))) aN)))) (zE (wCall g__law_dip (aW 0 (aC (wC (.int 6)) aN)))))
  (uSeq (uIf (wTst (wOp fLt (oV 4) (oE (wC (.int 3)))))
  (uRet (wBM isStr fJoin (oE (wC (.str ""))) (osC (oE (wComp [10] (iR1 (osC (oV 3) osN)) (gSet 10) ttY (wOp fSub_ (oE (wC (.str "abcd"))) (oE (wCall g__law_dip (aW 0 (aC (wV 2) aN))))))) osN)))
  uNext)
  (uSeqM (uIf (wTst (wOp fLt (oV 4) (oE (wC (.int 5)))))
  (uSeq (uAsg (wBM isStr fJoin (oE (wC (.str ""))) (osC (oE (wComp [10] (iR1 (osC (oE (wOp fAdd (oE (wC (.int 1))) (oE (wCall g__law_dip (aW 0 (aC (wC (.int 4)) aN)))))) osN)) (gSet 10) ttY (wOp fSub_ (oE (wC (.str "abcd"))) (oE (wCall g__law_dip (aW 0 (aC (wV 2) aN))))))) osN)) (gSet 5))
  (uAsg (wSl (oE (wOp fMul (oV 5) (oE (wOp fAdd (oV 3) (oE (wC (.int 1))))))) plN (wPart (oV 3))) (gSet 6)))
  (uSeq (uPar2 7 8 (zE (wC (.str "a"))) (zE (wIf (wTst (wOp fGt (oV 2) (oE (wC (.int 1))))) (wC (.str "ab")) (wC (.str "a")))))
  (uSeq (uWhile [] (wTst (wOp fLt (oE (wCB fLen (osC (oV 8) osN))) (oV 3)))
  (uPar2 7 8 (zE (wV 8)) (zE (wOp fAdd (oV 8) (oV 7)))))
  (uAsg (wSl (oV 8) plN (wPart (oV 3))) (gSet 6)))))
  (uSeqM (uIf (tAndD (wTst (wOp fGt (oV 3) (oE (wC (.int 0))))) (wTst (wOp fEq (oE (wCall g__law_dip (aW 0 (aC (wC (.int 3)) aN)))) (oE (wC (.int 0))))))
  (uSeq (uAsg (wCall g__law_dip (aW 0 (aC (wV 3) aN))) (gSet 9))
  (uAsg (wOp fAdd (oE (wOp fAdd (oE (wSl (oV 6) plN (wPart (oV 9)))) (oE (wOp fSub_ (oE (wC (.str "abcd"))) (oE (wCall g__law_dip (aW 0 (aC (wV 2) aN)))))))) (oE (wSl (oV 6) (wPart (oE (wOp fAdd (oV 9) (oE (wC (.int 1)))))) plN))) (gSet 6)))
  uNext)
  (uRet (wV 6))))))
theorem pf__law_word (args : List Arg) (wl : Option Wel) (Q : PyData → Option Wel → Prop) (h : g__law_word args wl Q) : u__law_word noX (endsG Q) (mem0 11 args wl) := by
  obtain ⟨w, most, kinds, rfl, rfl, ok, m0, m1, k0, k1, q⟩ := h
  simp -dsimp only [u__law_word, ↓uSeq, ↓uNext, ↓uKill, ↓uFrz, ↓uDrop, ↓uRet, ↓uIf, ↓uAsg, ↓uAsgO, ↓uPar2, ↓uPar3, ↓uAug, ↓uPut, ↓uDPut, ↓uFor_eq, ↓uWhile_eq, ↓uSeqM_eq, ↓uBrk, ↓uCnt, ↓uWelD, ↓gSet, ↓gN, ↓gC, ↓gT, ↓zE, ↓zF, ↓oE, ↓oV, ↓wV, ↓wC, ↓wOp, ↓wUn, ↓app2, ↓app1, ↓wTst, ↓tAndD, ↓tOrD, ↓tNotD, ↓wAndV, ↓wOrV, ↓wNotV, ↓wIf, ↓wChain, ↓osN, ↓osC, getAll, ↓appN, ↓wCB, ↓appM, ↓wBM, ↓wBM0, ↓wN, ↓wCs, ↓wTup, ↓wLst, ↓wDic0, ↓wDicT, ↓aN, ↓aC, ↓aW, ↓wCall_eq, ↓wCallK_eq, perm, List.filterMap_cons, List.filterMap_nil, ↓wApp, ↓wExt, ↓wPop, ↓wPopAt, ↓wListA, ↓wRpl, ↓iX, ↓iL, ↓iT, ↓iS, ↓iR1, ↓iR2, ↓iR3, ↓iScr, ↓iZD, ↓iE, ↓iE2, ↓iZ2, ↓iZ3, ↓seqD, ↓zipD3, ↓wComp_eq, ↓ttY, ↓wSl, ↓wPart, ↓plN, ↓wRev, ↓wListO, ↓wRep, ↓wLenSet, ↓wLenScr, ↓wWelI, ↓wWelPop, ↓wWelApp, ↓tWelNE, ↓wDisp, ↓wDispT, ↓psC, ↓psN, ↓wDIn, ↓wDNotIn, ↓wDG1, ↓wDG2, ↓wIsi, ↓askD, ↓uTry, ↓uRng, ↓iRV, ↓uRaise, ↓uRaise0, ↓uNever, ↓wCallX_eq, ↓wCallKX_eq, ↓wXf, ↓wIsX, ↓fAdd, ↓fSub, ↓fII, ↓fII0, ↓fDiv, ↓fMod, ↓fPow, ↓fLt, ↓fGt, ↓fLe, ↓fGe, ↓fGtD, ↓fLtD, ↓fLeD, ↓fGeD, ↓fNeg, ↓fMul, ↓fEq, ↓fNe, ↓eqQ, ↓fIsN, ↓fNotN, isNone_1, isNone_2, isNone_3, isNone_4, isNone_5, isNone_6, isNone_7, ↓fInC, ↓fNotInC, ↓fSub_, ↓fIx, ↓fSl, ↓fLen, ↓fTuple, ↓fMin1, ↓fMax1, ↓fSum, ↓fAll, ↓fAny, ↓fSorted, ↓fSortS, ↓fAbs, ↓fInt, ↓fRepr, ↓fCnt, ↓fIdx, ↓fJoin, ↓mSS, ↓mSB, ↓mTI, ↓mTB, ↓mTI3, ↓fInL, ↓fNinL, ↓fInT, ↓fNinT, ↓fInA, ↓fNinA, ↓fInB, ↓fNinB, isStr,
 atI_0, atI_1, atI_2, atI_3, endsG, fld_TooMany, fld_Unfit, mem0, toEnt, Mem.set, Mem.view, Mem.kill, Mem.frz, Mem.ro, Ent.ro', Opd.get,
 List.set_cons_zero, List.set_cons_succ, List.getElem?_cons_zero, List.getElem?_cons_succ, List.map_cons, List.map_nil, List.length_cons, List.length_nil, List.cons_append, List.nil_append, List.replicate_succ, List.replicate_zero, Option.map_some, Option.map_none, List.cons.injEq, and_true, true_and, Arg.x.injEq, exists_eq_left, exists_eq_right, Option.some.injEq, Ent.ow.injEq, Ent.im.injEq, PyData.int.injEq, PyData.list.injEq, PyData.dict.injEq, PyData.tuple.injEq, PyData.str.injEq, exists_eq', exists_eq, decide_eq_true_eq, Bool.not_eq_true', ite_true, ite_false, decide_true, decide_false, decide_eq_false_iff_not, not_true_eq_false, not_false_eq_true, reduceCtorEq, eq_self]
  refine dip_i ok (by omega) fun size w1 s1 s2 ok1 => ?_
  simp -dsimp only [↓uSeq, ↓uNext, ↓uKill, ↓uFrz, ↓uDrop, ↓uRet, ↓uIf, ↓uAsg, ↓uAsgO, ↓uPar2, ↓uPar3, ↓uAug, ↓uPut, ↓uDPut, ↓uFor_eq, ↓uWhile_eq, ↓uSeqM_eq, ↓uBrk, ↓uCnt, ↓uWelD, ↓gSet, ↓gN, ↓gC, ↓gT, ↓zE, ↓zF, ↓oE, ↓oV, ↓wV, ↓wC, ↓wOp, ↓wUn, ↓app2, ↓app1, ↓wTst, ↓tAndD, ↓tOrD, ↓tNotD, ↓wAndV, ↓wOrV, ↓wNotV, ↓wIf, ↓wChain, ↓osN, ↓osC, getAll, ↓appN, ↓wCB, ↓appM, ↓wBM, ↓wBM0, ↓wN, ↓wCs, ↓wTup, ↓wLst, ↓wDic0, ↓wDicT, ↓aN, ↓aC, ↓aW, ↓wCall_eq, ↓wCallK_eq, perm, List.filterMap_cons, List.filterMap_nil, ↓wApp, ↓wExt, ↓wPop, ↓wPopAt, ↓wListA, ↓wRpl, ↓iX, ↓iL, ↓iT, ↓iS, ↓iR1, ↓iR2, ↓iR3, ↓iScr, ↓iZD, ↓iE, ↓iE2, ↓iZ2, ↓iZ3, ↓seqD, ↓zipD3, ↓wComp_eq, ↓ttY, ↓wSl, ↓wPart, ↓plN, ↓wRev, ↓wListO, ↓wRep, ↓wLenSet, ↓wLenScr, ↓wWelI, ↓wWelPop, ↓wWelApp, ↓tWelNE, ↓wDisp, ↓wDispT, ↓psC, ↓psN, ↓wDIn, ↓wDNotIn, ↓wDG1, ↓wDG2, ↓wIsi, ↓askD, ↓uTry, ↓uRng, ↓iRV, ↓uRaise, ↓uRaise0, ↓uNever, ↓wCallX_eq, ↓wCallKX_eq, ↓wXf, ↓wIsX, ↓fAdd, ↓fSub, ↓fII, ↓fII0, ↓fDiv, ↓fMod, ↓fPow, ↓fLt, ↓fGt, ↓fLe, ↓fGe, ↓fGtD, ↓fLtD, ↓fLeD, ↓fGeD, ↓fNeg, ↓fMul, ↓fEq, ↓fNe, ↓eqQ, ↓fIsN, ↓fNotN, isNone_1, isNone_2, isNone_3, isNone_4, isNone_5, isNone_6, isNone_7, ↓fInC, ↓fNotInC, ↓fSub_, ↓fIx, ↓fSl, ↓fLen, ↓fTuple, ↓fMin1, ↓fMax1, ↓fSum, ↓fAll, ↓fAny, ↓fSorted, ↓fSortS, ↓fAbs, ↓fInt, ↓fRepr, ↓fCnt, ↓fIdx, ↓fJoin, ↓mSS, ↓mSB, ↓mTI, ↓mTB, ↓mTI3, ↓fInL, ↓fNinL, ↓fInT, ↓fNinT, ↓fInA, ↓fNinA, ↓fInB, ↓fNinB, isStr,
 atI_0, atI_1, atI_2, atI_3, endsG, fld_TooMany, fld_Unfit, mem0, toEnt, Mem.set, Mem.view, Mem.kill, Mem.frz, Mem.ro, Ent.ro', Opd.get,
 List.set_cons_zero, List.set_cons_succ, List.getElem?_cons_zero, List.getElem?_cons_succ, List.map_cons, List.map_nil, List.length_cons, List.length_nil, List.cons_append, List.nil_append, List.replicate_succ, List.replicate_zero, Option.map_some, Option.map_none, List.cons.injEq, and_true, true_and, Arg.x.injEq, exists_eq_left, exists_eq_right, Option.some.injEq, Ent.ow.injEq, Ent.im.injEq, PyData.int.injEq, PyData.list.injEq, PyData.dict.injEq, PyData.tuple.injEq, PyData.str.injEq, exists_eq', exists_eq, decide_eq_true_eq, Bool.not_eq_true', ite_true, ite_false, decide_true, decide_false, decide_eq_false_iff_not, not_true_eq_false, not_false_eq_true, reduceCtorEq, eq_self]
  refine dip_i ok1 (by omega) fun way w2 _ _ ok2 => ?_
  simp -dsimp only [↓uSeq, ↓uNext, ↓uKill, ↓uFrz, ↓uDrop, ↓uRet, ↓uIf, ↓uAsg, ↓uAsgO, ↓uPar2, ↓uPar3, ↓uAug, ↓uPut, ↓uDPut, ↓uFor_eq, ↓uWhile_eq, ↓uSeqM_eq, ↓uBrk, ↓uCnt, ↓uWelD, ↓gSet, ↓gN, ↓gC, ↓gT, ↓zE, ↓zF, ↓oE, ↓oV, ↓wV, ↓wC, ↓wOp, ↓wUn, ↓app2, ↓app1, ↓wTst, ↓tAndD, ↓tOrD, ↓tNotD, ↓wAndV, ↓wOrV, ↓wNotV, ↓wIf, ↓wChain, ↓osN, ↓osC, getAll, ↓appN, ↓wCB, ↓appM, ↓wBM, ↓wBM0, ↓wN, ↓wCs, ↓wTup, ↓wLst, ↓wDic0, ↓wDicT, ↓aN, ↓aC, ↓aW, ↓wCall_eq, ↓wCallK_eq, perm, List.filterMap_cons, List.filterMap_nil, ↓wApp, ↓wExt, ↓wPop, ↓wPopAt, ↓wListA, ↓wRpl, ↓iX, ↓iL, ↓iT, ↓iS, ↓iR1, ↓iR2, ↓iR3, ↓iScr, ↓iZD, ↓iE, ↓iE2, ↓iZ2, ↓iZ3, ↓seqD, ↓zipD3, ↓wComp_eq, ↓ttY, ↓wSl, ↓wPart, ↓plN, ↓wRev, ↓wListO, ↓wRep, ↓wLenSet, ↓wLenScr, ↓wWelI, ↓wWelPop, ↓wWelApp, ↓tWelNE, ↓wDisp, ↓wDispT, ↓psC, ↓psN, ↓wDIn, ↓wDNotIn, ↓wDG1, ↓wDG2, ↓wIsi, ↓askD, ↓uTry, ↓uRng, ↓iRV, ↓uRaise, ↓uRaise0, ↓uNever, ↓wCallX_eq, ↓wCallKX_eq, ↓wXf, ↓wIsX, ↓fAdd, ↓fSub, ↓fII, ↓fII0, ↓fDiv, ↓fMod, ↓fPow, ↓fLt, ↓fGt, ↓fLe, ↓fGe, ↓fGtD, ↓fLtD, ↓fLeD, ↓fGeD, ↓fNeg, ↓fMul, ↓fEq, ↓fNe, ↓eqQ, ↓fIsN, ↓fNotN, isNone_1, isNone_2, isNone_3, isNone_4, isNone_5, isNone_6, isNone_7, ↓fInC, ↓fNotInC, ↓fSub_, ↓fIx, ↓fSl, ↓fLen, ↓fTuple, ↓fMin1, ↓fMax1, ↓fSum, ↓fAll, ↓fAny, ↓fSorted, ↓fSortS, ↓fAbs, ↓fInt, ↓fRepr, ↓fCnt, ↓fIdx, ↓fJoin, ↓mSS, ↓mSB, ↓mTI, ↓mTB, ↓mTI3, ↓fInL, ↓fNinL, ↓fInT, ↓fNinT, ↓fInA, ↓fNinA, ↓fInB, ↓fNinB, isStr,
 atI_0, atI_1, atI_2, atI_3, endsG, fld_TooMany, fld_Unfit, mem0, toEnt, Mem.set, Mem.view, Mem.kill, Mem.frz, Mem.ro, Ent.ro', Opd.get,
 List.set_cons_zero, List.set_cons_succ, List.getElem?_cons_zero, List.getElem?_cons_succ, List.map_cons, List.map_nil, List.length_cons, List.length_nil, List.cons_append, List.nil_append, List.replicate_succ, List.replicate_zero, Option.map_some, Option.map_none, List.cons.injEq, and_true, true_and, Arg.x.injEq, exists_eq_left, exists_eq_right, Option.some.injEq, Ent.ow.injEq, Ent.im.injEq, PyData.int.injEq, PyData.list.injEq, PyData.dict.injEq, PyData.tuple.injEq, PyData.str.injEq, exists_eq', exists_eq, decide_eq_true_eq, Bool.not_eq_true', ite_true, ite_false, decide_true, decide_false, decide_eq_false_iff_not, not_true_eq_false, not_false_eq_true, reduceCtorEq, eq_self]
  by_cases h3 : way < 3
  · rw [if_pos h3]
    refine ⟨⟨by omega, by omega⟩, by rw [rng_len]; exact zl _ (by omega), comp_letters k0 k1 ok2 fun ls w' hn hl ok' => ?_⟩
    simp -dsimp only [↓uSeq, ↓uNext, ↓uKill, ↓uFrz, ↓uDrop, ↓uRet, ↓uIf, ↓uAsg, ↓uAsgO, ↓uPar2, ↓uPar3, ↓uAug, ↓uPut, ↓uDPut, ↓uFor_eq, ↓uWhile_eq, ↓uSeqM_eq, ↓uBrk, ↓uCnt, ↓uWelD, ↓gSet, ↓gN, ↓gC, ↓gT, ↓zE, ↓zF, ↓oE, ↓oV, ↓wV, ↓wC, ↓wOp, ↓wUn, ↓app2, ↓app1, ↓wTst, ↓tAndD, ↓tOrD, ↓tNotD, ↓wAndV, ↓wOrV, ↓wNotV, ↓wIf, ↓wChain, ↓osN, ↓osC, getAll, ↓appN, ↓wCB, ↓appM, ↓wBM, ↓wBM0, ↓wN, ↓wCs, ↓wTup, ↓wLst, ↓wDic0, ↓wDicT, ↓aN, ↓aC, ↓aW, ↓wCall_eq, ↓wCallK_eq, perm, List.filterMap_cons, List.filterMap_nil, ↓wApp, ↓wExt, ↓wPop, ↓wPopAt, ↓wListA, ↓wRpl, ↓iX, ↓iL, ↓iT, ↓iS, ↓iR1, ↓iR2, ↓iR3, ↓iScr, ↓iZD, ↓iE, ↓iE2, ↓iZ2, ↓iZ3, ↓seqD, ↓zipD3, ↓wComp_eq, ↓ttY, ↓wSl, ↓wPart, ↓plN, ↓wRev, ↓wListO, ↓wRep, ↓wLenSet, ↓wLenScr, ↓wWelI, ↓wWelPop, ↓wWelApp, ↓tWelNE, ↓wDisp, ↓wDispT, ↓psC, ↓psN, ↓wDIn, ↓wDNotIn, ↓wDG1, ↓wDG2, ↓wIsi, ↓askD, ↓uTry, ↓uRng, ↓iRV, ↓uRaise, ↓uRaise0, ↓uNever, ↓wCallX_eq, ↓wCallKX_eq, ↓wXf, ↓wIsX, ↓fAdd, ↓fSub, ↓fII, ↓fII0, ↓fDiv, ↓fMod, ↓fPow, ↓fLt, ↓fGt, ↓fLe, ↓fGe, ↓fGtD, ↓fLtD, ↓fLeD, ↓fGeD, ↓fNeg, ↓fMul, ↓fEq, ↓fNe, ↓eqQ, ↓fIsN, ↓fNotN, isNone_1, isNone_2, isNone_3, isNone_4, isNone_5, isNone_6, isNone_7, ↓fInC, ↓fNotInC, ↓fSub_, ↓fIx, ↓fSl, ↓fLen, ↓fTuple, ↓fMin1, ↓fMax1, ↓fSum, ↓fAll, ↓fAny, ↓fSorted, ↓fSortS, ↓fAbs, ↓fInt, ↓fRepr, ↓fCnt, ↓fIdx, ↓fJoin, ↓mSS, ↓mSB, ↓mTI, ↓mTB, ↓mTI3, ↓fInL, ↓fNinL, ↓fInT, ↓fNinT, ↓fInA, ↓fNinA, ↓fInB, ↓fNinB, isStr,
 atI_0, atI_1, atI_2, atI_3, endsG, fld_TooMany, fld_Unfit, mem0, toEnt, Mem.set, Mem.view, Mem.kill, Mem.frz, Mem.ro, Ent.ro', Opd.get,
 List.set_cons_zero, List.set_cons_succ, List.getElem?_cons_zero, List.getElem?_cons_succ, List.map_cons, List.map_nil, List.length_cons, List.length_nil, List.cons_append, List.nil_append, List.replicate_succ, List.replicate_zero, Option.map_some, Option.map_none, List.cons.injEq, and_true, true_and, Arg.x.injEq, exists_eq_left, exists_eq_right, Option.some.injEq, Ent.ow.injEq, Ent.im.injEq, PyData.int.injEq, PyData.list.injEq, PyData.dict.injEq, PyData.tuple.injEq, PyData.str.injEq, exists_eq', exists_eq, decide_eq_true_eq, Bool.not_eq_true', ite_true, ite_false, decide_true, decide_false, decide_eq_false_iff_not, not_true_eq_false, not_false_eq_true, reduceCtorEq, eq_self, strsOf_f, k_, S_cps, List.map_map, Function.comp_def, join_one, List.length_cons, List.length_nil, sum_ones]
    refine ⟨by simp; omega, q ls w' hl (by omega) ok'⟩
  rw [if_neg h3]
  refine seq_i (fun M => ∃ (l : List Nat) (w' : Wel) (e5 e7 e8 : Option Ent), LetK kinds l ∧ l.length ≤ size.toNat ∧ WelOk w' ∧ M = ⟨[some .wel, some (.im (.int most)), some (.im (.int kinds)), some (.im (.int size)), some (.im (.int way)), e5, some (.im (sD l)), e7, e8, none, none], some w'⟩) ?_ ?_
  · simp -dsimp only [↓uSeq, ↓uNext, ↓uKill, ↓uFrz, ↓uDrop, ↓uRet, ↓uIf, ↓uAsg, ↓uAsgO, ↓uPar2, ↓uPar3, ↓uAug, ↓uPut, ↓uDPut, ↓uFor_eq, ↓uWhile_eq, ↓uSeqM_eq, ↓uBrk, ↓uCnt, ↓uWelD, ↓gSet, ↓gN, ↓gC, ↓gT, ↓zE, ↓zF, ↓oE, ↓oV, ↓wV, ↓wC, ↓wOp, ↓wUn, ↓app2, ↓app1, ↓wTst, ↓tAndD, ↓tOrD, ↓tNotD, ↓wAndV, ↓wOrV, ↓wNotV, ↓wIf, ↓wChain, ↓osN, ↓osC, getAll, ↓appN, ↓wCB, ↓appM, ↓wBM, ↓wBM0, ↓wN, ↓wCs, ↓wTup, ↓wLst, ↓wDic0, ↓wDicT, ↓aN, ↓aC, ↓aW, ↓wCall_eq, ↓wCallK_eq, perm, List.filterMap_cons, List.filterMap_nil, ↓wApp, ↓wExt, ↓wPop, ↓wPopAt, ↓wListA, ↓wRpl, ↓iX, ↓iL, ↓iT, ↓iS, ↓iR1, ↓iR2, ↓iR3, ↓iScr, ↓iZD, ↓iE, ↓iE2, ↓iZ2, ↓iZ3, ↓seqD, ↓zipD3, ↓wComp_eq, ↓ttY, ↓wSl, ↓wPart, ↓plN, ↓wRev, ↓wListO, ↓wRep, ↓wLenSet, ↓wLenScr, ↓wWelI, ↓wWelPop, ↓wWelApp, ↓tWelNE, ↓wDisp, ↓wDispT, ↓psC, ↓psN, ↓wDIn, ↓wDNotIn, ↓wDG1, ↓wDG2, ↓wIsi, ↓askD, ↓uTry, ↓uRng, ↓iRV, ↓uRaise, ↓uRaise0, ↓uNever, ↓wCallX_eq, ↓wCallKX_eq, ↓wXf, ↓wIsX, ↓fAdd, ↓fSub, ↓fII, ↓fII0, ↓fDiv, ↓fMod, ↓fPow, ↓fLt, ↓fGt, ↓fLe, ↓fGe, ↓fGtD, ↓fLtD, ↓fLeD, ↓fGeD, ↓fNeg, ↓fMul, ↓fEq, ↓fNe, ↓eqQ, ↓fIsN, ↓fNotN, isNone_1, isNone_2, isNone_3, isNone_4, isNone_5, isNone_6, isNone_7, ↓fInC, ↓fNotInC, ↓fSub_, ↓fIx, ↓fSl, ↓fLen, ↓fTuple, ↓fMin1, ↓fMax1, ↓fSum, ↓fAll, ↓fAny, ↓fSorted, ↓fSortS, ↓fAbs, ↓fInt, ↓fRepr, ↓fCnt, ↓fIdx, ↓fJoin, ↓mSS, ↓mSB, ↓mTI, ↓mTB, ↓mTI3, ↓fInL, ↓fNinL, ↓fInT, ↓fNinT, ↓fInA, ↓fNinA, ↓fInB, ↓fNinB, isStr,
 atI_0, atI_1, atI_2, atI_3, endsG, fld_TooMany, fld_Unfit, mem0, toEnt, Mem.set, Mem.view, Mem.kill, Mem.frz, Mem.ro, Ent.ro', Opd.get,
 List.set_cons_zero, List.set_cons_succ, List.getElem?_cons_zero, List.getElem?_cons_succ, List.map_cons, List.map_nil, List.length_cons, List.length_nil, List.cons_append, List.nil_append, List.replicate_succ, List.replicate_zero, Option.map_some, Option.map_none, List.cons.injEq, and_true, true_and, Arg.x.injEq, exists_eq_left, exists_eq_right, Option.some.injEq, Ent.ow.injEq, Ent.im.injEq, PyData.int.injEq, PyData.list.injEq, PyData.dict.injEq, PyData.tuple.injEq, PyData.str.injEq, exists_eq', exists_eq, decide_eq_true_eq, Bool.not_eq_true', ite_true, ite_false, decide_true, decide_false, decide_eq_false_iff_not, not_true_eq_false, not_false_eq_true, reduceCtorEq, eq_self]
    refine ite_i (fun h5 => ?_) (fun h5 => ?_)
    · refine dip_i ok2 (by decide) fun n w3 n1 n2 ok3 => ?_
      simp -dsimp only [↓uSeq, ↓uNext, ↓uKill, ↓uFrz, ↓uDrop, ↓uRet, ↓uIf, ↓uAsg, ↓uAsgO, ↓uPar2, ↓uPar3, ↓uAug, ↓uPut, ↓uDPut, ↓uFor_eq, ↓uWhile_eq, ↓uSeqM_eq, ↓uBrk, ↓uCnt, ↓uWelD, ↓gSet, ↓gN, ↓gC, ↓gT, ↓zE, ↓zF, ↓oE, ↓oV, ↓wV, ↓wC, ↓wOp, ↓wUn, ↓app2, ↓app1, ↓wTst, ↓tAndD, ↓tOrD, ↓tNotD, ↓wAndV, ↓wOrV, ↓wNotV, ↓wIf, ↓wChain, ↓osN, ↓osC, getAll, ↓appN, ↓wCB, ↓appM, ↓wBM, ↓wBM0, ↓wN, ↓wCs, ↓wTup, ↓wLst, ↓wDic0, ↓wDicT, ↓aN, ↓aC, ↓aW, ↓wCall_eq, ↓wCallK_eq, perm, List.filterMap_cons, List.filterMap_nil, ↓wApp, ↓wExt, ↓wPop, ↓wPopAt, ↓wListA, ↓wRpl, ↓iX, ↓iL, ↓iT, ↓iS, ↓iR1, ↓iR2, ↓iR3, ↓iScr, ↓iZD, ↓iE, ↓iE2, ↓iZ2, ↓iZ3, ↓seqD, ↓zipD3, ↓wComp_eq, ↓ttY, ↓wSl, ↓wPart, ↓plN, ↓wRev, ↓wListO, ↓wRep, ↓wLenSet, ↓wLenScr, ↓wWelI, ↓wWelPop, ↓wWelApp, ↓tWelNE, ↓wDisp, ↓wDispT, ↓psC, ↓psN, ↓wDIn, ↓wDNotIn, ↓wDG1, ↓wDG2, ↓wIsi, ↓askD, ↓uTry, ↓uRng, ↓iRV, ↓uRaise, ↓uRaise0, ↓uNever, ↓wCallX_eq, ↓wCallKX_eq, ↓wXf, ↓wIsX, ↓fAdd, ↓fSub, ↓fII, ↓fII0, ↓fDiv, ↓fMod, ↓fPow, ↓fLt, ↓fGt, ↓fLe, ↓fGe, ↓fGtD, ↓fLtD, ↓fLeD, ↓fGeD, ↓fNeg, ↓fMul, ↓fEq, ↓fNe, ↓eqQ, ↓fIsN, ↓fNotN, isNone_1, isNone_2, isNone_3, isNone_4, isNone_5, isNone_6, isNone_7, ↓fInC, ↓fNotInC, ↓fSub_, ↓fIx, ↓fSl, ↓fLen, ↓fTuple, ↓fMin1, ↓fMax1, ↓fSum, ↓fAll, ↓fAny, ↓fSorted, ↓fSortS, ↓fAbs, ↓fInt, ↓fRepr, ↓fCnt, ↓fIdx, ↓fJoin, ↓mSS, ↓mSB, ↓mTI, ↓mTB, ↓mTI3, ↓fInL, ↓fNinL, ↓fInT, ↓fNinT, ↓fInA, ↓fNinA, ↓fInB, ↓fNinB, isStr,
 atI_0, atI_1, atI_2, atI_3, endsG, fld_TooMany, fld_Unfit, mem0, toEnt, Mem.set, Mem.view, Mem.kill, Mem.frz, Mem.ro, Ent.ro', Opd.get,
 List.set_cons_zero, List.set_cons_succ, List.getElem?_cons_zero, List.getElem?_cons_succ, List.map_cons, List.map_nil, List.length_cons, List.length_nil, List.cons_append, List.nil_append, List.replicate_succ, List.replicate_zero, Option.map_some, Option.map_none, List.cons.injEq, and_true, true_and, Arg.x.injEq, exists_eq_left, exists_eq_right, Option.some.injEq, Ent.ow.injEq, Ent.im.injEq, PyData.int.injEq, PyData.list.injEq, PyData.dict.injEq, PyData.tuple.injEq, PyData.str.injEq, exists_eq', exists_eq, decide_eq_true_eq, Bool.not_eq_true', ite_true, ite_false, decide_true, decide_false, decide_eq_false_iff_not, not_true_eq_false, not_false_eq_true, reduceCtorEq, eq_self]
      refine ⟨⟨by omega, by omega⟩, by rw [rng_len]; exact zl _ (by omega), comp_letters k0 k1 ok3 fun ls w' hn hl ok' => ?_⟩
      simp -dsimp only [↓uSeq, ↓uNext, ↓uKill, ↓uFrz, ↓uDrop, ↓uRet, ↓uIf, ↓uAsg, ↓uAsgO, ↓uPar2, ↓uPar3, ↓uAug, ↓uPut, ↓uDPut, ↓uFor_eq, ↓uWhile_eq, ↓uSeqM_eq, ↓uBrk, ↓uCnt, ↓uWelD, ↓gSet, ↓gN, ↓gC, ↓gT, ↓zE, ↓zF, ↓oE, ↓oV, ↓wV, ↓wC, ↓wOp, ↓wUn, ↓app2, ↓app1, ↓wTst, ↓tAndD, ↓tOrD, ↓tNotD, ↓wAndV, ↓wOrV, ↓wNotV, ↓wIf, ↓wChain, ↓osN, ↓osC, getAll, ↓appN, ↓wCB, ↓appM, ↓wBM, ↓wBM0, ↓wN, ↓wCs, ↓wTup, ↓wLst, ↓wDic0, ↓wDicT, ↓aN, ↓aC, ↓aW, ↓wCall_eq, ↓wCallK_eq, perm, List.filterMap_cons, List.filterMap_nil, ↓wApp, ↓wExt, ↓wPop, ↓wPopAt, ↓wListA, ↓wRpl, ↓iX, ↓iL, ↓iT, ↓iS, ↓iR1, ↓iR2, ↓iR3, ↓iScr, ↓iZD, ↓iE, ↓iE2, ↓iZ2, ↓iZ3, ↓seqD, ↓zipD3, ↓wComp_eq, ↓ttY, ↓wSl, ↓wPart, ↓plN, ↓wRev, ↓wListO, ↓wRep, ↓wLenSet, ↓wLenScr, ↓wWelI, ↓wWelPop, ↓wWelApp, ↓tWelNE, ↓wDisp, ↓wDispT, ↓psC, ↓psN, ↓wDIn, ↓wDNotIn, ↓wDG1, ↓wDG2, ↓wIsi, ↓askD, ↓uTry, ↓uRng, ↓iRV, ↓uRaise, ↓uRaise0, ↓uNever, ↓wCallX_eq, ↓wCallKX_eq, ↓wXf, ↓wIsX, ↓fAdd, ↓fSub, ↓fII, ↓fII0, ↓fDiv, ↓fMod, ↓fPow, ↓fLt, ↓fGt, ↓fLe, ↓fGe, ↓fGtD, ↓fLtD, ↓fLeD, ↓fGeD, ↓fNeg, ↓fMul, ↓fEq, ↓fNe, ↓eqQ, ↓fIsN, ↓fNotN, isNone_1, isNone_2, isNone_3, isNone_4, isNone_5, isNone_6, isNone_7, ↓fInC, ↓fNotInC, ↓fSub_, ↓fIx, ↓fSl, ↓fLen, ↓fTuple, ↓fMin1, ↓fMax1, ↓fSum, ↓fAll, ↓fAny, ↓fSorted, ↓fSortS, ↓fAbs, ↓fInt, ↓fRepr, ↓fCnt, ↓fIdx, ↓fJoin, ↓mSS, ↓mSB, ↓mTI, ↓mTB, ↓mTI3, ↓fInL, ↓fNinL, ↓fInT, ↓fNinT, ↓fInA, ↓fNinA, ↓fInB, ↓fNinB, isStr,
 atI_0, atI_1, atI_2, atI_3, endsG, fld_TooMany, fld_Unfit, mem0, toEnt, Mem.set, Mem.view, Mem.kill, Mem.frz, Mem.ro, Ent.ro', Opd.get,
 List.set_cons_zero, List.set_cons_succ, List.getElem?_cons_zero, List.getElem?_cons_succ, List.map_cons, List.map_nil, List.length_cons, List.length_nil, List.cons_append, List.nil_append, List.replicate_succ, List.replicate_zero, Option.map_some, Option.map_none, List.cons.injEq, and_true, true_and, Arg.x.injEq, exists_eq_left, exists_eq_right, Option.some.injEq, Ent.ow.injEq, Ent.im.injEq, PyData.int.injEq, PyData.list.injEq, PyData.dict.injEq, PyData.tuple.injEq, PyData.str.injEq, exists_eq', exists_eq, decide_eq_true_eq, Bool.not_eq_true', ite_true, ite_false, decide_true, decide_false, decide_eq_false_iff_not, not_true_eq_false, not_false_eq_true, reduceCtorEq, eq_self, strsOf_f, k_, S_cps, List.map_map, Function.comp_def, join_one, List.length_cons, List.length_nil, sum_ones]
      rw [cut_hi s1]
      have b2 : ls.length * (size + 1).toNat ≤ 4 * 65 := Nat.mul_le_mul (by omega) (by omega)
      refine ⟨by omega, ⟨by omega, by omega, zl _ (by omega)⟩, by rw [repL_len, Nat.mul_comm]; exact zl _ (by omega), _, w', _, _, _, fun c hc => hl c (repL_mem (List.mem_of_mem_take hc)), by rw [List.length_take]; omega, ok', rfl⟩
    · have gold : ∀ (one other : List Nat), LetK kinds one → LetK kinds other → 1 ≤ one.length → one.length ≤ 64 → 1 ≤ other.length → other.length ≤ 128 → ∀ (De : DEn) (lk : Lock De), (∀ (one other : List Nat), LetK kinds other → size ≤ other.length → other.length ≤ 128 → De.nx ⟨[some .wel, some (.im (.int most)), some (.im (.int kinds)), some (.im (.int size)), some (.im (.int way)), none, none, some (.im (sD one)), some (.im (sD other)), none, none], some w2⟩) →
          whileL [] (wTst (wOp fLt (oE (wCB fLen (osC (oV 8) osN))) (oV 3))) (uPar2 7 8 (zE (wV 8)) (zE (wOp fAdd (oV 8) (oV 7)))) noX De lk ⟨[some .wel, some (.im (.int most)), some (.im (.int kinds)), some (.im (.int size)), some (.im (.int way)), none, none, some (.im (sD one)), some (.im (sD other)), none, none], some w2⟩ := by
        intro one other a1 a2 a3 a4 a5 a6 De lk fin
        refine while_i (fun m M => ∃ (one other : List Nat), LetK kinds one ∧ LetK kinds other ∧ 1 ≤ one.length ∧ one.length ≤ 64 ∧ 1 ≤ other.length ∧ other.length ≤ 128 ∧ m = 200 - other.length ∧ M = ⟨[some .wel, some (.im (.int most)), some (.im (.int kinds)), some (.im (.int size)), some (.im (.int way)), none, none, some (.im (sD one)), some (.im (sD other)), none, none], some w2⟩) (200 - other.length) ⟨one, other, a1, a2, a3, a4, a5, a6, rfl, rfl⟩ ?_
        rintro m M ⟨one, other, a1, a2, a3, a4, a5, a6, rfl, rfl⟩
        simp -dsimp only [↓uSeq, ↓uNext, ↓uKill, ↓uFrz, ↓uDrop, ↓uRet, ↓uIf, ↓uAsg, ↓uAsgO, ↓uPar2, ↓uPar3, ↓uAug, ↓uPut, ↓uDPut, ↓uFor_eq, ↓uWhile_eq, ↓uSeqM_eq, ↓uBrk, ↓uCnt, ↓uWelD, ↓gSet, ↓gN, ↓gC, ↓gT, ↓zE, ↓zF, ↓oE, ↓oV, ↓wV, ↓wC, ↓wOp, ↓wUn, ↓app2, ↓app1, ↓wTst, ↓tAndD, ↓tOrD, ↓tNotD, ↓wAndV, ↓wOrV, ↓wNotV, ↓wIf, ↓wChain, ↓osN, ↓osC, getAll, ↓appN, ↓wCB, ↓appM, ↓wBM, ↓wBM0, ↓wN, ↓wCs, ↓wTup, ↓wLst, ↓wDic0, ↓wDicT, ↓aN, ↓aC, ↓aW, ↓wCall_eq, ↓wCallK_eq, perm, List.filterMap_cons, List.filterMap_nil, ↓wApp, ↓wExt, ↓wPop, ↓wPopAt, ↓wListA, ↓wRpl, ↓iX, ↓iL, ↓iT, ↓iS, ↓iR1, ↓iR2, ↓iR3, ↓iScr, ↓iZD, ↓iE, ↓iE2, ↓iZ2, ↓iZ3, ↓seqD, ↓zipD3, ↓wComp_eq, ↓ttY, ↓wSl, ↓wPart, ↓plN, ↓wRev, ↓wListO, ↓wRep, ↓wLenSet, ↓wLenScr, ↓wWelI, ↓wWelPop, ↓wWelApp, ↓tWelNE, ↓wDisp, ↓wDispT, ↓psC, ↓psN, ↓wDIn, ↓wDNotIn, ↓wDG1, ↓wDG2, ↓wIsi, ↓askD, ↓uTry, ↓uRng, ↓iRV, ↓uRaise, ↓uRaise0, ↓uNever, ↓wCallX_eq, ↓wCallKX_eq, ↓wXf, ↓wIsX, ↓fAdd, ↓fSub, ↓fII, ↓fII0, ↓fDiv, ↓fMod, ↓fPow, ↓fLt, ↓fGt, ↓fLe, ↓fGe, ↓fGtD, ↓fLtD, ↓fLeD, ↓fGeD, ↓fNeg, ↓fMul, ↓fEq, ↓fNe, ↓eqQ, ↓fIsN, ↓fNotN, isNone_1, isNone_2, isNone_3, isNone_4, isNone_5, isNone_6, isNone_7, ↓fInC, ↓fNotInC, ↓fSub_, ↓fIx, ↓fSl, ↓fLen, ↓fTuple, ↓fMin1, ↓fMax1, ↓fSum, ↓fAll, ↓fAny, ↓fSorted, ↓fSortS, ↓fAbs, ↓fInt, ↓fRepr, ↓fCnt, ↓fIdx, ↓fJoin, ↓mSS, ↓mSB, ↓mTI, ↓mTB, ↓mTI3, ↓fInL, ↓fNinL, ↓fInT, ↓fNinT, ↓fInA, ↓fNinA, ↓fInB, ↓fNinB, isStr,
 atI_0, atI_1, atI_2, atI_3, endsG, fld_TooMany, fld_Unfit, mem0, toEnt, Mem.set, Mem.view, Mem.kill, Mem.frz, Mem.ro, Ent.ro', Opd.get,
 List.set_cons_zero, List.set_cons_succ, List.getElem?_cons_zero, List.getElem?_cons_succ, List.map_cons, List.map_nil, List.length_cons, List.length_nil, List.cons_append, List.nil_append, List.replicate_succ, List.replicate_zero, Option.map_some, Option.map_none, List.cons.injEq, and_true, true_and, Arg.x.injEq, exists_eq_left, exists_eq_right, Option.some.injEq, Ent.ow.injEq, Ent.im.injEq, PyData.int.injEq, PyData.list.injEq, PyData.dict.injEq, PyData.tuple.injEq, PyData.str.injEq, exists_eq', exists_eq, decide_eq_true_eq, Bool.not_eq_true', ite_true, ite_false, decide_true, decide_false, decide_eq_false_iff_not, not_true_eq_false, not_false_eq_true, reduceCtorEq, eq_self, S_cps]
        refine ⟨zl _ (by omega), ite_i (fun hc => ?_) (fun hc => ?_)⟩
        · refine ⟨zl _ (by omega), _, ?_, other, other ++ one, a2, fun c hc => ?_, a5, by omega, by rw [List.length_append]; omega, by rw [List.length_append]; omega, rfl, rfl⟩
          · rw [List.length_append]; omega
          · rcases List.mem_append.mp hc with hc | hc
            · exact a2 c hc
            · exact a1 c hc
        · exact fin one other a2 (by omega) a6
      have la : LetK kinds [97] := fun c hc => by have := List.mem_singleton.mp hc; omega
      have fin : ∀ (one other : List Nat), LetK kinds other → size ≤ other.length → other.length ≤ 128 → ∀ rt bk ct, uAsg (wSl (oV 8) plN (wPart (oV 3))) (gSet 6) noX { rt := rt, bk := bk, ct := ct, nx := fun M => ∃ (l : List Nat) (w' : Wel) (e5 e7 e8 : Option Ent), LetK kinds l ∧ l.length ≤ size.toNat ∧ WelOk w' ∧ M = ⟨[some .wel, some (.im (.int most)), some (.im (.int kinds)), some (.im (.int size)), some (.im (.int way)), e5, some (.im (sD l)), e7, e8, none, none], some w'⟩ } ⟨[some .wel, some (.im (.int most)), some (.im (.int kinds)), some (.im (.int size)), some (.im (.int way)), none, none, some (.im (sD one)), some (.im (sD other)), none, none], some w2⟩ := by
        intro one other a1 a2 a3 rt bk ct
        simp -dsimp only [↓uSeq, ↓uNext, ↓uKill, ↓uFrz, ↓uDrop, ↓uRet, ↓uIf, ↓uAsg, ↓uAsgO, ↓uPar2, ↓uPar3, ↓uAug, ↓uPut, ↓uDPut, ↓uFor_eq, ↓uWhile_eq, ↓uSeqM_eq, ↓uBrk, ↓uCnt, ↓uWelD, ↓gSet, ↓gN, ↓gC, ↓gT, ↓zE, ↓zF, ↓oE, ↓oV, ↓wV, ↓wC, ↓wOp, ↓wUn, ↓app2, ↓app1, ↓wTst, ↓tAndD, ↓tOrD, ↓tNotD, ↓wAndV, ↓wOrV, ↓wNotV, ↓wIf, ↓wChain, ↓osN, ↓osC, getAll, ↓appN, ↓wCB, ↓appM, ↓wBM, ↓wBM0, ↓wN, ↓wCs, ↓wTup, ↓wLst, ↓wDic0, ↓wDicT, ↓aN, ↓aC, ↓aW, ↓wCall_eq, ↓wCallK_eq, perm, List.filterMap_cons, List.filterMap_nil, ↓wApp, ↓wExt, ↓wPop, ↓wPopAt, ↓wListA, ↓wRpl, ↓iX, ↓iL, ↓iT, ↓iS, ↓iR1, ↓iR2, ↓iR3, ↓iScr, ↓iZD, ↓iE, ↓iE2, ↓iZ2, ↓iZ3, ↓seqD, ↓zipD3, ↓wComp_eq, ↓ttY, ↓wSl, ↓wPart, ↓plN, ↓wRev, ↓wListO, ↓wRep, ↓wLenSet, ↓wLenScr, ↓wWelI, ↓wWelPop, ↓wWelApp, ↓tWelNE, ↓wDisp, ↓wDispT, ↓psC, ↓psN, ↓wDIn, ↓wDNotIn, ↓wDG1, ↓wDG2, ↓wIsi, ↓askD, ↓uTry, ↓uRng, ↓iRV, ↓uRaise, ↓uRaise0, ↓uNever, ↓wCallX_eq, ↓wCallKX_eq, ↓wXf, ↓wIsX, ↓fAdd, ↓fSub, ↓fII, ↓fII0, ↓fDiv, ↓fMod, ↓fPow, ↓fLt, ↓fGt, ↓fLe, ↓fGe, ↓fGtD, ↓fLtD, ↓fLeD, ↓fGeD, ↓fNeg, ↓fMul, ↓fEq, ↓fNe, ↓eqQ, ↓fIsN, ↓fNotN, isNone_1, isNone_2, isNone_3, isNone_4, isNone_5, isNone_6, isNone_7, ↓fInC, ↓fNotInC, ↓fSub_, ↓fIx, ↓fSl, ↓fLen, ↓fTuple, ↓fMin1, ↓fMax1, ↓fSum, ↓fAll, ↓fAny, ↓fSorted, ↓fSortS, ↓fAbs, ↓fInt, ↓fRepr, ↓fCnt, ↓fIdx, ↓fJoin, ↓mSS, ↓mSB, ↓mTI, ↓mTB, ↓mTI3, ↓fInL, ↓fNinL, ↓fInT, ↓fNinT, ↓fInA, ↓fNinA, ↓fInB, ↓fNinB, isStr,
 atI_0, atI_1, atI_2, atI_3, endsG, fld_TooMany, fld_Unfit, mem0, toEnt, Mem.set, Mem.view, Mem.kill, Mem.frz, Mem.ro, Ent.ro', Opd.get,
 List.set_cons_zero, List.set_cons_succ, List.getElem?_cons_zero, List.getElem?_cons_succ, List.map_cons, List.map_nil, List.length_cons, List.length_nil, List.cons_append, List.nil_append, List.replicate_succ, List.replicate_zero, Option.map_some, Option.map_none, List.cons.injEq, and_true, true_and, Arg.x.injEq, exists_eq_left, exists_eq_right, Option.some.injEq, Ent.ow.injEq, Ent.im.injEq, PyData.int.injEq, PyData.list.injEq, PyData.dict.injEq, PyData.tuple.injEq, PyData.str.injEq, exists_eq', exists_eq, decide_eq_true_eq, Bool.not_eq_true', ite_true, ite_false, decide_true, decide_false, decide_eq_false_iff_not, not_true_eq_false, not_false_eq_true, reduceCtorEq, eq_self, S_cps]
        rw [cut_hi s1]
        exact ⟨zl _ (by omega), _, w2, _, _, _, fun c hc => a1 c (List.mem_of_mem_take hc), by rw [List.length_take]; omega, ok2, rfl⟩
      refine ite_i (fun hk => ?_) (fun hk => ?_)
      · rw [k_a, k_ab]
        exact gold [97] [97, 98] la (fun c hc => by simp at hc; omega) (by decide) (by decide) (by decide) (by decide) _ _ fun one other b1 b2 b3 => fin one other b1 b2 b3 _ _ _
      · rw [k_a]
        exact gold [97] [97] la la (by decide) (by decide) (by decide) (by decide) _ _ fun one other b1 b2 b3 => fin one other b1 b2 b3 _ _ _
  · rintro M' ⟨l, w3, e5, e7, e8, hl, hn, ok3, rfl⟩
    refine seq_i (l := .mk) (fun M => ∃ (l : List Nat) (w' : Wel) (e5 e7 e8 e9 : Option Ent), LetK kinds l ∧ l.length ≤ size.toNat ∧ WelOk w' ∧ M = ⟨[some .wel, some (.im (.int most)), some (.im (.int kinds)), some (.im (.int size)), some (.im (.int way)), e5, some (.im (sD l)), e7, e8, e9, none], some w'⟩) ?_ ?_
    · simp -dsimp only [↓uSeq, ↓uNext, ↓uKill, ↓uFrz, ↓uDrop, ↓uRet, ↓uIf, ↓uAsg, ↓uAsgO, ↓uPar2, ↓uPar3, ↓uAug, ↓uPut, ↓uDPut, ↓uFor_eq, ↓uWhile_eq, ↓uSeqM_eq, ↓uBrk, ↓uCnt, ↓uWelD, ↓gSet, ↓gN, ↓gC, ↓gT, ↓zE, ↓zF, ↓oE, ↓oV, ↓wV, ↓wC, ↓wOp, ↓wUn, ↓app2, ↓app1, ↓wTst, ↓tAndD, ↓tOrD, ↓tNotD, ↓wAndV, ↓wOrV, ↓wNotV, ↓wIf, ↓wChain, ↓osN, ↓osC, getAll, ↓appN, ↓wCB, ↓appM, ↓wBM, ↓wBM0, ↓wN, ↓wCs, ↓wTup, ↓wLst, ↓wDic0, ↓wDicT, ↓aN, ↓aC, ↓aW, ↓wCall_eq, ↓wCallK_eq, perm, List.filterMap_cons, List.filterMap_nil, ↓wApp, ↓wExt, ↓wPop, ↓wPopAt, ↓wListA, ↓wRpl, ↓iX, ↓iL, ↓iT, ↓iS, ↓iR1, ↓iR2, ↓iR3, ↓iScr, ↓iZD, ↓iE, ↓iE2, ↓iZ2, ↓iZ3, ↓seqD, ↓zipD3, ↓wComp_eq, ↓ttY, ↓wSl, ↓wPart, ↓plN, ↓wRev, ↓wListO, ↓wRep, ↓wLenSet, ↓wLenScr, ↓wWelI, ↓wWelPop, ↓wWelApp, ↓tWelNE, ↓wDisp, ↓wDispT, ↓psC, ↓psN, ↓wDIn, ↓wDNotIn, ↓wDG1, ↓wDG2, ↓wIsi, ↓askD, ↓uTry, ↓uRng, ↓iRV, ↓uRaise, ↓uRaise0, ↓uNever, ↓wCallX_eq, ↓wCallKX_eq, ↓wXf, ↓wIsX, ↓fAdd, ↓fSub, ↓fII, ↓fII0, ↓fDiv, ↓fMod, ↓fPow, ↓fLt, ↓fGt, ↓fLe, ↓fGe, ↓fGtD, ↓fLtD, ↓fLeD, ↓fGeD, ↓fNeg, ↓fMul, ↓fEq, ↓fNe, ↓eqQ, ↓fIsN, ↓fNotN, isNone_1, isNone_2, isNone_3, isNone_4, isNone_5, isNone_6, isNone_7, ↓fInC, ↓fNotInC, ↓fSub_, ↓fIx, ↓fSl, ↓fLen, ↓fTuple, ↓fMin1, ↓fMax1, ↓fSum, ↓fAll, ↓fAny, ↓fSorted, ↓fSortS, ↓fAbs, ↓fInt, ↓fRepr, ↓fCnt, ↓fIdx, ↓fJoin, ↓mSS, ↓mSB, ↓mTI, ↓mTB, ↓mTI3, ↓fInL, ↓fNinL, ↓fInT, ↓fNinT, ↓fInA, ↓fNinA, ↓fInB, ↓fNinB, isStr,
 atI_0, atI_1, atI_2, atI_3, endsG, fld_TooMany, fld_Unfit, mem0, toEnt, Mem.set, Mem.view, Mem.kill, Mem.frz, Mem.ro, Ent.ro', Opd.get,
 List.set_cons_zero, List.set_cons_succ, List.getElem?_cons_zero, List.getElem?_cons_succ, List.map_cons, List.map_nil, List.length_cons, List.length_nil, List.cons_append, List.nil_append, List.replicate_succ, List.replicate_zero, Option.map_some, Option.map_none, List.cons.injEq, and_true, true_and, Arg.x.injEq, exists_eq_left, exists_eq_right, Option.some.injEq, Ent.ow.injEq, Ent.im.injEq, PyData.int.injEq, PyData.list.injEq, PyData.dict.injEq, PyData.tuple.injEq, PyData.str.injEq, exists_eq', exists_eq, decide_eq_true_eq, Bool.not_eq_true', ite_true, ite_false, decide_true, decide_false, decide_eq_false_iff_not, not_true_eq_false, not_false_eq_true, reduceCtorEq, eq_self]
      have fin : ∀ (l : List Nat) (w' : Wel) (e9 : Option Ent), LetK kinds l → l.length ≤ size.toNat → WelOk w' → (∃ (l_1 : List Nat) (w'_1 : Wel) (e5_1 e7_1 e8_1 e9_1 : Option Ent), LetK kinds l_1 ∧ l_1.length ≤ size.toNat ∧ WelOk w'_1 ∧ (⟨[some .wel, some (.im (.int most)), some (.im (.int kinds)), some (.im (.int size)), some (.im (.int way)), e5, some (.im (sD l)), e7, e8, e9, none], some w'⟩ : Mem) = ⟨[some .wel, some (.im (.int most)), some (.im (.int kinds)), some (.im (.int size)), some (.im (.int way)), e5_1, some (.im (sD l_1)), e7_1, e8_1, e9_1, none], some w'_1⟩) :=
        fun l w' e9 a b c => ⟨l, w', e5, e7, e8, e9, a, b, c, rfl⟩
      by_cases h0 : 0 < size
      · rw [if_pos h0]
        refine dip_i ok3 (by decide) fun r w4 _ _ ok4 => ?_
        simp -dsimp only [↓uSeq, ↓uNext, ↓uKill, ↓uFrz, ↓uDrop, ↓uRet, ↓uIf, ↓uAsg, ↓uAsgO, ↓uPar2, ↓uPar3, ↓uAug, ↓uPut, ↓uDPut, ↓uFor_eq, ↓uWhile_eq, ↓uSeqM_eq, ↓uBrk, ↓uCnt, ↓uWelD, ↓gSet, ↓gN, ↓gC, ↓gT, ↓zE, ↓zF, ↓oE, ↓oV, ↓wV, ↓wC, ↓wOp, ↓wUn, ↓app2, ↓app1, ↓wTst, ↓tAndD, ↓tOrD, ↓tNotD, ↓wAndV, ↓wOrV, ↓wNotV, ↓wIf, ↓wChain, ↓osN, ↓osC, getAll, ↓appN, ↓wCB, ↓appM, ↓wBM, ↓wBM0, ↓wN, ↓wCs, ↓wTup, ↓wLst, ↓wDic0, ↓wDicT, ↓aN, ↓aC, ↓aW, ↓wCall_eq, ↓wCallK_eq, perm, List.filterMap_cons, List.filterMap_nil, ↓wApp, ↓wExt, ↓wPop, ↓wPopAt, ↓wListA, ↓wRpl, ↓iX, ↓iL, ↓iT, ↓iS, ↓iR1, ↓iR2, ↓iR3, ↓iScr, ↓iZD, ↓iE, ↓iE2, ↓iZ2, ↓iZ3, ↓seqD, ↓zipD3, ↓wComp_eq, ↓ttY, ↓wSl, ↓wPart, ↓plN, ↓wRev, ↓wListO, ↓wRep, ↓wLenSet, ↓wLenScr, ↓wWelI, ↓wWelPop, ↓wWelApp, ↓tWelNE, ↓wDisp, ↓wDispT, ↓psC, ↓psN, ↓wDIn, ↓wDNotIn, ↓wDG1, ↓wDG2, ↓wIsi, ↓askD, ↓uTry, ↓uRng, ↓iRV, ↓uRaise, ↓uRaise0, ↓uNever, ↓wCallX_eq, ↓wCallKX_eq, ↓wXf, ↓wIsX, ↓fAdd, ↓fSub, ↓fII, ↓fII0, ↓fDiv, ↓fMod, ↓fPow, ↓fLt, ↓fGt, ↓fLe, ↓fGe, ↓fGtD, ↓fLtD, ↓fLeD, ↓fGeD, ↓fNeg, ↓fMul, ↓fEq, ↓fNe, ↓eqQ, ↓fIsN, ↓fNotN, isNone_1, isNone_2, isNone_3, isNone_4, isNone_5, isNone_6, isNone_7, ↓fInC, ↓fNotInC, ↓fSub_, ↓fIx, ↓fSl, ↓fLen, ↓fTuple, ↓fMin1, ↓fMax1, ↓fSum, ↓fAll, ↓fAny, ↓fSorted, ↓fSortS, ↓fAbs, ↓fInt, ↓fRepr, ↓fCnt, ↓fIdx, ↓fJoin, ↓mSS, ↓mSB, ↓mTI, ↓mTB, ↓mTI3, ↓fInL, ↓fNinL, ↓fInT, ↓fNinT, ↓fInA, ↓fNinA, ↓fInB, ↓fNinB, isStr,
 atI_0, atI_1, atI_2, atI_3, endsG, fld_TooMany, fld_Unfit, mem0, toEnt, Mem.set, Mem.view, Mem.kill, Mem.frz, Mem.ro, Ent.ro', Opd.get,
 List.set_cons_zero, List.set_cons_succ, List.getElem?_cons_zero, List.getElem?_cons_succ, List.map_cons, List.map_nil, List.length_cons, List.length_nil, List.cons_append, List.nil_append, List.replicate_succ, List.replicate_zero, Option.map_some, Option.map_none, List.cons.injEq, and_true, true_and, Arg.x.injEq, exists_eq_left, exists_eq_right, Option.some.injEq, Ent.ow.injEq, Ent.im.injEq, PyData.int.injEq, PyData.list.injEq, PyData.dict.injEq, PyData.tuple.injEq, PyData.str.injEq, exists_eq', exists_eq, decide_eq_true_eq, Bool.not_eq_true', ite_true, ite_false, decide_true, decide_false, decide_eq_false_iff_not, not_true_eq_false, not_false_eq_true, reduceCtorEq, eq_self]
        by_cases hr : r = 0
        · rw [if_pos hr]
          refine dip_i ok4 (by omega) fun p w5 p1 p2 ok5 => ?_
          simp -dsimp only [↓uSeq, ↓uNext, ↓uKill, ↓uFrz, ↓uDrop, ↓uRet, ↓uIf, ↓uAsg, ↓uAsgO, ↓uPar2, ↓uPar3, ↓uAug, ↓uPut, ↓uDPut, ↓uFor_eq, ↓uWhile_eq, ↓uSeqM_eq, ↓uBrk, ↓uCnt, ↓uWelD, ↓gSet, ↓gN, ↓gC, ↓gT, ↓zE, ↓zF, ↓oE, ↓oV, ↓wV, ↓wC, ↓wOp, ↓wUn, ↓app2, ↓app1, ↓wTst, ↓tAndD, ↓tOrD, ↓tNotD, ↓wAndV, ↓wOrV, ↓wNotV, ↓wIf, ↓wChain, ↓osN, ↓osC, getAll, ↓appN, ↓wCB, ↓appM, ↓wBM, ↓wBM0, ↓wN, ↓wCs, ↓wTup, ↓wLst, ↓wDic0, ↓wDicT, ↓aN, ↓aC, ↓aW, ↓wCall_eq, ↓wCallK_eq, perm, List.filterMap_cons, List.filterMap_nil, ↓wApp, ↓wExt, ↓wPop, ↓wPopAt, ↓wListA, ↓wRpl, ↓iX, ↓iL, ↓iT, ↓iS, ↓iR1, ↓iR2, ↓iR3, ↓iScr, ↓iZD, ↓iE, ↓iE2, ↓iZ2, ↓iZ3, ↓seqD, ↓zipD3, ↓wComp_eq, ↓ttY, ↓wSl, ↓wPart, ↓plN, ↓wRev, ↓wListO, ↓wRep, ↓wLenSet, ↓wLenScr, ↓wWelI, ↓wWelPop, ↓wWelApp, ↓tWelNE, ↓wDisp, ↓wDispT, ↓psC, ↓psN, ↓wDIn, ↓wDNotIn, ↓wDG1, ↓wDG2, ↓wIsi, ↓askD, ↓uTry, ↓uRng, ↓iRV, ↓uRaise, ↓uRaise0, ↓uNever, ↓wCallX_eq, ↓wCallKX_eq, ↓wXf, ↓wIsX, ↓fAdd, ↓fSub, ↓fII, ↓fII0, ↓fDiv, ↓fMod, ↓fPow, ↓fLt, ↓fGt, ↓fLe, ↓fGe, ↓fGtD, ↓fLtD, ↓fLeD, ↓fGeD, ↓fNeg, ↓fMul, ↓fEq, ↓fNe, ↓eqQ, ↓fIsN, ↓fNotN, isNone_1, isNone_2, isNone_3, isNone_4, isNone_5, isNone_6, isNone_7, ↓fInC, ↓fNotInC, ↓fSub_, ↓fIx, ↓fSl, ↓fLen, ↓fTuple, ↓fMin1, ↓fMax1, ↓fSum, ↓fAll, ↓fAny, ↓fSorted, ↓fSortS, ↓fAbs, ↓fInt, ↓fRepr, ↓fCnt, ↓fIdx, ↓fJoin, ↓mSS, ↓mSB, ↓mTI, ↓mTB, ↓mTI3, ↓fInL, ↓fNinL, ↓fInT, ↓fNinT, ↓fInA, ↓fNinA, ↓fInB, ↓fNinB, isStr,
 atI_0, atI_1, atI_2, atI_3, endsG, fld_TooMany, fld_Unfit, mem0, toEnt, Mem.set, Mem.view, Mem.kill, Mem.frz, Mem.ro, Ent.ro', Opd.get,
 List.set_cons_zero, List.set_cons_succ, List.getElem?_cons_zero, List.getElem?_cons_succ, List.map_cons, List.map_nil, List.length_cons, List.length_nil, List.cons_append, List.nil_append, List.replicate_succ, List.replicate_zero, Option.map_some, Option.map_none, List.cons.injEq, and_true, true_and, Arg.x.injEq, exists_eq_left, exists_eq_right, Option.some.injEq, Ent.ow.injEq, Ent.im.injEq, PyData.int.injEq, PyData.list.injEq, PyData.dict.injEq, PyData.tuple.injEq, PyData.str.injEq, exists_eq', exists_eq, decide_eq_true_eq, Bool.not_eq_true', ite_true, ite_false, decide_true, decide_false, decide_eq_false_iff_not, not_true_eq_false, not_false_eq_true, reduceCtorEq, eq_self]
          refine ⟨zl _ (by omega), dip_i ok5 (by omega) fun c w6 c1 c2 ok6 => ?_⟩
          simp -dsimp only [↓uSeq, ↓uNext, ↓uKill, ↓uFrz, ↓uDrop, ↓uRet, ↓uIf, ↓uAsg, ↓uAsgO, ↓uPar2, ↓uPar3, ↓uAug, ↓uPut, ↓uDPut, ↓uFor_eq, ↓uWhile_eq, ↓uSeqM_eq, ↓uBrk, ↓uCnt, ↓uWelD, ↓gSet, ↓gN, ↓gC, ↓gT, ↓zE, ↓zF, ↓oE, ↓oV, ↓wV, ↓wC, ↓wOp, ↓wUn, ↓app2, ↓app1, ↓wTst, ↓tAndD, ↓tOrD, ↓tNotD, ↓wAndV, ↓wOrV, ↓wNotV, ↓wIf, ↓wChain, ↓osN, ↓osC, getAll, ↓appN, ↓wCB, ↓appM, ↓wBM, ↓wBM0, ↓wN, ↓wCs, ↓wTup, ↓wLst, ↓wDic0, ↓wDicT, ↓aN, ↓aC, ↓aW, ↓wCall_eq, ↓wCallK_eq, perm, List.filterMap_cons, List.filterMap_nil, ↓wApp, ↓wExt, ↓wPop, ↓wPopAt, ↓wListA, ↓wRpl, ↓iX, ↓iL, ↓iT, ↓iS, ↓iR1, ↓iR2, ↓iR3, ↓iScr, ↓iZD, ↓iE, ↓iE2, ↓iZ2, ↓iZ3, ↓seqD, ↓zipD3, ↓wComp_eq, ↓ttY, ↓wSl, ↓wPart, ↓plN, ↓wRev, ↓wListO, ↓wRep, ↓wLenSet, ↓wLenScr, ↓wWelI, ↓wWelPop, ↓wWelApp, ↓tWelNE, ↓wDisp, ↓wDispT, ↓psC, ↓psN, ↓wDIn, ↓wDNotIn, ↓wDG1, ↓wDG2, ↓wIsi, ↓askD, ↓uTry, ↓uRng, ↓iRV, ↓uRaise, ↓uRaise0, ↓uNever, ↓wCallX_eq, ↓wCallKX_eq, ↓wXf, ↓wIsX, ↓fAdd, ↓fSub, ↓fII, ↓fII0, ↓fDiv, ↓fMod, ↓fPow, ↓fLt, ↓fGt, ↓fLe, ↓fGe, ↓fGtD, ↓fLtD, ↓fLeD, ↓fGeD, ↓fNeg, ↓fMul, ↓fEq, ↓fNe, ↓eqQ, ↓fIsN, ↓fNotN, isNone_1, isNone_2, isNone_3, isNone_4, isNone_5, isNone_6, isNone_7, ↓fInC, ↓fNotInC, ↓fSub_, ↓fIx, ↓fSl, ↓fLen, ↓fTuple, ↓fMin1, ↓fMax1, ↓fSum, ↓fAll, ↓fAny, ↓fSorted, ↓fSortS, ↓fAbs, ↓fInt, ↓fRepr, ↓fCnt, ↓fIdx, ↓fJoin, ↓mSS, ↓mSB, ↓mTI, ↓mTB, ↓mTI3, ↓fInL, ↓fNinL, ↓fInT, ↓fNinT, ↓fInA, ↓fNinA, ↓fInB, ↓fNinB, isStr,
 atI_0, atI_1, atI_2, atI_3, endsG, fld_TooMany, fld_Unfit, mem0, toEnt, Mem.set, Mem.view, Mem.kill, Mem.frz, Mem.ro, Ent.ro', Opd.get,
 List.set_cons_zero, List.set_cons_succ, List.getElem?_cons_zero, List.getElem?_cons_succ, List.map_cons, List.map_nil, List.length_cons, List.length_nil, List.cons_append, List.nil_append, List.replicate_succ, List.replicate_zero, Option.map_some, Option.map_none, List.cons.injEq, and_true, true_and, Arg.x.injEq, exists_eq_left, exists_eq_right, Option.some.injEq, Ent.ow.injEq, Ent.im.injEq, PyData.int.injEq, PyData.list.injEq, PyData.dict.injEq, PyData.tuple.injEq, PyData.str.injEq, exists_eq', exists_eq, decide_eq_true_eq, Bool.not_eq_true', ite_true, ite_false, decide_true, decide_false, decide_eq_false_iff_not, not_true_eq_false, not_false_eq_true, reduceCtorEq, eq_self, k_abcd, S_cps, atI_abcd c1 (by omega : c < 4)]
          simp only [cut_hi p1, cut_lo (by omega : (0 : Int) ≤ p + 1), List.length_append, List.length_take, List.length_drop, List.length_cons, List.length_nil]
          refine ⟨by decide, zl _ (by omega), zl _ (by omega), zl _ (by omega), ?_⟩
          refine fin _ w6 _ (fun x hx => ?_) ?_ ok6
          · rcases List.mem_append.mp hx with hx | hx
            · rcases List.mem_append.mp hx with hx | hx
              · exact hl x (List.mem_of_mem_take hx)
              · have := List.mem_singleton.mp hx
                omega
            · exact hl x (List.mem_of_mem_drop hx)
          · simp only [List.length_append, List.length_take, List.length_drop, List.length_cons, List.length_nil]
            have : p.toNat < l.length ∨ l.length ≤ p.toNat := by omega
            omega
        · rw [if_neg hr]
          exact fin l w4 none hl hn ok4
      · rw [if_neg h0]
        exact fin l w3 none hl hn ok3
    · rintro M' ⟨l, w3, e5, e7, e8, e9, hl, hn, ok3, rfl⟩
      simp -dsimp only [↓uSeq, ↓uNext, ↓uKill, ↓uFrz, ↓uDrop, ↓uRet, ↓uIf, ↓uAsg, ↓uAsgO, ↓uPar2, ↓uPar3, ↓uAug, ↓uPut, ↓uDPut, ↓uFor_eq, ↓uWhile_eq, ↓uSeqM_eq, ↓uBrk, ↓uCnt, ↓uWelD, ↓gSet, ↓gN, ↓gC, ↓gT, ↓zE, ↓zF, ↓oE, ↓oV, ↓wV, ↓wC, ↓wOp, ↓wUn, ↓app2, ↓app1, ↓wTst, ↓tAndD, ↓tOrD, ↓tNotD, ↓wAndV, ↓wOrV, ↓wNotV, ↓wIf, ↓wChain, ↓osN, ↓osC, getAll, ↓appN, ↓wCB, ↓appM, ↓wBM, ↓wBM0, ↓wN, ↓wCs, ↓wTup, ↓wLst, ↓wDic0, ↓wDicT, ↓aN, ↓aC, ↓aW, ↓wCall_eq, ↓wCallK_eq, perm, List.filterMap_cons, List.filterMap_nil, ↓wApp, ↓wExt, ↓wPop, ↓wPopAt, ↓wListA, ↓wRpl, ↓iX, ↓iL, ↓iT, ↓iS, ↓iR1, ↓iR2, ↓iR3, ↓iScr, ↓iZD, ↓iE, ↓iE2, ↓iZ2, ↓iZ3, ↓seqD, ↓zipD3, ↓wComp_eq, ↓ttY, ↓wSl, ↓wPart, ↓plN, ↓wRev, ↓wListO, ↓wRep, ↓wLenSet, ↓wLenScr, ↓wWelI, ↓wWelPop, ↓wWelApp, ↓tWelNE, ↓wDisp, ↓wDispT, ↓psC, ↓psN, ↓wDIn, ↓wDNotIn, ↓wDG1, ↓wDG2, ↓wIsi, ↓askD, ↓uTry, ↓uRng, ↓iRV, ↓uRaise, ↓uRaise0, ↓uNever, ↓wCallX_eq, ↓wCallKX_eq, ↓wXf, ↓wIsX, ↓fAdd, ↓fSub, ↓fII, ↓fII0, ↓fDiv, ↓fMod, ↓fPow, ↓fLt, ↓fGt, ↓fLe, ↓fGe, ↓fGtD, ↓fLtD, ↓fLeD, ↓fGeD, ↓fNeg, ↓fMul, ↓fEq, ↓fNe, ↓eqQ, ↓fIsN, ↓fNotN, isNone_1, isNone_2, isNone_3, isNone_4, isNone_5, isNone_6, isNone_7, ↓fInC, ↓fNotInC, ↓fSub_, ↓fIx, ↓fSl, ↓fLen, ↓fTuple, ↓fMin1, ↓fMax1, ↓fSum, ↓fAll, ↓fAny, ↓fSorted, ↓fSortS, ↓fAbs, ↓fInt, ↓fRepr, ↓fCnt, ↓fIdx, ↓fJoin, ↓mSS, ↓mSB, ↓mTI, ↓mTB, ↓mTI3, ↓fInL, ↓fNinL, ↓fInT, ↓fNinT, ↓fInA, ↓fNinA, ↓fInB, ↓fNinB, isStr,
 atI_0, atI_1, atI_2, atI_3, endsG, fld_TooMany, fld_Unfit, mem0, toEnt, Mem.set, Mem.view, Mem.kill, Mem.frz, Mem.ro, Ent.ro', Opd.get,
 List.set_cons_zero, List.set_cons_succ, List.getElem?_cons_zero, List.getElem?_cons_succ, List.map_cons, List.map_nil, List.length_cons, List.length_nil, List.cons_append, List.nil_append, List.replicate_succ, List.replicate_zero, Option.map_some, Option.map_none, List.cons.injEq, and_true, true_and, Arg.x.injEq, exists_eq_left, exists_eq_right, Option.some.injEq, Ent.ow.injEq, Ent.im.injEq, PyData.int.injEq, PyData.list.injEq, PyData.dict.injEq, PyData.tuple.injEq, PyData.str.injEq, exists_eq', exists_eq, decide_eq_true_eq, Bool.not_eq_true', ite_true, ite_false, decide_true, decide_false, decide_eq_false_iff_not, not_true_eq_false, not_false_eq_true, reduceCtorEq, eq_self]
      exact q l w3 hl (by omega) ok3
end DL

/-! MW: the well's birth -/
namespace DL
open PySem PySem.Spec L2 PyProof.Rows
def cellOf (x : Int) : Int := 2 * (if x < 0 then -x else x) + if x < 0 then 1 else 0
def cellsOf (ns : List Int) : List Int := (ns.take 63).map cellOf
def mixStep (m c : Int) : Int := (m * 48271 + c + 11) % 4294967291
def wellOf (ns : List Int) : Wel := ⟨(cellsOf ns).filter fun c => decide (10 ^ 17 ≤ c), (cellsOf ns).foldl mixStep (16257 + 31 * (ns.length : Nat)), 0⟩
theorem wellOf_ok (ns : List Int) : WelOk (wellOf ns) := by
  refine ⟨fun c hc => ?_, ?_⟩
  · have := of_decide_eq_true (List.mem_filter.mp hc).2
    omega
  · have h1 := List.length_filter_le (fun c : Int => decide (10 ^ 17 ≤ c)) (cellsOf ns)
    have h2 : (cellsOf ns).length ≤ 63 := by unfold cellsOf; rw [List.length_map, List.length_take]; omega
    show ((cellsOf ns).filter fun c => decide (10 ^ 17 ≤ c)).length ≤ 63
    omega
def uw1 : WS := (uPar2 1 2 (zE (wComp [4] (iScr 0 63) (gSet 4) ttY (wOp fAdd (oE (wOp fMul (oE (wC (.int 2))) (oE (wCB fAbs (osC (oV 4) osN))))) (oE (wCB fInt (osC (oE (wOp fLt (oV 4) (oE (wC (.int 0))))) osN)))))) (zE (wOp fAdd (oE (wC (.int 16257))) (oE (wOp fMul (oE (wC (.int 31))) (oE (wLenScr 0)))))))
def uw2 : WS := (uFor [3] (iX (wV 1)) (gSet 3)
  (uAsg (wOp fMod (oE (wCB fInt (osC (oE (wOp fAdd (oE (wOp fAdd (oE (wOp fMul (oV 2) (oE (wC (.int 48271))))) (oV 3))) (oE (wC (.int 11))))) osN))) (oE (wC (.int 4294967291)))) (gSet 2)))
def uww : WE := (wDisp (psC (wC (.str "deep")) (wComp [3] (iX (wV 1)) (gSet 3) (wTst (wOp fGe (oV 3) (oE (wOp fPow (oE (wC (.int 10))) (oE (wC (.int 17))))))) (wV 3)) (psC (wC (.str "mix")) (wV 2) (psC (wC (.str "drawn")) (wC (.int 0)) psN))))
theorem k_deep : ("deep" : Str) ≠ "mix" ∧ ("deep" : Str) ≠ "drawn" ∧ ("mix" : Str) ≠ "drawn" := by decide +kernel
theorem pf_well (ns : List Int) (hn : ns.length ≤ 63) : uw1 noX { nx := fun M1 => uw2 noX { nx := fun M2 => uww noX M2 fun d _ => d = welDict (wellOf ns), rt := fun _ _ => False } M1, rt := fun _ _ => False } (mem0 5 [.scr ns] none) := by
  simp -dsimp only [uw1, ↓uSeq, ↓uNext, ↓uKill, ↓uFrz, ↓uDrop, ↓uRet, ↓uIf, ↓uAsg, ↓uAsgO, ↓uPar2, ↓uPar3, ↓uAug, ↓uPut, ↓uDPut, ↓uFor_eq, ↓uWhile_eq, ↓uSeqM_eq, ↓uBrk, ↓uCnt, ↓uWelD, ↓gSet, ↓gN, ↓gC, ↓gT, ↓zE, ↓zF, ↓oE, ↓oV, ↓wV, ↓wC, ↓wOp, ↓wUn, ↓app2, ↓app1, ↓wTst, ↓tAndD, ↓tOrD, ↓tNotD, ↓wAndV, ↓wOrV, ↓wNotV, ↓wIf, ↓wChain, ↓osN, ↓osC, getAll, ↓appN, ↓wCB, ↓appM, ↓wBM, ↓wBM0, ↓wN, ↓wCs, ↓wTup, ↓wLst, ↓wDic0, ↓wDicT, ↓aN, ↓aC, ↓aW, ↓wCall_eq, ↓wCallK_eq, perm, List.filterMap_cons, List.filterMap_nil, ↓wApp, ↓wExt, ↓wPop, ↓wPopAt, ↓wListA, ↓wRpl, ↓iX, ↓iL, ↓iT, ↓iS, ↓iR1, ↓iR2, ↓iR3, ↓iScr, ↓iZD, ↓iE, ↓iE2, ↓iZ2, ↓iZ3, ↓seqD, ↓zipD3, ↓wComp_eq, ↓ttY, ↓wSl, ↓wPart, ↓plN, ↓wRev, ↓wListO, ↓wRep, ↓wLenSet, ↓wLenScr, ↓wWelI, ↓wWelPop, ↓wWelApp, ↓tWelNE, ↓wDisp, ↓wDispT, ↓psC, ↓psN, ↓wDIn, ↓wDNotIn, ↓wDG1, ↓wDG2, ↓wIsi, ↓askD, ↓uTry, ↓uRng, ↓iRV, ↓uRaise, ↓uRaise0, ↓uNever, ↓wCallX_eq, ↓wCallKX_eq, ↓wXf, ↓wIsX, ↓fAdd, ↓fSub, ↓fII, ↓fII0, ↓fDiv, ↓fMod, ↓fPow, ↓fLt, ↓fGt, ↓fLe, ↓fGe, ↓fGtD, ↓fLtD, ↓fLeD, ↓fGeD, ↓fNeg, ↓fMul, ↓fEq, ↓fNe, ↓eqQ, ↓fIsN, ↓fNotN, isNone_1, isNone_2, isNone_3, isNone_4, isNone_5, isNone_6, isNone_7, ↓fInC, ↓fNotInC, ↓fSub_, ↓fIx, ↓fSl, ↓fLen, ↓fTuple, ↓fMin1, ↓fMax1, ↓fSum, ↓fAll, ↓fAny, ↓fSorted, ↓fSortS, ↓fAbs, ↓fInt, ↓fRepr, ↓fCnt, ↓fIdx, ↓fJoin, ↓mSS, ↓mSB, ↓mTI, ↓mTB, ↓mTI3, ↓fInL, ↓fNinL, ↓fInT, ↓fNinT, ↓fInA, ↓fNinA, ↓fInB, ↓fNinB, isStr,
 atI_0, atI_1, atI_2, atI_3, endsG, fld_TooMany, fld_Unfit, mem0, toEnt, Mem.set, Mem.view, Mem.kill, Mem.frz, Mem.ro, Ent.ro', Opd.get,
 List.set_cons_zero, List.set_cons_succ, List.getElem?_cons_zero, List.getElem?_cons_succ, List.map_cons, List.map_nil, List.length_cons, List.length_nil, List.cons_append, List.nil_append, List.replicate_succ, List.replicate_zero, Option.map_some, Option.map_none, List.cons.injEq, and_true, true_and, Arg.x.injEq, exists_eq_left, exists_eq_right, Option.some.injEq, Ent.ow.injEq, Ent.im.injEq, PyData.int.injEq, PyData.list.injEq, PyData.dict.injEq, PyData.tuple.injEq, PyData.str.injEq, exists_eq', exists_eq, decide_eq_true_eq, Bool.not_eq_true', ite_true, ite_false, decide_true, decide_false, decide_eq_false_iff_not, not_true_eq_false, not_false_eq_true, reduceCtorEq, eq_self]
  rw [cut_hi (by decide)]
  have hl : (ns.take 63).length ≤ 63 := by rw [List.length_take]; omega
  refine ⟨by rw [List.length_map]; exact zl _ (by show (ns.take 63).length ≤ 1000; omega), comp_map (fun d => match d with
    | .int x => .int (cellOf x)
    | _ => .none) (fun d hd P hP => ?_) ?_⟩
  · obtain ⟨x, hx, rfl⟩ := List.mem_map.mp hd
    simp -dsimp only [↓uSeq, ↓uNext, ↓uKill, ↓uFrz, ↓uDrop, ↓uRet, ↓uIf, ↓uAsg, ↓uAsgO, ↓uPar2, ↓uPar3, ↓uAug, ↓uPut, ↓uDPut, ↓uFor_eq, ↓uWhile_eq, ↓uSeqM_eq, ↓uBrk, ↓uCnt, ↓uWelD, ↓gSet, ↓gN, ↓gC, ↓gT, ↓zE, ↓zF, ↓oE, ↓oV, ↓wV, ↓wC, ↓wOp, ↓wUn, ↓app2, ↓app1, ↓wTst, ↓tAndD, ↓tOrD, ↓tNotD, ↓wAndV, ↓wOrV, ↓wNotV, ↓wIf, ↓wChain, ↓osN, ↓osC, getAll, ↓appN, ↓wCB, ↓appM, ↓wBM, ↓wBM0, ↓wN, ↓wCs, ↓wTup, ↓wLst, ↓wDic0, ↓wDicT, ↓aN, ↓aC, ↓aW, ↓wCall_eq, ↓wCallK_eq, perm, List.filterMap_cons, List.filterMap_nil, ↓wApp, ↓wExt, ↓wPop, ↓wPopAt, ↓wListA, ↓wRpl, ↓iX, ↓iL, ↓iT, ↓iS, ↓iR1, ↓iR2, ↓iR3, ↓iScr, ↓iZD, ↓iE, ↓iE2, ↓iZ2, ↓iZ3, ↓seqD, ↓zipD3, ↓wComp_eq, ↓ttY, ↓wSl, ↓wPart, ↓plN, ↓wRev, ↓wListO, ↓wRep, ↓wLenSet, ↓wLenScr, ↓wWelI, ↓wWelPop, ↓wWelApp, ↓tWelNE, ↓wDisp, ↓wDispT, ↓psC, ↓psN, ↓wDIn, ↓wDNotIn, ↓wDG1, ↓wDG2, ↓wIsi, ↓askD, ↓uTry, ↓uRng, ↓iRV, ↓uRaise, ↓uRaise0, ↓uNever, ↓wCallX_eq, ↓wCallKX_eq, ↓wXf, ↓wIsX, ↓fAdd, ↓fSub, ↓fII, ↓fII0, ↓fDiv, ↓fMod, ↓fPow, ↓fLt, ↓fGt, ↓fLe, ↓fGe, ↓fGtD, ↓fLtD, ↓fLeD, ↓fGeD, ↓fNeg, ↓fMul, ↓fEq, ↓fNe, ↓eqQ, ↓fIsN, ↓fNotN, isNone_1, isNone_2, isNone_3, isNone_4, isNone_5, isNone_6, isNone_7, ↓fInC, ↓fNotInC, ↓fSub_, ↓fIx, ↓fSl, ↓fLen, ↓fTuple, ↓fMin1, ↓fMax1, ↓fSum, ↓fAll, ↓fAny, ↓fSorted, ↓fSortS, ↓fAbs, ↓fInt, ↓fRepr, ↓fCnt, ↓fIdx, ↓fJoin, ↓mSS, ↓mSB, ↓mTI, ↓mTB, ↓mTI3, ↓fInL, ↓fNinL, ↓fInT, ↓fNinT, ↓fInA, ↓fNinA, ↓fInB, ↓fNinB, isStr,
 atI_0, atI_1, atI_2, atI_3, endsG, fld_TooMany, fld_Unfit, mem0, toEnt, Mem.set, Mem.view, Mem.kill, Mem.frz, Mem.ro, Ent.ro', Opd.get,
 List.set_cons_zero, List.set_cons_succ, List.getElem?_cons_zero, List.getElem?_cons_succ, List.map_cons, List.map_nil, List.length_cons, List.length_nil, List.cons_append, List.nil_append, List.replicate_succ, List.replicate_zero, Option.map_some, Option.map_none, List.cons.injEq, and_true, true_and, Arg.x.injEq, exists_eq_left, exists_eq_right, Option.some.injEq, Ent.ow.injEq, Ent.im.injEq, PyData.int.injEq, PyData.list.injEq, PyData.dict.injEq, PyData.tuple.injEq, PyData.str.injEq, exists_eq', exists_eq, decide_eq_true_eq, Bool.not_eq_true', ite_true, ite_false, decide_true, decide_false, decide_eq_false_iff_not, not_true_eq_false, not_false_eq_true, reduceCtorEq, eq_self]
    exact ⟨.inl ⟨by decide, by decide⟩, hP⟩
  · have e1 : ((ns.take (Int.toNat 63)).map PyData.int).map (fun d => match d with
      | .int x => PyData.int (cellOf x)
      | _ => PyData.none) = (cellsOf ns).map .int := by
      unfold cellsOf
      rw [List.map_map, List.map_map]
      rfl
    rw [e1]
    simp -dsimp only [↓uSeq, ↓uNext, ↓uKill, ↓uFrz, ↓uDrop, ↓uRet, ↓uIf, ↓uAsg, ↓uAsgO, ↓uPar2, ↓uPar3, ↓uAug, ↓uPut, ↓uDPut, ↓uFor_eq, ↓uWhile_eq, ↓uSeqM_eq, ↓uBrk, ↓uCnt, ↓uWelD, ↓gSet, ↓gN, ↓gC, ↓gT, ↓zE, ↓zF, ↓oE, ↓oV, ↓wV, ↓wC, ↓wOp, ↓wUn, ↓app2, ↓app1, ↓wTst, ↓tAndD, ↓tOrD, ↓tNotD, ↓wAndV, ↓wOrV, ↓wNotV, ↓wIf, ↓wChain, ↓osN, ↓osC, getAll, ↓appN, ↓wCB, ↓appM, ↓wBM, ↓wBM0, ↓wN, ↓wCs, ↓wTup, ↓wLst, ↓wDic0, ↓wDicT, ↓aN, ↓aC, ↓aW, ↓wCall_eq, ↓wCallK_eq, perm, List.filterMap_cons, List.filterMap_nil, ↓wApp, ↓wExt, ↓wPop, ↓wPopAt, ↓wListA, ↓wRpl, ↓iX, ↓iL, ↓iT, ↓iS, ↓iR1, ↓iR2, ↓iR3, ↓iScr, ↓iZD, ↓iE, ↓iE2, ↓iZ2, ↓iZ3, ↓seqD, ↓zipD3, ↓wComp_eq, ↓ttY, ↓wSl, ↓wPart, ↓plN, ↓wRev, ↓wListO, ↓wRep, ↓wLenSet, ↓wLenScr, ↓wWelI, ↓wWelPop, ↓wWelApp, ↓tWelNE, ↓wDisp, ↓wDispT, ↓psC, ↓psN, ↓wDIn, ↓wDNotIn, ↓wDG1, ↓wDG2, ↓wIsi, ↓askD, ↓uTry, ↓uRng, ↓iRV, ↓uRaise, ↓uRaise0, ↓uNever, ↓wCallX_eq, ↓wCallKX_eq, ↓wXf, ↓wIsX, ↓fAdd, ↓fSub, ↓fII, ↓fII0, ↓fDiv, ↓fMod, ↓fPow, ↓fLt, ↓fGt, ↓fLe, ↓fGe, ↓fGtD, ↓fLtD, ↓fLeD, ↓fGeD, ↓fNeg, ↓fMul, ↓fEq, ↓fNe, ↓eqQ, ↓fIsN, ↓fNotN, isNone_1, isNone_2, isNone_3, isNone_4, isNone_5, isNone_6, isNone_7, ↓fInC, ↓fNotInC, ↓fSub_, ↓fIx, ↓fSl, ↓fLen, ↓fTuple, ↓fMin1, ↓fMax1, ↓fSum, ↓fAll, ↓fAny, ↓fSorted, ↓fSortS, ↓fAbs, ↓fInt, ↓fRepr, ↓fCnt, ↓fIdx, ↓fJoin, ↓mSS, ↓mSB, ↓mTI, ↓mTB, ↓mTI3, ↓fInL, ↓fNinL, ↓fInT, ↓fNinT, ↓fInA, ↓fNinA, ↓fInB, ↓fNinB, isStr,
 atI_0, atI_1, atI_2, atI_3, endsG, fld_TooMany, fld_Unfit, mem0, toEnt, Mem.set, Mem.view, Mem.kill, Mem.frz, Mem.ro, Ent.ro', Opd.get,
 List.set_cons_zero, List.set_cons_succ, List.getElem?_cons_zero, List.getElem?_cons_succ, List.map_cons, List.map_nil, List.length_cons, List.length_nil, List.cons_append, List.nil_append, List.replicate_succ, List.replicate_zero, Option.map_some, Option.map_none, List.cons.injEq, and_true, true_and, Arg.x.injEq, exists_eq_left, exists_eq_right, Option.some.injEq, Ent.ow.injEq, Ent.im.injEq, PyData.int.injEq, PyData.list.injEq, PyData.dict.injEq, PyData.tuple.injEq, PyData.str.injEq, exists_eq', exists_eq, decide_eq_true_eq, Bool.not_eq_true', ite_true, ite_false, decide_true, decide_false, decide_eq_false_iff_not, not_true_eq_false, not_false_eq_true, reduceCtorEq, eq_self]
    refine ⟨.inl ⟨by decide, by decide⟩, ?_⟩
    simp -dsimp only [uw2, ↓uSeq, ↓uNext, ↓uKill, ↓uFrz, ↓uDrop, ↓uRet, ↓uIf, ↓uAsg, ↓uAsgO, ↓uPar2, ↓uPar3, ↓uAug, ↓uPut, ↓uDPut, ↓uFor_eq, ↓uWhile_eq, ↓uSeqM_eq, ↓uBrk, ↓uCnt, ↓uWelD, ↓gSet, ↓gN, ↓gC, ↓gT, ↓zE, ↓zF, ↓oE, ↓oV, ↓wV, ↓wC, ↓wOp, ↓wUn, ↓app2, ↓app1, ↓wTst, ↓tAndD, ↓tOrD, ↓tNotD, ↓wAndV, ↓wOrV, ↓wNotV, ↓wIf, ↓wChain, ↓osN, ↓osC, getAll, ↓appN, ↓wCB, ↓appM, ↓wBM, ↓wBM0, ↓wN, ↓wCs, ↓wTup, ↓wLst, ↓wDic0, ↓wDicT, ↓aN, ↓aC, ↓aW, ↓wCall_eq, ↓wCallK_eq, perm, List.filterMap_cons, List.filterMap_nil, ↓wApp, ↓wExt, ↓wPop, ↓wPopAt, ↓wListA, ↓wRpl, ↓iX, ↓iL, ↓iT, ↓iS, ↓iR1, ↓iR2, ↓iR3, ↓iScr, ↓iZD, ↓iE, ↓iE2, ↓iZ2, ↓iZ3, ↓seqD, ↓zipD3, ↓wComp_eq, ↓ttY, ↓wSl, ↓wPart, ↓plN, ↓wRev, ↓wListO, ↓wRep, ↓wLenSet, ↓wLenScr, ↓wWelI, ↓wWelPop, ↓wWelApp, ↓tWelNE, ↓wDisp, ↓wDispT, ↓psC, ↓psN, ↓wDIn, ↓wDNotIn, ↓wDG1, ↓wDG2, ↓wIsi, ↓askD, ↓uTry, ↓uRng, ↓iRV, ↓uRaise, ↓uRaise0, ↓uNever, ↓wCallX_eq, ↓wCallKX_eq, ↓wXf, ↓wIsX, ↓fAdd, ↓fSub, ↓fII, ↓fII0, ↓fDiv, ↓fMod, ↓fPow, ↓fLt, ↓fGt, ↓fLe, ↓fGe, ↓fGtD, ↓fLtD, ↓fLeD, ↓fGeD, ↓fNeg, ↓fMul, ↓fEq, ↓fNe, ↓eqQ, ↓fIsN, ↓fNotN, isNone_1, isNone_2, isNone_3, isNone_4, isNone_5, isNone_6, isNone_7, ↓fInC, ↓fNotInC, ↓fSub_, ↓fIx, ↓fSl, ↓fLen, ↓fTuple, ↓fMin1, ↓fMax1, ↓fSum, ↓fAll, ↓fAny, ↓fSorted, ↓fSortS, ↓fAbs, ↓fInt, ↓fRepr, ↓fCnt, ↓fIdx, ↓fJoin, ↓mSS, ↓mSB, ↓mTI, ↓mTB, ↓mTI3, ↓fInL, ↓fNinL, ↓fInT, ↓fNinT, ↓fInA, ↓fNinA, ↓fInB, ↓fNinB, isStr,
 atI_0, atI_1, atI_2, atI_3, endsG, fld_TooMany, fld_Unfit, mem0, toEnt, Mem.set, Mem.view, Mem.kill, Mem.frz, Mem.ro, Ent.ro', Opd.get,
 List.set_cons_zero, List.set_cons_succ, List.getElem?_cons_zero, List.getElem?_cons_succ, List.map_cons, List.map_nil, List.length_cons, List.length_nil, List.cons_append, List.nil_append, List.replicate_succ, List.replicate_zero, Option.map_some, Option.map_none, List.cons.injEq, and_true, true_and, Arg.x.injEq, exists_eq_left, exists_eq_right, Option.some.injEq, Ent.ow.injEq, Ent.im.injEq, PyData.int.injEq, PyData.list.injEq, PyData.dict.injEq, PyData.tuple.injEq, PyData.str.injEq, exists_eq', exists_eq, decide_eq_true_eq, Bool.not_eq_true', ite_true, ite_false, decide_true, decide_false, decide_eq_false_iff_not, not_true_eq_false, not_false_eq_true, reduceCtorEq, eq_self]
    refine for_i (fun i M => ∃ e3 : Option Ent, M = ⟨[some (.scr ns), some (.im (.list ((cellsOf ns).map .int))), some (.im (.int (((cellsOf ns).take i).foldl mixStep (16257 + 31 * (ns.length : Nat))))), e3, none], none⟩) ⟨none, rfl⟩ ?_ ?_
    · rintro i d M' hd ⟨e3, rfl⟩
      rw [List.getElem?_map] at hd
      obtain ⟨c, hc, rfl⟩ := Option.map_eq_some_iff.mp hd
      simp -dsimp only [↓uSeq, ↓uNext, ↓uKill, ↓uFrz, ↓uDrop, ↓uRet, ↓uIf, ↓uAsg, ↓uAsgO, ↓uPar2, ↓uPar3, ↓uAug, ↓uPut, ↓uDPut, ↓uFor_eq, ↓uWhile_eq, ↓uSeqM_eq, ↓uBrk, ↓uCnt, ↓uWelD, ↓gSet, ↓gN, ↓gC, ↓gT, ↓zE, ↓zF, ↓oE, ↓oV, ↓wV, ↓wC, ↓wOp, ↓wUn, ↓app2, ↓app1, ↓wTst, ↓tAndD, ↓tOrD, ↓tNotD, ↓wAndV, ↓wOrV, ↓wNotV, ↓wIf, ↓wChain, ↓osN, ↓osC, getAll, ↓appN, ↓wCB, ↓appM, ↓wBM, ↓wBM0, ↓wN, ↓wCs, ↓wTup, ↓wLst, ↓wDic0, ↓wDicT, ↓aN, ↓aC, ↓aW, ↓wCall_eq, ↓wCallK_eq, perm, List.filterMap_cons, List.filterMap_nil, ↓wApp, ↓wExt, ↓wPop, ↓wPopAt, ↓wListA, ↓wRpl, ↓iX, ↓iL, ↓iT, ↓iS, ↓iR1, ↓iR2, ↓iR3, ↓iScr, ↓iZD, ↓iE, ↓iE2, ↓iZ2, ↓iZ3, ↓seqD, ↓zipD3, ↓wComp_eq, ↓ttY, ↓wSl, ↓wPart, ↓plN, ↓wRev, ↓wListO, ↓wRep, ↓wLenSet, ↓wLenScr, ↓wWelI, ↓wWelPop, ↓wWelApp, ↓tWelNE, ↓wDisp, ↓wDispT, ↓psC, ↓psN, ↓wDIn, ↓wDNotIn, ↓wDG1, ↓wDG2, ↓wIsi, ↓askD, ↓uTry, ↓uRng, ↓iRV, ↓uRaise, ↓uRaise0, ↓uNever, ↓wCallX_eq, ↓wCallKX_eq, ↓wXf, ↓wIsX, ↓fAdd, ↓fSub, ↓fII, ↓fII0, ↓fDiv, ↓fMod, ↓fPow, ↓fLt, ↓fGt, ↓fLe, ↓fGe, ↓fGtD, ↓fLtD, ↓fLeD, ↓fGeD, ↓fNeg, ↓fMul, ↓fEq, ↓fNe, ↓eqQ, ↓fIsN, ↓fNotN, isNone_1, isNone_2, isNone_3, isNone_4, isNone_5, isNone_6, isNone_7, ↓fInC, ↓fNotInC, ↓fSub_, ↓fIx, ↓fSl, ↓fLen, ↓fTuple, ↓fMin1, ↓fMax1, ↓fSum, ↓fAll, ↓fAny, ↓fSorted, ↓fSortS, ↓fAbs, ↓fInt, ↓fRepr, ↓fCnt, ↓fIdx, ↓fJoin, ↓mSS, ↓mSB, ↓mTI, ↓mTB, ↓mTI3, ↓fInL, ↓fNinL, ↓fInT, ↓fNinT, ↓fInA, ↓fNinA, ↓fInB, ↓fNinB, isStr,
 atI_0, atI_1, atI_2, atI_3, endsG, fld_TooMany, fld_Unfit, mem0, toEnt, Mem.set, Mem.view, Mem.kill, Mem.frz, Mem.ro, Ent.ro', Opd.get,
 List.set_cons_zero, List.set_cons_succ, List.getElem?_cons_zero, List.getElem?_cons_succ, List.map_cons, List.map_nil, List.length_cons, List.length_nil, List.cons_append, List.nil_append, List.replicate_succ, List.replicate_zero, Option.map_some, Option.map_none, List.cons.injEq, and_true, true_and, Arg.x.injEq, exists_eq_left, exists_eq_right, Option.some.injEq, Ent.ow.injEq, Ent.im.injEq, PyData.int.injEq, PyData.list.injEq, PyData.dict.injEq, PyData.tuple.injEq, PyData.str.injEq, exists_eq', exists_eq, decide_eq_true_eq, Bool.not_eq_true', ite_true, ite_false, decide_true, decide_false, decide_eq_false_iff_not, not_true_eq_false, not_false_eq_true, reduceCtorEq, eq_self]
      refine ⟨.inr ⟨by decide, by decide⟩, by decide, some (.im (.int c)), ?_⟩
      rw [List.take_add_one, hc, List.foldl_append]
      rfl
    · rintro M' ⟨e3, rfl⟩
      rw [List.length_map, List.take_length]
      simp -dsimp only [uww, ↓uSeq, ↓uNext, ↓uKill, ↓uFrz, ↓uDrop, ↓uRet, ↓uIf, ↓uAsg, ↓uAsgO, ↓uPar2, ↓uPar3, ↓uAug, ↓uPut, ↓uDPut, ↓uFor_eq, ↓uWhile_eq, ↓uSeqM_eq, ↓uBrk, ↓uCnt, ↓uWelD, ↓gSet, ↓gN, ↓gC, ↓gT, ↓zE, ↓zF, ↓oE, ↓oV, ↓wV, ↓wC, ↓wOp, ↓wUn, ↓app2, ↓app1, ↓wTst, ↓tAndD, ↓tOrD, ↓tNotD, ↓wAndV, ↓wOrV, ↓wNotV, ↓wIf, ↓wChain, ↓osN, ↓osC, getAll, ↓appN, ↓wCB, ↓appM, ↓wBM, ↓wBM0, ↓wN, ↓wCs, ↓wTup, ↓wLst, ↓wDic0, ↓wDicT, ↓aN, ↓aC, ↓aW, ↓wCall_eq, ↓wCallK_eq, perm, List.filterMap_cons, List.filterMap_nil, ↓wApp, ↓wExt, ↓wPop, ↓wPopAt, ↓wListA, ↓wRpl, ↓iX, ↓iL, ↓iT, ↓iS, ↓iR1, ↓iR2, ↓iR3, ↓iScr, ↓iZD, ↓iE, ↓iE2, ↓iZ2, ↓iZ3, ↓seqD, ↓zipD3, ↓wComp_eq, ↓ttY, ↓wSl, ↓wPart, ↓plN, ↓wRev, ↓wListO, ↓wRep, ↓wLenSet, ↓wLenScr, ↓wWelI, ↓wWelPop, ↓wWelApp, ↓tWelNE, ↓wDisp, ↓wDispT, ↓psC, ↓psN, ↓wDIn, ↓wDNotIn, ↓wDG1, ↓wDG2, ↓wIsi, ↓askD, ↓uTry, ↓uRng, ↓iRV, ↓uRaise, ↓uRaise0, ↓uNever, ↓wCallX_eq, ↓wCallKX_eq, ↓wXf, ↓wIsX, ↓fAdd, ↓fSub, ↓fII, ↓fII0, ↓fDiv, ↓fMod, ↓fPow, ↓fLt, ↓fGt, ↓fLe, ↓fGe, ↓fGtD, ↓fLtD, ↓fLeD, ↓fGeD, ↓fNeg, ↓fMul, ↓fEq, ↓fNe, ↓eqQ, ↓fIsN, ↓fNotN, isNone_1, isNone_2, isNone_3, isNone_4, isNone_5, isNone_6, isNone_7, ↓fInC, ↓fNotInC, ↓fSub_, ↓fIx, ↓fSl, ↓fLen, ↓fTuple, ↓fMin1, ↓fMax1, ↓fSum, ↓fAll, ↓fAny, ↓fSorted, ↓fSortS, ↓fAbs, ↓fInt, ↓fRepr, ↓fCnt, ↓fIdx, ↓fJoin, ↓mSS, ↓mSB, ↓mTI, ↓mTB, ↓mTI3, ↓fInL, ↓fNinL, ↓fInT, ↓fNinT, ↓fInA, ↓fNinA, ↓fInB, ↓fNinB, isStr,
 atI_0, atI_1, atI_2, atI_3, endsG, fld_TooMany, fld_Unfit, mem0, toEnt, Mem.set, Mem.view, Mem.kill, Mem.frz, Mem.ro, Ent.ro', Opd.get,
 List.set_cons_zero, List.set_cons_succ, List.getElem?_cons_zero, List.getElem?_cons_succ, List.map_cons, List.map_nil, List.length_cons, List.length_nil, List.cons_append, List.nil_append, List.replicate_succ, List.replicate_zero, Option.map_some, Option.map_none, List.cons.injEq, and_true, true_and, Arg.x.injEq, exists_eq_left, exists_eq_right, Option.some.injEq, Ent.ow.injEq, Ent.im.injEq, PyData.int.injEq, PyData.list.injEq, PyData.dict.injEq, PyData.tuple.injEq, PyData.str.injEq, exists_eq', exists_eq, decide_eq_true_eq, Bool.not_eq_true', ite_true, ite_false, decide_true, decide_false, decide_eq_false_iff_not, not_true_eq_false, not_false_eq_true, reduceCtorEq, eq_self]
      have hc63 : (cellsOf ns).length ≤ 63 := by unfold cellsOf; rw [List.length_map]; exact hl
      refine ⟨by rw [List.length_map]; exact zl _ (by omega), comp_filter id (fun d => match d with
        | .int c => decide (10 ^ 17 ≤ c)
        | _ => false) (fun d hd P P2 h1 h2 => ?_) ?_⟩
      · obtain ⟨c, hc, rfl⟩ := List.mem_map.mp hd
        have e17 : (10 : Int) ^ Int.toNat 17 = 10 ^ 17 := rfl
        simp -dsimp only [↓uSeq, ↓uNext, ↓uKill, ↓uFrz, ↓uDrop, ↓uRet, ↓uIf, ↓uAsg, ↓uAsgO, ↓uPar2, ↓uPar3, ↓uAug, ↓uPut, ↓uDPut, ↓uFor_eq, ↓uWhile_eq, ↓uSeqM_eq, ↓uBrk, ↓uCnt, ↓uWelD, ↓gSet, ↓gN, ↓gC, ↓gT, ↓zE, ↓zF, ↓oE, ↓oV, ↓wV, ↓wC, ↓wOp, ↓wUn, ↓app2, ↓app1, ↓wTst, ↓tAndD, ↓tOrD, ↓tNotD, ↓wAndV, ↓wOrV, ↓wNotV, ↓wIf, ↓wChain, ↓osN, ↓osC, getAll, ↓appN, ↓wCB, ↓appM, ↓wBM, ↓wBM0, ↓wN, ↓wCs, ↓wTup, ↓wLst, ↓wDic0, ↓wDicT, ↓aN, ↓aC, ↓aW, ↓wCall_eq, ↓wCallK_eq, perm, List.filterMap_cons, List.filterMap_nil, ↓wApp, ↓wExt, ↓wPop, ↓wPopAt, ↓wListA, ↓wRpl, ↓iX, ↓iL, ↓iT, ↓iS, ↓iR1, ↓iR2, ↓iR3, ↓iScr, ↓iZD, ↓iE, ↓iE2, ↓iZ2, ↓iZ3, ↓seqD, ↓zipD3, ↓wComp_eq, ↓ttY, ↓wSl, ↓wPart, ↓plN, ↓wRev, ↓wListO, ↓wRep, ↓wLenSet, ↓wLenScr, ↓wWelI, ↓wWelPop, ↓wWelApp, ↓tWelNE, ↓wDisp, ↓wDispT, ↓psC, ↓psN, ↓wDIn, ↓wDNotIn, ↓wDG1, ↓wDG2, ↓wIsi, ↓askD, ↓uTry, ↓uRng, ↓iRV, ↓uRaise, ↓uRaise0, ↓uNever, ↓wCallX_eq, ↓wCallKX_eq, ↓wXf, ↓wIsX, ↓fAdd, ↓fSub, ↓fII, ↓fII0, ↓fDiv, ↓fMod, ↓fPow, ↓fLt, ↓fGt, ↓fLe, ↓fGe, ↓fGtD, ↓fLtD, ↓fLeD, ↓fGeD, ↓fNeg, ↓fMul, ↓fEq, ↓fNe, ↓eqQ, ↓fIsN, ↓fNotN, isNone_1, isNone_2, isNone_3, isNone_4, isNone_5, isNone_6, isNone_7, ↓fInC, ↓fNotInC, ↓fSub_, ↓fIx, ↓fSl, ↓fLen, ↓fTuple, ↓fMin1, ↓fMax1, ↓fSum, ↓fAll, ↓fAny, ↓fSorted, ↓fSortS, ↓fAbs, ↓fInt, ↓fRepr, ↓fCnt, ↓fIdx, ↓fJoin, ↓mSS, ↓mSB, ↓mTI, ↓mTB, ↓mTI3, ↓fInL, ↓fNinL, ↓fInT, ↓fNinT, ↓fInA, ↓fNinA, ↓fInB, ↓fNinB, isStr,
 atI_0, atI_1, atI_2, atI_3, endsG, fld_TooMany, fld_Unfit, mem0, toEnt, Mem.set, Mem.view, Mem.kill, Mem.frz, Mem.ro, Ent.ro', Opd.get,
 List.set_cons_zero, List.set_cons_succ, List.getElem?_cons_zero, List.getElem?_cons_succ, List.map_cons, List.map_nil, List.length_cons, List.length_nil, List.cons_append, List.nil_append, List.replicate_succ, List.replicate_zero, Option.map_some, Option.map_none, List.cons.injEq, and_true, true_and, Arg.x.injEq, exists_eq_left, exists_eq_right, Option.some.injEq, Ent.ow.injEq, Ent.im.injEq, PyData.int.injEq, PyData.list.injEq, PyData.dict.injEq, PyData.tuple.injEq, PyData.str.injEq, exists_eq', exists_eq, decide_eq_true_eq, Bool.not_eq_true', ite_true, ite_false, decide_true, decide_false, decide_eq_false_iff_not, not_true_eq_false, not_false_eq_true, reduceCtorEq, eq_self]
        rw [e17]
        exact ⟨⟨by decide, by decide, by decide⟩, ite_i (fun h => h1 (decide_eq_true h)) (fun h => h2 (decide_eq_false h))⟩
      · have ef : (((cellsOf ns).map PyData.int).filter (fun d => match d with
          | .int c => decide (10 ^ 17 ≤ c)
          | _ => false)).map id = (wellOf ns).deep.map .int := by
          rw [List.map_id, List.filter_map]
          rfl
        rw [ef]
        obtain ⟨k1, k2, k3⟩ := k_deep
        simp -dsimp only [↓uSeq, ↓uNext, ↓uKill, ↓uFrz, ↓uDrop, ↓uRet, ↓uIf, ↓uAsg, ↓uAsgO, ↓uPar2, ↓uPar3, ↓uAug, ↓uPut, ↓uDPut, ↓uFor_eq, ↓uWhile_eq, ↓uSeqM_eq, ↓uBrk, ↓uCnt, ↓uWelD, ↓gSet, ↓gN, ↓gC, ↓gT, ↓zE, ↓zF, ↓oE, ↓oV, ↓wV, ↓wC, ↓wOp, ↓wUn, ↓app2, ↓app1, ↓wTst, ↓tAndD, ↓tOrD, ↓tNotD, ↓wAndV, ↓wOrV, ↓wNotV, ↓wIf, ↓wChain, ↓osN, ↓osC, getAll, ↓appN, ↓wCB, ↓appM, ↓wBM, ↓wBM0, ↓wN, ↓wCs, ↓wTup, ↓wLst, ↓wDic0, ↓wDicT, ↓aN, ↓aC, ↓aW, ↓wCall_eq, ↓wCallK_eq, perm, List.filterMap_cons, List.filterMap_nil, ↓wApp, ↓wExt, ↓wPop, ↓wPopAt, ↓wListA, ↓wRpl, ↓iX, ↓iL, ↓iT, ↓iS, ↓iR1, ↓iR2, ↓iR3, ↓iScr, ↓iZD, ↓iE, ↓iE2, ↓iZ2, ↓iZ3, ↓seqD, ↓zipD3, ↓wComp_eq, ↓ttY, ↓wSl, ↓wPart, ↓plN, ↓wRev, ↓wListO, ↓wRep, ↓wLenSet, ↓wLenScr, ↓wWelI, ↓wWelPop, ↓wWelApp, ↓tWelNE, ↓wDisp, ↓wDispT, ↓psC, ↓psN, ↓wDIn, ↓wDNotIn, ↓wDG1, ↓wDG2, ↓wIsi, ↓askD, ↓uTry, ↓uRng, ↓iRV, ↓uRaise, ↓uRaise0, ↓uNever, ↓wCallX_eq, ↓wCallKX_eq, ↓wXf, ↓wIsX, ↓fAdd, ↓fSub, ↓fII, ↓fII0, ↓fDiv, ↓fMod, ↓fPow, ↓fLt, ↓fGt, ↓fLe, ↓fGe, ↓fGtD, ↓fLtD, ↓fLeD, ↓fGeD, ↓fNeg, ↓fMul, ↓fEq, ↓fNe, ↓eqQ, ↓fIsN, ↓fNotN, isNone_1, isNone_2, isNone_3, isNone_4, isNone_5, isNone_6, isNone_7, ↓fInC, ↓fNotInC, ↓fSub_, ↓fIx, ↓fSl, ↓fLen, ↓fTuple, ↓fMin1, ↓fMax1, ↓fSum, ↓fAll, ↓fAny, ↓fSorted, ↓fSortS, ↓fAbs, ↓fInt, ↓fRepr, ↓fCnt, ↓fIdx, ↓fJoin, ↓mSS, ↓mSB, ↓mTI, ↓mTB, ↓mTI3, ↓fInL, ↓fNinL, ↓fInT, ↓fNinT, ↓fInA, ↓fNinA, ↓fInB, ↓fNinB, isStr,
 atI_0, atI_1, atI_2, atI_3, endsG, fld_TooMany, fld_Unfit, mem0, toEnt, Mem.set, Mem.view, Mem.kill, Mem.frz, Mem.ro, Ent.ro', Opd.get,
 List.set_cons_zero, List.set_cons_succ, List.getElem?_cons_zero, List.getElem?_cons_succ, List.map_cons, List.map_nil, List.length_cons, List.length_nil, List.cons_append, List.nil_append, List.replicate_succ, List.replicate_zero, Option.map_some, Option.map_none, List.cons.injEq, and_true, true_and, Arg.x.injEq, exists_eq_left, exists_eq_right, Option.some.injEq, Ent.ow.injEq, Ent.im.injEq, PyData.int.injEq, PyData.list.injEq, PyData.dict.injEq, PyData.tuple.injEq, PyData.str.injEq, exists_eq', exists_eq, decide_eq_true_eq, Bool.not_eq_true', ite_true, ite_false, decide_true, decide_false, decide_eq_false_iff_not, not_true_eq_false, not_false_eq_true, reduceCtorEq, eq_self, List.all_cons, List.all_nil, List.foldl_cons, List.foldl_nil]
        refine ⟨⟨rfl, by decide⟩, ?_⟩
        simp [welDict, dput, kEq, kEq1, k1, k2, k3, wellOf]
end DL

/-! MU: what many laws want -/
namespace DL
open PySem PySem.Spec L2 PyProof.Rows
theorem len1 (c : Nat) : (S [c]).length ≤ 5592405 := by show 1 ≤ 5592405; decide
theorem S_one {c d : Nat} : S [c] = S [d] ↔ c = d := ⟨fun h => by have := S_inj h; simpa using this, fun h => by rw [h]⟩
theorem S_iff {a b : List Nat} : S a = S b ↔ a = b := ⟨S_inj, fun h => by rw [h]⟩
theorem join_map (g : Nat → Nat) : ∀ l : List Nat, joinL [] (l.map fun c => [g c]) = l.map g := fun l => by
  have := join_one (l.map g)
  rw [List.map_map] at this
  exact this
theorem chr_at {l : List Nat} {i : Nat} {d : PyData} (h : (l.map fun c => PyData.str (S [c]))[i]? = some d) : ∃ c, l[i]? = some c ∧ d = .str (S [c]) := by
  rw [List.getElem?_map] at h
  obtain ⟨c, hc, e⟩ := Option.map_eq_some_iff.mp h
  exact ⟨c, hc, e.symm⟩
theorem enum_chr {l : List Nat} {i : Nat} {d : PyData} (h : (enumD 0 (l.map fun c => PyData.str (S [c])))[i]? = some d) : ∃ c, l[i]? = some c ∧ d = .tuple [.int (i : Nat), .str (S [c])] := by
  obtain ⟨x, hx, rfl⟩ := enumD_get h
  obtain ⟨c, hc, rfl⟩ := chr_at hx
  exact ⟨c, hc, by rw [Nat.zero_add]⟩
theorem zip_chr {l m : List Nat} {i : Nat} {d : PyData} (h : (zipD (l.map fun c => PyData.str (S [c])) (m.map fun c => PyData.str (S [c])))[i]? = some d) : ∃ a b, l[i]? = some a ∧ m[i]? = some b ∧ d = .tuple [.str (S [a]), .str (S [b])] := by
  obtain ⟨x, y, hx, hy, rfl⟩ := zipD_get h
  obtain ⟨a, ha, rfl⟩ := chr_at hx
  obtain ⟨b, hb, rfl⟩ := chr_at hy
  exact ⟨a, b, ha, hb, rfl⟩
theorem atI_last {α : Type} (l : List α) (a : α) : atI (l ++ [a]) (-1) = some a := by
  unfold L2.atI ixN
  rw [if_neg (by decide), if_pos (by simp; omega)]
  have : (-1 + (((l ++ [a]).length : Nat) : Int)).toNat = l.length := by simp; omega
  rw [this]
  simp
theorem atI_nat {α : Type} {l : List α} {i : Int} {n : Nat} (e : i = (n : Nat)) (h : n < l.length) : atI l i = l[n]? := by
  subst e
  unfold L2.atI ixN
  rw [if_pos (by omega), if_pos (by omega)]
  simp
theorem strs_sm {n : Nat} {l : List Nat} (h : ∀ c ∈ l, c < 1000) (hn : l.length ≤ n) : Sm 1 (n * 14 + 3) (.list (l.map fun c => PyData.str (S [c]))) := Sm.list (k := 12) (m := n) (fun x hx => by
  obtain ⟨c, hc, rfl⟩ := List.mem_map.mp hx
  exact Sm.str (m := 1) (fun d hd => by rw [List.mem_singleton.mp hd]; exact h c hc) (by simp)) (by simpa using hn)
abbrev chs (l : List Nat) : List PyData := l.map fun c => PyData.str (S [c])
theorem chs_nil (l : List Nat) : PyData.eqv (.list (chs l)) (.list []) = l.isEmpty := by rw [eqv_nil]; cases l <;> rfl
theorem chs_rev (x : Nat) (t : List Nat) : chs (x :: t).reverse = chs t.reverse ++ [PyData.str (S [x])] := by simp [chs]
theorem join_ok (l : List Nat) (h : l.length ≤ 1000) : (List.map (fun y : Str => y.cps.toList.length) (List.map (fun c => S [c]) l)).sum + (List.map (fun c => S [c]) l).length * 0 ≤ 16777216 := by
  rw [List.map_map]
  have : (List.map ((fun y : Str => y.cps.toList.length) ∘ fun c => S [c]) l) = l.map fun _ => 1 := rfl
  rw [this, sum_ones]
  omega
theorem cut_nn {α : Type} {l : List α} {i j : Int} {n m : Nat} (hi : i = (n : Nat)) (hj : j = (m : Nat)) : cut l (some i) (some j) = (l.drop n).take (m - n) := by
  subst hi hj
  rw [cut_lh (by omega) (by omega)]
  simp
theorem rng_map {β : Type} (f : PyData → β) (g : Nat → β) (n : Nat) (h : ∀ p, p < n → f (.int (p : Nat)) = g p) : (rng 0 n).map f = (List.range n).map g := by
  unfold rng
  rw [List.map_map]
  refine List.map_congr_left fun p hp => ?_
  show f (.int (0 + (p : Nat))) = g p
  rw [Int.zero_add]
  exact h p (List.mem_range.mp hp)
theorem mem_rng {d : PyData} {n : Nat} (h : d ∈ rng 0 n) : ∃ p : Nat, p < n ∧ d = .int (p : Nat) := by
  unfold rng at h
  obtain ⟨p, h1, rfl⟩ := List.mem_map.mp h
  exact ⟨p, List.mem_range.mp h1, by rw [Int.zero_add]⟩
theorem rng_at {d : PyData} {n i : Nat} (h : (rng 0 n)[i]? = some d) : i < n ∧ d = .int (i : Nat) := by
  unfold rng at h
  rw [List.getElem?_map] at h
  obtain ⟨z, hz, e⟩ := Option.map_eq_some_iff.mp h
  have h1 := (List.getElem?_eq_some_iff.mp hz).1
  have h2 := (List.getElem?_eq_some_iff.mp hz).2
  simp at h1 h2
  subst h2
  exact ⟨h1, by rw [← e, Int.zero_add]⟩
theorem find_range_none {p : Nat → Bool} {n i : Nat} (hi : i < n) (h : ∀ j, j < i → p j = false) (hp : p i = true) : (List.range n).find? p = some i := by
  rw [List.find?_range_eq_some]
  exact ⟨hp, by simpa using hi, fun j hj => by simp [h j hj]⟩
theorem ixN_nat {n i : Nat} (h : i < n) : ixN n (i : Int) = some i := by
  unfold ixN
  rw [if_pos (by omega), if_pos (by omega)]
  simp
def seg (l : List Nat) (p s : Nat) : List Nat := (l.drop p).take s
theorem rng_atL {d : PyData} {lo : Int} {n i : Nat} (h : (rng lo n)[i]? = some d) : i < n ∧ d = .int (lo + (i : Nat)) := by
  unfold rng at h
  rw [List.getElem?_map] at h
  obtain ⟨z, hz, e⟩ := Option.map_eq_some_iff.mp h
  have h1 := (List.getElem?_eq_some_iff.mp hz).1
  have h2 := (List.getElem?_eq_some_iff.mp hz).2
  simp at h1 h2
  subst h2
  exact ⟨h1, e.symm⟩
theorem eqv_ints : ∀ a b : List Int, PyData.eqvAll (a.map .int) (b.map .int) = decide (a = b)
  | [], [] => by simp [PyData.eqvAll]
  | [], _ :: _ => by simp [PyData.eqvAll]
  | _ :: _, [] => by simp [PyData.eqvAll]
  | a :: l, b :: m => by
    rw [List.map_cons, List.map_cons, PyData.eqvAll, eqv_ints l m, PyData.eqv, Bool.eq_iff_iff]
    simp
theorem eqv_tup (a b : List Int) : PyData.eqv (.tuple (a.map .int)) (.tuple (b.map .int)) = decide (a = b) := by rw [PyData.eqv, eqv_ints]
theorem seg_len (l : List Nat) (p s : Nat) : (seg l p s).length ≤ s := by unfold seg; rw [List.length_take]; omega
theorem seg_len2 (l : List Nat) (p s : Nat) : (seg l p s).length ≤ l.length := by unfold seg; rw [List.length_take, List.length_drop]; omega
theorem boolsOf_f {α : Type} (f : α → Bool) (l : List α) : boolsOf (l.map fun c => PyData.bool (f c)) = some (l.map f) := by
  have := boolsOf_map (l.map f)
  rw [List.map_map] at this
  exact this
theorem cut_seg {l : List Nat} {p s : Nat} {i j : Int} (hi : i = (p : Nat)) (hj : j = (p : Nat) + (s : Nat)) : cut l (some i) (some j) = seg l p s := by
  subst hi hj
  rw [cut_lh (by omega) (by omega)]
  unfold seg
  congr 1
  omega
theorem atI_zero {α : Type} {l : List α} {x : α} (h : l[0]? = some x) : atI l 0 = some x := by
  unfold L2.atI
  rw [show (0 : Int) = ((0 : Nat) : Int) from rfl, ixN_nat (List.getElem?_eq_some_iff.mp h).1]
  exact h
theorem atI_at {α : Type} {l : List α} {x : α} {i : Int} {n : Nat} (hi : i = (n : Nat)) (h : l[n]? = some x) : atI l i = some x := by
  subst hi
  unfold L2.atI
  rw [ixN_nat (List.getElem?_eq_some_iff.mp h).1]
  exact h
def Vl (l : List Nat) (o p s : Nat) : Prop := p < l.length ∧ 1 ≤ s ∧ p + o * s ≤ l.length
def IsFirst (V P : Nat → Nat → Prop) (r : PyData) : Prop := (r = .none ∧ ∀ p s, V p s → ¬ P p s) ∨ ∃ p s : Nat, r = .tuple [.int (p : Nat), .int (s : Nat)] ∧ V p s ∧ P p s ∧ ∀ p' s', V p' s' → (p' < p ∨ (p' = p ∧ s' < s)) → ¬ P p' s'
theorem IsFirst.one {V P : Nat → Nat → Prop} {r r' : PyData} (h : IsFirst V P r) (h' : IsFirst V P r') : r = r' := by
  rcases h with ⟨rfl, h⟩ | ⟨p, s, rfl, v, q, m⟩
  · rcases h' with ⟨rfl, _⟩ | ⟨p, s, rfl, v, q, m⟩
    · rfl
    · exact absurd q (h p s v)
  · rcases h' with ⟨rfl, h⟩ | ⟨p', s', rfl, v', q', m'⟩
    · exact absurd q (h p s v)
    · have h1 : ¬ (p < p' ∨ (p = p' ∧ s < s')) := fun z => m' p s v z q
      have h2 : ¬ (p' < p ∨ (p' = p ∧ s' < s)) := fun z => m p' s' v' z q'
      have e1 : p = p' := by omega
      have e2 : s = s' := by omega
      rw [e1, e2]
theorem IsFirst.iff {V P P' : Nat → Nat → Prop} {r : PyData} (h : IsFirst V P r) (hp : ∀ p s, V p s → (P p s ↔ P' p s)) : IsFirst V P' r := by
  rcases h with ⟨rfl, h⟩ | ⟨p, s, rfl, v, q, m⟩
  · exact .inl ⟨rfl, fun p s v z => h p s v ((hp p s v).mpr z)⟩
  · exact .inr ⟨p, s, rfl, v, (hp p s v).mp q, fun p' s' v' z w => m p' s' v' z ((hp p' s' v').mpr w)⟩
theorem take_j {w : Wel} {l : List PyData} {Q : PyData → Option Wel → Prop} {lk : Lock Q} (ok : WelOk w) (h0 : 0 < l.length) (h1 : l.length ≤ 1000) (q : ∀ x w', x ∈ l → WelOk w' → Q x (some w')) : callG g__law_take [.wel, .x (.list l)] (some w) Q lk := ⟨w, _, l, rfl, rfl, ok, rfl, h0, h1, q⟩
theorem map_erase {α β : Type} (f : α → β) : ∀ (l : List α) (n : Nat), (l.map f).eraseIdx n = (l.eraseIdx n).map f
  | [], n => by simp
  | a :: l, 0 => by simp
  | a :: l, n + 1 => by simp [map_erase f l n]
theorem word_j {w : Wel} {most kinds : Int} {Q : PyData → Option Wel → Prop} {lk : Lock Q} (ok : WelOk w) (m0 : 0 ≤ most) (m1 : most ≤ 64) (k0 : 1 ≤ kinds) (k1 : kinds ≤ 4)
    (q : ∀ (l : List Nat) w', LetK kinds l → l.length ≤ most.toNat → WelOk w' → Q (sD l) (some w')) : callG g__law_word [.wel, .x (.int most), .x (.int kinds)] (some w) Q lk := ⟨w, most, kinds, rfl, rfl, ok, m0, m1, k0, k1, q⟩
/-! a draw that is made again until it fits: how long that may take -/
def Hit (w : Wel) (many b : Int) (n : Nat) : Prop := 1 ≤ n ∧ n ≤ PP ∧ bl3 w.mix (w.drawn + (n : Int)) / 128 % many ≠ b
def rk (w : Wel) (R n : Nat) : Nat := dm w * (PP + 1) + R * (PP + 1) + n
theorem hit_any (w : Wel) {many : Int} (b : Int) (h : 2 ≤ many) : ∃ n, Hit w many b n := bl_hit _ _ _ _ h
def RkN (w : Wel) (many b : Int) (n R : Nat) (r : Int) (w2 : Wel) : Prop :=
  (r = b → ∃ n', Hit w2 many b n' ∧ rk w2 R n' < rk w R n) ∧ (∀ (b' : Int) (R' : Nat), R' < R → ∃ n', Hit w2 many b' n' ∧ rk w2 R' n' < rk w R n)
theorem rk_next {w : Wel} {many b : Int} {n R : Nat} (ok : WelOk w) (h : 2 ≤ many) (hit : Hit w many b n) : RkN w many b n R (dipV w many).1 (dipV w many).2 := by
  obtain ⟨h1, h2, h3⟩ := hit
  have le : dm (dipV w many).2 ≤ dm w := by
    rcases dip_step ok h with ⟨a, _⟩ | ⟨a, e⟩
    · exact Nat.le_of_lt a
    · rw [e]; exact Nat.le_refl _
  constructor
  · intro hb
    rcases dip_step ok h with ⟨a, _⟩ | ⟨a, e⟩
    · obtain ⟨n', g1, g2, g3⟩ := hit_any (dipV w many).2 b h
      refine ⟨n', ⟨g1, g2, g3⟩, ?_⟩
      unfold rk
      have := Nat.mul_le_mul_right (PP + 1) (show dm (dipV w many).2 + 1 ≤ dm w from a)
      rw [Nat.add_mul] at this
      omega
    · have en : n ≠ 1 := by
        rintro rfl
        rw [e] at hb
        exact h3 hb
      refine ⟨n - 1, ⟨by omega, by omega, ?_⟩, ?_⟩
      · rw [e]
        show bl3 w.mix (w.drawn + 1 + ((n - 1 : Nat) : Int)) / 128 % many ≠ b
        have : w.drawn + 1 + ((n - 1 : Nat) : Int) = w.drawn + (n : Int) := by omega
        rw [this]
        exact h3
      · rw [e]
        show dm w * (PP + 1) + R * (PP + 1) + (n - 1) < dm w * (PP + 1) + R * (PP + 1) + n
        omega
  · intro b' R' hR
    obtain ⟨n', g1, g2, g3⟩ := hit_any (dipV w many).2 b' h
    refine ⟨n', ⟨g1, g2, g3⟩, ?_⟩
    unfold rk
    have a1 := Nat.mul_le_mul_right (PP + 1) le
    have a2 := Nat.mul_le_mul_right (PP + 1) (show R' + 1 ≤ R from hR)
    rw [Nat.add_mul] at a2
    omega
theorem cut_end {α : Type} (l : List α) (x : α) : cut (l ++ [x]) (some (-1)) none = [x] := by
  unfold cut
  have e1 : HT.sIx (l ++ [x]).length 0 (some (-1)) = l.length := by
    unfold HT.sIx
    simp
    omega
  rw [e1, HT.sIx_none]
  simp
theorem cut_end0 {α : Type} : cut ([] : List α) (some (-1)) none = [] := by
  unfold cut
  simp
end DL

/-! MP: counts_of, pieces alike: shared by k82 and k83 (from M2, M4) -/
namespace DL
open PySem PySem.Spec L2 PyProof.Rows
def cts (l : List Nat) : List Int := [(l.count 97 : Nat), (l.count 98 : Nat), (l.count 99 : Nat), (l.count 100 : Nat)]
def g_counts_of : GSpec := fun args wl Q => ∃ (l : List Nat), args = [.x (sD l)] ∧ Q (.tuple ((cts l).map .int)) wl
theorem counts_i {l : List Nat} {wl : Option Wel} {Q : PyData → Option Wel → Prop} {lk : Lock Q} (q : Q (.tuple ((cts l).map .int)) wl) : callG g_counts_of [.x (sD l)] wl Q lk := ⟨l, rfl, q⟩
def u_counts_of : WS :=
  (uRet (wCB fTuple (osC (oE (wComp [1] (iX (wC (.str "abcd"))) (gSet 1) ttY (wBM isStr fCnt (oV 0) (osC (oV 1) osN)))) osN)))
theorem pf_counts_of (args : List Arg) (wl : Option Wel) (Q : PyData → Option Wel → Prop) (h : g_counts_of args wl Q) : u_counts_of noX (endsG Q) (mem0 2 args wl) := by
  obtain ⟨l, rfl, q⟩ := h
  simp -dsimp only [u_counts_of, ↓uSeq, ↓uNext, ↓uKill, ↓uFrz, ↓uDrop, ↓uRet, ↓uIf, ↓uAsg, ↓uAsgO, ↓uPar2, ↓uPar3, ↓uAug, ↓uPut, ↓uDPut, ↓uFor_eq, ↓uWhile_eq, ↓uSeqM_eq, ↓uBrk, ↓uCnt, ↓uWelD, ↓gSet, ↓gN, ↓gC, ↓gT, ↓zE, ↓zF, ↓oE, ↓oV, ↓wV, ↓wC, ↓wOp, ↓wUn, ↓app2, ↓app1, ↓wTst, ↓tAndD, ↓tOrD, ↓tNotD, ↓wAndV, ↓wOrV, ↓wNotV, ↓wIf, ↓wChain, ↓osN, ↓osC, getAll, ↓appN, ↓wCB, ↓appM, ↓wBM, ↓wBM0, ↓wN, ↓wCs, ↓wTup, ↓wLst, ↓wDic0, ↓wDicT, ↓aN, ↓aC, ↓aW, ↓wCall_eq, ↓wCallK_eq, perm, List.filterMap_cons, List.filterMap_nil, ↓wApp, ↓wExt, ↓wPop, ↓wPopAt, ↓wListA, ↓wRpl, ↓iX, ↓iL, ↓iT, ↓iS, ↓iR1, ↓iR2, ↓iR3, ↓iScr, ↓iZD, ↓iE, ↓iE2, ↓iZ2, ↓iZ3, ↓seqD, ↓zipD3, ↓wComp_eq, ↓ttY, ↓wSl, ↓wPart, ↓plN, ↓wRev, ↓wListO, ↓wRep, ↓wLenSet, ↓wLenScr, ↓wWelI, ↓wWelPop, ↓wWelApp, ↓tWelNE, ↓wDisp, ↓wDispT, ↓psC, ↓psN, ↓wDIn, ↓wDNotIn, ↓wDG1, ↓wDG2, ↓wIsi, ↓askD, ↓uTry, ↓uRng, ↓iRV, ↓uRaise, ↓uRaise0, ↓uNever, ↓wCallX_eq, ↓wCallKX_eq, ↓wXf, ↓wIsX, ↓fAdd, ↓fSub, ↓fII, ↓fII0, ↓fDiv, ↓fMod, ↓fPow, ↓fLt, ↓fGt, ↓fLe, ↓fGe, ↓fGtD, ↓fLtD, ↓fLeD, ↓fGeD, ↓fNeg, ↓fMul, ↓fEq, ↓fNe, ↓eqQ, ↓fIsN, ↓fNotN, isNone_1, isNone_2, isNone_3, isNone_4, isNone_5, isNone_6, isNone_7, ↓fInC, ↓fNotInC, ↓fSub_, ↓fIx, ↓fSl, ↓fLen, ↓fTuple, ↓fMin1, ↓fMax1, ↓fSum, ↓fAll, ↓fAny, ↓fSorted, ↓fSortS, ↓fAbs, ↓fInt, ↓fRepr, ↓fCnt, ↓fIdx, ↓fJoin, ↓mSS, ↓mSB, ↓mTI, ↓mTB, ↓mTI3, ↓fInL, ↓fNinL, ↓fInT, ↓fNinT, ↓fInA, ↓fNinA, ↓fInB, ↓fNinB, isStr,
 atI_0, atI_1, atI_2, atI_3, endsG, fld_TooMany, fld_Unfit, mem0, toEnt, Mem.set, Mem.view, Mem.kill, Mem.frz, Mem.ro, Ent.ro', Opd.get,
 List.set_cons_zero, List.set_cons_succ, List.getElem?_cons_zero, List.getElem?_cons_succ, List.map_cons, List.map_nil, List.length_cons, List.length_nil, List.cons_append, List.nil_append, List.replicate_succ, List.replicate_zero, Option.map_some, Option.map_none, List.cons.injEq, and_true, true_and, Arg.x.injEq, exists_eq_left, exists_eq_right, Option.some.injEq, Ent.ow.injEq, Ent.im.injEq, PyData.int.injEq, PyData.list.injEq, PyData.dict.injEq, PyData.tuple.injEq, PyData.str.injEq, exists_eq', exists_eq, decide_eq_true_eq, Bool.not_eq_true', ite_true, ite_false, decide_true, decide_false, decide_eq_false_iff_not, not_true_eq_false, not_false_eq_true, reduceCtorEq, eq_self, k_abcd, S_cps]
  refine ⟨by decide, comp_map (fun d => match d with
    | .str c => .int ((l.count (c.cps.toList.headD 0) : Nat))
    | _ => .none) (fun d hd P hP => ?_) ?_⟩
  · simp only [List.mem_cons, List.not_mem_nil, or_false] at hd
    rcases hd with rfl | rfl | rfl | rfl <;> (simp -dsimp only [↓uSeq, ↓uNext, ↓uKill, ↓uFrz, ↓uDrop, ↓uRet, ↓uIf, ↓uAsg, ↓uAsgO, ↓uPar2, ↓uPar3, ↓uAug, ↓uPut, ↓uDPut, ↓uFor_eq, ↓uWhile_eq, ↓uSeqM_eq, ↓uBrk, ↓uCnt, ↓uWelD, ↓gSet, ↓gN, ↓gC, ↓gT, ↓zE, ↓zF, ↓oE, ↓oV, ↓wV, ↓wC, ↓wOp, ↓wUn, ↓app2, ↓app1, ↓wTst, ↓tAndD, ↓tOrD, ↓tNotD, ↓wAndV, ↓wOrV, ↓wNotV, ↓wIf, ↓wChain, ↓osN, ↓osC, getAll, ↓appN, ↓wCB, ↓appM, ↓wBM, ↓wBM0, ↓wN, ↓wCs, ↓wTup, ↓wLst, ↓wDic0, ↓wDicT, ↓aN, ↓aC, ↓aW, ↓wCall_eq, ↓wCallK_eq, perm, List.filterMap_cons, List.filterMap_nil, ↓wApp, ↓wExt, ↓wPop, ↓wPopAt, ↓wListA, ↓wRpl, ↓iX, ↓iL, ↓iT, ↓iS, ↓iR1, ↓iR2, ↓iR3, ↓iScr, ↓iZD, ↓iE, ↓iE2, ↓iZ2, ↓iZ3, ↓seqD, ↓zipD3, ↓wComp_eq, ↓ttY, ↓wSl, ↓wPart, ↓plN, ↓wRev, ↓wListO, ↓wRep, ↓wLenSet, ↓wLenScr, ↓wWelI, ↓wWelPop, ↓wWelApp, ↓tWelNE, ↓wDisp, ↓wDispT, ↓psC, ↓psN, ↓wDIn, ↓wDNotIn, ↓wDG1, ↓wDG2, ↓wIsi, ↓askD, ↓uTry, ↓uRng, ↓iRV, ↓uRaise, ↓uRaise0, ↓uNever, ↓wCallX_eq, ↓wCallKX_eq, ↓wXf, ↓wIsX, ↓fAdd, ↓fSub, ↓fII, ↓fII0, ↓fDiv, ↓fMod, ↓fPow, ↓fLt, ↓fGt, ↓fLe, ↓fGe, ↓fGtD, ↓fLtD, ↓fLeD, ↓fGeD, ↓fNeg, ↓fMul, ↓fEq, ↓fNe, ↓eqQ, ↓fIsN, ↓fNotN, isNone_1, isNone_2, isNone_3, isNone_4, isNone_5, isNone_6, isNone_7, ↓fInC, ↓fNotInC, ↓fSub_, ↓fIx, ↓fSl, ↓fLen, ↓fTuple, ↓fMin1, ↓fMax1, ↓fSum, ↓fAll, ↓fAny, ↓fSorted, ↓fSortS, ↓fAbs, ↓fInt, ↓fRepr, ↓fCnt, ↓fIdx, ↓fJoin, ↓mSS, ↓mSB, ↓mTI, ↓mTB, ↓mTI3, ↓fInL, ↓fNinL, ↓fInT, ↓fNinT, ↓fInA, ↓fNinA, ↓fInB, ↓fNinB, isStr,
 atI_0, atI_1, atI_2, atI_3, endsG, fld_TooMany, fld_Unfit, mem0, toEnt, Mem.set, Mem.view, Mem.kill, Mem.frz, Mem.ro, Ent.ro', Opd.get,
 List.set_cons_zero, List.set_cons_succ, List.getElem?_cons_zero, List.getElem?_cons_succ, List.map_cons, List.map_nil, List.length_cons, List.length_nil, List.cons_append, List.nil_append, List.replicate_succ, List.replicate_zero, Option.map_some, Option.map_none, List.cons.injEq, and_true, true_and, Arg.x.injEq, exists_eq_left, exists_eq_right, Option.some.injEq, Ent.ow.injEq, Ent.im.injEq, PyData.int.injEq, PyData.list.injEq, PyData.dict.injEq, PyData.tuple.injEq, PyData.str.injEq, exists_eq', exists_eq, decide_eq_true_eq, Bool.not_eq_true', ite_true, ite_false, decide_true, decide_false, decide_eq_false_iff_not, not_true_eq_false, not_false_eq_true, reduceCtorEq, eq_self, S_cps]; exact hP)
  · simp -dsimp only [↓uSeq, ↓uNext, ↓uKill, ↓uFrz, ↓uDrop, ↓uRet, ↓uIf, ↓uAsg, ↓uAsgO, ↓uPar2, ↓uPar3, ↓uAug, ↓uPut, ↓uDPut, ↓uFor_eq, ↓uWhile_eq, ↓uSeqM_eq, ↓uBrk, ↓uCnt, ↓uWelD, ↓gSet, ↓gN, ↓gC, ↓gT, ↓zE, ↓zF, ↓oE, ↓oV, ↓wV, ↓wC, ↓wOp, ↓wUn, ↓app2, ↓app1, ↓wTst, ↓tAndD, ↓tOrD, ↓tNotD, ↓wAndV, ↓wOrV, ↓wNotV, ↓wIf, ↓wChain, ↓osN, ↓osC, getAll, ↓appN, ↓wCB, ↓appM, ↓wBM, ↓wBM0, ↓wN, ↓wCs, ↓wTup, ↓wLst, ↓wDic0, ↓wDicT, ↓aN, ↓aC, ↓aW, ↓wCall_eq, ↓wCallK_eq, perm, List.filterMap_cons, List.filterMap_nil, ↓wApp, ↓wExt, ↓wPop, ↓wPopAt, ↓wListA, ↓wRpl, ↓iX, ↓iL, ↓iT, ↓iS, ↓iR1, ↓iR2, ↓iR3, ↓iScr, ↓iZD, ↓iE, ↓iE2, ↓iZ2, ↓iZ3, ↓seqD, ↓zipD3, ↓wComp_eq, ↓ttY, ↓wSl, ↓wPart, ↓plN, ↓wRev, ↓wListO, ↓wRep, ↓wLenSet, ↓wLenScr, ↓wWelI, ↓wWelPop, ↓wWelApp, ↓tWelNE, ↓wDisp, ↓wDispT, ↓psC, ↓psN, ↓wDIn, ↓wDNotIn, ↓wDG1, ↓wDG2, ↓wIsi, ↓askD, ↓uTry, ↓uRng, ↓iRV, ↓uRaise, ↓uRaise0, ↓uNever, ↓wCallX_eq, ↓wCallKX_eq, ↓wXf, ↓wIsX, ↓fAdd, ↓fSub, ↓fII, ↓fII0, ↓fDiv, ↓fMod, ↓fPow, ↓fLt, ↓fGt, ↓fLe, ↓fGe, ↓fGtD, ↓fLtD, ↓fLeD, ↓fGeD, ↓fNeg, ↓fMul, ↓fEq, ↓fNe, ↓eqQ, ↓fIsN, ↓fNotN, isNone_1, isNone_2, isNone_3, isNone_4, isNone_5, isNone_6, isNone_7, ↓fInC, ↓fNotInC, ↓fSub_, ↓fIx, ↓fSl, ↓fLen, ↓fTuple, ↓fMin1, ↓fMax1, ↓fSum, ↓fAll, ↓fAny, ↓fSorted, ↓fSortS, ↓fAbs, ↓fInt, ↓fRepr, ↓fCnt, ↓fIdx, ↓fJoin, ↓mSS, ↓mSB, ↓mTI, ↓mTB, ↓mTI3, ↓fInL, ↓fNinL, ↓fInT, ↓fNinT, ↓fInA, ↓fNinA, ↓fInB, ↓fNinB, isStr,
 atI_0, atI_1, atI_2, atI_3, endsG, fld_TooMany, fld_Unfit, mem0, toEnt, Mem.set, Mem.view, Mem.kill, Mem.frz, Mem.ro, Ent.ro', Opd.get,
 List.set_cons_zero, List.set_cons_succ, List.getElem?_cons_zero, List.getElem?_cons_succ, List.map_cons, List.map_nil, List.length_cons, List.length_nil, List.cons_append, List.nil_append, List.replicate_succ, List.replicate_zero, Option.map_some, Option.map_none, List.cons.injEq, and_true, true_and, Arg.x.injEq, exists_eq_left, exists_eq_right, Option.some.injEq, Ent.ow.injEq, Ent.im.injEq, PyData.int.injEq, PyData.list.injEq, PyData.dict.injEq, PyData.tuple.injEq, PyData.str.injEq, exists_eq', exists_eq, decide_eq_true_eq, Bool.not_eq_true', ite_true, ite_false, decide_true, decide_false, decide_eq_false_iff_not, not_true_eq_false, not_false_eq_true, reduceCtorEq, eq_self]
    exact q
/-! the numbers of a -/
theorem cts_sm {l : List Nat} (h : l.length ≤ 1000) : Sm 1 (4 * 23 + 3) (.tuple ((cts l).map .int)) := Sm.tup (k := 21) (fun x hx => by
  have c1 := List.count_le_length (a := 97) (l := l)
  have c2 := List.count_le_length (a := 98) (l := l)
  have c3 := List.count_le_length (a := 99) (l := l)
  have c4 := List.count_le_length (a := 100) (l := l)
  obtain ⟨y, hy, rfl⟩ := List.mem_map.mp hx
  unfold cts at hy
  simp only [List.mem_cons, List.not_mem_nil, or_false] at hy
  refine Sm.int (m := 20) (by decide) (by decide) ?_
  rcases hy with rfl | rfl | rfl | rfl <;> omega) (by simp [cts])
/-! are_pieces_like, _law_like -/
def PLike (l : List Nat) (o p s : Nat) : Prop := ∀ k, 1 ≤ k → k < o → cts (seg l (p + k * s) s) = cts (seg l p s)
def gLike : GSpec := fun args wl Q => ∃ (l : List Nat) (p s o : Nat), args = [.x (sD l), .x (.int (p : Nat)), .x (.int (s : Nat)), .x (.int (o : Nat))] ∧ l.length ≤ 100 ∧ 1 ≤ o ∧ o ≤ 20 ∧ Vl l o p s ∧ ∀ b : Bool, (b = true ↔ PLike l o p s) → Q (.bool b) wl
def g_are_pieces_like : GSpec := gLike
def g__law_like : GSpec := gLike
def g__law_counts : GSpec := g_counts_of
theorem like_i {l : List Nat} {p s o : Nat} {wl : Option Wel} {Q : PyData → Option Wel → Prop} {lk : Lock Q} (h1 : l.length ≤ 100) (h2 : 1 ≤ o) (h3 : o ≤ 20) (h4 : Vl l o p s) (q : ∀ b : Bool, (b = true ↔ PLike l o p s) → Q (.bool b) wl) :
    callG g_are_pieces_like [.x (sD l), .x (.int (p : Nat)), .x (.int (s : Nat)), .x (.int (o : Nat))] wl Q lk := ⟨l, p, s, o, rfl, h1, h2, h3, h4, q⟩
theorem llike_i {l : List Nat} {p s o : Nat} {wl : Option Wel} {Q : PyData → Option Wel → Prop} {lk : Lock Q} (h1 : l.length ≤ 100) (h2 : 1 ≤ o) (h3 : o ≤ 20) (h4 : Vl l o p s) (q : ∀ b : Bool, (b = true ↔ PLike l o p s) → Q (.bool b) wl) :
    callG g__law_like [.x (sD l), .x (.int (p : Nat)), .x (.int (s : Nat)), .x (.int (o : Nat))] wl Q lk := ⟨l, p, s, o, rfl, h1, h2, h3, h4, q⟩
theorem lcounts_i {l : List Nat} {wl : Option Wel} {Q : PyData → Option Wel → Prop} {lk : Lock Q} (q : Q (.tuple ((cts l).map .int)) wl) : callG g__law_counts [.x (sD l)] wl Q lk := ⟨l, rfl, q⟩
def u__law_counts : WS :=
  (uRet (wCB fTuple (osC (oE (wComp [1] (iX (wC (.str "abcd"))) (gSet 1) ttY (wBM isStr fCnt (oV 0) (osC (oV 1) osN)))) osN)))
theorem pf__law_counts (args : List Arg) (wl : Option Wel) (Q : PyData → Option Wel → Prop) (h : g__law_counts args wl Q) : u__law_counts noX (endsG Q) (mem0 2 args wl) := pf_counts_of args wl Q h
def u_are_pieces_like : WS :=
  (uSeq (uIf (tOrD (wTst (wOp fLt (oV 1) (oE (wC (.int 0))))) (wTst (wOp fGt (oE (wOp fAdd (oV 1) (oE (wOp fMul (oV 3) (oV 2))))) (oE (wCB fLen (osC (oV 0) osN))))))
  (uRet (wC (.bool false)))
  uNext)
  (uSeq (uAsg (wCall g_counts_of (aC (wSl (oV 0) (wPart (oV 1)) (wPart (oE (wOp fAdd (oV 1) (oV 2))))) aN)) (gSet 4))
  (uRet (wCB fAll (osC (oE (wComp [5] (iR2 (osC (oE (wC (.int 1))) (osC (oV 3) osN))) (gSet 5) ttY (wOp fEq (oE (wCall g_counts_of (aC (wSl (oV 0) (wPart (oE (wOp fAdd (oV 1) (oE (wOp fMul (oV 5) (oV 2)))))) (wPart (oE (wOp fAdd (oE (wOp fAdd (oV 1) (oE (wOp fMul (oV 5) (oV 2))))) (oV 2))))) aN))) (oV 4)))) osN)))))
theorem pf_are_pieces_like (args : List Arg) (wl : Option Wel) (Q : PyData → Option Wel → Prop) (h : g_are_pieces_like args wl Q) : u_are_pieces_like noX (endsG Q) (mem0 6 args wl) := by
  obtain ⟨l, p, s, o, rfl, hl, h1, h2, ⟨v1, v2, v3⟩, q⟩ := h
  have e3 : ((o : Int) * (s : Nat)) = ((o * s : Nat) : Int) := by push_cast; rfl
  have hs : s ≤ o * s := Nat.le_mul_of_pos_left s h1
  simp -dsimp only [u_are_pieces_like, ↓uSeq, ↓uNext, ↓uKill, ↓uFrz, ↓uDrop, ↓uRet, ↓uIf, ↓uAsg, ↓uAsgO, ↓uPar2, ↓uPar3, ↓uAug, ↓uPut, ↓uDPut, ↓uFor_eq, ↓uWhile_eq, ↓uSeqM_eq, ↓uBrk, ↓uCnt, ↓uWelD, ↓gSet, ↓gN, ↓gC, ↓gT, ↓zE, ↓zF, ↓oE, ↓oV, ↓wV, ↓wC, ↓wOp, ↓wUn, ↓app2, ↓app1, ↓wTst, ↓tAndD, ↓tOrD, ↓tNotD, ↓wAndV, ↓wOrV, ↓wNotV, ↓wIf, ↓wChain, ↓osN, ↓osC, getAll, ↓appN, ↓wCB, ↓appM, ↓wBM, ↓wBM0, ↓wN, ↓wCs, ↓wTup, ↓wLst, ↓wDic0, ↓wDicT, ↓aN, ↓aC, ↓aW, ↓wCall_eq, ↓wCallK_eq, perm, List.filterMap_cons, List.filterMap_nil, ↓wApp, ↓wExt, ↓wPop, ↓wPopAt, ↓wListA, ↓wRpl, ↓iX, ↓iL, ↓iT, ↓iS, ↓iR1, ↓iR2, ↓iR3, ↓iScr, ↓iZD, ↓iE, ↓iE2, ↓iZ2, ↓iZ3, ↓seqD, ↓zipD3, ↓wComp_eq, ↓ttY, ↓wSl, ↓wPart, ↓plN, ↓wRev, ↓wListO, ↓wRep, ↓wLenSet, ↓wLenScr, ↓wWelI, ↓wWelPop, ↓wWelApp, ↓tWelNE, ↓wDisp, ↓wDispT, ↓psC, ↓psN, ↓wDIn, ↓wDNotIn, ↓wDG1, ↓wDG2, ↓wIsi, ↓askD, ↓uTry, ↓uRng, ↓iRV, ↓uRaise, ↓uRaise0, ↓uNever, ↓wCallX_eq, ↓wCallKX_eq, ↓wXf, ↓wIsX, ↓fAdd, ↓fSub, ↓fII, ↓fII0, ↓fDiv, ↓fMod, ↓fPow, ↓fLt, ↓fGt, ↓fLe, ↓fGe, ↓fGtD, ↓fLtD, ↓fLeD, ↓fGeD, ↓fNeg, ↓fMul, ↓fEq, ↓fNe, ↓eqQ, ↓fIsN, ↓fNotN, isNone_1, isNone_2, isNone_3, isNone_4, isNone_5, isNone_6, isNone_7, ↓fInC, ↓fNotInC, ↓fSub_, ↓fIx, ↓fSl, ↓fLen, ↓fTuple, ↓fMin1, ↓fMax1, ↓fSum, ↓fAll, ↓fAny, ↓fSorted, ↓fSortS, ↓fAbs, ↓fInt, ↓fRepr, ↓fCnt, ↓fIdx, ↓fJoin, ↓mSS, ↓mSB, ↓mTI, ↓mTB, ↓mTI3, ↓fInL, ↓fNinL, ↓fInT, ↓fNinT, ↓fInA, ↓fNinA, ↓fInB, ↓fNinB, isStr,
 atI_0, atI_1, atI_2, atI_3, endsG, fld_TooMany, fld_Unfit, mem0, toEnt, Mem.set, Mem.view, Mem.kill, Mem.frz, Mem.ro, Ent.ro', Opd.get,
 List.set_cons_zero, List.set_cons_succ, List.getElem?_cons_zero, List.getElem?_cons_succ, List.map_cons, List.map_nil, List.length_cons, List.length_nil, List.cons_append, List.nil_append, List.replicate_succ, List.replicate_zero, Option.map_some, Option.map_none, List.cons.injEq, and_true, true_and, Arg.x.injEq, exists_eq_left, exists_eq_right, Option.some.injEq, Ent.ow.injEq, Ent.im.injEq, PyData.int.injEq, PyData.list.injEq, PyData.dict.injEq, PyData.tuple.injEq, PyData.str.injEq, exists_eq', exists_eq, decide_eq_true_eq, Bool.not_eq_true', ite_true, ite_false, decide_true, decide_false, decide_eq_false_iff_not, not_true_eq_false, not_false_eq_true, reduceCtorEq, eq_self, S_cps]
  refine ite_i (fun h => absurd h (by omega)) (fun _ => ⟨.inl ⟨by omega, by omega⟩, zl _ (by omega), ite_i (fun h => absurd h (by rw [e3]; omega)) (fun _ => ⟨zl _ (by omega), ?_⟩)⟩)
  rw [cut_seg (p := p) (s := s) rfl rfl]
  refine counts_i ?_
  simp -dsimp only [↓uSeq, ↓uNext, ↓uKill, ↓uFrz, ↓uDrop, ↓uRet, ↓uIf, ↓uAsg, ↓uAsgO, ↓uPar2, ↓uPar3, ↓uAug, ↓uPut, ↓uDPut, ↓uFor_eq, ↓uWhile_eq, ↓uSeqM_eq, ↓uBrk, ↓uCnt, ↓uWelD, ↓gSet, ↓gN, ↓gC, ↓gT, ↓zE, ↓zF, ↓oE, ↓oV, ↓wV, ↓wC, ↓wOp, ↓wUn, ↓app2, ↓app1, ↓wTst, ↓tAndD, ↓tOrD, ↓tNotD, ↓wAndV, ↓wOrV, ↓wNotV, ↓wIf, ↓wChain, ↓osN, ↓osC, getAll, ↓appN, ↓wCB, ↓appM, ↓wBM, ↓wBM0, ↓wN, ↓wCs, ↓wTup, ↓wLst, ↓wDic0, ↓wDicT, ↓aN, ↓aC, ↓aW, ↓wCall_eq, ↓wCallK_eq, perm, List.filterMap_cons, List.filterMap_nil, ↓wApp, ↓wExt, ↓wPop, ↓wPopAt, ↓wListA, ↓wRpl, ↓iX, ↓iL, ↓iT, ↓iS, ↓iR1, ↓iR2, ↓iR3, ↓iScr, ↓iZD, ↓iE, ↓iE2, ↓iZ2, ↓iZ3, ↓seqD, ↓zipD3, ↓wComp_eq, ↓ttY, ↓wSl, ↓wPart, ↓plN, ↓wRev, ↓wListO, ↓wRep, ↓wLenSet, ↓wLenScr, ↓wWelI, ↓wWelPop, ↓wWelApp, ↓tWelNE, ↓wDisp, ↓wDispT, ↓psC, ↓psN, ↓wDIn, ↓wDNotIn, ↓wDG1, ↓wDG2, ↓wIsi, ↓askD, ↓uTry, ↓uRng, ↓iRV, ↓uRaise, ↓uRaise0, ↓uNever, ↓wCallX_eq, ↓wCallKX_eq, ↓wXf, ↓wIsX, ↓fAdd, ↓fSub, ↓fII, ↓fII0, ↓fDiv, ↓fMod, ↓fPow, ↓fLt, ↓fGt, ↓fLe, ↓fGe, ↓fGtD, ↓fLtD, ↓fLeD, ↓fGeD, ↓fNeg, ↓fMul, ↓fEq, ↓fNe, ↓eqQ, ↓fIsN, ↓fNotN, isNone_1, isNone_2, isNone_3, isNone_4, isNone_5, isNone_6, isNone_7, ↓fInC, ↓fNotInC, ↓fSub_, ↓fIx, ↓fSl, ↓fLen, ↓fTuple, ↓fMin1, ↓fMax1, ↓fSum, ↓fAll, ↓fAny, ↓fSorted, ↓fSortS, ↓fAbs, ↓fInt, ↓fRepr, ↓fCnt, ↓fIdx, ↓fJoin, ↓mSS, ↓mSB, ↓mTI, ↓mTB, ↓mTI3, ↓fInL, ↓fNinL, ↓fInT, ↓fNinT, ↓fInA, ↓fNinA, ↓fInB, ↓fNinB, isStr,
 atI_0, atI_1, atI_2, atI_3, endsG, fld_TooMany, fld_Unfit, mem0, toEnt, Mem.set, Mem.view, Mem.kill, Mem.frz, Mem.ro, Ent.ro', Opd.get,
 List.set_cons_zero, List.set_cons_succ, List.getElem?_cons_zero, List.getElem?_cons_succ, List.map_cons, List.map_nil, List.length_cons, List.length_nil, List.cons_append, List.nil_append, List.replicate_succ, List.replicate_zero, Option.map_some, Option.map_none, List.cons.injEq, and_true, true_and, Arg.x.injEq, exists_eq_left, exists_eq_right, Option.some.injEq, Ent.ow.injEq, Ent.im.injEq, PyData.int.injEq, PyData.list.injEq, PyData.dict.injEq, PyData.tuple.injEq, PyData.str.injEq, exists_eq', exists_eq, decide_eq_true_eq, Bool.not_eq_true', ite_true, ite_false, decide_true, decide_false, decide_eq_false_iff_not, not_true_eq_false, not_false_eq_true, reduceCtorEq, eq_self]
  have e4 : ((o : Int) - 1).toNat = o - 1 := by omega
  rw [e4, rng_len]
  refine ⟨⟨by decide, by decide, by omega, by omega⟩, zl _ (by omega), comp_map (fun d => match d with
    | .int k => .bool (decide (cts (seg l (p + k.toNat * s) s) = cts (seg l p s)))
    | _ => .none) (fun d hd P hP => ?_) ?_⟩
  · obtain ⟨k, hk⟩ := List.getElem?_of_mem hd
    obtain ⟨hk, rfl⟩ := rng_atL hk
    have ek : ((1 : Int) + (k : Nat)) * (s : Nat) = (((1 + k) * s : Nat) : Int) := by push_cast; rfl
    have ek2 : (1 + (k : Int)).toNat = 1 + k := by omega
    simp -dsimp only [↓uSeq, ↓uNext, ↓uKill, ↓uFrz, ↓uDrop, ↓uRet, ↓uIf, ↓uAsg, ↓uAsgO, ↓uPar2, ↓uPar3, ↓uAug, ↓uPut, ↓uDPut, ↓uFor_eq, ↓uWhile_eq, ↓uSeqM_eq, ↓uBrk, ↓uCnt, ↓uWelD, ↓gSet, ↓gN, ↓gC, ↓gT, ↓zE, ↓zF, ↓oE, ↓oV, ↓wV, ↓wC, ↓wOp, ↓wUn, ↓app2, ↓app1, ↓wTst, ↓tAndD, ↓tOrD, ↓tNotD, ↓wAndV, ↓wOrV, ↓wNotV, ↓wIf, ↓wChain, ↓osN, ↓osC, getAll, ↓appN, ↓wCB, ↓appM, ↓wBM, ↓wBM0, ↓wN, ↓wCs, ↓wTup, ↓wLst, ↓wDic0, ↓wDicT, ↓aN, ↓aC, ↓aW, ↓wCall_eq, ↓wCallK_eq, perm, List.filterMap_cons, List.filterMap_nil, ↓wApp, ↓wExt, ↓wPop, ↓wPopAt, ↓wListA, ↓wRpl, ↓iX, ↓iL, ↓iT, ↓iS, ↓iR1, ↓iR2, ↓iR3, ↓iScr, ↓iZD, ↓iE, ↓iE2, ↓iZ2, ↓iZ3, ↓seqD, ↓zipD3, ↓wComp_eq, ↓ttY, ↓wSl, ↓wPart, ↓plN, ↓wRev, ↓wListO, ↓wRep, ↓wLenSet, ↓wLenScr, ↓wWelI, ↓wWelPop, ↓wWelApp, ↓tWelNE, ↓wDisp, ↓wDispT, ↓psC, ↓psN, ↓wDIn, ↓wDNotIn, ↓wDG1, ↓wDG2, ↓wIsi, ↓askD, ↓uTry, ↓uRng, ↓iRV, ↓uRaise, ↓uRaise0, ↓uNever, ↓wCallX_eq, ↓wCallKX_eq, ↓wXf, ↓wIsX, ↓fAdd, ↓fSub, ↓fII, ↓fII0, ↓fDiv, ↓fMod, ↓fPow, ↓fLt, ↓fGt, ↓fLe, ↓fGe, ↓fGtD, ↓fLtD, ↓fLeD, ↓fGeD, ↓fNeg, ↓fMul, ↓fEq, ↓fNe, ↓eqQ, ↓fIsN, ↓fNotN, isNone_1, isNone_2, isNone_3, isNone_4, isNone_5, isNone_6, isNone_7, ↓fInC, ↓fNotInC, ↓fSub_, ↓fIx, ↓fSl, ↓fLen, ↓fTuple, ↓fMin1, ↓fMax1, ↓fSum, ↓fAll, ↓fAny, ↓fSorted, ↓fSortS, ↓fAbs, ↓fInt, ↓fRepr, ↓fCnt, ↓fIdx, ↓fJoin, ↓mSS, ↓mSB, ↓mTI, ↓mTB, ↓mTI3, ↓fInL, ↓fNinL, ↓fInT, ↓fNinT, ↓fInA, ↓fNinA, ↓fInB, ↓fNinB, isStr,
 atI_0, atI_1, atI_2, atI_3, endsG, fld_TooMany, fld_Unfit, mem0, toEnt, Mem.set, Mem.view, Mem.kill, Mem.frz, Mem.ro, Ent.ro', Opd.get,
 List.set_cons_zero, List.set_cons_succ, List.getElem?_cons_zero, List.getElem?_cons_succ, List.map_cons, List.map_nil, List.length_cons, List.length_nil, List.cons_append, List.nil_append, List.replicate_succ, List.replicate_zero, Option.map_some, Option.map_none, List.cons.injEq, and_true, true_and, Arg.x.injEq, exists_eq_left, exists_eq_right, Option.some.injEq, Ent.ow.injEq, Ent.im.injEq, PyData.int.injEq, PyData.list.injEq, PyData.dict.injEq, PyData.tuple.injEq, PyData.str.injEq, exists_eq', exists_eq, decide_eq_true_eq, Bool.not_eq_true', ite_true, ite_false, decide_true, decide_false, decide_eq_false_iff_not, not_true_eq_false, not_false_eq_true, reduceCtorEq, eq_self, S_cps]
    refine ⟨.inl ⟨by omega, by omega⟩, .inl ⟨by omega, by omega⟩, zl _ (by omega), ?_⟩
    rw [cut_seg (p := p + (1 + k) * s) (s := s) (by rw [ek]; push_cast; rfl) (by rw [ek]; push_cast; rfl)]
    refine counts_i ?_
    simp -dsimp only [↓uSeq, ↓uNext, ↓uKill, ↓uFrz, ↓uDrop, ↓uRet, ↓uIf, ↓uAsg, ↓uAsgO, ↓uPar2, ↓uPar3, ↓uAug, ↓uPut, ↓uDPut, ↓uFor_eq, ↓uWhile_eq, ↓uSeqM_eq, ↓uBrk, ↓uCnt, ↓uWelD, ↓gSet, ↓gN, ↓gC, ↓gT, ↓zE, ↓zF, ↓oE, ↓oV, ↓wV, ↓wC, ↓wOp, ↓wUn, ↓app2, ↓app1, ↓wTst, ↓tAndD, ↓tOrD, ↓tNotD, ↓wAndV, ↓wOrV, ↓wNotV, ↓wIf, ↓wChain, ↓osN, ↓osC, getAll, ↓appN, ↓wCB, ↓appM, ↓wBM, ↓wBM0, ↓wN, ↓wCs, ↓wTup, ↓wLst, ↓wDic0, ↓wDicT, ↓aN, ↓aC, ↓aW, ↓wCall_eq, ↓wCallK_eq, perm, List.filterMap_cons, List.filterMap_nil, ↓wApp, ↓wExt, ↓wPop, ↓wPopAt, ↓wListA, ↓wRpl, ↓iX, ↓iL, ↓iT, ↓iS, ↓iR1, ↓iR2, ↓iR3, ↓iScr, ↓iZD, ↓iE, ↓iE2, ↓iZ2, ↓iZ3, ↓seqD, ↓zipD3, ↓wComp_eq, ↓ttY, ↓wSl, ↓wPart, ↓plN, ↓wRev, ↓wListO, ↓wRep, ↓wLenSet, ↓wLenScr, ↓wWelI, ↓wWelPop, ↓wWelApp, ↓tWelNE, ↓wDisp, ↓wDispT, ↓psC, ↓psN, ↓wDIn, ↓wDNotIn, ↓wDG1, ↓wDG2, ↓wIsi, ↓askD, ↓uTry, ↓uRng, ↓iRV, ↓uRaise, ↓uRaise0, ↓uNever, ↓wCallX_eq, ↓wCallKX_eq, ↓wXf, ↓wIsX, ↓fAdd, ↓fSub, ↓fII, ↓fII0, ↓fDiv, ↓fMod, ↓fPow, ↓fLt, ↓fGt, ↓fLe, ↓fGe, ↓fGtD, ↓fLtD, ↓fLeD, ↓fGeD, ↓fNeg, ↓fMul, ↓fEq, ↓fNe, ↓eqQ, ↓fIsN, ↓fNotN, isNone_1, isNone_2, isNone_3, isNone_4, isNone_5, isNone_6, isNone_7, ↓fInC, ↓fNotInC, ↓fSub_, ↓fIx, ↓fSl, ↓fLen, ↓fTuple, ↓fMin1, ↓fMax1, ↓fSum, ↓fAll, ↓fAny, ↓fSorted, ↓fSortS, ↓fAbs, ↓fInt, ↓fRepr, ↓fCnt, ↓fIdx, ↓fJoin, ↓mSS, ↓mSB, ↓mTI, ↓mTB, ↓mTI3, ↓fInL, ↓fNinL, ↓fInT, ↓fNinT, ↓fInA, ↓fNinA, ↓fInB, ↓fNinB, isStr,
 atI_0, atI_1, atI_2, atI_3, endsG, fld_TooMany, fld_Unfit, mem0, toEnt, Mem.set, Mem.view, Mem.kill, Mem.frz, Mem.ro, Ent.ro', Opd.get,
 List.set_cons_zero, List.set_cons_succ, List.getElem?_cons_zero, List.getElem?_cons_succ, List.map_cons, List.map_nil, List.length_cons, List.length_nil, List.cons_append, List.nil_append, List.replicate_succ, List.replicate_zero, Option.map_some, Option.map_none, List.cons.injEq, and_true, true_and, Arg.x.injEq, exists_eq_left, exists_eq_right, Option.some.injEq, Ent.ow.injEq, Ent.im.injEq, PyData.int.injEq, PyData.list.injEq, PyData.dict.injEq, PyData.tuple.injEq, PyData.str.injEq, exists_eq', exists_eq, decide_eq_true_eq, Bool.not_eq_true', ite_true, ite_false, decide_true, decide_false, decide_eq_false_iff_not, not_true_eq_false, not_false_eq_true, reduceCtorEq, eq_self, eqv_tup]
    refine ⟨(cts_sm (Nat.le_trans (seg_len2 _ _ _) (by omega))).eq (cts_sm (Nat.le_trans (seg_len2 _ _ _) (by omega))) (by omega) (by omega), ?_⟩
    simp only [ek2] at hP
    exact hP
  · have e5 : boolsOf ((rng 1 (o - 1)).map (fun d => match d with
      | .int k => PyData.bool (decide (cts (seg l (p + k.toNat * s) s) = cts (seg l p s)))
      | _ => PyData.none)) = some ((List.range (o - 1)).map fun k => decide (cts (seg l (p + (1 + k) * s) s) = cts (seg l p s))) := by
      rw [← boolsOf_f]
      unfold rng
      rw [List.map_map]
      refine congrArg boolsOf (List.map_congr_left fun k _ => ?_)
      have ek2 : (1 + (k : Int)).toNat = 1 + k := by omega
      show PyData.bool (decide (cts (seg l (p + (1 + (k : Int)).toNat * s) s) = cts (seg l p s))) = _
      rw [ek2]
    simp -dsimp only [↓uSeq, ↓uNext, ↓uKill, ↓uFrz, ↓uDrop, ↓uRet, ↓uIf, ↓uAsg, ↓uAsgO, ↓uPar2, ↓uPar3, ↓uAug, ↓uPut, ↓uDPut, ↓uFor_eq, ↓uWhile_eq, ↓uSeqM_eq, ↓uBrk, ↓uCnt, ↓uWelD, ↓gSet, ↓gN, ↓gC, ↓gT, ↓zE, ↓zF, ↓oE, ↓oV, ↓wV, ↓wC, ↓wOp, ↓wUn, ↓app2, ↓app1, ↓wTst, ↓tAndD, ↓tOrD, ↓tNotD, ↓wAndV, ↓wOrV, ↓wNotV, ↓wIf, ↓wChain, ↓osN, ↓osC, getAll, ↓appN, ↓wCB, ↓appM, ↓wBM, ↓wBM0, ↓wN, ↓wCs, ↓wTup, ↓wLst, ↓wDic0, ↓wDicT, ↓aN, ↓aC, ↓aW, ↓wCall_eq, ↓wCallK_eq, perm, List.filterMap_cons, List.filterMap_nil, ↓wApp, ↓wExt, ↓wPop, ↓wPopAt, ↓wListA, ↓wRpl, ↓iX, ↓iL, ↓iT, ↓iS, ↓iR1, ↓iR2, ↓iR3, ↓iScr, ↓iZD, ↓iE, ↓iE2, ↓iZ2, ↓iZ3, ↓seqD, ↓zipD3, ↓wComp_eq, ↓ttY, ↓wSl, ↓wPart, ↓plN, ↓wRev, ↓wListO, ↓wRep, ↓wLenSet, ↓wLenScr, ↓wWelI, ↓wWelPop, ↓wWelApp, ↓tWelNE, ↓wDisp, ↓wDispT, ↓psC, ↓psN, ↓wDIn, ↓wDNotIn, ↓wDG1, ↓wDG2, ↓wIsi, ↓askD, ↓uTry, ↓uRng, ↓iRV, ↓uRaise, ↓uRaise0, ↓uNever, ↓wCallX_eq, ↓wCallKX_eq, ↓wXf, ↓wIsX, ↓fAdd, ↓fSub, ↓fII, ↓fII0, ↓fDiv, ↓fMod, ↓fPow, ↓fLt, ↓fGt, ↓fLe, ↓fGe, ↓fGtD, ↓fLtD, ↓fLeD, ↓fGeD, ↓fNeg, ↓fMul, ↓fEq, ↓fNe, ↓eqQ, ↓fIsN, ↓fNotN, isNone_1, isNone_2, isNone_3, isNone_4, isNone_5, isNone_6, isNone_7, ↓fInC, ↓fNotInC, ↓fSub_, ↓fIx, ↓fSl, ↓fLen, ↓fTuple, ↓fMin1, ↓fMax1, ↓fSum, ↓fAll, ↓fAny, ↓fSorted, ↓fSortS, ↓fAbs, ↓fInt, ↓fRepr, ↓fCnt, ↓fIdx, ↓fJoin, ↓mSS, ↓mSB, ↓mTI, ↓mTB, ↓mTI3, ↓fInL, ↓fNinL, ↓fInT, ↓fNinT, ↓fInA, ↓fNinA, ↓fInB, ↓fNinB, isStr,
 atI_0, atI_1, atI_2, atI_3, endsG, fld_TooMany, fld_Unfit, mem0, toEnt, Mem.set, Mem.view, Mem.kill, Mem.frz, Mem.ro, Ent.ro', Opd.get,
 List.set_cons_zero, List.set_cons_succ, List.getElem?_cons_zero, List.getElem?_cons_succ, List.map_cons, List.map_nil, List.length_cons, List.length_nil, List.cons_append, List.nil_append, List.replicate_succ, List.replicate_zero, Option.map_some, Option.map_none, List.cons.injEq, and_true, true_and, Arg.x.injEq, exists_eq_left, exists_eq_right, Option.some.injEq, Ent.ow.injEq, Ent.im.injEq, PyData.int.injEq, PyData.list.injEq, PyData.dict.injEq, PyData.tuple.injEq, PyData.str.injEq, exists_eq', exists_eq, decide_eq_true_eq, Bool.not_eq_true', ite_true, ite_false, decide_true, decide_false, decide_eq_false_iff_not, not_true_eq_false, not_false_eq_true, reduceCtorEq, eq_self, e5]
    refine q _ ?_
    rw [List.all_eq_true]
    constructor
    · intro h k hk1 hk2
      have := h _ (List.mem_map.mpr ⟨k - 1, List.mem_range.mpr (by omega), rfl⟩)
      have e6 : 1 + (k - 1) = k := by omega
      rw [e6] at this
      exact of_decide_eq_true this
    · intro h b hb
      obtain ⟨k, hk, rfl⟩ := List.mem_map.mp hb
      have := List.mem_range.mp hk
      exact decide_eq_true (h (1 + k) (by omega) (by omega))
def u__law_like : WS :=
  (uSeq (uAsg (wCall g__law_counts (aC (wSl (oV 0) (wPart (oV 1)) (wPart (oE (wOp fAdd (oV 1) (oV 2))))) aN)) (gSet 4))
  (uSeq (uFor [5] (iR2 (osC (oE (wC (.int 1))) (osC (oV 3) osN))) (gSet 5)
  (uIf (wTst (wOp fNe (oE (wCall g__law_counts (aC (wSl (oV 0) (wPart (oE (wOp fAdd (oV 1) (oE (wOp fMul (oV 5) (oV 2)))))) (wPart (oE (wOp fAdd (oE (wOp fAdd (oV 1) (oE (wOp fMul (oV 5) (oV 2))))) (oV 2))))) aN))) (oV 4)))
  (uRet (wC (.bool false)))
  uNext))
  (uRet (wC (.bool true)))))
theorem pf__law_like (args : List Arg) (wl : Option Wel) (Q : PyData → Option Wel → Prop) (h : g__law_like args wl Q) : u__law_like noX (endsG Q) (mem0 6 args wl) := by
  obtain ⟨l, p, s, o, rfl, hl, h1, h2, ⟨v1, v2, v3⟩, q⟩ := h
  have hs : s ≤ o * s := Nat.le_mul_of_pos_left s h1
  simp -dsimp only [u__law_like, ↓uSeq, ↓uNext, ↓uKill, ↓uFrz, ↓uDrop, ↓uRet, ↓uIf, ↓uAsg, ↓uAsgO, ↓uPar2, ↓uPar3, ↓uAug, ↓uPut, ↓uDPut, ↓uFor_eq, ↓uWhile_eq, ↓uSeqM_eq, ↓uBrk, ↓uCnt, ↓uWelD, ↓gSet, ↓gN, ↓gC, ↓gT, ↓zE, ↓zF, ↓oE, ↓oV, ↓wV, ↓wC, ↓wOp, ↓wUn, ↓app2, ↓app1, ↓wTst, ↓tAndD, ↓tOrD, ↓tNotD, ↓wAndV, ↓wOrV, ↓wNotV, ↓wIf, ↓wChain, ↓osN, ↓osC, getAll, ↓appN, ↓wCB, ↓appM, ↓wBM, ↓wBM0, ↓wN, ↓wCs, ↓wTup, ↓wLst, ↓wDic0, ↓wDicT, ↓aN, ↓aC, ↓aW, ↓wCall_eq, ↓wCallK_eq, perm, List.filterMap_cons, List.filterMap_nil, ↓wApp, ↓wExt, ↓wPop, ↓wPopAt, ↓wListA, ↓wRpl, ↓iX, ↓iL, ↓iT, ↓iS, ↓iR1, ↓iR2, ↓iR3, ↓iScr, ↓iZD, ↓iE, ↓iE2, ↓iZ2, ↓iZ3, ↓seqD, ↓zipD3, ↓wComp_eq, ↓ttY, ↓wSl, ↓wPart, ↓plN, ↓wRev, ↓wListO, ↓wRep, ↓wLenSet, ↓wLenScr, ↓wWelI, ↓wWelPop, ↓wWelApp, ↓tWelNE, ↓wDisp, ↓wDispT, ↓psC, ↓psN, ↓wDIn, ↓wDNotIn, ↓wDG1, ↓wDG2, ↓wIsi, ↓askD, ↓uTry, ↓uRng, ↓iRV, ↓uRaise, ↓uRaise0, ↓uNever, ↓wCallX_eq, ↓wCallKX_eq, ↓wXf, ↓wIsX, ↓fAdd, ↓fSub, ↓fII, ↓fII0, ↓fDiv, ↓fMod, ↓fPow, ↓fLt, ↓fGt, ↓fLe, ↓fGe, ↓fGtD, ↓fLtD, ↓fLeD, ↓fGeD, ↓fNeg, ↓fMul, ↓fEq, ↓fNe, ↓eqQ, ↓fIsN, ↓fNotN, isNone_1, isNone_2, isNone_3, isNone_4, isNone_5, isNone_6, isNone_7, ↓fInC, ↓fNotInC, ↓fSub_, ↓fIx, ↓fSl, ↓fLen, ↓fTuple, ↓fMin1, ↓fMax1, ↓fSum, ↓fAll, ↓fAny, ↓fSorted, ↓fSortS, ↓fAbs, ↓fInt, ↓fRepr, ↓fCnt, ↓fIdx, ↓fJoin, ↓mSS, ↓mSB, ↓mTI, ↓mTB, ↓mTI3, ↓fInL, ↓fNinL, ↓fInT, ↓fNinT, ↓fInA, ↓fNinA, ↓fInB, ↓fNinB, isStr,
 atI_0, atI_1, atI_2, atI_3, endsG, fld_TooMany, fld_Unfit, mem0, toEnt, Mem.set, Mem.view, Mem.kill, Mem.frz, Mem.ro, Ent.ro', Opd.get,
 List.set_cons_zero, List.set_cons_succ, List.getElem?_cons_zero, List.getElem?_cons_succ, List.map_cons, List.map_nil, List.length_cons, List.length_nil, List.cons_append, List.nil_append, List.replicate_succ, List.replicate_zero, Option.map_some, Option.map_none, List.cons.injEq, and_true, true_and, Arg.x.injEq, exists_eq_left, exists_eq_right, Option.some.injEq, Ent.ow.injEq, Ent.im.injEq, PyData.int.injEq, PyData.list.injEq, PyData.dict.injEq, PyData.tuple.injEq, PyData.str.injEq, exists_eq', exists_eq, decide_eq_true_eq, Bool.not_eq_true', ite_true, ite_false, decide_true, decide_false, decide_eq_false_iff_not, not_true_eq_false, not_false_eq_true, reduceCtorEq, eq_self, S_cps]
  refine ⟨zl _ (by omega), ?_⟩
  rw [cut_seg (p := p) (s := s) rfl rfl]
  refine lcounts_i ?_
  simp -dsimp only [↓uSeq, ↓uNext, ↓uKill, ↓uFrz, ↓uDrop, ↓uRet, ↓uIf, ↓uAsg, ↓uAsgO, ↓uPar2, ↓uPar3, ↓uAug, ↓uPut, ↓uDPut, ↓uFor_eq, ↓uWhile_eq, ↓uSeqM_eq, ↓uBrk, ↓uCnt, ↓uWelD, ↓gSet, ↓gN, ↓gC, ↓gT, ↓zE, ↓zF, ↓oE, ↓oV, ↓wV, ↓wC, ↓wOp, ↓wUn, ↓app2, ↓app1, ↓wTst, ↓tAndD, ↓tOrD, ↓tNotD, ↓wAndV, ↓wOrV, ↓wNotV, ↓wIf, ↓wChain, ↓osN, ↓osC, getAll, ↓appN, ↓wCB, ↓appM, ↓wBM, ↓wBM0, ↓wN, ↓wCs, ↓wTup, ↓wLst, ↓wDic0, ↓wDicT, ↓aN, ↓aC, ↓aW, ↓wCall_eq, ↓wCallK_eq, perm, List.filterMap_cons, List.filterMap_nil, ↓wApp, ↓wExt, ↓wPop, ↓wPopAt, ↓wListA, ↓wRpl, ↓iX, ↓iL, ↓iT, ↓iS, ↓iR1, ↓iR2, ↓iR3, ↓iScr, ↓iZD, ↓iE, ↓iE2, ↓iZ2, ↓iZ3, ↓seqD, ↓zipD3, ↓wComp_eq, ↓ttY, ↓wSl, ↓wPart, ↓plN, ↓wRev, ↓wListO, ↓wRep, ↓wLenSet, ↓wLenScr, ↓wWelI, ↓wWelPop, ↓wWelApp, ↓tWelNE, ↓wDisp, ↓wDispT, ↓psC, ↓psN, ↓wDIn, ↓wDNotIn, ↓wDG1, ↓wDG2, ↓wIsi, ↓askD, ↓uTry, ↓uRng, ↓iRV, ↓uRaise, ↓uRaise0, ↓uNever, ↓wCallX_eq, ↓wCallKX_eq, ↓wXf, ↓wIsX, ↓fAdd, ↓fSub, ↓fII, ↓fII0, ↓fDiv, ↓fMod, ↓fPow, ↓fLt, ↓fGt, ↓fLe, ↓fGe, ↓fGtD, ↓fLtD, ↓fLeD, ↓fGeD, ↓fNeg, ↓fMul, ↓fEq, ↓fNe, ↓eqQ, ↓fIsN, ↓fNotN, isNone_1, isNone_2, isNone_3, isNone_4, isNone_5, isNone_6, isNone_7, ↓fInC, ↓fNotInC, ↓fSub_, ↓fIx, ↓fSl, ↓fLen, ↓fTuple, ↓fMin1, ↓fMax1, ↓fSum, ↓fAll, ↓fAny, ↓fSorted, ↓fSortS, ↓fAbs, ↓fInt, ↓fRepr, ↓fCnt, ↓fIdx, ↓fJoin, ↓mSS, ↓mSB, ↓mTI, ↓mTB, ↓mTI3, ↓fInL, ↓fNinL, ↓fInT, ↓fNinT, ↓fInA, ↓fNinA, ↓fInB, ↓fNinB, isStr,
 atI_0, atI_1, atI_2, atI_3, endsG, fld_TooMany, fld_Unfit, mem0, toEnt, Mem.set, Mem.view, Mem.kill, Mem.frz, Mem.ro, Ent.ro', Opd.get,
 List.set_cons_zero, List.set_cons_succ, List.getElem?_cons_zero, List.getElem?_cons_succ, List.map_cons, List.map_nil, List.length_cons, List.length_nil, List.cons_append, List.nil_append, List.replicate_succ, List.replicate_zero, Option.map_some, Option.map_none, List.cons.injEq, and_true, true_and, Arg.x.injEq, exists_eq_left, exists_eq_right, Option.some.injEq, Ent.ow.injEq, Ent.im.injEq, PyData.int.injEq, PyData.list.injEq, PyData.dict.injEq, PyData.tuple.injEq, PyData.str.injEq, exists_eq', exists_eq, decide_eq_true_eq, Bool.not_eq_true', ite_true, ite_false, decide_true, decide_false, decide_eq_false_iff_not, not_true_eq_false, not_false_eq_true, reduceCtorEq, eq_self]
  have e4 : ((o : Int) - 1).toNat = o - 1 := by omega
  rw [e4]
  refine ⟨⟨by decide, by decide, by omega, by omega⟩, ?_⟩
  refine for_i (fun i M => (∃ e5 : Option Ent, M = ⟨[some (.im (sD l)), some (.im (.int (p : Nat))), some (.im (.int (s : Nat))), some (.im (.int (o : Nat))), some (.im (.tuple ((cts (seg l p s)).map .int))), e5], wl⟩) ∧ ∀ k, 1 ≤ k → k < 1 + i → cts (seg l (p + k * s) s) = cts (seg l p s)) ⟨⟨none, rfl⟩, fun k a b => absurd b (by omega)⟩ ?_ ?_
  · rintro k d M' hd ⟨⟨e5, rfl⟩, hk0⟩
    obtain ⟨hk, rfl⟩ := rng_atL hd
    have ek : ((1 : Int) + (k : Nat)) * (s : Nat) = (((1 + k) * s : Nat) : Int) := by push_cast; rfl
    simp -dsimp only [↓uSeq, ↓uNext, ↓uKill, ↓uFrz, ↓uDrop, ↓uRet, ↓uIf, ↓uAsg, ↓uAsgO, ↓uPar2, ↓uPar3, ↓uAug, ↓uPut, ↓uDPut, ↓uFor_eq, ↓uWhile_eq, ↓uSeqM_eq, ↓uBrk, ↓uCnt, ↓uWelD, ↓gSet, ↓gN, ↓gC, ↓gT, ↓zE, ↓zF, ↓oE, ↓oV, ↓wV, ↓wC, ↓wOp, ↓wUn, ↓app2, ↓app1, ↓wTst, ↓tAndD, ↓tOrD, ↓tNotD, ↓wAndV, ↓wOrV, ↓wNotV, ↓wIf, ↓wChain, ↓osN, ↓osC, getAll, ↓appN, ↓wCB, ↓appM, ↓wBM, ↓wBM0, ↓wN, ↓wCs, ↓wTup, ↓wLst, ↓wDic0, ↓wDicT, ↓aN, ↓aC, ↓aW, ↓wCall_eq, ↓wCallK_eq, perm, List.filterMap_cons, List.filterMap_nil, ↓wApp, ↓wExt, ↓wPop, ↓wPopAt, ↓wListA, ↓wRpl, ↓iX, ↓iL, ↓iT, ↓iS, ↓iR1, ↓iR2, ↓iR3, ↓iScr, ↓iZD, ↓iE, ↓iE2, ↓iZ2, ↓iZ3, ↓seqD, ↓zipD3, ↓wComp_eq, ↓ttY, ↓wSl, ↓wPart, ↓plN, ↓wRev, ↓wListO, ↓wRep, ↓wLenSet, ↓wLenScr, ↓wWelI, ↓wWelPop, ↓wWelApp, ↓tWelNE, ↓wDisp, ↓wDispT, ↓psC, ↓psN, ↓wDIn, ↓wDNotIn, ↓wDG1, ↓wDG2, ↓wIsi, ↓askD, ↓uTry, ↓uRng, ↓iRV, ↓uRaise, ↓uRaise0, ↓uNever, ↓wCallX_eq, ↓wCallKX_eq, ↓wXf, ↓wIsX, ↓fAdd, ↓fSub, ↓fII, ↓fII0, ↓fDiv, ↓fMod, ↓fPow, ↓fLt, ↓fGt, ↓fLe, ↓fGe, ↓fGtD, ↓fLtD, ↓fLeD, ↓fGeD, ↓fNeg, ↓fMul, ↓fEq, ↓fNe, ↓eqQ, ↓fIsN, ↓fNotN, isNone_1, isNone_2, isNone_3, isNone_4, isNone_5, isNone_6, isNone_7, ↓fInC, ↓fNotInC, ↓fSub_, ↓fIx, ↓fSl, ↓fLen, ↓fTuple, ↓fMin1, ↓fMax1, ↓fSum, ↓fAll, ↓fAny, ↓fSorted, ↓fSortS, ↓fAbs, ↓fInt, ↓fRepr, ↓fCnt, ↓fIdx, ↓fJoin, ↓mSS, ↓mSB, ↓mTI, ↓mTB, ↓mTI3, ↓fInL, ↓fNinL, ↓fInT, ↓fNinT, ↓fInA, ↓fNinA, ↓fInB, ↓fNinB, isStr,
 atI_0, atI_1, atI_2, atI_3, endsG, fld_TooMany, fld_Unfit, mem0, toEnt, Mem.set, Mem.view, Mem.kill, Mem.frz, Mem.ro, Ent.ro', Opd.get,
 List.set_cons_zero, List.set_cons_succ, List.getElem?_cons_zero, List.getElem?_cons_succ, List.map_cons, List.map_nil, List.length_cons, List.length_nil, List.cons_append, List.nil_append, List.replicate_succ, List.replicate_zero, Option.map_some, Option.map_none, List.cons.injEq, and_true, true_and, Arg.x.injEq, exists_eq_left, exists_eq_right, Option.some.injEq, Ent.ow.injEq, Ent.im.injEq, PyData.int.injEq, PyData.list.injEq, PyData.dict.injEq, PyData.tuple.injEq, PyData.str.injEq, exists_eq', exists_eq, decide_eq_true_eq, Bool.not_eq_true', ite_true, ite_false, decide_true, decide_false, decide_eq_false_iff_not, not_true_eq_false, not_false_eq_true, reduceCtorEq, eq_self, S_cps]
    refine ⟨.inl ⟨by omega, by omega⟩, .inl ⟨by omega, by omega⟩, zl _ (by omega), ?_⟩
    rw [cut_seg (p := p + (1 + k) * s) (s := s) (by rw [ek]; push_cast; rfl) (by rw [ek]; push_cast; rfl)]
    refine lcounts_i ?_
    simp -dsimp only [↓uSeq, ↓uNext, ↓uKill, ↓uFrz, ↓uDrop, ↓uRet, ↓uIf, ↓uAsg, ↓uAsgO, ↓uPar2, ↓uPar3, ↓uAug, ↓uPut, ↓uDPut, ↓uFor_eq, ↓uWhile_eq, ↓uSeqM_eq, ↓uBrk, ↓uCnt, ↓uWelD, ↓gSet, ↓gN, ↓gC, ↓gT, ↓zE, ↓zF, ↓oE, ↓oV, ↓wV, ↓wC, ↓wOp, ↓wUn, ↓app2, ↓app1, ↓wTst, ↓tAndD, ↓tOrD, ↓tNotD, ↓wAndV, ↓wOrV, ↓wNotV, ↓wIf, ↓wChain, ↓osN, ↓osC, getAll, ↓appN, ↓wCB, ↓appM, ↓wBM, ↓wBM0, ↓wN, ↓wCs, ↓wTup, ↓wLst, ↓wDic0, ↓wDicT, ↓aN, ↓aC, ↓aW, ↓wCall_eq, ↓wCallK_eq, perm, List.filterMap_cons, List.filterMap_nil, ↓wApp, ↓wExt, ↓wPop, ↓wPopAt, ↓wListA, ↓wRpl, ↓iX, ↓iL, ↓iT, ↓iS, ↓iR1, ↓iR2, ↓iR3, ↓iScr, ↓iZD, ↓iE, ↓iE2, ↓iZ2, ↓iZ3, ↓seqD, ↓zipD3, ↓wComp_eq, ↓ttY, ↓wSl, ↓wPart, ↓plN, ↓wRev, ↓wListO, ↓wRep, ↓wLenSet, ↓wLenScr, ↓wWelI, ↓wWelPop, ↓wWelApp, ↓tWelNE, ↓wDisp, ↓wDispT, ↓psC, ↓psN, ↓wDIn, ↓wDNotIn, ↓wDG1, ↓wDG2, ↓wIsi, ↓askD, ↓uTry, ↓uRng, ↓iRV, ↓uRaise, ↓uRaise0, ↓uNever, ↓wCallX_eq, ↓wCallKX_eq, ↓wXf, ↓wIsX, ↓fAdd, ↓fSub, ↓fII, ↓fII0, ↓fDiv, ↓fMod, ↓fPow, ↓fLt, ↓fGt, ↓fLe, ↓fGe, ↓fGtD, ↓fLtD, ↓fLeD, ↓fGeD, ↓fNeg, ↓fMul, ↓fEq, ↓fNe, ↓eqQ, ↓fIsN, ↓fNotN, isNone_1, isNone_2, isNone_3, isNone_4, isNone_5, isNone_6, isNone_7, ↓fInC, ↓fNotInC, ↓fSub_, ↓fIx, ↓fSl, ↓fLen, ↓fTuple, ↓fMin1, ↓fMax1, ↓fSum, ↓fAll, ↓fAny, ↓fSorted, ↓fSortS, ↓fAbs, ↓fInt, ↓fRepr, ↓fCnt, ↓fIdx, ↓fJoin, ↓mSS, ↓mSB, ↓mTI, ↓mTB, ↓mTI3, ↓fInL, ↓fNinL, ↓fInT, ↓fNinT, ↓fInA, ↓fNinA, ↓fInB, ↓fNinB, isStr,
 atI_0, atI_1, atI_2, atI_3, endsG, fld_TooMany, fld_Unfit, mem0, toEnt, Mem.set, Mem.view, Mem.kill, Mem.frz, Mem.ro, Ent.ro', Opd.get,
 List.set_cons_zero, List.set_cons_succ, List.getElem?_cons_zero, List.getElem?_cons_succ, List.map_cons, List.map_nil, List.length_cons, List.length_nil, List.cons_append, List.nil_append, List.replicate_succ, List.replicate_zero, Option.map_some, Option.map_none, List.cons.injEq, and_true, true_and, Arg.x.injEq, exists_eq_left, exists_eq_right, Option.some.injEq, Ent.ow.injEq, Ent.im.injEq, PyData.int.injEq, PyData.list.injEq, PyData.dict.injEq, PyData.tuple.injEq, PyData.str.injEq, exists_eq', exists_eq, decide_eq_true_eq, Bool.not_eq_true', ite_true, ite_false, decide_true, decide_false, decide_eq_false_iff_not, not_true_eq_false, not_false_eq_true, reduceCtorEq, eq_self, eqv_tup]
    refine ⟨(cts_sm (Nat.le_trans (seg_len2 _ _ _) (by omega))).eq (cts_sm (Nat.le_trans (seg_len2 _ _ _) (by omega))) (by omega) (by omega), ite_i (fun hc => ?_) (fun hc => ?_)⟩
    · exact q false ⟨fun z => (nomatch z), fun z => absurd (z (1 + k) (by omega) (by omega)) hc⟩
    · refine ⟨⟨_, rfl⟩, fun k' a b => ?_⟩
      by_cases e : k' = 1 + k
      · subst e
        exact Decidable.byContradiction hc
      · exact hk0 k' a (by omega)
  · rintro M' ⟨⟨e5, rfl⟩, hk0⟩
    rw [rng_len] at hk0
    simp -dsimp only [↓uSeq, ↓uNext, ↓uKill, ↓uFrz, ↓uDrop, ↓uRet, ↓uIf, ↓uAsg, ↓uAsgO, ↓uPar2, ↓uPar3, ↓uAug, ↓uPut, ↓uDPut, ↓uFor_eq, ↓uWhile_eq, ↓uSeqM_eq, ↓uBrk, ↓uCnt, ↓uWelD, ↓gSet, ↓gN, ↓gC, ↓gT, ↓zE, ↓zF, ↓oE, ↓oV, ↓wV, ↓wC, ↓wOp, ↓wUn, ↓app2, ↓app1, ↓wTst, ↓tAndD, ↓tOrD, ↓tNotD, ↓wAndV, ↓wOrV, ↓wNotV, ↓wIf, ↓wChain, ↓osN, ↓osC, getAll, ↓appN, ↓wCB, ↓appM, ↓wBM, ↓wBM0, ↓wN, ↓wCs, ↓wTup, ↓wLst, ↓wDic0, ↓wDicT, ↓aN, ↓aC, ↓aW, ↓wCall_eq, ↓wCallK_eq, perm, List.filterMap_cons, List.filterMap_nil, ↓wApp, ↓wExt, ↓wPop, ↓wPopAt, ↓wListA, ↓wRpl, ↓iX, ↓iL, ↓iT, ↓iS, ↓iR1, ↓iR2, ↓iR3, ↓iScr, ↓iZD, ↓iE, ↓iE2, ↓iZ2, ↓iZ3, ↓seqD, ↓zipD3, ↓wComp_eq, ↓ttY, ↓wSl, ↓wPart, ↓plN, ↓wRev, ↓wListO, ↓wRep, ↓wLenSet, ↓wLenScr, ↓wWelI, ↓wWelPop, ↓wWelApp, ↓tWelNE, ↓wDisp, ↓wDispT, ↓psC, ↓psN, ↓wDIn, ↓wDNotIn, ↓wDG1, ↓wDG2, ↓wIsi, ↓askD, ↓uTry, ↓uRng, ↓iRV, ↓uRaise, ↓uRaise0, ↓uNever, ↓wCallX_eq, ↓wCallKX_eq, ↓wXf, ↓wIsX, ↓fAdd, ↓fSub, ↓fII, ↓fII0, ↓fDiv, ↓fMod, ↓fPow, ↓fLt, ↓fGt, ↓fLe, ↓fGe, ↓fGtD, ↓fLtD, ↓fLeD, ↓fGeD, ↓fNeg, ↓fMul, ↓fEq, ↓fNe, ↓eqQ, ↓fIsN, ↓fNotN, isNone_1, isNone_2, isNone_3, isNone_4, isNone_5, isNone_6, isNone_7, ↓fInC, ↓fNotInC, ↓fSub_, ↓fIx, ↓fSl, ↓fLen, ↓fTuple, ↓fMin1, ↓fMax1, ↓fSum, ↓fAll, ↓fAny, ↓fSorted, ↓fSortS, ↓fAbs, ↓fInt, ↓fRepr, ↓fCnt, ↓fIdx, ↓fJoin, ↓mSS, ↓mSB, ↓mTI, ↓mTB, ↓mTI3, ↓fInL, ↓fNinL, ↓fInT, ↓fNinT, ↓fInA, ↓fNinA, ↓fInB, ↓fNinB, isStr,
 atI_0, atI_1, atI_2, atI_3, endsG, fld_TooMany, fld_Unfit, mem0, toEnt, Mem.set, Mem.view, Mem.kill, Mem.frz, Mem.ro, Ent.ro', Opd.get,
 List.set_cons_zero, List.set_cons_succ, List.getElem?_cons_zero, List.getElem?_cons_succ, List.map_cons, List.map_nil, List.length_cons, List.length_nil, List.cons_append, List.nil_append, List.replicate_succ, List.replicate_zero, Option.map_some, Option.map_none, List.cons.injEq, and_true, true_and, Arg.x.injEq, exists_eq_left, exists_eq_right, Option.some.injEq, Ent.ow.injEq, Ent.im.injEq, PyData.int.injEq, PyData.list.injEq, PyData.dict.injEq, PyData.tuple.injEq, PyData.str.injEq, exists_eq', exists_eq, decide_eq_true_eq, Bool.not_eq_true', ite_true, ite_false, decide_true, decide_false, decide_eq_false_iff_not, not_true_eq_false, not_false_eq_true, reduceCtorEq, eq_self]
    exact q true ⟨fun _ k a b => hk0 k a (by omega), fun _ => rfl⟩
end DL

/-! M15: k83, the plain law -/
namespace DL
open PySem PySem.Spec L2 PyProof.Rows
/-! the ends -/
def PLb (l : List Nat) (o p s : Nat) : Bool := (List.range (o - 1)).all fun k => decide (cts (seg l (p + (1 + k) * s) s) = cts (seg l p s))
theorem PLb_iff (l : List Nat) (o p s : Nat) : PLb l o p s = true ↔ PLike l o p s := by
  unfold PLb PLike
  simp only [List.all_eq_true, List.mem_range, decide_eq_true_eq]
  refine ⟨fun h k h1 h2 => ?_, fun h k hk => h (1 + k) (by omega) (by omega)⟩
  have := h (k - 1) (by omega)
  rwa [show 1 + (k - 1) = k from by omega] at this
def endF (o : Nat) (l : List Nat) : Bool := (List.range (l.length / o)).all fun j => !PLb l o (l.length - o * (1 + j)) (1 + j)
def LET : List Nat := [97, 98, 99, 100]
def kids (k o : Nat) (w : List Nat) : List (List Nat) := ((LET.take k).filter fun c => endF o (w ++ [c])).map fun c => w ++ [c]
def growP (k o : Nat) (ws : List (List Nat)) : List (List Nat) := ws.flatMap (kids k o)
def addL (k : Nat) (ws : List (List Nat)) : List (List Nat) := ws.flatMap fun w => (LET.take k).map fun c => w ++ [c]
theorem grow_eq (k o : Nat) : ∀ ws : List (List Nat), (addL k ws).filter (endF o) = growP k o ws
  | [] => rfl
  | w :: ws => by
    have e1 : addL k (w :: ws) = ((LET.take k).map fun c => w ++ [c]) ++ addL k ws := rfl
    have e2 : growP k o (w :: ws) = kids k o w ++ growP k o ws := rfl
    rw [e1, e2, List.filter_append, grow_eq k o ws, List.filter_map]
    rfl
theorem kids_len (k o : Nat) (w : List Nat) : (kids k o w).length ≤ 4 := by
  unfold kids
  rw [List.length_map]
  refine Nat.le_trans (List.length_filter_le _ _) ?_
  rw [List.length_take]
  exact Nat.min_le_right _ _
theorem kids_mem {k o : Nat} {w x : List Nat} (h : x ∈ kids k o w) : ∃ c, c ∈ LET ∧ x = w ++ [c] ∧ endF o (w ++ [c]) = true := by
  unfold kids at h
  obtain ⟨c, hc, rfl⟩ := List.mem_map.mp h
  obtain ⟨h1, h2⟩ := List.mem_filter.mp hc
  exact ⟨c, List.mem_of_mem_take h1, rfl, h2⟩
theorem growP_len (k o : Nat) : ∀ ws : List (List Nat), (growP k o ws).length ≤ 4 * ws.length
  | [] => Nat.le_refl _
  | w :: ws => by
    have ih := growP_len k o ws
    have a := kids_len k o w
    have e2 : growP k o (w :: ws) = kids k o w ++ growP k o ws := rfl
    rw [e2, List.length_append, List.length_cons]
    omega
theorem addL_len (k : Nat) : ∀ ws : List (List Nat), (addL k ws).length ≤ 4 * ws.length
  | [] => Nat.le_refl _
  | w :: ws => by
    have ih := addL_len k ws
    have e2 : addL k (w :: ws) = ((LET.take k).map fun c => w ++ [c]) ++ addL k ws := rfl
    have a : ((LET.take k).map fun c => w ++ [c]).length ≤ 4 := by
      rw [List.length_map, List.length_take]
      exact Nat.min_le_right _ _
    rw [e2, List.length_append, List.length_cons]
    omega
def frees (k o : Nat) : Nat → List (List Nat)
  | 0 => [[]]
  | n + 1 => growP k o (frees k o n)
def LetA (l : List Nat) : Prop := ∀ c ∈ l, c ∈ LET
theorem LetA.lt {l : List Nat} (h : LetA l) : ∀ c ∈ l, c < 1000 := fun c hc => by
  have := h c hc
  simp only [LET, List.mem_cons, List.not_mem_nil, or_false] at this
  omega
theorem LetA.snoc {l : List Nat} {c : Nat} (h : LetA l) (hc : c ∈ LET) : LetA (l ++ [c]) := fun x hx => by
  rcases List.mem_append.mp hx with hx | hx
  · exact h x hx
  · have : x = c := by simpa using hx
    rw [this]; exact hc
theorem frees_ok (k o : Nat) : ∀ n, ∀ w ∈ frees k o n, LetA w ∧ w.length = n
  | 0 => fun w hw => by
    have : w = [] := by simpa [frees] using hw
    subst this
    exact ⟨fun c hc => (by cases hc), rfl⟩
  | n + 1 => fun w hw => by
    obtain ⟨v, hv, hw⟩ := List.mem_flatMap.mp hw
    obtain ⟨h1, h2⟩ := frees_ok k o n v hv
    obtain ⟨c, hc, rfl, _⟩ := kids_mem hw
    exact ⟨h1.snoc hc, by simp [h2]⟩
theorem frees_nil {k o n : Nat} (h : frees k o n = []) : ∀ m, frees k o (n + m) = []
  | 0 => h
  | m + 1 => by
    show growP k o (frees k o (n + m)) = []
    rw [frees_nil h m]
    rfl
/-! the search -/
inductive DR (k o n : Nat) : List (List Nat) → PyData → Prop
  | nil : DR k o n [] .none
  | hit {t : List (List Nat)} {w : List Nat} : w.length = n → DR k o n (t ++ [w]) (sD w)
  | go {t : List (List Nat)} {w : List Nat} {r : PyData} : w.length ≠ n → DR k o n (t ++ (kids k o w).reverse) r → DR k o n (t ++ [w]) r
theorem snoc_inj {α : Type} {t t' : List α} {w w' : α} (h : t ++ [w] = t' ++ [w']) : t = t' ∧ w = w' := by
  have := List.append_inj' h rfl
  exact ⟨this.1, by simpa using this.2⟩
theorem DR.one {k o n : Nat} {t : List (List Nat)} {r : PyData} (h : DR k o n t r) : ∀ {r'}, DR k o n t r' → r = r' := by
  induction h with
  | nil =>
    intro r' h'
    generalize e : ([] : List (List Nat)) = t at h'
    cases h' with
    | nil => rfl
    | hit _ => simp at e
    | go _ _ => simp at e
  | @hit t w hw =>
    intro r' h'
    generalize e : t ++ [w] = t' at h'
    cases h' with
    | nil => simp at e
    | hit _ => obtain ⟨_, rfl⟩ := snoc_inj e; rfl
    | go hn _ => obtain ⟨_, rfl⟩ := snoc_inj e; exact absurd hw hn
  | @go t w r hn hd ih =>
    intro r' h'
    generalize e : t ++ [w] = t' at h'
    cases h' with
    | nil => simp at e
    | hit hw => obtain ⟨_, rfl⟩ := snoc_inj e; exact absurd hw hn
    | go hn' hd' => obtain ⟨rfl, rfl⟩ := snoc_inj e; exact ih hd'
theorem DR.res {k o n : Nat} {t : List (List Nat)} {r : PyData} (h : DR k o n t r) : (∀ w ∈ t, w ∈ frees k o w.length) → r = .none ∨ ∃ w, r = sD w ∧ w ∈ frees k o n := by
  induction h with
  | nil => exact fun _ => .inl rfl
  | @hit t w hw => exact fun hh => .inr ⟨w, rfl, by have := hh w (by simp); rwa [hw] at this⟩
  | @go t w r hn hd ih =>
    intro hh
    refine ih fun x hx => ?_
    rcases List.mem_append.mp hx with hx | hx
    · exact hh x (by simp [hx])
    · have hx := List.mem_reverse.mp hx
      obtain ⟨c, _, rfl, _⟩ := kids_mem hx
      have e : (w ++ [c]).length = w.length + 1 := by simp
      rw [e]
      exact List.mem_flatMap.mpr ⟨w, hh w (by simp), hx⟩
def Stk (n : Nat) (t : List (List Nat)) : Prop := ∀ i w, t[i]? = some w → i ≤ 3 * w.length ∧ w.length ≤ n ∧ LetA w
theorem Stk.len {n : Nat} {t : List (List Nat)} (h : Stk n t) : t.length ≤ 3 * n + 1 := by
  cases e : t.length with
  | zero => omega
  | succ m =>
    obtain ⟨w, hw⟩ : ∃ w, t[m]? = some w := ⟨t[m]'(by omega), List.getElem?_eq_getElem (by omega)⟩
    have := h m w hw
    omega
theorem Stk.start (n : Nat) : Stk n [[]] := fun i w h => by
  cases i with
  | zero => cases h; exact ⟨Nat.le_refl _, Nat.zero_le _, fun c hc => (by cases hc)⟩
  | succ i => simp at h
theorem Stk.go {k o n : Nat} {t : List (List Nat)} {w : List Nat} (h : Stk n (t ++ [w])) (hn : w.length ≠ n) : Stk n (t ++ (kids k o w).reverse) := fun i x hx => by
  have hw := h t.length w (by simp)
  by_cases c : i < t.length
  · rw [List.getElem?_append_left c] at hx
    exact h i x (by rw [List.getElem?_append_left c]; exact hx)
  · rw [List.getElem?_append_right (by omega)] at hx
    have hm := List.mem_reverse.mp (List.mem_of_getElem? hx)
    have hl := (List.getElem?_eq_some_iff.mp hx).1
    rw [List.length_reverse] at hl
    have := kids_len k o w
    obtain ⟨c, hc, rfl, _⟩ := kids_mem hm
    have e : (w ++ [c]).length = w.length + 1 := by simp
    refine ⟨by omega, by omega, hw.2.2.snoc hc⟩
def ms (n : Nat) (t : List (List Nat)) : Nat := (t.map fun w => 5 ^ (n + 1 - w.length)).sum
theorem ms_go {k o n : Nat} {t : List (List Nat)} {w : List Nat} (h : Stk n (t ++ [w])) (hn : w.length ≠ n) : ms n (t ++ (kids k o w).reverse) < ms n (t ++ [w]) := by
  have hw := h t.length w (by simp)
  unfold ms
  rw [List.map_append, List.map_append, List.sum_append, List.sum_append]
  have e : ((kids k o w).reverse.map fun w => 5 ^ (n + 1 - w.length)) = List.replicate (kids k o w).length (5 ^ (n - w.length)) := by
    rw [List.eq_replicate_iff]
    refine ⟨by simp, fun b hb => ?_⟩
    obtain ⟨x, hx, rfl⟩ := List.mem_map.mp hb
    obtain ⟨c, _, rfl, _⟩ := kids_mem (List.mem_reverse.mp hx)
    have e : (w ++ [c]).length = w.length + 1 := by simp
    rw [e]
    congr 1
    omega
  rw [e, List.sum_replicate_nat]
  have a := kids_len k o w
  have p : 5 ^ (n + 1 - w.length) = 5 * 5 ^ (n - w.length) := by
    rw [show n + 1 - w.length = n - w.length + 1 from by omega, Nat.pow_succ, Nat.mul_comm]
  have q : 0 < 5 ^ (n - w.length) := Nat.pow_pos (by decide)
  have := Nat.mul_le_mul_right (5 ^ (n - w.length)) a
  simp only [List.map_cons, List.map_nil, List.sum_cons, List.sum_nil]
  rw [p]
  omega
/-! how long they come -/
def lng (k o : Nat) : Option Nat := if k = 1 then some (o - 1) else if k = 2 ∧ o = 2 then some 3 else if k = 2 ∧ o = 3 then some 9 else if k = 3 ∧ o = 2 then some 7 else none
def lngOk (k o L : Nat) : Bool := (frees k o (L + 1)).isEmpty && (List.range (L + 1)).all fun i => decide ((frees k o i).length ≤ 4000)
theorem lng_all : ((List.range 9).all fun o => decide (o < 2) || lngOk 1 o (o - 1)) = true ∧ lngOk 2 2 3 = true ∧ lngOk 2 3 9 = true ∧ lngOk 3 2 7 = true := by decide +kernel
theorem lng_use {k o L : Nat} (h : lng k o = some L) (h2 : 2 ≤ o) (h8 : o ≤ 8) : lngOk k o L = true := by
  unfold lng at h
  obtain ⟨a1, a2, a3, a4⟩ := lng_all
  split at h
  · rename_i c
    subst c
    cases h
    have := List.all_eq_true.mp a1 o (List.mem_range.mpr (by omega))
    simpa [show ¬ o < 2 from by omega] using this
  · split at h
    · rename_i c; obtain ⟨rfl, rfl⟩ := c; cases h; exact a2
    · split at h
      · rename_i c; obtain ⟨rfl, rfl⟩ := c; cases h; exact a3
      · split at h
        · rename_i c; obtain ⟨rfl, rfl⟩ := c; cases h; exact a4
        · cases h
theorem lng_far {k o L : Nat} (h : lngOk k o L = true) {n : Nat} (hn : L + 1 ≤ n) : frees k o n = [] ∧ ∀ i, (frees k o i).length ≤ 4000 := by
  unfold lngOk at h
  rw [Bool.and_eq_true] at h
  have e : frees k o (L + 1) = [] := by simpa using h.1
  have z : ∀ m, L + 1 ≤ m → frees k o m = [] := fun m hm => by
    have := frees_nil e (m - (L + 1))
    rwa [show L + 1 + (m - (L + 1)) = m from by omega] at this
  refine ⟨z n hn, fun i => ?_⟩
  by_cases c : L + 1 ≤ i
  · rw [z i c]; exact Nat.zero_le _
  · exact of_decide_eq_true (List.all_eq_true.mp h.2 i (List.mem_range.mpr (by omega)))
end DL

/-! M16: k83, the defs -/
namespace DL
open PySem PySem.Spec L2 PyProof.Rows
theorem zl2 (n : Nat) (h : n ≤ 16777216) : n ≤ sizeLine := by rw [sizeLine_eq]; exact h
theorem divI (n o : Nat) : (n : Int) / (o : Int) = ((n / o : Nat) : Int) := by simp
theorem PL_eq {l : List Nat} {o p s : Nat} {b : Bool} (h : b = true ↔ PLike l o p s) : b = PLb l o p s := by
  have := h.trans (PLb_iff l o p s).symm
  cases b <;> cases c : PLb l o p s <;> simp_all
theorem vl_end {l : List Nat} {o j : Nat} (ho : 2 ≤ o) (hj : j < l.length / o) : Vl l o (l.length - o * (1 + j)) (1 + j) ∧ o * (1 + j) ≤ l.length := by
  have h1 : (1 + j) * o ≤ l.length := (Nat.le_div_iff_mul_le (by omega)).mp (by omega)
  have h2 : o * (1 + j) ≤ l.length := by rw [Nat.mul_comm]; exact h1
  have h3 : 0 < o * (1 + j) := Nat.mul_pos (by omega) (by omega)
  exact ⟨⟨by omega, by omega, by omega⟩, h2⟩
def gEnd : GSpec := fun args wl Q => ∃ (l : List Nat) (o : Nat), args = [.x (sD l), .x (.int (o : Nat))] ∧ l.length ≤ 60 ∧ 2 ≤ o ∧ o ≤ 20 ∧ Q (.bool (endF o l)) wl
def g_ends_count_free : GSpec := gEnd
def g__law_ends_free : GSpec := gEnd
theorem ends_i {l : List Nat} {o : Nat} {wl : Option Wel} {Q : PyData → Option Wel → Prop} {lk : Lock Q} (h1 : l.length ≤ 60) (h2 : 2 ≤ o) (h3 : o ≤ 20) (q : Q (.bool (endF o l)) wl) : callG g_ends_count_free [.x (sD l), .x (.int (o : Nat))] wl Q lk := ⟨l, o, rfl, h1, h2, h3, q⟩
theorem lends_i {l : List Nat} {o : Nat} {wl : Option Wel} {Q : PyData → Option Wel → Prop} {lk : Lock Q} (h1 : l.length ≤ 60) (h2 : 2 ≤ o) (h3 : o ≤ 20) (q : Q (.bool (endF o l)) wl) : callG g__law_ends_free [.x (sD l), .x (.int (o : Nat))] wl Q lk := ⟨l, o, rfl, h1, h2, h3, q⟩
theorem div_small {n o : Nat} (hn : n ≤ 60) (ho : 2 ≤ o) : n / o ≤ 60 := Nat.le_trans (Nat.div_le_self _ _) hn
theorem sub_mul_i {n o j : Nat} (h : o * (1 + j) ≤ n) : (n : Int) - (o : Int) * (1 + (j : Int)) = ((n - o * (1 + j) : Nat) : Int) := by
  rw [Int.natCast_sub h]
  push_cast
  rfl
theorem mem_rngL {d : PyData} {lo : Int} {n : Nat} (h : d ∈ rng lo n) : ∃ j : Nat, j < n ∧ d = .int (lo + (j : Nat)) := by
  unfold rng at h
  obtain ⟨j, hj, rfl⟩ := List.mem_map.mp h
  exact ⟨j, List.mem_range.mp hj, rfl⟩
theorem rngL_map {β : Type} {lo : Int} (f : PyData → β) (g : Nat → β) (n : Nat) (h : ∀ p, p < n → f (.int (lo + (p : Nat))) = g p) : (rng lo n).map f = (List.range n).map g := by
  unfold rng
  rw [List.map_map]
  exact List.map_congr_left fun p hp => h p (List.mem_range.mp hp)
theorem any_not (f : Nat → Bool) (n : Nat) : (!((List.range n).map f).any id) = (List.range n).all fun j => !f j := by
  generalize List.range n = r
  induction r with
  | nil => rfl
  | cons a r ih =>
    rw [List.map_cons, List.any_cons, List.all_cons, ← ih]
    cases f a <;> simp
theorem mul_sm {a b : Int} (h1 : 0 ≤ a ∧ a ≤ 1000) (h2 : 0 ≤ b ∧ b ≤ 1000) : CMul a b := .inl ⟨by omega, by omega⟩
def u_ends_count_free : WS :=
  (uSeq (uRng 2 (osC (oE (wC (.int 1))) (osC (oE (wOp fAdd (oE (wOp fDiv (oE (wCB fLen (osC (oV 0) osN))) (oV 1))) (oE (wC (.int 1))))) osN)))
  (uRet (wNotV (wCB fAny (osC (oE (wComp [3] (iRV 2) (gSet 3) ttY (wCall g_are_pieces_like (aC (wV 0) (aC (wOp fSub (oE (wCB fLen (osC (oV 0) osN))) (oE (wOp fMul (oV 1) (oV 3)))) (aC (wV 3) (aC (wV 1) aN))))))) osN)))))
theorem pf_ends_count_free (args : List Arg) (wl : Option Wel) (Q : PyData → Option Wel → Prop) (h : g_ends_count_free args wl Q) : u_ends_count_free noX (endsG Q) (mem0 4 args wl) := by
  obtain ⟨l, o, rfl, hl, ho, ho2, q⟩ := h
  simp -dsimp only [u_ends_count_free, ↓uSeq, ↓uNext, ↓uKill, ↓uFrz, ↓uDrop, ↓uRet, ↓uIf, ↓uAsg, ↓uAsgO, ↓uPar2, ↓uPar3, ↓uAug, ↓uPut, ↓uDPut, ↓uFor_eq, ↓uWhile_eq, ↓uSeqM_eq, ↓uBrk, ↓uCnt, ↓uWelD, ↓gSet, ↓gN, ↓gC, ↓gT, ↓zE, ↓zF, ↓oE, ↓oV, ↓wV, ↓wC, ↓wOp, ↓wUn, ↓app2, ↓app1, ↓wTst, ↓tAndD, ↓tOrD, ↓tNotD, ↓wAndV, ↓wOrV, ↓wNotV, ↓wIf, ↓wChain, ↓osN, ↓osC, getAll, ↓appN, ↓wCB, ↓appM, ↓wBM, ↓wBM0, ↓wN, ↓wCs, ↓wTup, ↓wLst, ↓wDic0, ↓wDicT, ↓aN, ↓aC, ↓aW, ↓wCall_eq, ↓wCallK_eq, perm, List.filterMap_cons, List.filterMap_nil, ↓wApp, ↓wExt, ↓wPop, ↓wPopAt, ↓wListA, ↓wRpl, ↓iX, ↓iL, ↓iT, ↓iS, ↓iR1, ↓iR2, ↓iR3, ↓iScr, ↓iZD, ↓iE, ↓iE2, ↓iZ2, ↓iZ3, ↓seqD, ↓zipD3, ↓wComp_eq, ↓ttY, ↓wSl, ↓wPart, ↓plN, ↓wRev, ↓wListO, ↓wRep, ↓wLenSet, ↓wLenScr, ↓wWelI, ↓wWelPop, ↓wWelApp, ↓tWelNE, ↓wDisp, ↓wDispT, ↓psC, ↓psN, ↓wDIn, ↓wDNotIn, ↓wDG1, ↓wDG2, ↓wIsi, ↓askD, ↓uTry, ↓uRng, ↓iRV, ↓uRaise, ↓uRaise0, ↓uNever, ↓wCallX_eq, ↓wCallKX_eq, ↓wXf, ↓wIsX, ↓fAdd, ↓fSub, ↓fII, ↓fII0, ↓fDiv, ↓fMod, ↓fPow, ↓fLt, ↓fGt, ↓fLe, ↓fGe, ↓fGtD, ↓fLtD, ↓fLeD, ↓fGeD, ↓fNeg, ↓fMul, ↓fEq, ↓fNe, ↓eqQ, ↓fIsN, ↓fNotN, isNone_1, isNone_2, isNone_3, isNone_4, isNone_5, isNone_6, isNone_7, ↓fInC, ↓fNotInC, ↓fSub_, ↓fIx, ↓fSl, ↓fLen, ↓fTuple, ↓fMin1, ↓fMax1, ↓fSum, ↓fAll, ↓fAny, ↓fSorted, ↓fSortS, ↓fAbs, ↓fInt, ↓fRepr, ↓fCnt, ↓fIdx, ↓fJoin, ↓mSS, ↓mSB, ↓mTI, ↓mTB, ↓mTI3, ↓fInL, ↓fNinL, ↓fInT, ↓fNinT, ↓fInA, ↓fNinA, ↓fInB, ↓fNinB, isStr,
 atI_0, atI_1, atI_2, atI_3, endsG, fld_TooMany, fld_Unfit, mem0, toEnt, Mem.set, Mem.view, Mem.kill, Mem.frz, Mem.ro, Ent.ro', Opd.get,
 List.set_cons_zero, List.set_cons_succ, List.getElem?_cons_zero, List.getElem?_cons_succ, List.map_cons, List.map_nil, List.length_cons, List.length_nil, List.cons_append, List.nil_append, List.replicate_succ, List.replicate_zero, Option.map_some, Option.map_none, List.cons.injEq, and_true, true_and, Arg.x.injEq, exists_eq_left, exists_eq_right, Option.some.injEq, Ent.ow.injEq, Ent.im.injEq, PyData.int.injEq, PyData.list.injEq, PyData.dict.injEq, PyData.tuple.injEq, PyData.str.injEq, exists_eq', exists_eq, decide_eq_true_eq, Bool.not_eq_true', ite_true, ite_false, decide_true, decide_false, decide_eq_false_iff_not, not_true_eq_false, not_false_eq_true, reduceCtorEq, eq_self, S_cps]
  have hd := div_small hl ho
  have hv := @vl_end l o
  have hF : endF o l = (List.range (l.length / o)).all fun j => !PLb l o (l.length - o * (1 + j)) (1 + j) := rfl
  rw [divI]
  generalize l.length / o = D at hd hv hF ⊢
  have e1 : ((D : Int) + 1 - 1).toNat = D := by omega
  rw [e1, rng_len]
  refine ⟨zl _ (by omega), divW (by omega) (by omega), ⟨by decide, by decide, by omega, by omega⟩, zl _ (by omega), comp_map (fun d => match d with
    | .int s => .bool (PLb l o (l.length - o * s.toNat) s.toNat)
    | _ => .none) (fun d hd P hP => ?_) ?_⟩
  · obtain ⟨j, hj, rfl⟩ := mem_rngL hd
    obtain ⟨v, v2⟩ := hv ho hj
    have ej : ((1 : Int) + (j : Nat)).toNat = 1 + j := by omega
    have ej2 : (1 : Int) + (j : Nat) = ((1 + j : Nat) : Int) := by push_cast; rfl
    dsimp only at hP
    rw [ej] at hP
    simp -dsimp only [↓uSeq, ↓uNext, ↓uKill, ↓uFrz, ↓uDrop, ↓uRet, ↓uIf, ↓uAsg, ↓uAsgO, ↓uPar2, ↓uPar3, ↓uAug, ↓uPut, ↓uDPut, ↓uFor_eq, ↓uWhile_eq, ↓uSeqM_eq, ↓uBrk, ↓uCnt, ↓uWelD, ↓gSet, ↓gN, ↓gC, ↓gT, ↓zE, ↓zF, ↓oE, ↓oV, ↓wV, ↓wC, ↓wOp, ↓wUn, ↓app2, ↓app1, ↓wTst, ↓tAndD, ↓tOrD, ↓tNotD, ↓wAndV, ↓wOrV, ↓wNotV, ↓wIf, ↓wChain, ↓osN, ↓osC, getAll, ↓appN, ↓wCB, ↓appM, ↓wBM, ↓wBM0, ↓wN, ↓wCs, ↓wTup, ↓wLst, ↓wDic0, ↓wDicT, ↓aN, ↓aC, ↓aW, ↓wCall_eq, ↓wCallK_eq, perm, List.filterMap_cons, List.filterMap_nil, ↓wApp, ↓wExt, ↓wPop, ↓wPopAt, ↓wListA, ↓wRpl, ↓iX, ↓iL, ↓iT, ↓iS, ↓iR1, ↓iR2, ↓iR3, ↓iScr, ↓iZD, ↓iE, ↓iE2, ↓iZ2, ↓iZ3, ↓seqD, ↓zipD3, ↓wComp_eq, ↓ttY, ↓wSl, ↓wPart, ↓plN, ↓wRev, ↓wListO, ↓wRep, ↓wLenSet, ↓wLenScr, ↓wWelI, ↓wWelPop, ↓wWelApp, ↓tWelNE, ↓wDisp, ↓wDispT, ↓psC, ↓psN, ↓wDIn, ↓wDNotIn, ↓wDG1, ↓wDG2, ↓wIsi, ↓askD, ↓uTry, ↓uRng, ↓iRV, ↓uRaise, ↓uRaise0, ↓uNever, ↓wCallX_eq, ↓wCallKX_eq, ↓wXf, ↓wIsX, ↓fAdd, ↓fSub, ↓fII, ↓fII0, ↓fDiv, ↓fMod, ↓fPow, ↓fLt, ↓fGt, ↓fLe, ↓fGe, ↓fGtD, ↓fLtD, ↓fLeD, ↓fGeD, ↓fNeg, ↓fMul, ↓fEq, ↓fNe, ↓eqQ, ↓fIsN, ↓fNotN, isNone_1, isNone_2, isNone_3, isNone_4, isNone_5, isNone_6, isNone_7, ↓fInC, ↓fNotInC, ↓fSub_, ↓fIx, ↓fSl, ↓fLen, ↓fTuple, ↓fMin1, ↓fMax1, ↓fSum, ↓fAll, ↓fAny, ↓fSorted, ↓fSortS, ↓fAbs, ↓fInt, ↓fRepr, ↓fCnt, ↓fIdx, ↓fJoin, ↓mSS, ↓mSB, ↓mTI, ↓mTB, ↓mTI3, ↓fInL, ↓fNinL, ↓fInT, ↓fNinT, ↓fInA, ↓fNinA, ↓fInB, ↓fNinB, isStr,
 atI_0, atI_1, atI_2, atI_3, endsG, fld_TooMany, fld_Unfit, mem0, toEnt, Mem.set, Mem.view, Mem.kill, Mem.frz, Mem.ro, Ent.ro', Opd.get,
 List.set_cons_zero, List.set_cons_succ, List.getElem?_cons_zero, List.getElem?_cons_succ, List.map_cons, List.map_nil, List.length_cons, List.length_nil, List.cons_append, List.nil_append, List.replicate_succ, List.replicate_zero, Option.map_some, Option.map_none, List.cons.injEq, and_true, true_and, Arg.x.injEq, exists_eq_left, exists_eq_right, Option.some.injEq, Ent.ow.injEq, Ent.im.injEq, PyData.int.injEq, PyData.list.injEq, PyData.dict.injEq, PyData.tuple.injEq, PyData.str.injEq, exists_eq', exists_eq, decide_eq_true_eq, Bool.not_eq_true', ite_true, ite_false, decide_true, decide_false, decide_eq_false_iff_not, not_true_eq_false, not_false_eq_true, reduceCtorEq, eq_self, S_cps, sub_mul_i v2]
    rw [ej2]
    refine ⟨zl _ (by omega), mul_sm (by omega) (by omega), like_i (by omega) (by omega) ho2 v fun b hb => ?_⟩
    rw [PL_eq hb]
    exact hP
  · rw [rngL_map _ (fun j => .bool (PLb l o (l.length - o * (1 + j)) (1 + j))) _ fun j _ => by
      have ej : ((1 : Int) + (j : Nat)).toNat = 1 + j := by omega
      dsimp only
      rw [ej]]
    simp -dsimp only [↓uSeq, ↓uNext, ↓uKill, ↓uFrz, ↓uDrop, ↓uRet, ↓uIf, ↓uAsg, ↓uAsgO, ↓uPar2, ↓uPar3, ↓uAug, ↓uPut, ↓uDPut, ↓uFor_eq, ↓uWhile_eq, ↓uSeqM_eq, ↓uBrk, ↓uCnt, ↓uWelD, ↓gSet, ↓gN, ↓gC, ↓gT, ↓zE, ↓zF, ↓oE, ↓oV, ↓wV, ↓wC, ↓wOp, ↓wUn, ↓app2, ↓app1, ↓wTst, ↓tAndD, ↓tOrD, ↓tNotD, ↓wAndV, ↓wOrV, ↓wNotV, ↓wIf, ↓wChain, ↓osN, ↓osC, getAll, ↓appN, ↓wCB, ↓appM, ↓wBM, ↓wBM0, ↓wN, ↓wCs, ↓wTup, ↓wLst, ↓wDic0, ↓wDicT, ↓aN, ↓aC, ↓aW, ↓wCall_eq, ↓wCallK_eq, perm, List.filterMap_cons, List.filterMap_nil, ↓wApp, ↓wExt, ↓wPop, ↓wPopAt, ↓wListA, ↓wRpl, ↓iX, ↓iL, ↓iT, ↓iS, ↓iR1, ↓iR2, ↓iR3, ↓iScr, ↓iZD, ↓iE, ↓iE2, ↓iZ2, ↓iZ3, ↓seqD, ↓zipD3, ↓wComp_eq, ↓ttY, ↓wSl, ↓wPart, ↓plN, ↓wRev, ↓wListO, ↓wRep, ↓wLenSet, ↓wLenScr, ↓wWelI, ↓wWelPop, ↓wWelApp, ↓tWelNE, ↓wDisp, ↓wDispT, ↓psC, ↓psN, ↓wDIn, ↓wDNotIn, ↓wDG1, ↓wDG2, ↓wIsi, ↓askD, ↓uTry, ↓uRng, ↓iRV, ↓uRaise, ↓uRaise0, ↓uNever, ↓wCallX_eq, ↓wCallKX_eq, ↓wXf, ↓wIsX, ↓fAdd, ↓fSub, ↓fII, ↓fII0, ↓fDiv, ↓fMod, ↓fPow, ↓fLt, ↓fGt, ↓fLe, ↓fGe, ↓fGtD, ↓fLtD, ↓fLeD, ↓fGeD, ↓fNeg, ↓fMul, ↓fEq, ↓fNe, ↓eqQ, ↓fIsN, ↓fNotN, isNone_1, isNone_2, isNone_3, isNone_4, isNone_5, isNone_6, isNone_7, ↓fInC, ↓fNotInC, ↓fSub_, ↓fIx, ↓fSl, ↓fLen, ↓fTuple, ↓fMin1, ↓fMax1, ↓fSum, ↓fAll, ↓fAny, ↓fSorted, ↓fSortS, ↓fAbs, ↓fInt, ↓fRepr, ↓fCnt, ↓fIdx, ↓fJoin, ↓mSS, ↓mSB, ↓mTI, ↓mTB, ↓mTI3, ↓fInL, ↓fNinL, ↓fInT, ↓fNinT, ↓fInA, ↓fNinA, ↓fInB, ↓fNinB, isStr,
 atI_0, atI_1, atI_2, atI_3, endsG, fld_TooMany, fld_Unfit, mem0, toEnt, Mem.set, Mem.view, Mem.kill, Mem.frz, Mem.ro, Ent.ro', Opd.get,
 List.set_cons_zero, List.set_cons_succ, List.getElem?_cons_zero, List.getElem?_cons_succ, List.map_cons, List.map_nil, List.length_cons, List.length_nil, List.cons_append, List.nil_append, List.replicate_succ, List.replicate_zero, Option.map_some, Option.map_none, List.cons.injEq, and_true, true_and, Arg.x.injEq, exists_eq_left, exists_eq_right, Option.some.injEq, Ent.ow.injEq, Ent.im.injEq, PyData.int.injEq, PyData.list.injEq, PyData.dict.injEq, PyData.tuple.injEq, PyData.str.injEq, exists_eq', exists_eq, decide_eq_true_eq, Bool.not_eq_true', ite_true, ite_false, decide_true, decide_false, decide_eq_false_iff_not, not_true_eq_false, not_false_eq_true, reduceCtorEq, eq_self, boolsOf_f]
    rw [any_not, ← hF]
    exact q
def u__law_ends_free : WS :=
  (uSeq (uFor [2] (iR2 (osC (oE (wC (.int 1))) (osC (oE (wOp fAdd (oE (wOp fDiv (oE (wCB fLen (osC (oV 0) osN))) (oV 1))) (oE (wC (.int 1))))) osN))) (gSet 2)
  (uIf (wTst (wCall g__law_like (aC (wV 0) (aC (wOp fSub (oE (wCB fLen (osC (oV 0) osN))) (oE (wOp fMul (oV 1) (oV 2)))) (aC (wV 2) (aC (wV 1) aN))))))
  (uRet (wC (.bool false)))
  uNext))
  (uRet (wC (.bool true))))
theorem pf__law_ends_free (args : List Arg) (wl : Option Wel) (Q : PyData → Option Wel → Prop) (h : g__law_ends_free args wl Q) : u__law_ends_free noX (endsG Q) (mem0 3 args wl) := by
  obtain ⟨l, o, rfl, hl, ho, ho2, q⟩ := h
  simp -dsimp only [u__law_ends_free, ↓uSeq, ↓uNext, ↓uKill, ↓uFrz, ↓uDrop, ↓uRet, ↓uIf, ↓uAsg, ↓uAsgO, ↓uPar2, ↓uPar3, ↓uAug, ↓uPut, ↓uDPut, ↓uFor_eq, ↓uWhile_eq, ↓uSeqM_eq, ↓uBrk, ↓uCnt, ↓uWelD, ↓gSet, ↓gN, ↓gC, ↓gT, ↓zE, ↓zF, ↓oE, ↓oV, ↓wV, ↓wC, ↓wOp, ↓wUn, ↓app2, ↓app1, ↓wTst, ↓tAndD, ↓tOrD, ↓tNotD, ↓wAndV, ↓wOrV, ↓wNotV, ↓wIf, ↓wChain, ↓osN, ↓osC, getAll, ↓appN, ↓wCB, ↓appM, ↓wBM, ↓wBM0, ↓wN, ↓wCs, ↓wTup, ↓wLst, ↓wDic0, ↓wDicT, ↓aN, ↓aC, ↓aW, ↓wCall_eq, ↓wCallK_eq, perm, List.filterMap_cons, List.filterMap_nil, ↓wApp, ↓wExt, ↓wPop, ↓wPopAt, ↓wListA, ↓wRpl, ↓iX, ↓iL, ↓iT, ↓iS, ↓iR1, ↓iR2, ↓iR3, ↓iScr, ↓iZD, ↓iE, ↓iE2, ↓iZ2, ↓iZ3, ↓seqD, ↓zipD3, ↓wComp_eq, ↓ttY, ↓wSl, ↓wPart, ↓plN, ↓wRev, ↓wListO, ↓wRep, ↓wLenSet, ↓wLenScr, ↓wWelI, ↓wWelPop, ↓wWelApp, ↓tWelNE, ↓wDisp, ↓wDispT, ↓psC, ↓psN, ↓wDIn, ↓wDNotIn, ↓wDG1, ↓wDG2, ↓wIsi, ↓askD, ↓uTry, ↓uRng, ↓iRV, ↓uRaise, ↓uRaise0, ↓uNever, ↓wCallX_eq, ↓wCallKX_eq, ↓wXf, ↓wIsX, ↓fAdd, ↓fSub, ↓fII, ↓fII0, ↓fDiv, ↓fMod, ↓fPow, ↓fLt, ↓fGt, ↓fLe, ↓fGe, ↓fGtD, ↓fLtD, ↓fLeD, ↓fGeD, ↓fNeg, ↓fMul, ↓fEq, ↓fNe, ↓eqQ, ↓fIsN, ↓fNotN, isNone_1, isNone_2, isNone_3, isNone_4, isNone_5, isNone_6, isNone_7, ↓fInC, ↓fNotInC, ↓fSub_, ↓fIx, ↓fSl, ↓fLen, ↓fTuple, ↓fMin1, ↓fMax1, ↓fSum, ↓fAll, ↓fAny, ↓fSorted, ↓fSortS, ↓fAbs, ↓fInt, ↓fRepr, ↓fCnt, ↓fIdx, ↓fJoin, ↓mSS, ↓mSB, ↓mTI, ↓mTB, ↓mTI3, ↓fInL, ↓fNinL, ↓fInT, ↓fNinT, ↓fInA, ↓fNinA, ↓fInB, ↓fNinB, isStr,
 atI_0, atI_1, atI_2, atI_3, endsG, fld_TooMany, fld_Unfit, mem0, toEnt, Mem.set, Mem.view, Mem.kill, Mem.frz, Mem.ro, Ent.ro', Opd.get,
 List.set_cons_zero, List.set_cons_succ, List.getElem?_cons_zero, List.getElem?_cons_succ, List.map_cons, List.map_nil, List.length_cons, List.length_nil, List.cons_append, List.nil_append, List.replicate_succ, List.replicate_zero, Option.map_some, Option.map_none, List.cons.injEq, and_true, true_and, Arg.x.injEq, exists_eq_left, exists_eq_right, Option.some.injEq, Ent.ow.injEq, Ent.im.injEq, PyData.int.injEq, PyData.list.injEq, PyData.dict.injEq, PyData.tuple.injEq, PyData.str.injEq, exists_eq', exists_eq, decide_eq_true_eq, Bool.not_eq_true', ite_true, ite_false, decide_true, decide_false, decide_eq_false_iff_not, not_true_eq_false, not_false_eq_true, reduceCtorEq, eq_self, S_cps]
  have hd := div_small hl ho
  have hv := @vl_end l o
  have hF : endF o l = (List.range (l.length / o)).all fun j => !PLb l o (l.length - o * (1 + j)) (1 + j) := rfl
  rw [divI]
  generalize l.length / o = D at hd hv hF ⊢
  have e1 : ((D : Int) + 1 - 1).toNat = D := by omega
  rw [e1]
  refine ⟨zl _ (by omega), divW (by omega) (by omega), ⟨by decide, by decide, by omega, by omega⟩, ?_⟩
  refine for_i (fun i M => (∃ e2 : Option Ent, M = ⟨[some (.im (sD l)), some (.im (.int (o : Nat))), e2], wl⟩) ∧ ∀ j, j < i → PLb l o (l.length - o * (1 + j)) (1 + j) = false) ⟨⟨none, rfl⟩, fun j h => absurd h (by omega)⟩ ?_ ?_
  · rintro j d M' hd ⟨⟨e2, rfl⟩, h0⟩
    obtain ⟨hj, rfl⟩ := rng_atL hd
    obtain ⟨v, v2⟩ := hv ho hj
    have ej2 : (1 : Int) + (j : Nat) = ((1 + j : Nat) : Int) := by push_cast; rfl
    simp -dsimp only [↓uSeq, ↓uNext, ↓uKill, ↓uFrz, ↓uDrop, ↓uRet, ↓uIf, ↓uAsg, ↓uAsgO, ↓uPar2, ↓uPar3, ↓uAug, ↓uPut, ↓uDPut, ↓uFor_eq, ↓uWhile_eq, ↓uSeqM_eq, ↓uBrk, ↓uCnt, ↓uWelD, ↓gSet, ↓gN, ↓gC, ↓gT, ↓zE, ↓zF, ↓oE, ↓oV, ↓wV, ↓wC, ↓wOp, ↓wUn, ↓app2, ↓app1, ↓wTst, ↓tAndD, ↓tOrD, ↓tNotD, ↓wAndV, ↓wOrV, ↓wNotV, ↓wIf, ↓wChain, ↓osN, ↓osC, getAll, ↓appN, ↓wCB, ↓appM, ↓wBM, ↓wBM0, ↓wN, ↓wCs, ↓wTup, ↓wLst, ↓wDic0, ↓wDicT, ↓aN, ↓aC, ↓aW, ↓wCall_eq, ↓wCallK_eq, perm, List.filterMap_cons, List.filterMap_nil, ↓wApp, ↓wExt, ↓wPop, ↓wPopAt, ↓wListA, ↓wRpl, ↓iX, ↓iL, ↓iT, ↓iS, ↓iR1, ↓iR2, ↓iR3, ↓iScr, ↓iZD, ↓iE, ↓iE2, ↓iZ2, ↓iZ3, ↓seqD, ↓zipD3, ↓wComp_eq, ↓ttY, ↓wSl, ↓wPart, ↓plN, ↓wRev, ↓wListO, ↓wRep, ↓wLenSet, ↓wLenScr, ↓wWelI, ↓wWelPop, ↓wWelApp, ↓tWelNE, ↓wDisp, ↓wDispT, ↓psC, ↓psN, ↓wDIn, ↓wDNotIn, ↓wDG1, ↓wDG2, ↓wIsi, ↓askD, ↓uTry, ↓uRng, ↓iRV, ↓uRaise, ↓uRaise0, ↓uNever, ↓wCallX_eq, ↓wCallKX_eq, ↓wXf, ↓wIsX, ↓fAdd, ↓fSub, ↓fII, ↓fII0, ↓fDiv, ↓fMod, ↓fPow, ↓fLt, ↓fGt, ↓fLe, ↓fGe, ↓fGtD, ↓fLtD, ↓fLeD, ↓fGeD, ↓fNeg, ↓fMul, ↓fEq, ↓fNe, ↓eqQ, ↓fIsN, ↓fNotN, isNone_1, isNone_2, isNone_3, isNone_4, isNone_5, isNone_6, isNone_7, ↓fInC, ↓fNotInC, ↓fSub_, ↓fIx, ↓fSl, ↓fLen, ↓fTuple, ↓fMin1, ↓fMax1, ↓fSum, ↓fAll, ↓fAny, ↓fSorted, ↓fSortS, ↓fAbs, ↓fInt, ↓fRepr, ↓fCnt, ↓fIdx, ↓fJoin, ↓mSS, ↓mSB, ↓mTI, ↓mTB, ↓mTI3, ↓fInL, ↓fNinL, ↓fInT, ↓fNinT, ↓fInA, ↓fNinA, ↓fInB, ↓fNinB, isStr,
 atI_0, atI_1, atI_2, atI_3, endsG, fld_TooMany, fld_Unfit, mem0, toEnt, Mem.set, Mem.view, Mem.kill, Mem.frz, Mem.ro, Ent.ro', Opd.get,
 List.set_cons_zero, List.set_cons_succ, List.getElem?_cons_zero, List.getElem?_cons_succ, List.map_cons, List.map_nil, List.length_cons, List.length_nil, List.cons_append, List.nil_append, List.replicate_succ, List.replicate_zero, Option.map_some, Option.map_none, List.cons.injEq, and_true, true_and, Arg.x.injEq, exists_eq_left, exists_eq_right, Option.some.injEq, Ent.ow.injEq, Ent.im.injEq, PyData.int.injEq, PyData.list.injEq, PyData.dict.injEq, PyData.tuple.injEq, PyData.str.injEq, exists_eq', exists_eq, decide_eq_true_eq, Bool.not_eq_true', ite_true, ite_false, decide_true, decide_false, decide_eq_false_iff_not, not_true_eq_false, not_false_eq_true, reduceCtorEq, eq_self, S_cps, sub_mul_i v2]
    rw [ej2]
    refine ⟨zl _ (by omega), mul_sm (by omega) (by omega), llike_i (by omega) (by omega) ho2 v fun b hb => ?_⟩
    rw [PL_eq hb]
    simp -dsimp only [↓uSeq, ↓uNext, ↓uKill, ↓uFrz, ↓uDrop, ↓uRet, ↓uIf, ↓uAsg, ↓uAsgO, ↓uPar2, ↓uPar3, ↓uAug, ↓uPut, ↓uDPut, ↓uFor_eq, ↓uWhile_eq, ↓uSeqM_eq, ↓uBrk, ↓uCnt, ↓uWelD, ↓gSet, ↓gN, ↓gC, ↓gT, ↓zE, ↓zF, ↓oE, ↓oV, ↓wV, ↓wC, ↓wOp, ↓wUn, ↓app2, ↓app1, ↓wTst, ↓tAndD, ↓tOrD, ↓tNotD, ↓wAndV, ↓wOrV, ↓wNotV, ↓wIf, ↓wChain, ↓osN, ↓osC, getAll, ↓appN, ↓wCB, ↓appM, ↓wBM, ↓wBM0, ↓wN, ↓wCs, ↓wTup, ↓wLst, ↓wDic0, ↓wDicT, ↓aN, ↓aC, ↓aW, ↓wCall_eq, ↓wCallK_eq, perm, List.filterMap_cons, List.filterMap_nil, ↓wApp, ↓wExt, ↓wPop, ↓wPopAt, ↓wListA, ↓wRpl, ↓iX, ↓iL, ↓iT, ↓iS, ↓iR1, ↓iR2, ↓iR3, ↓iScr, ↓iZD, ↓iE, ↓iE2, ↓iZ2, ↓iZ3, ↓seqD, ↓zipD3, ↓wComp_eq, ↓ttY, ↓wSl, ↓wPart, ↓plN, ↓wRev, ↓wListO, ↓wRep, ↓wLenSet, ↓wLenScr, ↓wWelI, ↓wWelPop, ↓wWelApp, ↓tWelNE, ↓wDisp, ↓wDispT, ↓psC, ↓psN, ↓wDIn, ↓wDNotIn, ↓wDG1, ↓wDG2, ↓wIsi, ↓askD, ↓uTry, ↓uRng, ↓iRV, ↓uRaise, ↓uRaise0, ↓uNever, ↓wCallX_eq, ↓wCallKX_eq, ↓wXf, ↓wIsX, ↓fAdd, ↓fSub, ↓fII, ↓fII0, ↓fDiv, ↓fMod, ↓fPow, ↓fLt, ↓fGt, ↓fLe, ↓fGe, ↓fGtD, ↓fLtD, ↓fLeD, ↓fGeD, ↓fNeg, ↓fMul, ↓fEq, ↓fNe, ↓eqQ, ↓fIsN, ↓fNotN, isNone_1, isNone_2, isNone_3, isNone_4, isNone_5, isNone_6, isNone_7, ↓fInC, ↓fNotInC, ↓fSub_, ↓fIx, ↓fSl, ↓fLen, ↓fTuple, ↓fMin1, ↓fMax1, ↓fSum, ↓fAll, ↓fAny, ↓fSorted, ↓fSortS, ↓fAbs, ↓fInt, ↓fRepr, ↓fCnt, ↓fIdx, ↓fJoin, ↓mSS, ↓mSB, ↓mTI, ↓mTB, ↓mTI3, ↓fInL, ↓fNinL, ↓fInT, ↓fNinT, ↓fInA, ↓fNinA, ↓fInB, ↓fNinB, isStr,
 atI_0, atI_1, atI_2, atI_3, endsG, fld_TooMany, fld_Unfit, mem0, toEnt, Mem.set, Mem.view, Mem.kill, Mem.frz, Mem.ro, Ent.ro', Opd.get,
 List.set_cons_zero, List.set_cons_succ, List.getElem?_cons_zero, List.getElem?_cons_succ, List.map_cons, List.map_nil, List.length_cons, List.length_nil, List.cons_append, List.nil_append, List.replicate_succ, List.replicate_zero, Option.map_some, Option.map_none, List.cons.injEq, and_true, true_and, Arg.x.injEq, exists_eq_left, exists_eq_right, Option.some.injEq, Ent.ow.injEq, Ent.im.injEq, PyData.int.injEq, PyData.list.injEq, PyData.dict.injEq, PyData.tuple.injEq, PyData.str.injEq, exists_eq', exists_eq, decide_eq_true_eq, Bool.not_eq_true', ite_true, ite_false, decide_true, decide_false, decide_eq_false_iff_not, not_true_eq_false, not_false_eq_true, reduceCtorEq, eq_self]
    cases c : PLb l o (l.length - o * (1 + j)) (1 + j) with
    | true =>
      have : endF o l = false := by
        rw [hF, Bool.eq_false_iff]
        intro z
        have := List.all_eq_true.mp z j (List.mem_range.mpr hj)
        rw [c] at this
        cases this
      rw [this] at q
      exact q
    | false =>
      refine ⟨⟨_, rfl⟩, fun i hi => ?_⟩
      by_cases e : i = j
      · rw [e]; exact c
      · exact h0 i (by omega)
  · rintro M' ⟨⟨e2, rfl⟩, h0⟩
    rw [rng_len] at h0
    simp -dsimp only [↓uSeq, ↓uNext, ↓uKill, ↓uFrz, ↓uDrop, ↓uRet, ↓uIf, ↓uAsg, ↓uAsgO, ↓uPar2, ↓uPar3, ↓uAug, ↓uPut, ↓uDPut, ↓uFor_eq, ↓uWhile_eq, ↓uSeqM_eq, ↓uBrk, ↓uCnt, ↓uWelD, ↓gSet, ↓gN, ↓gC, ↓gT, ↓zE, ↓zF, ↓oE, ↓oV, ↓wV, ↓wC, ↓wOp, ↓wUn, ↓app2, ↓app1, ↓wTst, ↓tAndD, ↓tOrD, ↓tNotD, ↓wAndV, ↓wOrV, ↓wNotV, ↓wIf, ↓wChain, ↓osN, ↓osC, getAll, ↓appN, ↓wCB, ↓appM, ↓wBM, ↓wBM0, ↓wN, ↓wCs, ↓wTup, ↓wLst, ↓wDic0, ↓wDicT, ↓aN, ↓aC, ↓aW, ↓wCall_eq, ↓wCallK_eq, perm, List.filterMap_cons, List.filterMap_nil, ↓wApp, ↓wExt, ↓wPop, ↓wPopAt, ↓wListA, ↓wRpl, ↓iX, ↓iL, ↓iT, ↓iS, ↓iR1, ↓iR2, ↓iR3, ↓iScr, ↓iZD, ↓iE, ↓iE2, ↓iZ2, ↓iZ3, ↓seqD, ↓zipD3, ↓wComp_eq, ↓ttY, ↓wSl, ↓wPart, ↓plN, ↓wRev, ↓wListO, ↓wRep, ↓wLenSet, ↓wLenScr, ↓wWelI, ↓wWelPop, ↓wWelApp, ↓tWelNE, ↓wDisp, ↓wDispT, ↓psC, ↓psN, ↓wDIn, ↓wDNotIn, ↓wDG1, ↓wDG2, ↓wIsi, ↓askD, ↓uTry, ↓uRng, ↓iRV, ↓uRaise, ↓uRaise0, ↓uNever, ↓wCallX_eq, ↓wCallKX_eq, ↓wXf, ↓wIsX, ↓fAdd, ↓fSub, ↓fII, ↓fII0, ↓fDiv, ↓fMod, ↓fPow, ↓fLt, ↓fGt, ↓fLe, ↓fGe, ↓fGtD, ↓fLtD, ↓fLeD, ↓fGeD, ↓fNeg, ↓fMul, ↓fEq, ↓fNe, ↓eqQ, ↓fIsN, ↓fNotN, isNone_1, isNone_2, isNone_3, isNone_4, isNone_5, isNone_6, isNone_7, ↓fInC, ↓fNotInC, ↓fSub_, ↓fIx, ↓fSl, ↓fLen, ↓fTuple, ↓fMin1, ↓fMax1, ↓fSum, ↓fAll, ↓fAny, ↓fSorted, ↓fSortS, ↓fAbs, ↓fInt, ↓fRepr, ↓fCnt, ↓fIdx, ↓fJoin, ↓mSS, ↓mSB, ↓mTI, ↓mTB, ↓mTI3, ↓fInL, ↓fNinL, ↓fInT, ↓fNinT, ↓fInA, ↓fNinA, ↓fInB, ↓fNinB, isStr,
 atI_0, atI_1, atI_2, atI_3, endsG, fld_TooMany, fld_Unfit, mem0, toEnt, Mem.set, Mem.view, Mem.kill, Mem.frz, Mem.ro, Ent.ro', Opd.get,
 List.set_cons_zero, List.set_cons_succ, List.getElem?_cons_zero, List.getElem?_cons_succ, List.map_cons, List.map_nil, List.length_cons, List.length_nil, List.cons_append, List.nil_append, List.replicate_succ, List.replicate_zero, Option.map_some, Option.map_none, List.cons.injEq, and_true, true_and, Arg.x.injEq, exists_eq_left, exists_eq_right, Option.some.injEq, Ent.ow.injEq, Ent.im.injEq, PyData.int.injEq, PyData.list.injEq, PyData.dict.injEq, PyData.tuple.injEq, PyData.str.injEq, exists_eq', exists_eq, decide_eq_true_eq, Bool.not_eq_true', ite_true, ite_false, decide_true, decide_false, decide_eq_false_iff_not, not_true_eq_false, not_false_eq_true, reduceCtorEq, eq_self]
    have : endF o l = true := by
      rw [hF, List.all_eq_true]
      intro j hj
      rw [h0 j (List.mem_range.mp hj)]
      rfl
    rw [this] at q
    exact q
/-! the letters -/
def cD : PyData → Nat
  | .str x => x.cps.toList.headD 0
  | _ => 0
theorem let_filter (w : List Nat) (g : Nat → Bool) (L : List Nat) : ((L.map fun c => PyData.str (S [c])).filter fun d => g (cD d)).map (fun d => sD (w ++ [cD d])) = ((L.filter g).map fun c => w ++ [c]).map sD := by
  rw [List.filter_map, List.map_map, List.map_map]
  rfl
theorem let_map (w : List Nat) (L : List Nat) : (L.map fun c => PyData.str (S [c])).map (fun d => sD (w ++ [cD d])) = (L.map fun c => w ++ [c]).map sD := by
  rw [List.map_map, List.map_map]
  rfl
theorem cut_LET {k : Nat} : cut [97, 98, 99, 100] none (some (k : Int)) = LET.take k := by rw [cut_hi (by omega), Int.toNat_natCast]; rfl
theorem growP_take (k o : Nat) (ws : List (List Nat)) (i : Nat) {w : List Nat} (h : ws[i]? = some w) : growP k o (ws.take (i + 1)) = growP k o (ws.take i) ++ kids k o w := by
  unfold growP
  rw [List.take_add_one, h, List.flatMap_append]
  simp
theorem addL_take (k : Nat) (ws : List (List Nat)) (i : Nat) {w : List Nat} (h : ws[i]? = some w) : addL k (ws.take (i + 1)) = addL k (ws.take i) ++ (LET.take k).map fun c => w ++ [c] := by
  unfold addL
  rw [List.take_add_one, h, List.flatMap_append]
  simp
theorem let_sz (k : Nat) : ((LET.take k).map fun c => PyData.str (S [c])).length ≤ sizeLine := zl _ (by rw [List.length_map, List.length_take]; have : LET.length = 4 := rfl; omega)
def g_count_free : GXSpec := fun args wl Q Xd => ∃ k n o : Nat, args = [.x (.int (k : Nat)), .x (.int (n : Nat)), .x (.int (o : Nat))] ∧ n ≤ 59 ∧ 2 ≤ o ∧ o ≤ 20 ∧ (∀ i, i ≤ n → (frees k o i).length ≤ 4000) ∧ ((frees k o n).length ≤ 400 → Q (.tuple ((frees k o n).map sD)) wl) ∧ (400 < (frees k o n).length → Xd ("TooMany", .int 400) wl)
theorem free_i {k n o : Nat} {wl : Option Wel} {Q : PyData → Option Wel → Prop} {Xd : Exn → Option Wel → Prop} {lk : Lock Q} {lk2 : Lock Xd} (h1 : n ≤ 59) (h2 : 2 ≤ o) (h3 : o ≤ 20) (h4 : ∀ i, i ≤ n → (frees k o i).length ≤ 4000) (q : (frees k o n).length ≤ 400 → Q (.tuple ((frees k o n).map sD)) wl) (x : 400 < (frees k o n).length → Xd ("TooMany", .int 400) wl) : callGX g_count_free [.x (.int (k : Nat)), .x (.int (n : Nat)), .x (.int (o : Nat))] wl Q Xd lk lk2 := ⟨k, n, o, rfl, h1, h2, h3, h4, q, x⟩
def u_count_free : WS :=
  (uSeq (uAsg (wLst (wCs (wC (.str "")) wN)) (gSet 3))
  (uSeq (uFor [4, 5, 6] (iR1 (osC (oV 1) osN)) (gSet 4)
  (uSeq (uAsgO (wLst wN) 5)
  (uSeq (uFor [6] (iX (wV 3)) (gSet 6)
  (uDrop (wExt 5 (wComp [7] (iX (wSl (oE (wC (.str "abcd"))) plN (wPart (oV 0)))) (gSet 7) (wTst (wCall g_ends_count_free (aC (wOp fAdd (oV 6) (oV 7)) (aC (wV 2) aN)))) (wOp fAdd (oV 6) (oV 7))))))
  (uSeq (uFrz 5 (uAsg (wV 5) (gSet 3)))
  (uIf (wTst (wOp fGt (oE (wCB fLen (osC (oV 3) osN))) (oE (wC (.int 4000)))))
  (uRaise "TooMany" (wC (.int 400)))
  uNext)))))
  (uSeq (uIf (wTst (wOp fGt (oE (wCB fLen (osC (oV 3) osN))) (oE (wC (.int 400)))))
  (uRaise "TooMany" (wC (.int 400)))
  uNext)
  (uRet (wCB fTuple (osC (oV 3) osN))))))
theorem pf_count_free (args : List Arg) (wl : Option Wel) (Q : PyData → Option Wel → Prop) (Xd : Exn → Option Wel → Prop) (h : g_count_free args wl Q Xd) : u_count_free (fun e M => Xd e M.wl) (endsG Q) (mem0 8 args wl) := by
  obtain ⟨k, n, o, rfl, hn, ho, ho2, hA, q, x⟩ := h
  simp -dsimp only [u_count_free, ↓uSeq, ↓uNext, ↓uKill, ↓uFrz, ↓uDrop, ↓uRet, ↓uIf, ↓uAsg, ↓uAsgO, ↓uPar2, ↓uPar3, ↓uAug, ↓uPut, ↓uDPut, ↓uFor_eq, ↓uWhile_eq, ↓uSeqM_eq, ↓uBrk, ↓uCnt, ↓uWelD, ↓gSet, ↓gN, ↓gC, ↓gT, ↓zE, ↓zF, ↓oE, ↓oV, ↓wV, ↓wC, ↓wOp, ↓wUn, ↓app2, ↓app1, ↓wTst, ↓tAndD, ↓tOrD, ↓tNotD, ↓wAndV, ↓wOrV, ↓wNotV, ↓wIf, ↓wChain, ↓osN, ↓osC, getAll, ↓appN, ↓wCB, ↓appM, ↓wBM, ↓wBM0, ↓wN, ↓wCs, ↓wTup, ↓wLst, ↓wDic0, ↓wDicT, ↓aN, ↓aC, ↓aW, ↓wCall_eq, ↓wCallK_eq, perm, List.filterMap_cons, List.filterMap_nil, ↓wApp, ↓wExt, ↓wPop, ↓wPopAt, ↓wListA, ↓wRpl, ↓iX, ↓iL, ↓iT, ↓iS, ↓iR1, ↓iR2, ↓iR3, ↓iScr, ↓iZD, ↓iE, ↓iE2, ↓iZ2, ↓iZ3, ↓seqD, ↓zipD3, ↓wComp_eq, ↓ttY, ↓wSl, ↓wPart, ↓plN, ↓wRev, ↓wListO, ↓wRep, ↓wLenSet, ↓wLenScr, ↓wWelI, ↓wWelPop, ↓wWelApp, ↓tWelNE, ↓wDisp, ↓wDispT, ↓psC, ↓psN, ↓wDIn, ↓wDNotIn, ↓wDG1, ↓wDG2, ↓wIsi, ↓askD, ↓uTry, ↓uRng, ↓iRV, ↓uRaise, ↓uRaise0, ↓uNever, ↓wCallX_eq, ↓wCallKX_eq, ↓wXf, ↓wIsX, ↓fAdd, ↓fSub, ↓fII, ↓fII0, ↓fDiv, ↓fMod, ↓fPow, ↓fLt, ↓fGt, ↓fLe, ↓fGe, ↓fGtD, ↓fLtD, ↓fLeD, ↓fGeD, ↓fNeg, ↓fMul, ↓fEq, ↓fNe, ↓eqQ, ↓fIsN, ↓fNotN, isNone_1, isNone_2, isNone_3, isNone_4, isNone_5, isNone_6, isNone_7, ↓fInC, ↓fNotInC, ↓fSub_, ↓fIx, ↓fSl, ↓fLen, ↓fTuple, ↓fMin1, ↓fMax1, ↓fSum, ↓fAll, ↓fAny, ↓fSorted, ↓fSortS, ↓fAbs, ↓fInt, ↓fRepr, ↓fCnt, ↓fIdx, ↓fJoin, ↓mSS, ↓mSB, ↓mTI, ↓mTB, ↓mTI3, ↓fInL, ↓fNinL, ↓fInT, ↓fNinT, ↓fInA, ↓fNinA, ↓fInB, ↓fNinB, isStr,
 atI_0, atI_1, atI_2, atI_3, endsG, fld_TooMany, fld_Unfit, mem0, toEnt, Mem.set, Mem.view, Mem.kill, Mem.frz, Mem.ro, Ent.ro', Opd.get,
 List.set_cons_zero, List.set_cons_succ, List.getElem?_cons_zero, List.getElem?_cons_succ, List.map_cons, List.map_nil, List.length_cons, List.length_nil, List.cons_append, List.nil_append, List.replicate_succ, List.replicate_zero, Option.map_some, Option.map_none, List.cons.injEq, and_true, true_and, Arg.x.injEq, exists_eq_left, exists_eq_right, Option.some.injEq, Ent.ow.injEq, Ent.im.injEq, PyData.int.injEq, PyData.list.injEq, PyData.dict.injEq, PyData.tuple.injEq, PyData.str.injEq, exists_eq', exists_eq, decide_eq_true_eq, Bool.not_eq_true', ite_true, ite_false, decide_true, decide_false, decide_eq_false_iff_not, not_true_eq_false, not_false_eq_true, reduceCtorEq, eq_self]
  rw [Int.toNat_natCast]
  refine ⟨by decide, ⟨by omega, by omega⟩, ?_⟩
  refine for_i (fun i M => ∃ e4 e5 : Option Ent, M = ⟨[some (.im (.int (k : Nat))), some (.im (.int (n : Nat))), some (.im (.int (o : Nat))), some (.im (.list ((frees k o i).map sD))), e4, e5, none, none], wl⟩) ⟨none, none, rfl⟩ ?_ ?_
  · rintro i d M' hd ⟨e4, e5, rfl⟩
    obtain ⟨hin, rfl⟩ := rng_at hd
    simp -dsimp only [↓uSeq, ↓uNext, ↓uKill, ↓uFrz, ↓uDrop, ↓uRet, ↓uIf, ↓uAsg, ↓uAsgO, ↓uPar2, ↓uPar3, ↓uAug, ↓uPut, ↓uDPut, ↓uFor_eq, ↓uWhile_eq, ↓uSeqM_eq, ↓uBrk, ↓uCnt, ↓uWelD, ↓gSet, ↓gN, ↓gC, ↓gT, ↓zE, ↓zF, ↓oE, ↓oV, ↓wV, ↓wC, ↓wOp, ↓wUn, ↓app2, ↓app1, ↓wTst, ↓tAndD, ↓tOrD, ↓tNotD, ↓wAndV, ↓wOrV, ↓wNotV, ↓wIf, ↓wChain, ↓osN, ↓osC, getAll, ↓appN, ↓wCB, ↓appM, ↓wBM, ↓wBM0, ↓wN, ↓wCs, ↓wTup, ↓wLst, ↓wDic0, ↓wDicT, ↓aN, ↓aC, ↓aW, ↓wCall_eq, ↓wCallK_eq, perm, List.filterMap_cons, List.filterMap_nil, ↓wApp, ↓wExt, ↓wPop, ↓wPopAt, ↓wListA, ↓wRpl, ↓iX, ↓iL, ↓iT, ↓iS, ↓iR1, ↓iR2, ↓iR3, ↓iScr, ↓iZD, ↓iE, ↓iE2, ↓iZ2, ↓iZ3, ↓seqD, ↓zipD3, ↓wComp_eq, ↓ttY, ↓wSl, ↓wPart, ↓plN, ↓wRev, ↓wListO, ↓wRep, ↓wLenSet, ↓wLenScr, ↓wWelI, ↓wWelPop, ↓wWelApp, ↓tWelNE, ↓wDisp, ↓wDispT, ↓psC, ↓psN, ↓wDIn, ↓wDNotIn, ↓wDG1, ↓wDG2, ↓wIsi, ↓askD, ↓uTry, ↓uRng, ↓iRV, ↓uRaise, ↓uRaise0, ↓uNever, ↓wCallX_eq, ↓wCallKX_eq, ↓wXf, ↓wIsX, ↓fAdd, ↓fSub, ↓fII, ↓fII0, ↓fDiv, ↓fMod, ↓fPow, ↓fLt, ↓fGt, ↓fLe, ↓fGe, ↓fGtD, ↓fLtD, ↓fLeD, ↓fGeD, ↓fNeg, ↓fMul, ↓fEq, ↓fNe, ↓eqQ, ↓fIsN, ↓fNotN, isNone_1, isNone_2, isNone_3, isNone_4, isNone_5, isNone_6, isNone_7, ↓fInC, ↓fNotInC, ↓fSub_, ↓fIx, ↓fSl, ↓fLen, ↓fTuple, ↓fMin1, ↓fMax1, ↓fSum, ↓fAll, ↓fAny, ↓fSorted, ↓fSortS, ↓fAbs, ↓fInt, ↓fRepr, ↓fCnt, ↓fIdx, ↓fJoin, ↓mSS, ↓mSB, ↓mTI, ↓mTB, ↓mTI3, ↓fInL, ↓fNinL, ↓fInT, ↓fNinT, ↓fInA, ↓fNinA, ↓fInB, ↓fNinB, isStr,
 atI_0, atI_1, atI_2, atI_3, endsG, fld_TooMany, fld_Unfit, mem0, toEnt, Mem.set, Mem.view, Mem.kill, Mem.frz, Mem.ro, Ent.ro', Opd.get,
 List.set_cons_zero, List.set_cons_succ, List.getElem?_cons_zero, List.getElem?_cons_succ, List.map_cons, List.map_nil, List.length_cons, List.length_nil, List.cons_append, List.nil_append, List.replicate_succ, List.replicate_zero, Option.map_some, Option.map_none, List.cons.injEq, and_true, true_and, Arg.x.injEq, exists_eq_left, exists_eq_right, Option.some.injEq, Ent.ow.injEq, Ent.im.injEq, PyData.int.injEq, PyData.list.injEq, PyData.dict.injEq, PyData.tuple.injEq, PyData.str.injEq, exists_eq', exists_eq, decide_eq_true_eq, Bool.not_eq_true', ite_true, ite_false, decide_true, decide_false, decide_eq_false_iff_not, not_true_eq_false, not_false_eq_true, reduceCtorEq, eq_self]
    refine ⟨by decide, for_i (fun j M => ∃ e6 : Option Ent, M = ⟨[some (.im (.int (k : Nat))), some (.im (.int (n : Nat))), some (.im (.int (o : Nat))), some (.im (.list ((frees k o i).map sD))), some (.im (.int (i : Nat))), some (.ow (.list ((growP k o ((frees k o i).take j)).map sD))), e6, none], wl⟩) ⟨none, rfl⟩ ?_ ?_⟩
    · rintro j d M' hd ⟨e6, rfl⟩
      rw [List.getElem?_map] at hd
      cases hw : (frees k o i)[j]? with
      | none => rw [hw] at hd; cases hd
      | some w =>
        rw [hw] at hd
        cases hd
        obtain ⟨w1, w2⟩ := frees_ok k o i w (List.mem_of_getElem? hw)
        simp -dsimp only [↓uSeq, ↓uNext, ↓uKill, ↓uFrz, ↓uDrop, ↓uRet, ↓uIf, ↓uAsg, ↓uAsgO, ↓uPar2, ↓uPar3, ↓uAug, ↓uPut, ↓uDPut, ↓uFor_eq, ↓uWhile_eq, ↓uSeqM_eq, ↓uBrk, ↓uCnt, ↓uWelD, ↓gSet, ↓gN, ↓gC, ↓gT, ↓zE, ↓zF, ↓oE, ↓oV, ↓wV, ↓wC, ↓wOp, ↓wUn, ↓app2, ↓app1, ↓wTst, ↓tAndD, ↓tOrD, ↓tNotD, ↓wAndV, ↓wOrV, ↓wNotV, ↓wIf, ↓wChain, ↓osN, ↓osC, getAll, ↓appN, ↓wCB, ↓appM, ↓wBM, ↓wBM0, ↓wN, ↓wCs, ↓wTup, ↓wLst, ↓wDic0, ↓wDicT, ↓aN, ↓aC, ↓aW, ↓wCall_eq, ↓wCallK_eq, perm, List.filterMap_cons, List.filterMap_nil, ↓wApp, ↓wExt, ↓wPop, ↓wPopAt, ↓wListA, ↓wRpl, ↓iX, ↓iL, ↓iT, ↓iS, ↓iR1, ↓iR2, ↓iR3, ↓iScr, ↓iZD, ↓iE, ↓iE2, ↓iZ2, ↓iZ3, ↓seqD, ↓zipD3, ↓wComp_eq, ↓ttY, ↓wSl, ↓wPart, ↓plN, ↓wRev, ↓wListO, ↓wRep, ↓wLenSet, ↓wLenScr, ↓wWelI, ↓wWelPop, ↓wWelApp, ↓tWelNE, ↓wDisp, ↓wDispT, ↓psC, ↓psN, ↓wDIn, ↓wDNotIn, ↓wDG1, ↓wDG2, ↓wIsi, ↓askD, ↓uTry, ↓uRng, ↓iRV, ↓uRaise, ↓uRaise0, ↓uNever, ↓wCallX_eq, ↓wCallKX_eq, ↓wXf, ↓wIsX, ↓fAdd, ↓fSub, ↓fII, ↓fII0, ↓fDiv, ↓fMod, ↓fPow, ↓fLt, ↓fGt, ↓fLe, ↓fGe, ↓fGtD, ↓fLtD, ↓fLeD, ↓fGeD, ↓fNeg, ↓fMul, ↓fEq, ↓fNe, ↓eqQ, ↓fIsN, ↓fNotN, isNone_1, isNone_2, isNone_3, isNone_4, isNone_5, isNone_6, isNone_7, ↓fInC, ↓fNotInC, ↓fSub_, ↓fIx, ↓fSl, ↓fLen, ↓fTuple, ↓fMin1, ↓fMax1, ↓fSum, ↓fAll, ↓fAny, ↓fSorted, ↓fSortS, ↓fAbs, ↓fInt, ↓fRepr, ↓fCnt, ↓fIdx, ↓fJoin, ↓mSS, ↓mSB, ↓mTI, ↓mTB, ↓mTI3, ↓fInL, ↓fNinL, ↓fInT, ↓fNinT, ↓fInA, ↓fNinA, ↓fInB, ↓fNinB, isStr,
 atI_0, atI_1, atI_2, atI_3, endsG, fld_TooMany, fld_Unfit, mem0, toEnt, Mem.set, Mem.view, Mem.kill, Mem.frz, Mem.ro, Ent.ro', Opd.get,
 List.set_cons_zero, List.set_cons_succ, List.getElem?_cons_zero, List.getElem?_cons_succ, List.map_cons, List.map_nil, List.length_cons, List.length_nil, List.cons_append, List.nil_append, List.replicate_succ, List.replicate_zero, Option.map_some, Option.map_none, List.cons.injEq, and_true, true_and, Arg.x.injEq, exists_eq_left, exists_eq_right, Option.some.injEq, Ent.ow.injEq, Ent.im.injEq, PyData.int.injEq, PyData.list.injEq, PyData.dict.injEq, PyData.tuple.injEq, PyData.str.injEq, exists_eq', exists_eq, decide_eq_true_eq, Bool.not_eq_true', ite_true, ite_false, decide_true, decide_false, decide_eq_false_iff_not, not_true_eq_false, not_false_eq_true, reduceCtorEq, eq_self, k_abcd, S_cps, cut_LET]
        refine ⟨by decide, let_sz k, comp_filter (fun d => sD (w ++ [cD d])) (fun d => endF o (w ++ [cD d])) (fun d hd P P2 hP hP2 => ?_) ?_⟩
        · obtain ⟨c, hc, rfl⟩ := List.mem_map.mp hd
          have e0 : cD (PyData.str (S [c])) = c := rfl
          rw [e0] at hP hP2
          simp -dsimp only [↓uSeq, ↓uNext, ↓uKill, ↓uFrz, ↓uDrop, ↓uRet, ↓uIf, ↓uAsg, ↓uAsgO, ↓uPar2, ↓uPar3, ↓uAug, ↓uPut, ↓uDPut, ↓uFor_eq, ↓uWhile_eq, ↓uSeqM_eq, ↓uBrk, ↓uCnt, ↓uWelD, ↓gSet, ↓gN, ↓gC, ↓gT, ↓zE, ↓zF, ↓oE, ↓oV, ↓wV, ↓wC, ↓wOp, ↓wUn, ↓app2, ↓app1, ↓wTst, ↓tAndD, ↓tOrD, ↓tNotD, ↓wAndV, ↓wOrV, ↓wNotV, ↓wIf, ↓wChain, ↓osN, ↓osC, getAll, ↓appN, ↓wCB, ↓appM, ↓wBM, ↓wBM0, ↓wN, ↓wCs, ↓wTup, ↓wLst, ↓wDic0, ↓wDicT, ↓aN, ↓aC, ↓aW, ↓wCall_eq, ↓wCallK_eq, perm, List.filterMap_cons, List.filterMap_nil, ↓wApp, ↓wExt, ↓wPop, ↓wPopAt, ↓wListA, ↓wRpl, ↓iX, ↓iL, ↓iT, ↓iS, ↓iR1, ↓iR2, ↓iR3, ↓iScr, ↓iZD, ↓iE, ↓iE2, ↓iZ2, ↓iZ3, ↓seqD, ↓zipD3, ↓wComp_eq, ↓ttY, ↓wSl, ↓wPart, ↓plN, ↓wRev, ↓wListO, ↓wRep, ↓wLenSet, ↓wLenScr, ↓wWelI, ↓wWelPop, ↓wWelApp, ↓tWelNE, ↓wDisp, ↓wDispT, ↓psC, ↓psN, ↓wDIn, ↓wDNotIn, ↓wDG1, ↓wDG2, ↓wIsi, ↓askD, ↓uTry, ↓uRng, ↓iRV, ↓uRaise, ↓uRaise0, ↓uNever, ↓wCallX_eq, ↓wCallKX_eq, ↓wXf, ↓wIsX, ↓fAdd, ↓fSub, ↓fII, ↓fII0, ↓fDiv, ↓fMod, ↓fPow, ↓fLt, ↓fGt, ↓fLe, ↓fGe, ↓fGtD, ↓fLtD, ↓fLeD, ↓fGeD, ↓fNeg, ↓fMul, ↓fEq, ↓fNe, ↓eqQ, ↓fIsN, ↓fNotN, isNone_1, isNone_2, isNone_3, isNone_4, isNone_5, isNone_6, isNone_7, ↓fInC, ↓fNotInC, ↓fSub_, ↓fIx, ↓fSl, ↓fLen, ↓fTuple, ↓fMin1, ↓fMax1, ↓fSum, ↓fAll, ↓fAny, ↓fSorted, ↓fSortS, ↓fAbs, ↓fInt, ↓fRepr, ↓fCnt, ↓fIdx, ↓fJoin, ↓mSS, ↓mSB, ↓mTI, ↓mTB, ↓mTI3, ↓fInL, ↓fNinL, ↓fInT, ↓fNinT, ↓fInA, ↓fNinA, ↓fInB, ↓fNinB, isStr,
 atI_0, atI_1, atI_2, atI_3, endsG, fld_TooMany, fld_Unfit, mem0, toEnt, Mem.set, Mem.view, Mem.kill, Mem.frz, Mem.ro, Ent.ro', Opd.get,
 List.set_cons_zero, List.set_cons_succ, List.getElem?_cons_zero, List.getElem?_cons_succ, List.map_cons, List.map_nil, List.length_cons, List.length_nil, List.cons_append, List.nil_append, List.replicate_succ, List.replicate_zero, Option.map_some, Option.map_none, List.cons.injEq, and_true, true_and, Arg.x.injEq, exists_eq_left, exists_eq_right, Option.some.injEq, Ent.ow.injEq, Ent.im.injEq, PyData.int.injEq, PyData.list.injEq, PyData.dict.injEq, PyData.tuple.injEq, PyData.str.injEq, exists_eq', exists_eq, decide_eq_true_eq, Bool.not_eq_true', ite_true, ite_false, decide_true, decide_false, decide_eq_false_iff_not, not_true_eq_false, not_false_eq_true, reduceCtorEq, eq_self, S_cps]
          refine ⟨zl _ (by omega), ends_i (by simp; omega) ho ho2 ?_⟩
          simp -dsimp only [↓uSeq, ↓uNext, ↓uKill, ↓uFrz, ↓uDrop, ↓uRet, ↓uIf, ↓uAsg, ↓uAsgO, ↓uPar2, ↓uPar3, ↓uAug, ↓uPut, ↓uDPut, ↓uFor_eq, ↓uWhile_eq, ↓uSeqM_eq, ↓uBrk, ↓uCnt, ↓uWelD, ↓gSet, ↓gN, ↓gC, ↓gT, ↓zE, ↓zF, ↓oE, ↓oV, ↓wV, ↓wC, ↓wOp, ↓wUn, ↓app2, ↓app1, ↓wTst, ↓tAndD, ↓tOrD, ↓tNotD, ↓wAndV, ↓wOrV, ↓wNotV, ↓wIf, ↓wChain, ↓osN, ↓osC, getAll, ↓appN, ↓wCB, ↓appM, ↓wBM, ↓wBM0, ↓wN, ↓wCs, ↓wTup, ↓wLst, ↓wDic0, ↓wDicT, ↓aN, ↓aC, ↓aW, ↓wCall_eq, ↓wCallK_eq, perm, List.filterMap_cons, List.filterMap_nil, ↓wApp, ↓wExt, ↓wPop, ↓wPopAt, ↓wListA, ↓wRpl, ↓iX, ↓iL, ↓iT, ↓iS, ↓iR1, ↓iR2, ↓iR3, ↓iScr, ↓iZD, ↓iE, ↓iE2, ↓iZ2, ↓iZ3, ↓seqD, ↓zipD3, ↓wComp_eq, ↓ttY, ↓wSl, ↓wPart, ↓plN, ↓wRev, ↓wListO, ↓wRep, ↓wLenSet, ↓wLenScr, ↓wWelI, ↓wWelPop, ↓wWelApp, ↓tWelNE, ↓wDisp, ↓wDispT, ↓psC, ↓psN, ↓wDIn, ↓wDNotIn, ↓wDG1, ↓wDG2, ↓wIsi, ↓askD, ↓uTry, ↓uRng, ↓iRV, ↓uRaise, ↓uRaise0, ↓uNever, ↓wCallX_eq, ↓wCallKX_eq, ↓wXf, ↓wIsX, ↓fAdd, ↓fSub, ↓fII, ↓fII0, ↓fDiv, ↓fMod, ↓fPow, ↓fLt, ↓fGt, ↓fLe, ↓fGe, ↓fGtD, ↓fLtD, ↓fLeD, ↓fGeD, ↓fNeg, ↓fMul, ↓fEq, ↓fNe, ↓eqQ, ↓fIsN, ↓fNotN, isNone_1, isNone_2, isNone_3, isNone_4, isNone_5, isNone_6, isNone_7, ↓fInC, ↓fNotInC, ↓fSub_, ↓fIx, ↓fSl, ↓fLen, ↓fTuple, ↓fMin1, ↓fMax1, ↓fSum, ↓fAll, ↓fAny, ↓fSorted, ↓fSortS, ↓fAbs, ↓fInt, ↓fRepr, ↓fCnt, ↓fIdx, ↓fJoin, ↓mSS, ↓mSB, ↓mTI, ↓mTB, ↓mTI3, ↓fInL, ↓fNinL, ↓fInT, ↓fNinT, ↓fInA, ↓fNinA, ↓fInB, ↓fNinB, isStr,
 atI_0, atI_1, atI_2, atI_3, endsG, fld_TooMany, fld_Unfit, mem0, toEnt, Mem.set, Mem.view, Mem.kill, Mem.frz, Mem.ro, Ent.ro', Opd.get,
 List.set_cons_zero, List.set_cons_succ, List.getElem?_cons_zero, List.getElem?_cons_succ, List.map_cons, List.map_nil, List.length_cons, List.length_nil, List.cons_append, List.nil_append, List.replicate_succ, List.replicate_zero, Option.map_some, Option.map_none, List.cons.injEq, and_true, true_and, Arg.x.injEq, exists_eq_left, exists_eq_right, Option.some.injEq, Ent.ow.injEq, Ent.im.injEq, PyData.int.injEq, PyData.list.injEq, PyData.dict.injEq, PyData.tuple.injEq, PyData.str.injEq, exists_eq', exists_eq, decide_eq_true_eq, Bool.not_eq_true', ite_true, ite_false, decide_true, decide_false, decide_eq_false_iff_not, not_true_eq_false, not_false_eq_true, reduceCtorEq, eq_self]
          cases e : endF o (w ++ [c]) with
          | true => exact ⟨zl _ (by omega), hP e⟩
          | false => exact hP2 e
        · rw [let_filter w fun c => endF o (w ++ [c])]
          simp -dsimp only [↓uSeq, ↓uNext, ↓uKill, ↓uFrz, ↓uDrop, ↓uRet, ↓uIf, ↓uAsg, ↓uAsgO, ↓uPar2, ↓uPar3, ↓uAug, ↓uPut, ↓uDPut, ↓uFor_eq, ↓uWhile_eq, ↓uSeqM_eq, ↓uBrk, ↓uCnt, ↓uWelD, ↓gSet, ↓gN, ↓gC, ↓gT, ↓zE, ↓zF, ↓oE, ↓oV, ↓wV, ↓wC, ↓wOp, ↓wUn, ↓app2, ↓app1, ↓wTst, ↓tAndD, ↓tOrD, ↓tNotD, ↓wAndV, ↓wOrV, ↓wNotV, ↓wIf, ↓wChain, ↓osN, ↓osC, getAll, ↓appN, ↓wCB, ↓appM, ↓wBM, ↓wBM0, ↓wN, ↓wCs, ↓wTup, ↓wLst, ↓wDic0, ↓wDicT, ↓aN, ↓aC, ↓aW, ↓wCall_eq, ↓wCallK_eq, perm, List.filterMap_cons, List.filterMap_nil, ↓wApp, ↓wExt, ↓wPop, ↓wPopAt, ↓wListA, ↓wRpl, ↓iX, ↓iL, ↓iT, ↓iS, ↓iR1, ↓iR2, ↓iR3, ↓iScr, ↓iZD, ↓iE, ↓iE2, ↓iZ2, ↓iZ3, ↓seqD, ↓zipD3, ↓wComp_eq, ↓ttY, ↓wSl, ↓wPart, ↓plN, ↓wRev, ↓wListO, ↓wRep, ↓wLenSet, ↓wLenScr, ↓wWelI, ↓wWelPop, ↓wWelApp, ↓tWelNE, ↓wDisp, ↓wDispT, ↓psC, ↓psN, ↓wDIn, ↓wDNotIn, ↓wDG1, ↓wDG2, ↓wIsi, ↓askD, ↓uTry, ↓uRng, ↓iRV, ↓uRaise, ↓uRaise0, ↓uNever, ↓wCallX_eq, ↓wCallKX_eq, ↓wXf, ↓wIsX, ↓fAdd, ↓fSub, ↓fII, ↓fII0, ↓fDiv, ↓fMod, ↓fPow, ↓fLt, ↓fGt, ↓fLe, ↓fGe, ↓fGtD, ↓fLtD, ↓fLeD, ↓fGeD, ↓fNeg, ↓fMul, ↓fEq, ↓fNe, ↓eqQ, ↓fIsN, ↓fNotN, isNone_1, isNone_2, isNone_3, isNone_4, isNone_5, isNone_6, isNone_7, ↓fInC, ↓fNotInC, ↓fSub_, ↓fIx, ↓fSl, ↓fLen, ↓fTuple, ↓fMin1, ↓fMax1, ↓fSum, ↓fAll, ↓fAny, ↓fSorted, ↓fSortS, ↓fAbs, ↓fInt, ↓fRepr, ↓fCnt, ↓fIdx, ↓fJoin, ↓mSS, ↓mSB, ↓mTI, ↓mTB, ↓mTI3, ↓fInL, ↓fNinL, ↓fInT, ↓fNinT, ↓fInA, ↓fNinA, ↓fInB, ↓fNinB, isStr,
 atI_0, atI_1, atI_2, atI_3, endsG, fld_TooMany, fld_Unfit, mem0, toEnt, Mem.set, Mem.view, Mem.kill, Mem.frz, Mem.ro, Ent.ro', Opd.get,
 List.set_cons_zero, List.set_cons_succ, List.getElem?_cons_zero, List.getElem?_cons_succ, List.map_cons, List.map_nil, List.length_cons, List.length_nil, List.cons_append, List.nil_append, List.replicate_succ, List.replicate_zero, Option.map_some, Option.map_none, List.cons.injEq, and_true, true_and, Arg.x.injEq, exists_eq_left, exists_eq_right, Option.some.injEq, Ent.ow.injEq, Ent.im.injEq, PyData.int.injEq, PyData.list.injEq, PyData.dict.injEq, PyData.tuple.injEq, PyData.str.injEq, exists_eq', exists_eq, decide_eq_true_eq, Bool.not_eq_true', ite_true, ite_false, decide_true, decide_false, decide_eq_false_iff_not, not_true_eq_false, not_false_eq_true, reduceCtorEq, eq_self]
          have h1 := growP_len k o ((frees k o i).take j)
          have h3 : ((frees k o i).take j).length ≤ (frees k o i).length := by rw [List.length_take]; omega
          have h4 := hA i (by omega)
          have h5 : (((LET.take k).filter fun c => endF o (w ++ [c])).map fun c => w ++ [c]).length ≤ 4 := kids_len k o w
          refine ⟨zl2 _ (by rw [List.length_map, List.length_map]; omega), some (.im (sD w)), ?_⟩
          rw [growP_take k o (frees k o i) j hw, List.map_append]
          rfl
    · rintro M' ⟨e6, rfl⟩
      rw [List.length_map, List.take_length]
      simp -dsimp only [↓uSeq, ↓uNext, ↓uKill, ↓uFrz, ↓uDrop, ↓uRet, ↓uIf, ↓uAsg, ↓uAsgO, ↓uPar2, ↓uPar3, ↓uAug, ↓uPut, ↓uDPut, ↓uFor_eq, ↓uWhile_eq, ↓uSeqM_eq, ↓uBrk, ↓uCnt, ↓uWelD, ↓gSet, ↓gN, ↓gC, ↓gT, ↓zE, ↓zF, ↓oE, ↓oV, ↓wV, ↓wC, ↓wOp, ↓wUn, ↓app2, ↓app1, ↓wTst, ↓tAndD, ↓tOrD, ↓tNotD, ↓wAndV, ↓wOrV, ↓wNotV, ↓wIf, ↓wChain, ↓osN, ↓osC, getAll, ↓appN, ↓wCB, ↓appM, ↓wBM, ↓wBM0, ↓wN, ↓wCs, ↓wTup, ↓wLst, ↓wDic0, ↓wDicT, ↓aN, ↓aC, ↓aW, ↓wCall_eq, ↓wCallK_eq, perm, List.filterMap_cons, List.filterMap_nil, ↓wApp, ↓wExt, ↓wPop, ↓wPopAt, ↓wListA, ↓wRpl, ↓iX, ↓iL, ↓iT, ↓iS, ↓iR1, ↓iR2, ↓iR3, ↓iScr, ↓iZD, ↓iE, ↓iE2, ↓iZ2, ↓iZ3, ↓seqD, ↓zipD3, ↓wComp_eq, ↓ttY, ↓wSl, ↓wPart, ↓plN, ↓wRev, ↓wListO, ↓wRep, ↓wLenSet, ↓wLenScr, ↓wWelI, ↓wWelPop, ↓wWelApp, ↓tWelNE, ↓wDisp, ↓wDispT, ↓psC, ↓psN, ↓wDIn, ↓wDNotIn, ↓wDG1, ↓wDG2, ↓wIsi, ↓askD, ↓uTry, ↓uRng, ↓iRV, ↓uRaise, ↓uRaise0, ↓uNever, ↓wCallX_eq, ↓wCallKX_eq, ↓wXf, ↓wIsX, ↓fAdd, ↓fSub, ↓fII, ↓fII0, ↓fDiv, ↓fMod, ↓fPow, ↓fLt, ↓fGt, ↓fLe, ↓fGe, ↓fGtD, ↓fLtD, ↓fLeD, ↓fGeD, ↓fNeg, ↓fMul, ↓fEq, ↓fNe, ↓eqQ, ↓fIsN, ↓fNotN, isNone_1, isNone_2, isNone_3, isNone_4, isNone_5, isNone_6, isNone_7, ↓fInC, ↓fNotInC, ↓fSub_, ↓fIx, ↓fSl, ↓fLen, ↓fTuple, ↓fMin1, ↓fMax1, ↓fSum, ↓fAll, ↓fAny, ↓fSorted, ↓fSortS, ↓fAbs, ↓fInt, ↓fRepr, ↓fCnt, ↓fIdx, ↓fJoin, ↓mSS, ↓mSB, ↓mTI, ↓mTB, ↓mTI3, ↓fInL, ↓fNinL, ↓fInT, ↓fNinT, ↓fInA, ↓fNinA, ↓fInB, ↓fNinB, isStr,
 atI_0, atI_1, atI_2, atI_3, endsG, fld_TooMany, fld_Unfit, mem0, toEnt, Mem.set, Mem.view, Mem.kill, Mem.frz, Mem.ro, Ent.ro', Opd.get,
 List.set_cons_zero, List.set_cons_succ, List.getElem?_cons_zero, List.getElem?_cons_succ, List.map_cons, List.map_nil, List.length_cons, List.length_nil, List.cons_append, List.nil_append, List.replicate_succ, List.replicate_zero, Option.map_some, Option.map_none, List.cons.injEq, and_true, true_and, Arg.x.injEq, exists_eq_left, exists_eq_right, Option.some.injEq, Ent.ow.injEq, Ent.im.injEq, PyData.int.injEq, PyData.list.injEq, PyData.dict.injEq, PyData.tuple.injEq, PyData.str.injEq, exists_eq', exists_eq, decide_eq_true_eq, Bool.not_eq_true', ite_true, ite_false, decide_true, decide_false, decide_eq_false_iff_not, not_true_eq_false, not_false_eq_true, reduceCtorEq, eq_self, List.length_map]
      have h4 := hA (i + 1) (by omega)
      have e : growP k o (frees k o i) = frees k o (i + 1) := rfl
      rw [e, if_neg (by omega)]
      exact ⟨_, _, rfl⟩
  · rintro M' ⟨e4, e5, rfl⟩
    rw [rng_len]
    simp -dsimp only [↓uSeq, ↓uNext, ↓uKill, ↓uFrz, ↓uDrop, ↓uRet, ↓uIf, ↓uAsg, ↓uAsgO, ↓uPar2, ↓uPar3, ↓uAug, ↓uPut, ↓uDPut, ↓uFor_eq, ↓uWhile_eq, ↓uSeqM_eq, ↓uBrk, ↓uCnt, ↓uWelD, ↓gSet, ↓gN, ↓gC, ↓gT, ↓zE, ↓zF, ↓oE, ↓oV, ↓wV, ↓wC, ↓wOp, ↓wUn, ↓app2, ↓app1, ↓wTst, ↓tAndD, ↓tOrD, ↓tNotD, ↓wAndV, ↓wOrV, ↓wNotV, ↓wIf, ↓wChain, ↓osN, ↓osC, getAll, ↓appN, ↓wCB, ↓appM, ↓wBM, ↓wBM0, ↓wN, ↓wCs, ↓wTup, ↓wLst, ↓wDic0, ↓wDicT, ↓aN, ↓aC, ↓aW, ↓wCall_eq, ↓wCallK_eq, perm, List.filterMap_cons, List.filterMap_nil, ↓wApp, ↓wExt, ↓wPop, ↓wPopAt, ↓wListA, ↓wRpl, ↓iX, ↓iL, ↓iT, ↓iS, ↓iR1, ↓iR2, ↓iR3, ↓iScr, ↓iZD, ↓iE, ↓iE2, ↓iZ2, ↓iZ3, ↓seqD, ↓zipD3, ↓wComp_eq, ↓ttY, ↓wSl, ↓wPart, ↓plN, ↓wRev, ↓wListO, ↓wRep, ↓wLenSet, ↓wLenScr, ↓wWelI, ↓wWelPop, ↓wWelApp, ↓tWelNE, ↓wDisp, ↓wDispT, ↓psC, ↓psN, ↓wDIn, ↓wDNotIn, ↓wDG1, ↓wDG2, ↓wIsi, ↓askD, ↓uTry, ↓uRng, ↓iRV, ↓uRaise, ↓uRaise0, ↓uNever, ↓wCallX_eq, ↓wCallKX_eq, ↓wXf, ↓wIsX, ↓fAdd, ↓fSub, ↓fII, ↓fII0, ↓fDiv, ↓fMod, ↓fPow, ↓fLt, ↓fGt, ↓fLe, ↓fGe, ↓fGtD, ↓fLtD, ↓fLeD, ↓fGeD, ↓fNeg, ↓fMul, ↓fEq, ↓fNe, ↓eqQ, ↓fIsN, ↓fNotN, isNone_1, isNone_2, isNone_3, isNone_4, isNone_5, isNone_6, isNone_7, ↓fInC, ↓fNotInC, ↓fSub_, ↓fIx, ↓fSl, ↓fLen, ↓fTuple, ↓fMin1, ↓fMax1, ↓fSum, ↓fAll, ↓fAny, ↓fSorted, ↓fSortS, ↓fAbs, ↓fInt, ↓fRepr, ↓fCnt, ↓fIdx, ↓fJoin, ↓mSS, ↓mSB, ↓mTI, ↓mTB, ↓mTI3, ↓fInL, ↓fNinL, ↓fInT, ↓fNinT, ↓fInA, ↓fNinA, ↓fInB, ↓fNinB, isStr,
 atI_0, atI_1, atI_2, atI_3, endsG, fld_TooMany, fld_Unfit, mem0, toEnt, Mem.set, Mem.view, Mem.kill, Mem.frz, Mem.ro, Ent.ro', Opd.get,
 List.set_cons_zero, List.set_cons_succ, List.getElem?_cons_zero, List.getElem?_cons_succ, List.map_cons, List.map_nil, List.length_cons, List.length_nil, List.cons_append, List.nil_append, List.replicate_succ, List.replicate_zero, Option.map_some, Option.map_none, List.cons.injEq, and_true, true_and, Arg.x.injEq, exists_eq_left, exists_eq_right, Option.some.injEq, Ent.ow.injEq, Ent.im.injEq, PyData.int.injEq, PyData.list.injEq, PyData.dict.injEq, PyData.tuple.injEq, PyData.str.injEq, exists_eq', exists_eq, decide_eq_true_eq, Bool.not_eq_true', ite_true, ite_false, decide_true, decide_false, decide_eq_false_iff_not, not_true_eq_false, not_false_eq_true, reduceCtorEq, eq_self, List.length_map]
    refine ite_i (fun c => x (by omega)) (fun c => q (by omega))
/-! the search -/
theorem todo_eq {n : Nat} (t : List (List Nat)) (h : Stk n t) : flat (.list (t.map sD)) = true ∧ flat (.list []) = true ∧ SeqAt.shaped (.list (t.map sD)) = true ∧ SeqAt.shaped (.list []) = true :=
  Sm.eq (Sm.list (n := 0) (k := 10 * n + 2) (m := t.length) (fun x hx => by
    obtain ⟨w, hw, rfl⟩ := List.mem_map.mp hx
    obtain ⟨i, hi⟩ := List.mem_iff_getElem?.mp hw
    have := h i w hi
    exact Sm.str this.2.2.lt this.2.1) (by rw [List.length_map]; exact Nat.le_refl _)) (Sm.list (l := []) (n := 0) (k := 21) (m := 100) (fun x hx => by cases hx) (by decide)) (by decide) (by decide)
theorem pop_cases {α : Type} (t : List α) : t = [] ∨ ∃ u w, t = u ++ [w] := by
  rcases List.eq_nil_or_concat t with h | ⟨u, w, h⟩
  · exact .inl h
  · exact .inr ⟨u, w, by rw [h, List.concat_eq_append]⟩
theorem last_sD (u : List (List Nat)) (w : List Nat) : ((u ++ [w]).map sD)[((u ++ [w]).map sD).length - 1]? = some (sD w) := by
  rw [List.length_map, List.length_append]
  simp
theorem drop_sD (u : List (List Nat)) (w : List Nat) : ((u ++ [w]).map sD).dropLast = u.map sD := by
  rw [List.map_append]
  simp
theorem emp_sD (u : List (List Nat)) (w : List Nat) : ((u ++ [w]).map sD).isEmpty = false := by simp
def gLeast : GSpec := fun args wl Q => ∃ k n o : Nat, args = [.x (.int (k : Nat)), .x (.int (n : Nat)), .x (.int (o : Nat))] ∧ n ≤ 59 ∧ 2 ≤ o ∧ o ≤ 20 ∧ ∀ r, DR k o n [[]] r → Q r wl
def g_least_count_free : GSpec := gLeast
def g__law_least : GSpec := gLeast
theorem least_i {k n o : Nat} {wl : Option Wel} {Q : PyData → Option Wel → Prop} {lk : Lock Q} (h1 : n ≤ 59) (h2 : 2 ≤ o) (h3 : o ≤ 20) (q : ∀ r, DR k o n [[]] r → Q r wl) : callG g_least_count_free [.x (.int (k : Nat)), .x (.int (n : Nat)), .x (.int (o : Nat))] wl Q lk := ⟨k, n, o, rfl, h1, h2, h3, q⟩
theorem lleast_i {k n o : Nat} {wl : Option Wel} {Q : PyData → Option Wel → Prop} {lk : Lock Q} (h1 : n ≤ 59) (h2 : 2 ≤ o) (h3 : o ≤ 20) (q : ∀ r, DR k o n [[]] r → Q r wl) : callG g__law_least [.x (.int (k : Nat)), .x (.int (n : Nat)), .x (.int (o : Nat))] wl Q lk := ⟨k, n, o, rfl, h1, h2, h3, q⟩
def u_least_count_free : WS :=
  (uSeq (uAsgO (wLst (wCs (wC (.str "")) wN)) 3)
  (uSeq (uWhile [4, 5] (wTst (wOp fNe (oV 3) (oE (wLst wN))))
  (uSeq (uAsg (wPop 3) (gSet 4))
  (uSeq (uIf (wTst (wOp fEq (oE (wCB fLen (osC (oV 4) osN))) (oV 1)))
  (uRet (wV 4))
  uNext)
  (uSeq (uAsgO (wComp [6] (iX (wSl (oE (wC (.str "abcd"))) plN (wPart (oV 0)))) (gSet 6) (wTst (wCall g_ends_count_free (aC (wOp fAdd (oV 4) (oV 6)) (aC (wV 2) aN)))) (wOp fAdd (oV 4) (oV 6))) 5)
  (uDrop (wExt 3 (wRev (oV 5))))))))
  (uRet (wC .none))))
theorem pf_least_count_free (args : List Arg) (wl : Option Wel) (Q : PyData → Option Wel → Prop) (h : g_least_count_free args wl Q) : u_least_count_free noX (endsG Q) (mem0 7 args wl) := by
  obtain ⟨k, n, o, rfl, hn, ho, ho2, q⟩ := h
  simp -dsimp only [u_least_count_free, ↓uSeq, ↓uNext, ↓uKill, ↓uFrz, ↓uDrop, ↓uRet, ↓uIf, ↓uAsg, ↓uAsgO, ↓uPar2, ↓uPar3, ↓uAug, ↓uPut, ↓uDPut, ↓uFor_eq, ↓uWhile_eq, ↓uSeqM_eq, ↓uBrk, ↓uCnt, ↓uWelD, ↓gSet, ↓gN, ↓gC, ↓gT, ↓zE, ↓zF, ↓oE, ↓oV, ↓wV, ↓wC, ↓wOp, ↓wUn, ↓app2, ↓app1, ↓wTst, ↓tAndD, ↓tOrD, ↓tNotD, ↓wAndV, ↓wOrV, ↓wNotV, ↓wIf, ↓wChain, ↓osN, ↓osC, getAll, ↓appN, ↓wCB, ↓appM, ↓wBM, ↓wBM0, ↓wN, ↓wCs, ↓wTup, ↓wLst, ↓wDic0, ↓wDicT, ↓aN, ↓aC, ↓aW, ↓wCall_eq, ↓wCallK_eq, perm, List.filterMap_cons, List.filterMap_nil, ↓wApp, ↓wExt, ↓wPop, ↓wPopAt, ↓wListA, ↓wRpl, ↓iX, ↓iL, ↓iT, ↓iS, ↓iR1, ↓iR2, ↓iR3, ↓iScr, ↓iZD, ↓iE, ↓iE2, ↓iZ2, ↓iZ3, ↓seqD, ↓zipD3, ↓wComp_eq, ↓ttY, ↓wSl, ↓wPart, ↓plN, ↓wRev, ↓wListO, ↓wRep, ↓wLenSet, ↓wLenScr, ↓wWelI, ↓wWelPop, ↓wWelApp, ↓tWelNE, ↓wDisp, ↓wDispT, ↓psC, ↓psN, ↓wDIn, ↓wDNotIn, ↓wDG1, ↓wDG2, ↓wIsi, ↓askD, ↓uTry, ↓uRng, ↓iRV, ↓uRaise, ↓uRaise0, ↓uNever, ↓wCallX_eq, ↓wCallKX_eq, ↓wXf, ↓wIsX, ↓fAdd, ↓fSub, ↓fII, ↓fII0, ↓fDiv, ↓fMod, ↓fPow, ↓fLt, ↓fGt, ↓fLe, ↓fGe, ↓fGtD, ↓fLtD, ↓fLeD, ↓fGeD, ↓fNeg, ↓fMul, ↓fEq, ↓fNe, ↓eqQ, ↓fIsN, ↓fNotN, isNone_1, isNone_2, isNone_3, isNone_4, isNone_5, isNone_6, isNone_7, ↓fInC, ↓fNotInC, ↓fSub_, ↓fIx, ↓fSl, ↓fLen, ↓fTuple, ↓fMin1, ↓fMax1, ↓fSum, ↓fAll, ↓fAny, ↓fSorted, ↓fSortS, ↓fAbs, ↓fInt, ↓fRepr, ↓fCnt, ↓fIdx, ↓fJoin, ↓mSS, ↓mSB, ↓mTI, ↓mTB, ↓mTI3, ↓fInL, ↓fNinL, ↓fInT, ↓fNinT, ↓fInA, ↓fNinA, ↓fInB, ↓fNinB, isStr,
 atI_0, atI_1, atI_2, atI_3, endsG, fld_TooMany, fld_Unfit, mem0, toEnt, Mem.set, Mem.view, Mem.kill, Mem.frz, Mem.ro, Ent.ro', Opd.get,
 List.set_cons_zero, List.set_cons_succ, List.getElem?_cons_zero, List.getElem?_cons_succ, List.map_cons, List.map_nil, List.length_cons, List.length_nil, List.cons_append, List.nil_append, List.replicate_succ, List.replicate_zero, Option.map_some, Option.map_none, List.cons.injEq, and_true, true_and, Arg.x.injEq, exists_eq_left, exists_eq_right, Option.some.injEq, Ent.ow.injEq, Ent.im.injEq, PyData.int.injEq, PyData.list.injEq, PyData.dict.injEq, PyData.tuple.injEq, PyData.str.injEq, exists_eq', exists_eq, decide_eq_true_eq, Bool.not_eq_true', ite_true, ite_false, decide_true, decide_false, decide_eq_false_iff_not, not_true_eq_false, not_false_eq_true, reduceCtorEq, eq_self]
  refine ⟨by decide, while_i (fun m M => ∃ t, Stk n t ∧ (∀ r, DR k o n t r → DR k o n [[]] r) ∧ m = ms n t ∧ M = ⟨[some (.im (.int (k : Nat))), some (.im (.int (n : Nat))), some (.im (.int (o : Nat))), some (.ow (.list (t.map sD))), none, none, none], wl⟩) (ms n [[]]) ⟨[[]], Stk.start n, fun _ h => h, rfl, rfl⟩ ?_⟩
  rintro m M' ⟨t, ht, hr, rfl, rfl⟩
  rcases pop_cases t with rfl | ⟨u, w, rfl⟩
  · simp -dsimp only [↓uSeq, ↓uNext, ↓uKill, ↓uFrz, ↓uDrop, ↓uRet, ↓uIf, ↓uAsg, ↓uAsgO, ↓uPar2, ↓uPar3, ↓uAug, ↓uPut, ↓uDPut, ↓uFor_eq, ↓uWhile_eq, ↓uSeqM_eq, ↓uBrk, ↓uCnt, ↓uWelD, ↓gSet, ↓gN, ↓gC, ↓gT, ↓zE, ↓zF, ↓oE, ↓oV, ↓wV, ↓wC, ↓wOp, ↓wUn, ↓app2, ↓app1, ↓wTst, ↓tAndD, ↓tOrD, ↓tNotD, ↓wAndV, ↓wOrV, ↓wNotV, ↓wIf, ↓wChain, ↓osN, ↓osC, getAll, ↓appN, ↓wCB, ↓appM, ↓wBM, ↓wBM0, ↓wN, ↓wCs, ↓wTup, ↓wLst, ↓wDic0, ↓wDicT, ↓aN, ↓aC, ↓aW, ↓wCall_eq, ↓wCallK_eq, perm, List.filterMap_cons, List.filterMap_nil, ↓wApp, ↓wExt, ↓wPop, ↓wPopAt, ↓wListA, ↓wRpl, ↓iX, ↓iL, ↓iT, ↓iS, ↓iR1, ↓iR2, ↓iR3, ↓iScr, ↓iZD, ↓iE, ↓iE2, ↓iZ2, ↓iZ3, ↓seqD, ↓zipD3, ↓wComp_eq, ↓ttY, ↓wSl, ↓wPart, ↓plN, ↓wRev, ↓wListO, ↓wRep, ↓wLenSet, ↓wLenScr, ↓wWelI, ↓wWelPop, ↓wWelApp, ↓tWelNE, ↓wDisp, ↓wDispT, ↓psC, ↓psN, ↓wDIn, ↓wDNotIn, ↓wDG1, ↓wDG2, ↓wIsi, ↓askD, ↓uTry, ↓uRng, ↓iRV, ↓uRaise, ↓uRaise0, ↓uNever, ↓wCallX_eq, ↓wCallKX_eq, ↓wXf, ↓wIsX, ↓fAdd, ↓fSub, ↓fII, ↓fII0, ↓fDiv, ↓fMod, ↓fPow, ↓fLt, ↓fGt, ↓fLe, ↓fGe, ↓fGtD, ↓fLtD, ↓fLeD, ↓fGeD, ↓fNeg, ↓fMul, ↓fEq, ↓fNe, ↓eqQ, ↓fIsN, ↓fNotN, isNone_1, isNone_2, isNone_3, isNone_4, isNone_5, isNone_6, isNone_7, ↓fInC, ↓fNotInC, ↓fSub_, ↓fIx, ↓fSl, ↓fLen, ↓fTuple, ↓fMin1, ↓fMax1, ↓fSum, ↓fAll, ↓fAny, ↓fSorted, ↓fSortS, ↓fAbs, ↓fInt, ↓fRepr, ↓fCnt, ↓fIdx, ↓fJoin, ↓mSS, ↓mSB, ↓mTI, ↓mTB, ↓mTI3, ↓fInL, ↓fNinL, ↓fInT, ↓fNinT, ↓fInA, ↓fNinA, ↓fInB, ↓fNinB, isStr,
 atI_0, atI_1, atI_2, atI_3, endsG, fld_TooMany, fld_Unfit, mem0, toEnt, Mem.set, Mem.view, Mem.kill, Mem.frz, Mem.ro, Ent.ro', Opd.get,
 List.set_cons_zero, List.set_cons_succ, List.getElem?_cons_zero, List.getElem?_cons_succ, List.map_cons, List.map_nil, List.length_cons, List.length_nil, List.cons_append, List.nil_append, List.replicate_succ, List.replicate_zero, Option.map_some, Option.map_none, List.cons.injEq, and_true, true_and, Arg.x.injEq, exists_eq_left, exists_eq_right, Option.some.injEq, Ent.ow.injEq, Ent.im.injEq, PyData.int.injEq, PyData.list.injEq, PyData.dict.injEq, PyData.tuple.injEq, PyData.str.injEq, exists_eq', exists_eq, decide_eq_true_eq, Bool.not_eq_true', ite_true, ite_false, decide_true, decide_false, decide_eq_false_iff_not, not_true_eq_false, not_false_eq_true, reduceCtorEq, eq_self, eqv_nil]
    refine ⟨by decide, todo_eq [] ht, ?_⟩
    rw [if_neg (by simp)]
    exact q _ (hr _ .nil)
  · have l1 := last_sD u w
    have l2 := drop_sD u w
    have l3 := emp_sD u w
    have hw := ht u.length w (by simp)
    simp -dsimp only [↓uSeq, ↓uNext, ↓uKill, ↓uFrz, ↓uDrop, ↓uRet, ↓uIf, ↓uAsg, ↓uAsgO, ↓uPar2, ↓uPar3, ↓uAug, ↓uPut, ↓uDPut, ↓uFor_eq, ↓uWhile_eq, ↓uSeqM_eq, ↓uBrk, ↓uCnt, ↓uWelD, ↓gSet, ↓gN, ↓gC, ↓gT, ↓zE, ↓zF, ↓oE, ↓oV, ↓wV, ↓wC, ↓wOp, ↓wUn, ↓app2, ↓app1, ↓wTst, ↓tAndD, ↓tOrD, ↓tNotD, ↓wAndV, ↓wOrV, ↓wNotV, ↓wIf, ↓wChain, ↓osN, ↓osC, getAll, ↓appN, ↓wCB, ↓appM, ↓wBM, ↓wBM0, ↓wN, ↓wCs, ↓wTup, ↓wLst, ↓wDic0, ↓wDicT, ↓aN, ↓aC, ↓aW, ↓wCall_eq, ↓wCallK_eq, perm, List.filterMap_cons, List.filterMap_nil, ↓wApp, ↓wExt, ↓wPop, ↓wPopAt, ↓wListA, ↓wRpl, ↓iX, ↓iL, ↓iT, ↓iS, ↓iR1, ↓iR2, ↓iR3, ↓iScr, ↓iZD, ↓iE, ↓iE2, ↓iZ2, ↓iZ3, ↓seqD, ↓zipD3, ↓wComp_eq, ↓ttY, ↓wSl, ↓wPart, ↓plN, ↓wRev, ↓wListO, ↓wRep, ↓wLenSet, ↓wLenScr, ↓wWelI, ↓wWelPop, ↓wWelApp, ↓tWelNE, ↓wDisp, ↓wDispT, ↓psC, ↓psN, ↓wDIn, ↓wDNotIn, ↓wDG1, ↓wDG2, ↓wIsi, ↓askD, ↓uTry, ↓uRng, ↓iRV, ↓uRaise, ↓uRaise0, ↓uNever, ↓wCallX_eq, ↓wCallKX_eq, ↓wXf, ↓wIsX, ↓fAdd, ↓fSub, ↓fII, ↓fII0, ↓fDiv, ↓fMod, ↓fPow, ↓fLt, ↓fGt, ↓fLe, ↓fGe, ↓fGtD, ↓fLtD, ↓fLeD, ↓fGeD, ↓fNeg, ↓fMul, ↓fEq, ↓fNe, ↓eqQ, ↓fIsN, ↓fNotN, isNone_1, isNone_2, isNone_3, isNone_4, isNone_5, isNone_6, isNone_7, ↓fInC, ↓fNotInC, ↓fSub_, ↓fIx, ↓fSl, ↓fLen, ↓fTuple, ↓fMin1, ↓fMax1, ↓fSum, ↓fAll, ↓fAny, ↓fSorted, ↓fSortS, ↓fAbs, ↓fInt, ↓fRepr, ↓fCnt, ↓fIdx, ↓fJoin, ↓mSS, ↓mSB, ↓mTI, ↓mTB, ↓mTI3, ↓fInL, ↓fNinL, ↓fInT, ↓fNinT, ↓fInA, ↓fNinA, ↓fInB, ↓fNinB, isStr,
 atI_0, atI_1, atI_2, atI_3, endsG, fld_TooMany, fld_Unfit, mem0, toEnt, Mem.set, Mem.view, Mem.kill, Mem.frz, Mem.ro, Ent.ro', Opd.get,
 List.set_cons_zero, List.set_cons_succ, List.getElem?_cons_zero, List.getElem?_cons_succ, List.map_cons, List.map_nil, List.length_cons, List.length_nil, List.cons_append, List.nil_append, List.replicate_succ, List.replicate_zero, Option.map_some, Option.map_none, List.cons.injEq, and_true, true_and, Arg.x.injEq, exists_eq_left, exists_eq_right, Option.some.injEq, Ent.ow.injEq, Ent.im.injEq, PyData.int.injEq, PyData.list.injEq, PyData.dict.injEq, PyData.tuple.injEq, PyData.str.injEq, exists_eq', exists_eq, decide_eq_true_eq, Bool.not_eq_true', ite_true, ite_false, decide_true, decide_false, decide_eq_false_iff_not, not_true_eq_false, not_false_eq_true, reduceCtorEq, eq_self, eqv_nil, l1, l2, l3, k_abcd, S_cps, cut_LET]
    refine ⟨by decide, todo_eq _ ht, zl _ (by omega), ite_i (fun c => q _ (hr _ (.hit (by omega)))) (fun c => ?_)⟩
    have hwn : w.length ≠ n := by omega
    refine ⟨by decide, let_sz k, comp_filter (fun d => sD (w ++ [cD d])) (fun d => endF o (w ++ [cD d])) (fun d hd P P2 hP hP2 => ?_) ?_⟩
    · obtain ⟨c, hc, rfl⟩ := List.mem_map.mp hd
      have e0 : cD (PyData.str (S [c])) = c := rfl
      rw [e0] at hP hP2
      simp -dsimp only [↓uSeq, ↓uNext, ↓uKill, ↓uFrz, ↓uDrop, ↓uRet, ↓uIf, ↓uAsg, ↓uAsgO, ↓uPar2, ↓uPar3, ↓uAug, ↓uPut, ↓uDPut, ↓uFor_eq, ↓uWhile_eq, ↓uSeqM_eq, ↓uBrk, ↓uCnt, ↓uWelD, ↓gSet, ↓gN, ↓gC, ↓gT, ↓zE, ↓zF, ↓oE, ↓oV, ↓wV, ↓wC, ↓wOp, ↓wUn, ↓app2, ↓app1, ↓wTst, ↓tAndD, ↓tOrD, ↓tNotD, ↓wAndV, ↓wOrV, ↓wNotV, ↓wIf, ↓wChain, ↓osN, ↓osC, getAll, ↓appN, ↓wCB, ↓appM, ↓wBM, ↓wBM0, ↓wN, ↓wCs, ↓wTup, ↓wLst, ↓wDic0, ↓wDicT, ↓aN, ↓aC, ↓aW, ↓wCall_eq, ↓wCallK_eq, perm, List.filterMap_cons, List.filterMap_nil, ↓wApp, ↓wExt, ↓wPop, ↓wPopAt, ↓wListA, ↓wRpl, ↓iX, ↓iL, ↓iT, ↓iS, ↓iR1, ↓iR2, ↓iR3, ↓iScr, ↓iZD, ↓iE, ↓iE2, ↓iZ2, ↓iZ3, ↓seqD, ↓zipD3, ↓wComp_eq, ↓ttY, ↓wSl, ↓wPart, ↓plN, ↓wRev, ↓wListO, ↓wRep, ↓wLenSet, ↓wLenScr, ↓wWelI, ↓wWelPop, ↓wWelApp, ↓tWelNE, ↓wDisp, ↓wDispT, ↓psC, ↓psN, ↓wDIn, ↓wDNotIn, ↓wDG1, ↓wDG2, ↓wIsi, ↓askD, ↓uTry, ↓uRng, ↓iRV, ↓uRaise, ↓uRaise0, ↓uNever, ↓wCallX_eq, ↓wCallKX_eq, ↓wXf, ↓wIsX, ↓fAdd, ↓fSub, ↓fII, ↓fII0, ↓fDiv, ↓fMod, ↓fPow, ↓fLt, ↓fGt, ↓fLe, ↓fGe, ↓fGtD, ↓fLtD, ↓fLeD, ↓fGeD, ↓fNeg, ↓fMul, ↓fEq, ↓fNe, ↓eqQ, ↓fIsN, ↓fNotN, isNone_1, isNone_2, isNone_3, isNone_4, isNone_5, isNone_6, isNone_7, ↓fInC, ↓fNotInC, ↓fSub_, ↓fIx, ↓fSl, ↓fLen, ↓fTuple, ↓fMin1, ↓fMax1, ↓fSum, ↓fAll, ↓fAny, ↓fSorted, ↓fSortS, ↓fAbs, ↓fInt, ↓fRepr, ↓fCnt, ↓fIdx, ↓fJoin, ↓mSS, ↓mSB, ↓mTI, ↓mTB, ↓mTI3, ↓fInL, ↓fNinL, ↓fInT, ↓fNinT, ↓fInA, ↓fNinA, ↓fInB, ↓fNinB, isStr,
 atI_0, atI_1, atI_2, atI_3, endsG, fld_TooMany, fld_Unfit, mem0, toEnt, Mem.set, Mem.view, Mem.kill, Mem.frz, Mem.ro, Ent.ro', Opd.get,
 List.set_cons_zero, List.set_cons_succ, List.getElem?_cons_zero, List.getElem?_cons_succ, List.map_cons, List.map_nil, List.length_cons, List.length_nil, List.cons_append, List.nil_append, List.replicate_succ, List.replicate_zero, Option.map_some, Option.map_none, List.cons.injEq, and_true, true_and, Arg.x.injEq, exists_eq_left, exists_eq_right, Option.some.injEq, Ent.ow.injEq, Ent.im.injEq, PyData.int.injEq, PyData.list.injEq, PyData.dict.injEq, PyData.tuple.injEq, PyData.str.injEq, exists_eq', exists_eq, decide_eq_true_eq, Bool.not_eq_true', ite_true, ite_false, decide_true, decide_false, decide_eq_false_iff_not, not_true_eq_false, not_false_eq_true, reduceCtorEq, eq_self, S_cps]
      refine ⟨zl _ (by omega), ends_i (by simp; omega) ho ho2 ?_⟩
      simp -dsimp only [↓uSeq, ↓uNext, ↓uKill, ↓uFrz, ↓uDrop, ↓uRet, ↓uIf, ↓uAsg, ↓uAsgO, ↓uPar2, ↓uPar3, ↓uAug, ↓uPut, ↓uDPut, ↓uFor_eq, ↓uWhile_eq, ↓uSeqM_eq, ↓uBrk, ↓uCnt, ↓uWelD, ↓gSet, ↓gN, ↓gC, ↓gT, ↓zE, ↓zF, ↓oE, ↓oV, ↓wV, ↓wC, ↓wOp, ↓wUn, ↓app2, ↓app1, ↓wTst, ↓tAndD, ↓tOrD, ↓tNotD, ↓wAndV, ↓wOrV, ↓wNotV, ↓wIf, ↓wChain, ↓osN, ↓osC, getAll, ↓appN, ↓wCB, ↓appM, ↓wBM, ↓wBM0, ↓wN, ↓wCs, ↓wTup, ↓wLst, ↓wDic0, ↓wDicT, ↓aN, ↓aC, ↓aW, ↓wCall_eq, ↓wCallK_eq, perm, List.filterMap_cons, List.filterMap_nil, ↓wApp, ↓wExt, ↓wPop, ↓wPopAt, ↓wListA, ↓wRpl, ↓iX, ↓iL, ↓iT, ↓iS, ↓iR1, ↓iR2, ↓iR3, ↓iScr, ↓iZD, ↓iE, ↓iE2, ↓iZ2, ↓iZ3, ↓seqD, ↓zipD3, ↓wComp_eq, ↓ttY, ↓wSl, ↓wPart, ↓plN, ↓wRev, ↓wListO, ↓wRep, ↓wLenSet, ↓wLenScr, ↓wWelI, ↓wWelPop, ↓wWelApp, ↓tWelNE, ↓wDisp, ↓wDispT, ↓psC, ↓psN, ↓wDIn, ↓wDNotIn, ↓wDG1, ↓wDG2, ↓wIsi, ↓askD, ↓uTry, ↓uRng, ↓iRV, ↓uRaise, ↓uRaise0, ↓uNever, ↓wCallX_eq, ↓wCallKX_eq, ↓wXf, ↓wIsX, ↓fAdd, ↓fSub, ↓fII, ↓fII0, ↓fDiv, ↓fMod, ↓fPow, ↓fLt, ↓fGt, ↓fLe, ↓fGe, ↓fGtD, ↓fLtD, ↓fLeD, ↓fGeD, ↓fNeg, ↓fMul, ↓fEq, ↓fNe, ↓eqQ, ↓fIsN, ↓fNotN, isNone_1, isNone_2, isNone_3, isNone_4, isNone_5, isNone_6, isNone_7, ↓fInC, ↓fNotInC, ↓fSub_, ↓fIx, ↓fSl, ↓fLen, ↓fTuple, ↓fMin1, ↓fMax1, ↓fSum, ↓fAll, ↓fAny, ↓fSorted, ↓fSortS, ↓fAbs, ↓fInt, ↓fRepr, ↓fCnt, ↓fIdx, ↓fJoin, ↓mSS, ↓mSB, ↓mTI, ↓mTB, ↓mTI3, ↓fInL, ↓fNinL, ↓fInT, ↓fNinT, ↓fInA, ↓fNinA, ↓fInB, ↓fNinB, isStr,
 atI_0, atI_1, atI_2, atI_3, endsG, fld_TooMany, fld_Unfit, mem0, toEnt, Mem.set, Mem.view, Mem.kill, Mem.frz, Mem.ro, Ent.ro', Opd.get,
 List.set_cons_zero, List.set_cons_succ, List.getElem?_cons_zero, List.getElem?_cons_succ, List.map_cons, List.map_nil, List.length_cons, List.length_nil, List.cons_append, List.nil_append, List.replicate_succ, List.replicate_zero, Option.map_some, Option.map_none, List.cons.injEq, and_true, true_and, Arg.x.injEq, exists_eq_left, exists_eq_right, Option.some.injEq, Ent.ow.injEq, Ent.im.injEq, PyData.int.injEq, PyData.list.injEq, PyData.dict.injEq, PyData.tuple.injEq, PyData.str.injEq, exists_eq', exists_eq, decide_eq_true_eq, Bool.not_eq_true', ite_true, ite_false, decide_true, decide_false, decide_eq_false_iff_not, not_true_eq_false, not_false_eq_true, reduceCtorEq, eq_self]
      cases e : endF o (w ++ [c]) with
      | true => exact ⟨zl _ (by omega), hP e⟩
      | false => exact hP2 e
    · rw [let_filter w fun c => endF o (w ++ [c])]
      simp -dsimp only [↓uSeq, ↓uNext, ↓uKill, ↓uFrz, ↓uDrop, ↓uRet, ↓uIf, ↓uAsg, ↓uAsgO, ↓uPar2, ↓uPar3, ↓uAug, ↓uPut, ↓uDPut, ↓uFor_eq, ↓uWhile_eq, ↓uSeqM_eq, ↓uBrk, ↓uCnt, ↓uWelD, ↓gSet, ↓gN, ↓gC, ↓gT, ↓zE, ↓zF, ↓oE, ↓oV, ↓wV, ↓wC, ↓wOp, ↓wUn, ↓app2, ↓app1, ↓wTst, ↓tAndD, ↓tOrD, ↓tNotD, ↓wAndV, ↓wOrV, ↓wNotV, ↓wIf, ↓wChain, ↓osN, ↓osC, getAll, ↓appN, ↓wCB, ↓appM, ↓wBM, ↓wBM0, ↓wN, ↓wCs, ↓wTup, ↓wLst, ↓wDic0, ↓wDicT, ↓aN, ↓aC, ↓aW, ↓wCall_eq, ↓wCallK_eq, perm, List.filterMap_cons, List.filterMap_nil, ↓wApp, ↓wExt, ↓wPop, ↓wPopAt, ↓wListA, ↓wRpl, ↓iX, ↓iL, ↓iT, ↓iS, ↓iR1, ↓iR2, ↓iR3, ↓iScr, ↓iZD, ↓iE, ↓iE2, ↓iZ2, ↓iZ3, ↓seqD, ↓zipD3, ↓wComp_eq, ↓ttY, ↓wSl, ↓wPart, ↓plN, ↓wRev, ↓wListO, ↓wRep, ↓wLenSet, ↓wLenScr, ↓wWelI, ↓wWelPop, ↓wWelApp, ↓tWelNE, ↓wDisp, ↓wDispT, ↓psC, ↓psN, ↓wDIn, ↓wDNotIn, ↓wDG1, ↓wDG2, ↓wIsi, ↓askD, ↓uTry, ↓uRng, ↓iRV, ↓uRaise, ↓uRaise0, ↓uNever, ↓wCallX_eq, ↓wCallKX_eq, ↓wXf, ↓wIsX, ↓fAdd, ↓fSub, ↓fII, ↓fII0, ↓fDiv, ↓fMod, ↓fPow, ↓fLt, ↓fGt, ↓fLe, ↓fGe, ↓fGtD, ↓fLtD, ↓fLeD, ↓fGeD, ↓fNeg, ↓fMul, ↓fEq, ↓fNe, ↓eqQ, ↓fIsN, ↓fNotN, isNone_1, isNone_2, isNone_3, isNone_4, isNone_5, isNone_6, isNone_7, ↓fInC, ↓fNotInC, ↓fSub_, ↓fIx, ↓fSl, ↓fLen, ↓fTuple, ↓fMin1, ↓fMax1, ↓fSum, ↓fAll, ↓fAny, ↓fSorted, ↓fSortS, ↓fAbs, ↓fInt, ↓fRepr, ↓fCnt, ↓fIdx, ↓fJoin, ↓mSS, ↓mSB, ↓mTI, ↓mTB, ↓mTI3, ↓fInL, ↓fNinL, ↓fInT, ↓fNinT, ↓fInA, ↓fNinA, ↓fInB, ↓fNinB, isStr,
 atI_0, atI_1, atI_2, atI_3, endsG, fld_TooMany, fld_Unfit, mem0, toEnt, Mem.set, Mem.view, Mem.kill, Mem.frz, Mem.ro, Ent.ro', Opd.get,
 List.set_cons_zero, List.set_cons_succ, List.getElem?_cons_zero, List.getElem?_cons_succ, List.map_cons, List.map_nil, List.length_cons, List.length_nil, List.cons_append, List.nil_append, List.replicate_succ, List.replicate_zero, Option.map_some, Option.map_none, List.cons.injEq, and_true, true_and, Arg.x.injEq, exists_eq_left, exists_eq_right, Option.some.injEq, Ent.ow.injEq, Ent.im.injEq, PyData.int.injEq, PyData.list.injEq, PyData.dict.injEq, PyData.tuple.injEq, PyData.str.injEq, exists_eq', exists_eq, decide_eq_true_eq, Bool.not_eq_true', ite_true, ite_false, decide_true, decide_false, decide_eq_false_iff_not, not_true_eq_false, not_false_eq_true, reduceCtorEq, eq_self]
      have ek : ((LET.take k).filter fun c => endF o (w ++ [c])).map (fun c => w ++ [c]) = kids k o w := rfl
      have hg := ht.go (k := k) (o := o) hwn
      have hl := hg.len
      rw [List.length_append, List.length_reverse] at hl
      rw [ek, l2, ← List.map_reverse, ← List.map_append]
      exact ⟨zl2 _ (by rw [List.length_map, List.length_map, List.length_reverse]; omega), _, ms_go ht hwn, u ++ (kids k o w).reverse, hg, fun r h => hr r (.go hwn h), rfl, rfl⟩
/-! _law_grown -/
def g__law_grown : GSpec := fun args wl Q => ∃ (ws : List (List Nat)) (k o : Nat), args = [.x (.list (ws.map sD)), .x (.int (k : Nat)), .x (.int (o : Nat))] ∧ ws.length ≤ 4000 ∧ (∀ w ∈ ws, w.length ≤ 59) ∧ 2 ≤ o ∧ o ≤ 20 ∧ Q (.list ((growP k o ws).map sD)) wl
theorem grown_i {ws : List (List Nat)} {k o : Nat} {wl : Option Wel} {Q : PyData → Option Wel → Prop} {lk : Lock Q} (h1 : ws.length ≤ 4000) (h2 : ∀ w ∈ ws, w.length ≤ 59) (h3 : 2 ≤ o) (h4 : o ≤ 20) (q : Q (.list ((growP k o ws).map sD)) wl) : callG g__law_grown [.x (.list (ws.map sD)), .x (.int (k : Nat)), .x (.int (o : Nat))] wl Q lk := ⟨ws, k, o, rfl, h1, h2, h3, h4, q⟩
def wD : PyData → List Nat
  | .str x => x.cps.toList
  | _ => []
theorem wD_filter (g : List Nat → Bool) (L : List (List Nat)) : ((L.map sD).filter fun d => g (wD d)).map (fun d => d) = (L.filter g).map sD := by
  rw [List.filter_map, List.map_id']
  rfl
def u__law_grown : WS :=
  (uSeq (uAsgO (wLst wN) 3)
  (uSeq (uFor [4] (iX (wV 0)) (gSet 4)
  (uDrop (wExt 3 (wComp [5] (iX (wSl (oE (wC (.str "abcd"))) plN (wPart (oV 1)))) (gSet 5) ttY (wOp fAdd (oV 4) (oV 5))))))
  (uFrz 3 (uRet (wComp [4] (iX (wV 3)) (gSet 4) (wTst (wCall g__law_ends_free (aC (wV 4) (aC (wV 2) aN)))) (wV 4))))))
theorem pf__law_grown (args : List Arg) (wl : Option Wel) (Q : PyData → Option Wel → Prop) (h : g__law_grown args wl Q) : u__law_grown noX (endsG Q) (mem0 6 args wl) := by
  obtain ⟨ws, k, o, rfl, hn, hl, ho, ho2, q⟩ := h
  simp -dsimp only [u__law_grown, ↓uSeq, ↓uNext, ↓uKill, ↓uFrz, ↓uDrop, ↓uRet, ↓uIf, ↓uAsg, ↓uAsgO, ↓uPar2, ↓uPar3, ↓uAug, ↓uPut, ↓uDPut, ↓uFor_eq, ↓uWhile_eq, ↓uSeqM_eq, ↓uBrk, ↓uCnt, ↓uWelD, ↓gSet, ↓gN, ↓gC, ↓gT, ↓zE, ↓zF, ↓oE, ↓oV, ↓wV, ↓wC, ↓wOp, ↓wUn, ↓app2, ↓app1, ↓wTst, ↓tAndD, ↓tOrD, ↓tNotD, ↓wAndV, ↓wOrV, ↓wNotV, ↓wIf, ↓wChain, ↓osN, ↓osC, getAll, ↓appN, ↓wCB, ↓appM, ↓wBM, ↓wBM0, ↓wN, ↓wCs, ↓wTup, ↓wLst, ↓wDic0, ↓wDicT, ↓aN, ↓aC, ↓aW, ↓wCall_eq, ↓wCallK_eq, perm, List.filterMap_cons, List.filterMap_nil, ↓wApp, ↓wExt, ↓wPop, ↓wPopAt, ↓wListA, ↓wRpl, ↓iX, ↓iL, ↓iT, ↓iS, ↓iR1, ↓iR2, ↓iR3, ↓iScr, ↓iZD, ↓iE, ↓iE2, ↓iZ2, ↓iZ3, ↓seqD, ↓zipD3, ↓wComp_eq, ↓ttY, ↓wSl, ↓wPart, ↓plN, ↓wRev, ↓wListO, ↓wRep, ↓wLenSet, ↓wLenScr, ↓wWelI, ↓wWelPop, ↓wWelApp, ↓tWelNE, ↓wDisp, ↓wDispT, ↓psC, ↓psN, ↓wDIn, ↓wDNotIn, ↓wDG1, ↓wDG2, ↓wIsi, ↓askD, ↓uTry, ↓uRng, ↓iRV, ↓uRaise, ↓uRaise0, ↓uNever, ↓wCallX_eq, ↓wCallKX_eq, ↓wXf, ↓wIsX, ↓fAdd, ↓fSub, ↓fII, ↓fII0, ↓fDiv, ↓fMod, ↓fPow, ↓fLt, ↓fGt, ↓fLe, ↓fGe, ↓fGtD, ↓fLtD, ↓fLeD, ↓fGeD, ↓fNeg, ↓fMul, ↓fEq, ↓fNe, ↓eqQ, ↓fIsN, ↓fNotN, isNone_1, isNone_2, isNone_3, isNone_4, isNone_5, isNone_6, isNone_7, ↓fInC, ↓fNotInC, ↓fSub_, ↓fIx, ↓fSl, ↓fLen, ↓fTuple, ↓fMin1, ↓fMax1, ↓fSum, ↓fAll, ↓fAny, ↓fSorted, ↓fSortS, ↓fAbs, ↓fInt, ↓fRepr, ↓fCnt, ↓fIdx, ↓fJoin, ↓mSS, ↓mSB, ↓mTI, ↓mTB, ↓mTI3, ↓fInL, ↓fNinL, ↓fInT, ↓fNinT, ↓fInA, ↓fNinA, ↓fInB, ↓fNinB, isStr,
 atI_0, atI_1, atI_2, atI_3, endsG, fld_TooMany, fld_Unfit, mem0, toEnt, Mem.set, Mem.view, Mem.kill, Mem.frz, Mem.ro, Ent.ro', Opd.get,
 List.set_cons_zero, List.set_cons_succ, List.getElem?_cons_zero, List.getElem?_cons_succ, List.map_cons, List.map_nil, List.length_cons, List.length_nil, List.cons_append, List.nil_append, List.replicate_succ, List.replicate_zero, Option.map_some, Option.map_none, List.cons.injEq, and_true, true_and, Arg.x.injEq, exists_eq_left, exists_eq_right, Option.some.injEq, Ent.ow.injEq, Ent.im.injEq, PyData.int.injEq, PyData.list.injEq, PyData.dict.injEq, PyData.tuple.injEq, PyData.str.injEq, exists_eq', exists_eq, decide_eq_true_eq, Bool.not_eq_true', ite_true, ite_false, decide_true, decide_false, decide_eq_false_iff_not, not_true_eq_false, not_false_eq_true, reduceCtorEq, eq_self]
  refine ⟨by decide, for_i (fun j M => ∃ e4 : Option Ent, M = ⟨[some (.im (.list (ws.map sD))), some (.im (.int (k : Nat))), some (.im (.int (o : Nat))), some (.ow (.list ((addL k (ws.take j)).map sD))), e4, none], wl⟩) ⟨none, rfl⟩ ?_ ?_⟩
  · rintro j d M' hd ⟨e4, rfl⟩
    rw [List.getElem?_map] at hd
    cases hw : ws[j]? with
    | none => rw [hw] at hd; cases hd
    | some w =>
      rw [hw] at hd
      cases hd
      have w59 := hl w (List.mem_of_getElem? hw)
      simp -dsimp only [↓uSeq, ↓uNext, ↓uKill, ↓uFrz, ↓uDrop, ↓uRet, ↓uIf, ↓uAsg, ↓uAsgO, ↓uPar2, ↓uPar3, ↓uAug, ↓uPut, ↓uDPut, ↓uFor_eq, ↓uWhile_eq, ↓uSeqM_eq, ↓uBrk, ↓uCnt, ↓uWelD, ↓gSet, ↓gN, ↓gC, ↓gT, ↓zE, ↓zF, ↓oE, ↓oV, ↓wV, ↓wC, ↓wOp, ↓wUn, ↓app2, ↓app1, ↓wTst, ↓tAndD, ↓tOrD, ↓tNotD, ↓wAndV, ↓wOrV, ↓wNotV, ↓wIf, ↓wChain, ↓osN, ↓osC, getAll, ↓appN, ↓wCB, ↓appM, ↓wBM, ↓wBM0, ↓wN, ↓wCs, ↓wTup, ↓wLst, ↓wDic0, ↓wDicT, ↓aN, ↓aC, ↓aW, ↓wCall_eq, ↓wCallK_eq, perm, List.filterMap_cons, List.filterMap_nil, ↓wApp, ↓wExt, ↓wPop, ↓wPopAt, ↓wListA, ↓wRpl, ↓iX, ↓iL, ↓iT, ↓iS, ↓iR1, ↓iR2, ↓iR3, ↓iScr, ↓iZD, ↓iE, ↓iE2, ↓iZ2, ↓iZ3, ↓seqD, ↓zipD3, ↓wComp_eq, ↓ttY, ↓wSl, ↓wPart, ↓plN, ↓wRev, ↓wListO, ↓wRep, ↓wLenSet, ↓wLenScr, ↓wWelI, ↓wWelPop, ↓wWelApp, ↓tWelNE, ↓wDisp, ↓wDispT, ↓psC, ↓psN, ↓wDIn, ↓wDNotIn, ↓wDG1, ↓wDG2, ↓wIsi, ↓askD, ↓uTry, ↓uRng, ↓iRV, ↓uRaise, ↓uRaise0, ↓uNever, ↓wCallX_eq, ↓wCallKX_eq, ↓wXf, ↓wIsX, ↓fAdd, ↓fSub, ↓fII, ↓fII0, ↓fDiv, ↓fMod, ↓fPow, ↓fLt, ↓fGt, ↓fLe, ↓fGe, ↓fGtD, ↓fLtD, ↓fLeD, ↓fGeD, ↓fNeg, ↓fMul, ↓fEq, ↓fNe, ↓eqQ, ↓fIsN, ↓fNotN, isNone_1, isNone_2, isNone_3, isNone_4, isNone_5, isNone_6, isNone_7, ↓fInC, ↓fNotInC, ↓fSub_, ↓fIx, ↓fSl, ↓fLen, ↓fTuple, ↓fMin1, ↓fMax1, ↓fSum, ↓fAll, ↓fAny, ↓fSorted, ↓fSortS, ↓fAbs, ↓fInt, ↓fRepr, ↓fCnt, ↓fIdx, ↓fJoin, ↓mSS, ↓mSB, ↓mTI, ↓mTB, ↓mTI3, ↓fInL, ↓fNinL, ↓fInT, ↓fNinT, ↓fInA, ↓fNinA, ↓fInB, ↓fNinB, isStr,
 atI_0, atI_1, atI_2, atI_3, endsG, fld_TooMany, fld_Unfit, mem0, toEnt, Mem.set, Mem.view, Mem.kill, Mem.frz, Mem.ro, Ent.ro', Opd.get,
 List.set_cons_zero, List.set_cons_succ, List.getElem?_cons_zero, List.getElem?_cons_succ, List.map_cons, List.map_nil, List.length_cons, List.length_nil, List.cons_append, List.nil_append, List.replicate_succ, List.replicate_zero, Option.map_some, Option.map_none, List.cons.injEq, and_true, true_and, Arg.x.injEq, exists_eq_left, exists_eq_right, Option.some.injEq, Ent.ow.injEq, Ent.im.injEq, PyData.int.injEq, PyData.list.injEq, PyData.dict.injEq, PyData.tuple.injEq, PyData.str.injEq, exists_eq', exists_eq, decide_eq_true_eq, Bool.not_eq_true', ite_true, ite_false, decide_true, decide_false, decide_eq_false_iff_not, not_true_eq_false, not_false_eq_true, reduceCtorEq, eq_self, k_abcd, S_cps, cut_LET]
      refine ⟨by decide, let_sz k, comp_map (fun d => sD (w ++ [cD d])) (fun d hd P hP => ?_) ?_⟩
      · obtain ⟨c, hc, rfl⟩ := List.mem_map.mp hd
        have e0 : cD (PyData.str (S [c])) = c := rfl
        rw [e0] at hP
        simp -dsimp only [↓uSeq, ↓uNext, ↓uKill, ↓uFrz, ↓uDrop, ↓uRet, ↓uIf, ↓uAsg, ↓uAsgO, ↓uPar2, ↓uPar3, ↓uAug, ↓uPut, ↓uDPut, ↓uFor_eq, ↓uWhile_eq, ↓uSeqM_eq, ↓uBrk, ↓uCnt, ↓uWelD, ↓gSet, ↓gN, ↓gC, ↓gT, ↓zE, ↓zF, ↓oE, ↓oV, ↓wV, ↓wC, ↓wOp, ↓wUn, ↓app2, ↓app1, ↓wTst, ↓tAndD, ↓tOrD, ↓tNotD, ↓wAndV, ↓wOrV, ↓wNotV, ↓wIf, ↓wChain, ↓osN, ↓osC, getAll, ↓appN, ↓wCB, ↓appM, ↓wBM, ↓wBM0, ↓wN, ↓wCs, ↓wTup, ↓wLst, ↓wDic0, ↓wDicT, ↓aN, ↓aC, ↓aW, ↓wCall_eq, ↓wCallK_eq, perm, List.filterMap_cons, List.filterMap_nil, ↓wApp, ↓wExt, ↓wPop, ↓wPopAt, ↓wListA, ↓wRpl, ↓iX, ↓iL, ↓iT, ↓iS, ↓iR1, ↓iR2, ↓iR3, ↓iScr, ↓iZD, ↓iE, ↓iE2, ↓iZ2, ↓iZ3, ↓seqD, ↓zipD3, ↓wComp_eq, ↓ttY, ↓wSl, ↓wPart, ↓plN, ↓wRev, ↓wListO, ↓wRep, ↓wLenSet, ↓wLenScr, ↓wWelI, ↓wWelPop, ↓wWelApp, ↓tWelNE, ↓wDisp, ↓wDispT, ↓psC, ↓psN, ↓wDIn, ↓wDNotIn, ↓wDG1, ↓wDG2, ↓wIsi, ↓askD, ↓uTry, ↓uRng, ↓iRV, ↓uRaise, ↓uRaise0, ↓uNever, ↓wCallX_eq, ↓wCallKX_eq, ↓wXf, ↓wIsX, ↓fAdd, ↓fSub, ↓fII, ↓fII0, ↓fDiv, ↓fMod, ↓fPow, ↓fLt, ↓fGt, ↓fLe, ↓fGe, ↓fGtD, ↓fLtD, ↓fLeD, ↓fGeD, ↓fNeg, ↓fMul, ↓fEq, ↓fNe, ↓eqQ, ↓fIsN, ↓fNotN, isNone_1, isNone_2, isNone_3, isNone_4, isNone_5, isNone_6, isNone_7, ↓fInC, ↓fNotInC, ↓fSub_, ↓fIx, ↓fSl, ↓fLen, ↓fTuple, ↓fMin1, ↓fMax1, ↓fSum, ↓fAll, ↓fAny, ↓fSorted, ↓fSortS, ↓fAbs, ↓fInt, ↓fRepr, ↓fCnt, ↓fIdx, ↓fJoin, ↓mSS, ↓mSB, ↓mTI, ↓mTB, ↓mTI3, ↓fInL, ↓fNinL, ↓fInT, ↓fNinT, ↓fInA, ↓fNinA, ↓fInB, ↓fNinB, isStr,
 atI_0, atI_1, atI_2, atI_3, endsG, fld_TooMany, fld_Unfit, mem0, toEnt, Mem.set, Mem.view, Mem.kill, Mem.frz, Mem.ro, Ent.ro', Opd.get,
 List.set_cons_zero, List.set_cons_succ, List.getElem?_cons_zero, List.getElem?_cons_succ, List.map_cons, List.map_nil, List.length_cons, List.length_nil, List.cons_append, List.nil_append, List.replicate_succ, List.replicate_zero, Option.map_some, Option.map_none, List.cons.injEq, and_true, true_and, Arg.x.injEq, exists_eq_left, exists_eq_right, Option.some.injEq, Ent.ow.injEq, Ent.im.injEq, PyData.int.injEq, PyData.list.injEq, PyData.dict.injEq, PyData.tuple.injEq, PyData.str.injEq, exists_eq', exists_eq, decide_eq_true_eq, Bool.not_eq_true', ite_true, ite_false, decide_true, decide_false, decide_eq_false_iff_not, not_true_eq_false, not_false_eq_true, reduceCtorEq, eq_self, S_cps]
        exact ⟨zl _ (by omega), hP⟩
      · rw [let_map]
        simp -dsimp only [↓uSeq, ↓uNext, ↓uKill, ↓uFrz, ↓uDrop, ↓uRet, ↓uIf, ↓uAsg, ↓uAsgO, ↓uPar2, ↓uPar3, ↓uAug, ↓uPut, ↓uDPut, ↓uFor_eq, ↓uWhile_eq, ↓uSeqM_eq, ↓uBrk, ↓uCnt, ↓uWelD, ↓gSet, ↓gN, ↓gC, ↓gT, ↓zE, ↓zF, ↓oE, ↓oV, ↓wV, ↓wC, ↓wOp, ↓wUn, ↓app2, ↓app1, ↓wTst, ↓tAndD, ↓tOrD, ↓tNotD, ↓wAndV, ↓wOrV, ↓wNotV, ↓wIf, ↓wChain, ↓osN, ↓osC, getAll, ↓appN, ↓wCB, ↓appM, ↓wBM, ↓wBM0, ↓wN, ↓wCs, ↓wTup, ↓wLst, ↓wDic0, ↓wDicT, ↓aN, ↓aC, ↓aW, ↓wCall_eq, ↓wCallK_eq, perm, List.filterMap_cons, List.filterMap_nil, ↓wApp, ↓wExt, ↓wPop, ↓wPopAt, ↓wListA, ↓wRpl, ↓iX, ↓iL, ↓iT, ↓iS, ↓iR1, ↓iR2, ↓iR3, ↓iScr, ↓iZD, ↓iE, ↓iE2, ↓iZ2, ↓iZ3, ↓seqD, ↓zipD3, ↓wComp_eq, ↓ttY, ↓wSl, ↓wPart, ↓plN, ↓wRev, ↓wListO, ↓wRep, ↓wLenSet, ↓wLenScr, ↓wWelI, ↓wWelPop, ↓wWelApp, ↓tWelNE, ↓wDisp, ↓wDispT, ↓psC, ↓psN, ↓wDIn, ↓wDNotIn, ↓wDG1, ↓wDG2, ↓wIsi, ↓askD, ↓uTry, ↓uRng, ↓iRV, ↓uRaise, ↓uRaise0, ↓uNever, ↓wCallX_eq, ↓wCallKX_eq, ↓wXf, ↓wIsX, ↓fAdd, ↓fSub, ↓fII, ↓fII0, ↓fDiv, ↓fMod, ↓fPow, ↓fLt, ↓fGt, ↓fLe, ↓fGe, ↓fGtD, ↓fLtD, ↓fLeD, ↓fGeD, ↓fNeg, ↓fMul, ↓fEq, ↓fNe, ↓eqQ, ↓fIsN, ↓fNotN, isNone_1, isNone_2, isNone_3, isNone_4, isNone_5, isNone_6, isNone_7, ↓fInC, ↓fNotInC, ↓fSub_, ↓fIx, ↓fSl, ↓fLen, ↓fTuple, ↓fMin1, ↓fMax1, ↓fSum, ↓fAll, ↓fAny, ↓fSorted, ↓fSortS, ↓fAbs, ↓fInt, ↓fRepr, ↓fCnt, ↓fIdx, ↓fJoin, ↓mSS, ↓mSB, ↓mTI, ↓mTB, ↓mTI3, ↓fInL, ↓fNinL, ↓fInT, ↓fNinT, ↓fInA, ↓fNinA, ↓fInB, ↓fNinB, isStr,
 atI_0, atI_1, atI_2, atI_3, endsG, fld_TooMany, fld_Unfit, mem0, toEnt, Mem.set, Mem.view, Mem.kill, Mem.frz, Mem.ro, Ent.ro', Opd.get,
 List.set_cons_zero, List.set_cons_succ, List.getElem?_cons_zero, List.getElem?_cons_succ, List.map_cons, List.map_nil, List.length_cons, List.length_nil, List.cons_append, List.nil_append, List.replicate_succ, List.replicate_zero, Option.map_some, Option.map_none, List.cons.injEq, and_true, true_and, Arg.x.injEq, exists_eq_left, exists_eq_right, Option.some.injEq, Ent.ow.injEq, Ent.im.injEq, PyData.int.injEq, PyData.list.injEq, PyData.dict.injEq, PyData.tuple.injEq, PyData.str.injEq, exists_eq', exists_eq, decide_eq_true_eq, Bool.not_eq_true', ite_true, ite_false, decide_true, decide_false, decide_eq_false_iff_not, not_true_eq_false, not_false_eq_true, reduceCtorEq, eq_self]
        have h1 := addL_len k (ws.take j)
        have h3 : (ws.take j).length ≤ ws.length := by rw [List.length_take]; omega
        have h5 : ((LET.take k).map fun c => w ++ [c]).length ≤ 4 := by
          rw [List.length_map, List.length_take]
          exact Nat.min_le_right _ _
        refine ⟨zl2 _ (by rw [List.length_map, List.length_map]; omega), some (.im (sD w)), ?_⟩
        rw [addL_take k ws j hw, List.map_append]
  · rintro M' ⟨e4, rfl⟩
    rw [List.length_map, List.take_length]
    simp -dsimp only [↓uSeq, ↓uNext, ↓uKill, ↓uFrz, ↓uDrop, ↓uRet, ↓uIf, ↓uAsg, ↓uAsgO, ↓uPar2, ↓uPar3, ↓uAug, ↓uPut, ↓uDPut, ↓uFor_eq, ↓uWhile_eq, ↓uSeqM_eq, ↓uBrk, ↓uCnt, ↓uWelD, ↓gSet, ↓gN, ↓gC, ↓gT, ↓zE, ↓zF, ↓oE, ↓oV, ↓wV, ↓wC, ↓wOp, ↓wUn, ↓app2, ↓app1, ↓wTst, ↓tAndD, ↓tOrD, ↓tNotD, ↓wAndV, ↓wOrV, ↓wNotV, ↓wIf, ↓wChain, ↓osN, ↓osC, getAll, ↓appN, ↓wCB, ↓appM, ↓wBM, ↓wBM0, ↓wN, ↓wCs, ↓wTup, ↓wLst, ↓wDic0, ↓wDicT, ↓aN, ↓aC, ↓aW, ↓wCall_eq, ↓wCallK_eq, perm, List.filterMap_cons, List.filterMap_nil, ↓wApp, ↓wExt, ↓wPop, ↓wPopAt, ↓wListA, ↓wRpl, ↓iX, ↓iL, ↓iT, ↓iS, ↓iR1, ↓iR2, ↓iR3, ↓iScr, ↓iZD, ↓iE, ↓iE2, ↓iZ2, ↓iZ3, ↓seqD, ↓zipD3, ↓wComp_eq, ↓ttY, ↓wSl, ↓wPart, ↓plN, ↓wRev, ↓wListO, ↓wRep, ↓wLenSet, ↓wLenScr, ↓wWelI, ↓wWelPop, ↓wWelApp, ↓tWelNE, ↓wDisp, ↓wDispT, ↓psC, ↓psN, ↓wDIn, ↓wDNotIn, ↓wDG1, ↓wDG2, ↓wIsi, ↓askD, ↓uTry, ↓uRng, ↓iRV, ↓uRaise, ↓uRaise0, ↓uNever, ↓wCallX_eq, ↓wCallKX_eq, ↓wXf, ↓wIsX, ↓fAdd, ↓fSub, ↓fII, ↓fII0, ↓fDiv, ↓fMod, ↓fPow, ↓fLt, ↓fGt, ↓fLe, ↓fGe, ↓fGtD, ↓fLtD, ↓fLeD, ↓fGeD, ↓fNeg, ↓fMul, ↓fEq, ↓fNe, ↓eqQ, ↓fIsN, ↓fNotN, isNone_1, isNone_2, isNone_3, isNone_4, isNone_5, isNone_6, isNone_7, ↓fInC, ↓fNotInC, ↓fSub_, ↓fIx, ↓fSl, ↓fLen, ↓fTuple, ↓fMin1, ↓fMax1, ↓fSum, ↓fAll, ↓fAny, ↓fSorted, ↓fSortS, ↓fAbs, ↓fInt, ↓fRepr, ↓fCnt, ↓fIdx, ↓fJoin, ↓mSS, ↓mSB, ↓mTI, ↓mTB, ↓mTI3, ↓fInL, ↓fNinL, ↓fInT, ↓fNinT, ↓fInA, ↓fNinA, ↓fInB, ↓fNinB, isStr,
 atI_0, atI_1, atI_2, atI_3, endsG, fld_TooMany, fld_Unfit, mem0, toEnt, Mem.set, Mem.view, Mem.kill, Mem.frz, Mem.ro, Ent.ro', Opd.get,
 List.set_cons_zero, List.set_cons_succ, List.getElem?_cons_zero, List.getElem?_cons_succ, List.map_cons, List.map_nil, List.length_cons, List.length_nil, List.cons_append, List.nil_append, List.replicate_succ, List.replicate_zero, Option.map_some, Option.map_none, List.cons.injEq, and_true, true_and, Arg.x.injEq, exists_eq_left, exists_eq_right, Option.some.injEq, Ent.ow.injEq, Ent.im.injEq, PyData.int.injEq, PyData.list.injEq, PyData.dict.injEq, PyData.tuple.injEq, PyData.str.injEq, exists_eq', exists_eq, decide_eq_true_eq, Bool.not_eq_true', ite_true, ite_false, decide_true, decide_false, decide_eq_false_iff_not, not_true_eq_false, not_false_eq_true, reduceCtorEq, eq_self]
    have h1 := addL_len k ws
    refine ⟨zl2 _ (by rw [List.length_map]; omega), comp_filter (fun d => d) (fun d => endF o (wD d)) (fun d hd P P2 hP hP2 => ?_) ?_⟩
    · obtain ⟨w, hw, rfl⟩ := List.mem_map.mp hd
      have e0 : wD (sD w) = w := rfl
      rw [e0] at hP hP2
      have wn : w.length ≤ 60 := by
        obtain ⟨v, hv, hw⟩ := List.mem_flatMap.mp hw
        obtain ⟨c, _, rfl⟩ := List.mem_map.mp hw
        have := hl v hv
        rw [List.length_append]
        simp only [List.length_singleton]
        omega
      simp -dsimp only [↓uSeq, ↓uNext, ↓uKill, ↓uFrz, ↓uDrop, ↓uRet, ↓uIf, ↓uAsg, ↓uAsgO, ↓uPar2, ↓uPar3, ↓uAug, ↓uPut, ↓uDPut, ↓uFor_eq, ↓uWhile_eq, ↓uSeqM_eq, ↓uBrk, ↓uCnt, ↓uWelD, ↓gSet, ↓gN, ↓gC, ↓gT, ↓zE, ↓zF, ↓oE, ↓oV, ↓wV, ↓wC, ↓wOp, ↓wUn, ↓app2, ↓app1, ↓wTst, ↓tAndD, ↓tOrD, ↓tNotD, ↓wAndV, ↓wOrV, ↓wNotV, ↓wIf, ↓wChain, ↓osN, ↓osC, getAll, ↓appN, ↓wCB, ↓appM, ↓wBM, ↓wBM0, ↓wN, ↓wCs, ↓wTup, ↓wLst, ↓wDic0, ↓wDicT, ↓aN, ↓aC, ↓aW, ↓wCall_eq, ↓wCallK_eq, perm, List.filterMap_cons, List.filterMap_nil, ↓wApp, ↓wExt, ↓wPop, ↓wPopAt, ↓wListA, ↓wRpl, ↓iX, ↓iL, ↓iT, ↓iS, ↓iR1, ↓iR2, ↓iR3, ↓iScr, ↓iZD, ↓iE, ↓iE2, ↓iZ2, ↓iZ3, ↓seqD, ↓zipD3, ↓wComp_eq, ↓ttY, ↓wSl, ↓wPart, ↓plN, ↓wRev, ↓wListO, ↓wRep, ↓wLenSet, ↓wLenScr, ↓wWelI, ↓wWelPop, ↓wWelApp, ↓tWelNE, ↓wDisp, ↓wDispT, ↓psC, ↓psN, ↓wDIn, ↓wDNotIn, ↓wDG1, ↓wDG2, ↓wIsi, ↓askD, ↓uTry, ↓uRng, ↓iRV, ↓uRaise, ↓uRaise0, ↓uNever, ↓wCallX_eq, ↓wCallKX_eq, ↓wXf, ↓wIsX, ↓fAdd, ↓fSub, ↓fII, ↓fII0, ↓fDiv, ↓fMod, ↓fPow, ↓fLt, ↓fGt, ↓fLe, ↓fGe, ↓fGtD, ↓fLtD, ↓fLeD, ↓fGeD, ↓fNeg, ↓fMul, ↓fEq, ↓fNe, ↓eqQ, ↓fIsN, ↓fNotN, isNone_1, isNone_2, isNone_3, isNone_4, isNone_5, isNone_6, isNone_7, ↓fInC, ↓fNotInC, ↓fSub_, ↓fIx, ↓fSl, ↓fLen, ↓fTuple, ↓fMin1, ↓fMax1, ↓fSum, ↓fAll, ↓fAny, ↓fSorted, ↓fSortS, ↓fAbs, ↓fInt, ↓fRepr, ↓fCnt, ↓fIdx, ↓fJoin, ↓mSS, ↓mSB, ↓mTI, ↓mTB, ↓mTI3, ↓fInL, ↓fNinL, ↓fInT, ↓fNinT, ↓fInA, ↓fNinA, ↓fInB, ↓fNinB, isStr,
 atI_0, atI_1, atI_2, atI_3, endsG, fld_TooMany, fld_Unfit, mem0, toEnt, Mem.set, Mem.view, Mem.kill, Mem.frz, Mem.ro, Ent.ro', Opd.get,
 List.set_cons_zero, List.set_cons_succ, List.getElem?_cons_zero, List.getElem?_cons_succ, List.map_cons, List.map_nil, List.length_cons, List.length_nil, List.cons_append, List.nil_append, List.replicate_succ, List.replicate_zero, Option.map_some, Option.map_none, List.cons.injEq, and_true, true_and, Arg.x.injEq, exists_eq_left, exists_eq_right, Option.some.injEq, Ent.ow.injEq, Ent.im.injEq, PyData.int.injEq, PyData.list.injEq, PyData.dict.injEq, PyData.tuple.injEq, PyData.str.injEq, exists_eq', exists_eq, decide_eq_true_eq, Bool.not_eq_true', ite_true, ite_false, decide_true, decide_false, decide_eq_false_iff_not, not_true_eq_false, not_false_eq_true, reduceCtorEq, eq_self]
      refine lends_i wn ho ho2 ?_
      simp -dsimp only [↓uSeq, ↓uNext, ↓uKill, ↓uFrz, ↓uDrop, ↓uRet, ↓uIf, ↓uAsg, ↓uAsgO, ↓uPar2, ↓uPar3, ↓uAug, ↓uPut, ↓uDPut, ↓uFor_eq, ↓uWhile_eq, ↓uSeqM_eq, ↓uBrk, ↓uCnt, ↓uWelD, ↓gSet, ↓gN, ↓gC, ↓gT, ↓zE, ↓zF, ↓oE, ↓oV, ↓wV, ↓wC, ↓wOp, ↓wUn, ↓app2, ↓app1, ↓wTst, ↓tAndD, ↓tOrD, ↓tNotD, ↓wAndV, ↓wOrV, ↓wNotV, ↓wIf, ↓wChain, ↓osN, ↓osC, getAll, ↓appN, ↓wCB, ↓appM, ↓wBM, ↓wBM0, ↓wN, ↓wCs, ↓wTup, ↓wLst, ↓wDic0, ↓wDicT, ↓aN, ↓aC, ↓aW, ↓wCall_eq, ↓wCallK_eq, perm, List.filterMap_cons, List.filterMap_nil, ↓wApp, ↓wExt, ↓wPop, ↓wPopAt, ↓wListA, ↓wRpl, ↓iX, ↓iL, ↓iT, ↓iS, ↓iR1, ↓iR2, ↓iR3, ↓iScr, ↓iZD, ↓iE, ↓iE2, ↓iZ2, ↓iZ3, ↓seqD, ↓zipD3, ↓wComp_eq, ↓ttY, ↓wSl, ↓wPart, ↓plN, ↓wRev, ↓wListO, ↓wRep, ↓wLenSet, ↓wLenScr, ↓wWelI, ↓wWelPop, ↓wWelApp, ↓tWelNE, ↓wDisp, ↓wDispT, ↓psC, ↓psN, ↓wDIn, ↓wDNotIn, ↓wDG1, ↓wDG2, ↓wIsi, ↓askD, ↓uTry, ↓uRng, ↓iRV, ↓uRaise, ↓uRaise0, ↓uNever, ↓wCallX_eq, ↓wCallKX_eq, ↓wXf, ↓wIsX, ↓fAdd, ↓fSub, ↓fII, ↓fII0, ↓fDiv, ↓fMod, ↓fPow, ↓fLt, ↓fGt, ↓fLe, ↓fGe, ↓fGtD, ↓fLtD, ↓fLeD, ↓fGeD, ↓fNeg, ↓fMul, ↓fEq, ↓fNe, ↓eqQ, ↓fIsN, ↓fNotN, isNone_1, isNone_2, isNone_3, isNone_4, isNone_5, isNone_6, isNone_7, ↓fInC, ↓fNotInC, ↓fSub_, ↓fIx, ↓fSl, ↓fLen, ↓fTuple, ↓fMin1, ↓fMax1, ↓fSum, ↓fAll, ↓fAny, ↓fSorted, ↓fSortS, ↓fAbs, ↓fInt, ↓fRepr, ↓fCnt, ↓fIdx, ↓fJoin, ↓mSS, ↓mSB, ↓mTI, ↓mTB, ↓mTI3, ↓fInL, ↓fNinL, ↓fInT, ↓fNinT, ↓fInA, ↓fNinA, ↓fInB, ↓fNinB, isStr,
 atI_0, atI_1, atI_2, atI_3, endsG, fld_TooMany, fld_Unfit, mem0, toEnt, Mem.set, Mem.view, Mem.kill, Mem.frz, Mem.ro, Ent.ro', Opd.get,
 List.set_cons_zero, List.set_cons_succ, List.getElem?_cons_zero, List.getElem?_cons_succ, List.map_cons, List.map_nil, List.length_cons, List.length_nil, List.cons_append, List.nil_append, List.replicate_succ, List.replicate_zero, Option.map_some, Option.map_none, List.cons.injEq, and_true, true_and, Arg.x.injEq, exists_eq_left, exists_eq_right, Option.some.injEq, Ent.ow.injEq, Ent.im.injEq, PyData.int.injEq, PyData.list.injEq, PyData.dict.injEq, PyData.tuple.injEq, PyData.str.injEq, exists_eq', exists_eq, decide_eq_true_eq, Bool.not_eq_true', ite_true, ite_false, decide_true, decide_false, decide_eq_false_iff_not, not_true_eq_false, not_false_eq_true, reduceCtorEq, eq_self]
      cases e : endF o w with
      | true => exact hP e
      | false => exact hP2 e
    · rw [wD_filter, grow_eq]
      simp -dsimp only [↓uSeq, ↓uNext, ↓uKill, ↓uFrz, ↓uDrop, ↓uRet, ↓uIf, ↓uAsg, ↓uAsgO, ↓uPar2, ↓uPar3, ↓uAug, ↓uPut, ↓uDPut, ↓uFor_eq, ↓uWhile_eq, ↓uSeqM_eq, ↓uBrk, ↓uCnt, ↓uWelD, ↓gSet, ↓gN, ↓gC, ↓gT, ↓zE, ↓zF, ↓oE, ↓oV, ↓wV, ↓wC, ↓wOp, ↓wUn, ↓app2, ↓app1, ↓wTst, ↓tAndD, ↓tOrD, ↓tNotD, ↓wAndV, ↓wOrV, ↓wNotV, ↓wIf, ↓wChain, ↓osN, ↓osC, getAll, ↓appN, ↓wCB, ↓appM, ↓wBM, ↓wBM0, ↓wN, ↓wCs, ↓wTup, ↓wLst, ↓wDic0, ↓wDicT, ↓aN, ↓aC, ↓aW, ↓wCall_eq, ↓wCallK_eq, perm, List.filterMap_cons, List.filterMap_nil, ↓wApp, ↓wExt, ↓wPop, ↓wPopAt, ↓wListA, ↓wRpl, ↓iX, ↓iL, ↓iT, ↓iS, ↓iR1, ↓iR2, ↓iR3, ↓iScr, ↓iZD, ↓iE, ↓iE2, ↓iZ2, ↓iZ3, ↓seqD, ↓zipD3, ↓wComp_eq, ↓ttY, ↓wSl, ↓wPart, ↓plN, ↓wRev, ↓wListO, ↓wRep, ↓wLenSet, ↓wLenScr, ↓wWelI, ↓wWelPop, ↓wWelApp, ↓tWelNE, ↓wDisp, ↓wDispT, ↓psC, ↓psN, ↓wDIn, ↓wDNotIn, ↓wDG1, ↓wDG2, ↓wIsi, ↓askD, ↓uTry, ↓uRng, ↓iRV, ↓uRaise, ↓uRaise0, ↓uNever, ↓wCallX_eq, ↓wCallKX_eq, ↓wXf, ↓wIsX, ↓fAdd, ↓fSub, ↓fII, ↓fII0, ↓fDiv, ↓fMod, ↓fPow, ↓fLt, ↓fGt, ↓fLe, ↓fGe, ↓fGtD, ↓fLtD, ↓fLeD, ↓fGeD, ↓fNeg, ↓fMul, ↓fEq, ↓fNe, ↓eqQ, ↓fIsN, ↓fNotN, isNone_1, isNone_2, isNone_3, isNone_4, isNone_5, isNone_6, isNone_7, ↓fInC, ↓fNotInC, ↓fSub_, ↓fIx, ↓fSl, ↓fLen, ↓fTuple, ↓fMin1, ↓fMax1, ↓fSum, ↓fAll, ↓fAny, ↓fSorted, ↓fSortS, ↓fAbs, ↓fInt, ↓fRepr, ↓fCnt, ↓fIdx, ↓fJoin, ↓mSS, ↓mSB, ↓mTI, ↓mTB, ↓mTI3, ↓fInL, ↓fNinL, ↓fInT, ↓fNinT, ↓fInA, ↓fNinA, ↓fInB, ↓fNinB, isStr,
 atI_0, atI_1, atI_2, atI_3, endsG, fld_TooMany, fld_Unfit, mem0, toEnt, Mem.set, Mem.view, Mem.kill, Mem.frz, Mem.ro, Ent.ro', Opd.get,
 List.set_cons_zero, List.set_cons_succ, List.getElem?_cons_zero, List.getElem?_cons_succ, List.map_cons, List.map_nil, List.length_cons, List.length_nil, List.cons_append, List.nil_append, List.replicate_succ, List.replicate_zero, Option.map_some, Option.map_none, List.cons.injEq, and_true, true_and, Arg.x.injEq, exists_eq_left, exists_eq_right, Option.some.injEq, Ent.ow.injEq, Ent.im.injEq, PyData.int.injEq, PyData.list.injEq, PyData.dict.injEq, PyData.tuple.injEq, PyData.str.injEq, exists_eq', exists_eq, decide_eq_true_eq, Bool.not_eq_true', ite_true, ite_false, decide_true, decide_false, decide_eq_false_iff_not, not_true_eq_false, not_false_eq_true, reduceCtorEq, eq_self]
      exact q
def u__law_least : WS :=
  (uSeq (uAsgO (wLst (wCs (wC (.str "")) wN)) 3)
  (uSeq (uWhile [4] (wTst (wOp fNe (oV 3) (oE (wLst wN))))
  (uSeq (uAsg (wPop 3) (gSet 4))
  (uSeq (uIf (wTst (wOp fEq (oE (wCB fLen (osC (oV 4) osN))) (oV 1)))
  (uRet (wV 4))
  uNext)
  (uDrop (wExt 3 (wRev (oE (wCall g__law_grown (aC (wLst (wCs (wV 4) wN)) (aC (wV 0) (aC (wV 2) aN)))))))))))
  (uRet (wC .none))))
theorem pf__law_least (args : List Arg) (wl : Option Wel) (Q : PyData → Option Wel → Prop) (h : g__law_least args wl Q) : u__law_least noX (endsG Q) (mem0 5 args wl) := by
  obtain ⟨k, n, o, rfl, hn, ho, ho2, q⟩ := h
  simp -dsimp only [u__law_least, ↓uSeq, ↓uNext, ↓uKill, ↓uFrz, ↓uDrop, ↓uRet, ↓uIf, ↓uAsg, ↓uAsgO, ↓uPar2, ↓uPar3, ↓uAug, ↓uPut, ↓uDPut, ↓uFor_eq, ↓uWhile_eq, ↓uSeqM_eq, ↓uBrk, ↓uCnt, ↓uWelD, ↓gSet, ↓gN, ↓gC, ↓gT, ↓zE, ↓zF, ↓oE, ↓oV, ↓wV, ↓wC, ↓wOp, ↓wUn, ↓app2, ↓app1, ↓wTst, ↓tAndD, ↓tOrD, ↓tNotD, ↓wAndV, ↓wOrV, ↓wNotV, ↓wIf, ↓wChain, ↓osN, ↓osC, getAll, ↓appN, ↓wCB, ↓appM, ↓wBM, ↓wBM0, ↓wN, ↓wCs, ↓wTup, ↓wLst, ↓wDic0, ↓wDicT, ↓aN, ↓aC, ↓aW, ↓wCall_eq, ↓wCallK_eq, perm, List.filterMap_cons, List.filterMap_nil, ↓wApp, ↓wExt, ↓wPop, ↓wPopAt, ↓wListA, ↓wRpl, ↓iX, ↓iL, ↓iT, ↓iS, ↓iR1, ↓iR2, ↓iR3, ↓iScr, ↓iZD, ↓iE, ↓iE2, ↓iZ2, ↓iZ3, ↓seqD, ↓zipD3, ↓wComp_eq, ↓ttY, ↓wSl, ↓wPart, ↓plN, ↓wRev, ↓wListO, ↓wRep, ↓wLenSet, ↓wLenScr, ↓wWelI, ↓wWelPop, ↓wWelApp, ↓tWelNE, ↓wDisp, ↓wDispT, ↓psC, ↓psN, ↓wDIn, ↓wDNotIn, ↓wDG1, ↓wDG2, ↓wIsi, ↓askD, ↓uTry, ↓uRng, ↓iRV, ↓uRaise, ↓uRaise0, ↓uNever, ↓wCallX_eq, ↓wCallKX_eq, ↓wXf, ↓wIsX, ↓fAdd, ↓fSub, ↓fII, ↓fII0, ↓fDiv, ↓fMod, ↓fPow, ↓fLt, ↓fGt, ↓fLe, ↓fGe, ↓fGtD, ↓fLtD, ↓fLeD, ↓fGeD, ↓fNeg, ↓fMul, ↓fEq, ↓fNe, ↓eqQ, ↓fIsN, ↓fNotN, isNone_1, isNone_2, isNone_3, isNone_4, isNone_5, isNone_6, isNone_7, ↓fInC, ↓fNotInC, ↓fSub_, ↓fIx, ↓fSl, ↓fLen, ↓fTuple, ↓fMin1, ↓fMax1, ↓fSum, ↓fAll, ↓fAny, ↓fSorted, ↓fSortS, ↓fAbs, ↓fInt, ↓fRepr, ↓fCnt, ↓fIdx, ↓fJoin, ↓mSS, ↓mSB, ↓mTI, ↓mTB, ↓mTI3, ↓fInL, ↓fNinL, ↓fInT, ↓fNinT, ↓fInA, ↓fNinA, ↓fInB, ↓fNinB, isStr,
 atI_0, atI_1, atI_2, atI_3, endsG, fld_TooMany, fld_Unfit, mem0, toEnt, Mem.set, Mem.view, Mem.kill, Mem.frz, Mem.ro, Ent.ro', Opd.get,
 List.set_cons_zero, List.set_cons_succ, List.getElem?_cons_zero, List.getElem?_cons_succ, List.map_cons, List.map_nil, List.length_cons, List.length_nil, List.cons_append, List.nil_append, List.replicate_succ, List.replicate_zero, Option.map_some, Option.map_none, List.cons.injEq, and_true, true_and, Arg.x.injEq, exists_eq_left, exists_eq_right, Option.some.injEq, Ent.ow.injEq, Ent.im.injEq, PyData.int.injEq, PyData.list.injEq, PyData.dict.injEq, PyData.tuple.injEq, PyData.str.injEq, exists_eq', exists_eq, decide_eq_true_eq, Bool.not_eq_true', ite_true, ite_false, decide_true, decide_false, decide_eq_false_iff_not, not_true_eq_false, not_false_eq_true, reduceCtorEq, eq_self]
  refine ⟨by decide, while_i (fun m M => ∃ t, Stk n t ∧ (∀ r, DR k o n t r → DR k o n [[]] r) ∧ m = ms n t ∧ M = ⟨[some (.im (.int (k : Nat))), some (.im (.int (n : Nat))), some (.im (.int (o : Nat))), some (.ow (.list (t.map sD))), none], wl⟩) (ms n [[]]) ⟨[[]], Stk.start n, fun _ h => h, rfl, rfl⟩ ?_⟩
  rintro m M' ⟨t, ht, hr, rfl, rfl⟩
  rcases pop_cases t with rfl | ⟨u, w, rfl⟩
  · simp -dsimp only [↓uSeq, ↓uNext, ↓uKill, ↓uFrz, ↓uDrop, ↓uRet, ↓uIf, ↓uAsg, ↓uAsgO, ↓uPar2, ↓uPar3, ↓uAug, ↓uPut, ↓uDPut, ↓uFor_eq, ↓uWhile_eq, ↓uSeqM_eq, ↓uBrk, ↓uCnt, ↓uWelD, ↓gSet, ↓gN, ↓gC, ↓gT, ↓zE, ↓zF, ↓oE, ↓oV, ↓wV, ↓wC, ↓wOp, ↓wUn, ↓app2, ↓app1, ↓wTst, ↓tAndD, ↓tOrD, ↓tNotD, ↓wAndV, ↓wOrV, ↓wNotV, ↓wIf, ↓wChain, ↓osN, ↓osC, getAll, ↓appN, ↓wCB, ↓appM, ↓wBM, ↓wBM0, ↓wN, ↓wCs, ↓wTup, ↓wLst, ↓wDic0, ↓wDicT, ↓aN, ↓aC, ↓aW, ↓wCall_eq, ↓wCallK_eq, perm, List.filterMap_cons, List.filterMap_nil, ↓wApp, ↓wExt, ↓wPop, ↓wPopAt, ↓wListA, ↓wRpl, ↓iX, ↓iL, ↓iT, ↓iS, ↓iR1, ↓iR2, ↓iR3, ↓iScr, ↓iZD, ↓iE, ↓iE2, ↓iZ2, ↓iZ3, ↓seqD, ↓zipD3, ↓wComp_eq, ↓ttY, ↓wSl, ↓wPart, ↓plN, ↓wRev, ↓wListO, ↓wRep, ↓wLenSet, ↓wLenScr, ↓wWelI, ↓wWelPop, ↓wWelApp, ↓tWelNE, ↓wDisp, ↓wDispT, ↓psC, ↓psN, ↓wDIn, ↓wDNotIn, ↓wDG1, ↓wDG2, ↓wIsi, ↓askD, ↓uTry, ↓uRng, ↓iRV, ↓uRaise, ↓uRaise0, ↓uNever, ↓wCallX_eq, ↓wCallKX_eq, ↓wXf, ↓wIsX, ↓fAdd, ↓fSub, ↓fII, ↓fII0, ↓fDiv, ↓fMod, ↓fPow, ↓fLt, ↓fGt, ↓fLe, ↓fGe, ↓fGtD, ↓fLtD, ↓fLeD, ↓fGeD, ↓fNeg, ↓fMul, ↓fEq, ↓fNe, ↓eqQ, ↓fIsN, ↓fNotN, isNone_1, isNone_2, isNone_3, isNone_4, isNone_5, isNone_6, isNone_7, ↓fInC, ↓fNotInC, ↓fSub_, ↓fIx, ↓fSl, ↓fLen, ↓fTuple, ↓fMin1, ↓fMax1, ↓fSum, ↓fAll, ↓fAny, ↓fSorted, ↓fSortS, ↓fAbs, ↓fInt, ↓fRepr, ↓fCnt, ↓fIdx, ↓fJoin, ↓mSS, ↓mSB, ↓mTI, ↓mTB, ↓mTI3, ↓fInL, ↓fNinL, ↓fInT, ↓fNinT, ↓fInA, ↓fNinA, ↓fInB, ↓fNinB, isStr,
 atI_0, atI_1, atI_2, atI_3, endsG, fld_TooMany, fld_Unfit, mem0, toEnt, Mem.set, Mem.view, Mem.kill, Mem.frz, Mem.ro, Ent.ro', Opd.get,
 List.set_cons_zero, List.set_cons_succ, List.getElem?_cons_zero, List.getElem?_cons_succ, List.map_cons, List.map_nil, List.length_cons, List.length_nil, List.cons_append, List.nil_append, List.replicate_succ, List.replicate_zero, Option.map_some, Option.map_none, List.cons.injEq, and_true, true_and, Arg.x.injEq, exists_eq_left, exists_eq_right, Option.some.injEq, Ent.ow.injEq, Ent.im.injEq, PyData.int.injEq, PyData.list.injEq, PyData.dict.injEq, PyData.tuple.injEq, PyData.str.injEq, exists_eq', exists_eq, decide_eq_true_eq, Bool.not_eq_true', ite_true, ite_false, decide_true, decide_false, decide_eq_false_iff_not, not_true_eq_false, not_false_eq_true, reduceCtorEq, eq_self, eqv_nil]
    refine ⟨by decide, todo_eq [] ht, ?_⟩
    rw [if_neg (by simp)]
    exact q _ (hr _ .nil)
  · have l1 := last_sD u w
    have l2 := drop_sD u w
    have l3 := emp_sD u w
    have hw := ht u.length w (by simp)
    simp -dsimp only [↓uSeq, ↓uNext, ↓uKill, ↓uFrz, ↓uDrop, ↓uRet, ↓uIf, ↓uAsg, ↓uAsgO, ↓uPar2, ↓uPar3, ↓uAug, ↓uPut, ↓uDPut, ↓uFor_eq, ↓uWhile_eq, ↓uSeqM_eq, ↓uBrk, ↓uCnt, ↓uWelD, ↓gSet, ↓gN, ↓gC, ↓gT, ↓zE, ↓zF, ↓oE, ↓oV, ↓wV, ↓wC, ↓wOp, ↓wUn, ↓app2, ↓app1, ↓wTst, ↓tAndD, ↓tOrD, ↓tNotD, ↓wAndV, ↓wOrV, ↓wNotV, ↓wIf, ↓wChain, ↓osN, ↓osC, getAll, ↓appN, ↓wCB, ↓appM, ↓wBM, ↓wBM0, ↓wN, ↓wCs, ↓wTup, ↓wLst, ↓wDic0, ↓wDicT, ↓aN, ↓aC, ↓aW, ↓wCall_eq, ↓wCallK_eq, perm, List.filterMap_cons, List.filterMap_nil, ↓wApp, ↓wExt, ↓wPop, ↓wPopAt, ↓wListA, ↓wRpl, ↓iX, ↓iL, ↓iT, ↓iS, ↓iR1, ↓iR2, ↓iR3, ↓iScr, ↓iZD, ↓iE, ↓iE2, ↓iZ2, ↓iZ3, ↓seqD, ↓zipD3, ↓wComp_eq, ↓ttY, ↓wSl, ↓wPart, ↓plN, ↓wRev, ↓wListO, ↓wRep, ↓wLenSet, ↓wLenScr, ↓wWelI, ↓wWelPop, ↓wWelApp, ↓tWelNE, ↓wDisp, ↓wDispT, ↓psC, ↓psN, ↓wDIn, ↓wDNotIn, ↓wDG1, ↓wDG2, ↓wIsi, ↓askD, ↓uTry, ↓uRng, ↓iRV, ↓uRaise, ↓uRaise0, ↓uNever, ↓wCallX_eq, ↓wCallKX_eq, ↓wXf, ↓wIsX, ↓fAdd, ↓fSub, ↓fII, ↓fII0, ↓fDiv, ↓fMod, ↓fPow, ↓fLt, ↓fGt, ↓fLe, ↓fGe, ↓fGtD, ↓fLtD, ↓fLeD, ↓fGeD, ↓fNeg, ↓fMul, ↓fEq, ↓fNe, ↓eqQ, ↓fIsN, ↓fNotN, isNone_1, isNone_2, isNone_3, isNone_4, isNone_5, isNone_6, isNone_7, ↓fInC, ↓fNotInC, ↓fSub_, ↓fIx, ↓fSl, ↓fLen, ↓fTuple, ↓fMin1, ↓fMax1, ↓fSum, ↓fAll, ↓fAny, ↓fSorted, ↓fSortS, ↓fAbs, ↓fInt, ↓fRepr, ↓fCnt, ↓fIdx, ↓fJoin, ↓mSS, ↓mSB, ↓mTI, ↓mTB, ↓mTI3, ↓fInL, ↓fNinL, ↓fInT, ↓fNinT, ↓fInA, ↓fNinA, ↓fInB, ↓fNinB, isStr,
 atI_0, atI_1, atI_2, atI_3, endsG, fld_TooMany, fld_Unfit, mem0, toEnt, Mem.set, Mem.view, Mem.kill, Mem.frz, Mem.ro, Ent.ro', Opd.get,
 List.set_cons_zero, List.set_cons_succ, List.getElem?_cons_zero, List.getElem?_cons_succ, List.map_cons, List.map_nil, List.length_cons, List.length_nil, List.cons_append, List.nil_append, List.replicate_succ, List.replicate_zero, Option.map_some, Option.map_none, List.cons.injEq, and_true, true_and, Arg.x.injEq, exists_eq_left, exists_eq_right, Option.some.injEq, Ent.ow.injEq, Ent.im.injEq, PyData.int.injEq, PyData.list.injEq, PyData.dict.injEq, PyData.tuple.injEq, PyData.str.injEq, exists_eq', exists_eq, decide_eq_true_eq, Bool.not_eq_true', ite_true, ite_false, decide_true, decide_false, decide_eq_false_iff_not, not_true_eq_false, not_false_eq_true, reduceCtorEq, eq_self, eqv_nil, l1, l2, l3, S_cps]
    refine ⟨by decide, todo_eq _ ht, zl _ (by omega), ite_i (fun c => q _ (hr _ (.hit (by omega)))) (fun c => ?_)⟩
    have hwn : w.length ≠ n := by omega
    refine ⟨by decide, grown_i (ws := [w]) (by simp) (fun v hv => by rw [List.mem_singleton.mp hv]; omega) ho ho2 ?_⟩
    simp -dsimp only [↓uSeq, ↓uNext, ↓uKill, ↓uFrz, ↓uDrop, ↓uRet, ↓uIf, ↓uAsg, ↓uAsgO, ↓uPar2, ↓uPar3, ↓uAug, ↓uPut, ↓uDPut, ↓uFor_eq, ↓uWhile_eq, ↓uSeqM_eq, ↓uBrk, ↓uCnt, ↓uWelD, ↓gSet, ↓gN, ↓gC, ↓gT, ↓zE, ↓zF, ↓oE, ↓oV, ↓wV, ↓wC, ↓wOp, ↓wUn, ↓app2, ↓app1, ↓wTst, ↓tAndD, ↓tOrD, ↓tNotD, ↓wAndV, ↓wOrV, ↓wNotV, ↓wIf, ↓wChain, ↓osN, ↓osC, getAll, ↓appN, ↓wCB, ↓appM, ↓wBM, ↓wBM0, ↓wN, ↓wCs, ↓wTup, ↓wLst, ↓wDic0, ↓wDicT, ↓aN, ↓aC, ↓aW, ↓wCall_eq, ↓wCallK_eq, perm, List.filterMap_cons, List.filterMap_nil, ↓wApp, ↓wExt, ↓wPop, ↓wPopAt, ↓wListA, ↓wRpl, ↓iX, ↓iL, ↓iT, ↓iS, ↓iR1, ↓iR2, ↓iR3, ↓iScr, ↓iZD, ↓iE, ↓iE2, ↓iZ2, ↓iZ3, ↓seqD, ↓zipD3, ↓wComp_eq, ↓ttY, ↓wSl, ↓wPart, ↓plN, ↓wRev, ↓wListO, ↓wRep, ↓wLenSet, ↓wLenScr, ↓wWelI, ↓wWelPop, ↓wWelApp, ↓tWelNE, ↓wDisp, ↓wDispT, ↓psC, ↓psN, ↓wDIn, ↓wDNotIn, ↓wDG1, ↓wDG2, ↓wIsi, ↓askD, ↓uTry, ↓uRng, ↓iRV, ↓uRaise, ↓uRaise0, ↓uNever, ↓wCallX_eq, ↓wCallKX_eq, ↓wXf, ↓wIsX, ↓fAdd, ↓fSub, ↓fII, ↓fII0, ↓fDiv, ↓fMod, ↓fPow, ↓fLt, ↓fGt, ↓fLe, ↓fGe, ↓fGtD, ↓fLtD, ↓fLeD, ↓fGeD, ↓fNeg, ↓fMul, ↓fEq, ↓fNe, ↓eqQ, ↓fIsN, ↓fNotN, isNone_1, isNone_2, isNone_3, isNone_4, isNone_5, isNone_6, isNone_7, ↓fInC, ↓fNotInC, ↓fSub_, ↓fIx, ↓fSl, ↓fLen, ↓fTuple, ↓fMin1, ↓fMax1, ↓fSum, ↓fAll, ↓fAny, ↓fSorted, ↓fSortS, ↓fAbs, ↓fInt, ↓fRepr, ↓fCnt, ↓fIdx, ↓fJoin, ↓mSS, ↓mSB, ↓mTI, ↓mTB, ↓mTI3, ↓fInL, ↓fNinL, ↓fInT, ↓fNinT, ↓fInA, ↓fNinA, ↓fInB, ↓fNinB, isStr,
 atI_0, atI_1, atI_2, atI_3, endsG, fld_TooMany, fld_Unfit, mem0, toEnt, Mem.set, Mem.view, Mem.kill, Mem.frz, Mem.ro, Ent.ro', Opd.get,
 List.set_cons_zero, List.set_cons_succ, List.getElem?_cons_zero, List.getElem?_cons_succ, List.map_cons, List.map_nil, List.length_cons, List.length_nil, List.cons_append, List.nil_append, List.replicate_succ, List.replicate_zero, Option.map_some, Option.map_none, List.cons.injEq, and_true, true_and, Arg.x.injEq, exists_eq_left, exists_eq_right, Option.some.injEq, Ent.ow.injEq, Ent.im.injEq, PyData.int.injEq, PyData.list.injEq, PyData.dict.injEq, PyData.tuple.injEq, PyData.str.injEq, exists_eq', exists_eq, decide_eq_true_eq, Bool.not_eq_true', ite_true, ite_false, decide_true, decide_false, decide_eq_false_iff_not, not_true_eq_false, not_false_eq_true, reduceCtorEq, eq_self]
    have ek : growP k o [w] = kids k o w := by simp [growP]
    have hg := ht.go (k := k) (o := o) hwn
    have hl := hg.len
    rw [List.length_append, List.length_reverse] at hl
    rw [ek, l2, ← List.map_reverse, ← List.map_append]
    exact ⟨zl2 _ (by rw [List.length_map, List.length_map, List.length_reverse]; omega), _, ms_go ht hwn, u ++ (kids k o w).reverse, hg, fun r h => hr r (.go hwn h), rfl, rfl⟩
/-! _law_heard -/
def g__law_heard : GSpec := fun args wl Q => ∃ (k n o : Nat) (b : Bool), args = [.x (.int (k : Nat)), .x (.int (n : Nat)), .x (.int (o : Nat)), .x (.bool b)] ∧ n ≤ 59 ∧ 2 ≤ o ∧ o ≤ 20 ∧ (∀ i, i ≤ n → (frees k o i).length ≤ 4000) ∧ ((frees k o n).length ≤ 400 → Q (.tuple [.str "told", .tuple ((frees k o n).map sD)]) wl) ∧ (400 < (frees k o n).length → Q (.tuple [.str "many", .int 400]) wl)
theorem heard_i {k n o : Nat} {b : Bool} {wl : Option Wel} {Q : PyData → Option Wel → Prop} {lk : Lock Q} (h1 : n ≤ 59) (h2 : 2 ≤ o) (h3 : o ≤ 20) (h4 : ∀ i, i ≤ n → (frees k o i).length ≤ 4000) (q : (frees k o n).length ≤ 400 → Q (.tuple [.str "told", .tuple ((frees k o n).map sD)]) wl) (x : 400 < (frees k o n).length → Q (.tuple [.str "many", .int 400]) wl) : callG g__law_heard [.x (.int (k : Nat)), .x (.int (n : Nat)), .x (.int (o : Nat)), .x (.bool b)] wl Q lk := ⟨k, n, o, b, rfl, h1, h2, h3, h4, q, x⟩
def u__law_heard : WS :=
  (uTry "TooMany" 4
  (uSeq (uIf (wTst (wV 3))
  (uRet (wTup (wCs (wC (.str "told")) (wCs (wCallKX g_count_free [2, 1, 0] (aC (wV 2) (aC (wV 1) (aC (wV 0) aN)))) wN))))
  uNext)
  (uRet (wTup (wCs (wC (.str "told")) (wCs (wCallX g_count_free (aC (wV 0) (aC (wV 1) (aC (wV 2) aN)))) wN)))))
  (fun a_ d_ => (uRet (wIf (tNotD (wTst (wIsX a_ d_ 4 false))) (wTup (wCs (wC (.str "many")) (wCs (wXf a_ d_ 4 "limit") wN))) (wTup (wCs (wC (.str "other")) wN))))))
theorem pf__law_heard (args : List Arg) (wl : Option Wel) (Q : PyData → Option Wel → Prop) (h : g__law_heard args wl Q) : u__law_heard noX (endsG Q) (mem0 5 args wl) := by
  obtain ⟨k, n, o, b, rfl, h1, h2, h3, h4, q, x⟩ := h
  simp -dsimp only [u__law_heard, ↓uSeq, ↓uNext, ↓uKill, ↓uFrz, ↓uDrop, ↓uRet, ↓uIf, ↓uAsg, ↓uAsgO, ↓uPar2, ↓uPar3, ↓uAug, ↓uPut, ↓uDPut, ↓uFor_eq, ↓uWhile_eq, ↓uSeqM_eq, ↓uBrk, ↓uCnt, ↓uWelD, ↓gSet, ↓gN, ↓gC, ↓gT, ↓zE, ↓zF, ↓oE, ↓oV, ↓wV, ↓wC, ↓wOp, ↓wUn, ↓app2, ↓app1, ↓wTst, ↓tAndD, ↓tOrD, ↓tNotD, ↓wAndV, ↓wOrV, ↓wNotV, ↓wIf, ↓wChain, ↓osN, ↓osC, getAll, ↓appN, ↓wCB, ↓appM, ↓wBM, ↓wBM0, ↓wN, ↓wCs, ↓wTup, ↓wLst, ↓wDic0, ↓wDicT, ↓aN, ↓aC, ↓aW, ↓wCall_eq, ↓wCallK_eq, perm, List.filterMap_cons, List.filterMap_nil, ↓wApp, ↓wExt, ↓wPop, ↓wPopAt, ↓wListA, ↓wRpl, ↓iX, ↓iL, ↓iT, ↓iS, ↓iR1, ↓iR2, ↓iR3, ↓iScr, ↓iZD, ↓iE, ↓iE2, ↓iZ2, ↓iZ3, ↓seqD, ↓zipD3, ↓wComp_eq, ↓ttY, ↓wSl, ↓wPart, ↓plN, ↓wRev, ↓wListO, ↓wRep, ↓wLenSet, ↓wLenScr, ↓wWelI, ↓wWelPop, ↓wWelApp, ↓tWelNE, ↓wDisp, ↓wDispT, ↓psC, ↓psN, ↓wDIn, ↓wDNotIn, ↓wDG1, ↓wDG2, ↓wIsi, ↓askD, ↓uTry, ↓uRng, ↓iRV, ↓uRaise, ↓uRaise0, ↓uNever, ↓wCallX_eq, ↓wCallKX_eq, ↓wXf, ↓wIsX, ↓fAdd, ↓fSub, ↓fII, ↓fII0, ↓fDiv, ↓fMod, ↓fPow, ↓fLt, ↓fGt, ↓fLe, ↓fGe, ↓fGtD, ↓fLtD, ↓fLeD, ↓fGeD, ↓fNeg, ↓fMul, ↓fEq, ↓fNe, ↓eqQ, ↓fIsN, ↓fNotN, isNone_1, isNone_2, isNone_3, isNone_4, isNone_5, isNone_6, isNone_7, ↓fInC, ↓fNotInC, ↓fSub_, ↓fIx, ↓fSl, ↓fLen, ↓fTuple, ↓fMin1, ↓fMax1, ↓fSum, ↓fAll, ↓fAny, ↓fSorted, ↓fSortS, ↓fAbs, ↓fInt, ↓fRepr, ↓fCnt, ↓fIdx, ↓fJoin, ↓mSS, ↓mSB, ↓mTI, ↓mTB, ↓mTI3, ↓fInL, ↓fNinL, ↓fInT, ↓fNinT, ↓fInA, ↓fNinA, ↓fInB, ↓fNinB, isStr,
 atI_0, atI_1, atI_2, atI_3, endsG, fld_TooMany, fld_Unfit, mem0, toEnt, Mem.set, Mem.view, Mem.kill, Mem.frz, Mem.ro, Ent.ro', Opd.get,
 List.set_cons_zero, List.set_cons_succ, List.getElem?_cons_zero, List.getElem?_cons_succ, List.map_cons, List.map_nil, List.length_cons, List.length_nil, List.cons_append, List.nil_append, List.replicate_succ, List.replicate_zero, Option.map_some, Option.map_none, List.cons.injEq, and_true, true_and, Arg.x.injEq, exists_eq_left, exists_eq_right, Option.some.injEq, Ent.ow.injEq, Ent.im.injEq, PyData.int.injEq, PyData.list.injEq, PyData.dict.injEq, PyData.tuple.injEq, PyData.str.injEq, exists_eq', exists_eq, decide_eq_true_eq, Bool.not_eq_true', ite_true, ite_false, decide_true, decide_false, decide_eq_false_iff_not, not_true_eq_false, not_false_eq_true, reduceCtorEq, eq_self]
  refine ite_i (fun c => ?_) (fun c => ?_)
  · refine free_i h1 h2 h3 h4 (fun h => ?_) (fun h => ?_)
    · simp -dsimp only [↓uSeq, ↓uNext, ↓uKill, ↓uFrz, ↓uDrop, ↓uRet, ↓uIf, ↓uAsg, ↓uAsgO, ↓uPar2, ↓uPar3, ↓uAug, ↓uPut, ↓uDPut, ↓uFor_eq, ↓uWhile_eq, ↓uSeqM_eq, ↓uBrk, ↓uCnt, ↓uWelD, ↓gSet, ↓gN, ↓gC, ↓gT, ↓zE, ↓zF, ↓oE, ↓oV, ↓wV, ↓wC, ↓wOp, ↓wUn, ↓app2, ↓app1, ↓wTst, ↓tAndD, ↓tOrD, ↓tNotD, ↓wAndV, ↓wOrV, ↓wNotV, ↓wIf, ↓wChain, ↓osN, ↓osC, getAll, ↓appN, ↓wCB, ↓appM, ↓wBM, ↓wBM0, ↓wN, ↓wCs, ↓wTup, ↓wLst, ↓wDic0, ↓wDicT, ↓aN, ↓aC, ↓aW, ↓wCall_eq, ↓wCallK_eq, perm, List.filterMap_cons, List.filterMap_nil, ↓wApp, ↓wExt, ↓wPop, ↓wPopAt, ↓wListA, ↓wRpl, ↓iX, ↓iL, ↓iT, ↓iS, ↓iR1, ↓iR2, ↓iR3, ↓iScr, ↓iZD, ↓iE, ↓iE2, ↓iZ2, ↓iZ3, ↓seqD, ↓zipD3, ↓wComp_eq, ↓ttY, ↓wSl, ↓wPart, ↓plN, ↓wRev, ↓wListO, ↓wRep, ↓wLenSet, ↓wLenScr, ↓wWelI, ↓wWelPop, ↓wWelApp, ↓tWelNE, ↓wDisp, ↓wDispT, ↓psC, ↓psN, ↓wDIn, ↓wDNotIn, ↓wDG1, ↓wDG2, ↓wIsi, ↓askD, ↓uTry, ↓uRng, ↓iRV, ↓uRaise, ↓uRaise0, ↓uNever, ↓wCallX_eq, ↓wCallKX_eq, ↓wXf, ↓wIsX, ↓fAdd, ↓fSub, ↓fII, ↓fII0, ↓fDiv, ↓fMod, ↓fPow, ↓fLt, ↓fGt, ↓fLe, ↓fGe, ↓fGtD, ↓fLtD, ↓fLeD, ↓fGeD, ↓fNeg, ↓fMul, ↓fEq, ↓fNe, ↓eqQ, ↓fIsN, ↓fNotN, isNone_1, isNone_2, isNone_3, isNone_4, isNone_5, isNone_6, isNone_7, ↓fInC, ↓fNotInC, ↓fSub_, ↓fIx, ↓fSl, ↓fLen, ↓fTuple, ↓fMin1, ↓fMax1, ↓fSum, ↓fAll, ↓fAny, ↓fSorted, ↓fSortS, ↓fAbs, ↓fInt, ↓fRepr, ↓fCnt, ↓fIdx, ↓fJoin, ↓mSS, ↓mSB, ↓mTI, ↓mTB, ↓mTI3, ↓fInL, ↓fNinL, ↓fInT, ↓fNinT, ↓fInA, ↓fNinA, ↓fInB, ↓fNinB, isStr,
 atI_0, atI_1, atI_2, atI_3, endsG, fld_TooMany, fld_Unfit, mem0, toEnt, Mem.set, Mem.view, Mem.kill, Mem.frz, Mem.ro, Ent.ro', Opd.get,
 List.set_cons_zero, List.set_cons_succ, List.getElem?_cons_zero, List.getElem?_cons_succ, List.map_cons, List.map_nil, List.length_cons, List.length_nil, List.cons_append, List.nil_append, List.replicate_succ, List.replicate_zero, Option.map_some, Option.map_none, List.cons.injEq, and_true, true_and, Arg.x.injEq, exists_eq_left, exists_eq_right, Option.some.injEq, Ent.ow.injEq, Ent.im.injEq, PyData.int.injEq, PyData.list.injEq, PyData.dict.injEq, PyData.tuple.injEq, PyData.str.injEq, exists_eq', exists_eq, decide_eq_true_eq, Bool.not_eq_true', ite_true, ite_false, decide_true, decide_false, decide_eq_false_iff_not, not_true_eq_false, not_false_eq_true, reduceCtorEq, eq_self]
      exact ⟨by decide, q h⟩
    · simp -dsimp only [↓uSeq, ↓uNext, ↓uKill, ↓uFrz, ↓uDrop, ↓uRet, ↓uIf, ↓uAsg, ↓uAsgO, ↓uPar2, ↓uPar3, ↓uAug, ↓uPut, ↓uDPut, ↓uFor_eq, ↓uWhile_eq, ↓uSeqM_eq, ↓uBrk, ↓uCnt, ↓uWelD, ↓gSet, ↓gN, ↓gC, ↓gT, ↓zE, ↓zF, ↓oE, ↓oV, ↓wV, ↓wC, ↓wOp, ↓wUn, ↓app2, ↓app1, ↓wTst, ↓tAndD, ↓tOrD, ↓tNotD, ↓wAndV, ↓wOrV, ↓wNotV, ↓wIf, ↓wChain, ↓osN, ↓osC, getAll, ↓appN, ↓wCB, ↓appM, ↓wBM, ↓wBM0, ↓wN, ↓wCs, ↓wTup, ↓wLst, ↓wDic0, ↓wDicT, ↓aN, ↓aC, ↓aW, ↓wCall_eq, ↓wCallK_eq, perm, List.filterMap_cons, List.filterMap_nil, ↓wApp, ↓wExt, ↓wPop, ↓wPopAt, ↓wListA, ↓wRpl, ↓iX, ↓iL, ↓iT, ↓iS, ↓iR1, ↓iR2, ↓iR3, ↓iScr, ↓iZD, ↓iE, ↓iE2, ↓iZ2, ↓iZ3, ↓seqD, ↓zipD3, ↓wComp_eq, ↓ttY, ↓wSl, ↓wPart, ↓plN, ↓wRev, ↓wListO, ↓wRep, ↓wLenSet, ↓wLenScr, ↓wWelI, ↓wWelPop, ↓wWelApp, ↓tWelNE, ↓wDisp, ↓wDispT, ↓psC, ↓psN, ↓wDIn, ↓wDNotIn, ↓wDG1, ↓wDG2, ↓wIsi, ↓askD, ↓uTry, ↓uRng, ↓iRV, ↓uRaise, ↓uRaise0, ↓uNever, ↓wCallX_eq, ↓wCallKX_eq, ↓wXf, ↓wIsX, ↓fAdd, ↓fSub, ↓fII, ↓fII0, ↓fDiv, ↓fMod, ↓fPow, ↓fLt, ↓fGt, ↓fLe, ↓fGe, ↓fGtD, ↓fLtD, ↓fLeD, ↓fGeD, ↓fNeg, ↓fMul, ↓fEq, ↓fNe, ↓eqQ, ↓fIsN, ↓fNotN, isNone_1, isNone_2, isNone_3, isNone_4, isNone_5, isNone_6, isNone_7, ↓fInC, ↓fNotInC, ↓fSub_, ↓fIx, ↓fSl, ↓fLen, ↓fTuple, ↓fMin1, ↓fMax1, ↓fSum, ↓fAll, ↓fAny, ↓fSorted, ↓fSortS, ↓fAbs, ↓fInt, ↓fRepr, ↓fCnt, ↓fIdx, ↓fJoin, ↓mSS, ↓mSB, ↓mTI, ↓mTB, ↓mTI3, ↓fInL, ↓fNinL, ↓fInT, ↓fNinT, ↓fInA, ↓fNinA, ↓fInB, ↓fNinB, isStr,
 atI_0, atI_1, atI_2, atI_3, endsG, fld_TooMany, fld_Unfit, mem0, toEnt, Mem.set, Mem.view, Mem.kill, Mem.frz, Mem.ro, Ent.ro', Opd.get,
 List.set_cons_zero, List.set_cons_succ, List.getElem?_cons_zero, List.getElem?_cons_succ, List.map_cons, List.map_nil, List.length_cons, List.length_nil, List.cons_append, List.nil_append, List.replicate_succ, List.replicate_zero, Option.map_some, Option.map_none, List.cons.injEq, and_true, true_and, Arg.x.injEq, exists_eq_left, exists_eq_right, Option.some.injEq, Ent.ow.injEq, Ent.im.injEq, PyData.int.injEq, PyData.list.injEq, PyData.dict.injEq, PyData.tuple.injEq, PyData.str.injEq, exists_eq', exists_eq, decide_eq_true_eq, Bool.not_eq_true', ite_true, ite_false, decide_true, decide_false, decide_eq_false_iff_not, not_true_eq_false, not_false_eq_true, reduceCtorEq, eq_self]
      exact fun _ _ _ => ⟨rfl, by decide, x h⟩
  · refine free_i h1 h2 h3 h4 (fun h => ?_) (fun h => ?_)
    · simp -dsimp only [↓uSeq, ↓uNext, ↓uKill, ↓uFrz, ↓uDrop, ↓uRet, ↓uIf, ↓uAsg, ↓uAsgO, ↓uPar2, ↓uPar3, ↓uAug, ↓uPut, ↓uDPut, ↓uFor_eq, ↓uWhile_eq, ↓uSeqM_eq, ↓uBrk, ↓uCnt, ↓uWelD, ↓gSet, ↓gN, ↓gC, ↓gT, ↓zE, ↓zF, ↓oE, ↓oV, ↓wV, ↓wC, ↓wOp, ↓wUn, ↓app2, ↓app1, ↓wTst, ↓tAndD, ↓tOrD, ↓tNotD, ↓wAndV, ↓wOrV, ↓wNotV, ↓wIf, ↓wChain, ↓osN, ↓osC, getAll, ↓appN, ↓wCB, ↓appM, ↓wBM, ↓wBM0, ↓wN, ↓wCs, ↓wTup, ↓wLst, ↓wDic0, ↓wDicT, ↓aN, ↓aC, ↓aW, ↓wCall_eq, ↓wCallK_eq, perm, List.filterMap_cons, List.filterMap_nil, ↓wApp, ↓wExt, ↓wPop, ↓wPopAt, ↓wListA, ↓wRpl, ↓iX, ↓iL, ↓iT, ↓iS, ↓iR1, ↓iR2, ↓iR3, ↓iScr, ↓iZD, ↓iE, ↓iE2, ↓iZ2, ↓iZ3, ↓seqD, ↓zipD3, ↓wComp_eq, ↓ttY, ↓wSl, ↓wPart, ↓plN, ↓wRev, ↓wListO, ↓wRep, ↓wLenSet, ↓wLenScr, ↓wWelI, ↓wWelPop, ↓wWelApp, ↓tWelNE, ↓wDisp, ↓wDispT, ↓psC, ↓psN, ↓wDIn, ↓wDNotIn, ↓wDG1, ↓wDG2, ↓wIsi, ↓askD, ↓uTry, ↓uRng, ↓iRV, ↓uRaise, ↓uRaise0, ↓uNever, ↓wCallX_eq, ↓wCallKX_eq, ↓wXf, ↓wIsX, ↓fAdd, ↓fSub, ↓fII, ↓fII0, ↓fDiv, ↓fMod, ↓fPow, ↓fLt, ↓fGt, ↓fLe, ↓fGe, ↓fGtD, ↓fLtD, ↓fLeD, ↓fGeD, ↓fNeg, ↓fMul, ↓fEq, ↓fNe, ↓eqQ, ↓fIsN, ↓fNotN, isNone_1, isNone_2, isNone_3, isNone_4, isNone_5, isNone_6, isNone_7, ↓fInC, ↓fNotInC, ↓fSub_, ↓fIx, ↓fSl, ↓fLen, ↓fTuple, ↓fMin1, ↓fMax1, ↓fSum, ↓fAll, ↓fAny, ↓fSorted, ↓fSortS, ↓fAbs, ↓fInt, ↓fRepr, ↓fCnt, ↓fIdx, ↓fJoin, ↓mSS, ↓mSB, ↓mTI, ↓mTB, ↓mTI3, ↓fInL, ↓fNinL, ↓fInT, ↓fNinT, ↓fInA, ↓fNinA, ↓fInB, ↓fNinB, isStr,
 atI_0, atI_1, atI_2, atI_3, endsG, fld_TooMany, fld_Unfit, mem0, toEnt, Mem.set, Mem.view, Mem.kill, Mem.frz, Mem.ro, Ent.ro', Opd.get,
 List.set_cons_zero, List.set_cons_succ, List.getElem?_cons_zero, List.getElem?_cons_succ, List.map_cons, List.map_nil, List.length_cons, List.length_nil, List.cons_append, List.nil_append, List.replicate_succ, List.replicate_zero, Option.map_some, Option.map_none, List.cons.injEq, and_true, true_and, Arg.x.injEq, exists_eq_left, exists_eq_right, Option.some.injEq, Ent.ow.injEq, Ent.im.injEq, PyData.int.injEq, PyData.list.injEq, PyData.dict.injEq, PyData.tuple.injEq, PyData.str.injEq, exists_eq', exists_eq, decide_eq_true_eq, Bool.not_eq_true', ite_true, ite_false, decide_true, decide_false, decide_eq_false_iff_not, not_true_eq_false, not_false_eq_true, reduceCtorEq, eq_self]
      exact ⟨by decide, q h⟩
    · simp -dsimp only [↓uSeq, ↓uNext, ↓uKill, ↓uFrz, ↓uDrop, ↓uRet, ↓uIf, ↓uAsg, ↓uAsgO, ↓uPar2, ↓uPar3, ↓uAug, ↓uPut, ↓uDPut, ↓uFor_eq, ↓uWhile_eq, ↓uSeqM_eq, ↓uBrk, ↓uCnt, ↓uWelD, ↓gSet, ↓gN, ↓gC, ↓gT, ↓zE, ↓zF, ↓oE, ↓oV, ↓wV, ↓wC, ↓wOp, ↓wUn, ↓app2, ↓app1, ↓wTst, ↓tAndD, ↓tOrD, ↓tNotD, ↓wAndV, ↓wOrV, ↓wNotV, ↓wIf, ↓wChain, ↓osN, ↓osC, getAll, ↓appN, ↓wCB, ↓appM, ↓wBM, ↓wBM0, ↓wN, ↓wCs, ↓wTup, ↓wLst, ↓wDic0, ↓wDicT, ↓aN, ↓aC, ↓aW, ↓wCall_eq, ↓wCallK_eq, perm, List.filterMap_cons, List.filterMap_nil, ↓wApp, ↓wExt, ↓wPop, ↓wPopAt, ↓wListA, ↓wRpl, ↓iX, ↓iL, ↓iT, ↓iS, ↓iR1, ↓iR2, ↓iR3, ↓iScr, ↓iZD, ↓iE, ↓iE2, ↓iZ2, ↓iZ3, ↓seqD, ↓zipD3, ↓wComp_eq, ↓ttY, ↓wSl, ↓wPart, ↓plN, ↓wRev, ↓wListO, ↓wRep, ↓wLenSet, ↓wLenScr, ↓wWelI, ↓wWelPop, ↓wWelApp, ↓tWelNE, ↓wDisp, ↓wDispT, ↓psC, ↓psN, ↓wDIn, ↓wDNotIn, ↓wDG1, ↓wDG2, ↓wIsi, ↓askD, ↓uTry, ↓uRng, ↓iRV, ↓uRaise, ↓uRaise0, ↓uNever, ↓wCallX_eq, ↓wCallKX_eq, ↓wXf, ↓wIsX, ↓fAdd, ↓fSub, ↓fII, ↓fII0, ↓fDiv, ↓fMod, ↓fPow, ↓fLt, ↓fGt, ↓fLe, ↓fGe, ↓fGtD, ↓fLtD, ↓fLeD, ↓fGeD, ↓fNeg, ↓fMul, ↓fEq, ↓fNe, ↓eqQ, ↓fIsN, ↓fNotN, isNone_1, isNone_2, isNone_3, isNone_4, isNone_5, isNone_6, isNone_7, ↓fInC, ↓fNotInC, ↓fSub_, ↓fIx, ↓fSl, ↓fLen, ↓fTuple, ↓fMin1, ↓fMax1, ↓fSum, ↓fAll, ↓fAny, ↓fSorted, ↓fSortS, ↓fAbs, ↓fInt, ↓fRepr, ↓fCnt, ↓fIdx, ↓fJoin, ↓mSS, ↓mSB, ↓mTI, ↓mTB, ↓mTI3, ↓fInL, ↓fNinL, ↓fInT, ↓fNinT, ↓fInA, ↓fNinA, ↓fInB, ↓fNinB, isStr,
 atI_0, atI_1, atI_2, atI_3, endsG, fld_TooMany, fld_Unfit, mem0, toEnt, Mem.set, Mem.view, Mem.kill, Mem.frz, Mem.ro, Ent.ro', Opd.get,
 List.set_cons_zero, List.set_cons_succ, List.getElem?_cons_zero, List.getElem?_cons_succ, List.map_cons, List.map_nil, List.length_cons, List.length_nil, List.cons_append, List.nil_append, List.replicate_succ, List.replicate_zero, Option.map_some, Option.map_none, List.cons.injEq, and_true, true_and, Arg.x.injEq, exists_eq_left, exists_eq_right, Option.some.injEq, Ent.ow.injEq, Ent.im.injEq, PyData.int.injEq, PyData.list.injEq, PyData.dict.injEq, PyData.tuple.injEq, PyData.str.injEq, exists_eq', exists_eq, decide_eq_true_eq, Bool.not_eq_true', ite_true, ite_false, decide_true, decide_false, decide_eq_false_iff_not, not_true_eq_false, not_false_eq_true, reduceCtorEq, eq_self]
      exact fun _ _ _ => ⟨rfl, by decide, x h⟩
/-! longest -/
def lngD (k o : Nat) : PyData := match lng k o with
  | some L => .int (L : Nat)
  | none => .none
def gLng : GSpec := fun args wl Q => ∃ (k o : Nat), args = [.x (.int (k : Nat)), .x (.int (o : Nat))] ∧ 1 ≤ o ∧ o ≤ 20 ∧ k ≤ 20 ∧ Q (lngD k o) wl
def g_longest_length : GSpec := gLng
def g__law_longest : GSpec := gLng
theorem lng_i {k o : Nat} {wl : Option Wel} {Q : PyData → Option Wel → Prop} {lk : Lock Q} (h1 : 1 ≤ o) (h2 : o ≤ 20) (h3 : k ≤ 20) (q : Q (lngD k o) wl) : callG g_longest_length [.x (.int (k : Nat)), .x (.int (o : Nat))] wl Q lk := ⟨k, o, rfl, h1, h2, h3, q⟩
theorem llng_i {k o : Nat} {wl : Option Wel} {Q : PyData → Option Wel → Prop} {lk : Lock Q} (h1 : 1 ≤ o) (h2 : o ≤ 20) (h3 : k ≤ 20) (q : Q (lngD k o) wl) : callG g__law_longest [.x (.int (k : Nat)), .x (.int (o : Nat))] wl Q lk := ⟨k, o, rfl, h1, h2, h3, q⟩
theorem lng_dict {k o : Nat} (h : k ≠ 1) : (dlook (dpairs ((.none, .none) :: List.foldl (fun acc kv => dput acc kv.1 kv.2) [] [(PyData.tuple [.int 2, .int 2], PyData.int 3), (.tuple [.int 2, .int 3], .int 9), (.tuple [.int 3, .int 2], .int 7)])) (.tuple [.int (k : Int), .int (o : Int)])).getD .none = lngD k o := by
  have e : dpairs ((.none, .none) :: List.foldl (fun acc kv => dput acc kv.1 kv.2) [] [(PyData.tuple [.int 2, .int 2], PyData.int 3), (.tuple [.int 2, .int 3], .int 9), (.tuple [.int 3, .int 2], .int 7)]) = [(PyData.tuple [.int 2, .int 2], PyData.int 3), (.tuple [.int 2, .int 3], .int 9), (.tuple [.int 3, .int 2], .int 7)] := by rfl
  rw [e]
  have k1 : ∀ a b : Nat, kEq (PyData.tuple [.int (a : Int), .int (b : Int)]) (.tuple [.int (k : Int), .int (o : Int)]) = decide (k = a ∧ o = b) := fun a b => by
    show (decide ((a : Int) = k) && (decide ((b : Int) = o) && true)) = _
    rw [Bool.and_true, Bool.eq_iff_iff]
    simp
    omega
  have a1 := k1 2 2
  have a2 := k1 2 3
  have a3 := k1 3 2
  unfold dlook lngD lng
  rw [if_neg h]
  simp only [List.find?_cons, List.find?_nil]
  rw [show (kEq (PyData.tuple [.int 2, .int 2]) (.tuple [.int (k : Int), .int (o : Int)])) = decide (k = 2 ∧ o = 2) from a1, show (kEq (PyData.tuple [.int 2, .int 3]) (.tuple [.int (k : Int), .int (o : Int)])) = decide (k = 2 ∧ o = 3) from a2, show (kEq (PyData.tuple [.int 3, .int 2]) (.tuple [.int (k : Int), .int (o : Int)])) = decide (k = 3 ∧ o = 2) from a3]
  by_cases c1 : k = 2 ∧ o = 2
  · simp [c1]
  · by_cases c2 : k = 2 ∧ o = 3
    · simp [c2]
    · by_cases c3 : k = 3 ∧ o = 2
      · simp [c3]
      · simp [c1, c2, c3]
def u_longest_length : WS :=
  (uSeq (uIf (wTst (wOp fEq (oV 0) (oE (wC (.int 1)))))
  (uRet (wOp fSub (oV 1) (oE (wC (.int 1)))))
  uNext)
  (uRet (wDG1 (oE (wDispT (psC (wTup (wCs (wC (.int 2)) (wCs (wC (.int 2)) wN))) (wC (.int 3)) (psC (wTup (wCs (wC (.int 2)) (wCs (wC (.int 3)) wN))) (wC (.int 9)) (psC (wTup (wCs (wC (.int 3)) (wCs (wC (.int 2)) wN))) (wC (.int 7)) psN))))) (oE (wTup (wCs (wV 0) (wCs (wV 1) wN)))))))
theorem pf_longest_length (args : List Arg) (wl : Option Wel) (Q : PyData → Option Wel → Prop) (h : g_longest_length args wl Q) : u_longest_length noX (endsG Q) (mem0 2 args wl) := by
  obtain ⟨k, o, rfl, h1, h2, h3, q⟩ := h
  simp -dsimp only [u_longest_length, ↓uSeq, ↓uNext, ↓uKill, ↓uFrz, ↓uDrop, ↓uRet, ↓uIf, ↓uAsg, ↓uAsgO, ↓uPar2, ↓uPar3, ↓uAug, ↓uPut, ↓uDPut, ↓uFor_eq, ↓uWhile_eq, ↓uSeqM_eq, ↓uBrk, ↓uCnt, ↓uWelD, ↓gSet, ↓gN, ↓gC, ↓gT, ↓zE, ↓zF, ↓oE, ↓oV, ↓wV, ↓wC, ↓wOp, ↓wUn, ↓app2, ↓app1, ↓wTst, ↓tAndD, ↓tOrD, ↓tNotD, ↓wAndV, ↓wOrV, ↓wNotV, ↓wIf, ↓wChain, ↓osN, ↓osC, getAll, ↓appN, ↓wCB, ↓appM, ↓wBM, ↓wBM0, ↓wN, ↓wCs, ↓wTup, ↓wLst, ↓wDic0, ↓wDicT, ↓aN, ↓aC, ↓aW, ↓wCall_eq, ↓wCallK_eq, perm, List.filterMap_cons, List.filterMap_nil, ↓wApp, ↓wExt, ↓wPop, ↓wPopAt, ↓wListA, ↓wRpl, ↓iX, ↓iL, ↓iT, ↓iS, ↓iR1, ↓iR2, ↓iR3, ↓iScr, ↓iZD, ↓iE, ↓iE2, ↓iZ2, ↓iZ3, ↓seqD, ↓zipD3, ↓wComp_eq, ↓ttY, ↓wSl, ↓wPart, ↓plN, ↓wRev, ↓wListO, ↓wRep, ↓wLenSet, ↓wLenScr, ↓wWelI, ↓wWelPop, ↓wWelApp, ↓tWelNE, ↓wDisp, ↓wDispT, ↓psC, ↓psN, ↓wDIn, ↓wDNotIn, ↓wDG1, ↓wDG2, ↓wIsi, ↓askD, ↓uTry, ↓uRng, ↓iRV, ↓uRaise, ↓uRaise0, ↓uNever, ↓wCallX_eq, ↓wCallKX_eq, ↓wXf, ↓wIsX, ↓fAdd, ↓fSub, ↓fII, ↓fII0, ↓fDiv, ↓fMod, ↓fPow, ↓fLt, ↓fGt, ↓fLe, ↓fGe, ↓fGtD, ↓fLtD, ↓fLeD, ↓fGeD, ↓fNeg, ↓fMul, ↓fEq, ↓fNe, ↓eqQ, ↓fIsN, ↓fNotN, isNone_1, isNone_2, isNone_3, isNone_4, isNone_5, isNone_6, isNone_7, ↓fInC, ↓fNotInC, ↓fSub_, ↓fIx, ↓fSl, ↓fLen, ↓fTuple, ↓fMin1, ↓fMax1, ↓fSum, ↓fAll, ↓fAny, ↓fSorted, ↓fSortS, ↓fAbs, ↓fInt, ↓fRepr, ↓fCnt, ↓fIdx, ↓fJoin, ↓mSS, ↓mSB, ↓mTI, ↓mTB, ↓mTI3, ↓fInL, ↓fNinL, ↓fInT, ↓fNinT, ↓fInA, ↓fNinA, ↓fInB, ↓fNinB, isStr,
 atI_0, atI_1, atI_2, atI_3, endsG, fld_TooMany, fld_Unfit, mem0, toEnt, Mem.set, Mem.view, Mem.kill, Mem.frz, Mem.ro, Ent.ro', Opd.get,
 List.set_cons_zero, List.set_cons_succ, List.getElem?_cons_zero, List.getElem?_cons_succ, List.map_cons, List.map_nil, List.length_cons, List.length_nil, List.cons_append, List.nil_append, List.replicate_succ, List.replicate_zero, Option.map_some, Option.map_none, List.cons.injEq, and_true, true_and, Arg.x.injEq, exists_eq_left, exists_eq_right, Option.some.injEq, Ent.ow.injEq, Ent.im.injEq, PyData.int.injEq, PyData.list.injEq, PyData.dict.injEq, PyData.tuple.injEq, PyData.str.injEq, exists_eq', exists_eq, decide_eq_true_eq, Bool.not_eq_true', ite_true, ite_false, decide_true, decide_false, decide_eq_false_iff_not, not_true_eq_false, not_false_eq_true, reduceCtorEq, eq_self]
  refine ite_i (fun c => ?_) (fun c => ?_)
  · have e : lngD k o = .int ((o : Int) - 1) := by
      unfold lngD lng
      rw [if_pos (by omega)]
      show PyData.int ((o - 1 : Nat) : Int) = _
      congr 1
      omega
    rw [e] at q
    exact q
  · refine ⟨by decide, by decide, by decide, ⟨rfl, by decide⟩, by decide, rfl, ?_⟩
    have e := lng_dict (k := k) (o := o) (by omega)
    rw [← e] at q
    exact q
def u__law_longest : WS :=
  (uSeq (uIf (wTst (wOp fEq (oV 0) (oE (wC (.int 1)))))
  (uRet (wOp fSub (oV 1) (oE (wC (.int 1)))))
  uNext)
  (uRet (wDG1 (oE (wDispT (psC (wTup (wCs (wC (.int 2)) (wCs (wC (.int 2)) wN))) (wC (.int 3)) (psC (wTup (wCs (wC (.int 2)) (wCs (wC (.int 3)) wN))) (wC (.int 9)) (psC (wTup (wCs (wC (.int 3)) (wCs (wC (.int 2)) wN))) (wC (.int 7)) psN))))) (oE (wTup (wCs (wV 0) (wCs (wV 1) wN)))))))
theorem pf__law_longest (args : List Arg) (wl : Option Wel) (Q : PyData → Option Wel → Prop) (h : g__law_longest args wl Q) : u__law_longest noX (endsG Q) (mem0 2 args wl) := pf_longest_length args wl Q h
end DL

/-! M17: k83, the law -/
namespace DL
open PySem PySem.Spec L2 PyProof.Rows
theorem small_int {i : Int} (h0 : -1000 ≤ i) (h : i ≤ 1000) : Sm 0 21 (.int i) := Sm.int (m := 20) (by decide) (by decide) (by omega)
theorem lng_le {k o L : Nat} (h : lng k o = some L) (ho : o ≤ 8) : L ≤ 9 := by
  unfold lng at h
  repeat (first | (split at h) | (cases h; done) | (cases h; omega))
theorem lngD_sm (k o : Nat) (ho : o ≤ 20) : Sm 0 21 (lngD k o) := by
  unfold lngD
  cases h : lng k o with
  | none => exact Sm.none.mono (by decide) (by decide)
  | some L =>
    refine small_int (by omega) ?_
    unfold lng at h
    repeat (first | (split at h) | (cases h; done) | (cases h; omega))
theorem lngD_eqv (k o : Nat) : (lngD k o).eqv (lngD k o) = true := by
  unfold lngD
  cases lng k o with
  | none => simp [PyData.eqv]
  | some L => simp [PyData.eqv]
theorem frees_sm {k o n : Nat} (hn : n ≤ 60) {m : Nat} (hm : (frees k o n).length ≤ m) : Sm 1 (m * 604 + 3) (.tuple ((frees k o n).map sD)) := Sm.tup (n := 0) (k := 602) (m := m) (fun x hx => by
  obtain ⟨y, hy, rfl⟩ := List.mem_map.mp hx
  obtain ⟨h2, h3⟩ := frees_ok k o n y hy
  exact Sm.str (m := 60) h2.lt (by omega)) (by rw [List.length_map]; exact hm)
theorem told_sm {k o n : Nat} (hn : n ≤ 60) (hm : (frees k o n).length ≤ 400) : Sm 2 500000 (.tuple [.str "told", .tuple ((frees k o n).map sD)]) := (Sm.tup (n := 1) (k := 241603) (m := 2) (fun x hx => by
  simp only [List.mem_cons, List.not_mem_nil, or_false] at hx
  rcases hx with rfl | rfl
  · exact (Sm.str (l := [116, 111, 108, 100]) (m := 4) (by decide) (by decide)).mono (by omega) (by omega)
  · exact (frees_sm hn hm).mono (by omega) (by omega)) (by simp)).mono (by omega) (by omega)
theorem many_sm : Sm 1 300 (.tuple [.str "many", .int 400]) := (Sm.tup (n := 0) (k := 50) (m := 2) (fun x hx => by
  simp only [List.mem_cons, List.not_mem_nil, or_false] at hx
  rcases hx with rfl | rfl
  · exact (Sm.str (l := [109, 97, 110, 121]) (m := 4) (by decide) (by decide)).mono (by omega) (by omega)
  · exact (small_int (by decide) (by decide)).mono (by omega) (by omega)) (by simp)).mono (by omega) (by omega)
/-- what is due -/
def dueD (k o n : Nat) : PyData := if (frees k o n).length ≤ 400 then .tuple [.str "told", .tuple ((frees k o n).map sD)] else .tuple [.str "many", .int 400]
theorem due_sm {k o n : Nat} (hn : n ≤ 60) : Sm 2 500000 (dueD k o n) := by
  unfold dueD
  by_cases c : (frees k o n).length ≤ 400
  · rw [if_pos c]; exact told_sm hn c
  · rw [if_neg c]; exact many_sm.mono (by omega) (by omega)
theorem hd_i {k n o : Nat} {b : Bool} {wl : Option Wel} {Q : PyData → Option Wel → Prop} {lk : Lock Q} (h1 : n ≤ 59) (h2 : 2 ≤ o) (h3 : o ≤ 20) (h4 : ∀ i, i ≤ n → (frees k o i).length ≤ 4000) (q : Q (dueD k o n) wl) : callG g__law_heard [.x (.int (k : Nat)), .x (.int (n : Nat)), .x (.int (o : Nat)), .x (.bool b)] wl Q lk :=
  heard_i h1 h2 h3 h4 (fun h => by unfold dueD at q; rwa [if_pos h] at q) (fun h => by unfold dueD at q; rwa [if_neg (by omega)] at q)
theorem res_sm {k o n : Nat} {r : PyData} (hn : n ≤ 60) (h : DR k o n [[]] r) : Sm 0 602 r := by
  rcases h.res (fun w hw => by rw [List.mem_singleton.mp hw]; exact List.mem_singleton.mpr rfl) with rfl | ⟨w, rfl, hw⟩
  · exact Sm.none.mono (by decide) (by decide)
  · obtain ⟨h2, h3⟩ := frees_ok k o n w hw
    exact Sm.str (m := 60) h2.lt (by omega)
theorem res_none {k o n : Nat} {r : PyData} (e : frees k o n = []) (h : DR k o n [[]] r) : r = .none := by
  rcases h.res (fun w hw => by rw [List.mem_singleton.mp hw]; exact List.mem_singleton.mpr rfl) with rfl | ⟨w, rfl, hw⟩
  · rfl
  · rw [e] at hw; cases hw
def u_law_1 : WS :=
  (uPar2 9 10 (zE (wCall g__law_grown (aC (wV 9) (aC (wV 4) (aC (wV 5) aN))))) (zE (wOp fAdd (oV 10) (oE (wC (.int 1))))))
theorem u_law_1_x {xn : Xn} {De : DEn} {M : Mem} : u_law_1 xn De M = (uPar2 9 10 (zE (wCall g__law_grown (aC (wV 9) (aC (wV 4) (aC (wV 5) aN))))) (zE (wOp fAdd (oV 10) (oE (wC (.int 1)))))) xn De M := rfl
def u_law_2 : WS :=
  (uIf (wTst (wOp fNotN (oE (wCall g_least_count_free (aC (wV 4) (aC (wV 13) (aC (wV 5) aN))))) (oE (wC .none))))
  (uRet (wC (.bool false)))
  uNext)
theorem u_law_2_x {xn : Xn} {De : DEn} {M : Mem} : u_law_2 xn De M = (uIf (wTst (wOp fNotN (oE (wCall g_least_count_free (aC (wV 4) (aC (wV 13) (aC (wV 5) aN))))) (oE (wC .none))))
  (uRet (wC (.bool false)))
  uNext) xn De M := rfl
def u_law_3 : WS :=
  (uSeq (uIf (wTst (wOp fNe (oE (wCall g__law_heard (aC (wV 4) (aC (wV 13) (aC (wV 5) (aC (wC (.bool false)) aN)))))) (oE (wTup (wCs (wC (.str "told")) (wCs (wTup wN) wN))))))
  (uRet (wC (.bool false)))
  uNext)
  u_law_2)
theorem u_law_3_x {xn : Xn} {De : DEn} {M : Mem} : u_law_3 xn De M = (uSeq (uIf (wTst (wOp fNe (oE (wCall g__law_heard (aC (wV 4) (aC (wV 13) (aC (wV 5) (aC (wC (.bool false)) aN)))))) (oE (wTup (wCs (wC (.str "told")) (wCs (wTup wN) wN))))))
  (uRet (wC (.bool false)))
  uNext)
  u_law_2) xn De M := rfl
def u_law_4 : WS :=
  (uSeq (uAsg (wOp fAdd (oE (wOp fAdd (oV 6) (oE (wC (.int 1))))) (oE (wCall g__law_dip (aW 1 (aC (wOp fSub (oE (wC (.int 40))) (oV 6)) aN))))) (gSet 13))
  u_law_3)
theorem u_law_4_x {xn : Xn} {De : DEn} {M : Mem} : u_law_4 xn De M = (uSeq (uAsg (wOp fAdd (oE (wOp fAdd (oV 6) (oE (wC (.int 1))))) (oE (wCall g__law_dip (aW 1 (aC (wOp fSub (oE (wC (.int 40))) (oV 6)) aN))))) (gSet 13))
  u_law_3) xn De M := rfl
def u_law_5 : WS :=
  (uAsg (wCallK g_least_count_free [2, 1, 0] (aC (wV 5) (aC (wV 14) (aC (wV 4) aN)))) (gSet 7))
theorem u_law_5_x {xn : Xn} {De : DEn} {M : Mem} : u_law_5 xn De M = (uAsg (wCallK g_least_count_free [2, 1, 0] (aC (wV 5) (aC (wV 14) (aC (wV 4) aN)))) (gSet 7)) xn De M := rfl
def u_law_6 : WS :=
  (uIf (wTst (wOp fNe (oE (wCB fRepr (osC (oV 7) osN))) (oE (wCB fRepr (osC (oV 15) osN)))))
  (uRet (wC (.bool false)))
  uNext)
theorem u_law_6_x {xn : Xn} {De : DEn} {M : Mem} : u_law_6 xn De M = (uIf (wTst (wOp fNe (oE (wCB fRepr (osC (oV 7) osN))) (oE (wCB fRepr (osC (oV 15) osN)))))
  (uRet (wC (.bool false)))
  uNext) xn De M := rfl
def u_law_7 : WS :=
  (uSeqM (uIf (wTst (wOp fEq (oV 2) (oE (wC (.int 0)))))
  u_law_5
  uNext)
  u_law_6)
theorem u_law_7_x {xn : Xn} {De : DEn} {M : Mem} : u_law_7 xn De M = (uSeqM (uIf (wTst (wOp fEq (oV 2) (oE (wC (.int 0)))))
  u_law_5
  uNext)
  u_law_6) xn De M := rfl
def u_law_8 : WS :=
  (uSeq (uAsg (wCall g_least_count_free (aC (wV 4) (aC (wV 14) (aC (wV 5) aN)))) (gSet 7))
  u_law_7)
theorem u_law_8_x {xn : Xn} {De : DEn} {M : Mem} : u_law_8 xn De M = (uSeq (uAsg (wCall g_least_count_free (aC (wV 4) (aC (wV 14) (aC (wV 5) aN)))) (gSet 7))
  u_law_7) xn De M := rfl
def u_law_9 : WS :=
  (uSeq (uAsg (wCall g__law_least (aC (wV 4) (aC (wV 14) (aC (wV 5) aN)))) (gSet 15))
  u_law_8)
theorem u_law_9_x {xn : Xn} {De : DEn} {M : Mem} : u_law_9 xn De M = (uSeq (uAsg (wCall g__law_least (aC (wV 4) (aC (wV 14) (aC (wV 5) aN)))) (gSet 15))
  u_law_8) xn De M := rfl
def u_law_10 : WS :=
  (uSeqM (uAsg (wCall g__law_dip (aW 1 (aC (wIf (wTst (wOp fLt (oE (wOp fMul (oV 4) (oV 5))) (oE (wC (.int 9))))) (wC (.int 9)) (wC (.int 14))) aN))) (gSet 14))
  u_law_9)
theorem u_law_10_x {xn : Xn} {De : DEn} {M : Mem} : u_law_10 xn De M = (uSeqM (uAsg (wCall g__law_dip (aW 1 (aC (wIf (wTst (wOp fLt (oE (wOp fMul (oV 4) (oV 5))) (oE (wC (.int 9))))) (wC (.int 9)) (wC (.int 14))) aN))) (gSet 14))
  u_law_9) xn De M := rfl
def u_law_11 : WS :=
  (uSeqM (uIf (wTst (wOp fNotN (oV 6) (oE (wC .none))))
  u_law_4
  uNext)
  u_law_10)
theorem u_law_11_x {xn : Xn} {De : DEn} {M : Mem} : u_law_11 xn De M = (uSeqM (uIf (wTst (wOp fNotN (oV 6) (oE (wC .none))))
  u_law_4
  uNext)
  u_law_10) xn De M := rfl
def u_law_12 : WS :=
  (uSeq (uIf (wTst (wOp fNe (oE (wCB fRepr (osC (oE (wCall g__law_heard (aC (wV 4) (aC (wV 10) (aC (wV 5) (aC (wOp fEq (oV 2) (oE (wC (.int 1)))) aN)))))) osN))) (oE (wCB fRepr (osC (oV 12) osN)))))
  (uRet (wC (.bool false)))
  uNext)
  u_law_11)
theorem u_law_12_x {xn : Xn} {De : DEn} {M : Mem} : u_law_12 xn De M = (uSeq (uIf (wTst (wOp fNe (oE (wCB fRepr (osC (oE (wCall g__law_heard (aC (wV 4) (aC (wV 10) (aC (wV 5) (aC (wOp fEq (oV 2) (oE (wC (.int 1)))) aN)))))) osN))) (oE (wCB fRepr (osC (oV 12) osN)))))
  (uRet (wC (.bool false)))
  uNext)
  u_law_11) xn De M := rfl
def u_law_13 : WS :=
  (uSeqM (uAsg (wIf (wTst (wOp fLt (oE (wCB fLen (osC (oV 9) osN))) (oE (wC (.int 401))))) (wTup (wCs (wC (.str "told")) (wCs (wCB fTuple (osC (oV 9) osN)) wN))) (wTup (wCs (wC (.str "many")) (wCs (wC (.int 400)) wN)))) (gSet 12))
  u_law_12)
theorem u_law_13_x {xn : Xn} {De : DEn} {M : Mem} : u_law_13 xn De M = (uSeqM (uAsg (wIf (wTst (wOp fLt (oE (wCB fLen (osC (oV 9) osN))) (oE (wC (.int 401))))) (wTup (wCs (wC (.str "told")) (wCs (wCB fTuple (osC (oV 9) osN)) wN))) (wTup (wCs (wC (.str "many")) (wCs (wC (.int 400)) wN)))) (gSet 12))
  u_law_12) xn De M := rfl
def u_law_14 : WS :=
  (uSeq (uWhile [] (tAndD (wTst (wOp fLt (oV 10) (oV 11))) (wTst (wOp fLt (oE (wCB fLen (osC (oV 9) osN))) (oE (wC (.int 130))))))
  u_law_1)
  u_law_13)
theorem u_law_14_x {xn : Xn} {De : DEn} {M : Mem} : u_law_14 xn De M = (uSeq (uWhile [] (tAndD (wTst (wOp fLt (oV 10) (oV 11))) (wTst (wOp fLt (oE (wCB fLen (osC (oV 9) osN))) (oE (wC (.int 130))))))
  u_law_1)
  u_law_13) xn De M := rfl
def u_law_15 : WS :=
  (uSeq (uAsg (wCall g__law_dip (aW 1 (aC (wC (.int 11)) aN))) (gSet 11))
  u_law_14)
theorem u_law_15_x {xn : Xn} {De : DEn} {M : Mem} : u_law_15 xn De M = (uSeq (uAsg (wCall g__law_dip (aW 1 (aC (wC (.int 11)) aN))) (gSet 11))
  u_law_14) xn De M := rfl
def u_law_16 : WS :=
  (uSeq (uPar2 9 10 (zE (wLst (wCs (wC (.str "")) wN))) (zE (wC (.int 0))))
  u_law_15)
theorem u_law_16_x {xn : Xn} {De : DEn} {M : Mem} : u_law_16 xn De M = (uSeq (uPar2 9 10 (zE (wLst (wCs (wC (.str "")) wN))) (zE (wC (.int 0))))
  u_law_15) xn De M := rfl
def u_law_17 : WS :=
  (uSeq (uIf (wTst (wOp fNe (oE (wCall g_longest_length (aC (wOp fSub_ (oV 8) (oE (wC (.int 0)))) (aC (wOp fSub_ (oV 8) (oE (wC (.int 1)))) aN)))) (oE (wCall g__law_longest (aC (wOp fSub_ (oV 8) (oE (wC (.int 0)))) (aC (wOp fSub_ (oV 8) (oE (wC (.int 1)))) aN))))))
  (uRet (wC (.bool false)))
  uNext)
  u_law_16)
theorem u_law_17_x {xn : Xn} {De : DEn} {M : Mem} : u_law_17 xn De M = (uSeq (uIf (wTst (wOp fNe (oE (wCall g_longest_length (aC (wOp fSub_ (oV 8) (oE (wC (.int 0)))) (aC (wOp fSub_ (oV 8) (oE (wC (.int 1)))) aN)))) (oE (wCall g__law_longest (aC (wOp fSub_ (oV 8) (oE (wC (.int 0)))) (aC (wOp fSub_ (oV 8) (oE (wC (.int 1)))) aN))))))
  (uRet (wC (.bool false)))
  uNext)
  u_law_16) xn De M := rfl
def u_law_18 : WS :=
  (uSeq (uAsg (wLst (wCs (wOp fAdd (oE (wC (.int 1))) (oE (wCall g__law_dip (aW 1 (aC (wC (.int 4)) aN))))) (wCs (wOp fAdd (oE (wC (.int 2))) (oE (wCall g__law_dip (aW 1 (aC (wC (.int 7)) aN))))) wN))) (gSet 8))
  u_law_17)
theorem u_law_18_x {xn : Xn} {De : DEn} {M : Mem} : u_law_18 xn De M = (uSeq (uAsg (wLst (wCs (wOp fAdd (oE (wC (.int 1))) (oE (wCall g__law_dip (aW 1 (aC (wC (.int 4)) aN))))) (wCs (wOp fAdd (oE (wC (.int 2))) (oE (wCall g__law_dip (aW 1 (aC (wC (.int 7)) aN))))) wN))) (gSet 8))
  u_law_17) xn De M := rfl
def u_law_19 : WS :=
  (uSeq (uIf (wTst (wOp fNe (oE (wCB fRepr (osC (oV 7) osN))) (oE (wCB fRepr (osC (oE (wLst (wCs (wV 6) (wCs (wV 6) wN)))) osN)))))
  (uRet (wC (.bool false)))
  uNext)
  u_law_18)
theorem u_law_19_x {xn : Xn} {De : DEn} {M : Mem} : u_law_19 xn De M = (uSeq (uIf (wTst (wOp fNe (oE (wCB fRepr (osC (oV 7) osN))) (oE (wCB fRepr (osC (oE (wLst (wCs (wV 6) (wCs (wV 6) wN)))) osN)))))
  (uRet (wC (.bool false)))
  uNext)
  u_law_18) xn De M := rfl
def u_law_20 : WS :=
  (uSeq (uAsg (wLst (wCs (wCall g_longest_length (aC (wV 4) (aC (wV 5) aN))) (wCs (wCallK g_longest_length [1, 0] (aC (wV 5) (aC (wV 4) aN))) wN))) (gSet 7))
  u_law_19)
theorem u_law_20_x {xn : Xn} {De : DEn} {M : Mem} : u_law_20 xn De M = (uSeq (uAsg (wLst (wCs (wCall g_longest_length (aC (wV 4) (aC (wV 5) aN))) (wCs (wCallK g_longest_length [1, 0] (aC (wV 5) (aC (wV 4) aN))) wN))) (gSet 7))
  u_law_19) xn De M := rfl
def u_law_21 : WS :=
  (uSeq (uAsg (wCall g__law_longest (aC (wV 4) (aC (wV 5) aN))) (gSet 6))
  u_law_20)
theorem u_law_21_x {xn : Xn} {De : DEn} {M : Mem} : u_law_21 xn De M = (uSeq (uAsg (wCall g__law_longest (aC (wV 4) (aC (wV 5) aN))) (gSet 6))
  u_law_20) xn De M := rfl
def u_law_22 : WS :=
  (uSeq (uAsg (wCall g__law_take (aW 1 (aC (wV 3) aN))) (gT 2 (gC (gSet 4) (gC (gSet 5) gN))))
  u_law_21)
theorem u_law_22_x {xn : Xn} {De : DEn} {M : Mem} : u_law_22 xn De M = (uSeq (uAsg (wCall g__law_take (aW 1 (aC (wV 3) aN))) (gT 2 (gC (gSet 4) (gC (gSet 5) gN))))
  u_law_21) xn De M := rfl
def u_law_23 : WS :=
  (uSeq (uAsg (wLst (wCs (wTup (wCs (wC (.int 1)) (wCs (wOp fAdd (oE (wC (.int 2))) (oE (wCall g__law_dip (aW 1 (aC (wC (.int 7)) aN))))) wN))) (wCs (wTup (wCs (wC (.int 2)) (wCs (wC (.int 2)) wN))) (wCs (wTup (wCs (wC (.int 2)) (wCs (wC (.int 3)) wN))) (wCs (wTup (wCs (wC (.int 3)) (wCs (wC (.int 2)) wN))) (wCs (wTup (wCs (wC (.int 2)) (wCs (wC (.int 4)) wN))) (wCs (wTup (wCs (wC (.int 3)) (wCs (wC (.int 3)) wN))) (wCs (wTup (wCs (wC (.int 4)) (wCs (wC (.int 2)) wN))) (wCs (wTup (wCs (wC (.int 4)) (wCs (wC (.int 3)) wN))) wN))))))))) (gSet 3))
  u_law_22)
theorem u_law_23_x {xn : Xn} {De : DEn} {M : Mem} : u_law_23 xn De M = (uSeq (uAsg (wLst (wCs (wTup (wCs (wC (.int 1)) (wCs (wOp fAdd (oE (wC (.int 2))) (oE (wCall g__law_dip (aW 1 (aC (wC (.int 7)) aN))))) wN))) (wCs (wTup (wCs (wC (.int 2)) (wCs (wC (.int 2)) wN))) (wCs (wTup (wCs (wC (.int 2)) (wCs (wC (.int 3)) wN))) (wCs (wTup (wCs (wC (.int 3)) (wCs (wC (.int 2)) wN))) (wCs (wTup (wCs (wC (.int 2)) (wCs (wC (.int 4)) wN))) (wCs (wTup (wCs (wC (.int 3)) (wCs (wC (.int 3)) wN))) (wCs (wTup (wCs (wC (.int 4)) (wCs (wC (.int 2)) wN))) (wCs (wTup (wCs (wC (.int 4)) (wCs (wC (.int 3)) wN))) wN))))))))) (gSet 3))
  u_law_22) xn De M := rfl
def u_law_24 : WS :=
  (uSeq (uFor [2, 3, 4, 5, 6, 7, 8, 9, 10, 11, 12, 13, 14, 15] (iR1 (osC (oE (wC (.int 2))) osN)) (gSet 2)
  u_law_23)
  (uRet (wC (.bool true))))
theorem u_law_24_x {xn : Xn} {De : DEn} {M : Mem} : u_law_24 xn De M = (uSeq (uFor [2, 3, 4, 5, 6, 7, 8, 9, 10, 11, 12, 13, 14, 15] (iR1 (osC (oE (wC (.int 2))) osN)) (gSet 2)
  u_law_23)
  (uRet (wC (.bool true)))) xn De M := rfl
def u_law : WS :=
  u_law_24
theorem law_l10 {De : DEn} {t k o : Nat} {w : Wel} {e3 e7 e8 e9 e10 e11 e12 e13 e14 e15 : Option Ent} (ok : WelOk w) (k1 : 1 ≤ k) (k4 : k ≤ 4) (o2 : 2 ≤ o) (o8 : o ≤ 8) (hn : ∀ (w2 : Wel), WelOk w2 → ∀ e2 e3 e4 e5 e6 e7 e8 e9 e10 e11 e12 e13 e14 e15 : Option Ent, De.nx ⟨[none, some .wel, e2, e3, e4, e5, e6, e7, e8, e9, e10, e11, e12, e13, e14, e15], some w2⟩) :
    u_law_10 noX De ⟨[none, some .wel, some (.im (.int (t : Nat))), e3, some (.im (.int (k : Nat))), some (.im (.int (o : Nat))), some (.im (lngD k o)), e7, e8, e9, e10, e11, e12, e13, e14, e15], some w⟩ := by
  simp -dsimp only [↓u_law_1_x, ↓u_law_2_x, ↓u_law_3_x, ↓u_law_4_x, ↓u_law_5_x, ↓u_law_6_x, ↓u_law_7_x, ↓u_law_8_x, ↓u_law_9_x, ↓u_law_10_x, ↓u_law_11_x, ↓u_law_12_x, ↓u_law_13_x, ↓u_law_14_x, ↓u_law_15_x, ↓u_law_16_x, ↓u_law_17_x, ↓u_law_18_x, ↓u_law_19_x, ↓u_law_20_x, ↓u_law_21_x, ↓u_law_22_x, ↓u_law_23_x, ↓u_law_24_x, u_law, ↓uSeq, ↓uNext, ↓uKill, ↓uFrz, ↓uDrop, ↓uRet, ↓uIf, ↓uAsg, ↓uAsgO, ↓uPar2, ↓uPar3, ↓uAug, ↓uPut, ↓uDPut, ↓uFor_eq, ↓uWhile_eq, ↓uSeqM_eq, ↓uBrk, ↓uCnt, ↓uWelD, ↓gSet, ↓gN, ↓gC, ↓gT, ↓zE, ↓zF, ↓oE, ↓oV, ↓wV, ↓wC, ↓wOp, ↓wUn, ↓app2, ↓app1, ↓wTst, ↓tAndD, ↓tOrD, ↓tNotD, ↓wAndV, ↓wOrV, ↓wNotV, ↓wIf, ↓wChain, ↓osN, ↓osC, getAll, ↓appN, ↓wCB, ↓appM, ↓wBM, ↓wBM0, ↓wN, ↓wCs, ↓wTup, ↓wLst, ↓wDic0, ↓wDicT, ↓aN, ↓aC, ↓aW, ↓wCall_eq, ↓wCallK_eq, perm, List.filterMap_cons, List.filterMap_nil, ↓wApp, ↓wExt, ↓wPop, ↓wPopAt, ↓wListA, ↓wRpl, ↓iX, ↓iL, ↓iT, ↓iS, ↓iR1, ↓iR2, ↓iR3, ↓iScr, ↓iZD, ↓iE, ↓iE2, ↓iZ2, ↓iZ3, ↓seqD, ↓zipD3, ↓wComp_eq, ↓ttY, ↓wSl, ↓wPart, ↓plN, ↓wRev, ↓wListO, ↓wRep, ↓wLenSet, ↓wLenScr, ↓wWelI, ↓wWelPop, ↓wWelApp, ↓tWelNE, ↓wDisp, ↓wDispT, ↓psC, ↓psN, ↓wDIn, ↓wDNotIn, ↓wDG1, ↓wDG2, ↓wIsi, ↓askD, ↓uTry, ↓uRng, ↓iRV, ↓uRaise, ↓uRaise0, ↓uNever, ↓wCallX_eq, ↓wCallKX_eq, ↓wXf, ↓wIsX, ↓fAdd, ↓fSub, ↓fII, ↓fII0, ↓fDiv, ↓fMod, ↓fPow, ↓fLt, ↓fGt, ↓fLe, ↓fGe, ↓fGtD, ↓fLtD, ↓fLeD, ↓fGeD, ↓fNeg, ↓fMul, ↓fEq, ↓fNe, ↓eqQ, ↓fIsN, ↓fNotN, isNone_1, isNone_2, isNone_3, isNone_4, isNone_5, isNone_6, isNone_7, ↓fInC, ↓fNotInC, ↓fSub_, ↓fIx, ↓fSl, ↓fLen, ↓fTuple, ↓fMin1, ↓fMax1, ↓fSum, ↓fAll, ↓fAny, ↓fSorted, ↓fSortS, ↓fAbs, ↓fInt, ↓fRepr, ↓fCnt, ↓fIdx, ↓fJoin, ↓mSS, ↓mSB, ↓mTI, ↓mTB, ↓mTI3, ↓fInL, ↓fNinL, ↓fInT, ↓fNinT, ↓fInA, ↓fNinA, ↓fInB, ↓fNinB, isStr,
 atI_0, atI_1, atI_2, atI_3, endsG, fld_TooMany, fld_Unfit, mem0, toEnt, Mem.set, Mem.view, Mem.kill, Mem.frz, Mem.ro, Ent.ro', Opd.get,
 List.set_cons_zero, List.set_cons_succ, List.getElem?_cons_zero, List.getElem?_cons_succ, List.map_cons, List.map_nil, List.length_cons, List.length_nil, List.cons_append, List.nil_append, List.replicate_succ, List.replicate_zero, Option.map_some, Option.map_none, List.cons.injEq, and_true, true_and, Arg.x.injEq, exists_eq_left, exists_eq_right, Option.some.injEq, Ent.ow.injEq, Ent.im.injEq, PyData.int.injEq, PyData.list.injEq, PyData.dict.injEq, PyData.tuple.injEq, PyData.str.injEq, exists_eq', exists_eq, decide_eq_true_eq, Bool.not_eq_true', ite_true, ite_false, decide_true, decide_false, decide_eq_false_iff_not, not_true_eq_false, not_false_eq_true, reduceCtorEq, eq_self]
  refine seq_i (fun M => ∃ (n : Nat) (w : Wel), n ≤ 14 ∧ WelOk w ∧ M = ⟨[none, some .wel, some (.im (.int (t : Nat))), e3, some (.im (.int (k : Nat))), some (.im (.int (o : Nat))), some (.im (lngD k o)), e7, e8, e9, e10, e11, e12, e13, some (.im (.int (n : Nat))), e15], some w⟩) ?_ ?_
  · simp -dsimp only [↓u_law_1_x, ↓u_law_2_x, ↓u_law_3_x, ↓u_law_4_x, ↓u_law_5_x, ↓u_law_6_x, ↓u_law_7_x, ↓u_law_8_x, ↓u_law_9_x, ↓u_law_10_x, ↓u_law_11_x, ↓u_law_12_x, ↓u_law_13_x, ↓u_law_14_x, ↓u_law_15_x, ↓u_law_16_x, ↓u_law_17_x, ↓u_law_18_x, ↓u_law_19_x, ↓u_law_20_x, ↓u_law_21_x, ↓u_law_22_x, ↓u_law_23_x, ↓u_law_24_x, u_law, ↓uSeq, ↓uNext, ↓uKill, ↓uFrz, ↓uDrop, ↓uRet, ↓uIf, ↓uAsg, ↓uAsgO, ↓uPar2, ↓uPar3, ↓uAug, ↓uPut, ↓uDPut, ↓uFor_eq, ↓uWhile_eq, ↓uSeqM_eq, ↓uBrk, ↓uCnt, ↓uWelD, ↓gSet, ↓gN, ↓gC, ↓gT, ↓zE, ↓zF, ↓oE, ↓oV, ↓wV, ↓wC, ↓wOp, ↓wUn, ↓app2, ↓app1, ↓wTst, ↓tAndD, ↓tOrD, ↓tNotD, ↓wAndV, ↓wOrV, ↓wNotV, ↓wIf, ↓wChain, ↓osN, ↓osC, getAll, ↓appN, ↓wCB, ↓appM, ↓wBM, ↓wBM0, ↓wN, ↓wCs, ↓wTup, ↓wLst, ↓wDic0, ↓wDicT, ↓aN, ↓aC, ↓aW, ↓wCall_eq, ↓wCallK_eq, perm, List.filterMap_cons, List.filterMap_nil, ↓wApp, ↓wExt, ↓wPop, ↓wPopAt, ↓wListA, ↓wRpl, ↓iX, ↓iL, ↓iT, ↓iS, ↓iR1, ↓iR2, ↓iR3, ↓iScr, ↓iZD, ↓iE, ↓iE2, ↓iZ2, ↓iZ3, ↓seqD, ↓zipD3, ↓wComp_eq, ↓ttY, ↓wSl, ↓wPart, ↓plN, ↓wRev, ↓wListO, ↓wRep, ↓wLenSet, ↓wLenScr, ↓wWelI, ↓wWelPop, ↓wWelApp, ↓tWelNE, ↓wDisp, ↓wDispT, ↓psC, ↓psN, ↓wDIn, ↓wDNotIn, ↓wDG1, ↓wDG2, ↓wIsi, ↓askD, ↓uTry, ↓uRng, ↓iRV, ↓uRaise, ↓uRaise0, ↓uNever, ↓wCallX_eq, ↓wCallKX_eq, ↓wXf, ↓wIsX, ↓fAdd, ↓fSub, ↓fII, ↓fII0, ↓fDiv, ↓fMod, ↓fPow, ↓fLt, ↓fGt, ↓fLe, ↓fGe, ↓fGtD, ↓fLtD, ↓fLeD, ↓fGeD, ↓fNeg, ↓fMul, ↓fEq, ↓fNe, ↓eqQ, ↓fIsN, ↓fNotN, isNone_1, isNone_2, isNone_3, isNone_4, isNone_5, isNone_6, isNone_7, ↓fInC, ↓fNotInC, ↓fSub_, ↓fIx, ↓fSl, ↓fLen, ↓fTuple, ↓fMin1, ↓fMax1, ↓fSum, ↓fAll, ↓fAny, ↓fSorted, ↓fSortS, ↓fAbs, ↓fInt, ↓fRepr, ↓fCnt, ↓fIdx, ↓fJoin, ↓mSS, ↓mSB, ↓mTI, ↓mTB, ↓mTI3, ↓fInL, ↓fNinL, ↓fInT, ↓fNinT, ↓fInA, ↓fNinA, ↓fInB, ↓fNinB, isStr,
 atI_0, atI_1, atI_2, atI_3, endsG, fld_TooMany, fld_Unfit, mem0, toEnt, Mem.set, Mem.view, Mem.kill, Mem.frz, Mem.ro, Ent.ro', Opd.get,
 List.set_cons_zero, List.set_cons_succ, List.getElem?_cons_zero, List.getElem?_cons_succ, List.map_cons, List.map_nil, List.length_cons, List.length_nil, List.cons_append, List.nil_append, List.replicate_succ, List.replicate_zero, Option.map_some, Option.map_none, List.cons.injEq, and_true, true_and, Arg.x.injEq, exists_eq_left, exists_eq_right, Option.some.injEq, Ent.ow.injEq, Ent.im.injEq, PyData.int.injEq, PyData.list.injEq, PyData.dict.injEq, PyData.tuple.injEq, PyData.str.injEq, exists_eq', exists_eq, decide_eq_true_eq, Bool.not_eq_true', ite_true, ite_false, decide_true, decide_false, decide_eq_false_iff_not, not_true_eq_false, not_false_eq_true, reduceCtorEq, eq_self]
    have fin : ∀ (r : Int) (w1 : Wel), 0 ≤ r → r ≤ 14 → WelOk w1 → ∃ (n : Nat) (w2 : Wel), n ≤ 14 ∧ WelOk w2 ∧ (⟨[none, some .wel, some (.im (.int (t : Nat))), e3, some (.im (.int (k : Nat))), some (.im (.int (o : Nat))), some (.im (lngD k o)), e7, e8, e9, e10, e11, e12, e13, some (.im (.int r)), e15], some w1⟩ : Mem) = ⟨[none, some .wel, some (.im (.int (t : Nat))), e3, some (.im (.int (k : Nat))), some (.im (.int (o : Nat))), some (.im (lngD k o)), e7, e8, e9, e10, e11, e12, e13, some (.im (.int (n : Nat))), e15], some w2⟩ := fun r w1 h0 h1 ok1 => ⟨r.toNat, w1, by omega, ok1, by rw [Int.toNat_of_nonneg h0]⟩
    refine ⟨mul_sm (by omega) (by omega), ite_i (fun c => dip_i ok (by decide) fun r w1 h0 h1 ok1 => ?_) (fun c => dip_i ok (by decide) fun r w1 h0 h1 ok1 => ?_)⟩
    · exact fin r w1 h0 (by omega) ok1
    · exact fin r w1 h0 (by omega) ok1
  · rintro M' ⟨n, w, hn14, ok, rfl⟩
    simp -dsimp only [↓u_law_1_x, ↓u_law_2_x, ↓u_law_3_x, ↓u_law_4_x, ↓u_law_5_x, ↓u_law_6_x, ↓u_law_7_x, ↓u_law_8_x, ↓u_law_9_x, ↓u_law_10_x, ↓u_law_11_x, ↓u_law_12_x, ↓u_law_13_x, ↓u_law_14_x, ↓u_law_15_x, ↓u_law_16_x, ↓u_law_17_x, ↓u_law_18_x, ↓u_law_19_x, ↓u_law_20_x, ↓u_law_21_x, ↓u_law_22_x, ↓u_law_23_x, ↓u_law_24_x, u_law, ↓uSeq, ↓uNext, ↓uKill, ↓uFrz, ↓uDrop, ↓uRet, ↓uIf, ↓uAsg, ↓uAsgO, ↓uPar2, ↓uPar3, ↓uAug, ↓uPut, ↓uDPut, ↓uFor_eq, ↓uWhile_eq, ↓uSeqM_eq, ↓uBrk, ↓uCnt, ↓uWelD, ↓gSet, ↓gN, ↓gC, ↓gT, ↓zE, ↓zF, ↓oE, ↓oV, ↓wV, ↓wC, ↓wOp, ↓wUn, ↓app2, ↓app1, ↓wTst, ↓tAndD, ↓tOrD, ↓tNotD, ↓wAndV, ↓wOrV, ↓wNotV, ↓wIf, ↓wChain, ↓osN, ↓osC, getAll, ↓appN, ↓wCB, ↓appM, ↓wBM, ↓wBM0, ↓wN, ↓wCs, ↓wTup, ↓wLst, ↓wDic0, ↓wDicT, ↓aN, ↓aC, ↓aW, ↓wCall_eq, ↓wCallK_eq, perm, List.filterMap_cons, List.filterMap_nil, ↓wApp, ↓wExt, ↓wPop, ↓wPopAt, ↓wListA, ↓wRpl, ↓iX, ↓iL, ↓iT, ↓iS, ↓iR1, ↓iR2, ↓iR3, ↓iScr, ↓iZD, ↓iE, ↓iE2, ↓iZ2, ↓iZ3, ↓seqD, ↓zipD3, ↓wComp_eq, ↓ttY, ↓wSl, ↓wPart, ↓plN, ↓wRev, ↓wListO, ↓wRep, ↓wLenSet, ↓wLenScr, ↓wWelI, ↓wWelPop, ↓wWelApp, ↓tWelNE, ↓wDisp, ↓wDispT, ↓psC, ↓psN, ↓wDIn, ↓wDNotIn, ↓wDG1, ↓wDG2, ↓wIsi, ↓askD, ↓uTry, ↓uRng, ↓iRV, ↓uRaise, ↓uRaise0, ↓uNever, ↓wCallX_eq, ↓wCallKX_eq, ↓wXf, ↓wIsX, ↓fAdd, ↓fSub, ↓fII, ↓fII0, ↓fDiv, ↓fMod, ↓fPow, ↓fLt, ↓fGt, ↓fLe, ↓fGe, ↓fGtD, ↓fLtD, ↓fLeD, ↓fGeD, ↓fNeg, ↓fMul, ↓fEq, ↓fNe, ↓eqQ, ↓fIsN, ↓fNotN, isNone_1, isNone_2, isNone_3, isNone_4, isNone_5, isNone_6, isNone_7, ↓fInC, ↓fNotInC, ↓fSub_, ↓fIx, ↓fSl, ↓fLen, ↓fTuple, ↓fMin1, ↓fMax1, ↓fSum, ↓fAll, ↓fAny, ↓fSorted, ↓fSortS, ↓fAbs, ↓fInt, ↓fRepr, ↓fCnt, ↓fIdx, ↓fJoin, ↓mSS, ↓mSB, ↓mTI, ↓mTB, ↓mTI3, ↓fInL, ↓fNinL, ↓fInT, ↓fNinT, ↓fInA, ↓fNinA, ↓fInB, ↓fNinB, isStr,
 atI_0, atI_1, atI_2, atI_3, endsG, fld_TooMany, fld_Unfit, mem0, toEnt, Mem.set, Mem.view, Mem.kill, Mem.frz, Mem.ro, Ent.ro', Opd.get,
 List.set_cons_zero, List.set_cons_succ, List.getElem?_cons_zero, List.getElem?_cons_succ, List.map_cons, List.map_nil, List.length_cons, List.length_nil, List.cons_append, List.nil_append, List.replicate_succ, List.replicate_zero, Option.map_some, Option.map_none, List.cons.injEq, and_true, true_and, Arg.x.injEq, exists_eq_left, exists_eq_right, Option.some.injEq, Ent.ow.injEq, Ent.im.injEq, PyData.int.injEq, PyData.list.injEq, PyData.dict.injEq, PyData.tuple.injEq, PyData.str.injEq, exists_eq', exists_eq, decide_eq_true_eq, Bool.not_eq_true', ite_true, ite_false, decide_true, decide_false, decide_eq_false_iff_not, not_true_eq_false, not_false_eq_true, reduceCtorEq, eq_self]
    refine lleast_i (by omega) o2 (by omega) fun r hr => ?_
    simp -dsimp only [↓u_law_1_x, ↓u_law_2_x, ↓u_law_3_x, ↓u_law_4_x, ↓u_law_5_x, ↓u_law_6_x, ↓u_law_7_x, ↓u_law_8_x, ↓u_law_9_x, ↓u_law_10_x, ↓u_law_11_x, ↓u_law_12_x, ↓u_law_13_x, ↓u_law_14_x, ↓u_law_15_x, ↓u_law_16_x, ↓u_law_17_x, ↓u_law_18_x, ↓u_law_19_x, ↓u_law_20_x, ↓u_law_21_x, ↓u_law_22_x, ↓u_law_23_x, ↓u_law_24_x, u_law, ↓uSeq, ↓uNext, ↓uKill, ↓uFrz, ↓uDrop, ↓uRet, ↓uIf, ↓uAsg, ↓uAsgO, ↓uPar2, ↓uPar3, ↓uAug, ↓uPut, ↓uDPut, ↓uFor_eq, ↓uWhile_eq, ↓uSeqM_eq, ↓uBrk, ↓uCnt, ↓uWelD, ↓gSet, ↓gN, ↓gC, ↓gT, ↓zE, ↓zF, ↓oE, ↓oV, ↓wV, ↓wC, ↓wOp, ↓wUn, ↓app2, ↓app1, ↓wTst, ↓tAndD, ↓tOrD, ↓tNotD, ↓wAndV, ↓wOrV, ↓wNotV, ↓wIf, ↓wChain, ↓osN, ↓osC, getAll, ↓appN, ↓wCB, ↓appM, ↓wBM, ↓wBM0, ↓wN, ↓wCs, ↓wTup, ↓wLst, ↓wDic0, ↓wDicT, ↓aN, ↓aC, ↓aW, ↓wCall_eq, ↓wCallK_eq, perm, List.filterMap_cons, List.filterMap_nil, ↓wApp, ↓wExt, ↓wPop, ↓wPopAt, ↓wListA, ↓wRpl, ↓iX, ↓iL, ↓iT, ↓iS, ↓iR1, ↓iR2, ↓iR3, ↓iScr, ↓iZD, ↓iE, ↓iE2, ↓iZ2, ↓iZ3, ↓seqD, ↓zipD3, ↓wComp_eq, ↓ttY, ↓wSl, ↓wPart, ↓plN, ↓wRev, ↓wListO, ↓wRep, ↓wLenSet, ↓wLenScr, ↓wWelI, ↓wWelPop, ↓wWelApp, ↓tWelNE, ↓wDisp, ↓wDispT, ↓psC, ↓psN, ↓wDIn, ↓wDNotIn, ↓wDG1, ↓wDG2, ↓wIsi, ↓askD, ↓uTry, ↓uRng, ↓iRV, ↓uRaise, ↓uRaise0, ↓uNever, ↓wCallX_eq, ↓wCallKX_eq, ↓wXf, ↓wIsX, ↓fAdd, ↓fSub, ↓fII, ↓fII0, ↓fDiv, ↓fMod, ↓fPow, ↓fLt, ↓fGt, ↓fLe, ↓fGe, ↓fGtD, ↓fLtD, ↓fLeD, ↓fGeD, ↓fNeg, ↓fMul, ↓fEq, ↓fNe, ↓eqQ, ↓fIsN, ↓fNotN, isNone_1, isNone_2, isNone_3, isNone_4, isNone_5, isNone_6, isNone_7, ↓fInC, ↓fNotInC, ↓fSub_, ↓fIx, ↓fSl, ↓fLen, ↓fTuple, ↓fMin1, ↓fMax1, ↓fSum, ↓fAll, ↓fAny, ↓fSorted, ↓fSortS, ↓fAbs, ↓fInt, ↓fRepr, ↓fCnt, ↓fIdx, ↓fJoin, ↓mSS, ↓mSB, ↓mTI, ↓mTB, ↓mTI3, ↓fInL, ↓fNinL, ↓fInT, ↓fNinT, ↓fInA, ↓fNinA, ↓fInB, ↓fNinB, isStr,
 atI_0, atI_1, atI_2, atI_3, endsG, fld_TooMany, fld_Unfit, mem0, toEnt, Mem.set, Mem.view, Mem.kill, Mem.frz, Mem.ro, Ent.ro', Opd.get,
 List.set_cons_zero, List.set_cons_succ, List.getElem?_cons_zero, List.getElem?_cons_succ, List.map_cons, List.map_nil, List.length_cons, List.length_nil, List.cons_append, List.nil_append, List.replicate_succ, List.replicate_zero, Option.map_some, Option.map_none, List.cons.injEq, and_true, true_and, Arg.x.injEq, exists_eq_left, exists_eq_right, Option.some.injEq, Ent.ow.injEq, Ent.im.injEq, PyData.int.injEq, PyData.list.injEq, PyData.dict.injEq, PyData.tuple.injEq, PyData.str.injEq, exists_eq', exists_eq, decide_eq_true_eq, Bool.not_eq_true', ite_true, ite_false, decide_true, decide_false, decide_eq_false_iff_not, not_true_eq_false, not_false_eq_true, reduceCtorEq, eq_self]
    refine least_i (by omega) o2 (by omega) fun r' hr' => ?_
    obtain rfl := hr.one hr'
    simp -dsimp only [↓u_law_1_x, ↓u_law_2_x, ↓u_law_3_x, ↓u_law_4_x, ↓u_law_5_x, ↓u_law_6_x, ↓u_law_7_x, ↓u_law_8_x, ↓u_law_9_x, ↓u_law_10_x, ↓u_law_11_x, ↓u_law_12_x, ↓u_law_13_x, ↓u_law_14_x, ↓u_law_15_x, ↓u_law_16_x, ↓u_law_17_x, ↓u_law_18_x, ↓u_law_19_x, ↓u_law_20_x, ↓u_law_21_x, ↓u_law_22_x, ↓u_law_23_x, ↓u_law_24_x, u_law, ↓uSeq, ↓uNext, ↓uKill, ↓uFrz, ↓uDrop, ↓uRet, ↓uIf, ↓uAsg, ↓uAsgO, ↓uPar2, ↓uPar3, ↓uAug, ↓uPut, ↓uDPut, ↓uFor_eq, ↓uWhile_eq, ↓uSeqM_eq, ↓uBrk, ↓uCnt, ↓uWelD, ↓gSet, ↓gN, ↓gC, ↓gT, ↓zE, ↓zF, ↓oE, ↓oV, ↓wV, ↓wC, ↓wOp, ↓wUn, ↓app2, ↓app1, ↓wTst, ↓tAndD, ↓tOrD, ↓tNotD, ↓wAndV, ↓wOrV, ↓wNotV, ↓wIf, ↓wChain, ↓osN, ↓osC, getAll, ↓appN, ↓wCB, ↓appM, ↓wBM, ↓wBM0, ↓wN, ↓wCs, ↓wTup, ↓wLst, ↓wDic0, ↓wDicT, ↓aN, ↓aC, ↓aW, ↓wCall_eq, ↓wCallK_eq, perm, List.filterMap_cons, List.filterMap_nil, ↓wApp, ↓wExt, ↓wPop, ↓wPopAt, ↓wListA, ↓wRpl, ↓iX, ↓iL, ↓iT, ↓iS, ↓iR1, ↓iR2, ↓iR3, ↓iScr, ↓iZD, ↓iE, ↓iE2, ↓iZ2, ↓iZ3, ↓seqD, ↓zipD3, ↓wComp_eq, ↓ttY, ↓wSl, ↓wPart, ↓plN, ↓wRev, ↓wListO, ↓wRep, ↓wLenSet, ↓wLenScr, ↓wWelI, ↓wWelPop, ↓wWelApp, ↓tWelNE, ↓wDisp, ↓wDispT, ↓psC, ↓psN, ↓wDIn, ↓wDNotIn, ↓wDG1, ↓wDG2, ↓wIsi, ↓askD, ↓uTry, ↓uRng, ↓iRV, ↓uRaise, ↓uRaise0, ↓uNever, ↓wCallX_eq, ↓wCallKX_eq, ↓wXf, ↓wIsX, ↓fAdd, ↓fSub, ↓fII, ↓fII0, ↓fDiv, ↓fMod, ↓fPow, ↓fLt, ↓fGt, ↓fLe, ↓fGe, ↓fGtD, ↓fLtD, ↓fLeD, ↓fGeD, ↓fNeg, ↓fMul, ↓fEq, ↓fNe, ↓eqQ, ↓fIsN, ↓fNotN, isNone_1, isNone_2, isNone_3, isNone_4, isNone_5, isNone_6, isNone_7, ↓fInC, ↓fNotInC, ↓fSub_, ↓fIx, ↓fSl, ↓fLen, ↓fTuple, ↓fMin1, ↓fMax1, ↓fSum, ↓fAll, ↓fAny, ↓fSorted, ↓fSortS, ↓fAbs, ↓fInt, ↓fRepr, ↓fCnt, ↓fIdx, ↓fJoin, ↓mSS, ↓mSB, ↓mTI, ↓mTB, ↓mTI3, ↓fInL, ↓fNinL, ↓fInT, ↓fNinT, ↓fInA, ↓fNinA, ↓fInB, ↓fNinB, isStr,
 atI_0, atI_1, atI_2, atI_3, endsG, fld_TooMany, fld_Unfit, mem0, toEnt, Mem.set, Mem.view, Mem.kill, Mem.frz, Mem.ro, Ent.ro', Opd.get,
 List.set_cons_zero, List.set_cons_succ, List.getElem?_cons_zero, List.getElem?_cons_succ, List.map_cons, List.map_nil, List.length_cons, List.length_nil, List.cons_append, List.nil_append, List.replicate_succ, List.replicate_zero, Option.map_some, Option.map_none, List.cons.injEq, and_true, true_and, Arg.x.injEq, exists_eq_left, exists_eq_right, Option.some.injEq, Ent.ow.injEq, Ent.im.injEq, PyData.int.injEq, PyData.list.injEq, PyData.dict.injEq, PyData.tuple.injEq, PyData.str.injEq, exists_eq', exists_eq, decide_eq_true_eq, Bool.not_eq_true', ite_true, ite_false, decide_true, decide_false, decide_eq_false_iff_not, not_true_eq_false, not_false_eq_true, reduceCtorEq, eq_self]
    refine seq_i (fun M => M = ⟨[none, some .wel, some (.im (.int (t : Nat))), e3, some (.im (.int (k : Nat))), some (.im (.int (o : Nat))), some (.im (lngD k o)), some (.im r), e8, e9, e10, e11, e12, e13, some (.im (.int (n : Nat))), some (.im r)], some w⟩) ?_ ?_
    · simp -dsimp only [↓u_law_1_x, ↓u_law_2_x, ↓u_law_3_x, ↓u_law_4_x, ↓u_law_5_x, ↓u_law_6_x, ↓u_law_7_x, ↓u_law_8_x, ↓u_law_9_x, ↓u_law_10_x, ↓u_law_11_x, ↓u_law_12_x, ↓u_law_13_x, ↓u_law_14_x, ↓u_law_15_x, ↓u_law_16_x, ↓u_law_17_x, ↓u_law_18_x, ↓u_law_19_x, ↓u_law_20_x, ↓u_law_21_x, ↓u_law_22_x, ↓u_law_23_x, ↓u_law_24_x, u_law, ↓uSeq, ↓uNext, ↓uKill, ↓uFrz, ↓uDrop, ↓uRet, ↓uIf, ↓uAsg, ↓uAsgO, ↓uPar2, ↓uPar3, ↓uAug, ↓uPut, ↓uDPut, ↓uFor_eq, ↓uWhile_eq, ↓uSeqM_eq, ↓uBrk, ↓uCnt, ↓uWelD, ↓gSet, ↓gN, ↓gC, ↓gT, ↓zE, ↓zF, ↓oE, ↓oV, ↓wV, ↓wC, ↓wOp, ↓wUn, ↓app2, ↓app1, ↓wTst, ↓tAndD, ↓tOrD, ↓tNotD, ↓wAndV, ↓wOrV, ↓wNotV, ↓wIf, ↓wChain, ↓osN, ↓osC, getAll, ↓appN, ↓wCB, ↓appM, ↓wBM, ↓wBM0, ↓wN, ↓wCs, ↓wTup, ↓wLst, ↓wDic0, ↓wDicT, ↓aN, ↓aC, ↓aW, ↓wCall_eq, ↓wCallK_eq, perm, List.filterMap_cons, List.filterMap_nil, ↓wApp, ↓wExt, ↓wPop, ↓wPopAt, ↓wListA, ↓wRpl, ↓iX, ↓iL, ↓iT, ↓iS, ↓iR1, ↓iR2, ↓iR3, ↓iScr, ↓iZD, ↓iE, ↓iE2, ↓iZ2, ↓iZ3, ↓seqD, ↓zipD3, ↓wComp_eq, ↓ttY, ↓wSl, ↓wPart, ↓plN, ↓wRev, ↓wListO, ↓wRep, ↓wLenSet, ↓wLenScr, ↓wWelI, ↓wWelPop, ↓wWelApp, ↓tWelNE, ↓wDisp, ↓wDispT, ↓psC, ↓psN, ↓wDIn, ↓wDNotIn, ↓wDG1, ↓wDG2, ↓wIsi, ↓askD, ↓uTry, ↓uRng, ↓iRV, ↓uRaise, ↓uRaise0, ↓uNever, ↓wCallX_eq, ↓wCallKX_eq, ↓wXf, ↓wIsX, ↓fAdd, ↓fSub, ↓fII, ↓fII0, ↓fDiv, ↓fMod, ↓fPow, ↓fLt, ↓fGt, ↓fLe, ↓fGe, ↓fGtD, ↓fLtD, ↓fLeD, ↓fGeD, ↓fNeg, ↓fMul, ↓fEq, ↓fNe, ↓eqQ, ↓fIsN, ↓fNotN, isNone_1, isNone_2, isNone_3, isNone_4, isNone_5, isNone_6, isNone_7, ↓fInC, ↓fNotInC, ↓fSub_, ↓fIx, ↓fSl, ↓fLen, ↓fTuple, ↓fMin1, ↓fMax1, ↓fSum, ↓fAll, ↓fAny, ↓fSorted, ↓fSortS, ↓fAbs, ↓fInt, ↓fRepr, ↓fCnt, ↓fIdx, ↓fJoin, ↓mSS, ↓mSB, ↓mTI, ↓mTB, ↓mTI3, ↓fInL, ↓fNinL, ↓fInT, ↓fNinT, ↓fInA, ↓fNinA, ↓fInB, ↓fNinB, isStr,
 atI_0, atI_1, atI_2, atI_3, endsG, fld_TooMany, fld_Unfit, mem0, toEnt, Mem.set, Mem.view, Mem.kill, Mem.frz, Mem.ro, Ent.ro', Opd.get,
 List.set_cons_zero, List.set_cons_succ, List.getElem?_cons_zero, List.getElem?_cons_succ, List.map_cons, List.map_nil, List.length_cons, List.length_nil, List.cons_append, List.nil_append, List.replicate_succ, List.replicate_zero, Option.map_some, Option.map_none, List.cons.injEq, and_true, true_and, Arg.x.injEq, exists_eq_left, exists_eq_right, Option.some.injEq, Ent.ow.injEq, Ent.im.injEq, PyData.int.injEq, PyData.list.injEq, PyData.dict.injEq, PyData.tuple.injEq, PyData.str.injEq, exists_eq', exists_eq, decide_eq_true_eq, Bool.not_eq_true', ite_true, ite_false, decide_true, decide_false, decide_eq_false_iff_not, not_true_eq_false, not_false_eq_true, reduceCtorEq, eq_self]
      refine ite_i (fun c => least_i (by omega) o2 (by omega) fun r' hr' => ?_) (fun c => ?_)
      · obtain rfl := hr.one hr'
        rfl
      · trivial
    · rintro M' rfl
      simp -dsimp only [↓u_law_1_x, ↓u_law_2_x, ↓u_law_3_x, ↓u_law_4_x, ↓u_law_5_x, ↓u_law_6_x, ↓u_law_7_x, ↓u_law_8_x, ↓u_law_9_x, ↓u_law_10_x, ↓u_law_11_x, ↓u_law_12_x, ↓u_law_13_x, ↓u_law_14_x, ↓u_law_15_x, ↓u_law_16_x, ↓u_law_17_x, ↓u_law_18_x, ↓u_law_19_x, ↓u_law_20_x, ↓u_law_21_x, ↓u_law_22_x, ↓u_law_23_x, ↓u_law_24_x, u_law, ↓uSeq, ↓uNext, ↓uKill, ↓uFrz, ↓uDrop, ↓uRet, ↓uIf, ↓uAsg, ↓uAsgO, ↓uPar2, ↓uPar3, ↓uAug, ↓uPut, ↓uDPut, ↓uFor_eq, ↓uWhile_eq, ↓uSeqM_eq, ↓uBrk, ↓uCnt, ↓uWelD, ↓gSet, ↓gN, ↓gC, ↓gT, ↓zE, ↓zF, ↓oE, ↓oV, ↓wV, ↓wC, ↓wOp, ↓wUn, ↓app2, ↓app1, ↓wTst, ↓tAndD, ↓tOrD, ↓tNotD, ↓wAndV, ↓wOrV, ↓wNotV, ↓wIf, ↓wChain, ↓osN, ↓osC, getAll, ↓appN, ↓wCB, ↓appM, ↓wBM, ↓wBM0, ↓wN, ↓wCs, ↓wTup, ↓wLst, ↓wDic0, ↓wDicT, ↓aN, ↓aC, ↓aW, ↓wCall_eq, ↓wCallK_eq, perm, List.filterMap_cons, List.filterMap_nil, ↓wApp, ↓wExt, ↓wPop, ↓wPopAt, ↓wListA, ↓wRpl, ↓iX, ↓iL, ↓iT, ↓iS, ↓iR1, ↓iR2, ↓iR3, ↓iScr, ↓iZD, ↓iE, ↓iE2, ↓iZ2, ↓iZ3, ↓seqD, ↓zipD3, ↓wComp_eq, ↓ttY, ↓wSl, ↓wPart, ↓plN, ↓wRev, ↓wListO, ↓wRep, ↓wLenSet, ↓wLenScr, ↓wWelI, ↓wWelPop, ↓wWelApp, ↓tWelNE, ↓wDisp, ↓wDispT, ↓psC, ↓psN, ↓wDIn, ↓wDNotIn, ↓wDG1, ↓wDG2, ↓wIsi, ↓askD, ↓uTry, ↓uRng, ↓iRV, ↓uRaise, ↓uRaise0, ↓uNever, ↓wCallX_eq, ↓wCallKX_eq, ↓wXf, ↓wIsX, ↓fAdd, ↓fSub, ↓fII, ↓fII0, ↓fDiv, ↓fMod, ↓fPow, ↓fLt, ↓fGt, ↓fLe, ↓fGe, ↓fGtD, ↓fLtD, ↓fLeD, ↓fGeD, ↓fNeg, ↓fMul, ↓fEq, ↓fNe, ↓eqQ, ↓fIsN, ↓fNotN, isNone_1, isNone_2, isNone_3, isNone_4, isNone_5, isNone_6, isNone_7, ↓fInC, ↓fNotInC, ↓fSub_, ↓fIx, ↓fSl, ↓fLen, ↓fTuple, ↓fMin1, ↓fMax1, ↓fSum, ↓fAll, ↓fAny, ↓fSorted, ↓fSortS, ↓fAbs, ↓fInt, ↓fRepr, ↓fCnt, ↓fIdx, ↓fJoin, ↓mSS, ↓mSB, ↓mTI, ↓mTB, ↓mTI3, ↓fInL, ↓fNinL, ↓fInT, ↓fNinT, ↓fInA, ↓fNinA, ↓fInB, ↓fNinB, isStr,
 atI_0, atI_1, atI_2, atI_3, endsG, fld_TooMany, fld_Unfit, mem0, toEnt, Mem.set, Mem.view, Mem.kill, Mem.frz, Mem.ro, Ent.ro', Opd.get,
 List.set_cons_zero, List.set_cons_succ, List.getElem?_cons_zero, List.getElem?_cons_succ, List.map_cons, List.map_nil, List.length_cons, List.length_nil, List.cons_append, List.nil_append, List.replicate_succ, List.replicate_zero, Option.map_some, Option.map_none, List.cons.injEq, and_true, true_and, Arg.x.injEq, exists_eq_left, exists_eq_right, Option.some.injEq, Ent.ow.injEq, Ent.im.injEq, PyData.int.injEq, PyData.list.injEq, PyData.dict.injEq, PyData.tuple.injEq, PyData.str.injEq, exists_eq', exists_eq, decide_eq_true_eq, Bool.not_eq_true', ite_true, ite_false, decide_true, decide_false, decide_eq_false_iff_not, not_true_eq_false, not_false_eq_true, reduceCtorEq, eq_self]
      have sr := res_sm (by omega) hr
      exact ⟨sr.repr (by omega) (by omega), sr.repr (by omega) (by omega), hn w ok _ _ _ _ _ _ _ _ _ _ _ _ _ _⟩
theorem law_l12 {De : DEn} {t k o : Nat} {w : Wel} {e3 e7 e8 e11 e13 e14 e15 : Option Ent} {L : Nat} (ok : WelOk w) (k1 : 1 ≤ k) (k4 : k ≤ 4) (o2 : 2 ≤ o) (o8 : o ≤ 8) (hL : L ≤ 11) (hA : ∀ i, i ≤ L → (frees k o i).length ≤ 516) (hn : ∀ (w2 : Wel), WelOk w2 → ∀ e2 e3 e4 e5 e6 e7 e8 e9 e10 e11 e12 e13 e14 e15 : Option Ent, De.nx ⟨[none, some .wel, e2, e3, e4, e5, e6, e7, e8, e9, e10, e11, e12, e13, e14, e15], some w2⟩) :
    u_law_12 noX De ⟨[none, some .wel, some (.im (.int (t : Nat))), e3, some (.im (.int (k : Nat))), some (.im (.int (o : Nat))), some (.im (lngD k o)), e7, e8, some (.im (.list ((frees k o L).map sD))), some (.im (.int (L : Nat))), e11, some (.im (dueD k o L)), e13, e14, e15], some w⟩ := by
  simp -dsimp only [↓u_law_1_x, ↓u_law_2_x, ↓u_law_3_x, ↓u_law_4_x, ↓u_law_5_x, ↓u_law_6_x, ↓u_law_7_x, ↓u_law_8_x, ↓u_law_9_x, ↓u_law_10_x, ↓u_law_11_x, ↓u_law_12_x, ↓u_law_13_x, ↓u_law_14_x, ↓u_law_15_x, ↓u_law_16_x, ↓u_law_17_x, ↓u_law_18_x, ↓u_law_19_x, ↓u_law_20_x, ↓u_law_21_x, ↓u_law_22_x, ↓u_law_23_x, ↓u_law_24_x, u_law, ↓uSeq, ↓uNext, ↓uKill, ↓uFrz, ↓uDrop, ↓uRet, ↓uIf, ↓uAsg, ↓uAsgO, ↓uPar2, ↓uPar3, ↓uAug, ↓uPut, ↓uDPut, ↓uFor_eq, ↓uWhile_eq, ↓uSeqM_eq, ↓uBrk, ↓uCnt, ↓uWelD, ↓gSet, ↓gN, ↓gC, ↓gT, ↓zE, ↓zF, ↓oE, ↓oV, ↓wV, ↓wC, ↓wOp, ↓wUn, ↓app2, ↓app1, ↓wTst, ↓tAndD, ↓tOrD, ↓tNotD, ↓wAndV, ↓wOrV, ↓wNotV, ↓wIf, ↓wChain, ↓osN, ↓osC, getAll, ↓appN, ↓wCB, ↓appM, ↓wBM, ↓wBM0, ↓wN, ↓wCs, ↓wTup, ↓wLst, ↓wDic0, ↓wDicT, ↓aN, ↓aC, ↓aW, ↓wCall_eq, ↓wCallK_eq, perm, List.filterMap_cons, List.filterMap_nil, ↓wApp, ↓wExt, ↓wPop, ↓wPopAt, ↓wListA, ↓wRpl, ↓iX, ↓iL, ↓iT, ↓iS, ↓iR1, ↓iR2, ↓iR3, ↓iScr, ↓iZD, ↓iE, ↓iE2, ↓iZ2, ↓iZ3, ↓seqD, ↓zipD3, ↓wComp_eq, ↓ttY, ↓wSl, ↓wPart, ↓plN, ↓wRev, ↓wListO, ↓wRep, ↓wLenSet, ↓wLenScr, ↓wWelI, ↓wWelPop, ↓wWelApp, ↓tWelNE, ↓wDisp, ↓wDispT, ↓psC, ↓psN, ↓wDIn, ↓wDNotIn, ↓wDG1, ↓wDG2, ↓wIsi, ↓askD, ↓uTry, ↓uRng, ↓iRV, ↓uRaise, ↓uRaise0, ↓uNever, ↓wCallX_eq, ↓wCallKX_eq, ↓wXf, ↓wIsX, ↓fAdd, ↓fSub, ↓fII, ↓fII0, ↓fDiv, ↓fMod, ↓fPow, ↓fLt, ↓fGt, ↓fLe, ↓fGe, ↓fGtD, ↓fLtD, ↓fLeD, ↓fGeD, ↓fNeg, ↓fMul, ↓fEq, ↓fNe, ↓eqQ, ↓fIsN, ↓fNotN, isNone_1, isNone_2, isNone_3, isNone_4, isNone_5, isNone_6, isNone_7, ↓fInC, ↓fNotInC, ↓fSub_, ↓fIx, ↓fSl, ↓fLen, ↓fTuple, ↓fMin1, ↓fMax1, ↓fSum, ↓fAll, ↓fAny, ↓fSorted, ↓fSortS, ↓fAbs, ↓fInt, ↓fRepr, ↓fCnt, ↓fIdx, ↓fJoin, ↓mSS, ↓mSB, ↓mTI, ↓mTB, ↓mTI3, ↓fInL, ↓fNinL, ↓fInT, ↓fNinT, ↓fInA, ↓fNinA, ↓fInB, ↓fNinB, isStr,
 atI_0, atI_1, atI_2, atI_3, endsG, fld_TooMany, fld_Unfit, mem0, toEnt, Mem.set, Mem.view, Mem.kill, Mem.frz, Mem.ro, Ent.ro', Opd.get,
 List.set_cons_zero, List.set_cons_succ, List.getElem?_cons_zero, List.getElem?_cons_succ, List.map_cons, List.map_nil, List.length_cons, List.length_nil, List.cons_append, List.nil_append, List.replicate_succ, List.replicate_zero, Option.map_some, Option.map_none, List.cons.injEq, and_true, true_and, Arg.x.injEq, exists_eq_left, exists_eq_right, Option.some.injEq, Ent.ow.injEq, Ent.im.injEq, PyData.int.injEq, PyData.list.injEq, PyData.dict.injEq, PyData.tuple.injEq, PyData.str.injEq, exists_eq', exists_eq, decide_eq_true_eq, Bool.not_eq_true', ite_true, ite_false, decide_true, decide_false, decide_eq_false_iff_not, not_true_eq_false, not_false_eq_true, reduceCtorEq, eq_self]
  refine hd_i (by omega) o2 (by omega) (fun i hi => by have := hA i hi; omega) ?_
  have sd := due_sm (k := k) (o := o) (n := L) (by omega)
  simp -dsimp only [↓u_law_1_x, ↓u_law_2_x, ↓u_law_3_x, ↓u_law_4_x, ↓u_law_5_x, ↓u_law_6_x, ↓u_law_7_x, ↓u_law_8_x, ↓u_law_9_x, ↓u_law_10_x, ↓u_law_11_x, ↓u_law_12_x, ↓u_law_13_x, ↓u_law_14_x, ↓u_law_15_x, ↓u_law_16_x, ↓u_law_17_x, ↓u_law_18_x, ↓u_law_19_x, ↓u_law_20_x, ↓u_law_21_x, ↓u_law_22_x, ↓u_law_23_x, ↓u_law_24_x, u_law, ↓uSeq, ↓uNext, ↓uKill, ↓uFrz, ↓uDrop, ↓uRet, ↓uIf, ↓uAsg, ↓uAsgO, ↓uPar2, ↓uPar3, ↓uAug, ↓uPut, ↓uDPut, ↓uFor_eq, ↓uWhile_eq, ↓uSeqM_eq, ↓uBrk, ↓uCnt, ↓uWelD, ↓gSet, ↓gN, ↓gC, ↓gT, ↓zE, ↓zF, ↓oE, ↓oV, ↓wV, ↓wC, ↓wOp, ↓wUn, ↓app2, ↓app1, ↓wTst, ↓tAndD, ↓tOrD, ↓tNotD, ↓wAndV, ↓wOrV, ↓wNotV, ↓wIf, ↓wChain, ↓osN, ↓osC, getAll, ↓appN, ↓wCB, ↓appM, ↓wBM, ↓wBM0, ↓wN, ↓wCs, ↓wTup, ↓wLst, ↓wDic0, ↓wDicT, ↓aN, ↓aC, ↓aW, ↓wCall_eq, ↓wCallK_eq, perm, List.filterMap_cons, List.filterMap_nil, ↓wApp, ↓wExt, ↓wPop, ↓wPopAt, ↓wListA, ↓wRpl, ↓iX, ↓iL, ↓iT, ↓iS, ↓iR1, ↓iR2, ↓iR3, ↓iScr, ↓iZD, ↓iE, ↓iE2, ↓iZ2, ↓iZ3, ↓seqD, ↓zipD3, ↓wComp_eq, ↓ttY, ↓wSl, ↓wPart, ↓plN, ↓wRev, ↓wListO, ↓wRep, ↓wLenSet, ↓wLenScr, ↓wWelI, ↓wWelPop, ↓wWelApp, ↓tWelNE, ↓wDisp, ↓wDispT, ↓psC, ↓psN, ↓wDIn, ↓wDNotIn, ↓wDG1, ↓wDG2, ↓wIsi, ↓askD, ↓uTry, ↓uRng, ↓iRV, ↓uRaise, ↓uRaise0, ↓uNever, ↓wCallX_eq, ↓wCallKX_eq, ↓wXf, ↓wIsX, ↓fAdd, ↓fSub, ↓fII, ↓fII0, ↓fDiv, ↓fMod, ↓fPow, ↓fLt, ↓fGt, ↓fLe, ↓fGe, ↓fGtD, ↓fLtD, ↓fLeD, ↓fGeD, ↓fNeg, ↓fMul, ↓fEq, ↓fNe, ↓eqQ, ↓fIsN, ↓fNotN, isNone_1, isNone_2, isNone_3, isNone_4, isNone_5, isNone_6, isNone_7, ↓fInC, ↓fNotInC, ↓fSub_, ↓fIx, ↓fSl, ↓fLen, ↓fTuple, ↓fMin1, ↓fMax1, ↓fSum, ↓fAll, ↓fAny, ↓fSorted, ↓fSortS, ↓fAbs, ↓fInt, ↓fRepr, ↓fCnt, ↓fIdx, ↓fJoin, ↓mSS, ↓mSB, ↓mTI, ↓mTB, ↓mTI3, ↓fInL, ↓fNinL, ↓fInT, ↓fNinT, ↓fInA, ↓fNinA, ↓fInB, ↓fNinB, isStr,
 atI_0, atI_1, atI_2, atI_3, endsG, fld_TooMany, fld_Unfit, mem0, toEnt, Mem.set, Mem.view, Mem.kill, Mem.frz, Mem.ro, Ent.ro', Opd.get,
 List.set_cons_zero, List.set_cons_succ, List.getElem?_cons_zero, List.getElem?_cons_succ, List.map_cons, List.map_nil, List.length_cons, List.length_nil, List.cons_append, List.nil_append, List.replicate_succ, List.replicate_zero, Option.map_some, Option.map_none, List.cons.injEq, and_true, true_and, Arg.x.injEq, exists_eq_left, exists_eq_right, Option.some.injEq, Ent.ow.injEq, Ent.im.injEq, PyData.int.injEq, PyData.list.injEq, PyData.dict.injEq, PyData.tuple.injEq, PyData.str.injEq, exists_eq', exists_eq, decide_eq_true_eq, Bool.not_eq_true', ite_true, ite_false, decide_true, decide_false, decide_eq_false_iff_not, not_true_eq_false, not_false_eq_true, reduceCtorEq, eq_self]
  refine ⟨sd.repr (by omega) (by omega), sd.repr (by omega) (by omega), ?_⟩
  refine seq_i (fun M => ∃ e3 e7 e8 e9 e10 e11 e12 e13 e14 e15 : Option Ent, ∃ w : Wel, WelOk w ∧ M = ⟨[none, some .wel, some (.im (.int (t : Nat))), e3, some (.im (.int (k : Nat))), some (.im (.int (o : Nat))), some (.im (lngD k o)), e7, e8, e9, e10, e11, e12, e13, e14, e15], some w⟩) ?_ ?_
  · cases hg : lng k o with
    | none =>
      have e : lngD k o = .none := by unfold lngD; rw [hg]
      rw [e]
      simp -dsimp only [↓u_law_1_x, ↓u_law_2_x, ↓u_law_3_x, ↓u_law_4_x, ↓u_law_5_x, ↓u_law_6_x, ↓u_law_7_x, ↓u_law_8_x, ↓u_law_9_x, ↓u_law_10_x, ↓u_law_11_x, ↓u_law_12_x, ↓u_law_13_x, ↓u_law_14_x, ↓u_law_15_x, ↓u_law_16_x, ↓u_law_17_x, ↓u_law_18_x, ↓u_law_19_x, ↓u_law_20_x, ↓u_law_21_x, ↓u_law_22_x, ↓u_law_23_x, ↓u_law_24_x, u_law, ↓uSeq, ↓uNext, ↓uKill, ↓uFrz, ↓uDrop, ↓uRet, ↓uIf, ↓uAsg, ↓uAsgO, ↓uPar2, ↓uPar3, ↓uAug, ↓uPut, ↓uDPut, ↓uFor_eq, ↓uWhile_eq, ↓uSeqM_eq, ↓uBrk, ↓uCnt, ↓uWelD, ↓gSet, ↓gN, ↓gC, ↓gT, ↓zE, ↓zF, ↓oE, ↓oV, ↓wV, ↓wC, ↓wOp, ↓wUn, ↓app2, ↓app1, ↓wTst, ↓tAndD, ↓tOrD, ↓tNotD, ↓wAndV, ↓wOrV, ↓wNotV, ↓wIf, ↓wChain, ↓osN, ↓osC, getAll, ↓appN, ↓wCB, ↓appM, ↓wBM, ↓wBM0, ↓wN, ↓wCs, ↓wTup, ↓wLst, ↓wDic0, ↓wDicT, ↓aN, ↓aC, ↓aW, ↓wCall_eq, ↓wCallK_eq, perm, List.filterMap_cons, List.filterMap_nil, ↓wApp, ↓wExt, ↓wPop, ↓wPopAt, ↓wListA, ↓wRpl, ↓iX, ↓iL, ↓iT, ↓iS, ↓iR1, ↓iR2, ↓iR3, ↓iScr, ↓iZD, ↓iE, ↓iE2, ↓iZ2, ↓iZ3, ↓seqD, ↓zipD3, ↓wComp_eq, ↓ttY, ↓wSl, ↓wPart, ↓plN, ↓wRev, ↓wListO, ↓wRep, ↓wLenSet, ↓wLenScr, ↓wWelI, ↓wWelPop, ↓wWelApp, ↓tWelNE, ↓wDisp, ↓wDispT, ↓psC, ↓psN, ↓wDIn, ↓wDNotIn, ↓wDG1, ↓wDG2, ↓wIsi, ↓askD, ↓uTry, ↓uRng, ↓iRV, ↓uRaise, ↓uRaise0, ↓uNever, ↓wCallX_eq, ↓wCallKX_eq, ↓wXf, ↓wIsX, ↓fAdd, ↓fSub, ↓fII, ↓fII0, ↓fDiv, ↓fMod, ↓fPow, ↓fLt, ↓fGt, ↓fLe, ↓fGe, ↓fGtD, ↓fLtD, ↓fLeD, ↓fGeD, ↓fNeg, ↓fMul, ↓fEq, ↓fNe, ↓eqQ, ↓fIsN, ↓fNotN, isNone_1, isNone_2, isNone_3, isNone_4, isNone_5, isNone_6, isNone_7, ↓fInC, ↓fNotInC, ↓fSub_, ↓fIx, ↓fSl, ↓fLen, ↓fTuple, ↓fMin1, ↓fMax1, ↓fSum, ↓fAll, ↓fAny, ↓fSorted, ↓fSortS, ↓fAbs, ↓fInt, ↓fRepr, ↓fCnt, ↓fIdx, ↓fJoin, ↓mSS, ↓mSB, ↓mTI, ↓mTB, ↓mTI3, ↓fInL, ↓fNinL, ↓fInT, ↓fNinT, ↓fInA, ↓fNinA, ↓fInB, ↓fNinB, isStr,
 atI_0, atI_1, atI_2, atI_3, endsG, fld_TooMany, fld_Unfit, mem0, toEnt, Mem.set, Mem.view, Mem.kill, Mem.frz, Mem.ro, Ent.ro', Opd.get,
 List.set_cons_zero, List.set_cons_succ, List.getElem?_cons_zero, List.getElem?_cons_succ, List.map_cons, List.map_nil, List.length_cons, List.length_nil, List.cons_append, List.nil_append, List.replicate_succ, List.replicate_zero, Option.map_some, Option.map_none, List.cons.injEq, and_true, true_and, Arg.x.injEq, exists_eq_left, exists_eq_right, Option.some.injEq, Ent.ow.injEq, Ent.im.injEq, PyData.int.injEq, PyData.list.injEq, PyData.dict.injEq, PyData.tuple.injEq, PyData.str.injEq, exists_eq', exists_eq, decide_eq_true_eq, Bool.not_eq_true', ite_true, ite_false, decide_true, decide_false, decide_eq_false_iff_not, not_true_eq_false, not_false_eq_true, reduceCtorEq, eq_self]
      exact ⟨_, _, _, _, _, _, _, _, _, _, w, ok, rfl⟩
    | some G =>
      have e : lngD k o = .int (G : Nat) := by unfold lngD; rw [hg]
      rw [e]
      have g9 := lng_le hg o8
      have gok := lng_use hg o2 o8
      simp -dsimp only [↓u_law_1_x, ↓u_law_2_x, ↓u_law_3_x, ↓u_law_4_x, ↓u_law_5_x, ↓u_law_6_x, ↓u_law_7_x, ↓u_law_8_x, ↓u_law_9_x, ↓u_law_10_x, ↓u_law_11_x, ↓u_law_12_x, ↓u_law_13_x, ↓u_law_14_x, ↓u_law_15_x, ↓u_law_16_x, ↓u_law_17_x, ↓u_law_18_x, ↓u_law_19_x, ↓u_law_20_x, ↓u_law_21_x, ↓u_law_22_x, ↓u_law_23_x, ↓u_law_24_x, u_law, ↓uSeq, ↓uNext, ↓uKill, ↓uFrz, ↓uDrop, ↓uRet, ↓uIf, ↓uAsg, ↓uAsgO, ↓uPar2, ↓uPar3, ↓uAug, ↓uPut, ↓uDPut, ↓uFor_eq, ↓uWhile_eq, ↓uSeqM_eq, ↓uBrk, ↓uCnt, ↓uWelD, ↓gSet, ↓gN, ↓gC, ↓gT, ↓zE, ↓zF, ↓oE, ↓oV, ↓wV, ↓wC, ↓wOp, ↓wUn, ↓app2, ↓app1, ↓wTst, ↓tAndD, ↓tOrD, ↓tNotD, ↓wAndV, ↓wOrV, ↓wNotV, ↓wIf, ↓wChain, ↓osN, ↓osC, getAll, ↓appN, ↓wCB, ↓appM, ↓wBM, ↓wBM0, ↓wN, ↓wCs, ↓wTup, ↓wLst, ↓wDic0, ↓wDicT, ↓aN, ↓aC, ↓aW, ↓wCall_eq, ↓wCallK_eq, perm, List.filterMap_cons, List.filterMap_nil, ↓wApp, ↓wExt, ↓wPop, ↓wPopAt, ↓wListA, ↓wRpl, ↓iX, ↓iL, ↓iT, ↓iS, ↓iR1, ↓iR2, ↓iR3, ↓iScr, ↓iZD, ↓iE, ↓iE2, ↓iZ2, ↓iZ3, ↓seqD, ↓zipD3, ↓wComp_eq, ↓ttY, ↓wSl, ↓wPart, ↓plN, ↓wRev, ↓wListO, ↓wRep, ↓wLenSet, ↓wLenScr, ↓wWelI, ↓wWelPop, ↓wWelApp, ↓tWelNE, ↓wDisp, ↓wDispT, ↓psC, ↓psN, ↓wDIn, ↓wDNotIn, ↓wDG1, ↓wDG2, ↓wIsi, ↓askD, ↓uTry, ↓uRng, ↓iRV, ↓uRaise, ↓uRaise0, ↓uNever, ↓wCallX_eq, ↓wCallKX_eq, ↓wXf, ↓wIsX, ↓fAdd, ↓fSub, ↓fII, ↓fII0, ↓fDiv, ↓fMod, ↓fPow, ↓fLt, ↓fGt, ↓fLe, ↓fGe, ↓fGtD, ↓fLtD, ↓fLeD, ↓fGeD, ↓fNeg, ↓fMul, ↓fEq, ↓fNe, ↓eqQ, ↓fIsN, ↓fNotN, isNone_1, isNone_2, isNone_3, isNone_4, isNone_5, isNone_6, isNone_7, ↓fInC, ↓fNotInC, ↓fSub_, ↓fIx, ↓fSl, ↓fLen, ↓fTuple, ↓fMin1, ↓fMax1, ↓fSum, ↓fAll, ↓fAny, ↓fSorted, ↓fSortS, ↓fAbs, ↓fInt, ↓fRepr, ↓fCnt, ↓fIdx, ↓fJoin, ↓mSS, ↓mSB, ↓mTI, ↓mTB, ↓mTI3, ↓fInL, ↓fNinL, ↓fInT, ↓fNinT, ↓fInA, ↓fNinA, ↓fInB, ↓fNinB, isStr,
 atI_0, atI_1, atI_2, atI_3, endsG, fld_TooMany, fld_Unfit, mem0, toEnt, Mem.set, Mem.view, Mem.kill, Mem.frz, Mem.ro, Ent.ro', Opd.get,
 List.set_cons_zero, List.set_cons_succ, List.getElem?_cons_zero, List.getElem?_cons_succ, List.map_cons, List.map_nil, List.length_cons, List.length_nil, List.cons_append, List.nil_append, List.replicate_succ, List.replicate_zero, Option.map_some, Option.map_none, List.cons.injEq, and_true, true_and, Arg.x.injEq, exists_eq_left, exists_eq_right, Option.some.injEq, Ent.ow.injEq, Ent.im.injEq, PyData.int.injEq, PyData.list.injEq, PyData.dict.injEq, PyData.tuple.injEq, PyData.str.injEq, exists_eq', exists_eq, decide_eq_true_eq, Bool.not_eq_true', ite_true, ite_false, decide_true, decide_false, decide_eq_false_iff_not, not_true_eq_false, not_false_eq_true, reduceCtorEq, eq_self]
      refine dip_i ok (by omega) fun r w1 h0 h1 ok1 => ?_
      obtain ⟨f, ef, hf1, hf2⟩ : ∃ f : Nat, ((G : Int) + 1 + r) = (f : Nat) ∧ G + 1 ≤ f ∧ f ≤ 50 := ⟨((G : Int) + 1 + r).toNat, by omega, by omega, by omega⟩
      obtain ⟨fe, fa⟩ := lng_far gok hf1
      simp -dsimp only [↓u_law_1_x, ↓u_law_2_x, ↓u_law_3_x, ↓u_law_4_x, ↓u_law_5_x, ↓u_law_6_x, ↓u_law_7_x, ↓u_law_8_x, ↓u_law_9_x, ↓u_law_10_x, ↓u_law_11_x, ↓u_law_12_x, ↓u_law_13_x, ↓u_law_14_x, ↓u_law_15_x, ↓u_law_16_x, ↓u_law_17_x, ↓u_law_18_x, ↓u_law_19_x, ↓u_law_20_x, ↓u_law_21_x, ↓u_law_22_x, ↓u_law_23_x, ↓u_law_24_x, u_law, ↓uSeq, ↓uNext, ↓uKill, ↓uFrz, ↓uDrop, ↓uRet, ↓uIf, ↓uAsg, ↓uAsgO, ↓uPar2, ↓uPar3, ↓uAug, ↓uPut, ↓uDPut, ↓uFor_eq, ↓uWhile_eq, ↓uSeqM_eq, ↓uBrk, ↓uCnt, ↓uWelD, ↓gSet, ↓gN, ↓gC, ↓gT, ↓zE, ↓zF, ↓oE, ↓oV, ↓wV, ↓wC, ↓wOp, ↓wUn, ↓app2, ↓app1, ↓wTst, ↓tAndD, ↓tOrD, ↓tNotD, ↓wAndV, ↓wOrV, ↓wNotV, ↓wIf, ↓wChain, ↓osN, ↓osC, getAll, ↓appN, ↓wCB, ↓appM, ↓wBM, ↓wBM0, ↓wN, ↓wCs, ↓wTup, ↓wLst, ↓wDic0, ↓wDicT, ↓aN, ↓aC, ↓aW, ↓wCall_eq, ↓wCallK_eq, perm, List.filterMap_cons, List.filterMap_nil, ↓wApp, ↓wExt, ↓wPop, ↓wPopAt, ↓wListA, ↓wRpl, ↓iX, ↓iL, ↓iT, ↓iS, ↓iR1, ↓iR2, ↓iR3, ↓iScr, ↓iZD, ↓iE, ↓iE2, ↓iZ2, ↓iZ3, ↓seqD, ↓zipD3, ↓wComp_eq, ↓ttY, ↓wSl, ↓wPart, ↓plN, ↓wRev, ↓wListO, ↓wRep, ↓wLenSet, ↓wLenScr, ↓wWelI, ↓wWelPop, ↓wWelApp, ↓tWelNE, ↓wDisp, ↓wDispT, ↓psC, ↓psN, ↓wDIn, ↓wDNotIn, ↓wDG1, ↓wDG2, ↓wIsi, ↓askD, ↓uTry, ↓uRng, ↓iRV, ↓uRaise, ↓uRaise0, ↓uNever, ↓wCallX_eq, ↓wCallKX_eq, ↓wXf, ↓wIsX, ↓fAdd, ↓fSub, ↓fII, ↓fII0, ↓fDiv, ↓fMod, ↓fPow, ↓fLt, ↓fGt, ↓fLe, ↓fGe, ↓fGtD, ↓fLtD, ↓fLeD, ↓fGeD, ↓fNeg, ↓fMul, ↓fEq, ↓fNe, ↓eqQ, ↓fIsN, ↓fNotN, isNone_1, isNone_2, isNone_3, isNone_4, isNone_5, isNone_6, isNone_7, ↓fInC, ↓fNotInC, ↓fSub_, ↓fIx, ↓fSl, ↓fLen, ↓fTuple, ↓fMin1, ↓fMax1, ↓fSum, ↓fAll, ↓fAny, ↓fSorted, ↓fSortS, ↓fAbs, ↓fInt, ↓fRepr, ↓fCnt, ↓fIdx, ↓fJoin, ↓mSS, ↓mSB, ↓mTI, ↓mTB, ↓mTI3, ↓fInL, ↓fNinL, ↓fInT, ↓fNinT, ↓fInA, ↓fNinA, ↓fInB, ↓fNinB, isStr,
 atI_0, atI_1, atI_2, atI_3, endsG, fld_TooMany, fld_Unfit, mem0, toEnt, Mem.set, Mem.view, Mem.kill, Mem.frz, Mem.ro, Ent.ro', Opd.get,
 List.set_cons_zero, List.set_cons_succ, List.getElem?_cons_zero, List.getElem?_cons_succ, List.map_cons, List.map_nil, List.length_cons, List.length_nil, List.cons_append, List.nil_append, List.replicate_succ, List.replicate_zero, Option.map_some, Option.map_none, List.cons.injEq, and_true, true_and, Arg.x.injEq, exists_eq_left, exists_eq_right, Option.some.injEq, Ent.ow.injEq, Ent.im.injEq, PyData.int.injEq, PyData.list.injEq, PyData.dict.injEq, PyData.tuple.injEq, PyData.str.injEq, exists_eq', exists_eq, decide_eq_true_eq, Bool.not_eq_true', ite_true, ite_false, decide_true, decide_false, decide_eq_false_iff_not, not_true_eq_false, not_false_eq_true, reduceCtorEq, eq_self, ef]
      refine hd_i (by omega) o2 (by omega) (fun i hi => fa i) ?_
      have ed : dueD k o f = .tuple [.str "told", .tuple []] := by
        unfold dueD
        rw [fe]
        rfl
      rw [ed]
      simp -dsimp only [↓u_law_1_x, ↓u_law_2_x, ↓u_law_3_x, ↓u_law_4_x, ↓u_law_5_x, ↓u_law_6_x, ↓u_law_7_x, ↓u_law_8_x, ↓u_law_9_x, ↓u_law_10_x, ↓u_law_11_x, ↓u_law_12_x, ↓u_law_13_x, ↓u_law_14_x, ↓u_law_15_x, ↓u_law_16_x, ↓u_law_17_x, ↓u_law_18_x, ↓u_law_19_x, ↓u_law_20_x, ↓u_law_21_x, ↓u_law_22_x, ↓u_law_23_x, ↓u_law_24_x, u_law, ↓uSeq, ↓uNext, ↓uKill, ↓uFrz, ↓uDrop, ↓uRet, ↓uIf, ↓uAsg, ↓uAsgO, ↓uPar2, ↓uPar3, ↓uAug, ↓uPut, ↓uDPut, ↓uFor_eq, ↓uWhile_eq, ↓uSeqM_eq, ↓uBrk, ↓uCnt, ↓uWelD, ↓gSet, ↓gN, ↓gC, ↓gT, ↓zE, ↓zF, ↓oE, ↓oV, ↓wV, ↓wC, ↓wOp, ↓wUn, ↓app2, ↓app1, ↓wTst, ↓tAndD, ↓tOrD, ↓tNotD, ↓wAndV, ↓wOrV, ↓wNotV, ↓wIf, ↓wChain, ↓osN, ↓osC, getAll, ↓appN, ↓wCB, ↓appM, ↓wBM, ↓wBM0, ↓wN, ↓wCs, ↓wTup, ↓wLst, ↓wDic0, ↓wDicT, ↓aN, ↓aC, ↓aW, ↓wCall_eq, ↓wCallK_eq, perm, List.filterMap_cons, List.filterMap_nil, ↓wApp, ↓wExt, ↓wPop, ↓wPopAt, ↓wListA, ↓wRpl, ↓iX, ↓iL, ↓iT, ↓iS, ↓iR1, ↓iR2, ↓iR3, ↓iScr, ↓iZD, ↓iE, ↓iE2, ↓iZ2, ↓iZ3, ↓seqD, ↓zipD3, ↓wComp_eq, ↓ttY, ↓wSl, ↓wPart, ↓plN, ↓wRev, ↓wListO, ↓wRep, ↓wLenSet, ↓wLenScr, ↓wWelI, ↓wWelPop, ↓wWelApp, ↓tWelNE, ↓wDisp, ↓wDispT, ↓psC, ↓psN, ↓wDIn, ↓wDNotIn, ↓wDG1, ↓wDG2, ↓wIsi, ↓askD, ↓uTry, ↓uRng, ↓iRV, ↓uRaise, ↓uRaise0, ↓uNever, ↓wCallX_eq, ↓wCallKX_eq, ↓wXf, ↓wIsX, ↓fAdd, ↓fSub, ↓fII, ↓fII0, ↓fDiv, ↓fMod, ↓fPow, ↓fLt, ↓fGt, ↓fLe, ↓fGe, ↓fGtD, ↓fLtD, ↓fLeD, ↓fGeD, ↓fNeg, ↓fMul, ↓fEq, ↓fNe, ↓eqQ, ↓fIsN, ↓fNotN, isNone_1, isNone_2, isNone_3, isNone_4, isNone_5, isNone_6, isNone_7, ↓fInC, ↓fNotInC, ↓fSub_, ↓fIx, ↓fSl, ↓fLen, ↓fTuple, ↓fMin1, ↓fMax1, ↓fSum, ↓fAll, ↓fAny, ↓fSorted, ↓fSortS, ↓fAbs, ↓fInt, ↓fRepr, ↓fCnt, ↓fIdx, ↓fJoin, ↓mSS, ↓mSB, ↓mTI, ↓mTB, ↓mTI3, ↓fInL, ↓fNinL, ↓fInT, ↓fNinT, ↓fInA, ↓fNinA, ↓fInB, ↓fNinB, isStr,
 atI_0, atI_1, atI_2, atI_3, endsG, fld_TooMany, fld_Unfit, mem0, toEnt, Mem.set, Mem.view, Mem.kill, Mem.frz, Mem.ro, Ent.ro', Opd.get,
 List.set_cons_zero, List.set_cons_succ, List.getElem?_cons_zero, List.getElem?_cons_succ, List.map_cons, List.map_nil, List.length_cons, List.length_nil, List.cons_append, List.nil_append, List.replicate_succ, List.replicate_zero, Option.map_some, Option.map_none, List.cons.injEq, and_true, true_and, Arg.x.injEq, exists_eq_left, exists_eq_right, Option.some.injEq, Ent.ow.injEq, Ent.im.injEq, PyData.int.injEq, PyData.list.injEq, PyData.dict.injEq, PyData.tuple.injEq, PyData.str.injEq, exists_eq', exists_eq, decide_eq_true_eq, Bool.not_eq_true', ite_true, ite_false, decide_true, decide_false, decide_eq_false_iff_not, not_true_eq_false, not_false_eq_true, reduceCtorEq, eq_self]
      rw [if_neg (by simp [PyData.eqv, PyData.eqvAll]), ef]
      have sd2 := due_sm (k := k) (o := o) (n := f) (by omega)
      rw [ed] at sd2
      refine ⟨by decide, by decide, Sm.eq sd2 sd2 (by omega) (by omega), ?_⟩
      refine least_i (by omega) o2 (by omega) fun r' hr' => ?_
      obtain rfl := res_none fe hr'
      simp -dsimp only [↓u_law_1_x, ↓u_law_2_x, ↓u_law_3_x, ↓u_law_4_x, ↓u_law_5_x, ↓u_law_6_x, ↓u_law_7_x, ↓u_law_8_x, ↓u_law_9_x, ↓u_law_10_x, ↓u_law_11_x, ↓u_law_12_x, ↓u_law_13_x, ↓u_law_14_x, ↓u_law_15_x, ↓u_law_16_x, ↓u_law_17_x, ↓u_law_18_x, ↓u_law_19_x, ↓u_law_20_x, ↓u_law_21_x, ↓u_law_22_x, ↓u_law_23_x, ↓u_law_24_x, u_law, ↓uSeq, ↓uNext, ↓uKill, ↓uFrz, ↓uDrop, ↓uRet, ↓uIf, ↓uAsg, ↓uAsgO, ↓uPar2, ↓uPar3, ↓uAug, ↓uPut, ↓uDPut, ↓uFor_eq, ↓uWhile_eq, ↓uSeqM_eq, ↓uBrk, ↓uCnt, ↓uWelD, ↓gSet, ↓gN, ↓gC, ↓gT, ↓zE, ↓zF, ↓oE, ↓oV, ↓wV, ↓wC, ↓wOp, ↓wUn, ↓app2, ↓app1, ↓wTst, ↓tAndD, ↓tOrD, ↓tNotD, ↓wAndV, ↓wOrV, ↓wNotV, ↓wIf, ↓wChain, ↓osN, ↓osC, getAll, ↓appN, ↓wCB, ↓appM, ↓wBM, ↓wBM0, ↓wN, ↓wCs, ↓wTup, ↓wLst, ↓wDic0, ↓wDicT, ↓aN, ↓aC, ↓aW, ↓wCall_eq, ↓wCallK_eq, perm, List.filterMap_cons, List.filterMap_nil, ↓wApp, ↓wExt, ↓wPop, ↓wPopAt, ↓wListA, ↓wRpl, ↓iX, ↓iL, ↓iT, ↓iS, ↓iR1, ↓iR2, ↓iR3, ↓iScr, ↓iZD, ↓iE, ↓iE2, ↓iZ2, ↓iZ3, ↓seqD, ↓zipD3, ↓wComp_eq, ↓ttY, ↓wSl, ↓wPart, ↓plN, ↓wRev, ↓wListO, ↓wRep, ↓wLenSet, ↓wLenScr, ↓wWelI, ↓wWelPop, ↓wWelApp, ↓tWelNE, ↓wDisp, ↓wDispT, ↓psC, ↓psN, ↓wDIn, ↓wDNotIn, ↓wDG1, ↓wDG2, ↓wIsi, ↓askD, ↓uTry, ↓uRng, ↓iRV, ↓uRaise, ↓uRaise0, ↓uNever, ↓wCallX_eq, ↓wCallKX_eq, ↓wXf, ↓wIsX, ↓fAdd, ↓fSub, ↓fII, ↓fII0, ↓fDiv, ↓fMod, ↓fPow, ↓fLt, ↓fGt, ↓fLe, ↓fGe, ↓fGtD, ↓fLtD, ↓fLeD, ↓fGeD, ↓fNeg, ↓fMul, ↓fEq, ↓fNe, ↓eqQ, ↓fIsN, ↓fNotN, isNone_1, isNone_2, isNone_3, isNone_4, isNone_5, isNone_6, isNone_7, ↓fInC, ↓fNotInC, ↓fSub_, ↓fIx, ↓fSl, ↓fLen, ↓fTuple, ↓fMin1, ↓fMax1, ↓fSum, ↓fAll, ↓fAny, ↓fSorted, ↓fSortS, ↓fAbs, ↓fInt, ↓fRepr, ↓fCnt, ↓fIdx, ↓fJoin, ↓mSS, ↓mSB, ↓mTI, ↓mTB, ↓mTI3, ↓fInL, ↓fNinL, ↓fInT, ↓fNinT, ↓fInA, ↓fNinA, ↓fInB, ↓fNinB, isStr,
 atI_0, atI_1, atI_2, atI_3, endsG, fld_TooMany, fld_Unfit, mem0, toEnt, Mem.set, Mem.view, Mem.kill, Mem.frz, Mem.ro, Ent.ro', Opd.get,
 List.set_cons_zero, List.set_cons_succ, List.getElem?_cons_zero, List.getElem?_cons_succ, List.map_cons, List.map_nil, List.length_cons, List.length_nil, List.cons_append, List.nil_append, List.replicate_succ, List.replicate_zero, Option.map_some, Option.map_none, List.cons.injEq, and_true, true_and, Arg.x.injEq, exists_eq_left, exists_eq_right, Option.some.injEq, Ent.ow.injEq, Ent.im.injEq, PyData.int.injEq, PyData.list.injEq, PyData.dict.injEq, PyData.tuple.injEq, PyData.str.injEq, exists_eq', exists_eq, decide_eq_true_eq, Bool.not_eq_true', ite_true, ite_false, decide_true, decide_false, decide_eq_false_iff_not, not_true_eq_false, not_false_eq_true, reduceCtorEq, eq_self]
      exact ⟨_, _, _, _, _, _, _, _, _, _, w1, ok1, rfl⟩
  · rintro M' ⟨e3, e7, e8, e9, e10, e11, e12, e13, e14, e15, w, ok, rfl⟩
    exact law_l10 ok k1 k4 o2 o8 hn
theorem law_l13 {De : DEn} {t k o : Nat} {w : Wel} {e3 e7 e8 e11 e12 e13 e14 e15 : Option Ent} {L : Nat} (ok : WelOk w) (k1 : 1 ≤ k) (k4 : k ≤ 4) (o2 : 2 ≤ o) (o8 : o ≤ 8) (hL : L ≤ 11) (hA : ∀ i, i ≤ L → (frees k o i).length ≤ 516) (hn : ∀ (w2 : Wel), WelOk w2 → ∀ e2 e3 e4 e5 e6 e7 e8 e9 e10 e11 e12 e13 e14 e15 : Option Ent, De.nx ⟨[none, some .wel, e2, e3, e4, e5, e6, e7, e8, e9, e10, e11, e12, e13, e14, e15], some w2⟩) :
    u_law_13 noX De ⟨[none, some .wel, some (.im (.int (t : Nat))), e3, some (.im (.int (k : Nat))), some (.im (.int (o : Nat))), some (.im (lngD k o)), e7, e8, some (.im (.list ((frees k o L).map sD))), some (.im (.int (L : Nat))), e11, e12, e13, e14, e15], some w⟩ := by
  simp -dsimp only [↓u_law_1_x, ↓u_law_2_x, ↓u_law_3_x, ↓u_law_4_x, ↓u_law_5_x, ↓u_law_6_x, ↓u_law_7_x, ↓u_law_8_x, ↓u_law_9_x, ↓u_law_10_x, ↓u_law_11_x, ↓u_law_12_x, ↓u_law_13_x, ↓u_law_14_x, ↓u_law_15_x, ↓u_law_16_x, ↓u_law_17_x, ↓u_law_18_x, ↓u_law_19_x, ↓u_law_20_x, ↓u_law_21_x, ↓u_law_22_x, ↓u_law_23_x, ↓u_law_24_x, u_law, ↓uSeq, ↓uNext, ↓uKill, ↓uFrz, ↓uDrop, ↓uRet, ↓uIf, ↓uAsg, ↓uAsgO, ↓uPar2, ↓uPar3, ↓uAug, ↓uPut, ↓uDPut, ↓uFor_eq, ↓uWhile_eq, ↓uSeqM_eq, ↓uBrk, ↓uCnt, ↓uWelD, ↓gSet, ↓gN, ↓gC, ↓gT, ↓zE, ↓zF, ↓oE, ↓oV, ↓wV, ↓wC, ↓wOp, ↓wUn, ↓app2, ↓app1, ↓wTst, ↓tAndD, ↓tOrD, ↓tNotD, ↓wAndV, ↓wOrV, ↓wNotV, ↓wIf, ↓wChain, ↓osN, ↓osC, getAll, ↓appN, ↓wCB, ↓appM, ↓wBM, ↓wBM0, ↓wN, ↓wCs, ↓wTup, ↓wLst, ↓wDic0, ↓wDicT, ↓aN, ↓aC, ↓aW, ↓wCall_eq, ↓wCallK_eq, perm, List.filterMap_cons, List.filterMap_nil, ↓wApp, ↓wExt, ↓wPop, ↓wPopAt, ↓wListA, ↓wRpl, ↓iX, ↓iL, ↓iT, ↓iS, ↓iR1, ↓iR2, ↓iR3, ↓iScr, ↓iZD, ↓iE, ↓iE2, ↓iZ2, ↓iZ3, ↓seqD, ↓zipD3, ↓wComp_eq, ↓ttY, ↓wSl, ↓wPart, ↓plN, ↓wRev, ↓wListO, ↓wRep, ↓wLenSet, ↓wLenScr, ↓wWelI, ↓wWelPop, ↓wWelApp, ↓tWelNE, ↓wDisp, ↓wDispT, ↓psC, ↓psN, ↓wDIn, ↓wDNotIn, ↓wDG1, ↓wDG2, ↓wIsi, ↓askD, ↓uTry, ↓uRng, ↓iRV, ↓uRaise, ↓uRaise0, ↓uNever, ↓wCallX_eq, ↓wCallKX_eq, ↓wXf, ↓wIsX, ↓fAdd, ↓fSub, ↓fII, ↓fII0, ↓fDiv, ↓fMod, ↓fPow, ↓fLt, ↓fGt, ↓fLe, ↓fGe, ↓fGtD, ↓fLtD, ↓fLeD, ↓fGeD, ↓fNeg, ↓fMul, ↓fEq, ↓fNe, ↓eqQ, ↓fIsN, ↓fNotN, isNone_1, isNone_2, isNone_3, isNone_4, isNone_5, isNone_6, isNone_7, ↓fInC, ↓fNotInC, ↓fSub_, ↓fIx, ↓fSl, ↓fLen, ↓fTuple, ↓fMin1, ↓fMax1, ↓fSum, ↓fAll, ↓fAny, ↓fSorted, ↓fSortS, ↓fAbs, ↓fInt, ↓fRepr, ↓fCnt, ↓fIdx, ↓fJoin, ↓mSS, ↓mSB, ↓mTI, ↓mTB, ↓mTI3, ↓fInL, ↓fNinL, ↓fInT, ↓fNinT, ↓fInA, ↓fNinA, ↓fInB, ↓fNinB, isStr,
 atI_0, atI_1, atI_2, atI_3, endsG, fld_TooMany, fld_Unfit, mem0, toEnt, Mem.set, Mem.view, Mem.kill, Mem.frz, Mem.ro, Ent.ro', Opd.get,
 List.set_cons_zero, List.set_cons_succ, List.getElem?_cons_zero, List.getElem?_cons_succ, List.map_cons, List.map_nil, List.length_cons, List.length_nil, List.cons_append, List.nil_append, List.replicate_succ, List.replicate_zero, Option.map_some, Option.map_none, List.cons.injEq, and_true, true_and, Arg.x.injEq, exists_eq_left, exists_eq_right, Option.some.injEq, Ent.ow.injEq, Ent.im.injEq, PyData.int.injEq, PyData.list.injEq, PyData.dict.injEq, PyData.tuple.injEq, PyData.str.injEq, exists_eq', exists_eq, decide_eq_true_eq, Bool.not_eq_true', ite_true, ite_false, decide_true, decide_false, decide_eq_false_iff_not, not_true_eq_false, not_false_eq_true, reduceCtorEq, eq_self]
  refine seq_i (fun M => M = ⟨[none, some .wel, some (.im (.int (t : Nat))), e3, some (.im (.int (k : Nat))), some (.im (.int (o : Nat))), some (.im (lngD k o)), e7, e8, some (.im (.list ((frees k o L).map sD))), some (.im (.int (L : Nat))), e11, some (.im (dueD k o L)), e13, e14, e15], some w⟩) ?_ ?_
  · simp -dsimp only [↓u_law_1_x, ↓u_law_2_x, ↓u_law_3_x, ↓u_law_4_x, ↓u_law_5_x, ↓u_law_6_x, ↓u_law_7_x, ↓u_law_8_x, ↓u_law_9_x, ↓u_law_10_x, ↓u_law_11_x, ↓u_law_12_x, ↓u_law_13_x, ↓u_law_14_x, ↓u_law_15_x, ↓u_law_16_x, ↓u_law_17_x, ↓u_law_18_x, ↓u_law_19_x, ↓u_law_20_x, ↓u_law_21_x, ↓u_law_22_x, ↓u_law_23_x, ↓u_law_24_x, u_law, ↓uSeq, ↓uNext, ↓uKill, ↓uFrz, ↓uDrop, ↓uRet, ↓uIf, ↓uAsg, ↓uAsgO, ↓uPar2, ↓uPar3, ↓uAug, ↓uPut, ↓uDPut, ↓uFor_eq, ↓uWhile_eq, ↓uSeqM_eq, ↓uBrk, ↓uCnt, ↓uWelD, ↓gSet, ↓gN, ↓gC, ↓gT, ↓zE, ↓zF, ↓oE, ↓oV, ↓wV, ↓wC, ↓wOp, ↓wUn, ↓app2, ↓app1, ↓wTst, ↓tAndD, ↓tOrD, ↓tNotD, ↓wAndV, ↓wOrV, ↓wNotV, ↓wIf, ↓wChain, ↓osN, ↓osC, getAll, ↓appN, ↓wCB, ↓appM, ↓wBM, ↓wBM0, ↓wN, ↓wCs, ↓wTup, ↓wLst, ↓wDic0, ↓wDicT, ↓aN, ↓aC, ↓aW, ↓wCall_eq, ↓wCallK_eq, perm, List.filterMap_cons, List.filterMap_nil, ↓wApp, ↓wExt, ↓wPop, ↓wPopAt, ↓wListA, ↓wRpl, ↓iX, ↓iL, ↓iT, ↓iS, ↓iR1, ↓iR2, ↓iR3, ↓iScr, ↓iZD, ↓iE, ↓iE2, ↓iZ2, ↓iZ3, ↓seqD, ↓zipD3, ↓wComp_eq, ↓ttY, ↓wSl, ↓wPart, ↓plN, ↓wRev, ↓wListO, ↓wRep, ↓wLenSet, ↓wLenScr, ↓wWelI, ↓wWelPop, ↓wWelApp, ↓tWelNE, ↓wDisp, ↓wDispT, ↓psC, ↓psN, ↓wDIn, ↓wDNotIn, ↓wDG1, ↓wDG2, ↓wIsi, ↓askD, ↓uTry, ↓uRng, ↓iRV, ↓uRaise, ↓uRaise0, ↓uNever, ↓wCallX_eq, ↓wCallKX_eq, ↓wXf, ↓wIsX, ↓fAdd, ↓fSub, ↓fII, ↓fII0, ↓fDiv, ↓fMod, ↓fPow, ↓fLt, ↓fGt, ↓fLe, ↓fGe, ↓fGtD, ↓fLtD, ↓fLeD, ↓fGeD, ↓fNeg, ↓fMul, ↓fEq, ↓fNe, ↓eqQ, ↓fIsN, ↓fNotN, isNone_1, isNone_2, isNone_3, isNone_4, isNone_5, isNone_6, isNone_7, ↓fInC, ↓fNotInC, ↓fSub_, ↓fIx, ↓fSl, ↓fLen, ↓fTuple, ↓fMin1, ↓fMax1, ↓fSum, ↓fAll, ↓fAny, ↓fSorted, ↓fSortS, ↓fAbs, ↓fInt, ↓fRepr, ↓fCnt, ↓fIdx, ↓fJoin, ↓mSS, ↓mSB, ↓mTI, ↓mTB, ↓mTI3, ↓fInL, ↓fNinL, ↓fInT, ↓fNinT, ↓fInA, ↓fNinA, ↓fInB, ↓fNinB, isStr,
 atI_0, atI_1, atI_2, atI_3, endsG, fld_TooMany, fld_Unfit, mem0, toEnt, Mem.set, Mem.view, Mem.kill, Mem.frz, Mem.ro, Ent.ro', Opd.get,
 List.set_cons_zero, List.set_cons_succ, List.getElem?_cons_zero, List.getElem?_cons_succ, List.map_cons, List.map_nil, List.length_cons, List.length_nil, List.cons_append, List.nil_append, List.replicate_succ, List.replicate_zero, Option.map_some, Option.map_none, List.cons.injEq, and_true, true_and, Arg.x.injEq, exists_eq_left, exists_eq_right, Option.some.injEq, Ent.ow.injEq, Ent.im.injEq, PyData.int.injEq, PyData.list.injEq, PyData.dict.injEq, PyData.tuple.injEq, PyData.str.injEq, exists_eq', exists_eq, decide_eq_true_eq, Bool.not_eq_true', ite_true, ite_false, decide_true, decide_false, decide_eq_false_iff_not, not_true_eq_false, not_false_eq_true, reduceCtorEq, eq_self, List.length_map]
    refine ite_i (fun c => ⟨by decide, ?_⟩) (fun c => ⟨by decide, ?_⟩)
    · unfold dueD
      rw [if_pos (by omega)]
    · unfold dueD
      rw [if_neg (by omega)]
  · rintro M' rfl
    exact law_l12 ok k1 k4 o2 o8 hL hA hn
theorem law_tail {De : DEn} {t k o : Nat} {w : Wel} {e3 e7 e8 e9 e10 e11 e12 e13 e14 e15 : Option Ent} (ok : WelOk w) (k1 : 1 ≤ k) (k4 : k ≤ 4) (o2 : 2 ≤ o) (o8 : o ≤ 8) (hn : ∀ (w2 : Wel), WelOk w2 → ∀ e2 e3 e4 e5 e6 e7 e8 e9 e10 e11 e12 e13 e14 e15 : Option Ent, De.nx ⟨[none, some .wel, e2, e3, e4, e5, e6, e7, e8, e9, e10, e11, e12, e13, e14, e15], some w2⟩) :
    u_law_16 noX De ⟨[none, some .wel, some (.im (.int (t : Nat))), e3, some (.im (.int (k : Nat))), some (.im (.int (o : Nat))), some (.im (lngD k o)), e7, e8, e9, e10, e11, e12, e13, e14, e15], some w⟩ := by
  simp -dsimp only [↓u_law_1_x, ↓u_law_2_x, ↓u_law_3_x, ↓u_law_4_x, ↓u_law_5_x, ↓u_law_6_x, ↓u_law_7_x, ↓u_law_8_x, ↓u_law_9_x, ↓u_law_10_x, ↓u_law_11_x, ↓u_law_12_x, ↓u_law_13_x, ↓u_law_14_x, ↓u_law_15_x, ↓u_law_16_x, ↓u_law_17_x, ↓u_law_18_x, ↓u_law_19_x, ↓u_law_20_x, ↓u_law_21_x, ↓u_law_22_x, ↓u_law_23_x, ↓u_law_24_x, u_law, ↓uSeq, ↓uNext, ↓uKill, ↓uFrz, ↓uDrop, ↓uRet, ↓uIf, ↓uAsg, ↓uAsgO, ↓uPar2, ↓uPar3, ↓uAug, ↓uPut, ↓uDPut, ↓uFor_eq, ↓uWhile_eq, ↓uSeqM_eq, ↓uBrk, ↓uCnt, ↓uWelD, ↓gSet, ↓gN, ↓gC, ↓gT, ↓zE, ↓zF, ↓oE, ↓oV, ↓wV, ↓wC, ↓wOp, ↓wUn, ↓app2, ↓app1, ↓wTst, ↓tAndD, ↓tOrD, ↓tNotD, ↓wAndV, ↓wOrV, ↓wNotV, ↓wIf, ↓wChain, ↓osN, ↓osC, getAll, ↓appN, ↓wCB, ↓appM, ↓wBM, ↓wBM0, ↓wN, ↓wCs, ↓wTup, ↓wLst, ↓wDic0, ↓wDicT, ↓aN, ↓aC, ↓aW, ↓wCall_eq, ↓wCallK_eq, perm, List.filterMap_cons, List.filterMap_nil, ↓wApp, ↓wExt, ↓wPop, ↓wPopAt, ↓wListA, ↓wRpl, ↓iX, ↓iL, ↓iT, ↓iS, ↓iR1, ↓iR2, ↓iR3, ↓iScr, ↓iZD, ↓iE, ↓iE2, ↓iZ2, ↓iZ3, ↓seqD, ↓zipD3, ↓wComp_eq, ↓ttY, ↓wSl, ↓wPart, ↓plN, ↓wRev, ↓wListO, ↓wRep, ↓wLenSet, ↓wLenScr, ↓wWelI, ↓wWelPop, ↓wWelApp, ↓tWelNE, ↓wDisp, ↓wDispT, ↓psC, ↓psN, ↓wDIn, ↓wDNotIn, ↓wDG1, ↓wDG2, ↓wIsi, ↓askD, ↓uTry, ↓uRng, ↓iRV, ↓uRaise, ↓uRaise0, ↓uNever, ↓wCallX_eq, ↓wCallKX_eq, ↓wXf, ↓wIsX, ↓fAdd, ↓fSub, ↓fII, ↓fII0, ↓fDiv, ↓fMod, ↓fPow, ↓fLt, ↓fGt, ↓fLe, ↓fGe, ↓fGtD, ↓fLtD, ↓fLeD, ↓fGeD, ↓fNeg, ↓fMul, ↓fEq, ↓fNe, ↓eqQ, ↓fIsN, ↓fNotN, isNone_1, isNone_2, isNone_3, isNone_4, isNone_5, isNone_6, isNone_7, ↓fInC, ↓fNotInC, ↓fSub_, ↓fIx, ↓fSl, ↓fLen, ↓fTuple, ↓fMin1, ↓fMax1, ↓fSum, ↓fAll, ↓fAny, ↓fSorted, ↓fSortS, ↓fAbs, ↓fInt, ↓fRepr, ↓fCnt, ↓fIdx, ↓fJoin, ↓mSS, ↓mSB, ↓mTI, ↓mTB, ↓mTI3, ↓fInL, ↓fNinL, ↓fInT, ↓fNinT, ↓fInA, ↓fNinA, ↓fInB, ↓fNinB, isStr,
 atI_0, atI_1, atI_2, atI_3, endsG, fld_TooMany, fld_Unfit, mem0, toEnt, Mem.set, Mem.view, Mem.kill, Mem.frz, Mem.ro, Ent.ro', Opd.get,
 List.set_cons_zero, List.set_cons_succ, List.getElem?_cons_zero, List.getElem?_cons_succ, List.map_cons, List.map_nil, List.length_cons, List.length_nil, List.cons_append, List.nil_append, List.replicate_succ, List.replicate_zero, Option.map_some, Option.map_none, List.cons.injEq, and_true, true_and, Arg.x.injEq, exists_eq_left, exists_eq_right, Option.some.injEq, Ent.ow.injEq, Ent.im.injEq, PyData.int.injEq, PyData.list.injEq, PyData.dict.injEq, PyData.tuple.injEq, PyData.str.injEq, exists_eq', exists_eq, decide_eq_true_eq, Bool.not_eq_true', ite_true, ite_false, decide_true, decide_false, decide_eq_false_iff_not, not_true_eq_false, not_false_eq_true, reduceCtorEq, eq_self]
  refine ⟨by decide, dip_i ok (by decide) fun g w1 hg0 hg1 ok1 => ?_⟩
  simp -dsimp only [↓u_law_1_x, ↓u_law_2_x, ↓u_law_3_x, ↓u_law_4_x, ↓u_law_5_x, ↓u_law_6_x, ↓u_law_7_x, ↓u_law_8_x, ↓u_law_9_x, ↓u_law_10_x, ↓u_law_11_x, ↓u_law_12_x, ↓u_law_13_x, ↓u_law_14_x, ↓u_law_15_x, ↓u_law_16_x, ↓u_law_17_x, ↓u_law_18_x, ↓u_law_19_x, ↓u_law_20_x, ↓u_law_21_x, ↓u_law_22_x, ↓u_law_23_x, ↓u_law_24_x, u_law, ↓uSeq, ↓uNext, ↓uKill, ↓uFrz, ↓uDrop, ↓uRet, ↓uIf, ↓uAsg, ↓uAsgO, ↓uPar2, ↓uPar3, ↓uAug, ↓uPut, ↓uDPut, ↓uFor_eq, ↓uWhile_eq, ↓uSeqM_eq, ↓uBrk, ↓uCnt, ↓uWelD, ↓gSet, ↓gN, ↓gC, ↓gT, ↓zE, ↓zF, ↓oE, ↓oV, ↓wV, ↓wC, ↓wOp, ↓wUn, ↓app2, ↓app1, ↓wTst, ↓tAndD, ↓tOrD, ↓tNotD, ↓wAndV, ↓wOrV, ↓wNotV, ↓wIf, ↓wChain, ↓osN, ↓osC, getAll, ↓appN, ↓wCB, ↓appM, ↓wBM, ↓wBM0, ↓wN, ↓wCs, ↓wTup, ↓wLst, ↓wDic0, ↓wDicT, ↓aN, ↓aC, ↓aW, ↓wCall_eq, ↓wCallK_eq, perm, List.filterMap_cons, List.filterMap_nil, ↓wApp, ↓wExt, ↓wPop, ↓wPopAt, ↓wListA, ↓wRpl, ↓iX, ↓iL, ↓iT, ↓iS, ↓iR1, ↓iR2, ↓iR3, ↓iScr, ↓iZD, ↓iE, ↓iE2, ↓iZ2, ↓iZ3, ↓seqD, ↓zipD3, ↓wComp_eq, ↓ttY, ↓wSl, ↓wPart, ↓plN, ↓wRev, ↓wListO, ↓wRep, ↓wLenSet, ↓wLenScr, ↓wWelI, ↓wWelPop, ↓wWelApp, ↓tWelNE, ↓wDisp, ↓wDispT, ↓psC, ↓psN, ↓wDIn, ↓wDNotIn, ↓wDG1, ↓wDG2, ↓wIsi, ↓askD, ↓uTry, ↓uRng, ↓iRV, ↓uRaise, ↓uRaise0, ↓uNever, ↓wCallX_eq, ↓wCallKX_eq, ↓wXf, ↓wIsX, ↓fAdd, ↓fSub, ↓fII, ↓fII0, ↓fDiv, ↓fMod, ↓fPow, ↓fLt, ↓fGt, ↓fLe, ↓fGe, ↓fGtD, ↓fLtD, ↓fLeD, ↓fGeD, ↓fNeg, ↓fMul, ↓fEq, ↓fNe, ↓eqQ, ↓fIsN, ↓fNotN, isNone_1, isNone_2, isNone_3, isNone_4, isNone_5, isNone_6, isNone_7, ↓fInC, ↓fNotInC, ↓fSub_, ↓fIx, ↓fSl, ↓fLen, ↓fTuple, ↓fMin1, ↓fMax1, ↓fSum, ↓fAll, ↓fAny, ↓fSorted, ↓fSortS, ↓fAbs, ↓fInt, ↓fRepr, ↓fCnt, ↓fIdx, ↓fJoin, ↓mSS, ↓mSB, ↓mTI, ↓mTB, ↓mTI3, ↓fInL, ↓fNinL, ↓fInT, ↓fNinT, ↓fInA, ↓fNinA, ↓fInB, ↓fNinB, isStr,
 atI_0, atI_1, atI_2, atI_3, endsG, fld_TooMany, fld_Unfit, mem0, toEnt, Mem.set, Mem.view, Mem.kill, Mem.frz, Mem.ro, Ent.ro', Opd.get,
 List.set_cons_zero, List.set_cons_succ, List.getElem?_cons_zero, List.getElem?_cons_succ, List.map_cons, List.map_nil, List.length_cons, List.length_nil, List.cons_append, List.nil_append, List.replicate_succ, List.replicate_zero, Option.map_some, Option.map_none, List.cons.injEq, and_true, true_and, Arg.x.injEq, exists_eq_left, exists_eq_right, Option.some.injEq, Ent.ow.injEq, Ent.im.injEq, PyData.int.injEq, PyData.list.injEq, PyData.dict.injEq, PyData.tuple.injEq, PyData.str.injEq, exists_eq', exists_eq, decide_eq_true_eq, Bool.not_eq_true', ite_true, ite_false, decide_true, decide_false, decide_eq_false_iff_not, not_true_eq_false, not_false_eq_true, reduceCtorEq, eq_self]
  refine while_i (fun m M => ∃ L : Nat, m = 11 - L ∧ L ≤ 11 ∧ (L : Int) ≤ g ∧ (∀ i, i < L → (frees k o i).length < 130) ∧ M = ⟨[none, some .wel, some (.im (.int (t : Nat))), e3, some (.im (.int (k : Nat))), some (.im (.int (o : Nat))), some (.im (lngD k o)), e7, e8, some (.im (.list ((frees k o L).map sD))), some (.im (.int (L : Nat))), some (.im (.int g)), e12, e13, e14, e15], some w1⟩) 11 ⟨0, rfl, by decide, by omega, fun i h => absurd h (by omega), rfl⟩ ?_
  rintro m M' ⟨L, rfl, hL, hLg, h130, rfl⟩
  have hA : ∀ i, i ≤ L → (frees k o i).length ≤ 516 := fun i hi => by
    by_cases e : i < L
    · have := h130 i e
      omega
    · have e : i = L := by omega
      subst e
      cases i with
      | zero => show 1 ≤ 516; decide
      | succ j =>
        have a := h130 j (by omega)
        have b := growP_len k o (frees k o j)
        show (growP k o (frees k o j)).length ≤ 516
        omega
  simp -dsimp only [↓u_law_1_x, ↓u_law_2_x, ↓u_law_3_x, ↓u_law_4_x, ↓u_law_5_x, ↓u_law_6_x, ↓u_law_7_x, ↓u_law_8_x, ↓u_law_9_x, ↓u_law_10_x, ↓u_law_11_x, ↓u_law_12_x, ↓u_law_13_x, ↓u_law_14_x, ↓u_law_15_x, ↓u_law_16_x, ↓u_law_17_x, ↓u_law_18_x, ↓u_law_19_x, ↓u_law_20_x, ↓u_law_21_x, ↓u_law_22_x, ↓u_law_23_x, ↓u_law_24_x, u_law, ↓uSeq, ↓uNext, ↓uKill, ↓uFrz, ↓uDrop, ↓uRet, ↓uIf, ↓uAsg, ↓uAsgO, ↓uPar2, ↓uPar3, ↓uAug, ↓uPut, ↓uDPut, ↓uFor_eq, ↓uWhile_eq, ↓uSeqM_eq, ↓uBrk, ↓uCnt, ↓uWelD, ↓gSet, ↓gN, ↓gC, ↓gT, ↓zE, ↓zF, ↓oE, ↓oV, ↓wV, ↓wC, ↓wOp, ↓wUn, ↓app2, ↓app1, ↓wTst, ↓tAndD, ↓tOrD, ↓tNotD, ↓wAndV, ↓wOrV, ↓wNotV, ↓wIf, ↓wChain, ↓osN, ↓osC, getAll, ↓appN, ↓wCB, ↓appM, ↓wBM, ↓wBM0, ↓wN, ↓wCs, ↓wTup, ↓wLst, ↓wDic0, ↓wDicT, ↓aN, ↓aC, ↓aW, ↓wCall_eq, ↓wCallK_eq, perm, List.filterMap_cons, List.filterMap_nil, ↓wApp, ↓wExt, ↓wPop, ↓wPopAt, ↓wListA, ↓wRpl, ↓iX, ↓iL, ↓iT, ↓iS, ↓iR1, ↓iR2, ↓iR3, ↓iScr, ↓iZD, ↓iE, ↓iE2, ↓iZ2, ↓iZ3, ↓seqD, ↓zipD3, ↓wComp_eq, ↓ttY, ↓wSl, ↓wPart, ↓plN, ↓wRev, ↓wListO, ↓wRep, ↓wLenSet, ↓wLenScr, ↓wWelI, ↓wWelPop, ↓wWelApp, ↓tWelNE, ↓wDisp, ↓wDispT, ↓psC, ↓psN, ↓wDIn, ↓wDNotIn, ↓wDG1, ↓wDG2, ↓wIsi, ↓askD, ↓uTry, ↓uRng, ↓iRV, ↓uRaise, ↓uRaise0, ↓uNever, ↓wCallX_eq, ↓wCallKX_eq, ↓wXf, ↓wIsX, ↓fAdd, ↓fSub, ↓fII, ↓fII0, ↓fDiv, ↓fMod, ↓fPow, ↓fLt, ↓fGt, ↓fLe, ↓fGe, ↓fGtD, ↓fLtD, ↓fLeD, ↓fGeD, ↓fNeg, ↓fMul, ↓fEq, ↓fNe, ↓eqQ, ↓fIsN, ↓fNotN, isNone_1, isNone_2, isNone_3, isNone_4, isNone_5, isNone_6, isNone_7, ↓fInC, ↓fNotInC, ↓fSub_, ↓fIx, ↓fSl, ↓fLen, ↓fTuple, ↓fMin1, ↓fMax1, ↓fSum, ↓fAll, ↓fAny, ↓fSorted, ↓fSortS, ↓fAbs, ↓fInt, ↓fRepr, ↓fCnt, ↓fIdx, ↓fJoin, ↓mSS, ↓mSB, ↓mTI, ↓mTB, ↓mTI3, ↓fInL, ↓fNinL, ↓fInT, ↓fNinT, ↓fInA, ↓fNinA, ↓fInB, ↓fNinB, isStr,
 atI_0, atI_1, atI_2, atI_3, endsG, fld_TooMany, fld_Unfit, mem0, toEnt, Mem.set, Mem.view, Mem.kill, Mem.frz, Mem.ro, Ent.ro', Opd.get,
 List.set_cons_zero, List.set_cons_succ, List.getElem?_cons_zero, List.getElem?_cons_succ, List.map_cons, List.map_nil, List.length_cons, List.length_nil, List.cons_append, List.nil_append, List.replicate_succ, List.replicate_zero, Option.map_some, Option.map_none, List.cons.injEq, and_true, true_and, Arg.x.injEq, exists_eq_left, exists_eq_right, Option.some.injEq, Ent.ow.injEq, Ent.im.injEq, PyData.int.injEq, PyData.list.injEq, PyData.dict.injEq, PyData.tuple.injEq, PyData.str.injEq, exists_eq', exists_eq, decide_eq_true_eq, Bool.not_eq_true', ite_true, ite_false, decide_true, decide_false, decide_eq_false_iff_not, not_true_eq_false, not_false_eq_true, reduceCtorEq, eq_self, List.length_map]
  refine ite_i (fun c1 => ite_i (fun c2 => ?_) (fun c2 => law_l13 ok1 k1 k4 o2 o8 hL hA hn)) (fun c1 => law_l13 ok1 k1 k4 o2 o8 hL hA hn)
  refine grown_i (by have := hA L (Nat.le_refl _); omega) (fun v hv => by have := (frees_ok k o L v hv).2; omega) o2 (by omega) ?_
  simp -dsimp only [↓uSeq, ↓uNext, ↓uKill, ↓uFrz, ↓uDrop, ↓uRet, ↓uIf, ↓uAsg, ↓uAsgO, ↓uPar2, ↓uPar3, ↓uAug, ↓uPut, ↓uDPut, ↓uFor_eq, ↓uWhile_eq, ↓uSeqM_eq, ↓uBrk, ↓uCnt, ↓uWelD, ↓gSet, ↓gN, ↓gC, ↓gT, ↓zE, ↓zF, ↓oE, ↓oV, ↓wV, ↓wC, ↓wOp, ↓wUn, ↓app2, ↓app1, ↓wTst, ↓tAndD, ↓tOrD, ↓tNotD, ↓wAndV, ↓wOrV, ↓wNotV, ↓wIf, ↓wChain, ↓osN, ↓osC, getAll, ↓appN, ↓wCB, ↓appM, ↓wBM, ↓wBM0, ↓wN, ↓wCs, ↓wTup, ↓wLst, ↓wDic0, ↓wDicT, ↓aN, ↓aC, ↓aW, ↓wCall_eq, ↓wCallK_eq, perm, List.filterMap_cons, List.filterMap_nil, ↓wApp, ↓wExt, ↓wPop, ↓wPopAt, ↓wListA, ↓wRpl, ↓iX, ↓iL, ↓iT, ↓iS, ↓iR1, ↓iR2, ↓iR3, ↓iScr, ↓iZD, ↓iE, ↓iE2, ↓iZ2, ↓iZ3, ↓seqD, ↓zipD3, ↓wComp_eq, ↓ttY, ↓wSl, ↓wPart, ↓plN, ↓wRev, ↓wListO, ↓wRep, ↓wLenSet, ↓wLenScr, ↓wWelI, ↓wWelPop, ↓wWelApp, ↓tWelNE, ↓wDisp, ↓wDispT, ↓psC, ↓psN, ↓wDIn, ↓wDNotIn, ↓wDG1, ↓wDG2, ↓wIsi, ↓askD, ↓uTry, ↓uRng, ↓iRV, ↓uRaise, ↓uRaise0, ↓uNever, ↓wCallX_eq, ↓wCallKX_eq, ↓wXf, ↓wIsX, ↓fAdd, ↓fSub, ↓fII, ↓fII0, ↓fDiv, ↓fMod, ↓fPow, ↓fLt, ↓fGt, ↓fLe, ↓fGe, ↓fGtD, ↓fLtD, ↓fLeD, ↓fGeD, ↓fNeg, ↓fMul, ↓fEq, ↓fNe, ↓eqQ, ↓fIsN, ↓fNotN, isNone_1, isNone_2, isNone_3, isNone_4, isNone_5, isNone_6, isNone_7, ↓fInC, ↓fNotInC, ↓fSub_, ↓fIx, ↓fSl, ↓fLen, ↓fTuple, ↓fMin1, ↓fMax1, ↓fSum, ↓fAll, ↓fAny, ↓fSorted, ↓fSortS, ↓fAbs, ↓fInt, ↓fRepr, ↓fCnt, ↓fIdx, ↓fJoin, ↓mSS, ↓mSB, ↓mTI, ↓mTB, ↓mTI3, ↓fInL, ↓fNinL, ↓fInT, ↓fNinT, ↓fInA, ↓fNinA, ↓fInB, ↓fNinB, isStr,
 atI_0, atI_1, atI_2, atI_3, endsG, fld_TooMany, fld_Unfit, mem0, toEnt, Mem.set, Mem.view, Mem.kill, Mem.frz, Mem.ro, Ent.ro', Opd.get,
 List.set_cons_zero, List.set_cons_succ, List.getElem?_cons_zero, List.getElem?_cons_succ, List.map_cons, List.map_nil, List.length_cons, List.length_nil, List.cons_append, List.nil_append, List.replicate_succ, List.replicate_zero, Option.map_some, Option.map_none, List.cons.injEq, and_true, true_and, Arg.x.injEq, exists_eq_left, exists_eq_right, Option.some.injEq, Ent.ow.injEq, Ent.im.injEq, PyData.int.injEq, PyData.list.injEq, PyData.dict.injEq, PyData.tuple.injEq, PyData.str.injEq, exists_eq', exists_eq, decide_eq_true_eq, Bool.not_eq_true', ite_true, ite_false, decide_true, decide_false, decide_eq_false_iff_not, not_true_eq_false, not_false_eq_true, reduceCtorEq, eq_self]
  refine ⟨11 - (L + 1), by omega, L + 1, rfl, by omega, by omega, fun i hi => ?_, ?_⟩
  · by_cases e : i < L
    · exact h130 i e
    · have e : i = L := by omega
      subst e
      omega
  · rfl
theorem pf_law (w : Wel) (ok : WelOk w) : u_law noX { nx := fun _ => False, rt := fun d _ => d = .bool true } ⟨(List.replicate 16 none).set 1 (some .wel), some w⟩ := by
  simp -dsimp only [↓u_law_1_x, ↓u_law_2_x, ↓u_law_3_x, ↓u_law_4_x, ↓u_law_5_x, ↓u_law_6_x, ↓u_law_7_x, ↓u_law_8_x, ↓u_law_9_x, ↓u_law_10_x, ↓u_law_11_x, ↓u_law_12_x, ↓u_law_13_x, ↓u_law_14_x, ↓u_law_15_x, ↓u_law_16_x, ↓u_law_17_x, ↓u_law_18_x, ↓u_law_19_x, ↓u_law_20_x, ↓u_law_21_x, ↓u_law_22_x, ↓u_law_23_x, ↓u_law_24_x, u_law, ↓uSeq, ↓uNext, ↓uKill, ↓uFrz, ↓uDrop, ↓uRet, ↓uIf, ↓uAsg, ↓uAsgO, ↓uPar2, ↓uPar3, ↓uAug, ↓uPut, ↓uDPut, ↓uFor_eq, ↓uWhile_eq, ↓uSeqM_eq, ↓uBrk, ↓uCnt, ↓uWelD, ↓gSet, ↓gN, ↓gC, ↓gT, ↓zE, ↓zF, ↓oE, ↓oV, ↓wV, ↓wC, ↓wOp, ↓wUn, ↓app2, ↓app1, ↓wTst, ↓tAndD, ↓tOrD, ↓tNotD, ↓wAndV, ↓wOrV, ↓wNotV, ↓wIf, ↓wChain, ↓osN, ↓osC, getAll, ↓appN, ↓wCB, ↓appM, ↓wBM, ↓wBM0, ↓wN, ↓wCs, ↓wTup, ↓wLst, ↓wDic0, ↓wDicT, ↓aN, ↓aC, ↓aW, ↓wCall_eq, ↓wCallK_eq, perm, List.filterMap_cons, List.filterMap_nil, ↓wApp, ↓wExt, ↓wPop, ↓wPopAt, ↓wListA, ↓wRpl, ↓iX, ↓iL, ↓iT, ↓iS, ↓iR1, ↓iR2, ↓iR3, ↓iScr, ↓iZD, ↓iE, ↓iE2, ↓iZ2, ↓iZ3, ↓seqD, ↓zipD3, ↓wComp_eq, ↓ttY, ↓wSl, ↓wPart, ↓plN, ↓wRev, ↓wListO, ↓wRep, ↓wLenSet, ↓wLenScr, ↓wWelI, ↓wWelPop, ↓wWelApp, ↓tWelNE, ↓wDisp, ↓wDispT, ↓psC, ↓psN, ↓wDIn, ↓wDNotIn, ↓wDG1, ↓wDG2, ↓wIsi, ↓askD, ↓uTry, ↓uRng, ↓iRV, ↓uRaise, ↓uRaise0, ↓uNever, ↓wCallX_eq, ↓wCallKX_eq, ↓wXf, ↓wIsX, ↓fAdd, ↓fSub, ↓fII, ↓fII0, ↓fDiv, ↓fMod, ↓fPow, ↓fLt, ↓fGt, ↓fLe, ↓fGe, ↓fGtD, ↓fLtD, ↓fLeD, ↓fGeD, ↓fNeg, ↓fMul, ↓fEq, ↓fNe, ↓eqQ, ↓fIsN, ↓fNotN, isNone_1, isNone_2, isNone_3, isNone_4, isNone_5, isNone_6, isNone_7, ↓fInC, ↓fNotInC, ↓fSub_, ↓fIx, ↓fSl, ↓fLen, ↓fTuple, ↓fMin1, ↓fMax1, ↓fSum, ↓fAll, ↓fAny, ↓fSorted, ↓fSortS, ↓fAbs, ↓fInt, ↓fRepr, ↓fCnt, ↓fIdx, ↓fJoin, ↓mSS, ↓mSB, ↓mTI, ↓mTB, ↓mTI3, ↓fInL, ↓fNinL, ↓fInT, ↓fNinT, ↓fInA, ↓fNinA, ↓fInB, ↓fNinB, isStr,
 atI_0, atI_1, atI_2, atI_3, endsG, fld_TooMany, fld_Unfit, mem0, toEnt, Mem.set, Mem.view, Mem.kill, Mem.frz, Mem.ro, Ent.ro', Opd.get,
 List.set_cons_zero, List.set_cons_succ, List.getElem?_cons_zero, List.getElem?_cons_succ, List.map_cons, List.map_nil, List.length_cons, List.length_nil, List.cons_append, List.nil_append, List.replicate_succ, List.replicate_zero, Option.map_some, Option.map_none, List.cons.injEq, and_true, true_and, Arg.x.injEq, exists_eq_left, exists_eq_right, Option.some.injEq, Ent.ow.injEq, Ent.im.injEq, PyData.int.injEq, PyData.list.injEq, PyData.dict.injEq, PyData.tuple.injEq, PyData.str.injEq, exists_eq', exists_eq, decide_eq_true_eq, Bool.not_eq_true', ite_true, ite_false, decide_true, decide_false, decide_eq_false_iff_not, not_true_eq_false, not_false_eq_true, reduceCtorEq, eq_self]
  refine ⟨⟨by decide, by decide⟩, ?_⟩
  refine for_i (fun i M => ∃ w : Wel, WelOk w ∧ ∃ e2 e3 e4 e5 e6 e7 e8 e9 e10 e11 e12 e13 e14 e15 : Option Ent, M = ⟨[none, some .wel, e2, e3, e4, e5, e6, e7, e8, e9, e10, e11, e12, e13, e14, e15], some w⟩) ⟨w, ok, none, none, none, none, none, none, none, none, none, none, none, none, none, none, rfl⟩ ?_ ?_
  · rintro t d M' hd ⟨w, ok, e2, e3, e4, e5, e6, e7, e8, e9, e10, e11, e12, e13, e14, e15, rfl⟩
    obtain ⟨ht, rfl⟩ := rng_at hd
    simp -dsimp only [↓u_law_1_x, ↓u_law_2_x, ↓u_law_3_x, ↓u_law_4_x, ↓u_law_5_x, ↓u_law_6_x, ↓u_law_7_x, ↓u_law_8_x, ↓u_law_9_x, ↓u_law_10_x, ↓u_law_11_x, ↓u_law_12_x, ↓u_law_13_x, ↓u_law_14_x, ↓u_law_15_x, ↓u_law_16_x, ↓u_law_17_x, ↓u_law_18_x, ↓u_law_19_x, ↓u_law_20_x, ↓u_law_21_x, ↓u_law_22_x, ↓u_law_23_x, ↓u_law_24_x, u_law, ↓uSeq, ↓uNext, ↓uKill, ↓uFrz, ↓uDrop, ↓uRet, ↓uIf, ↓uAsg, ↓uAsgO, ↓uPar2, ↓uPar3, ↓uAug, ↓uPut, ↓uDPut, ↓uFor_eq, ↓uWhile_eq, ↓uSeqM_eq, ↓uBrk, ↓uCnt, ↓uWelD, ↓gSet, ↓gN, ↓gC, ↓gT, ↓zE, ↓zF, ↓oE, ↓oV, ↓wV, ↓wC, ↓wOp, ↓wUn, ↓app2, ↓app1, ↓wTst, ↓tAndD, ↓tOrD, ↓tNotD, ↓wAndV, ↓wOrV, ↓wNotV, ↓wIf, ↓wChain, ↓osN, ↓osC, getAll, ↓appN, ↓wCB, ↓appM, ↓wBM, ↓wBM0, ↓wN, ↓wCs, ↓wTup, ↓wLst, ↓wDic0, ↓wDicT, ↓aN, ↓aC, ↓aW, ↓wCall_eq, ↓wCallK_eq, perm, List.filterMap_cons, List.filterMap_nil, ↓wApp, ↓wExt, ↓wPop, ↓wPopAt, ↓wListA, ↓wRpl, ↓iX, ↓iL, ↓iT, ↓iS, ↓iR1, ↓iR2, ↓iR3, ↓iScr, ↓iZD, ↓iE, ↓iE2, ↓iZ2, ↓iZ3, ↓seqD, ↓zipD3, ↓wComp_eq, ↓ttY, ↓wSl, ↓wPart, ↓plN, ↓wRev, ↓wListO, ↓wRep, ↓wLenSet, ↓wLenScr, ↓wWelI, ↓wWelPop, ↓wWelApp, ↓tWelNE, ↓wDisp, ↓wDispT, ↓psC, ↓psN, ↓wDIn, ↓wDNotIn, ↓wDG1, ↓wDG2, ↓wIsi, ↓askD, ↓uTry, ↓uRng, ↓iRV, ↓uRaise, ↓uRaise0, ↓uNever, ↓wCallX_eq, ↓wCallKX_eq, ↓wXf, ↓wIsX, ↓fAdd, ↓fSub, ↓fII, ↓fII0, ↓fDiv, ↓fMod, ↓fPow, ↓fLt, ↓fGt, ↓fLe, ↓fGe, ↓fGtD, ↓fLtD, ↓fLeD, ↓fGeD, ↓fNeg, ↓fMul, ↓fEq, ↓fNe, ↓eqQ, ↓fIsN, ↓fNotN, isNone_1, isNone_2, isNone_3, isNone_4, isNone_5, isNone_6, isNone_7, ↓fInC, ↓fNotInC, ↓fSub_, ↓fIx, ↓fSl, ↓fLen, ↓fTuple, ↓fMin1, ↓fMax1, ↓fSum, ↓fAll, ↓fAny, ↓fSorted, ↓fSortS, ↓fAbs, ↓fInt, ↓fRepr, ↓fCnt, ↓fIdx, ↓fJoin, ↓mSS, ↓mSB, ↓mTI, ↓mTB, ↓mTI3, ↓fInL, ↓fNinL, ↓fInT, ↓fNinT, ↓fInA, ↓fNinA, ↓fInB, ↓fNinB, isStr,
 atI_0, atI_1, atI_2, atI_3, endsG, fld_TooMany, fld_Unfit, mem0, toEnt, Mem.set, Mem.view, Mem.kill, Mem.frz, Mem.ro, Ent.ro', Opd.get,
 List.set_cons_zero, List.set_cons_succ, List.getElem?_cons_zero, List.getElem?_cons_succ, List.map_cons, List.map_nil, List.length_cons, List.length_nil, List.cons_append, List.nil_append, List.replicate_succ, List.replicate_zero, Option.map_some, Option.map_none, List.cons.injEq, and_true, true_and, Arg.x.injEq, exists_eq_left, exists_eq_right, Option.some.injEq, Ent.ow.injEq, Ent.im.injEq, PyData.int.injEq, PyData.list.injEq, PyData.dict.injEq, PyData.tuple.injEq, PyData.str.injEq, exists_eq', exists_eq, decide_eq_true_eq, Bool.not_eq_true', ite_true, ite_false, decide_true, decide_false, decide_eq_false_iff_not, not_true_eq_false, not_false_eq_true, reduceCtorEq, eq_self]
    refine dip_i ok (by decide) fun r w1 hr0 hr1 ok1 => ?_
    obtain ⟨o1, eo1, ho1, ho1'⟩ : ∃ o1 : Nat, 2 + r = (o1 : Nat) ∧ 2 ≤ o1 ∧ o1 ≤ 8 := ⟨(2 + r).toNat, by omega, by omega, by omega⟩
    simp -dsimp only [↓u_law_1_x, ↓u_law_2_x, ↓u_law_3_x, ↓u_law_4_x, ↓u_law_5_x, ↓u_law_6_x, ↓u_law_7_x, ↓u_law_8_x, ↓u_law_9_x, ↓u_law_10_x, ↓u_law_11_x, ↓u_law_12_x, ↓u_law_13_x, ↓u_law_14_x, ↓u_law_15_x, ↓u_law_16_x, ↓u_law_17_x, ↓u_law_18_x, ↓u_law_19_x, ↓u_law_20_x, ↓u_law_21_x, ↓u_law_22_x, ↓u_law_23_x, ↓u_law_24_x, u_law, ↓uSeq, ↓uNext, ↓uKill, ↓uFrz, ↓uDrop, ↓uRet, ↓uIf, ↓uAsg, ↓uAsgO, ↓uPar2, ↓uPar3, ↓uAug, ↓uPut, ↓uDPut, ↓uFor_eq, ↓uWhile_eq, ↓uSeqM_eq, ↓uBrk, ↓uCnt, ↓uWelD, ↓gSet, ↓gN, ↓gC, ↓gT, ↓zE, ↓zF, ↓oE, ↓oV, ↓wV, ↓wC, ↓wOp, ↓wUn, ↓app2, ↓app1, ↓wTst, ↓tAndD, ↓tOrD, ↓tNotD, ↓wAndV, ↓wOrV, ↓wNotV, ↓wIf, ↓wChain, ↓osN, ↓osC, getAll, ↓appN, ↓wCB, ↓appM, ↓wBM, ↓wBM0, ↓wN, ↓wCs, ↓wTup, ↓wLst, ↓wDic0, ↓wDicT, ↓aN, ↓aC, ↓aW, ↓wCall_eq, ↓wCallK_eq, perm, List.filterMap_cons, List.filterMap_nil, ↓wApp, ↓wExt, ↓wPop, ↓wPopAt, ↓wListA, ↓wRpl, ↓iX, ↓iL, ↓iT, ↓iS, ↓iR1, ↓iR2, ↓iR3, ↓iScr, ↓iZD, ↓iE, ↓iE2, ↓iZ2, ↓iZ3, ↓seqD, ↓zipD3, ↓wComp_eq, ↓ttY, ↓wSl, ↓wPart, ↓plN, ↓wRev, ↓wListO, ↓wRep, ↓wLenSet, ↓wLenScr, ↓wWelI, ↓wWelPop, ↓wWelApp, ↓tWelNE, ↓wDisp, ↓wDispT, ↓psC, ↓psN, ↓wDIn, ↓wDNotIn, ↓wDG1, ↓wDG2, ↓wIsi, ↓askD, ↓uTry, ↓uRng, ↓iRV, ↓uRaise, ↓uRaise0, ↓uNever, ↓wCallX_eq, ↓wCallKX_eq, ↓wXf, ↓wIsX, ↓fAdd, ↓fSub, ↓fII, ↓fII0, ↓fDiv, ↓fMod, ↓fPow, ↓fLt, ↓fGt, ↓fLe, ↓fGe, ↓fGtD, ↓fLtD, ↓fLeD, ↓fGeD, ↓fNeg, ↓fMul, ↓fEq, ↓fNe, ↓eqQ, ↓fIsN, ↓fNotN, isNone_1, isNone_2, isNone_3, isNone_4, isNone_5, isNone_6, isNone_7, ↓fInC, ↓fNotInC, ↓fSub_, ↓fIx, ↓fSl, ↓fLen, ↓fTuple, ↓fMin1, ↓fMax1, ↓fSum, ↓fAll, ↓fAny, ↓fSorted, ↓fSortS, ↓fAbs, ↓fInt, ↓fRepr, ↓fCnt, ↓fIdx, ↓fJoin, ↓mSS, ↓mSB, ↓mTI, ↓mTB, ↓mTI3, ↓fInL, ↓fNinL, ↓fInT, ↓fNinT, ↓fInA, ↓fNinA, ↓fInB, ↓fNinB, isStr,
 atI_0, atI_1, atI_2, atI_3, endsG, fld_TooMany, fld_Unfit, mem0, toEnt, Mem.set, Mem.view, Mem.kill, Mem.frz, Mem.ro, Ent.ro', Opd.get,
 List.set_cons_zero, List.set_cons_succ, List.getElem?_cons_zero, List.getElem?_cons_succ, List.map_cons, List.map_nil, List.length_cons, List.length_nil, List.cons_append, List.nil_append, List.replicate_succ, List.replicate_zero, Option.map_some, Option.map_none, List.cons.injEq, and_true, true_and, Arg.x.injEq, exists_eq_left, exists_eq_right, Option.some.injEq, Ent.ow.injEq, Ent.im.injEq, PyData.int.injEq, PyData.list.injEq, PyData.dict.injEq, PyData.tuple.injEq, PyData.str.injEq, exists_eq', exists_eq, decide_eq_true_eq, Bool.not_eq_true', ite_true, ite_false, decide_true, decide_false, decide_eq_false_iff_not, not_true_eq_false, not_false_eq_true, reduceCtorEq, eq_self, eo1]
    refine ⟨by decide, by decide, by decide, by decide, by decide, by decide, by decide, by decide, by decide, take_j ok1 (by simp) (by simp) fun x w2 hx ok2 => ?_⟩
    obtain ⟨k, o, rfl, k1, k4, o2, o8⟩ : ∃ k o : Nat, x = .tuple [.int (k : Nat), .int (o : Nat)] ∧ 1 ≤ k ∧ k ≤ 4 ∧ 2 ≤ o ∧ o ≤ 8 := by
      simp only [List.mem_cons, List.not_mem_nil, or_false] at hx
      rcases hx with rfl | rfl | rfl | rfl | rfl | rfl | rfl | rfl
      · exact ⟨1, o1, rfl, by decide, by decide, ho1, ho1'⟩
      · exact ⟨2, 2, rfl, by decide, by decide, by decide, by decide⟩
      · exact ⟨2, 3, rfl, by decide, by decide, by decide, by decide⟩
      · exact ⟨3, 2, rfl, by decide, by decide, by decide, by decide⟩
      · exact ⟨2, 4, rfl, by decide, by decide, by decide, by decide⟩
      · exact ⟨3, 3, rfl, by decide, by decide, by decide, by decide⟩
      · exact ⟨4, 2, rfl, by decide, by decide, by decide, by decide⟩
      · exact ⟨4, 3, rfl, by decide, by decide, by decide, by decide⟩
    simp -dsimp only [↓u_law_1_x, ↓u_law_2_x, ↓u_law_3_x, ↓u_law_4_x, ↓u_law_5_x, ↓u_law_6_x, ↓u_law_7_x, ↓u_law_8_x, ↓u_law_9_x, ↓u_law_10_x, ↓u_law_11_x, ↓u_law_12_x, ↓u_law_13_x, ↓u_law_14_x, ↓u_law_15_x, ↓u_law_16_x, ↓u_law_17_x, ↓u_law_18_x, ↓u_law_19_x, ↓u_law_20_x, ↓u_law_21_x, ↓u_law_22_x, ↓u_law_23_x, ↓u_law_24_x, u_law, ↓uSeq, ↓uNext, ↓uKill, ↓uFrz, ↓uDrop, ↓uRet, ↓uIf, ↓uAsg, ↓uAsgO, ↓uPar2, ↓uPar3, ↓uAug, ↓uPut, ↓uDPut, ↓uFor_eq, ↓uWhile_eq, ↓uSeqM_eq, ↓uBrk, ↓uCnt, ↓uWelD, ↓gSet, ↓gN, ↓gC, ↓gT, ↓zE, ↓zF, ↓oE, ↓oV, ↓wV, ↓wC, ↓wOp, ↓wUn, ↓app2, ↓app1, ↓wTst, ↓tAndD, ↓tOrD, ↓tNotD, ↓wAndV, ↓wOrV, ↓wNotV, ↓wIf, ↓wChain, ↓osN, ↓osC, getAll, ↓appN, ↓wCB, ↓appM, ↓wBM, ↓wBM0, ↓wN, ↓wCs, ↓wTup, ↓wLst, ↓wDic0, ↓wDicT, ↓aN, ↓aC, ↓aW, ↓wCall_eq, ↓wCallK_eq, perm, List.filterMap_cons, List.filterMap_nil, ↓wApp, ↓wExt, ↓wPop, ↓wPopAt, ↓wListA, ↓wRpl, ↓iX, ↓iL, ↓iT, ↓iS, ↓iR1, ↓iR2, ↓iR3, ↓iScr, ↓iZD, ↓iE, ↓iE2, ↓iZ2, ↓iZ3, ↓seqD, ↓zipD3, ↓wComp_eq, ↓ttY, ↓wSl, ↓wPart, ↓plN, ↓wRev, ↓wListO, ↓wRep, ↓wLenSet, ↓wLenScr, ↓wWelI, ↓wWelPop, ↓wWelApp, ↓tWelNE, ↓wDisp, ↓wDispT, ↓psC, ↓psN, ↓wDIn, ↓wDNotIn, ↓wDG1, ↓wDG2, ↓wIsi, ↓askD, ↓uTry, ↓uRng, ↓iRV, ↓uRaise, ↓uRaise0, ↓uNever, ↓wCallX_eq, ↓wCallKX_eq, ↓wXf, ↓wIsX, ↓fAdd, ↓fSub, ↓fII, ↓fII0, ↓fDiv, ↓fMod, ↓fPow, ↓fLt, ↓fGt, ↓fLe, ↓fGe, ↓fGtD, ↓fLtD, ↓fLeD, ↓fGeD, ↓fNeg, ↓fMul, ↓fEq, ↓fNe, ↓eqQ, ↓fIsN, ↓fNotN, isNone_1, isNone_2, isNone_3, isNone_4, isNone_5, isNone_6, isNone_7, ↓fInC, ↓fNotInC, ↓fSub_, ↓fIx, ↓fSl, ↓fLen, ↓fTuple, ↓fMin1, ↓fMax1, ↓fSum, ↓fAll, ↓fAny, ↓fSorted, ↓fSortS, ↓fAbs, ↓fInt, ↓fRepr, ↓fCnt, ↓fIdx, ↓fJoin, ↓mSS, ↓mSB, ↓mTI, ↓mTB, ↓mTI3, ↓fInL, ↓fNinL, ↓fInT, ↓fNinT, ↓fInA, ↓fNinA, ↓fInB, ↓fNinB, isStr,
 atI_0, atI_1, atI_2, atI_3, endsG, fld_TooMany, fld_Unfit, mem0, toEnt, Mem.set, Mem.view, Mem.kill, Mem.frz, Mem.ro, Ent.ro', Opd.get,
 List.set_cons_zero, List.set_cons_succ, List.getElem?_cons_zero, List.getElem?_cons_succ, List.map_cons, List.map_nil, List.length_cons, List.length_nil, List.cons_append, List.nil_append, List.replicate_succ, List.replicate_zero, Option.map_some, Option.map_none, List.cons.injEq, and_true, true_and, Arg.x.injEq, exists_eq_left, exists_eq_right, Option.some.injEq, Ent.ow.injEq, Ent.im.injEq, PyData.int.injEq, PyData.list.injEq, PyData.dict.injEq, PyData.tuple.injEq, PyData.str.injEq, exists_eq', exists_eq, decide_eq_true_eq, Bool.not_eq_true', ite_true, ite_false, decide_true, decide_false, decide_eq_false_iff_not, not_true_eq_false, not_false_eq_true, reduceCtorEq, eq_self]
    refine llng_i (by omega) (by omega) (by omega) ?_
    simp -dsimp only [↓u_law_1_x, ↓u_law_2_x, ↓u_law_3_x, ↓u_law_4_x, ↓u_law_5_x, ↓u_law_6_x, ↓u_law_7_x, ↓u_law_8_x, ↓u_law_9_x, ↓u_law_10_x, ↓u_law_11_x, ↓u_law_12_x, ↓u_law_13_x, ↓u_law_14_x, ↓u_law_15_x, ↓u_law_16_x, ↓u_law_17_x, ↓u_law_18_x, ↓u_law_19_x, ↓u_law_20_x, ↓u_law_21_x, ↓u_law_22_x, ↓u_law_23_x, ↓u_law_24_x, u_law, ↓uSeq, ↓uNext, ↓uKill, ↓uFrz, ↓uDrop, ↓uRet, ↓uIf, ↓uAsg, ↓uAsgO, ↓uPar2, ↓uPar3, ↓uAug, ↓uPut, ↓uDPut, ↓uFor_eq, ↓uWhile_eq, ↓uSeqM_eq, ↓uBrk, ↓uCnt, ↓uWelD, ↓gSet, ↓gN, ↓gC, ↓gT, ↓zE, ↓zF, ↓oE, ↓oV, ↓wV, ↓wC, ↓wOp, ↓wUn, ↓app2, ↓app1, ↓wTst, ↓tAndD, ↓tOrD, ↓tNotD, ↓wAndV, ↓wOrV, ↓wNotV, ↓wIf, ↓wChain, ↓osN, ↓osC, getAll, ↓appN, ↓wCB, ↓appM, ↓wBM, ↓wBM0, ↓wN, ↓wCs, ↓wTup, ↓wLst, ↓wDic0, ↓wDicT, ↓aN, ↓aC, ↓aW, ↓wCall_eq, ↓wCallK_eq, perm, List.filterMap_cons, List.filterMap_nil, ↓wApp, ↓wExt, ↓wPop, ↓wPopAt, ↓wListA, ↓wRpl, ↓iX, ↓iL, ↓iT, ↓iS, ↓iR1, ↓iR2, ↓iR3, ↓iScr, ↓iZD, ↓iE, ↓iE2, ↓iZ2, ↓iZ3, ↓seqD, ↓zipD3, ↓wComp_eq, ↓ttY, ↓wSl, ↓wPart, ↓plN, ↓wRev, ↓wListO, ↓wRep, ↓wLenSet, ↓wLenScr, ↓wWelI, ↓wWelPop, ↓wWelApp, ↓tWelNE, ↓wDisp, ↓wDispT, ↓psC, ↓psN, ↓wDIn, ↓wDNotIn, ↓wDG1, ↓wDG2, ↓wIsi, ↓askD, ↓uTry, ↓uRng, ↓iRV, ↓uRaise, ↓uRaise0, ↓uNever, ↓wCallX_eq, ↓wCallKX_eq, ↓wXf, ↓wIsX, ↓fAdd, ↓fSub, ↓fII, ↓fII0, ↓fDiv, ↓fMod, ↓fPow, ↓fLt, ↓fGt, ↓fLe, ↓fGe, ↓fGtD, ↓fLtD, ↓fLeD, ↓fGeD, ↓fNeg, ↓fMul, ↓fEq, ↓fNe, ↓eqQ, ↓fIsN, ↓fNotN, isNone_1, isNone_2, isNone_3, isNone_4, isNone_5, isNone_6, isNone_7, ↓fInC, ↓fNotInC, ↓fSub_, ↓fIx, ↓fSl, ↓fLen, ↓fTuple, ↓fMin1, ↓fMax1, ↓fSum, ↓fAll, ↓fAny, ↓fSorted, ↓fSortS, ↓fAbs, ↓fInt, ↓fRepr, ↓fCnt, ↓fIdx, ↓fJoin, ↓mSS, ↓mSB, ↓mTI, ↓mTB, ↓mTI3, ↓fInL, ↓fNinL, ↓fInT, ↓fNinT, ↓fInA, ↓fNinA, ↓fInB, ↓fNinB, isStr,
 atI_0, atI_1, atI_2, atI_3, endsG, fld_TooMany, fld_Unfit, mem0, toEnt, Mem.set, Mem.view, Mem.kill, Mem.frz, Mem.ro, Ent.ro', Opd.get,
 List.set_cons_zero, List.set_cons_succ, List.getElem?_cons_zero, List.getElem?_cons_succ, List.map_cons, List.map_nil, List.length_cons, List.length_nil, List.cons_append, List.nil_append, List.replicate_succ, List.replicate_zero, Option.map_some, Option.map_none, List.cons.injEq, and_true, true_and, Arg.x.injEq, exists_eq_left, exists_eq_right, Option.some.injEq, Ent.ow.injEq, Ent.im.injEq, PyData.int.injEq, PyData.list.injEq, PyData.dict.injEq, PyData.tuple.injEq, PyData.str.injEq, exists_eq', exists_eq, decide_eq_true_eq, Bool.not_eq_true', ite_true, ite_false, decide_true, decide_false, decide_eq_false_iff_not, not_true_eq_false, not_false_eq_true, reduceCtorEq, eq_self]
    refine lng_i (by omega) (by omega) (by omega) ?_
    simp -dsimp only [↓u_law_1_x, ↓u_law_2_x, ↓u_law_3_x, ↓u_law_4_x, ↓u_law_5_x, ↓u_law_6_x, ↓u_law_7_x, ↓u_law_8_x, ↓u_law_9_x, ↓u_law_10_x, ↓u_law_11_x, ↓u_law_12_x, ↓u_law_13_x, ↓u_law_14_x, ↓u_law_15_x, ↓u_law_16_x, ↓u_law_17_x, ↓u_law_18_x, ↓u_law_19_x, ↓u_law_20_x, ↓u_law_21_x, ↓u_law_22_x, ↓u_law_23_x, ↓u_law_24_x, u_law, ↓uSeq, ↓uNext, ↓uKill, ↓uFrz, ↓uDrop, ↓uRet, ↓uIf, ↓uAsg, ↓uAsgO, ↓uPar2, ↓uPar3, ↓uAug, ↓uPut, ↓uDPut, ↓uFor_eq, ↓uWhile_eq, ↓uSeqM_eq, ↓uBrk, ↓uCnt, ↓uWelD, ↓gSet, ↓gN, ↓gC, ↓gT, ↓zE, ↓zF, ↓oE, ↓oV, ↓wV, ↓wC, ↓wOp, ↓wUn, ↓app2, ↓app1, ↓wTst, ↓tAndD, ↓tOrD, ↓tNotD, ↓wAndV, ↓wOrV, ↓wNotV, ↓wIf, ↓wChain, ↓osN, ↓osC, getAll, ↓appN, ↓wCB, ↓appM, ↓wBM, ↓wBM0, ↓wN, ↓wCs, ↓wTup, ↓wLst, ↓wDic0, ↓wDicT, ↓aN, ↓aC, ↓aW, ↓wCall_eq, ↓wCallK_eq, perm, List.filterMap_cons, List.filterMap_nil, ↓wApp, ↓wExt, ↓wPop, ↓wPopAt, ↓wListA, ↓wRpl, ↓iX, ↓iL, ↓iT, ↓iS, ↓iR1, ↓iR2, ↓iR3, ↓iScr, ↓iZD, ↓iE, ↓iE2, ↓iZ2, ↓iZ3, ↓seqD, ↓zipD3, ↓wComp_eq, ↓ttY, ↓wSl, ↓wPart, ↓plN, ↓wRev, ↓wListO, ↓wRep, ↓wLenSet, ↓wLenScr, ↓wWelI, ↓wWelPop, ↓wWelApp, ↓tWelNE, ↓wDisp, ↓wDispT, ↓psC, ↓psN, ↓wDIn, ↓wDNotIn, ↓wDG1, ↓wDG2, ↓wIsi, ↓askD, ↓uTry, ↓uRng, ↓iRV, ↓uRaise, ↓uRaise0, ↓uNever, ↓wCallX_eq, ↓wCallKX_eq, ↓wXf, ↓wIsX, ↓fAdd, ↓fSub, ↓fII, ↓fII0, ↓fDiv, ↓fMod, ↓fPow, ↓fLt, ↓fGt, ↓fLe, ↓fGe, ↓fGtD, ↓fLtD, ↓fLeD, ↓fGeD, ↓fNeg, ↓fMul, ↓fEq, ↓fNe, ↓eqQ, ↓fIsN, ↓fNotN, isNone_1, isNone_2, isNone_3, isNone_4, isNone_5, isNone_6, isNone_7, ↓fInC, ↓fNotInC, ↓fSub_, ↓fIx, ↓fSl, ↓fLen, ↓fTuple, ↓fMin1, ↓fMax1, ↓fSum, ↓fAll, ↓fAny, ↓fSorted, ↓fSortS, ↓fAbs, ↓fInt, ↓fRepr, ↓fCnt, ↓fIdx, ↓fJoin, ↓mSS, ↓mSB, ↓mTI, ↓mTB, ↓mTI3, ↓fInL, ↓fNinL, ↓fInT, ↓fNinT, ↓fInA, ↓fNinA, ↓fInB, ↓fNinB, isStr,
 atI_0, atI_1, atI_2, atI_3, endsG, fld_TooMany, fld_Unfit, mem0, toEnt, Mem.set, Mem.view, Mem.kill, Mem.frz, Mem.ro, Ent.ro', Opd.get,
 List.set_cons_zero, List.set_cons_succ, List.getElem?_cons_zero, List.getElem?_cons_succ, List.map_cons, List.map_nil, List.length_cons, List.length_nil, List.cons_append, List.nil_append, List.replicate_succ, List.replicate_zero, Option.map_some, Option.map_none, List.cons.injEq, and_true, true_and, Arg.x.injEq, exists_eq_left, exists_eq_right, Option.some.injEq, Ent.ow.injEq, Ent.im.injEq, PyData.int.injEq, PyData.list.injEq, PyData.dict.injEq, PyData.tuple.injEq, PyData.str.injEq, exists_eq', exists_eq, decide_eq_true_eq, Bool.not_eq_true', ite_true, ite_false, decide_true, decide_false, decide_eq_false_iff_not, not_true_eq_false, not_false_eq_true, reduceCtorEq, eq_self]
    refine lng_i (by omega) (by omega) (by omega) ?_
    simp -dsimp only [↓u_law_1_x, ↓u_law_2_x, ↓u_law_3_x, ↓u_law_4_x, ↓u_law_5_x, ↓u_law_6_x, ↓u_law_7_x, ↓u_law_8_x, ↓u_law_9_x, ↓u_law_10_x, ↓u_law_11_x, ↓u_law_12_x, ↓u_law_13_x, ↓u_law_14_x, ↓u_law_15_x, ↓u_law_16_x, ↓u_law_17_x, ↓u_law_18_x, ↓u_law_19_x, ↓u_law_20_x, ↓u_law_21_x, ↓u_law_22_x, ↓u_law_23_x, ↓u_law_24_x, u_law, ↓uSeq, ↓uNext, ↓uKill, ↓uFrz, ↓uDrop, ↓uRet, ↓uIf, ↓uAsg, ↓uAsgO, ↓uPar2, ↓uPar3, ↓uAug, ↓uPut, ↓uDPut, ↓uFor_eq, ↓uWhile_eq, ↓uSeqM_eq, ↓uBrk, ↓uCnt, ↓uWelD, ↓gSet, ↓gN, ↓gC, ↓gT, ↓zE, ↓zF, ↓oE, ↓oV, ↓wV, ↓wC, ↓wOp, ↓wUn, ↓app2, ↓app1, ↓wTst, ↓tAndD, ↓tOrD, ↓tNotD, ↓wAndV, ↓wOrV, ↓wNotV, ↓wIf, ↓wChain, ↓osN, ↓osC, getAll, ↓appN, ↓wCB, ↓appM, ↓wBM, ↓wBM0, ↓wN, ↓wCs, ↓wTup, ↓wLst, ↓wDic0, ↓wDicT, ↓aN, ↓aC, ↓aW, ↓wCall_eq, ↓wCallK_eq, perm, List.filterMap_cons, List.filterMap_nil, ↓wApp, ↓wExt, ↓wPop, ↓wPopAt, ↓wListA, ↓wRpl, ↓iX, ↓iL, ↓iT, ↓iS, ↓iR1, ↓iR2, ↓iR3, ↓iScr, ↓iZD, ↓iE, ↓iE2, ↓iZ2, ↓iZ3, ↓seqD, ↓zipD3, ↓wComp_eq, ↓ttY, ↓wSl, ↓wPart, ↓plN, ↓wRev, ↓wListO, ↓wRep, ↓wLenSet, ↓wLenScr, ↓wWelI, ↓wWelPop, ↓wWelApp, ↓tWelNE, ↓wDisp, ↓wDispT, ↓psC, ↓psN, ↓wDIn, ↓wDNotIn, ↓wDG1, ↓wDG2, ↓wIsi, ↓askD, ↓uTry, ↓uRng, ↓iRV, ↓uRaise, ↓uRaise0, ↓uNever, ↓wCallX_eq, ↓wCallKX_eq, ↓wXf, ↓wIsX, ↓fAdd, ↓fSub, ↓fII, ↓fII0, ↓fDiv, ↓fMod, ↓fPow, ↓fLt, ↓fGt, ↓fLe, ↓fGe, ↓fGtD, ↓fLtD, ↓fLeD, ↓fGeD, ↓fNeg, ↓fMul, ↓fEq, ↓fNe, ↓eqQ, ↓fIsN, ↓fNotN, isNone_1, isNone_2, isNone_3, isNone_4, isNone_5, isNone_6, isNone_7, ↓fInC, ↓fNotInC, ↓fSub_, ↓fIx, ↓fSl, ↓fLen, ↓fTuple, ↓fMin1, ↓fMax1, ↓fSum, ↓fAll, ↓fAny, ↓fSorted, ↓fSortS, ↓fAbs, ↓fInt, ↓fRepr, ↓fCnt, ↓fIdx, ↓fJoin, ↓mSS, ↓mSB, ↓mTI, ↓mTB, ↓mTI3, ↓fInL, ↓fNinL, ↓fInT, ↓fNinT, ↓fInA, ↓fNinA, ↓fInB, ↓fNinB, isStr,
 atI_0, atI_1, atI_2, atI_3, endsG, fld_TooMany, fld_Unfit, mem0, toEnt, Mem.set, Mem.view, Mem.kill, Mem.frz, Mem.ro, Ent.ro', Opd.get,
 List.set_cons_zero, List.set_cons_succ, List.getElem?_cons_zero, List.getElem?_cons_succ, List.map_cons, List.map_nil, List.length_cons, List.length_nil, List.cons_append, List.nil_append, List.replicate_succ, List.replicate_zero, Option.map_some, Option.map_none, List.cons.injEq, and_true, true_and, Arg.x.injEq, exists_eq_left, exists_eq_right, Option.some.injEq, Ent.ow.injEq, Ent.im.injEq, PyData.int.injEq, PyData.list.injEq, PyData.dict.injEq, PyData.tuple.injEq, PyData.str.injEq, exists_eq', exists_eq, decide_eq_true_eq, Bool.not_eq_true', ite_true, ite_false, decide_true, decide_false, decide_eq_false_iff_not, not_true_eq_false, not_false_eq_true, reduceCtorEq, eq_self]
    have smL : Sm 1 60 (.list [lngD k o, lngD k o]) := (Sm.list (n := 0) (k := 21) (m := 2) (fun x hx => by
      simp only [List.mem_cons, List.not_mem_nil, or_false, or_self] at hx
      subst hx
      exact lngD_sm k o (by omega)) (by simp)).mono (by omega) (by omega)
    refine ⟨by decide, smL.repr (by omega) (by omega), by decide, smL.repr (by omega) (by omega), dip_i ok2 (by decide) fun a w3 ha0 ha1 ok3 => ?_⟩
    simp -dsimp only [↓u_law_1_x, ↓u_law_2_x, ↓u_law_3_x, ↓u_law_4_x, ↓u_law_5_x, ↓u_law_6_x, ↓u_law_7_x, ↓u_law_8_x, ↓u_law_9_x, ↓u_law_10_x, ↓u_law_11_x, ↓u_law_12_x, ↓u_law_13_x, ↓u_law_14_x, ↓u_law_15_x, ↓u_law_16_x, ↓u_law_17_x, ↓u_law_18_x, ↓u_law_19_x, ↓u_law_20_x, ↓u_law_21_x, ↓u_law_22_x, ↓u_law_23_x, ↓u_law_24_x, u_law, ↓uSeq, ↓uNext, ↓uKill, ↓uFrz, ↓uDrop, ↓uRet, ↓uIf, ↓uAsg, ↓uAsgO, ↓uPar2, ↓uPar3, ↓uAug, ↓uPut, ↓uDPut, ↓uFor_eq, ↓uWhile_eq, ↓uSeqM_eq, ↓uBrk, ↓uCnt, ↓uWelD, ↓gSet, ↓gN, ↓gC, ↓gT, ↓zE, ↓zF, ↓oE, ↓oV, ↓wV, ↓wC, ↓wOp, ↓wUn, ↓app2, ↓app1, ↓wTst, ↓tAndD, ↓tOrD, ↓tNotD, ↓wAndV, ↓wOrV, ↓wNotV, ↓wIf, ↓wChain, ↓osN, ↓osC, getAll, ↓appN, ↓wCB, ↓appM, ↓wBM, ↓wBM0, ↓wN, ↓wCs, ↓wTup, ↓wLst, ↓wDic0, ↓wDicT, ↓aN, ↓aC, ↓aW, ↓wCall_eq, ↓wCallK_eq, perm, List.filterMap_cons, List.filterMap_nil, ↓wApp, ↓wExt, ↓wPop, ↓wPopAt, ↓wListA, ↓wRpl, ↓iX, ↓iL, ↓iT, ↓iS, ↓iR1, ↓iR2, ↓iR3, ↓iScr, ↓iZD, ↓iE, ↓iE2, ↓iZ2, ↓iZ3, ↓seqD, ↓zipD3, ↓wComp_eq, ↓ttY, ↓wSl, ↓wPart, ↓plN, ↓wRev, ↓wListO, ↓wRep, ↓wLenSet, ↓wLenScr, ↓wWelI, ↓wWelPop, ↓wWelApp, ↓tWelNE, ↓wDisp, ↓wDispT, ↓psC, ↓psN, ↓wDIn, ↓wDNotIn, ↓wDG1, ↓wDG2, ↓wIsi, ↓askD, ↓uTry, ↓uRng, ↓iRV, ↓uRaise, ↓uRaise0, ↓uNever, ↓wCallX_eq, ↓wCallKX_eq, ↓wXf, ↓wIsX, ↓fAdd, ↓fSub, ↓fII, ↓fII0, ↓fDiv, ↓fMod, ↓fPow, ↓fLt, ↓fGt, ↓fLe, ↓fGe, ↓fGtD, ↓fLtD, ↓fLeD, ↓fGeD, ↓fNeg, ↓fMul, ↓fEq, ↓fNe, ↓eqQ, ↓fIsN, ↓fNotN, isNone_1, isNone_2, isNone_3, isNone_4, isNone_5, isNone_6, isNone_7, ↓fInC, ↓fNotInC, ↓fSub_, ↓fIx, ↓fSl, ↓fLen, ↓fTuple, ↓fMin1, ↓fMax1, ↓fSum, ↓fAll, ↓fAny, ↓fSorted, ↓fSortS, ↓fAbs, ↓fInt, ↓fRepr, ↓fCnt, ↓fIdx, ↓fJoin, ↓mSS, ↓mSB, ↓mTI, ↓mTB, ↓mTI3, ↓fInL, ↓fNinL, ↓fInT, ↓fNinT, ↓fInA, ↓fNinA, ↓fInB, ↓fNinB, isStr,
 atI_0, atI_1, atI_2, atI_3, endsG, fld_TooMany, fld_Unfit, mem0, toEnt, Mem.set, Mem.view, Mem.kill, Mem.frz, Mem.ro, Ent.ro', Opd.get,
 List.set_cons_zero, List.set_cons_succ, List.getElem?_cons_zero, List.getElem?_cons_succ, List.map_cons, List.map_nil, List.length_cons, List.length_nil, List.cons_append, List.nil_append, List.replicate_succ, List.replicate_zero, Option.map_some, Option.map_none, List.cons.injEq, and_true, true_and, Arg.x.injEq, exists_eq_left, exists_eq_right, Option.some.injEq, Ent.ow.injEq, Ent.im.injEq, PyData.int.injEq, PyData.list.injEq, PyData.dict.injEq, PyData.tuple.injEq, PyData.str.injEq, exists_eq', exists_eq, decide_eq_true_eq, Bool.not_eq_true', ite_true, ite_false, decide_true, decide_false, decide_eq_false_iff_not, not_true_eq_false, not_false_eq_true, reduceCtorEq, eq_self]
    refine dip_i ok3 (by decide) fun b w4 hb0 hb1 ok4 => ?_
    obtain ⟨k2, ek2, hk1, hk2⟩ : ∃ k2 : Nat, 1 + a = (k2 : Nat) ∧ 1 ≤ k2 ∧ k2 ≤ 4 := ⟨(1 + a).toNat, by omega, by omega, by omega⟩
    obtain ⟨o3, eo3, ho3, ho4⟩ : ∃ o3 : Nat, 2 + b = (o3 : Nat) ∧ 2 ≤ o3 ∧ o3 ≤ 8 := ⟨(2 + b).toNat, by omega, by omega, by omega⟩
    simp -dsimp only [↓u_law_1_x, ↓u_law_2_x, ↓u_law_3_x, ↓u_law_4_x, ↓u_law_5_x, ↓u_law_6_x, ↓u_law_7_x, ↓u_law_8_x, ↓u_law_9_x, ↓u_law_10_x, ↓u_law_11_x, ↓u_law_12_x, ↓u_law_13_x, ↓u_law_14_x, ↓u_law_15_x, ↓u_law_16_x, ↓u_law_17_x, ↓u_law_18_x, ↓u_law_19_x, ↓u_law_20_x, ↓u_law_21_x, ↓u_law_22_x, ↓u_law_23_x, ↓u_law_24_x, u_law, ↓uSeq, ↓uNext, ↓uKill, ↓uFrz, ↓uDrop, ↓uRet, ↓uIf, ↓uAsg, ↓uAsgO, ↓uPar2, ↓uPar3, ↓uAug, ↓uPut, ↓uDPut, ↓uFor_eq, ↓uWhile_eq, ↓uSeqM_eq, ↓uBrk, ↓uCnt, ↓uWelD, ↓gSet, ↓gN, ↓gC, ↓gT, ↓zE, ↓zF, ↓oE, ↓oV, ↓wV, ↓wC, ↓wOp, ↓wUn, ↓app2, ↓app1, ↓wTst, ↓tAndD, ↓tOrD, ↓tNotD, ↓wAndV, ↓wOrV, ↓wNotV, ↓wIf, ↓wChain, ↓osN, ↓osC, getAll, ↓appN, ↓wCB, ↓appM, ↓wBM, ↓wBM0, ↓wN, ↓wCs, ↓wTup, ↓wLst, ↓wDic0, ↓wDicT, ↓aN, ↓aC, ↓aW, ↓wCall_eq, ↓wCallK_eq, perm, List.filterMap_cons, List.filterMap_nil, ↓wApp, ↓wExt, ↓wPop, ↓wPopAt, ↓wListA, ↓wRpl, ↓iX, ↓iL, ↓iT, ↓iS, ↓iR1, ↓iR2, ↓iR3, ↓iScr, ↓iZD, ↓iE, ↓iE2, ↓iZ2, ↓iZ3, ↓seqD, ↓zipD3, ↓wComp_eq, ↓ttY, ↓wSl, ↓wPart, ↓plN, ↓wRev, ↓wListO, ↓wRep, ↓wLenSet, ↓wLenScr, ↓wWelI, ↓wWelPop, ↓wWelApp, ↓tWelNE, ↓wDisp, ↓wDispT, ↓psC, ↓psN, ↓wDIn, ↓wDNotIn, ↓wDG1, ↓wDG2, ↓wIsi, ↓askD, ↓uTry, ↓uRng, ↓iRV, ↓uRaise, ↓uRaise0, ↓uNever, ↓wCallX_eq, ↓wCallKX_eq, ↓wXf, ↓wIsX, ↓fAdd, ↓fSub, ↓fII, ↓fII0, ↓fDiv, ↓fMod, ↓fPow, ↓fLt, ↓fGt, ↓fLe, ↓fGe, ↓fGtD, ↓fLtD, ↓fLeD, ↓fGeD, ↓fNeg, ↓fMul, ↓fEq, ↓fNe, ↓eqQ, ↓fIsN, ↓fNotN, isNone_1, isNone_2, isNone_3, isNone_4, isNone_5, isNone_6, isNone_7, ↓fInC, ↓fNotInC, ↓fSub_, ↓fIx, ↓fSl, ↓fLen, ↓fTuple, ↓fMin1, ↓fMax1, ↓fSum, ↓fAll, ↓fAny, ↓fSorted, ↓fSortS, ↓fAbs, ↓fInt, ↓fRepr, ↓fCnt, ↓fIdx, ↓fJoin, ↓mSS, ↓mSB, ↓mTI, ↓mTB, ↓mTI3, ↓fInL, ↓fNinL, ↓fInT, ↓fNinT, ↓fInA, ↓fNinA, ↓fInB, ↓fNinB, isStr,
 atI_0, atI_1, atI_2, atI_3, endsG, fld_TooMany, fld_Unfit, mem0, toEnt, Mem.set, Mem.view, Mem.kill, Mem.frz, Mem.ro, Ent.ro', Opd.get,
 List.set_cons_zero, List.set_cons_succ, List.getElem?_cons_zero, List.getElem?_cons_succ, List.map_cons, List.map_nil, List.length_cons, List.length_nil, List.cons_append, List.nil_append, List.replicate_succ, List.replicate_zero, Option.map_some, Option.map_none, List.cons.injEq, and_true, true_and, Arg.x.injEq, exists_eq_left, exists_eq_right, Option.some.injEq, Ent.ow.injEq, Ent.im.injEq, PyData.int.injEq, PyData.list.injEq, PyData.dict.injEq, PyData.tuple.injEq, PyData.str.injEq, exists_eq', exists_eq, decide_eq_true_eq, Bool.not_eq_true', ite_true, ite_false, decide_true, decide_false, decide_eq_false_iff_not, not_true_eq_false, not_false_eq_true, reduceCtorEq, eq_self, ek2, eo3]
    refine ⟨by decide, lng_i (by omega) (by omega) (by omega) ?_⟩
    simp -dsimp only [↓u_law_1_x, ↓u_law_2_x, ↓u_law_3_x, ↓u_law_4_x, ↓u_law_5_x, ↓u_law_6_x, ↓u_law_7_x, ↓u_law_8_x, ↓u_law_9_x, ↓u_law_10_x, ↓u_law_11_x, ↓u_law_12_x, ↓u_law_13_x, ↓u_law_14_x, ↓u_law_15_x, ↓u_law_16_x, ↓u_law_17_x, ↓u_law_18_x, ↓u_law_19_x, ↓u_law_20_x, ↓u_law_21_x, ↓u_law_22_x, ↓u_law_23_x, ↓u_law_24_x, u_law, ↓uSeq, ↓uNext, ↓uKill, ↓uFrz, ↓uDrop, ↓uRet, ↓uIf, ↓uAsg, ↓uAsgO, ↓uPar2, ↓uPar3, ↓uAug, ↓uPut, ↓uDPut, ↓uFor_eq, ↓uWhile_eq, ↓uSeqM_eq, ↓uBrk, ↓uCnt, ↓uWelD, ↓gSet, ↓gN, ↓gC, ↓gT, ↓zE, ↓zF, ↓oE, ↓oV, ↓wV, ↓wC, ↓wOp, ↓wUn, ↓app2, ↓app1, ↓wTst, ↓tAndD, ↓tOrD, ↓tNotD, ↓wAndV, ↓wOrV, ↓wNotV, ↓wIf, ↓wChain, ↓osN, ↓osC, getAll, ↓appN, ↓wCB, ↓appM, ↓wBM, ↓wBM0, ↓wN, ↓wCs, ↓wTup, ↓wLst, ↓wDic0, ↓wDicT, ↓aN, ↓aC, ↓aW, ↓wCall_eq, ↓wCallK_eq, perm, List.filterMap_cons, List.filterMap_nil, ↓wApp, ↓wExt, ↓wPop, ↓wPopAt, ↓wListA, ↓wRpl, ↓iX, ↓iL, ↓iT, ↓iS, ↓iR1, ↓iR2, ↓iR3, ↓iScr, ↓iZD, ↓iE, ↓iE2, ↓iZ2, ↓iZ3, ↓seqD, ↓zipD3, ↓wComp_eq, ↓ttY, ↓wSl, ↓wPart, ↓plN, ↓wRev, ↓wListO, ↓wRep, ↓wLenSet, ↓wLenScr, ↓wWelI, ↓wWelPop, ↓wWelApp, ↓tWelNE, ↓wDisp, ↓wDispT, ↓psC, ↓psN, ↓wDIn, ↓wDNotIn, ↓wDG1, ↓wDG2, ↓wIsi, ↓askD, ↓uTry, ↓uRng, ↓iRV, ↓uRaise, ↓uRaise0, ↓uNever, ↓wCallX_eq, ↓wCallKX_eq, ↓wXf, ↓wIsX, ↓fAdd, ↓fSub, ↓fII, ↓fII0, ↓fDiv, ↓fMod, ↓fPow, ↓fLt, ↓fGt, ↓fLe, ↓fGe, ↓fGtD, ↓fLtD, ↓fLeD, ↓fGeD, ↓fNeg, ↓fMul, ↓fEq, ↓fNe, ↓eqQ, ↓fIsN, ↓fNotN, isNone_1, isNone_2, isNone_3, isNone_4, isNone_5, isNone_6, isNone_7, ↓fInC, ↓fNotInC, ↓fSub_, ↓fIx, ↓fSl, ↓fLen, ↓fTuple, ↓fMin1, ↓fMax1, ↓fSum, ↓fAll, ↓fAny, ↓fSorted, ↓fSortS, ↓fAbs, ↓fInt, ↓fRepr, ↓fCnt, ↓fIdx, ↓fJoin, ↓mSS, ↓mSB, ↓mTI, ↓mTB, ↓mTI3, ↓fInL, ↓fNinL, ↓fInT, ↓fNinT, ↓fInA, ↓fNinA, ↓fInB, ↓fNinB, isStr,
 atI_0, atI_1, atI_2, atI_3, endsG, fld_TooMany, fld_Unfit, mem0, toEnt, Mem.set, Mem.view, Mem.kill, Mem.frz, Mem.ro, Ent.ro', Opd.get,
 List.set_cons_zero, List.set_cons_succ, List.getElem?_cons_zero, List.getElem?_cons_succ, List.map_cons, List.map_nil, List.length_cons, List.length_nil, List.cons_append, List.nil_append, List.replicate_succ, List.replicate_zero, Option.map_some, Option.map_none, List.cons.injEq, and_true, true_and, Arg.x.injEq, exists_eq_left, exists_eq_right, Option.some.injEq, Ent.ow.injEq, Ent.im.injEq, PyData.int.injEq, PyData.list.injEq, PyData.dict.injEq, PyData.tuple.injEq, PyData.str.injEq, exists_eq', exists_eq, decide_eq_true_eq, Bool.not_eq_true', ite_true, ite_false, decide_true, decide_false, decide_eq_false_iff_not, not_true_eq_false, not_false_eq_true, reduceCtorEq, eq_self]
    rw [ek2, eo3]
    refine llng_i (by omega) (by omega) (by omega) ?_
    have nxt := fun w2 (ok2 : WelOk w2) (e2 e3 e4 e5 e6 e7 e8 e9 e10 e11 e12 e13 e14 e15 : Option Ent) => (⟨w2, ok2, e2, e3, e4, e5, e6, e7, e8, e9, e10, e11, e12, e13, e14, e15, rfl⟩ : ∃ w : Wel, WelOk w ∧ ∃ f2 f3 f4 f5 f6 f7 f8 f9 f10 f11 f12 f13 f14 f15 : Option Ent, (⟨[none, some .wel, e2, e3, e4, e5, e6, e7, e8, e9, e10, e11, e12, e13, e14, e15], some w2⟩ : Mem) = ⟨[none, some .wel, f2, f3, f4, f5, f6, f7, f8, f9, f10, f11, f12, f13, f14, f15], some w⟩)
    cases hq : lng k2 o3 with
    | none =>
      have e : lngD k2 o3 = .none := by unfold lngD; rw [hq]
      rw [e]
      simp -dsimp only [↓uSeq, ↓uNext, ↓uKill, ↓uFrz, ↓uDrop, ↓uRet, ↓uIf, ↓uAsg, ↓uAsgO, ↓uPar2, ↓uPar3, ↓uAug, ↓uPut, ↓uDPut, ↓uFor_eq, ↓uWhile_eq, ↓uSeqM_eq, ↓uBrk, ↓uCnt, ↓uWelD, ↓gSet, ↓gN, ↓gC, ↓gT, ↓zE, ↓zF, ↓oE, ↓oV, ↓wV, ↓wC, ↓wOp, ↓wUn, ↓app2, ↓app1, ↓wTst, ↓tAndD, ↓tOrD, ↓tNotD, ↓wAndV, ↓wOrV, ↓wNotV, ↓wIf, ↓wChain, ↓osN, ↓osC, getAll, ↓appN, ↓wCB, ↓appM, ↓wBM, ↓wBM0, ↓wN, ↓wCs, ↓wTup, ↓wLst, ↓wDic0, ↓wDicT, ↓aN, ↓aC, ↓aW, ↓wCall_eq, ↓wCallK_eq, perm, List.filterMap_cons, List.filterMap_nil, ↓wApp, ↓wExt, ↓wPop, ↓wPopAt, ↓wListA, ↓wRpl, ↓iX, ↓iL, ↓iT, ↓iS, ↓iR1, ↓iR2, ↓iR3, ↓iScr, ↓iZD, ↓iE, ↓iE2, ↓iZ2, ↓iZ3, ↓seqD, ↓zipD3, ↓wComp_eq, ↓ttY, ↓wSl, ↓wPart, ↓plN, ↓wRev, ↓wListO, ↓wRep, ↓wLenSet, ↓wLenScr, ↓wWelI, ↓wWelPop, ↓wWelApp, ↓tWelNE, ↓wDisp, ↓wDispT, ↓psC, ↓psN, ↓wDIn, ↓wDNotIn, ↓wDG1, ↓wDG2, ↓wIsi, ↓askD, ↓uTry, ↓uRng, ↓iRV, ↓uRaise, ↓uRaise0, ↓uNever, ↓wCallX_eq, ↓wCallKX_eq, ↓wXf, ↓wIsX, ↓fAdd, ↓fSub, ↓fII, ↓fII0, ↓fDiv, ↓fMod, ↓fPow, ↓fLt, ↓fGt, ↓fLe, ↓fGe, ↓fGtD, ↓fLtD, ↓fLeD, ↓fGeD, ↓fNeg, ↓fMul, ↓fEq, ↓fNe, ↓eqQ, ↓fIsN, ↓fNotN, isNone_1, isNone_2, isNone_3, isNone_4, isNone_5, isNone_6, isNone_7, ↓fInC, ↓fNotInC, ↓fSub_, ↓fIx, ↓fSl, ↓fLen, ↓fTuple, ↓fMin1, ↓fMax1, ↓fSum, ↓fAll, ↓fAny, ↓fSorted, ↓fSortS, ↓fAbs, ↓fInt, ↓fRepr, ↓fCnt, ↓fIdx, ↓fJoin, ↓mSS, ↓mSB, ↓mTI, ↓mTB, ↓mTI3, ↓fInL, ↓fNinL, ↓fInT, ↓fNinT, ↓fInA, ↓fNinA, ↓fInB, ↓fNinB, isStr,
 atI_0, atI_1, atI_2, atI_3, endsG, fld_TooMany, fld_Unfit, mem0, toEnt, Mem.set, Mem.view, Mem.kill, Mem.frz, Mem.ro, Ent.ro', Opd.get,
 List.set_cons_zero, List.set_cons_succ, List.getElem?_cons_zero, List.getElem?_cons_succ, List.map_cons, List.map_nil, List.length_cons, List.length_nil, List.cons_append, List.nil_append, List.replicate_succ, List.replicate_zero, Option.map_some, Option.map_none, List.cons.injEq, and_true, true_and, Arg.x.injEq, exists_eq_left, exists_eq_right, Option.some.injEq, Ent.ow.injEq, Ent.im.injEq, PyData.int.injEq, PyData.list.injEq, PyData.dict.injEq, PyData.tuple.injEq, PyData.str.injEq, exists_eq', exists_eq, decide_eq_true_eq, Bool.not_eq_true', ite_true, ite_false, decide_true, decide_false, decide_eq_false_iff_not, not_true_eq_false, not_false_eq_true, reduceCtorEq, eq_self]
      exact law_tail ok4 k1 k4 o2 o8 nxt
    | some G =>
      have e : lngD k2 o3 = .int (G : Nat) := by unfold lngD; rw [hq]
      rw [e]
      simp -dsimp only [↓uSeq, ↓uNext, ↓uKill, ↓uFrz, ↓uDrop, ↓uRet, ↓uIf, ↓uAsg, ↓uAsgO, ↓uPar2, ↓uPar3, ↓uAug, ↓uPut, ↓uDPut, ↓uFor_eq, ↓uWhile_eq, ↓uSeqM_eq, ↓uBrk, ↓uCnt, ↓uWelD, ↓gSet, ↓gN, ↓gC, ↓gT, ↓zE, ↓zF, ↓oE, ↓oV, ↓wV, ↓wC, ↓wOp, ↓wUn, ↓app2, ↓app1, ↓wTst, ↓tAndD, ↓tOrD, ↓tNotD, ↓wAndV, ↓wOrV, ↓wNotV, ↓wIf, ↓wChain, ↓osN, ↓osC, getAll, ↓appN, ↓wCB, ↓appM, ↓wBM, ↓wBM0, ↓wN, ↓wCs, ↓wTup, ↓wLst, ↓wDic0, ↓wDicT, ↓aN, ↓aC, ↓aW, ↓wCall_eq, ↓wCallK_eq, perm, List.filterMap_cons, List.filterMap_nil, ↓wApp, ↓wExt, ↓wPop, ↓wPopAt, ↓wListA, ↓wRpl, ↓iX, ↓iL, ↓iT, ↓iS, ↓iR1, ↓iR2, ↓iR3, ↓iScr, ↓iZD, ↓iE, ↓iE2, ↓iZ2, ↓iZ3, ↓seqD, ↓zipD3, ↓wComp_eq, ↓ttY, ↓wSl, ↓wPart, ↓plN, ↓wRev, ↓wListO, ↓wRep, ↓wLenSet, ↓wLenScr, ↓wWelI, ↓wWelPop, ↓wWelApp, ↓tWelNE, ↓wDisp, ↓wDispT, ↓psC, ↓psN, ↓wDIn, ↓wDNotIn, ↓wDG1, ↓wDG2, ↓wIsi, ↓askD, ↓uTry, ↓uRng, ↓iRV, ↓uRaise, ↓uRaise0, ↓uNever, ↓wCallX_eq, ↓wCallKX_eq, ↓wXf, ↓wIsX, ↓fAdd, ↓fSub, ↓fII, ↓fII0, ↓fDiv, ↓fMod, ↓fPow, ↓fLt, ↓fGt, ↓fLe, ↓fGe, ↓fGtD, ↓fLtD, ↓fLeD, ↓fGeD, ↓fNeg, ↓fMul, ↓fEq, ↓fNe, ↓eqQ, ↓fIsN, ↓fNotN, isNone_1, isNone_2, isNone_3, isNone_4, isNone_5, isNone_6, isNone_7, ↓fInC, ↓fNotInC, ↓fSub_, ↓fIx, ↓fSl, ↓fLen, ↓fTuple, ↓fMin1, ↓fMax1, ↓fSum, ↓fAll, ↓fAny, ↓fSorted, ↓fSortS, ↓fAbs, ↓fInt, ↓fRepr, ↓fCnt, ↓fIdx, ↓fJoin, ↓mSS, ↓mSB, ↓mTI, ↓mTB, ↓mTI3, ↓fInL, ↓fNinL, ↓fInT, ↓fNinT, ↓fInA, ↓fNinA, ↓fInB, ↓fNinB, isStr,
 atI_0, atI_1, atI_2, atI_3, endsG, fld_TooMany, fld_Unfit, mem0, toEnt, Mem.set, Mem.view, Mem.kill, Mem.frz, Mem.ro, Ent.ro', Opd.get,
 List.set_cons_zero, List.set_cons_succ, List.getElem?_cons_zero, List.getElem?_cons_succ, List.map_cons, List.map_nil, List.length_cons, List.length_nil, List.cons_append, List.nil_append, List.replicate_succ, List.replicate_zero, Option.map_some, Option.map_none, List.cons.injEq, and_true, true_and, Arg.x.injEq, exists_eq_left, exists_eq_right, Option.some.injEq, Ent.ow.injEq, Ent.im.injEq, PyData.int.injEq, PyData.list.injEq, PyData.dict.injEq, PyData.tuple.injEq, PyData.str.injEq, exists_eq', exists_eq, decide_eq_true_eq, Bool.not_eq_true', ite_true, ite_false, decide_true, decide_false, decide_eq_false_iff_not, not_true_eq_false, not_false_eq_true, reduceCtorEq, eq_self]
      exact law_tail ok4 k1 k4 o2 o8 nxt
  · rintro M' ⟨w, ok, e2, e3, e4, e5, e6, e7, e8, e9, e10, e11, e12, e13, e14, e15, rfl⟩
    simp -dsimp only [↓u_law_1_x, ↓u_law_2_x, ↓u_law_3_x, ↓u_law_4_x, ↓u_law_5_x, ↓u_law_6_x, ↓u_law_7_x, ↓u_law_8_x, ↓u_law_9_x, ↓u_law_10_x, ↓u_law_11_x, ↓u_law_12_x, ↓u_law_13_x, ↓u_law_14_x, ↓u_law_15_x, ↓u_law_16_x, ↓u_law_17_x, ↓u_law_18_x, ↓u_law_19_x, ↓u_law_20_x, ↓u_law_21_x, ↓u_law_22_x, ↓u_law_23_x, ↓u_law_24_x, u_law, ↓uSeq, ↓uNext, ↓uKill, ↓uFrz, ↓uDrop, ↓uRet, ↓uIf, ↓uAsg, ↓uAsgO, ↓uPar2, ↓uPar3, ↓uAug, ↓uPut, ↓uDPut, ↓uFor_eq, ↓uWhile_eq, ↓uSeqM_eq, ↓uBrk, ↓uCnt, ↓uWelD, ↓gSet, ↓gN, ↓gC, ↓gT, ↓zE, ↓zF, ↓oE, ↓oV, ↓wV, ↓wC, ↓wOp, ↓wUn, ↓app2, ↓app1, ↓wTst, ↓tAndD, ↓tOrD, ↓tNotD, ↓wAndV, ↓wOrV, ↓wNotV, ↓wIf, ↓wChain, ↓osN, ↓osC, getAll, ↓appN, ↓wCB, ↓appM, ↓wBM, ↓wBM0, ↓wN, ↓wCs, ↓wTup, ↓wLst, ↓wDic0, ↓wDicT, ↓aN, ↓aC, ↓aW, ↓wCall_eq, ↓wCallK_eq, perm, List.filterMap_cons, List.filterMap_nil, ↓wApp, ↓wExt, ↓wPop, ↓wPopAt, ↓wListA, ↓wRpl, ↓iX, ↓iL, ↓iT, ↓iS, ↓iR1, ↓iR2, ↓iR3, ↓iScr, ↓iZD, ↓iE, ↓iE2, ↓iZ2, ↓iZ3, ↓seqD, ↓zipD3, ↓wComp_eq, ↓ttY, ↓wSl, ↓wPart, ↓plN, ↓wRev, ↓wListO, ↓wRep, ↓wLenSet, ↓wLenScr, ↓wWelI, ↓wWelPop, ↓wWelApp, ↓tWelNE, ↓wDisp, ↓wDispT, ↓psC, ↓psN, ↓wDIn, ↓wDNotIn, ↓wDG1, ↓wDG2, ↓wIsi, ↓askD, ↓uTry, ↓uRng, ↓iRV, ↓uRaise, ↓uRaise0, ↓uNever, ↓wCallX_eq, ↓wCallKX_eq, ↓wXf, ↓wIsX, ↓fAdd, ↓fSub, ↓fII, ↓fII0, ↓fDiv, ↓fMod, ↓fPow, ↓fLt, ↓fGt, ↓fLe, ↓fGe, ↓fGtD, ↓fLtD, ↓fLeD, ↓fGeD, ↓fNeg, ↓fMul, ↓fEq, ↓fNe, ↓eqQ, ↓fIsN, ↓fNotN, isNone_1, isNone_2, isNone_3, isNone_4, isNone_5, isNone_6, isNone_7, ↓fInC, ↓fNotInC, ↓fSub_, ↓fIx, ↓fSl, ↓fLen, ↓fTuple, ↓fMin1, ↓fMax1, ↓fSum, ↓fAll, ↓fAny, ↓fSorted, ↓fSortS, ↓fAbs, ↓fInt, ↓fRepr, ↓fCnt, ↓fIdx, ↓fJoin, ↓mSS, ↓mSB, ↓mTI, ↓mTB, ↓mTI3, ↓fInL, ↓fNinL, ↓fInT, ↓fNinT, ↓fInA, ↓fNinA, ↓fInB, ↓fNinB, isStr,
 atI_0, atI_1, atI_2, atI_3, endsG, fld_TooMany, fld_Unfit, mem0, toEnt, Mem.set, Mem.view, Mem.kill, Mem.frz, Mem.ro, Ent.ro', Opd.get,
 List.set_cons_zero, List.set_cons_succ, List.getElem?_cons_zero, List.getElem?_cons_succ, List.map_cons, List.map_nil, List.length_cons, List.length_nil, List.cons_append, List.nil_append, List.replicate_succ, List.replicate_zero, Option.map_some, Option.map_none, List.cons.injEq, and_true, true_and, Arg.x.injEq, exists_eq_left, exists_eq_right, Option.some.injEq, Ent.ow.injEq, Ent.im.injEq, PyData.int.injEq, PyData.list.injEq, PyData.dict.injEq, PyData.tuple.injEq, PyData.str.injEq, exists_eq', exists_eq, decide_eq_true_eq, Bool.not_eq_true', ite_true, ite_false, decide_true, decide_false, decide_eq_false_iff_not, not_true_eq_false, not_false_eq_true, reduceCtorEq, eq_self]
end DL

namespace DL
open PySem PySem.Spec L2 PyProof.Rows
def topS (i : Nat) : Stmt := PySem.Challenge.pw_wordstems_k83_whole_count_free.main.body.getD i (.Pass ⟨0, 0, 0, 0⟩)
section
variable {P : Program} {w : World} {K : PySem.W.Frag} {mg : Str → Option Value} {base : Heap}
def s_counts_of : Stmt := topS 7
abbrev N_counts_of : List Str := ["word", "letter"]
theorem sc_counts_of : FnScope N_counts_of ["word"] (defScope s_counts_of) := ⟨rfl, rfl, rfl, by decide +kernel, rfl, by decide +kernel, by decide +kernel⟩
theorem tm_counts_of (m_tuple : mg "tuple" = none) {v_LETTERS : Value} (mc_LETTERS : mg "LETTERS" = some v_LETTERS) (rc_LETTERS : RelV (.str "abcd") v_LETTERS) (cdv : Value) (A : Around) (outer : List Env) (s : Shared) (H : Hp) (E : XK) (f : Addr) (hr : Room 0 (A.deeper (envOfC "counts_of" (defScope s_counts_of) s.heap.objs.size f cdv))) :
    DSs (cxOf CX0 P w K mg base N_counts_of "counts_of" (defScope s_counts_of) f cdv A outer s H E).nox X0 (defBody s_counts_of) u_counts_of := by
  have hu := hr.units
  have hu5 : (A.deeper (envOfC "counts_of" (defScope s_counts_of) s.heap.objs.size f cdv)).units + 65 < cLine := by have := hr.un; omega
  exact (dSs_1 (dS_ret (dE_ct call_tuple_of dTuple (by rfl) m_tuple boot_tuple (dOs_c (dO_e (DF.toE (dF_cmp [("letter", 1)] rfl sc_counts_of.nd (dI_x (dE_glob (by rfl) mc_LETTERS rc_LETTERS (fun _ => DV.str _))) N_counts_of (defScope s_counts_of) (by decide +kernel) (fun i => (dG_n sc_counts_of.nd rfl (by first | exact .inl rfl | exact .inr rfl))) (fun i => dTs_n) (fun i => (dE_bm PySem.F.plainAttrs_str PySem.F.slot_str_count PySem.F.type_str_count mCnt tyStr dCnt (dO_v 0) (dOs_c (dO_v 1) dOs_n)))))) dOs_n))))
theorem ok_counts_of (R : Raw K mg "counts_of" s_counts_of ["word"]) (m_tuple : mg "tuple" = none) {v_LETTERS : Value} (mc_LETTERS : mg "LETTERS" = some v_LETTERS) (rc_LETTERS : RelV (.str "abcd") v_LETTERS) : Fn P w K mg base "counts_of" s_counts_of ["word"] 1 g_counts_of :=
  R.fn sc_counts_of (by decide) (fun args wl Q h => by first | (obtain ⟨rfl, _⟩ := h; rfl) | (obtain ⟨_, rfl, _⟩ := h; rfl) | (obtain ⟨_, _, rfl, _⟩ := h; rfl) | (obtain ⟨_, _, _, rfl, _⟩ := h; rfl) | (obtain ⟨_, _, _, _, rfl, _⟩ := h; rfl) | (obtain ⟨_, _, _, _, _, rfl, _⟩ := h; rfl) | (obtain ⟨_, _, _, _, _, _, rfl, _⟩ := h; rfl) | (obtain ⟨_, _, _, _, _, _, _, rfl, _⟩ := h; rfl) | (obtain ⟨_, _, _, _, _, _, _, _, rfl, _⟩ := h; rfl)) fun cdv A outer s H E f hr => ⟨u_counts_of, tm_counts_of m_tuple mc_LETTERS rc_LETTERS cdv A outer s H E f hr, pf_counts_of⟩
def s_longest_length : Stmt := topS 14
abbrev N_longest_length : List Str := ["kinds", "order"]
theorem sc_longest_length : FnScope N_longest_length ["kinds", "order"] (defScope s_longest_length) := ⟨rfl, rfl, rfl, by decide +kernel, rfl, by decide +kernel, by decide +kernel⟩
theorem tm_longest_length  (cdv : Value) (A : Around) (outer : List Env) (s : Shared) (H : Hp) (E : XK) (f : Addr) (hr : Room 0 (A.deeper (envOfC "longest_length" (defScope s_longest_length) s.heap.objs.size f cdv))) :
    DSs (cxOf CX0 P w K mg base N_longest_length "longest_length" (defScope s_longest_length) f cdv A outer s H E).nox X0 (defBody s_longest_length) u_longest_length := by
  have hu := hr.units
  have hu5 : (A.deeper (envOfC "longest_length" (defScope s_longest_length) s.heap.objs.size f cdv)).units + 65 < cLine := by have := hr.un; omega
  exact (dSs_c (dS_if (dT_cmp (hEq hu) dEq (dO_v 0) (dO_e dE_int) (nomark _)) (dSs_1 (dS_ret (dE_op op_sub dSub (dO_v 1) (dO_e dE_int)))) dSs_n)
    (dSs_1 (dS_ret (dE_dg1 (hu_of hr) (dO_e (DF.toE (dF_dispT (hu_of hr) (dQ_c (dE_tup (dL_c dE_int (dL_c dE_int dL_n))) dE_int (dQ_c (dE_tup (dL_c dE_int (dL_c dE_int dL_n))) dE_int (dQ_c (dE_tup (dL_c dE_int (dL_c dE_int dL_n))) dE_int dQ_n))) (by rfl) (by rfl) (by simp) (by simp)))) (dO_e (dE_tup (dL_c (dE_v 0) (dL_c (dE_v 1) dL_n)))) ⟨rfl, rfl, rfl, rfl⟩))))
theorem ok_longest_length (R : Raw K mg "longest_length" s_longest_length ["kinds", "order"])  : Fn P w K mg base "longest_length" s_longest_length ["kinds", "order"] 1 g_longest_length :=
  R.fn sc_longest_length (by decide) (fun args wl Q h => by first | (obtain ⟨rfl, _⟩ := h; rfl) | (obtain ⟨_, rfl, _⟩ := h; rfl) | (obtain ⟨_, _, rfl, _⟩ := h; rfl) | (obtain ⟨_, _, _, rfl, _⟩ := h; rfl) | (obtain ⟨_, _, _, _, rfl, _⟩ := h; rfl) | (obtain ⟨_, _, _, _, _, rfl, _⟩ := h; rfl) | (obtain ⟨_, _, _, _, _, _, rfl, _⟩ := h; rfl) | (obtain ⟨_, _, _, _, _, _, _, rfl, _⟩ := h; rfl) | (obtain ⟨_, _, _, _, _, _, _, _, rfl, _⟩ := h; rfl)) fun cdv A outer s H E f hr => ⟨u_longest_length, tm_longest_length  cdv A outer s H E f hr, pf_longest_length⟩
def s__law_dip : Stmt := topS 17
abbrev N__law_dip : List Str := ["well", "many", "cell", "blend"]
theorem sc__law_dip : FnScope N__law_dip ["well", "many"] (defScope s__law_dip) := ⟨rfl, rfl, rfl, by decide +kernel, rfl, by decide +kernel, by decide +kernel⟩
theorem tm__law_dip (m_int : mg "int" = none) (cdv : Value) (A : Around) (outer : List Env) (s : Shared) (H : Hp) (E : XK) (f : Addr) (hr : Room 0 (A.deeper (envOfC "_law_dip" (defScope s__law_dip) s.heap.objs.size f cdv))) :
    DSs (cxOf CX0 P w K mg base N__law_dip "_law_dip" (defScope s__law_dip) f cdv A outer s H E).nox X0 (defBody s__law_dip) u__law_dip := by
  have hu := hr.units
  have hu5 : (A.deeper (envOfC "_law_dip" (defScope s__law_dip) s.heap.objs.size f cdv)).units + 65 < cLine := by have := hr.un; omega
  exact (dSs_c (dS_if (dT_cmp hLt dLt (dO_v 1) (dO_e dE_int) (nomark _)) (dSs_1 (dS_ret dE_int)) dSs_n)
    (dSs_c (dS_if (dT_wne 0 hu) (dSs_c (dS_set (i := 2) sc__law_dip.nd rfl (by first | exact .inl rfl | exact .inr rfl) (dE_wpop 0 (hu_of hr)))
    (dSs_m (dS_if (dT_cmp op_ge dGe (dO_v 2) (dO_v 1) (nomark _)) (dSs_1 (dS_expr (dE_wapp 0 (hu_of hr) (dE_op op_fdivW dDiv (dO_v 2) (dO_v 1))))) dSs_n)
    (dSs_1 (dS_ret (dE_op op_modN dMod (dO_e (dE_ct call_int1 dInt (by rfl) m_int boot_int (dOs_c (dO_v 2) dOs_n))) (dO_v 1)))))) dSs_n)
    (dSs_c (dS_wdrawn 0 (hu_of hr) (dE_op hAdd dAdd (dO_e (dE_wdrawn 0 (hu_of hr))) (dO_e dE_int)))
    (dSs_c (dS_set (i := 3) sc__law_dip.nd rfl (by first | exact .inl rfl | exact .inr rfl) (dE_op op_modN dMod (dO_e (dE_ct call_int1 dInt (by rfl) m_int boot_int (dOs_c (dO_e (dE_op hAdd dAdd (dO_e (dE_wmix 0 (hu_of hr))) (dO_e (dE_op hMul dMul (dO_e dE_int) (dO_e (dE_wdrawn 0 (hu_of hr))))))) dOs_n))) (dO_e dE_int)))
    (dSs_c (dS_set (i := 3) sc__law_dip.nd rfl (by first | exact .inl rfl | exact .inr rfl) (dE_op op_modN dMod (dO_e (dE_ct call_int1 dInt (by rfl) m_int boot_int (dOs_c (dO_e (dE_op hAdd dAdd (dO_e (dE_op hAdd dAdd (dO_e (dE_op hMul dMul (dO_v 3) (dO_v 3))) (dO_e (dE_op hMul dMul (dO_e dE_int) (dO_e (dE_wdrawn 0 (hu_of hr))))))) (dO_e dE_int))) dOs_n))) (dO_e dE_int)))
    (dSs_c (dS_set (i := 3) sc__law_dip.nd rfl (by first | exact .inl rfl | exact .inr rfl) (dE_op op_modN dMod (dO_e (dE_ct call_int1 dInt (by rfl) m_int boot_int (dOs_c (dO_e (dE_op hAdd dAdd (dO_e (dE_op hMul dMul (dO_v 3) (dO_v 3))) (dO_e (dE_wmix 0 (hu_of hr))))) dOs_n))) (dO_e dE_int)))
    (dSs_1 (dS_ret (dE_op op_modN dMod (dO_e (dE_ct call_int1 dInt (by rfl) m_int boot_int (dOs_c (dO_e (dE_op op_fdivW dDiv (dO_v 3) (dO_e dE_int))) dOs_n))) (dO_v 1))))))))))
theorem ok__law_dip (R : Raw K mg "_law_dip" s__law_dip ["well", "many"]) (m_int : mg "int" = none) : Fn P w K mg base "_law_dip" s__law_dip ["well", "many"] 1 g__law_dip :=
  R.fn sc__law_dip (by decide) (fun args wl Q h => by first | (obtain ⟨rfl, _⟩ := h; rfl) | (obtain ⟨_, rfl, _⟩ := h; rfl) | (obtain ⟨_, _, rfl, _⟩ := h; rfl) | (obtain ⟨_, _, _, rfl, _⟩ := h; rfl) | (obtain ⟨_, _, _, _, rfl, _⟩ := h; rfl) | (obtain ⟨_, _, _, _, _, rfl, _⟩ := h; rfl) | (obtain ⟨_, _, _, _, _, _, rfl, _⟩ := h; rfl) | (obtain ⟨_, _, _, _, _, _, _, rfl, _⟩ := h; rfl) | (obtain ⟨_, _, _, _, _, _, _, _, rfl, _⟩ := h; rfl)) fun cdv A outer s H E f hr => ⟨u__law_dip, tm__law_dip m_int cdv A outer s H E f hr, pf__law_dip⟩
def s__law_counts : Stmt := topS 19
abbrev N__law_counts : List Str := ["word", "letter"]
theorem sc__law_counts : FnScope N__law_counts ["word"] (defScope s__law_counts) := ⟨rfl, rfl, rfl, by decide +kernel, rfl, by decide +kernel, by decide +kernel⟩
theorem tm__law_counts (m_tuple : mg "tuple" = none) (cdv : Value) (A : Around) (outer : List Env) (s : Shared) (H : Hp) (E : XK) (f : Addr) (hr : Room 0 (A.deeper (envOfC "_law_counts" (defScope s__law_counts) s.heap.objs.size f cdv))) :
    DSs (cxOf CX0 P w K mg base N__law_counts "_law_counts" (defScope s__law_counts) f cdv A outer s H E).nox X0 (defBody s__law_counts) u__law_counts := by
  have hu := hr.units
  have hu5 : (A.deeper (envOfC "_law_counts" (defScope s__law_counts) s.heap.objs.size f cdv)).units + 65 < cLine := by have := hr.un; omega
  exact (dSs_1 (dS_ret (dE_ct call_tuple_of dTuple (by rfl) m_tuple boot_tuple (dOs_c (dO_e (DF.toE (dF_cmp [("letter", 1)] rfl sc__law_counts.nd (dI_x dE_str) N__law_counts (defScope s__law_counts) (by decide +kernel) (fun i => (dG_n sc__law_counts.nd rfl (by first | exact .inl rfl | exact .inr rfl))) (fun i => dTs_n) (fun i => (dE_bm PySem.F.plainAttrs_str PySem.F.slot_str_count PySem.F.type_str_count mCnt tyStr dCnt (dO_v 0) (dOs_c (dO_v 1) dOs_n)))))) dOs_n))))
theorem ok__law_counts (R : Raw K mg "_law_counts" s__law_counts ["word"]) (m_tuple : mg "tuple" = none) : Fn P w K mg base "_law_counts" s__law_counts ["word"] 1 g__law_counts :=
  R.fn sc__law_counts (by decide) (fun args wl Q h => by first | (obtain ⟨rfl, _⟩ := h; rfl) | (obtain ⟨_, rfl, _⟩ := h; rfl) | (obtain ⟨_, _, rfl, _⟩ := h; rfl) | (obtain ⟨_, _, _, rfl, _⟩ := h; rfl) | (obtain ⟨_, _, _, _, rfl, _⟩ := h; rfl) | (obtain ⟨_, _, _, _, _, rfl, _⟩ := h; rfl) | (obtain ⟨_, _, _, _, _, _, rfl, _⟩ := h; rfl) | (obtain ⟨_, _, _, _, _, _, _, rfl, _⟩ := h; rfl) | (obtain ⟨_, _, _, _, _, _, _, _, rfl, _⟩ := h; rfl)) fun cdv A outer s H E f hr => ⟨u__law_counts, tm__law_counts m_tuple cdv A outer s H E f hr, pf__law_counts⟩
def s__law_longest : Stmt := topS 25
abbrev N__law_longest : List Str := ["kinds", "order"]
theorem sc__law_longest : FnScope N__law_longest ["kinds", "order"] (defScope s__law_longest) := ⟨rfl, rfl, rfl, by decide +kernel, rfl, by decide +kernel, by decide +kernel⟩
theorem tm__law_longest  (cdv : Value) (A : Around) (outer : List Env) (s : Shared) (H : Hp) (E : XK) (f : Addr) (hr : Room 0 (A.deeper (envOfC "_law_longest" (defScope s__law_longest) s.heap.objs.size f cdv))) :
    DSs (cxOf CX0 P w K mg base N__law_longest "_law_longest" (defScope s__law_longest) f cdv A outer s H E).nox X0 (defBody s__law_longest) u__law_longest := by
  have hu := hr.units
  have hu5 : (A.deeper (envOfC "_law_longest" (defScope s__law_longest) s.heap.objs.size f cdv)).units + 65 < cLine := by have := hr.un; omega
  exact (dSs_c (dS_if (dT_cmp (hEq hu) dEq (dO_v 0) (dO_e dE_int) (nomark _)) (dSs_1 (dS_ret (dE_op op_sub dSub (dO_v 1) (dO_e dE_int)))) dSs_n)
    (dSs_1 (dS_ret (dE_dg1 (hu_of hr) (dO_e (DF.toE (dF_dispT (hu_of hr) (dQ_c (dE_tup (dL_c dE_int (dL_c dE_int dL_n))) dE_int (dQ_c (dE_tup (dL_c dE_int (dL_c dE_int dL_n))) dE_int (dQ_c (dE_tup (dL_c dE_int (dL_c dE_int dL_n))) dE_int dQ_n))) (by rfl) (by rfl) (by simp) (by simp)))) (dO_e (dE_tup (dL_c (dE_v 0) (dL_c (dE_v 1) dL_n)))) ⟨rfl, rfl, rfl, rfl⟩))))
theorem ok__law_longest (R : Raw K mg "_law_longest" s__law_longest ["kinds", "order"])  : Fn P w K mg base "_law_longest" s__law_longest ["kinds", "order"] 1 g__law_longest :=
  R.fn sc__law_longest (by decide) (fun args wl Q h => by first | (obtain ⟨rfl, _⟩ := h; rfl) | (obtain ⟨_, rfl, _⟩ := h; rfl) | (obtain ⟨_, _, rfl, _⟩ := h; rfl) | (obtain ⟨_, _, _, rfl, _⟩ := h; rfl) | (obtain ⟨_, _, _, _, rfl, _⟩ := h; rfl) | (obtain ⟨_, _, _, _, _, rfl, _⟩ := h; rfl) | (obtain ⟨_, _, _, _, _, _, rfl, _⟩ := h; rfl) | (obtain ⟨_, _, _, _, _, _, _, rfl, _⟩ := h; rfl) | (obtain ⟨_, _, _, _, _, _, _, _, rfl, _⟩ := h; rfl)) fun cdv A outer s H E f hr => ⟨u__law_longest, tm__law_longest  cdv A outer s H E f hr, pf__law_longest⟩
def s_are_pieces_like : Stmt := topS 10
abbrev N_are_pieces_like : List Str := ["word", "place", "size", "order", "first", "k"]
theorem sc_are_pieces_like : FnScope N_are_pieces_like ["word", "place", "size", "order"] (defScope s_are_pieces_like) := ⟨rfl, rfl, rfl, by decide +kernel, rfl, by decide +kernel, by decide +kernel⟩
theorem tm_are_pieces_like (m_all : mg "all" = none) (m_len : mg "len" = none) (m_range : mg "range" = none) (F_counts_of : Fn P w K mg base "counts_of" s_counts_of ["word"] 1 g_counts_of) (cdv : Value) (A : Around) (outer : List Env) (s : Shared) (H : Hp) (E : XK) (f : Addr) (hr : Room 1 (A.deeper (envOfC "are_pieces_like" (defScope s_are_pieces_like) s.heap.objs.size f cdv))) :
    DSs (cxOf CX0 P w K mg base N_are_pieces_like "are_pieces_like" (defScope s_are_pieces_like) f cdv A outer s H E).nox X0 (defBody s_are_pieces_like) u_are_pieces_like := by
  have hu := hr.units
  have hu5 : (A.deeper (envOfC "are_pieces_like" (defScope s_are_pieces_like) s.heap.objs.size f cdv)).units + 65 < cLine := by have := hr.un; omega
  exact (dSs_c (dS_if (DTW.t (dW_or (dT_cmp hLt dLt (dO_v 1) (dO_e dE_int) (nomark _)) (dW_or1 (dT_cmp op_gt dGt (dO_e (dE_op hAdd dAdd (dO_v 1) (dO_e (dE_op hMul dMul (dO_v 3) (dO_v 2))))) (dO_e (dE_cb hLen dLen (by rfl) m_len PySem.boot_len (dOs_c (dO_v 0) dOs_n))) (nomark _))))) (dSs_1 (dS_ret dE_bl)) dSs_n)
    (dSs_c (dS_set (i := 4) sc_are_pieces_like.nd rfl (by first | exact .inl rfl | exact .inr rfl) (dE_callF F_counts_of hr (by decide) (by rfl) (dA_c (dE_sl (dO_v 0) (dP_s (dO_v 1)) (dP_s (dO_e (dE_op hAdd dAdd (dO_v 1) (dO_v 2))))) dA_n)))
    (dSs_1 (dS_ret (dE_cb (cr_all rfl) dAll (by rfl) m_all boot_all (dOs_c (dO_e (DF.toE (dF_cmp [("k", 5)] rfl sc_are_pieces_like.nd (dI_r2 (by rfl) m_range (dOs_c (dO_e dE_int) (dOs_c (dO_v 3) dOs_n))) N_are_pieces_like (defScope s_are_pieces_like) (by decide +kernel) (fun i => (dG_n sc_are_pieces_like.nd rfl (by first | exact .inl rfl | exact .inr rfl))) (fun i => dTs_n) (fun i => (dE_cmp (hEq hu) dEq (dO_e (dE_callF F_counts_of hr (by decide) (by rfl) (dA_c (dE_sl (dO_v 0) (dP_s (dO_e (dE_op hAdd dAdd (dO_v 1) (dO_e (dE_op hMul dMul (dO_v 5) (dO_v 2)))))) (dP_s (dO_e (dE_op hAdd dAdd (dO_e (dE_op hAdd dAdd (dO_v 1) (dO_e (dE_op hMul dMul (dO_v 5) (dO_v 2))))) (dO_v 2))))) dA_n))) (dO_v 4) (nomark _)))))) dOs_n))))))
theorem ok_are_pieces_like (R : Raw K mg "are_pieces_like" s_are_pieces_like ["word", "place", "size", "order"]) (m_all : mg "all" = none) (m_len : mg "len" = none) (m_range : mg "range" = none) (F_counts_of : Fn P w K mg base "counts_of" s_counts_of ["word"] 1 g_counts_of) : Fn P w K mg base "are_pieces_like" s_are_pieces_like ["word", "place", "size", "order"] 2 g_are_pieces_like :=
  R.fn sc_are_pieces_like (by decide) (fun args wl Q h => by first | (obtain ⟨rfl, _⟩ := h; rfl) | (obtain ⟨_, rfl, _⟩ := h; rfl) | (obtain ⟨_, _, rfl, _⟩ := h; rfl) | (obtain ⟨_, _, _, rfl, _⟩ := h; rfl) | (obtain ⟨_, _, _, _, rfl, _⟩ := h; rfl) | (obtain ⟨_, _, _, _, _, rfl, _⟩ := h; rfl) | (obtain ⟨_, _, _, _, _, _, rfl, _⟩ := h; rfl) | (obtain ⟨_, _, _, _, _, _, _, rfl, _⟩ := h; rfl) | (obtain ⟨_, _, _, _, _, _, _, _, rfl, _⟩ := h; rfl)) fun cdv A outer s H E f hr => ⟨u_are_pieces_like, tm_are_pieces_like m_all m_len m_range F_counts_of cdv A outer s H E f hr, pf_are_pieces_like⟩
def s__law_take : Stmt := topS 18
abbrev N__law_take : List Str := ["well", "items"]
theorem sc__law_take : FnScope N__law_take ["well", "items"] (defScope s__law_take) := ⟨rfl, rfl, rfl, by decide +kernel, rfl, by decide +kernel, by decide +kernel⟩
theorem tm__law_take (m_len : mg "len" = none) (F__law_dip : Fn P w K mg base "_law_dip" s__law_dip ["well", "many"] 1 g__law_dip) (cdv : Value) (A : Around) (outer : List Env) (s : Shared) (H : Hp) (E : XK) (f : Addr) (hr : Room 1 (A.deeper (envOfC "_law_take" (defScope s__law_take) s.heap.objs.size f cdv))) :
    DSs (cxOf CX0 P w K mg base N__law_take "_law_take" (defScope s__law_take) f cdv A outer s H E).nox X0 (defBody s__law_take) u__law_take := by
  have hu := hr.units
  have hu5 : (A.deeper (envOfC "_law_take" (defScope s__law_take) s.heap.objs.size f cdv)).units + 65 < cLine := by have := hr.un; omega
  exact (dSs_1 (dS_ret (dE_sub (hu_of hr) (dO_v 1) (dO_e (dE_callF F__law_dip hr (by decide) (by rfl) (dA_w 0 (dA_c (dE_cb hLen dLen (by rfl) m_len PySem.boot_len (dOs_c (dO_v 1) dOs_n)) dA_n)))))))
theorem ok__law_take (R : Raw K mg "_law_take" s__law_take ["well", "items"]) (m_len : mg "len" = none) (F__law_dip : Fn P w K mg base "_law_dip" s__law_dip ["well", "many"] 1 g__law_dip) : Fn P w K mg base "_law_take" s__law_take ["well", "items"] 2 g__law_take :=
  R.fn sc__law_take (by decide) (fun args wl Q h => by first | (obtain ⟨rfl, _⟩ := h; rfl) | (obtain ⟨_, rfl, _⟩ := h; rfl) | (obtain ⟨_, _, rfl, _⟩ := h; rfl) | (obtain ⟨_, _, _, rfl, _⟩ := h; rfl) | (obtain ⟨_, _, _, _, rfl, _⟩ := h; rfl) | (obtain ⟨_, _, _, _, _, rfl, _⟩ := h; rfl) | (obtain ⟨_, _, _, _, _, _, rfl, _⟩ := h; rfl) | (obtain ⟨_, _, _, _, _, _, _, rfl, _⟩ := h; rfl) | (obtain ⟨_, _, _, _, _, _, _, _, rfl, _⟩ := h; rfl)) fun cdv A outer s H E f hr => ⟨u__law_take, tm__law_take m_len F__law_dip cdv A outer s H E f hr, pf__law_take⟩
def s__law_like : Stmt := topS 20
abbrev N__law_like : List Str := ["word", "place", "size", "order", "own", "k"]
theorem sc__law_like : FnScope N__law_like ["word", "place", "size", "order"] (defScope s__law_like) := ⟨rfl, rfl, rfl, by decide +kernel, rfl, by decide +kernel, by decide +kernel⟩
theorem tm__law_like (m_range : mg "range" = none) (F__law_counts : Fn P w K mg base "_law_counts" s__law_counts ["word"] 1 g__law_counts) (cdv : Value) (A : Around) (outer : List Env) (s : Shared) (H : Hp) (E : XK) (f : Addr) (hr : Room 1 (A.deeper (envOfC "_law_like" (defScope s__law_like) s.heap.objs.size f cdv))) :
    DSs (cxOf CX0 P w K mg base N__law_like "_law_like" (defScope s__law_like) f cdv A outer s H E).nox X0 (defBody s__law_like) u__law_like := by
  have hu := hr.units
  have hu5 : (A.deeper (envOfC "_law_like" (defScope s__law_like) s.heap.objs.size f cdv)).units + 65 < cLine := by have := hr.un; omega
  exact (dSs_c (dS_set (i := 4) sc__law_like.nd rfl (by first | exact .inl rfl | exact .inr rfl) (dE_callF F__law_counts hr (by decide) (by rfl) (dA_c (dE_sl (dO_v 0) (dP_s (dO_v 1)) (dP_s (dO_e (dE_op hAdd dAdd (dO_v 1) (dO_v 2))))) dA_n)))
    (dSs_c (dS_for [5] PassesOwn.never rfl (dI_r2 (by rfl) m_range (dOs_c (dO_e dE_int) (dOs_c (dO_v 3) dOs_n))) (dG_n sc__law_like.nd rfl (by first | exact .inl rfl | exact .inr rfl)) (dSs_1 (dS_if (dT_cmp (hNe hu) dNe (dO_e (dE_callF F__law_counts hr (by decide) (by rfl) (dA_c (dE_sl (dO_v 0) (dP_s (dO_e (dE_op hAdd dAdd (dO_v 1) (dO_e (dE_op hMul dMul (dO_v 5) (dO_v 2)))))) (dP_s (dO_e (dE_op hAdd dAdd (dO_e (dE_op hAdd dAdd (dO_v 1) (dO_e (dE_op hMul dMul (dO_v 5) (dO_v 2))))) (dO_v 2))))) dA_n))) (dO_v 4) (nomark _)) (dSs_1 (dS_ret dE_bl)) dSs_n)))
    (dSs_1 (dS_ret dE_bl))))
theorem ok__law_like (R : Raw K mg "_law_like" s__law_like ["word", "place", "size", "order"]) (m_range : mg "range" = none) (F__law_counts : Fn P w K mg base "_law_counts" s__law_counts ["word"] 1 g__law_counts) : Fn P w K mg base "_law_like" s__law_like ["word", "place", "size", "order"] 2 g__law_like :=
  R.fn sc__law_like (by decide) (fun args wl Q h => by first | (obtain ⟨rfl, _⟩ := h; rfl) | (obtain ⟨_, rfl, _⟩ := h; rfl) | (obtain ⟨_, _, rfl, _⟩ := h; rfl) | (obtain ⟨_, _, _, rfl, _⟩ := h; rfl) | (obtain ⟨_, _, _, _, rfl, _⟩ := h; rfl) | (obtain ⟨_, _, _, _, _, rfl, _⟩ := h; rfl) | (obtain ⟨_, _, _, _, _, _, rfl, _⟩ := h; rfl) | (obtain ⟨_, _, _, _, _, _, _, rfl, _⟩ := h; rfl) | (obtain ⟨_, _, _, _, _, _, _, _, rfl, _⟩ := h; rfl)) fun cdv A outer s H E f hr => ⟨u__law_like, tm__law_like m_range F__law_counts cdv A outer s H E f hr, pf__law_like⟩
def s_ends_count_free : Stmt := topS 11
abbrev N_ends_count_free : List Str := ["word", "order", "sizes", "size"]
theorem sc_ends_count_free : FnScope N_ends_count_free ["word", "order"] (defScope s_ends_count_free) := ⟨rfl, rfl, rfl, by decide +kernel, rfl, by decide +kernel, by decide +kernel⟩
theorem tm_ends_count_free (m_any : mg "any" = none) (m_len : mg "len" = none) (m_range : mg "range" = none) (F_are_pieces_like : Fn P w K mg base "are_pieces_like" s_are_pieces_like ["word", "place", "size", "order"] 2 g_are_pieces_like) (cdv : Value) (A : Around) (outer : List Env) (s : Shared) (H : Hp) (E : XK) (f : Addr) (hr : Room 2 (A.deeper (envOfC "ends_count_free" (defScope s_ends_count_free) s.heap.objs.size f cdv))) :
    DSs (cxOf CX0 P w K mg base N_ends_count_free "ends_count_free" (defScope s_ends_count_free) f cdv A outer s H E).nox X0 (defBody s_ends_count_free) u_ends_count_free := by
  have hu := hr.units
  have hu5 : (A.deeper (envOfC "ends_count_free" (defScope s_ends_count_free) s.heap.objs.size f cdv)).units + 65 < cLine := by have := hr.un; omega
  exact (dSs_c (dS_rng (i := 2) sc_ends_count_free.nd rfl (by first | exact .inl rfl | exact .inr rfl) (by rfl) m_range (dOs_c (dO_e dE_int) (dOs_c (dO_e (dE_op hAdd dAdd (dO_e (dE_op op_fdivW dDiv (dO_e (dE_cb hLen dLen (by rfl) m_len PySem.boot_len (dOs_c (dO_v 0) dOs_n))) (dO_v 1))) (dO_e dE_int))) dOs_n)))
    (dSs_1 (dS_ret (dE_not (dE_cb (cr_any rfl) dAny (by rfl) m_any boot_any (dOs_c (dO_e (DF.toE (dF_cmp [("size", 3)] rfl sc_ends_count_free.nd (dI_rv 2) N_ends_count_free (defScope s_ends_count_free) (by decide +kernel) (fun i => (dG_n sc_ends_count_free.nd rfl (by first | exact .inl rfl | exact .inr rfl))) (fun i => dTs_n) (fun i => (dE_callF F_are_pieces_like hr (by decide) (by rfl) (dA_c (dE_v 0) (dA_c (dE_op op_sub dSub (dO_e (dE_cb hLen dLen (by rfl) m_len PySem.boot_len (dOs_c (dO_v 0) dOs_n))) (dO_e (dE_op hMul dMul (dO_v 1) (dO_v 3)))) (dA_c (dE_v 3) (dA_c (dE_v 1) dA_n))))))))) dOs_n))))))
theorem ok_ends_count_free (R : Raw K mg "ends_count_free" s_ends_count_free ["word", "order"]) (m_any : mg "any" = none) (m_len : mg "len" = none) (m_range : mg "range" = none) (F_are_pieces_like : Fn P w K mg base "are_pieces_like" s_are_pieces_like ["word", "place", "size", "order"] 2 g_are_pieces_like) : Fn P w K mg base "ends_count_free" s_ends_count_free ["word", "order"] 3 g_ends_count_free :=
  R.fn sc_ends_count_free (by decide) (fun args wl Q h => by first | (obtain ⟨rfl, _⟩ := h; rfl) | (obtain ⟨_, rfl, _⟩ := h; rfl) | (obtain ⟨_, _, rfl, _⟩ := h; rfl) | (obtain ⟨_, _, _, rfl, _⟩ := h; rfl) | (obtain ⟨_, _, _, _, rfl, _⟩ := h; rfl) | (obtain ⟨_, _, _, _, _, rfl, _⟩ := h; rfl) | (obtain ⟨_, _, _, _, _, _, rfl, _⟩ := h; rfl) | (obtain ⟨_, _, _, _, _, _, _, rfl, _⟩ := h; rfl) | (obtain ⟨_, _, _, _, _, _, _, _, rfl, _⟩ := h; rfl)) fun cdv A outer s H E f hr => ⟨u_ends_count_free, tm_ends_count_free m_any m_len m_range F_are_pieces_like cdv A outer s H E f hr, pf_ends_count_free⟩
def s__law_ends_free : Stmt := topS 21
abbrev N__law_ends_free : List Str := ["word", "order", "size"]
theorem sc__law_ends_free : FnScope N__law_ends_free ["word", "order"] (defScope s__law_ends_free) := ⟨rfl, rfl, rfl, by decide +kernel, rfl, by decide +kernel, by decide +kernel⟩
theorem tm__law_ends_free (m_len : mg "len" = none) (m_range : mg "range" = none) (F__law_like : Fn P w K mg base "_law_like" s__law_like ["word", "place", "size", "order"] 2 g__law_like) (cdv : Value) (A : Around) (outer : List Env) (s : Shared) (H : Hp) (E : XK) (f : Addr) (hr : Room 2 (A.deeper (envOfC "_law_ends_free" (defScope s__law_ends_free) s.heap.objs.size f cdv))) :
    DSs (cxOf CX0 P w K mg base N__law_ends_free "_law_ends_free" (defScope s__law_ends_free) f cdv A outer s H E).nox X0 (defBody s__law_ends_free) u__law_ends_free := by
  have hu := hr.units
  have hu5 : (A.deeper (envOfC "_law_ends_free" (defScope s__law_ends_free) s.heap.objs.size f cdv)).units + 65 < cLine := by have := hr.un; omega
  exact (dSs_c (dS_for [2] PassesOwn.never rfl (dI_r2 (by rfl) m_range (dOs_c (dO_e dE_int) (dOs_c (dO_e (dE_op hAdd dAdd (dO_e (dE_op op_fdivW dDiv (dO_e (dE_cb hLen dLen (by rfl) m_len PySem.boot_len (dOs_c (dO_v 0) dOs_n))) (dO_v 1))) (dO_e dE_int))) dOs_n))) (dG_n sc__law_ends_free.nd rfl (by first | exact .inl rfl | exact .inr rfl)) (dSs_1 (dS_if (dT_val (dE_callF F__law_like hr (by decide) (by rfl) (dA_c (dE_v 0) (dA_c (dE_op op_sub dSub (dO_e (dE_cb hLen dLen (by rfl) m_len PySem.boot_len (dOs_c (dO_v 0) dOs_n))) (dO_e (dE_op hMul dMul (dO_v 1) (dO_v 2)))) (dA_c (dE_v 2) (dA_c (dE_v 1) dA_n)))))) (dSs_1 (dS_ret dE_bl)) dSs_n)))
    (dSs_1 (dS_ret dE_bl)))
theorem ok__law_ends_free (R : Raw K mg "_law_ends_free" s__law_ends_free ["word", "order"]) (m_len : mg "len" = none) (m_range : mg "range" = none) (F__law_like : Fn P w K mg base "_law_like" s__law_like ["word", "place", "size", "order"] 2 g__law_like) : Fn P w K mg base "_law_ends_free" s__law_ends_free ["word", "order"] 3 g__law_ends_free :=
  R.fn sc__law_ends_free (by decide) (fun args wl Q h => by first | (obtain ⟨rfl, _⟩ := h; rfl) | (obtain ⟨_, rfl, _⟩ := h; rfl) | (obtain ⟨_, _, rfl, _⟩ := h; rfl) | (obtain ⟨_, _, _, rfl, _⟩ := h; rfl) | (obtain ⟨_, _, _, _, rfl, _⟩ := h; rfl) | (obtain ⟨_, _, _, _, _, rfl, _⟩ := h; rfl) | (obtain ⟨_, _, _, _, _, _, rfl, _⟩ := h; rfl) | (obtain ⟨_, _, _, _, _, _, _, rfl, _⟩ := h; rfl) | (obtain ⟨_, _, _, _, _, _, _, _, rfl, _⟩ := h; rfl)) fun cdv A outer s H E f hr => ⟨u__law_ends_free, tm__law_ends_free m_len m_range F__law_like cdv A outer s H E f hr, pf__law_ends_free⟩
def s_count_free : Stmt := topS 12
abbrev N_count_free : List Str := ["kinds", "length", "order", "found", "turn", "longer", "word", "sign"]
theorem sc_count_free : FnScope N_count_free ["kinds", "length", "order"] (defScope s_count_free) := ⟨rfl, rfl, rfl, by decide +kernel, rfl, by decide +kernel, by decide +kernel⟩
theorem tm_count_free (m_len : mg "len" = none) (m_range : mg "range" = none) (m_tuple : mg "tuple" = none) (F_ends_count_free : Fn P w K mg base "ends_count_free" s_ends_count_free ["word", "order"] 3 g_ends_count_free) (C_TooMany : LimC P K mg) {v_ENOUGH : Value} (mc_ENOUGH : mg "ENOUGH" = some v_ENOUGH) (rc_ENOUGH : RelV (.int 4000) v_ENOUGH) {v_LETTERS : Value} (mc_LETTERS : mg "LETTERS" = some v_LETTERS) (rc_LETTERS : RelV (.str "abcd") v_LETTERS) {v_MAX_LISTED : Value} (mc_MAX_LISTED : mg "MAX_LISTED" = some v_MAX_LISTED) (rc_MAX_LISTED : RelV (.int 400) v_MAX_LISTED) (cdv : Value) (A : Around) (outer : List Env) (s : Shared) (H : Hp) (E : XK) (f : Addr) (hr : Room 3 (A.deeper (envOfC "count_free" (defScope s_count_free) s.heap.objs.size f cdv))) :
    DSs (cxOf (L2.CX P w) P w K mg base N_count_free "count_free" (defScope s_count_free) f cdv A outer s H E) (xR K mg fun cls d _ H => E cls d H) (defBody s_count_free) u_count_free := by
  have hu := hr.units
  have hu5 : (A.deeper (envOfC "count_free" (defScope s_count_free) s.heap.objs.size f cdv)).units + 65 < cLine := by have := hr.un; omega
  exact (dSs_c (dS_set (i := 3) sc_count_free.nd rfl (by first | exact .inl rfl | exact .inr rfl) (DF.toE (dF_lst (dL_c dE_str dL_n))))
    (dSs_c (dS_for [4, 5, 6] (passes_of rfl) rfl (dI_r1 (by rfl) m_range (dOs_c (dO_v 1) dOs_n)) (dG_n sc_count_free.nd rfl (by first | exact .inl rfl | exact .inr rfl)) (dSs_c (dS_setO (i := 5) sc_count_free.nd rfl (by first | exact .inl rfl | exact .inr rfl) (dF_lst dL_n))
    (dSs_c (dS_for [6] (passes_of rfl) rfl (dI_x (dE_v 3)) (dG_n sc_count_free.nd rfl (by first | exact .inl rfl | exact .inr rfl)) (dSs_1 (dS_expr (dE_ext (i := 5) (DF.toE (dF_cmp [("sign", 7)] rfl sc_count_free.nd (dI_x (dE_sl (dO_e (dE_glob (by rfl) mc_LETTERS rc_LETTERS (fun _ => DV.str _))) dP_no (dP_s (dO_v 0)))) N_count_free (defScope s_count_free) (by decide +kernel) (fun i => (dG_n sc_count_free.nd rfl (by first | exact .inl rfl | exact .inr rfl))) (fun i => (dTs_1 (dT_val (dE_callF F_ends_count_free hr (by decide) (by rfl) (dA_c (dE_op hAdd dAdd (dO_v 6) (dO_v 7)) (dA_c (dE_v 2) dA_n)))))) (fun i => (dE_op hAdd dAdd (dO_v 6) (dO_v 7)))))))))
    (dSs_c (dS_frz 5 (dS_set (i := 3) sc_count_free.nd rfl (by first | exact .inl rfl | exact .inr rfl) (dE_v 5)))
    (dSs_1 (dS_if (dT_cmp op_gt dGt (dO_e (dE_cb hLen dLen (by rfl) m_len PySem.boot_len (dOs_c (dO_v 3) dOs_n))) (dO_e (dE_glob (by rfl) mc_ENOUGH rc_ENOUGH (fun _ => DV.int _))) (nomark _)) (dSs_1 (dS_rL rfl (takes_of rfl rfl rfl rfl) C_TooMany hr (dE_glob (by rfl) mc_MAX_LISTED rc_MAX_LISTED (fun _ => DV.int _)) (by rfl))) dSs_n))))))
    (dSs_c (dS_if (dT_cmp op_gt dGt (dO_e (dE_cb hLen dLen (by rfl) m_len PySem.boot_len (dOs_c (dO_v 3) dOs_n))) (dO_e (dE_glob (by rfl) mc_MAX_LISTED rc_MAX_LISTED (fun _ => DV.int _))) (nomark _)) (dSs_1 (dS_rL rfl (takes_of rfl rfl rfl rfl) C_TooMany hr (dE_glob (by rfl) mc_MAX_LISTED rc_MAX_LISTED (fun _ => DV.int _)) (by rfl))) dSs_n)
    (dSs_1 (dS_ret (dE_ct call_tuple_of dTuple (by rfl) m_tuple boot_tuple (dOs_c (dO_v 3) dOs_n)))))))
theorem ok_count_free (R : Raw K mg "count_free" s_count_free ["kinds", "length", "order"]) (m_len : mg "len" = none) (m_range : mg "range" = none) (m_tuple : mg "tuple" = none) (F_ends_count_free : Fn P w K mg base "ends_count_free" s_ends_count_free ["word", "order"] 3 g_ends_count_free) (C_TooMany : LimC P K mg) {v_ENOUGH : Value} (mc_ENOUGH : mg "ENOUGH" = some v_ENOUGH) (rc_ENOUGH : RelV (.int 4000) v_ENOUGH) {v_LETTERS : Value} (mc_LETTERS : mg "LETTERS" = some v_LETTERS) (rc_LETTERS : RelV (.str "abcd") v_LETTERS) {v_MAX_LISTED : Value} (mc_MAX_LISTED : mg "MAX_LISTED" = some v_MAX_LISTED) (rc_MAX_LISTED : RelV (.int 400) v_MAX_LISTED) : FnX P w K mg base "count_free" s_count_free ["kinds", "length", "order"] 4 g_count_free :=
  R.fnX sc_count_free (by decide) (fun args wl Q Xd h => by first | (obtain ⟨rfl, _⟩ := h; rfl) | (obtain ⟨_, rfl, _⟩ := h; rfl) | (obtain ⟨_, _, rfl, _⟩ := h; rfl) | (obtain ⟨_, _, _, rfl, _⟩ := h; rfl) | (obtain ⟨_, _, _, _, rfl, _⟩ := h; rfl) | (obtain ⟨_, _, _, _, _, rfl, _⟩ := h; rfl) | (obtain ⟨_, _, _, _, _, _, rfl, _⟩ := h; rfl) | (obtain ⟨_, _, _, _, _, _, _, rfl, _⟩ := h; rfl) | (obtain ⟨_, _, _, _, _, _, _, _, rfl, _⟩ := h; rfl)) fun cdv A outer s H E f hr => ⟨u_count_free, tm_count_free m_len m_range m_tuple F_ends_count_free C_TooMany mc_ENOUGH rc_ENOUGH mc_LETTERS rc_LETTERS mc_MAX_LISTED rc_MAX_LISTED cdv A outer s H E f hr, pf_count_free⟩
def s_least_count_free : Stmt := topS 13
abbrev N_least_count_free : List Str := ["kinds", "length", "order", "todo", "word", "more", "sign"]
theorem sc_least_count_free : FnScope N_least_count_free ["kinds", "length", "order"] (defScope s_least_count_free) := ⟨rfl, rfl, rfl, by decide +kernel, rfl, by decide +kernel, by decide +kernel⟩
theorem tm_least_count_free (m_len : mg "len" = none) (F_ends_count_free : Fn P w K mg base "ends_count_free" s_ends_count_free ["word", "order"] 3 g_ends_count_free) {v_LETTERS : Value} (mc_LETTERS : mg "LETTERS" = some v_LETTERS) (rc_LETTERS : RelV (.str "abcd") v_LETTERS) (cdv : Value) (A : Around) (outer : List Env) (s : Shared) (H : Hp) (E : XK) (f : Addr) (hr : Room 3 (A.deeper (envOfC "least_count_free" (defScope s_least_count_free) s.heap.objs.size f cdv))) :
    DSs (cxOf CX0 P w K mg base N_least_count_free "least_count_free" (defScope s_least_count_free) f cdv A outer s H E).nox X0 (defBody s_least_count_free) u_least_count_free := by
  have hu := hr.units
  have hu5 : (A.deeper (envOfC "least_count_free" (defScope s_least_count_free) s.heap.objs.size f cdv)).units + 65 < cLine := by have := hr.un; omega
  exact (dSs_c (dS_setO (i := 3) sc_least_count_free.nd rfl (by first | exact .inl rfl | exact .inr rfl) (dF_lst (dL_c dE_str dL_n)))
    (dSs_c (dS_while [4, 5] PassesOwn.never (dT_cmp (hNe hu) dNe (dO_v 3) (dO_e (DF.toE (dF_lst dL_n))) (nomark _)) (dSs_c (dS_set (i := 4) sc_least_count_free.nd rfl (by first | exact .inl rfl | exact .inr rfl) (dE_pop (i := 3)))
    (dSs_c (dS_if (dT_cmp (hEq hu) dEq (dO_e (dE_cb hLen dLen (by rfl) m_len PySem.boot_len (dOs_c (dO_v 4) dOs_n))) (dO_v 1) (nomark _)) (dSs_1 (dS_ret (dE_v 4))) dSs_n)
    (dSs_c (dS_cmp (i := 5) [("sign", 6)] rfl sc_least_count_free.nd rfl rfl (by rfl) (dI_x (dE_sl (dO_e (dE_glob (by rfl) mc_LETTERS rc_LETTERS (fun _ => DV.str _))) dP_no (dP_s (dO_v 0)))) N_least_count_free (defScope s_least_count_free) (by decide +kernel) (fun i => (dG_n sc_least_count_free.nd rfl (by first | exact .inl rfl | exact .inr rfl))) (fun i => (dTs_1 (dT_val (dE_callF F_ends_count_free hr (by decide) (by rfl) (dA_c (dE_op hAdd dAdd (dO_v 4) (dO_v 6)) (dA_c (dE_v 2) dA_n)))))) (fun i => (dE_op hAdd dAdd (dO_v 4) (dO_v 6))))
    (dSs_1 (dS_expr (dE_ext (i := 3) (dE_rev (dO_v 5)))))))))
    (dSs_1 (dS_ret dE_non))))
theorem ok_least_count_free (R : Raw K mg "least_count_free" s_least_count_free ["kinds", "length", "order"]) (m_len : mg "len" = none) (F_ends_count_free : Fn P w K mg base "ends_count_free" s_ends_count_free ["word", "order"] 3 g_ends_count_free) {v_LETTERS : Value} (mc_LETTERS : mg "LETTERS" = some v_LETTERS) (rc_LETTERS : RelV (.str "abcd") v_LETTERS) : Fn P w K mg base "least_count_free" s_least_count_free ["kinds", "length", "order"] 4 g_least_count_free :=
  R.fn sc_least_count_free (by decide) (fun args wl Q h => by first | (obtain ⟨rfl, _⟩ := h; rfl) | (obtain ⟨_, rfl, _⟩ := h; rfl) | (obtain ⟨_, _, rfl, _⟩ := h; rfl) | (obtain ⟨_, _, _, rfl, _⟩ := h; rfl) | (obtain ⟨_, _, _, _, rfl, _⟩ := h; rfl) | (obtain ⟨_, _, _, _, _, rfl, _⟩ := h; rfl) | (obtain ⟨_, _, _, _, _, _, rfl, _⟩ := h; rfl) | (obtain ⟨_, _, _, _, _, _, _, rfl, _⟩ := h; rfl) | (obtain ⟨_, _, _, _, _, _, _, _, rfl, _⟩ := h; rfl)) fun cdv A outer s H E f hr => ⟨u_least_count_free, tm_least_count_free m_len F_ends_count_free mc_LETTERS rc_LETTERS cdv A outer s H E f hr, pf_least_count_free⟩
def s__law_grown : Stmt := topS 22
abbrev N__law_grown : List Str := ["words", "kinds", "order", "found", "word", "letter"]
theorem sc__law_grown : FnScope N__law_grown ["words", "kinds", "order"] (defScope s__law_grown) := ⟨rfl, rfl, rfl, by decide +kernel, rfl, by decide +kernel, by decide +kernel⟩
theorem tm__law_grown (F__law_ends_free : Fn P w K mg base "_law_ends_free" s__law_ends_free ["word", "order"] 3 g__law_ends_free) (cdv : Value) (A : Around) (outer : List Env) (s : Shared) (H : Hp) (E : XK) (f : Addr) (hr : Room 3 (A.deeper (envOfC "_law_grown" (defScope s__law_grown) s.heap.objs.size f cdv))) :
    DSs (cxOf CX0 P w K mg base N__law_grown "_law_grown" (defScope s__law_grown) f cdv A outer s H E).nox X0 (defBody s__law_grown) u__law_grown := by
  have hu := hr.units
  have hu5 : (A.deeper (envOfC "_law_grown" (defScope s__law_grown) s.heap.objs.size f cdv)).units + 65 < cLine := by have := hr.un; omega
  exact (dSs_c (dS_setO (i := 3) sc__law_grown.nd rfl (by first | exact .inl rfl | exact .inr rfl) (dF_lst dL_n))
    (dSs_c (dS_for [4] PassesOwn.never rfl (dI_x (dE_v 0)) (dG_n sc__law_grown.nd rfl (by first | exact .inl rfl | exact .inr rfl)) (dSs_1 (dS_expr (dE_ext (i := 3) (DF.toE (dF_cmp [("letter", 5)] rfl sc__law_grown.nd (dI_x (dE_sl (dO_e dE_str) dP_no (dP_s (dO_v 1)))) N__law_grown (defScope s__law_grown) (by decide +kernel) (fun i => (dG_n sc__law_grown.nd rfl (by first | exact .inl rfl | exact .inr rfl))) (fun i => dTs_n) (fun i => (dE_op hAdd dAdd (dO_v 4) (dO_v 5)))))))))
    (dSs_1 (dS_frz 3 (dS_ret (DF.toE (dF_cmp [("word", 4)] rfl sc__law_grown.nd (dI_x (dE_v 3)) N__law_grown (defScope s__law_grown) (by decide +kernel) (fun i => (dG_n sc__law_grown.nd rfl (by first | exact .inl rfl | exact .inr rfl))) (fun i => (dTs_1 (dT_val (dE_callF F__law_ends_free hr (by decide) (by rfl) (dA_c (dE_v 4) (dA_c (dE_v 2) dA_n)))))) (fun i => (dE_v 4)))))))))
theorem ok__law_grown (R : Raw K mg "_law_grown" s__law_grown ["words", "kinds", "order"]) (F__law_ends_free : Fn P w K mg base "_law_ends_free" s__law_ends_free ["word", "order"] 3 g__law_ends_free) : Fn P w K mg base "_law_grown" s__law_grown ["words", "kinds", "order"] 4 g__law_grown :=
  R.fn sc__law_grown (by decide) (fun args wl Q h => by first | (obtain ⟨rfl, _⟩ := h; rfl) | (obtain ⟨_, rfl, _⟩ := h; rfl) | (obtain ⟨_, _, rfl, _⟩ := h; rfl) | (obtain ⟨_, _, _, rfl, _⟩ := h; rfl) | (obtain ⟨_, _, _, _, rfl, _⟩ := h; rfl) | (obtain ⟨_, _, _, _, _, rfl, _⟩ := h; rfl) | (obtain ⟨_, _, _, _, _, _, rfl, _⟩ := h; rfl) | (obtain ⟨_, _, _, _, _, _, _, rfl, _⟩ := h; rfl) | (obtain ⟨_, _, _, _, _, _, _, _, rfl, _⟩ := h; rfl)) fun cdv A outer s H E f hr => ⟨u__law_grown, tm__law_grown F__law_ends_free cdv A outer s H E f hr, pf__law_grown⟩
def s__law_least : Stmt := topS 23
abbrev N__law_least : List Str := ["kinds", "length", "order", "waiting", "word"]
theorem sc__law_least : FnScope N__law_least ["kinds", "length", "order"] (defScope s__law_least) := ⟨rfl, rfl, rfl, by decide +kernel, rfl, by decide +kernel, by decide +kernel⟩
theorem tm__law_least (m_len : mg "len" = none) (F__law_grown : Fn P w K mg base "_law_grown" s__law_grown ["words", "kinds", "order"] 4 g__law_grown) (cdv : Value) (A : Around) (outer : List Env) (s : Shared) (H : Hp) (E : XK) (f : Addr) (hr : Room 4 (A.deeper (envOfC "_law_least" (defScope s__law_least) s.heap.objs.size f cdv))) :
    DSs (cxOf CX0 P w K mg base N__law_least "_law_least" (defScope s__law_least) f cdv A outer s H E).nox X0 (defBody s__law_least) u__law_least := by
  have hu := hr.units
  have hu5 : (A.deeper (envOfC "_law_least" (defScope s__law_least) s.heap.objs.size f cdv)).units + 65 < cLine := by have := hr.un; omega
  exact (dSs_c (dS_setO (i := 3) sc__law_least.nd rfl (by first | exact .inl rfl | exact .inr rfl) (dF_lst (dL_c dE_str dL_n)))
    (dSs_c (dS_while [4] PassesOwn.never (dT_cmp (hNe hu) dNe (dO_v 3) (dO_e (DF.toE (dF_lst dL_n))) (nomark _)) (dSs_c (dS_set (i := 4) sc__law_least.nd rfl (by first | exact .inl rfl | exact .inr rfl) (dE_pop (i := 3)))
    (dSs_c (dS_if (dT_cmp (hEq hu) dEq (dO_e (dE_cb hLen dLen (by rfl) m_len PySem.boot_len (dOs_c (dO_v 4) dOs_n))) (dO_v 1) (nomark _)) (dSs_1 (dS_ret (dE_v 4))) dSs_n)
    (dSs_1 (dS_expr (dE_ext (i := 3) (dE_rev (dO_e (dE_callF F__law_grown hr (by decide) (by rfl) (dA_c (DF.toE (dF_lst (dL_c (dE_v 4) dL_n))) (dA_c (dE_v 0) (dA_c (dE_v 2) dA_n))))))))))))
    (dSs_1 (dS_ret dE_non))))
theorem ok__law_least (R : Raw K mg "_law_least" s__law_least ["kinds", "length", "order"]) (m_len : mg "len" = none) (F__law_grown : Fn P w K mg base "_law_grown" s__law_grown ["words", "kinds", "order"] 4 g__law_grown) : Fn P w K mg base "_law_least" s__law_least ["kinds", "length", "order"] 5 g__law_least :=
  R.fn sc__law_least (by decide) (fun args wl Q h => by first | (obtain ⟨rfl, _⟩ := h; rfl) | (obtain ⟨_, rfl, _⟩ := h; rfl) | (obtain ⟨_, _, rfl, _⟩ := h; rfl) | (obtain ⟨_, _, _, rfl, _⟩ := h; rfl) | (obtain ⟨_, _, _, _, rfl, _⟩ := h; rfl) | (obtain ⟨_, _, _, _, _, rfl, _⟩ := h; rfl) | (obtain ⟨_, _, _, _, _, _, rfl, _⟩ := h; rfl) | (obtain ⟨_, _, _, _, _, _, _, rfl, _⟩ := h; rfl) | (obtain ⟨_, _, _, _, _, _, _, _, rfl, _⟩ := h; rfl)) fun cdv A outer s H E f hr => ⟨u__law_least, tm__law_least m_len F__law_grown cdv A outer s H E f hr, pf__law_least⟩
def s__law_heard : Stmt := topS 24
abbrev N__law_heard : List Str := ["kinds", "length", "order", "is_named", "error"]
theorem sc__law_heard : FnScope N__law_heard ["kinds", "length", "order", "is_named"] (defScope s__law_heard) := ⟨rfl, rfl, rfl, by decide +kernel, rfl, by decide +kernel, by decide +kernel⟩
theorem tm__law_heard (m_isinstance : mg "isinstance" = none) (F_count_free : FnX P w K mg base "count_free" s_count_free ["kinds", "length", "order"] 4 g_count_free) (C_try_TooMany_Unfit : TryC K mg "TooMany" "Unfit") (cdv : Value) (A : Around) (outer : List Env) (s : Shared) (H : Hp) (E : XK) (f : Addr) (hr : Room 4 (A.deeper (envOfC "_law_heard" (defScope s__law_heard) s.heap.objs.size f cdv))) :
    DSs (cxOf CX0 P w K mg base N__law_heard "_law_heard" (defScope s__law_heard) f cdv A outer s H E).nox X0 (defBody s__law_heard) u__law_heard := by
  have hu := hr.units
  have hu5 : (A.deeper (envOfC "_law_heard" (defScope s__law_heard) s.heap.objs.size f cdv)).units + 65 < cLine := by have := hr.un; omega
  exact (dSs_1 (dS_tryT (i := 4) C_try_TooMany_Unfit rfl rfl sc__law_heard.nd rfl rfl (by rfl) (by decide)
    (fun Wb_ pn_ xe_ tk_ ho_ => (dSs_c (dS_if (dT_val (dE_v 3)) (dSs_1 (dS_ret (dE_tup (dL_c dE_str (dL_c (dE_callKX (pi := [2, 1, 0]) (ps := ["kinds", "length", "order"]) (ks := ["order", "length", "kinds"]) tk_ F_count_free hr (by decide) (by rfl) (dK_c (dE_v 2) (dK_c (dE_v 1) (dK_c (dE_v 0) dK_n))) (by decide) (fun _ _ _ _ _ _ ws hl => match ws, hl with | [], hl => absurd hl (by simp [perm]) | [a0], hl => absurd hl (by simp [perm]) | [a0, a1], hl => absurd hl (by simp [perm]) | _ :: _ :: _ :: _, _ => rfl)) dL_n))))) dSs_n)
    (dSs_1 (dS_ret (dE_tup (dL_c dE_str (dL_c (dE_callX tk_ F_count_free hr (by decide) (by rfl) (dA_c (dE_v 0) (dA_c (dE_v 1) (dA_c (dE_v 2) dA_n)))) dL_n)))))))
    (fun C_ DD_ a_ oe_ d_ pn_ tf_ hz_ hf_ => (dSs_1 (dS_ret (dE_if (dT_not (dT_val (dE_isX tf_.ec tf_.no hz_ hf_ rfl rfl (by rfl) m_isinstance (by rfl) tf_.mD))) (dE_tup (dL_c dE_str (dL_c (dE_xf tf_.xf tf_.noN hz_ hf_ rfl rfl) dL_n))) (dE_tup (dL_c dE_str dL_n))))))))
theorem ok__law_heard (R : Raw K mg "_law_heard" s__law_heard ["kinds", "length", "order", "is_named"]) (m_isinstance : mg "isinstance" = none) (F_count_free : FnX P w K mg base "count_free" s_count_free ["kinds", "length", "order"] 4 g_count_free) (C_try_TooMany_Unfit : TryC K mg "TooMany" "Unfit") : Fn P w K mg base "_law_heard" s__law_heard ["kinds", "length", "order", "is_named"] 5 g__law_heard :=
  R.fn sc__law_heard (by decide) (fun args wl Q h => by first | (obtain ⟨rfl, _⟩ := h; rfl) | (obtain ⟨_, rfl, _⟩ := h; rfl) | (obtain ⟨_, _, rfl, _⟩ := h; rfl) | (obtain ⟨_, _, _, rfl, _⟩ := h; rfl) | (obtain ⟨_, _, _, _, rfl, _⟩ := h; rfl) | (obtain ⟨_, _, _, _, _, rfl, _⟩ := h; rfl) | (obtain ⟨_, _, _, _, _, _, rfl, _⟩ := h; rfl) | (obtain ⟨_, _, _, _, _, _, _, rfl, _⟩ := h; rfl) | (obtain ⟨_, _, _, _, _, _, _, _, rfl, _⟩ := h; rfl)) fun cdv A outer s H E f hr => ⟨u__law_heard, tm__law_heard m_isinstance F_count_free C_try_TooMany_Unfit cdv A outer s H E f hr, pf__law_heard⟩
def s__law_well : Stmt := topS 16
abbrev N__law_well : List Str := ["script", "cells", "mix", "cell", "own"]
theorem sc__law_well : FnScope N__law_well ["script"] (defScope s__law_well) := ⟨rfl, rfl, rfl, by decide +kernel, rfl, by decide +kernel, by decide +kernel⟩
theorem well_parts : ∃ (s1 s2 : Stmt) (e : Expr) (pos : Pos), defBody s__law_well = [s1, s2, .Return (some e) pos] ∧ ∀ {P : Program} {w : World} {K : PySem.W.Frag} {mg : Str → Option Value} {base : Heap} (m_abs : mg "abs" = none) (m_int : mg "int" = none) (m_len : mg "len" = none) (cdv : Value) (A : Around) (outer : List Env) (s : Shared) (H : Hp) (E : XK) (f : Addr), Room 0 (A.deeper (envOfC "_law_well" (defScope s__law_well) s.heap.objs.size f cdv)) →
    DS (cxOf CX0 P w K mg base N__law_well "_law_well" (defScope s__law_well) f cdv A outer s H E).nox X0 s1 uw1 ∧ DS (cxOf CX0 P w K mg base N__law_well "_law_well" (defScope s__law_well) f cdv A outer s H E).nox X0 s2 uw2 ∧ DF (cxOf CX0 P w K mg base N__law_well "_law_well" (defScope s__law_well) f cdv A outer s H E).nox X0 e uww := by
  refine ⟨_, _, _, _, rfl, fun m_abs m_int m_len cdv A outer s H E f hr => ?_⟩
  have hu := hr.units
  exact ⟨(dS_par2 (i := 1) (j := 2) rfl sc__law_well.nd rfl rfl (by decide) rfl rfl (dZ_e (DF.toE (dF_cmp [("own", 4)] rfl sc__law_well.nd (dI_scr 0) N__law_well (defScope s__law_well) (by decide +kernel) (fun i => (dG_n sc__law_well.nd rfl (by first | exact .inl rfl | exact .inr rfl))) (fun i => dTs_n) (fun i => (dE_op hAdd dAdd (dO_e (dE_op hMul dMul (dO_e dE_int) (dO_e (dE_cb call_abs dAbs (by rfl) m_abs boot_abs (dOs_c (dO_v 4) dOs_n))))) (dO_e (dE_ct call_int1 dInt (by rfl) m_int boot_int (dOs_c (dO_e (dE_cmp hLt dLt (dO_v 4) (dO_e dE_int) (nomark _))) dOs_n)))))))) (dZ_e (dE_op hAdd dAdd (dO_e dE_int) (dO_e (dE_op hMul dMul (dO_e dE_int) (dO_e (dE_lenscr 0 (by rfl) m_len))))))), (dS_for [3] PassesOwn.never rfl (dI_x (dE_v 1)) (dG_n sc__law_well.nd rfl (by first | exact .inl rfl | exact .inr rfl)) (dSs_1 (dS_set (i := 2) sc__law_well.nd rfl (by first | exact .inl rfl | exact .inr rfl) (dE_op op_modN dMod (dO_e (dE_ct call_int1 dInt (by rfl) m_int boot_int (dOs_c (dO_e (dE_op hAdd dAdd (dO_e (dE_op hAdd dAdd (dO_e (dE_op hMul dMul (dO_v 2) (dO_e dE_int))) (dO_v 3))) (dO_e dE_int))) dOs_n))) (dO_e dE_int))))), (dF_disp (dQ_c dE_str (DF.toE (dF_cmp [("cell", 3)] rfl sc__law_well.nd (dI_x (dE_v 1)) N__law_well (defScope s__law_well) (by decide +kernel) (fun i => (dG_n sc__law_well.nd rfl (by first | exact .inl rfl | exact .inr rfl))) (fun i => (dTs_1 (dT_cmp op_ge dGe (dO_v 3) (dO_e (dE_op op_pow dPow (dO_e dE_int) (dO_e dE_int))) (nomark _)))) (fun i => (dE_v 3)))) (dQ_c dE_str (dE_v 2) (dQ_c dE_str dE_int dQ_n))) (by rfl) (by rfl) (by simp) (by simp))⟩
theorem ok_well (R : Raw K mg "_law_well" s__law_well ["script"]) (m_abs : mg "abs" = none) (m_int : mg "int" = none) (m_len : mg "len" = none) : FnW P w K mg base "_law_well" 1 63 wellOf := by
  obtain ⟨s1, s2, e, pos, hbd, hp⟩ := well_parts
  exact R.fnW sc__law_well (by decide) hbd (fun cdv A outer s H E f hr => hp m_abs m_int m_len cdv A outer s H E f hr) pf_well
def s_law : Stmt := topS 26
abbrev N_law : List Str := ["script", "well", "turn", "some", "kinds", "order", "longest", "told", "other", "words", "length", "goal", "due", "far", "size", "own"]
theorem sc_law : FnScope N_law ["script"] (defScope s_law) := ⟨rfl, rfl, rfl, by decide +kernel, rfl, by decide +kernel, by decide +kernel⟩
def uL_law : WS :=
  (uSeq (uFor [2, 3, 4, 5, 6, 7, 8, 9, 10, 11, 12, 13, 14, 15] (iR1 (osC (oE (wC (.int 2))) osN)) (gSet 2)
  (uSeq (uAsg (wLst (wCs (wTup (wCs (wC (.int 1)) (wCs (wOp fAdd (oE (wC (.int 2))) (oE (wCall g__law_dip (aW 1 (aC (wC (.int 7)) aN))))) wN))) (wCs (wTup (wCs (wC (.int 2)) (wCs (wC (.int 2)) wN))) (wCs (wTup (wCs (wC (.int 2)) (wCs (wC (.int 3)) wN))) (wCs (wTup (wCs (wC (.int 3)) (wCs (wC (.int 2)) wN))) (wCs (wTup (wCs (wC (.int 2)) (wCs (wC (.int 4)) wN))) (wCs (wTup (wCs (wC (.int 3)) (wCs (wC (.int 3)) wN))) (wCs (wTup (wCs (wC (.int 4)) (wCs (wC (.int 2)) wN))) (wCs (wTup (wCs (wC (.int 4)) (wCs (wC (.int 3)) wN))) wN))))))))) (gSet 3))
  (uSeq (uAsg (wCall g__law_take (aW 1 (aC (wV 3) aN))) (gT 2 (gC (gSet 4) (gC (gSet 5) gN))))
  (uSeq (uAsg (wCall g__law_longest (aC (wV 4) (aC (wV 5) aN))) (gSet 6))
  (uSeq (uAsg (wLst (wCs (wCall g_longest_length (aC (wV 4) (aC (wV 5) aN))) (wCs (wCallK g_longest_length [1, 0] (aC (wV 5) (aC (wV 4) aN))) wN))) (gSet 7))
  (uSeq (uIf (wTst (wOp fNe (oE (wCB fRepr (osC (oV 7) osN))) (oE (wCB fRepr (osC (oE (wLst (wCs (wV 6) (wCs (wV 6) wN)))) osN)))))
  (uRet (wC (.bool false)))
  uNext)
  (uSeq (uAsg (wLst (wCs (wOp fAdd (oE (wC (.int 1))) (oE (wCall g__law_dip (aW 1 (aC (wC (.int 4)) aN))))) (wCs (wOp fAdd (oE (wC (.int 2))) (oE (wCall g__law_dip (aW 1 (aC (wC (.int 7)) aN))))) wN))) (gSet 8))
  (uSeq (uIf (wTst (wOp fNe (oE (wCall g_longest_length (aC (wOp fSub_ (oV 8) (oE (wC (.int 0)))) (aC (wOp fSub_ (oV 8) (oE (wC (.int 1)))) aN)))) (oE (wCall g__law_longest (aC (wOp fSub_ (oV 8) (oE (wC (.int 0)))) (aC (wOp fSub_ (oV 8) (oE (wC (.int 1)))) aN))))))
  (uRet (wC (.bool false)))
  uNext)
  (uSeq (uPar2 9 10 (zE (wLst (wCs (wC (.str "")) wN))) (zE (wC (.int 0))))
  (uSeq (uAsg (wCall g__law_dip (aW 1 (aC (wC (.int 11)) aN))) (gSet 11))
  (uSeq (uWhile [] (tAndD (wTst (wOp fLt (oV 10) (oV 11))) (wTst (wOp fLt (oE (wCB fLen (osC (oV 9) osN))) (oE (wC (.int 130))))))
  (uPar2 9 10 (zE (wCall g__law_grown (aC (wV 9) (aC (wV 4) (aC (wV 5) aN))))) (zE (wOp fAdd (oV 10) (oE (wC (.int 1)))))))
  (uSeqM (uAsg (wIf (wTst (wOp fLt (oE (wCB fLen (osC (oV 9) osN))) (oE (wC (.int 401))))) (wTup (wCs (wC (.str "told")) (wCs (wCB fTuple (osC (oV 9) osN)) wN))) (wTup (wCs (wC (.str "many")) (wCs (wC (.int 400)) wN)))) (gSet 12))
  (uSeq (uIf (wTst (wOp fNe (oE (wCB fRepr (osC (oE (wCall g__law_heard (aC (wV 4) (aC (wV 10) (aC (wV 5) (aC (wOp fEq (oV 2) (oE (wC (.int 1)))) aN)))))) osN))) (oE (wCB fRepr (osC (oV 12) osN)))))
  (uRet (wC (.bool false)))
  uNext)
  (uSeqM (uIf (wTst (wOp fNotN (oV 6) (oE (wC .none))))
  (uSeq (uAsg (wOp fAdd (oE (wOp fAdd (oV 6) (oE (wC (.int 1))))) (oE (wCall g__law_dip (aW 1 (aC (wOp fSub (oE (wC (.int 40))) (oV 6)) aN))))) (gSet 13))
  (uSeq (uIf (wTst (wOp fNe (oE (wCall g__law_heard (aC (wV 4) (aC (wV 13) (aC (wV 5) (aC (wC (.bool false)) aN)))))) (oE (wTup (wCs (wC (.str "told")) (wCs (wTup wN) wN))))))
  (uRet (wC (.bool false)))
  uNext)
  (uIf (wTst (wOp fNotN (oE (wCall g_least_count_free (aC (wV 4) (aC (wV 13) (aC (wV 5) aN))))) (oE (wC .none))))
  (uRet (wC (.bool false)))
  uNext)))
  uNext)
  (uSeqM (uAsg (wCall g__law_dip (aW 1 (aC (wIf (wTst (wOp fLt (oE (wOp fMul (oV 4) (oV 5))) (oE (wC (.int 9))))) (wC (.int 9)) (wC (.int 14))) aN))) (gSet 14))
  (uSeq (uAsg (wCall g__law_least (aC (wV 4) (aC (wV 14) (aC (wV 5) aN)))) (gSet 15))
  (uSeq (uAsg (wCall g_least_count_free (aC (wV 4) (aC (wV 14) (aC (wV 5) aN)))) (gSet 7))
  (uSeqM (uIf (wTst (wOp fEq (oV 2) (oE (wC (.int 0)))))
  (uAsg (wCallK g_least_count_free [2, 1, 0] (aC (wV 5) (aC (wV 14) (aC (wV 4) aN)))) (gSet 7))
  uNext)
  (uIf (wTst (wOp fNe (oE (wCB fRepr (osC (oV 7) osN))) (oE (wCB fRepr (osC (oV 15) osN)))))
  (uRet (wC (.bool false)))
  uNext)))))))))))))))))))
  (uRet (wC (.bool true))))
theorem uL_eq : uL_law = u_law := by with_unfolding_all rfl
theorem law_parts : ∃ (py pg pp pc spos : Pos) (rest : List Stmt), defBody s_law = .Assign [.Name "well" py] (.Call (.Name "_law_well" pg) [.Name "script" pp] [] pc) spos :: rest ∧ (∀ {P : Program} {w : World} {K : PySem.W.Frag} {mg : Str → Option Value} {base : Heap} (m_len : mg "len" = none) (m_range : mg "range" = none) (m_repr : mg "repr" = none) (m_tuple : mg "tuple" = none) (F__law_dip : Fn P w K mg base "_law_dip" s__law_dip ["well", "many"] 1 g__law_dip) (F__law_grown : Fn P w K mg base "_law_grown" s__law_grown ["words", "kinds", "order"] 4 g__law_grown) (F__law_heard : Fn P w K mg base "_law_heard" s__law_heard ["kinds", "length", "order", "is_named"] 5 g__law_heard) (F__law_least : Fn P w K mg base "_law_least" s__law_least ["kinds", "length", "order"] 5 g__law_least) (F__law_longest : Fn P w K mg base "_law_longest" s__law_longest ["kinds", "order"] 1 g__law_longest) (F__law_take : Fn P w K mg base "_law_take" s__law_take ["well", "items"] 2 g__law_take) (F_least_count_free : Fn P w K mg base "least_count_free" s_least_count_free ["kinds", "length", "order"] 4 g_least_count_free) (F_longest_length : Fn P w K mg base "longest_length" s_longest_length ["kinds", "order"] 1 g_longest_length) (cdv : Value) (s : Shared) (H : Hp) (f : Addr), Room 60 (callerA.deeper (envOfC "law" (defScope s_law) s.heap.objs.size f cdv)) → (callerA.deeper (envOfC "law" (defScope s_law) s.heap.objs.size f cdv)).guards = some [] →
    DSs (cxOf CX0 P w K mg base N_law "law" (defScope s_law) f cdv callerA [] s H E0).nox X0 rest uL_law) ∧ ∀ {P : Program} {w : World} {K : PySem.W.Frag} {mg : Str → Option Value} {base : Heap} (F : FnW P w K mg base "_law_well" 1 63 wellOf) (cdv : Value) (s : Shared) (H : Hp) (f : Addr), Room 60 (callerA.deeper (envOfC "law" (defScope s_law) s.heap.objs.size f cdv)) →
    ∃ t1 : TS, PS (cxOf CX0 P w K mg base N_law "law" (defScope s_law) f cdv callerA [] s H E0).nox (.Assign [.Name "well" py] (.Call (.Name "_law_well" pg) [.Name "script" pp] [] pc) spos) t1 ∧ ∀ (D : Ends) (σ : List (Option V)) (H : Hp), (∃ v, σ[0]? = some (some v) ∧ ∀ Q, (Q = fun u H2 => D.nx (σ.set 1 (some u)) H2) → spW K 63 wellOf [v] H Q E0) → t1 D σ H := by
  refine ⟨_, _, _, _, _, _, rfl, fun m_len m_range m_repr m_tuple F__law_dip F__law_grown F__law_heard F__law_least F__law_longest F__law_take F_least_count_free F_longest_length cdv s H f hr hg => ?_, fun F cdv s H f hr => ?_⟩
  · have hu := hr.units
    have hu5 : (callerA.deeper (envOfC "law" (defScope s_law) s.heap.objs.size f cdv)).units + 65 < cLine := by have := hr.un; omega
    exact (dSs_c (dS_for [2, 3, 4, 5, 6, 7, 8, 9, 10, 11, 12, 13, 14, 15] PassesOwn.never rfl (dI_r1 (by rfl) m_range (dOs_c (dO_e dE_int) dOs_n)) (dG_n sc_law.nd rfl (by first | exact .inl rfl | exact .inr rfl)) (dSs_c (dS_set (i := 3) sc_law.nd rfl (by first | exact .inl rfl | exact .inr rfl) (DF.toE (dF_lst (dL_c (dE_tup (dL_c dE_int (dL_c (dE_op hAdd dAdd (dO_e dE_int) (dO_e (dE_callF F__law_dip hr (by decide) (by rfl) (dA_w 1 (dA_c dE_int dA_n))))) dL_n))) (dL_c (dE_tup (dL_c dE_int (dL_c dE_int dL_n))) (dL_c (dE_tup (dL_c dE_int (dL_c dE_int dL_n))) (dL_c (dE_tup (dL_c dE_int (dL_c dE_int dL_n))) (dL_c (dE_tup (dL_c dE_int (dL_c dE_int dL_n))) (dL_c (dE_tup (dL_c dE_int (dL_c dE_int dL_n))) (dL_c (dE_tup (dL_c dE_int (dL_c dE_int dL_n))) (dL_c (dE_tup (dL_c dE_int (dL_c dE_int dL_n))) dL_n)))))))))))
    (dSs_c (dS_asg (dE_callF F__law_take hr (by decide) (by rfl) (dA_w 1 (dA_c (dE_v 3) dA_n))) (dG_t rfl (dGs_c (dG_n sc_law.nd rfl (by first | exact .inl rfl | exact .inr rfl)) (dGs_c (dG_n sc_law.nd rfl (by first | exact .inl rfl | exact .inr rfl)) dGs_n))))
    (dSs_c (dS_set (i := 6) sc_law.nd rfl (by first | exact .inl rfl | exact .inr rfl) (dE_callF F__law_longest hr (by decide) (by rfl) (dA_c (dE_v 4) (dA_c (dE_v 5) dA_n))))
    (dSs_c (dS_set (i := 7) sc_law.nd rfl (by first | exact .inl rfl | exact .inr rfl) (DF.toE (dF_lst (dL_c (dE_callF F_longest_length hr (by decide) (by rfl) (dA_c (dE_v 4) (dA_c (dE_v 5) dA_n))) (dL_c (dE_callKF (pi := [1, 0]) (ps := ["kinds", "order"]) (ks := ["order", "kinds"]) F_longest_length hr (by decide) (by rfl) (dK_c (dE_v 5) (dK_c (dE_v 4) dK_n)) (by decide) (fun _ _ _ _ _ _ ws hl => match ws, hl with | [], hl => absurd hl (by simp [perm]) | [a0], hl => absurd hl (by simp [perm]) | _ :: _ :: _, _ => rfl)) dL_n)))))
    (dSs_c (dS_if (dT_cmp (hNe hu) dNe (dO_e (dE_cb (call_repr hg hu) dRepr (by rfl) m_repr boot_repr (dOs_c (dO_v 7) dOs_n))) (dO_e (dE_cb (call_repr hg hu) dRepr (by rfl) m_repr boot_repr (dOs_c (dO_e (DF.toE (dF_lst (dL_c (dE_v 6) (dL_c (dE_v 6) dL_n))))) dOs_n))) (nomark _)) (dSs_1 (dS_ret dE_bl)) dSs_n)
    (dSs_c (dS_set (i := 8) sc_law.nd rfl (by first | exact .inl rfl | exact .inr rfl) (DF.toE (dF_lst (dL_c (dE_op hAdd dAdd (dO_e dE_int) (dO_e (dE_callF F__law_dip hr (by decide) (by rfl) (dA_w 1 (dA_c dE_int dA_n))))) (dL_c (dE_op hAdd dAdd (dO_e dE_int) (dO_e (dE_callF F__law_dip hr (by decide) (by rfl) (dA_w 1 (dA_c dE_int dA_n))))) dL_n)))))
    (dSs_c (dS_if (dT_cmp (hNe hu) dNe (dO_e (dE_callF F_longest_length hr (by decide) (by rfl) (dA_c (dE_sub (hu_of hr) (dO_v 8) (dO_e dE_int)) (dA_c (dE_sub (hu_of hr) (dO_v 8) (dO_e dE_int)) dA_n)))) (dO_e (dE_callF F__law_longest hr (by decide) (by rfl) (dA_c (dE_sub (hu_of hr) (dO_v 8) (dO_e dE_int)) (dA_c (dE_sub (hu_of hr) (dO_v 8) (dO_e dE_int)) dA_n)))) (nomark _)) (dSs_1 (dS_ret dE_bl)) dSs_n)
    (dSs_c (dS_par2 (i := 9) (j := 10) rfl sc_law.nd rfl rfl (by decide) rfl rfl (dZ_e (DF.toE (dF_lst (dL_c dE_str dL_n)))) (dZ_e dE_int))
    (dSs_c (dS_set (i := 11) sc_law.nd rfl (by first | exact .inl rfl | exact .inr rfl) (dE_callF F__law_dip hr (by decide) (by rfl) (dA_w 1 (dA_c dE_int dA_n))))
    (dSs_c (dS_while [] PassesOwn.never (DTW.t (dW_and (dT_cmp hLt dLt (dO_v 10) (dO_v 11) (nomark _)) (dW_and1 (dT_cmp hLt dLt (dO_e (dE_cb hLen dLen (by rfl) m_len PySem.boot_len (dOs_c (dO_v 9) dOs_n))) (dO_e dE_int) (nomark _))))) (dSs_1 (dS_par2 (i := 9) (j := 10) rfl sc_law.nd rfl rfl (by decide) rfl rfl (dZ_e (dE_callF F__law_grown hr (by decide) (by rfl) (dA_c (dE_v 9) (dA_c (dE_v 4) (dA_c (dE_v 5) dA_n))))) (dZ_e (dE_op hAdd dAdd (dO_v 10) (dO_e dE_int))))))
    (dSs_m (dS_set (i := 12) sc_law.nd rfl (by first | exact .inl rfl | exact .inr rfl) (dE_if (dT_cmp hLt dLt (dO_e (dE_cb hLen dLen (by rfl) m_len PySem.boot_len (dOs_c (dO_v 9) dOs_n))) (dO_e dE_int) (nomark _)) (dE_tup (dL_c dE_str (dL_c (dE_ct call_tuple_of dTuple (by rfl) m_tuple boot_tuple (dOs_c (dO_v 9) dOs_n)) dL_n))) (dE_tup (dL_c dE_str (dL_c dE_int dL_n)))))
    (dSs_c (dS_if (dT_cmp (hNe hu) dNe (dO_e (dE_cb (call_repr hg hu) dRepr (by rfl) m_repr boot_repr (dOs_c (dO_e (dE_callF F__law_heard hr (by decide) (by rfl) (dA_c (dE_v 4) (dA_c (dE_v 10) (dA_c (dE_v 5) (dA_c (dE_cmp (hEq hu) dEq (dO_v 2) (dO_e dE_int) (nomark _)) dA_n)))))) dOs_n))) (dO_e (dE_cb (call_repr hg hu) dRepr (by rfl) m_repr boot_repr (dOs_c (dO_v 12) dOs_n))) (nomark _)) (dSs_1 (dS_ret dE_bl)) dSs_n)
    (dSs_m (dS_if (dT_cmp op_notN dNotN (dO_v 6) (dO_e dE_non) (nomark _)) (dSs_c (dS_set (i := 13) sc_law.nd rfl (by first | exact .inl rfl | exact .inr rfl) (dE_op hAdd dAdd (dO_e (dE_op hAdd dAdd (dO_v 6) (dO_e dE_int))) (dO_e (dE_callF F__law_dip hr (by decide) (by rfl) (dA_w 1 (dA_c (dE_op op_sub dSub (dO_e dE_int) (dO_v 6)) dA_n))))))
    (dSs_c (dS_if (dT_cmp (hNe hu) dNe (dO_e (dE_callF F__law_heard hr (by decide) (by rfl) (dA_c (dE_v 4) (dA_c (dE_v 13) (dA_c (dE_v 5) (dA_c dE_bl dA_n)))))) (dO_e (dE_tup (dL_c dE_str (dL_c (dE_tup dL_n) dL_n)))) (nomark _)) (dSs_1 (dS_ret dE_bl)) dSs_n)
    (dSs_1 (dS_if (dT_cmp op_notN dNotN (dO_e (dE_callF F_least_count_free hr (by decide) (by rfl) (dA_c (dE_v 4) (dA_c (dE_v 13) (dA_c (dE_v 5) dA_n))))) (dO_e dE_non) (nomark _)) (dSs_1 (dS_ret dE_bl)) dSs_n)))) dSs_n)
    (dSs_m (dS_set (i := 14) sc_law.nd rfl (by first | exact .inl rfl | exact .inr rfl) (dE_callF F__law_dip hr (by decide) (by rfl) (dA_w 1 (dA_c (dE_if (dT_cmp hLt dLt (dO_e (dE_op hMul dMul (dO_v 4) (dO_v 5))) (dO_e dE_int) (nomark _)) dE_int dE_int) dA_n))))
    (dSs_c (dS_set (i := 15) sc_law.nd rfl (by first | exact .inl rfl | exact .inr rfl) (dE_callF F__law_least hr (by decide) (by rfl) (dA_c (dE_v 4) (dA_c (dE_v 14) (dA_c (dE_v 5) dA_n)))))
    (dSs_c (dS_set (i := 7) sc_law.nd rfl (by first | exact .inl rfl | exact .inr rfl) (dE_callF F_least_count_free hr (by decide) (by rfl) (dA_c (dE_v 4) (dA_c (dE_v 14) (dA_c (dE_v 5) dA_n)))))
    (dSs_m (dS_if (dT_cmp (hEq hu) dEq (dO_v 2) (dO_e dE_int) (nomark _)) (dSs_1 (dS_set (i := 7) sc_law.nd rfl (by first | exact .inl rfl | exact .inr rfl) (dE_callKF (pi := [2, 1, 0]) (ps := ["kinds", "length", "order"]) (ks := ["order", "length", "kinds"]) F_least_count_free hr (by decide) (by rfl) (dK_c (dE_v 5) (dK_c (dE_v 14) (dK_c (dE_v 4) dK_n))) (by decide) (fun _ _ _ _ _ _ ws hl => match ws, hl with | [], hl => absurd hl (by simp [perm]) | [a0], hl => absurd hl (by simp [perm]) | [a0, a1], hl => absurd hl (by simp [perm]) | _ :: _ :: _ :: _, _ => rfl)))) dSs_n)
    (dSs_1 (dS_if (dT_cmp (hNe hu) dNe (dO_e (dE_cb (call_repr hg hu) dRepr (by rfl) m_repr boot_repr (dOs_c (dO_v 7) dOs_n))) (dO_e (dE_cb (call_repr hg hu) dRepr (by rfl) m_repr boot_repr (dOs_c (dO_v 15) dOs_n))) (nomark _)) (dSs_1 (dS_ret dE_bl)) dSs_n))))))))))))))))))))
    (dSs_1 (dS_ret dE_bl)))
  · obtain ⟨fw, fdw, ps, hm, kp, hb, ok⟩ := F.ex
    refine ⟨_, ps_set (i := 1) sc_law.nd rfl (by first | exact .inl rfl | exact .inr rfl) (pe_call ok (hr.mono (by decide)) (by rfl) hm kp hb .nil pass0 (pa_cons (pv 0) pa_nil)), fun D σ H h => ?_⟩
    obtain ⟨v, h1, h2⟩ := h
    refine ⟨v, h1, ?_⟩
    exact h2 _ rfl
theorem ok_law {fa : Addr} {fd : FuncData} (F : Fun K "law" "law" s_law fa fd) (hb : ∀ (s : Shared) (u : Value), BindsTo s fd ⟨[u], []⟩ [("script", u)]) (m_len : mg "len" = none) (m_range : mg "range" = none) (m_repr : mg "repr" = none) (m_tuple : mg "tuple" = none) (F__law_dip : Fn P w K mg base "_law_dip" s__law_dip ["well", "many"] 1 g__law_dip) (F__law_grown : Fn P w K mg base "_law_grown" s__law_grown ["words", "kinds", "order"] 4 g__law_grown) (F__law_heard : Fn P w K mg base "_law_heard" s__law_heard ["kinds", "length", "order", "is_named"] 5 g__law_heard) (F__law_least : Fn P w K mg base "_law_least" s__law_least ["kinds", "length", "order"] 5 g__law_least) (F__law_longest : Fn P w K mg base "_law_longest" s__law_longest ["kinds", "order"] 1 g__law_longest) (F__law_take : Fn P w K mg base "_law_take" s__law_take ["well", "items"] 2 g__law_take) (F_least_count_free : Fn P w K mg base "least_count_free" s_least_count_free ["kinds", "length", "order"] 4 g_least_count_free) (F_longest_length : Fn P w K mg base "longest_length" s_longest_length ["kinds", "order"] 1 g_longest_length) (W : FnW P w K mg base "_law_well" 1 63 wellOf) : LawOk P w K mg base fa 63 := by
  obtain ⟨py, pg, pp, pc, spos, rest, hbd, hp, hq⟩ := law_parts
  have room : ∀ (s : Shared) (cdv : Value), Room 60 (callerA.deeper (envOfC "law" (defScope s_law) s.heap.objs.size fa cdv)) := fun s cdv => Room.deeper ⟨rfl, by decide, by decide⟩ _
  exact law_ofD F sc_law (by decide) hb hbd W (by decide) rfl (by decide) rfl (fun cdv s H => ⟨uL_law, hp m_len m_range m_repr m_tuple F__law_dip F__law_grown F__law_heard F__law_least F__law_longest F__law_take F_least_count_free F_longest_length cdv s H fa (room s cdv) rfl, fun ns hn => by rw [uL_eq]; exact pf_law _ (wellOf_ok ns)⟩) fun cdv s H => hq W cdv s H fa (room s cdv)
theorem all_mk {w : World} {K : PySem.W.Frag} {h : Heap} {mg : Str → Option Value} {fa : Addr} (X : K.In h) (G : h.Ns mainGlobals mg) (hfa : mg "law" = some (.ref fa))
    {f0 : Addr} {od0 an0 : Option Addr} {sl0 : Array (Option Value)} {oc0 kV0 dc0 pm0 cd0 ct0 : Value} (a0 : PySem.W.nsIn K mainGlobals "counts_of" = some (some (.ref f0))) (l0 : K.lookup f0 = some ⟨oc0, od0, .func (PySem.W.fnOf "counts_of" "counts_of" (defArgs s_counts_of) (defBody s_counts_of) (defScope s_counts_of) .none kV0 dc0 pm0 an0 cd0 ct0), sl0⟩) (c0 : PySem.W.codeIn K cd0 "counts_of" = true) (k0 : PySem.W.keepIn K (.ref f0) = true)
    {f1 : Addr} {od1 an1 : Option Addr} {sl1 : Array (Option Value)} {oc1 kV1 dc1 pm1 cd1 ct1 : Value} (a1 : PySem.W.nsIn K mainGlobals "longest_length" = some (some (.ref f1))) (l1 : K.lookup f1 = some ⟨oc1, od1, .func (PySem.W.fnOf "longest_length" "longest_length" (defArgs s_longest_length) (defBody s_longest_length) (defScope s_longest_length) .none kV1 dc1 pm1 an1 cd1 ct1), sl1⟩) (c1 : PySem.W.codeIn K cd1 "longest_length" = true) (k1 : PySem.W.keepIn K (.ref f1) = true)
    {f2 : Addr} {od2 an2 : Option Addr} {sl2 : Array (Option Value)} {oc2 kV2 dc2 pm2 cd2 ct2 : Value} (a2 : PySem.W.nsIn K mainGlobals "_law_dip" = some (some (.ref f2))) (l2 : K.lookup f2 = some ⟨oc2, od2, .func (PySem.W.fnOf "_law_dip" "_law_dip" (defArgs s__law_dip) (defBody s__law_dip) (defScope s__law_dip) .none kV2 dc2 pm2 an2 cd2 ct2), sl2⟩) (c2 : PySem.W.codeIn K cd2 "_law_dip" = true) (k2 : PySem.W.keepIn K (.ref f2) = true)
    {f3 : Addr} {od3 an3 : Option Addr} {sl3 : Array (Option Value)} {oc3 kV3 dc3 pm3 cd3 ct3 : Value} (a3 : PySem.W.nsIn K mainGlobals "_law_counts" = some (some (.ref f3))) (l3 : K.lookup f3 = some ⟨oc3, od3, .func (PySem.W.fnOf "_law_counts" "_law_counts" (defArgs s__law_counts) (defBody s__law_counts) (defScope s__law_counts) .none kV3 dc3 pm3 an3 cd3 ct3), sl3⟩) (c3 : PySem.W.codeIn K cd3 "_law_counts" = true) (k3 : PySem.W.keepIn K (.ref f3) = true)
    {f4 : Addr} {od4 an4 : Option Addr} {sl4 : Array (Option Value)} {oc4 kV4 dc4 pm4 cd4 ct4 : Value} (a4 : PySem.W.nsIn K mainGlobals "_law_longest" = some (some (.ref f4))) (l4 : K.lookup f4 = some ⟨oc4, od4, .func (PySem.W.fnOf "_law_longest" "_law_longest" (defArgs s__law_longest) (defBody s__law_longest) (defScope s__law_longest) .none kV4 dc4 pm4 an4 cd4 ct4), sl4⟩) (c4 : PySem.W.codeIn K cd4 "_law_longest" = true) (k4 : PySem.W.keepIn K (.ref f4) = true)
    {f5 : Addr} {od5 an5 : Option Addr} {sl5 : Array (Option Value)} {oc5 kV5 dc5 pm5 cd5 ct5 : Value} (a5 : PySem.W.nsIn K mainGlobals "are_pieces_like" = some (some (.ref f5))) (l5 : K.lookup f5 = some ⟨oc5, od5, .func (PySem.W.fnOf "are_pieces_like" "are_pieces_like" (defArgs s_are_pieces_like) (defBody s_are_pieces_like) (defScope s_are_pieces_like) .none kV5 dc5 pm5 an5 cd5 ct5), sl5⟩) (c5 : PySem.W.codeIn K cd5 "are_pieces_like" = true) (k5 : PySem.W.keepIn K (.ref f5) = true)
    {f6 : Addr} {od6 an6 : Option Addr} {sl6 : Array (Option Value)} {oc6 kV6 dc6 pm6 cd6 ct6 : Value} (a6 : PySem.W.nsIn K mainGlobals "_law_take" = some (some (.ref f6))) (l6 : K.lookup f6 = some ⟨oc6, od6, .func (PySem.W.fnOf "_law_take" "_law_take" (defArgs s__law_take) (defBody s__law_take) (defScope s__law_take) .none kV6 dc6 pm6 an6 cd6 ct6), sl6⟩) (c6 : PySem.W.codeIn K cd6 "_law_take" = true) (k6 : PySem.W.keepIn K (.ref f6) = true)
    {f7 : Addr} {od7 an7 : Option Addr} {sl7 : Array (Option Value)} {oc7 kV7 dc7 pm7 cd7 ct7 : Value} (a7 : PySem.W.nsIn K mainGlobals "_law_like" = some (some (.ref f7))) (l7 : K.lookup f7 = some ⟨oc7, od7, .func (PySem.W.fnOf "_law_like" "_law_like" (defArgs s__law_like) (defBody s__law_like) (defScope s__law_like) .none kV7 dc7 pm7 an7 cd7 ct7), sl7⟩) (c7 : PySem.W.codeIn K cd7 "_law_like" = true) (k7 : PySem.W.keepIn K (.ref f7) = true)
    {f8 : Addr} {od8 an8 : Option Addr} {sl8 : Array (Option Value)} {oc8 kV8 dc8 pm8 cd8 ct8 : Value} (a8 : PySem.W.nsIn K mainGlobals "ends_count_free" = some (some (.ref f8))) (l8 : K.lookup f8 = some ⟨oc8, od8, .func (PySem.W.fnOf "ends_count_free" "ends_count_free" (defArgs s_ends_count_free) (defBody s_ends_count_free) (defScope s_ends_count_free) .none kV8 dc8 pm8 an8 cd8 ct8), sl8⟩) (c8 : PySem.W.codeIn K cd8 "ends_count_free" = true) (k8 : PySem.W.keepIn K (.ref f8) = true)
    {f9 : Addr} {od9 an9 : Option Addr} {sl9 : Array (Option Value)} {oc9 kV9 dc9 pm9 cd9 ct9 : Value} (a9 : PySem.W.nsIn K mainGlobals "_law_ends_free" = some (some (.ref f9))) (l9 : K.lookup f9 = some ⟨oc9, od9, .func (PySem.W.fnOf "_law_ends_free" "_law_ends_free" (defArgs s__law_ends_free) (defBody s__law_ends_free) (defScope s__law_ends_free) .none kV9 dc9 pm9 an9 cd9 ct9), sl9⟩) (c9 : PySem.W.codeIn K cd9 "_law_ends_free" = true) (k9 : PySem.W.keepIn K (.ref f9) = true)
    {f10 : Addr} {od10 an10 : Option Addr} {sl10 : Array (Option Value)} {oc10 kV10 dc10 pm10 cd10 ct10 : Value} (a10 : PySem.W.nsIn K mainGlobals "count_free" = some (some (.ref f10))) (l10 : K.lookup f10 = some ⟨oc10, od10, .func (PySem.W.fnOf "count_free" "count_free" (defArgs s_count_free) (defBody s_count_free) (defScope s_count_free) .none kV10 dc10 pm10 an10 cd10 ct10), sl10⟩) (c10 : PySem.W.codeIn K cd10 "count_free" = true) (k10 : PySem.W.keepIn K (.ref f10) = true)
    {f11 : Addr} {od11 an11 : Option Addr} {sl11 : Array (Option Value)} {oc11 kV11 dc11 pm11 cd11 ct11 : Value} (a11 : PySem.W.nsIn K mainGlobals "least_count_free" = some (some (.ref f11))) (l11 : K.lookup f11 = some ⟨oc11, od11, .func (PySem.W.fnOf "least_count_free" "least_count_free" (defArgs s_least_count_free) (defBody s_least_count_free) (defScope s_least_count_free) .none kV11 dc11 pm11 an11 cd11 ct11), sl11⟩) (c11 : PySem.W.codeIn K cd11 "least_count_free" = true) (k11 : PySem.W.keepIn K (.ref f11) = true)
    {f12 : Addr} {od12 an12 : Option Addr} {sl12 : Array (Option Value)} {oc12 kV12 dc12 pm12 cd12 ct12 : Value} (a12 : PySem.W.nsIn K mainGlobals "_law_grown" = some (some (.ref f12))) (l12 : K.lookup f12 = some ⟨oc12, od12, .func (PySem.W.fnOf "_law_grown" "_law_grown" (defArgs s__law_grown) (defBody s__law_grown) (defScope s__law_grown) .none kV12 dc12 pm12 an12 cd12 ct12), sl12⟩) (c12 : PySem.W.codeIn K cd12 "_law_grown" = true) (k12 : PySem.W.keepIn K (.ref f12) = true)
    {f13 : Addr} {od13 an13 : Option Addr} {sl13 : Array (Option Value)} {oc13 kV13 dc13 pm13 cd13 ct13 : Value} (a13 : PySem.W.nsIn K mainGlobals "_law_least" = some (some (.ref f13))) (l13 : K.lookup f13 = some ⟨oc13, od13, .func (PySem.W.fnOf "_law_least" "_law_least" (defArgs s__law_least) (defBody s__law_least) (defScope s__law_least) .none kV13 dc13 pm13 an13 cd13 ct13), sl13⟩) (c13 : PySem.W.codeIn K cd13 "_law_least" = true) (k13 : PySem.W.keepIn K (.ref f13) = true)
    {f14 : Addr} {od14 an14 : Option Addr} {sl14 : Array (Option Value)} {oc14 kV14 dc14 pm14 cd14 ct14 : Value} (a14 : PySem.W.nsIn K mainGlobals "_law_heard" = some (some (.ref f14))) (l14 : K.lookup f14 = some ⟨oc14, od14, .func (PySem.W.fnOf "_law_heard" "_law_heard" (defArgs s__law_heard) (defBody s__law_heard) (defScope s__law_heard) .none kV14 dc14 pm14 an14 cd14 ct14), sl14⟩) (c14 : PySem.W.codeIn K cd14 "_law_heard" = true) (k14 : PySem.W.keepIn K (.ref f14) = true)
    {f15 : Addr} {od15 an15 : Option Addr} {sl15 : Array (Option Value)} {oc15 kV15 dc15 pm15 cd15 ct15 : Value} (a15 : PySem.W.nsIn K mainGlobals "_law_well" = some (some (.ref f15))) (l15 : K.lookup f15 = some ⟨oc15, od15, .func (PySem.W.fnOf "_law_well" "_law_well" (defArgs s__law_well) (defBody s__law_well) (defScope s__law_well) .none kV15 dc15 pm15 an15 cd15 ct15), sl15⟩) (c15 : PySem.W.codeIn K cd15 "_law_well" = true) (k15 : PySem.W.keepIn K (.ref f15) = true)
    {f16 : Addr} {od16 an16 : Option Addr} {sl16 : Array (Option Value)} {oc16 kV16 dc16 pm16 cd16 ct16 : Value} (a16 : PySem.W.nsIn K mainGlobals "law" = some (some (.ref f16))) (l16 : K.lookup f16 = some ⟨oc16, od16, .func (PySem.W.fnOf "law" "law" (defArgs s_law) (defBody s_law) (defScope s_law) .none kV16 dc16 pm16 an16 cd16 ct16), sl16⟩) (c16 : PySem.W.codeIn K cd16 "law" = true) (k16 : PySem.W.keepIn K (.ref f16) = true)
    (z_abs : PySem.W.nsIn K mainGlobals "abs" = some none)
    (z_all : PySem.W.nsIn K mainGlobals "all" = some none)
    (z_any : PySem.W.nsIn K mainGlobals "any" = some none)
    (z_int : PySem.W.nsIn K mainGlobals "int" = some none)
    (z_isinstance : PySem.W.nsIn K mainGlobals "isinstance" = some none)
    (z_len : PySem.W.nsIn K mainGlobals "len" = some none)
    (z_range : PySem.W.nsIn K mainGlobals "range" = some none)
    (z_repr : PySem.W.nsIn K mainGlobals "repr" = some none)
    (z_tuple : PySem.W.nsIn K mainGlobals "tuple" = some none)
    {v_ENOUGH : Value} (e_ENOUGH : PySem.W.nsIn K mainGlobals "ENOUGH" = some (some v_ENOUGH)) (rc_ENOUGH : L2.RelV (.int 4000) v_ENOUGH)
    {v_LETTERS : Value} (e_LETTERS : PySem.W.nsIn K mainGlobals "LETTERS" = some (some v_LETTERS)) (rc_LETTERS : L2.RelV (.str "abcd") v_LETTERS)
    {v_MAX_LISTED : Value} (e_MAX_LISTED : PySem.W.nsIn K mainGlobals "MAX_LISTED" = some (some v_MAX_LISTED)) (rc_MAX_LISTED : L2.RelV (.int 400) v_MAX_LISTED)
    {C_TooMany : Addr}
    (aC_TooMany : PySem.W.nsIn K mainGlobals "TooMany" = some (some (.ref C_TooMany)))
    {WEa nW : Addr} {nmW qW : Str} {bsW snW_ : List Value} {snW : List Str} {abW : Bool} {colW : Option Bool} {ddW : Option Addr} {lW0 lW1 lW2 lW3 lW5 : Option Value}
    {n_TooMany cc_TooMany cda_TooMany fI_TooMany : Addr} {nm_TooMany q_TooMany qual_TooMany : Str} {bs_TooMany sub_TooMany : List Value} {sn_TooMany : List Str} {ab_TooMany : Bool} {col_TooMany : Option Bool} {dd_TooMany od_TooMany an_TooMany cdd_TooMany cld_TooMany : Option Addr} {k0_TooMany k1_TooMany k2_TooMany k3_TooMany k5_TooMany : Option Value} {oc_TooMany kV_TooMany doc_TooMany pm_TooMany ct_TooMany ccl_TooMany cl_TooMany : Value} {osl_TooMany ccs_TooMany csl_TooMany : Array (Option Value)} {vs_TooMany : Array Value} {file_TooMany : Str} {tf_TooMany : Tok} {p0_TooMany p1_TooMany p2_TooMany p3_TooMany p4_TooMany p5_TooMany p6_TooMany p7_TooMany q1_TooMany q2_TooMany q3_TooMany q4_TooMany : Pos}
    (xL_TooMany : K.lookup C_TooMany = some (excClassObj nm_TooMany q_TooMany C_TooMany n_TooMany bs_TooMany (.ref WEa :: bmV) true sn_TooMany sub_TooMany ab_TooMany col_TooMany dd_TooMany k0_TooMany k1_TooMany k2_TooMany k3_TooMany k5_TooMany "ValueError.__new__"))
    (xW : K.lookup WEa = some (excClassObj nmW qW WEa nW bsW bmV true snW snW_ abW colW ddW lW0 lW1 lW2 lW3 lW5 "ValueError.__new__"))
    (iW : PySem.W.findIn K (.ref WEa) "__init__" = some (some (.builtin "ValueError.__init__")))
    (opq : PySem.W.nsIn K PySem.cStatics "thirdparty.any" = some none)
    (zsup : PySem.W.nsIn K mainGlobals "super" = some none)
    (sa_TooMany : PySem.W.findIn K (.ref C_TooMany) "__setattr__" = some (some (.builtin "object.__setattr__")))
    (exC_TooMany : PySem.W.subIn K (.ref C_TooMany) (.type "BaseException") = some true)
    (tyC_TooMany : PySem.W.typeIn K (.ref C_TooMany) = some (.type "type"))
    (kC_TooMany : PySem.W.keepIn K (.ref C_TooMany) = true)
    (iC_TooMany : PySem.W.findIn K (.ref C_TooMany) "__init__" = some (some (.ref fI_TooMany)))
    (tI_TooMany : PySem.W.typeIn K (.ref fI_TooMany) = some (.type "function"))
    (sB_TooMany : PySem.W.subIn K (.ref C_TooMany) (.type "ValueError") = some true)
    (sC_TooMany : PySem.W.mroIn K C_TooMany (.ref C_TooMany) = some true)
    (noN_TooMany : PySem.W.findIn K (.ref C_TooMany) "limit" = some none)
    (lI_TooMany : K.lookup fI_TooMany = some ⟨oc_TooMany, od_TooMany, .func (PySem.W.fnX "__init__" qual_TooMany (ixA [("self", p5_TooMany), ("limit", p6_TooMany)]) [ixS p0_TooMany p1_TooMany p2_TooMany p3_TooMany p4_TooMany [.Name "limit" p7_TooMany], .Assign [.Attribute (.Name "self" q1_TooMany) "limit" q2_TooMany] (.Name "limit" q3_TooMany) q4_TooMany] (ixC ["self", "limit"]) [("__class__", cc_TooMany)] .none kV_TooMany doc_TooMany pm_TooMany an_TooMany (.ref cda_TooMany) ct_TooMany), osl_TooMany⟩)
    (cI_TooMany : PySem.W.codeIn K (.ref cda_TooMany) qual_TooMany = true)
    (lc_TooMany : K.lookup cc_TooMany = some ⟨cl_TooMany, cld_TooMany, .cell (some (.ref C_TooMany)), csl_TooMany⟩)
    (ld_TooMany : K.lookup cda_TooMany = some ⟨ccl_TooMany, cdd_TooMany, .fields vs_TooMany, ccs_TooMany⟩)
    (hv_TooMany : vs_TooMany[2]? = some (.str file_TooMany tf_TooMany))
    (hl_TooMany : (p2_TooMany.endLine == p3_TooMany.line) = true)
    (hf_TooMany : ((PySem.Challenge.pw_wordstems_k83_whole_count_free.main.file : Str) == file_TooMany) = true)
    {C_Unfit : Addr}
    (aC_Unfit : PySem.W.nsIn K mainGlobals "Unfit" = some (some (.ref C_Unfit)))
    (ga_TooMany : PySem.W.findIn K (.ref C_TooMany) "__getattribute__" = some (some (.builtin "BaseException.__getattribute__")))
    (gg_TooMany : PySem.W.findIn K (.ref C_TooMany) "__getattr__" = some none)
    (hd_TooMany : PySem.W.hasDictIn K C_TooMany = true)
    (gc_TooMany : PySem.W.findIn K (.ref C_TooMany) "__class__" = some (some (.builtin "object.__class__")))
    (ocg : PySem.W.specialIn K (.builtin "object.__class__") "__get__" = some (some (.builtin "getset_descriptor.__get__")))
    (oct : PySem.W.takesIn K (.builtin "object.__class__") = some true)
    (mo_TooMany : PySem.W.mroIn K C_TooMany (.type "object") = some true)
    (ss_TooMany : PySem.W.subIn K (.ref C_TooMany) (.ref C_TooMany) = some true)
    (ne_TooMany_Unfit : (Value.ref C_TooMany == Value.ref C_Unfit) = false)
    (iD_Unfit : PySem.W.isClsIn K C_Unfit = true)
    (tyC_Unfit : PySem.W.typeIn K (.ref C_Unfit) = some (.type "type"))
    (sD_TooMany_Unfit : PySem.W.subIn K (.ref C_TooMany) (.ref C_Unfit) = some false)
    : ∀ base : Heap, K.In base → base.Ns mainGlobals mg → LawOk PySem.Challenge.pw_wordstems_k83_whole_count_free w K mg base fa 63 := by
  have e := hfa.symm.trans (PySem.W.mg_of X G a16)
  cases e
  intro base _ _
  have C_TooMany_ : LimC PySem.Challenge.pw_wordstems_k83_whole_count_free K mg := ⟨_, _, _, _, _, _, _, _, _, _, _, _, _, _, sxC_mk (P := PySem.Challenge.pw_wordstems_k83_whole_count_free) (mg := mg) xL_TooMany xW iW sa_TooMany exC_TooMany tyC_TooMany kC_TooMany iC_TooMany tI_TooMany sB_TooMany sC_TooMany opq (PySem.W.mg_none_of X G zsup) (by first | rfl | decide +kernel) lI_TooMany cI_TooMany lc_TooMany ld_TooMany hv_TooMany hf_TooMany, hl_TooMany, noN_TooMany, PySem.W.mg_of X G aC_TooMany⟩
  have C_try_TooMany_Unfit_ : TryC K mg "TooMany" "Unfit" := tryC_mk (PySem.W.mg_of X G aC_TooMany) (PySem.W.mg_of X G aC_Unfit) ga_TooMany gg_TooMany exC_TooMany hd_TooMany gc_TooMany ocg oct mo_TooMany tyC_TooMany ss_TooMany noN_TooMany ne_TooMany_Unfit iD_Unfit tyC_Unfit sD_TooMany_Unfit
  have m_abs := PySem.W.mg_none_of X G z_abs
  have m_all := PySem.W.mg_none_of X G z_all
  have m_any := PySem.W.mg_none_of X G z_any
  have m_int := PySem.W.mg_none_of X G z_int
  have m_isinstance := PySem.W.mg_none_of X G z_isinstance
  have m_len := PySem.W.mg_none_of X G z_len
  have m_range := PySem.W.mg_none_of X G z_range
  have m_repr := PySem.W.mg_none_of X G z_repr
  have m_tuple := PySem.W.mg_none_of X G z_tuple
  have mc_ENOUGH := PySem.W.mg_of X G e_ENOUGH
  have mc_LETTERS := PySem.W.mg_of X G e_LETTERS
  have mc_MAX_LISTED := PySem.W.mg_of X G e_MAX_LISTED
  have R_counts_of : Raw K mg "counts_of" s_counts_of ["word"] := Raw.mk' (fun_mk l0 c0 k0) (PySem.W.mg_of X G a0) (fun _ _ _ _ _ _ us hl => match us, hl with | [_], _ => rfl)
  have R_longest_length : Raw K mg "longest_length" s_longest_length ["kinds", "order"] := Raw.mk' (fun_mk l1 c1 k1) (PySem.W.mg_of X G a1) (fun _ _ _ _ _ _ us hl => match us, hl with | [_, _], _ => rfl)
  have R__law_dip : Raw K mg "_law_dip" s__law_dip ["well", "many"] := Raw.mk' (fun_mk l2 c2 k2) (PySem.W.mg_of X G a2) (fun _ _ _ _ _ _ us hl => match us, hl with | [_, _], _ => rfl)
  have R__law_counts : Raw K mg "_law_counts" s__law_counts ["word"] := Raw.mk' (fun_mk l3 c3 k3) (PySem.W.mg_of X G a3) (fun _ _ _ _ _ _ us hl => match us, hl with | [_], _ => rfl)
  have R__law_longest : Raw K mg "_law_longest" s__law_longest ["kinds", "order"] := Raw.mk' (fun_mk l4 c4 k4) (PySem.W.mg_of X G a4) (fun _ _ _ _ _ _ us hl => match us, hl with | [_, _], _ => rfl)
  have R_are_pieces_like : Raw K mg "are_pieces_like" s_are_pieces_like ["word", "place", "size", "order"] := Raw.mk' (fun_mk l5 c5 k5) (PySem.W.mg_of X G a5) (fun _ _ _ _ _ _ us hl => match us, hl with | [_, _, _, _], _ => rfl)
  have R__law_take : Raw K mg "_law_take" s__law_take ["well", "items"] := Raw.mk' (fun_mk l6 c6 k6) (PySem.W.mg_of X G a6) (fun _ _ _ _ _ _ us hl => match us, hl with | [_, _], _ => rfl)
  have R__law_like : Raw K mg "_law_like" s__law_like ["word", "place", "size", "order"] := Raw.mk' (fun_mk l7 c7 k7) (PySem.W.mg_of X G a7) (fun _ _ _ _ _ _ us hl => match us, hl with | [_, _, _, _], _ => rfl)
  have R_ends_count_free : Raw K mg "ends_count_free" s_ends_count_free ["word", "order"] := Raw.mk' (fun_mk l8 c8 k8) (PySem.W.mg_of X G a8) (fun _ _ _ _ _ _ us hl => match us, hl with | [_, _], _ => rfl)
  have R__law_ends_free : Raw K mg "_law_ends_free" s__law_ends_free ["word", "order"] := Raw.mk' (fun_mk l9 c9 k9) (PySem.W.mg_of X G a9) (fun _ _ _ _ _ _ us hl => match us, hl with | [_, _], _ => rfl)
  have R_count_free : Raw K mg "count_free" s_count_free ["kinds", "length", "order"] := Raw.mk' (fun_mk l10 c10 k10) (PySem.W.mg_of X G a10) (fun _ _ _ _ _ _ us hl => match us, hl with | [_, _, _], _ => rfl)
  have R_least_count_free : Raw K mg "least_count_free" s_least_count_free ["kinds", "length", "order"] := Raw.mk' (fun_mk l11 c11 k11) (PySem.W.mg_of X G a11) (fun _ _ _ _ _ _ us hl => match us, hl with | [_, _, _], _ => rfl)
  have R__law_grown : Raw K mg "_law_grown" s__law_grown ["words", "kinds", "order"] := Raw.mk' (fun_mk l12 c12 k12) (PySem.W.mg_of X G a12) (fun _ _ _ _ _ _ us hl => match us, hl with | [_, _, _], _ => rfl)
  have R__law_least : Raw K mg "_law_least" s__law_least ["kinds", "length", "order"] := Raw.mk' (fun_mk l13 c13 k13) (PySem.W.mg_of X G a13) (fun _ _ _ _ _ _ us hl => match us, hl with | [_, _, _], _ => rfl)
  have R__law_heard : Raw K mg "_law_heard" s__law_heard ["kinds", "length", "order", "is_named"] := Raw.mk' (fun_mk l14 c14 k14) (PySem.W.mg_of X G a14) (fun _ _ _ _ _ _ us hl => match us, hl with | [_, _, _, _], _ => rfl)
  have R__law_well : Raw K mg "_law_well" s__law_well ["script"] := Raw.mk' (fun_mk l15 c15 k15) (PySem.W.mg_of X G a15) (fun _ _ _ _ _ _ us hl => match us, hl with | [_], _ => rfl)
  have F_counts_of := ok_counts_of (P := PySem.Challenge.pw_wordstems_k83_whole_count_free) (w := w) (base := base) R_counts_of m_tuple mc_LETTERS rc_LETTERS
  have F_longest_length := ok_longest_length (P := PySem.Challenge.pw_wordstems_k83_whole_count_free) (w := w) (base := base) R_longest_length 
  have F__law_dip := ok__law_dip (P := PySem.Challenge.pw_wordstems_k83_whole_count_free) (w := w) (base := base) R__law_dip m_int
  have F__law_counts := ok__law_counts (P := PySem.Challenge.pw_wordstems_k83_whole_count_free) (w := w) (base := base) R__law_counts m_tuple
  have F__law_longest := ok__law_longest (P := PySem.Challenge.pw_wordstems_k83_whole_count_free) (w := w) (base := base) R__law_longest 
  have F_are_pieces_like := ok_are_pieces_like (P := PySem.Challenge.pw_wordstems_k83_whole_count_free) (w := w) (base := base) R_are_pieces_like m_all m_len m_range F_counts_of
  have F__law_take := ok__law_take (P := PySem.Challenge.pw_wordstems_k83_whole_count_free) (w := w) (base := base) R__law_take m_len F__law_dip
  have F__law_like := ok__law_like (P := PySem.Challenge.pw_wordstems_k83_whole_count_free) (w := w) (base := base) R__law_like m_range F__law_counts
  have F_ends_count_free := ok_ends_count_free (P := PySem.Challenge.pw_wordstems_k83_whole_count_free) (w := w) (base := base) R_ends_count_free m_any m_len m_range F_are_pieces_like
  have F__law_ends_free := ok__law_ends_free (P := PySem.Challenge.pw_wordstems_k83_whole_count_free) (w := w) (base := base) R__law_ends_free m_len m_range F__law_like
  have F_count_free := ok_count_free (P := PySem.Challenge.pw_wordstems_k83_whole_count_free) (w := w) (base := base) R_count_free m_len m_range m_tuple F_ends_count_free C_TooMany_ mc_ENOUGH rc_ENOUGH mc_LETTERS rc_LETTERS mc_MAX_LISTED rc_MAX_LISTED
  have F_least_count_free := ok_least_count_free (P := PySem.Challenge.pw_wordstems_k83_whole_count_free) (w := w) (base := base) R_least_count_free m_len F_ends_count_free mc_LETTERS rc_LETTERS
  have F__law_grown := ok__law_grown (P := PySem.Challenge.pw_wordstems_k83_whole_count_free) (w := w) (base := base) R__law_grown F__law_ends_free
  have F__law_least := ok__law_least (P := PySem.Challenge.pw_wordstems_k83_whole_count_free) (w := w) (base := base) R__law_least m_len F__law_grown
  have F__law_heard := ok__law_heard (P := PySem.Challenge.pw_wordstems_k83_whole_count_free) (w := w) (base := base) R__law_heard m_isinstance F_count_free C_try_TooMany_Unfit_
  have W := ok_well (P := PySem.Challenge.pw_wordstems_k83_whole_count_free) (w := w) (base := base) R__law_well m_abs m_int m_len
  exact ok_law (fun_mk l16 c16 k16) (fun s u => .of_eq rfl) m_len m_range m_repr m_tuple F__law_dip F__law_grown F__law_heard F__law_least F__law_longest F__law_take F_least_count_free F_longest_length W
end
end DL
open PySem PySem.W PyProof.Rows
set_option maxHeartbeats 0 in
theorem PySem.Challenge.cw_wordstems_k83_whole_count_free_holds : PySem.Challenge.rw_wordstems_k83_whole_count_free.Holds := by
  w_on; o_law; k_head; (case hw => w_witness2)
  k_fill
  refine DL.walkG (l := PySem.Challenge.rw_wordstems_k83_whole_count_free) (n := 63) rfl (by decide) rfl (fun w h Y => PySem.W.kIn_of Y) ?F
  case F =>
    intro w mg fa h KX G hmg
    refine' DL.all_mk KX G hmg ?a0 ?l0 ?c0 ?k0 ?a1 ?l1 ?c1 ?k1 ?a2 ?l2 ?c2 ?k2 ?a3 ?l3 ?c3 ?k3 ?a4 ?l4 ?c4 ?k4 ?a5 ?l5 ?c5 ?k5 ?a6 ?l6 ?c6 ?k6 ?a7 ?l7 ?c7 ?k7 ?a8 ?l8 ?c8 ?k8 ?a9 ?l9 ?c9 ?k9 ?a10 ?l10 ?c10 ?k10 ?a11 ?l11 ?c11 ?k11 ?a12 ?l12 ?c12 ?k12 ?a13 ?l13 ?c13 ?k13 ?a14 ?l14 ?c14 ?k14 ?a15 ?l15 ?c15 ?k15 ?a16 ?l16 ?c16 ?k16 ?z_abs ?z_all ?z_any ?z_int ?z_isinstance ?z_len ?z_range ?z_repr ?z_tuple ?e_ENOUGH ?rc_ENOUGH ?e_LETTERS ?rc_LETTERS ?e_MAX_LISTED ?rc_MAX_LISTED ?aC_TooMany ?xL_TooMany ?xW ?iW ?opq ?zsup ?sa_TooMany ?exC_TooMany ?tyC_TooMany ?kC_TooMany ?iC_TooMany ?tI_TooMany ?sB_TooMany ?sC_TooMany ?noN_TooMany ?lI_TooMany ?cI_TooMany ?lc_TooMany ?ld_TooMany ?hv_TooMany ?hl_TooMany ?hf_TooMany ?aC_Unfit ?ga_TooMany ?gg_TooMany ?hd_TooMany ?gc_TooMany ?ocg ?oct ?mo_TooMany ?ss_TooMany ?ne_TooMany_Unfit ?iD_Unfit ?tyC_Unfit ?sD_TooMany_Unfit
    (case a0 => k_is); (case l0 => k_is); (case c0 => k_is); (case k0 => k_is); (case a1 => k_is); (case l1 => k_is); (case c1 => k_is); (case k1 => k_is); (case a2 => k_is); (case l2 => k_is); (case c2 => k_is); (case k2 => k_is); (case a3 => k_is); (case l3 => k_is); (case c3 => k_is); (case k3 => k_is); (case a4 => k_is); (case l4 => k_is); (case c4 => k_is); (case k4 => k_is); (case a5 => k_is); (case l5 => k_is); (case c5 => k_is); (case k5 => k_is); (case a6 => k_is); (case l6 => k_is); (case c6 => k_is); (case k6 => k_is); (case a7 => k_is); (case l7 => k_is); (case c7 => k_is); (case k7 => k_is); (case a8 => k_is); (case l8 => k_is); (case c8 => k_is); (case k8 => k_is); (case a9 => k_is); (case l9 => k_is); (case c9 => k_is); (case k9 => k_is); (case a10 => k_is); (case l10 => k_is); (case c10 => k_is); (case k10 => k_is); (case a11 => k_is); (case l11 => k_is); (case c11 => k_is); (case k11 => k_is); (case a12 => k_is); (case l12 => k_is); (case c12 => k_is); (case k12 => k_is); (case a13 => k_is); (case l13 => k_is); (case c13 => k_is); (case k13 => k_is); (case a14 => k_is); (case l14 => k_is); (case c14 => k_is); (case k14 => k_is); (case a15 => k_is); (case l15 => k_is); (case c15 => k_is); (case k15 => k_is); (case a16 => k_is); (case l16 => k_is); (case c16 => k_is); (case k16 => k_is); (case z_abs => k_is); (case z_all => k_is); (case z_any => k_is); (case z_int => k_is); (case z_isinstance => k_is); (case z_len => k_is); (case z_range => k_is); (case z_repr => k_is); (case z_tuple => k_is); (case e_ENOUGH => k_is); (case rc_ENOUGH => exact ⟨_, rfl⟩); (case e_LETTERS => k_is); (case rc_LETTERS => exact ⟨_, rfl⟩); (case e_MAX_LISTED => k_is); (case rc_MAX_LISTED => exact ⟨_, rfl⟩); (case aC_TooMany => k_is); (case xL_TooMany => k_is); (case xW => k_is); (case iW => k_is); (case opq => k_is); (case zsup => k_is); (case sa_TooMany => k_is); (case exC_TooMany => k_is); (case tyC_TooMany => k_is); (case kC_TooMany => k_is); (case iC_TooMany => k_is); (case tI_TooMany => k_is); (case sB_TooMany => k_is); (case sC_TooMany => k_is); (case noN_TooMany => k_is); (case lI_TooMany => k_is); (case cI_TooMany => k_is); (case lc_TooMany => k_is); (case ld_TooMany => k_is); (case hv_TooMany => first | rfl | with_unfolding_all rfl); (case hl_TooMany => first | rfl | decide); (case hf_TooMany => first | rfl | decide +kernel); (case aC_Unfit => k_is); (case ga_TooMany => k_is); (case gg_TooMany => k_is); (case hd_TooMany => k_is); (case gc_TooMany => k_is); (case ocg => k_is); (case oct => k_is); (case mo_TooMany => k_is); (case ss_TooMany => k_is); (case ne_TooMany_Unfit => first | rfl | decide); (case iD_Unfit => k_is); (case tyC_Unfit => k_is); (case sD_TooMany_Unfit => k_is)
