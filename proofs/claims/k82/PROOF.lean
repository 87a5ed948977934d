import PyProof.Rows.All
import Wide.All
import OpenK.AllK
import Wide.FinOn
import HandS.ForMost
import HandS.ForExc
import HandS.Wide
import HandS.Codes
import HandS.StrMore
import HandS.TupAny
import HandS.TupLen
import HandS.TupSets
import HandS.Zip
import HandS.SortInts
import KE.KRevSl
import HandS.Small
import KE.DataCmp
import HandS.ReplaceList
import HandS.Replace
import PyProof.ListStr
import PySem.Challenge.RW_wordstems_k82_whole_count_powers
set_option Elab.async false
set_option linter.all false
set_option maxRecDepth 100000
set_option maxHeartbeats 4000001
set_option autoImplicit false
/-! DL0: plain data over the abstract heap. What a slot holds is plain data (PyData); frozen objects live in F, owned ones in H alone. -/
namespace DL
open PySem PySem.Spec L2 PyProof.Rows

/-! ### data and the heap -/
def kD : Key → PyData
  | .inl i => .int i
  | .inr x => .str x
mutual
inductive DV (K : PySem.W.Frag) (F : Hp) : V → PyData → Prop
  | non : DV K F .non .none
  | bl (b : Bool) : DV K F (.bl b) (.bool b)
  | int (i : Int) : DV K F (.int i) (.int i)
  | str (x : Str) : DV K F (.str x) (.str x)
  | lst {a : Addr} {xs : List V} {ds : List PyData} : F a = some (.lst xs) → DVs K F xs ds → DV K F (.ref a) (.list ds)
  | tup {a : Addr} {xs : List V} {ds : List PyData} : F a = some (.tup xs) → DVs K F xs ds → DV K F (.ref a) (.tuple ds)
  | dic {a : Addr} {ks : List (Key × V)} {kvs : List (PyData × PyData)} : Rd F a (.dK ks) → kvs.map (·.1) = ks.map (fun p => kD p.1) → DVs K F (ks.map (·.2)) (kvs.map (·.2)) → DV K F (.ref a) (.dict kvs)
  | dit {a : Addr} {ks : List (List Key × V)} {kvs : List (PyData × PyData)} : Rd F a (.dT ks) → kvs.map (·.1) = ks.map (fun p => .tuple (p.1.map kD)) → DVs K F (ks.map (·.2)) (kvs.map (·.2)) → DV K F (.ref a) (.dict ((.none, .none) :: kvs))
inductive DVs (K : PySem.W.Frag) (F : Hp) : List V → List PyData → Prop
  | nil : DVs K F [] []
  | cons {v : V} {vs : List V} {d : PyData} {ds : List PyData} : DV K F v d → DVs K F vs ds → DVs K F (v :: vs) (d :: ds)
end
section
variable {K : PySem.W.Frag} {F F' H : Hp} {v : V} {vs ws : List V} {d : PyData} {ds es : List PyData}
theorem sameRd {a : Addr} {u : HO} (h : Same F F') (r : Rd F a u) : Rd F' a u := by
  rcases r with r | ⟨o, r⟩
  · exact .inl (h _ _ r)
  · exact .inr ⟨o, h _ _ r⟩
theorem sameL {a : Addr} {xs : List V} (h : Same F F') (r : SqL K F a xs) : SqL K F' a xs := r.imp (sameRd h) id
theorem sameT {a : Addr} {xs : List V} (h : Same F F') (r : SqT K F a xs) : SqT K F' a xs := r.imp (sameRd h) id
mutual
theorem DV.mono (h : Same F F') : ∀ (d : PyData) (v : V), DV K F v d → DV K F' v d
  | .none, _, .non => .non
  | .bool b, _, .bl _ => .bl b
  | .int i, _, .int _ => .int i
  | .str x, _, .str _ => .str x
  | .list ds, _, .lst r q => .lst (h _ _ r) (DVs.mono h ds _ q)
  | .tuple ds, _, .tup r q => .tup (h _ _ r) (DVs.mono h ds _ q)
  | .dict kvs, _, .dic r e q => .dic (sameRd h r) e (DVs.monoK h kvs _ q)
  | .dict ((_, _) :: kvs), _, .dit r e q => .dit (sameRd h r) e (DVs.monoK h kvs _ q)
theorem DVs.mono (h : Same F F') : ∀ (ds : List PyData) (vs : List V), DVs K F vs ds → DVs K F' vs ds
  | [], _, .nil => .nil
  | d :: ds, _, .cons r q => .cons (DV.mono h d _ r) (DVs.mono h ds _ q)
theorem DVs.monoK (h : Same F F') : ∀ (kvs : List (PyData × PyData)) (vs : List V), DVs K F vs (kvs.map (·.2)) → DVs K F' vs (kvs.map (·.2))
  | [], _, .nil => .nil
  | (a, d) :: ds, _, .cons r q => .cons (DV.mono h d _ r) (DVs.monoK h ds _ q)
end
theorem DV.same (h : Same F F') (x : DV K F v d) : DV K F' v d := DV.mono h d v x
theorem DVs.same (h : Same F F') (x : DVs K F vs ds) : DVs K F' vs ds := DVs.mono h ds vs x
theorem DVs.len : ∀ {vs : List V} {ds : List PyData}, DVs K F vs ds → vs.length = ds.length
  | _, _, .nil => rfl
  | _, _, .cons _ q => by simp [DVs.len q]
theorem DVs.app : ∀ {vs ws : List V} {ds es : List PyData}, DVs K F vs ds → DVs K F ws es → DVs K F (vs ++ ws) (ds ++ es)
  | _, _, _, _, .nil, q => q
  | _, _, _, _, .cons r s, q => .cons r (DVs.app s q)
theorem DVs.get : ∀ {vs : List V} {ds : List PyData} {i : Nat} {d : PyData}, DVs K F vs ds → ds[i]? = some d → ∃ v, vs[i]? = some v ∧ DV K F v d
  | _, _, i, _, .nil, e => by simp at e
  | _, _, 0, _, .cons r s, e => by simp at e; subst e; exact ⟨_, rfl, r⟩
  | _, _, i + 1, _, .cons r s, e => by
    obtain ⟨v, h1, h2⟩ := DVs.get (i := i) s (by simpa using e)
    exact ⟨v, by simpa using h1, h2⟩
theorem DVs.getV : ∀ {vs : List V} {ds : List PyData} {i : Nat} {v : V}, DVs K F vs ds → vs[i]? = some v → ∃ d, ds[i]? = some d ∧ DV K F v d
  | _, _, i, _, .nil, e => by simp at e
  | _, _, 0, _, .cons r s, e => by simp at e; subst e; exact ⟨_, rfl, r⟩
  | _, _, i + 1, _, .cons r s, e => by
    obtain ⟨v, h1, h2⟩ := DVs.getV (i := i) s (by simpa using e)
    exact ⟨v, by simpa using h1, h2⟩
theorem DVs.take : ∀ {vs : List V} {ds : List PyData} (n : Nat), DVs K F vs ds → DVs K F (vs.take n) (ds.take n)
  | _, _, 0, _ => .nil
  | _, _, n + 1, .nil => .nil
  | _, _, n + 1, .cons r s => .cons r (DVs.take n s)
theorem DVs.drop : ∀ {vs : List V} {ds : List PyData} (n : Nat), DVs K F vs ds → DVs K F (vs.drop n) (ds.drop n)
  | _, _, 0, q => q
  | _, _, n + 1, .nil => .nil
  | _, _, n + 1, .cons r s => DVs.drop n s
theorem DVs.set : ∀ {vs : List V} {ds : List PyData} {v : V} {d : PyData} (i : Nat), DVs K F vs ds → DV K F v d → DVs K F (vs.set i v) (ds.set i d)
  | _, _, _, _, _, .nil, _ => .nil
  | _, _, _, _, 0, .cons _ s, r => .cons r s
  | _, _, _, _, i + 1, .cons q s, r => .cons q (DVs.set i s r)
theorem DVs.erase : ∀ {vs : List V} {ds : List PyData} (i : Nat), DVs K F vs ds → DVs K F (vs.eraseIdx i) (ds.eraseIdx i)
  | _, _, _, .nil => .nil
  | _, _, 0, .cons _ s => s
  | _, _, i + 1, .cons q s => .cons q (DVs.erase i s)
theorem DVs.rev : ∀ {vs : List V} {ds : List PyData}, DVs K F vs ds → DVs K F vs.reverse ds.reverse
  | _, _, .nil => .nil
  | _, _, .cons q s => by rw [List.reverse_cons, List.reverse_cons]; exact (DVs.rev s).app (.cons q .nil)
theorem DVs.ints : ∀ {vs : List V} {ns : List Int}, DVs K F vs (ns.map PyData.int) → vs = ns.map V.int
  | _, [], .nil => rfl
  | _, n :: ns, .cons (.int _) s => by rw [DVs.ints s]; rfl
theorem DVs.ofInts : ∀ {ns : List Int}, DVs K F (ns.map V.int) (ns.map PyData.int)
  | [] => .nil
  | n :: ns => .cons (.int n) DVs.ofInts
theorem DVs.strs : ∀ {vs : List V} {ns : List Str}, DVs K F vs (ns.map PyData.str) → vs = ns.map V.str
  | _, [], .nil => rfl
  | _, n :: ns, .cons (.str _) s => by rw [DVs.strs s]; rfl
theorem DVs.ofStrs : ∀ {ns : List Str}, DVs K F (ns.map V.str) (ns.map PyData.str)
  | [] => .nil
  | n :: ns => .cons (.str n) DVs.ofStrs
theorem DVs.bools : ∀ {vs : List V} {ns : List Bool}, DVs K F vs (ns.map PyData.bool) → vs = ns.map V.bl
  | _, [], .nil => rfl
  | _, n :: ns, .cons (.bl _) s => by rw [DVs.bools s]; rfl
/-! no dict within -/
mutual
def flat : PyData → Bool
  | .none | .bool _ | .int _ | .str _ => true
  | .list xs | .tuple xs => flats xs
  | .dict _ => false
def flats : List PyData → Bool
  | [] => true
  | x :: xs => flat x && flats xs
end
mutual
theorem DV.dp : ∀ (d : PyData) (v : V), flat d = true → DV K F v d → Dp K F v d
  | .none, _, _, .non => .non
  | .bool b, _, _, .bl _ => .bl b
  | .int i, _, _, .int _ => .int i
  | .str x, _, _, .str _ => .str x
  | .list ds, _, h, .lst r q => .lst (SqL.of r) (DVs.dp ds _ (by simpa [flat] using h) q)
  | .tuple ds, _, h, .tup r q => .tup (SqT.of r) (DVs.dp ds _ (by simpa [flat] using h) q)
theorem DVs.dp : ∀ (ds : List PyData) (vs : List V), flats ds = true → DVs K F vs ds → DpAll K F vs ds
  | [], _, _, .nil => .nil
  | d :: ds, _, h, .cons r q => by
    simp only [flats, Bool.and_eq_true] at h
    exact .cons (DV.dp d _ h.1 r) (DVs.dp ds _ h.2 q)
end
end

/-! ### the memory of a def: its slots by plain data, the well -/
inductive Ent where
  | im (d : PyData)
  | ow (d : PyData)
  | ro (d : PyData)
  | wel
  | scr (ns : List Int)
structure Wel where
  deep : List Int
  mix : Int
  drawn : Int
structure Mem where
  env : List (Option Ent)
  wl : Option Wel
def Mem.set (M : Mem) (i : Nat) (e : Ent) : Mem := ⟨M.env.set i (some e), M.wl⟩
def Mem.kill (M : Mem) : List Nat → Mem
  | [] => M
  | i :: is => let N := M.kill is; ⟨N.env.set i none, N.wl⟩
def Mem.view (M : Mem) (i : Nat) : Option PyData := match M.env[i]? with
  | some (some (.im d)) => some d
  | some (some (.ow d)) => some d
  | some (some (.ro d)) => some d
  | _ => none
def InW (W : Option (Addr × Addr)) (a : Addr) : Prop := match W with
  | none => False
  | some (q, r) => a = q ∨ a = r

/-- a list or a dict at p, its items frozen -/
inductive OwAt (K : PySem.W.Frag) (F H : Hp) (p : Addr) : PyData → Prop
  | lst {vs : List V} {ds : List PyData} : H p = some (.lst vs) → DVs K F vs ds → OwAt K F H p (.list ds)
  | dic {ks : List (Key × V)} {kvs : List (PyData × PyData)} : H p = some (.dK ks) → kvs.map (·.1) = ks.map (fun p => kD p.1) → DVs K F (ks.map (·.2)) (kvs.map (·.2)) → OwAt K F H p (.dict kvs)
  | dit {ks : List (List Key × V)} {kvs : List (PyData × PyData)} : H p = some (.dT ks) → kvs.map (·.1) = ks.map (fun p => .tuple (p.1.map kD)) → DVs K F (ks.map (·.2)) (kvs.map (·.2)) → OwAt K F H p (.dict ((.none, .none) :: kvs))
theorem OwAt.there {K : PySem.W.Frag} {F H : Hp} {p : Addr} {d : PyData} (h : OwAt K F H p d) : ∃ o, H p = some o := by
  cases h with
  | lst h _ => exact ⟨_, h⟩
  | dic h _ _ => exact ⟨_, h⟩
  | dit h _ _ => exact ⟨_, h⟩
theorem OwAt.move {K : PySem.W.Frag} {F F' H H' : Hp} {p : Addr} {d : PyData} (h : OwAt K F H p d) (s : Same F F') (e : H' p = H p) : OwAt K F' H' p d := by
  cases h with
  | lst h q => exact .lst (e.trans h) (q.same s)
  | dic h k q => exact .dic (e.trans h) k (q.same s)
  | dit h k q => exact .dit (e.trans h) k (q.same s)
theorem upd_dv {K : PySem.W.Frag} {F H : Hp} {p : Addr} {d : PyData} (h : OwAt K F H p d) (n : F p = none) : ∃ o, H p = some o ∧ DV K (upd F p o) (.ref p) d := by
  have s : ∀ o, Same F (upd F p o) := fun o b u e => by rw [upd_ne (ne_of_none e n)]; exact e
  cases h with
  | lst h q => exact ⟨_, h, .lst upd_same (q.same (s _))⟩
  | dic h k q => exact ⟨_, h, .dic (.inl upd_same) k (q.same (s _))⟩
  | dit h k q => exact ⟨_, h, .dit (.inl upd_same) k (q.same (s _))⟩

structure WelAt (H : Hp) (q r : Addr) (w : Wel) : Prop where
  dic : H q = some (.dK [(.inr "deep", .ref r), (.inr "mix", .int w.mix), (.inr "drawn", .int w.drawn)])
  lst : H r = some (.lst (w.deep.map V.int))
  ne : q ≠ r
def WelR (F H : Hp) : Option (Addr × Addr) → Option Wel → Prop
  | none, none => True
  | some (q, r), some w => WelAt H q r w ∧ F q = none ∧ F r = none
  | _, _ => False

def EntR (K : PySem.W.Frag) (H0 F H : Hp) (W : Option (Addr × Addr)) (v : V) : Ent → Prop
  | .im d => DV K F v d
  | .ow d => ∃ p, v = .ref p ∧ OwAt K F H p d ∧ F p = none ∧ H0 p = none ∧ ¬ InW W p
  | .ro d => ∃ p, v = .ref p ∧ OwAt K F H p d ∧ (∃ o, H0 p = some o) ∧ ¬ InW W p
  | .wel => ∃ q r, W = some (q, r) ∧ v = .ref q
  | .scr ns => ∃ a, v = .ref a ∧ SqL K F a (ns.map V.int)

/-- the state: F0, H0 at the def's entry; F what is frozen, H all that is tracked -/
structure Rel (K : PySem.W.Frag) (F0 H0 : Hp) (W : Option (Addr × Addr)) (M : Mem) (σ : List (Option V)) (F H : Hp) : Prop where
  sub : Same F H
  old : ∀ a o, H0 a = some o → ¬ InW W a → H a = some o
  fol : Same F0 F
  fnw : ∀ a o, F a = some o → F0 a = some o ∨ H0 a = none
  len : σ.length = M.env.length
  slt : ∀ (i : Nat) (e : Ent), M.env[i]? = some (some e) → ∃ v, σ[i]? = some (some v) ∧ EntR K H0 F H W v e
  dis : ∀ (i j : Nat) (d e : PyData) (v : V), i ≠ j → M.env[i]? = some (some (.ow d)) → M.env[j]? = some (some (.ow e)) → σ[i]? = some (some v) → σ[j]? ≠ some (some v)
  wel : WelR F H W M.wl
/-- new things alone -/
structure Grow (F H F' H' : Hp) : Prop where
  f : Same F F'
  h : Same H H'
  s : Same F' H'
  n : ∀ a o, F' a = some o → F a = some o ∨ H a = none
theorem same_upd {H : Hp} {p : Addr} {o : HO} (h : H p = none) : Same H (upd H p o) := fun b x e => by
  rw [upd_ne (ne_of_none e h)]
  exact e
theorem free_of {F H : Hp} {p : Addr} (s : Same F H) (n : H p = none) : F p = none := s.free n

section
variable {K : PySem.W.Frag} {F0 H0 F F' H H' : Hp} {W : Option (Addr × Addr)} {M : Mem} {σ : List (Option V)} {v : V} {d : PyData} {i : Nat} {p : Addr}
theorem Grow.refl (s : Same F H) : Grow F H F H := ⟨.refl _, .refl _, s, fun _ _ e => .inl e⟩
theorem Grow.trans {F1 H1 : Hp} (a : Grow F H F1 H1) (b : Grow F1 H1 F' H') : Grow F H F' H' := ⟨a.f.trans b.f, a.h.trans b.h, b.s, fun x o e => by
  rcases b.n x o e with z | z
  · exact a.n x o z
  · exact .inr (a.h.free z)⟩
/-- a new object that isn't frozen -/
theorem Grow.new (s : Same F H) (n : H p = none) {o : HO} : Grow F H F (upd H p o) := ⟨.refl _, same_upd n, s.trans (same_upd n), fun _ _ e => .inl e⟩
/-- a new object, frozen -/
theorem Grow.newF (s : Same F H) (n : H p = none) {o : HO} : Grow F H (upd F p o) (upd H p o) := ⟨same_upd (s.free n), same_upd n, fun b u e => by
  by_cases hb : b = p
  · subst hb; rw [upd_same] at e ⊢; exact e
  · rw [upd_ne hb] at e ⊢; exact s b u e, fun b u e => by
  by_cases hb : b = p
  · subst hb; exact .inr n
  · rw [upd_ne hb] at e; exact .inl e⟩
theorem WelR.grow {wl : Option Wel} (g : Grow F H F' H') : ∀ {W : Option (Addr × Addr)}, WelR F H W wl → WelR F' H' W wl := fun {W} h => by
  cases W with
  | none => cases wl <;> exact h
  | some z =>
    obtain ⟨q, r⟩ := z
    cases wl with
    | none => exact h
    | some w =>
      obtain ⟨a, b, c⟩ := h
      have fr : ∀ x, F x = none → (∃ o, H x = some o) → F' x = none := fun x e ⟨o, e2⟩ => by
        cases z : F' x with
        | none => rfl
        | some u =>
          rcases g.n x u z with y | y
          · rw [e] at y; cases y
          · rw [e2] at y; cases y
      exact ⟨⟨g.h _ _ a.dic, g.h _ _ a.lst, a.ne⟩, fr q b ⟨_, a.dic⟩, fr r c ⟨_, a.lst⟩⟩
theorem EntR.grow (g : Grow F H F' H') {e : Ent} (h : EntR K H0 F H W v e) : EntR K H0 F' H' W v e := by
  cases e with
  | im d => exact DV.same g.f h
  | wel => exact h
  | scr ns => obtain ⟨a, e, h⟩ := h; exact ⟨a, e, sameL g.f h⟩
  | ow d =>
    obtain ⟨p, rfl, o, n, n0, nw⟩ := h
    obtain ⟨u, hu⟩ := o.there
    refine ⟨p, rfl, o.move g.f ((g.h _ _ hu).trans hu.symm), ?_, n0, nw⟩
    cases z : F' p with
    | none => rfl
    | some y =>
      rcases g.n p y z with t | t
      · rw [n] at t; cases t
      · rw [hu] at t; cases t
  | ro d =>
    obtain ⟨p, rfl, o, n0, nw⟩ := h
    obtain ⟨u, hu⟩ := o.there
    exact ⟨p, rfl, o.move g.f ((g.h _ _ hu).trans hu.symm), n0, nw⟩
theorem Rel.grow (R : Rel K F0 H0 W M σ F H) (g : Grow F H F' H') : Rel K F0 H0 W M σ F' H' where
  sub := g.s
  old := fun a o e n => g.h _ _ (R.old a o e n)
  fol := R.fol.trans g.f
  fnw := fun a o e => by
    rcases g.n a o e with z | z
    · exact R.fnw a o z
    · by_cases q : H0 a = none
      · exact .inr q
      · cases y : H0 a with
        | none => exact absurd y q
        | some u =>
          by_cases iw : InW W a
          · -- the well stands
            exfalso
            have wl := R.wel
            cases W with
            | none => exact iw
            | some t =>
              obtain ⟨t1, t2⟩ := t
              cases hm : M.wl with
              | none => rw [hm] at wl; exact wl
              | some w =>
                rw [hm] at wl
                rcases iw with rfl | rfl
                · rw [wl.1.dic] at z; cases z
                · rw [wl.1.lst] at z; cases z
          · rw [R.old a u y iw] at z; cases z
  len := R.len
  slt := fun i e h => by
    obtain ⟨v, h1, h2⟩ := R.slt i e h
    exact ⟨v, h1, h2.grow g⟩
  dis := R.dis
  wel := R.wel.grow g
theorem Rel.lt (R : Rel K F0 H0 W M σ F H) {x : Option Ent} (h : M.env[i]? = some x) : i < σ.length := by
  rw [R.len]; exact (List.getElem?_eq_some_iff.mp h).1
theorem getSet {α : Type} {l : List α} {i j : Nat} {x y : α} (h : (l.set i x)[j]? = some y) : (i = j ∧ x = y) ∨ (i ≠ j ∧ l[j]? = some y) := by
  by_cases e : i = j
  · subst e
    have hl : i < l.length := by have := (List.getElem?_eq_some_iff.mp h).1; simpa using this
    rw [List.getElem?_set_self hl] at h
    exact .inl ⟨rfl, Option.some.inj h⟩
  · rw [List.getElem?_set_ne e] at h
    exact .inr ⟨e, h⟩
/-- a slot is stored: frozen data -/
theorem Rel.setIm (R : Rel K F0 H0 W M σ F H) (hd : DV K F v d) : Rel K F0 H0 W (M.set i (.im d)) (σ.set i (some v)) F H where
  sub := R.sub
  old := R.old
  fol := R.fol
  fnw := R.fnw
  len := by simp [Mem.set, R.len]
  slt := fun j e h => by
    rcases getSet h with ⟨rfl, he⟩ | ⟨ne, h⟩
    · cases he
      have hl : i < σ.length := by rw [R.len]; have := (List.getElem?_eq_some_iff.mp h).1; simpa [Mem.set] using this
      exact ⟨v, List.getElem?_set_self hl, hd⟩
    · obtain ⟨u, h1, h2⟩ := R.slt j e h
      exact ⟨u, by rw [List.getElem?_set_ne ne]; exact h1, h2⟩
  dis := fun a b x y u ne h1 h2 h3 h4 => by
    rcases getSet h1 with ⟨_, z⟩ | ⟨na, h1⟩
    · cases z
    rcases getSet h2 with ⟨_, z⟩ | ⟨nb, h2⟩
    · cases z
    rw [List.getElem?_set_ne na] at h3
    rw [List.getElem?_set_ne nb] at h4
    exact R.dis a b x y u ne h1 h2 h3 h4
  wel := R.wel
/-- what is owned by nobody yet -/
structure Fresh (K : PySem.W.Frag) (H0 : Hp) (W : Option (Addr × Addr)) (M : Mem) (σ : List (Option V)) (F H : Hp) (p : Addr) (d : PyData) : Prop where
  at_ : OwAt K F H p d
  nf : F p = none
  n0 : H0 p = none
  nw : ¬ InW W p
  ns : ∀ (i : Nat) (d : PyData), M.env[i]? = some (some (.ow d)) → σ[i]? ≠ some (some (.ref p))
theorem Rel.setOw (R : Rel K F0 H0 W M σ F H) (f : Fresh K H0 W M σ F H p d) : Rel K F0 H0 W (M.set i (.ow d)) (σ.set i (some (.ref p))) F H where
  sub := R.sub
  old := R.old
  fol := R.fol
  fnw := R.fnw
  len := by simp [Mem.set, R.len]
  slt := fun j e h => by
    rcases getSet h with ⟨rfl, he⟩ | ⟨ne, h⟩
    · cases he
      have hl : i < σ.length := by rw [R.len]; have := (List.getElem?_eq_some_iff.mp h).1; simpa [Mem.set] using this
      exact ⟨.ref p, List.getElem?_set_self hl, p, rfl, f.at_, f.nf, f.n0, f.nw⟩
    · obtain ⟨u, h1, h2⟩ := R.slt j e h
      exact ⟨u, by rw [List.getElem?_set_ne ne]; exact h1, h2⟩
  dis := fun a b x y u ne h1 h2 h3 h4 => by
    rcases getSet h1 with ⟨ha, z⟩ | ⟨na, h1⟩
    · subst ha
      rcases getSet h2 with ⟨hb, z⟩ | ⟨nb, h2⟩
      · exact ne hb
      rcases getSet h3 with ⟨_, z⟩ | ⟨z, _⟩
      · cases z
        rw [List.getElem?_set_ne nb] at h4
        exact f.ns b y h2 h4
      · exact z rfl
    · rw [List.getElem?_set_ne na] at h3
      rcases getSet h2 with ⟨hb, z⟩ | ⟨nb, h2⟩
      · subst hb
        rcases getSet h4 with ⟨_, z⟩ | ⟨z, _⟩
        · cases z
          exact f.ns a x h1 h3
        · exact z rfl
      · rw [List.getElem?_set_ne nb] at h4
        exact R.dis a b x y u ne h1 h2 h3 h4
  wel := R.wel
theorem getKill {is : List Nat} : ∀ {M : Mem} {j : Nat} {e : Ent}, (M.kill is).env[j]? = some (some e) → M.env[j]? = some (some e) := by
  induction is with
  | nil => exact fun h => h
  | cons i is ih =>
    intro M j e h
    rcases getSet (show ((M.kill is).env.set i none)[j]? = some (some e) from h) with ⟨_, z⟩ | ⟨_, h⟩
    · cases z
    · exact ih h
theorem killLen {is : List Nat} {M : Mem} : (M.kill is).env.length = M.env.length := by
  induction is with
  | nil => rfl
  | cons i is ih => show ((M.kill is).env.set i none).length = _; rw [List.length_set, ih]
theorem killWl {is : List Nat} {M : Mem} : (M.kill is).wl = M.wl := by
  induction is with
  | nil => rfl
  | cons i is ih => exact ih
/-- less is known -/
theorem Rel.weak {N : Mem} (R : Rel K F0 H0 W M σ F H) (hl : N.env.length = M.env.length) (h : ∀ (j : Nat) (e : Ent), N.env[j]? = some (some e) → M.env[j]? = some (some e)) (hw : N.wl = M.wl) : Rel K F0 H0 W N σ F H where
  sub := R.sub
  old := R.old
  fol := R.fol
  fnw := R.fnw
  len := R.len.trans hl.symm
  slt := fun j e k => R.slt j e (h j e k)
  dis := fun a b x y u ne h1 h2 h3 h4 => R.dis a b x y u ne (h _ _ h1) (h _ _ h2) h3 h4
  wel := by rw [hw]; exact R.wel
theorem Rel.kill (R : Rel K F0 H0 W M σ F H) (is : List Nat) : Rel K F0 H0 W (M.kill is) σ F H :=
  R.weak killLen (fun _ _ => getKill) killWl
theorem wipeGet {σ : List (Option V)} {vs : List Nat} {i : Nat} (h : i ∉ vs) : (wipe σ vs)[i]? = σ[i]? := wipe_out h
theorem killNot {M : Mem} {j : Nat} {e : Ent} : ∀ {is : List Nat}, (M.kill is).env[j]? = some (some e) → j ∉ is
  | [], _ => by simp
  | i :: is, h => by
    rcases getSet (show ((M.kill is).env.set i none)[j]? = some (some e) from h) with ⟨_, z⟩ | ⟨ne, h⟩
    · cases z
    · intro hm
      rcases List.mem_cons.mp hm with z | z
      · exact ne z.symm
      · exact killNot h z
theorem Rel.wipe (R : Rel K F0 H0 W M σ F H) (is : List Nat) : Rel K F0 H0 W (M.kill is) (wipe σ is) F H where
  sub := R.sub
  old := R.old
  fol := R.fol
  fnw := R.fnw
  len := by rw [wipe_length, killLen]; exact R.len
  slt := fun j e k => by
    rw [wipeGet (killNot k)]
    exact R.slt j e (getKill k)
  dis := fun a b x y u ne h1 h2 h3 h4 => by
    rw [wipeGet (killNot h1)] at h3
    rw [wipeGet (killNot h2)] at h4
    exact R.dis a b x y u ne (getKill h1) (getKill h2) h3 h4
  wel := by rw [killWl]; exact R.wel
end
end DL

/-! DL1: judgements over plain data; operators. -/
namespace DL
open PySem PySem.Spec L2 PyProof.Rows

abbrev Exn := Nat × Int
abbrev Xn := Exn → Mem → Prop
structure XP where
  W : WX
  XR : Exn → Value → Option Addr → Hp → Prop
abbrev X0 : XP := ⟨fun _ _ _ _ => False, fun _ _ _ _ => False⟩
def Lnk (K : PySem.W.Frag) (R : XP) (F0 H0 : Hp) (xn : Xn) : Prop :=
  ∀ W M σ F H e cls d, Rel K F0 H0 W M σ F H → R.XR e cls d H → xn e M → R.W cls d σ H
abbrev QD := PyData → Mem → Prop
abbrev WE := Xn → Mem → QD → Prop
abbrev WT := Xn → Mem → (Bool → Mem → Prop) → Prop

/-- an expression: its value frozen data -/
structure DE (X : Cx) (R : XP) (e : Expr) (w : WE) : Prop where
  ex : ∃ t : TE, PE X e t ∧ ∀ {F0 H0 F H : Hp} {W : Option (Addr × Addr)} {M : Mem} {σ : List (Option V)} {xn : Xn} {Q : QD} {k : VK}, Rel X.K F0 H0 W M σ F H → Lnk X.K R F0 H0 xn → w xn M Q →
    (∀ v d M' F' H', Same F F' → Rel X.K F0 H0 W M' σ F' H' → DV X.K F' v d → Q d M' → k v H') → t σ H k
/-- an expression that makes an object nobody else holds -/
structure DF (X : Cx) (R : XP) (e : Expr) (w : WE) : Prop where
  ex : ∃ t : TE, PE X e t ∧ ∀ {F0 H0 F H : Hp} {W : Option (Addr × Addr)} {M : Mem} {σ : List (Option V)} {xn : Xn} {Q : QD} {k : VK}, Rel X.K F0 H0 W M σ F H → Lnk X.K R F0 H0 xn → w xn M Q →
    (∀ p d M' F' H', Same F F' → Rel X.K F0 H0 W M' σ F' H' → Fresh X.K H0 W M' σ F' H' p d → Q d M' → k (.ref p) H') → t σ H k
structure DT (X : Cx) (R : XP) (e : Expr) (w : WT) : Prop where
  ex : ∃ t : TT, PT X e t ∧ ∀ {F0 H0 F H : Hp} {W : Option (Addr × Addr)} {M : Mem} {σ : List (Option V)} {xn : Xn} {Q : Bool → Mem → Prop} {k : Bool → Hp → Prop}, Rel X.K F0 H0 W M σ F H → Lnk X.K R F0 H0 xn → w xn M Q →
    (∀ b M' F' H', Same F F' → Rel X.K F0 H0 W M' σ F' H' → Q b M' → k b H') → t σ H k
structure DTW (X : Cx) (R : XP) (e : Expr) (w : WT) : Prop where
  ex : ∃ t : TT, PW X e t ∧ ∀ {F0 H0 F H : Hp} {W : Option (Addr × Addr)} {M : Mem} {σ : List (Option V)} {xn : Xn} {Q : Bool → Mem → Prop} {k : Bool → Hp → Prop}, Rel X.K F0 H0 W M σ F H → Lnk X.K R F0 H0 xn → w xn M Q →
    (∀ b M' F' H', Same F F' → Rel X.K F0 H0 W M' σ F' H' → Q b M' → k b H') → t σ H k
/-- an operand: a slot as it will stand, or frozen data -/
inductive Opd where
  | s (i : Nat)
  | x (dat : PyData)
def Opd.get : Opd → Mem → Option PyData
  | .s i, M => M.view i
  | .x y, _ => some y
def OpdR (K : PySem.W.Frag) (F : Hp) (σ : List (Option V)) (v : V) : Opd → Prop
  | .s i => σ[i]? = some (some v)
  | .x d => DV K F v d
abbrev QO := Opd → Mem → Prop
abbrev WO := Xn → Mem → QO → Prop
structure DO (X : Cx) (R : XP) (e : Expr) (w : WO) : Prop where
  ex : ∃ t : TE, PE X e t ∧ ∀ {F0 H0 F H : Hp} {W : Option (Addr × Addr)} {M : Mem} {σ : List (Option V)} {xn : Xn} {Q : QO} {k : VK}, Rel X.K F0 H0 W M σ F H → Lnk X.K R F0 H0 xn → w xn M Q →
    (∀ v o M' F' H', Same F F' → Rel X.K F0 H0 W M' σ F' H' → OpdR X.K F' σ v o → Q o M' → k v H') → t σ H k
inductive Arg where
  | x (dat : PyData)
  | wel
  | scr (ns : List Int)
def ArgR (K : PySem.W.Frag) (F : Hp) (W : Option (Addr × Addr)) (v : V) : Arg → Prop
  | .x d => DV K F v d
  | .wel => ∃ q r, W = some (q, r) ∧ v = .ref q
  | .scr ns => ∃ a, v = .ref a ∧ SqL K F a (ns.map V.int)
inductive ArgsR (K : PySem.W.Frag) (F : Hp) (W : Option (Addr × Addr)) : List V → List Arg → Prop
  | nil : ArgsR K F W [] []
  | cons {v : V} {vs : List V} {a : Arg} {as : List Arg} : ArgR K F W v a → ArgsR K F W vs as → ArgsR K F W (v :: vs) (a :: as)
abbrev QA := List Arg → Mem → Prop
abbrev WA := Xn → Mem → QA → Prop
structure DA (X : Cx) (R : XP) (es : List Expr) (w : WA) : Prop where
  ex : ∃ t : TA, PA X es t ∧ ∀ {F0 H0 F H : Hp} {W : Option (Addr × Addr)} {M : Mem} {σ : List (Option V)} {xn : Xn} {Q : QA} {k : List V → Hp → Prop}, Rel X.K F0 H0 W M σ F H → Lnk X.K R F0 H0 xn → w xn M Q →
    (∀ vs as M' F' H', Same F F' → Rel X.K F0 H0 W M' σ F' H' → ArgsR X.K F' W vs as → Q as M' → k vs H') → t σ H k

def View (K : PySem.W.Frag) (F H : Hp) (v : V) (d : PyData) : Prop := DV K F v d ∨ ∃ p, v = .ref p ∧ OwAt K F H p d
section
variable {K : PySem.W.Frag} {F0 H0 F F' H H' : Hp} {W : Option (Addr × Addr)} {M : Mem} {σ : List (Option V)} {v : V} {d : PyData} {i : Nat} {p : Addr}
theorem Rel.view (R : Rel K F0 H0 W M σ F H) (h : M.view i = some d) (hv : σ[i]? = some (some v)) : View K F H v d := by
  unfold Mem.view at h
  cases e : M.env[i]? with
  | none => rw [e] at h; cases h
  | some z =>
    rw [e] at h
    cases z with
    | none => cases h
    | some y =>
      obtain ⟨u, h1, h2⟩ := R.slt i y e
      rw [hv] at h1
      cases h1
      cases y with
      | im d' => cases h; exact .inl h2
      | ow d' => cases h; obtain ⟨p, rfl, o, _⟩ := h2; exact .inr ⟨p, rfl, o⟩
      | ro d' => cases h; obtain ⟨p, rfl, o, _⟩ := h2; exact .inr ⟨p, rfl, o⟩
      | wel => cases h
      | scr ns => cases h
theorem Rel.opd (R : Rel K F0 H0 W M σ F H) {o : Opd} (hv : OpdR K F σ v o) (h : o.get M = some d) : View K F H v d := by
  cases o with
  | s i => exact R.view (i := i) h hv
  | x d' => cases h; exact .inl hv
theorem OpdR.same {o : Opd} (s : Same F F') (h : OpdR K F σ v o) : OpdR K F' σ v o := by
  cases o with
  | s i => exact h
  | x d => exact DV.same s h
theorem View.int {n : Int} (h : View K F H v (.int n)) : v = .int n := by
  rcases h with h | ⟨p, rfl, h⟩
  · cases h; rfl
  · cases h
theorem View.str {x : Str} (h : View K F H v (.str x)) : v = .str x := by
  rcases h with h | ⟨p, rfl, h⟩
  · cases h; rfl
  · cases h
theorem View.bl {b : Bool} (h : View K F H v (.bool b)) : v = .bl b := by
  rcases h with h | ⟨p, rfl, h⟩
  · cases h; rfl
  · cases h
theorem View.non (h : View K F H v .none) : v = .non := by
  rcases h with h | ⟨p, rfl, h⟩
  · cases h; rfl
  · cases h
theorem View.list {ds : List PyData} (s : Same F H) (h : View K F H v (.list ds)) : ∃ p vs, v = .ref p ∧ H p = some (.lst vs) ∧ DVs K F vs ds := by
  rcases h with h | ⟨p, rfl, h⟩
  · cases h with
    | lst h q => exact ⟨_, _, rfl, s _ _ h, q⟩
  · cases h with
    | lst h q => exact ⟨_, _, rfl, h, q⟩
theorem View.tupP {ds : List PyData} (s : Same F H) (h : View K F H v (.tuple ds)) : ∃ p vs, v = .ref p ∧ H p = some (.tup vs) ∧ DVs K F vs ds := by
  rcases h with h | ⟨p, rfl, h⟩
  · cases h with
    | tup h q => exact ⟨_, _, rfl, s _ _ h, q⟩
  · cases h
theorem View.tup {ds : List PyData} (s : Same F H) (h : View K F H v (.tuple ds)) : ∃ p vs, v = .ref p ∧ SqT K H p vs ∧ DVs K F vs ds := by
  obtain ⟨p, vs, e, a, b⟩ := h.tupP s
  exact ⟨p, vs, e, SqT.of a, b⟩
theorem View.dp (s : Same F H) (h : View K F H v d) (fl : flat d = true) : Dp K H v d := by
  rcases h with h | ⟨p, rfl, h⟩
  · exact DV.dp d v fl (h.same s)
  · cases h with
    | lst h q => exact .lst (.inl (.inl h)) (DVs.dp _ _ (by simpa [flat] using fl) (q.same s))
    | dic _ _ _ => simp [flat] at fl
    | dit _ _ _ => simp [flat] at fl
theorem View.scal (h : View K F H v d) : (∀ n, d = .int n → v = .int n) ∧ (∀ n, d = .str n → v = .str n) ∧ (∀ n, d = .bool n → v = .bl n) ∧ (d = .none → v = .non) :=
  ⟨fun n e => by subst e; exact h.int, fun n e => by subst e; exact h.str, fun n e => by subst e; exact h.bl, fun e => by subst e; exact h.non⟩

/-- freezing what is fresh -/
theorem Rel.freeze (R : Rel K F0 H0 W M σ F H) (f : Fresh K H0 W M σ F H p d) : ∃ F', Same F F' ∧ Rel K F0 H0 W M σ F' H ∧ DV K F' (.ref p) d := by
  obtain ⟨o, ho, hd⟩ := upd_dv f.at_ f.nf
  have sm : Same F (upd F p o) := same_upd f.nf
  refine ⟨upd F p o, sm, ⟨fun b u e => ?_, R.old, R.fol.trans sm, fun b u e => ?_, R.len, fun i e h => ?_, R.dis, ?_⟩, hd⟩
  · by_cases hb : b = p
    · subst hb; rw [upd_same] at e; cases e; exact ho
    · rw [upd_ne hb] at e; exact R.sub _ _ e
  · by_cases hb : b = p
    · subst hb; exact .inr f.n0
    · rw [upd_ne hb] at e; exact R.fnw _ _ e
  · obtain ⟨v, h1, h2⟩ := R.slt i e h
    refine ⟨v, h1, ?_⟩
    cases e with
    | im d' => exact DV.same sm h2
    | wel => exact h2
    | scr ns => obtain ⟨a, e, h⟩ := h2; exact ⟨a, e, sameL sm h⟩
    | ow d' =>
      obtain ⟨q, rfl, a1, a2, a3, a4⟩ := h2
      have ne : q ≠ p := fun z => by subst z; exact f.ns i d' h h1
      exact ⟨q, rfl, a1.move sm rfl, by rw [upd_ne ne]; exact a2, a3, a4⟩
    | ro d' =>
      obtain ⟨q, rfl, a1, a2, a4⟩ := h2
      exact ⟨q, rfl, a1.move sm rfl, a2, a4⟩
  · have wl := R.wel
    cases W with
    | none => cases hm : M.wl <;> rw [hm] at wl <;> exact wl
    | some z =>
      obtain ⟨q, r⟩ := z
      cases hm : M.wl with
      | none => rw [hm] at wl; exact wl
      | some w =>
        rw [hm] at wl
        obtain ⟨a, b, c⟩ := wl
        have nq : q ≠ p := fun z => f.nw (by subst z; exact .inl rfl)
        have nr : r ≠ p := fun z => f.nw (by subst z; exact .inr rfl)
        exact ⟨a, by rw [upd_ne nq]; exact b, by rw [upd_ne nr]; exact c⟩
/-- a new object is fresh -/
theorem Rel.isFresh (R : Rel K F0 H0 W M σ F H) {o : HO} (n : H p = none) (ha : OwAt K F (upd H p o) p d) : Rel K F0 H0 W M σ F (upd H p o) ∧ Fresh K H0 W M σ F (upd H p o) p d := by
  have g : Grow F H F (upd H p o) := Grow.new R.sub n
  have nw : ¬ InW W p := fun z => by
    have wl := R.wel
    cases W with
    | none => exact z
    | some t =>
      obtain ⟨q, r⟩ := t
      cases hm : M.wl with
      | none => rw [hm] at wl; exact wl
      | some w =>
        rw [hm] at wl
        rcases z with rfl | rfl
        · rw [wl.1.dic] at n; cases n
        · rw [wl.1.lst] at n; cases n
  refine ⟨R.grow g, ha, R.sub.free n, ?_, nw, fun i e h z => ?_⟩
  · cases y : H0 p with
    | none => rfl
    | some u => rw [R.old p u y nw] at n; cases n
  · obtain ⟨v, h1, h2⟩ := R.slt i _ h
    rw [z] at h1
    cases h1
    obtain ⟨q, e, o, _⟩ := h2
    cases e
    obtain ⟨u, hu⟩ := o.there
    rw [hu] at n; cases n
end

section
variable {X : Cx} {R : XP} {e a b c : Expr} {es : List Expr} {pos : Pos} {wa wb wc : WE} {oa ob oc : WO} {ta tb : WT}
theorem DF.toE {w : WE} (h : DF X R e w) : DE X R e w := by
  obtain ⟨t, p, q⟩ := h.ex
  refine ⟨t, p, fun r l hw k => q r l hw fun p d M' F' H' s r' f z => ?_⟩
  obtain ⟨F2, s2, r2, d2⟩ := r'.freeze f
  exact k _ d M' F2 H' (s.trans s2) r2 d2 z
def oE (wa : WE) : WO := fun xn M Q => wa xn M fun d M1 => Q (.x d) M1
theorem dO_e (h : DE X R e wa) : DO X R e (oE wa) := by
  obtain ⟨t, p, q⟩ := h.ex
  exact ⟨t, p, fun r l hw k => q r l hw fun v d M' F' H' s r' f z => k v (.x d) M' F' H' s r' f z⟩
def oV (i : Nat) : WO := fun _ M Q => (∃ d, M.view i = some d) ∧ Q (.s i) M
theorem dO_v (i : Nat) {x : Str} {pos : Pos} (hN : X.N[i]? = some x := by rfl) (hv : Vis X.env.scope x := by first | exact Or.inl rfl | exact Or.inr (Or.inl rfl) | exact Or.inr (Or.inr rfl)) (hd : (x == ("__debug__" : Str)) = false := by decide)
    (hcd : (x == ("__classdict__" : Str)) = false := by decide) : DO X R (.Name x pos) (oV i) := by
  refine ⟨tVar i, pe_var hN hv hd hcd, fun {F0 H0 F H W M σ xn Q k} r l hw kk => ?_⟩
  obtain ⟨⟨d, hd⟩, hq⟩ := hw
  unfold Mem.view at hd
  cases e : M.env[i]? with
  | none => rw [e] at hd; cases hd
  | some z =>
    rw [e] at hd
    cases z with
    | none => cases hd
    | some y =>
      obtain ⟨u, h1, h2⟩ := r.slt i y e
      exact ⟨u, h1, kk u (.s i) M F H (.refl _) r h1 hq⟩
/-- a name whose data is frozen -/
def wV (i : Nat) : WE := fun _ M Q => match M.env[i]? with
  | some (some (.im d)) => Q d M
  | _ => False
theorem dE_v (i : Nat) {x : Str} {pos : Pos} (hN : X.N[i]? = some x := by rfl) (hv : Vis X.env.scope x := by first | exact Or.inl rfl | exact Or.inr (Or.inl rfl) | exact Or.inr (Or.inr rfl)) (hd : (x == ("__debug__" : Str)) = false := by decide)
    (hcd : (x == ("__classdict__" : Str)) = false := by decide) : DE X R (.Name x pos) (wV i) := by
  refine ⟨tVar i, pe_var hN hv hd hcd, fun {F0 H0 F H W M σ xn Q k} r l hw kk => ?_⟩
  unfold wV at hw
  cases e : M.env[i]? with
  | none => rw [e] at hw; exact hw.elim
  | some z =>
    rw [e] at hw
    cases z with
    | none => exact hw.elim
    | some y =>
      cases y with
      | im d =>
        obtain ⟨u, h1, h2⟩ := r.slt i _ e
        exact ⟨u, h1, kk u d M F H (.refl _) r h2 hw⟩
      | ow d => exact hw.elim
      | ro d => exact hw.elim
      | wel => exact hw.elim
      | scr ns => exact hw.elim
def wC (d : PyData) : WE := fun _ M Q => Q d M
theorem dE_int {i j pos} : DE X R (.Constant (.int i) j pos) (wC (.int i)) := ⟨_, pe_int, fun r _ hw k => k _ _ _ _ _ (.refl _) r (.int _) hw⟩
theorem dE_bl {i j pos} : DE X R (.Constant (.bool i) j pos) (wC (.bool i)) := ⟨_, pe_bl, fun r _ hw k => k _ _ _ _ _ (.refl _) r (.bl _) hw⟩
theorem dE_non {j pos} : DE X R (.Constant .none j pos) (wC .none) := ⟨_, pe_non, fun r _ hw k => k _ _ _ _ _ (.refl _) r .non hw⟩
theorem dE_str {i j pos} : DE X R (.Constant (.str i) j pos) (wC (.str i)) := ⟨_, pe_str, fun r _ hw k => k _ _ _ _ _ (.refl _) r (.str _) hw⟩
/-- a module's constant -/
theorem dE_glob {x : Str} {d : PyData} {v : V} {u : Value} {pos : Pos} (hg : Gl X x) (hm : X.mg x = some u) (r : RelV v u) (hv : ∀ F, DV X.K F v d) (hd : (x == ("__debug__" : Str)) = false := by decide) : DE X R (.Name x pos) (wC d) :=
  ⟨_, pe_glob hg hm r hd, fun r _ hw k => k _ _ _ _ _ (.refl _) r (hv _) hw⟩

/-! ### operators -/
abbrev DF2 := PyData → PyData → (PyData → Prop) → Prop
abbrev DF1 := PyData → (PyData → Prop) → Prop
def DOp (K : PySem.W.Frag) (r : R2) (f : DF2) : Prop := ∀ {F H : Hp} {vx vy : V} {dx dy : PyData} {Qd : PyData → Prop} {k : VK}, Same F H → View K F H vx dx → View K F H vy dy → f dx dy Qd →
  (∀ v d F' H', Grow F H F' H' → DV K F' v d → Qd d → k v H') → r vx vy H k
def DUn (K : PySem.W.Frag) (r : V → Hp → VK → Prop) (f : DF1) : Prop := ∀ {F H : Hp} {vx : V} {dx : PyData} {Qd : PyData → Prop} {k : VK}, Same F H → View K F H vx dx → f dx Qd →
  (∀ v d F' H', Grow F H F' H' → DV K F' v d → Qd d → k v H') → r vx H k
def app2 (f : DF2) (x y : Opd) (M : Mem) (Q : QD) : Prop := match x.get M, y.get M with
  | some dx, some dy => f dx dy fun r => Q r M
  | _, _ => False
def app1 (f : DF1) (x : Opd) (M : Mem) (Q : QD) : Prop := match x.get M with
  | some dx => f dx fun r => Q r M
  | _ => False
def wOp (f : DF2) (wa wb : WO) : WE := fun xn M Q => wa xn M fun x M1 => wb xn M1 fun y M2 => app2 f x y M2 Q
def wUn (f : DF1) (wa : WO) : WE := fun xn M Q => wa xn M fun x M1 => app1 f x M1 Q
theorem app2_run {K : PySem.W.Frag} {r : R2} {f : DF2} (hd : DOp K r f) {F0 H0 F H : Hp} {W : Option (Addr × Addr)} {M : Mem} {σ : List (Option V)} {Q : QD} {k : VK} {x y : Opd} {vx vy : V}
    (rel : Rel K F0 H0 W M σ F H) (hx : OpdR K F σ vx x) (hy : OpdR K F σ vy y) (h : app2 f x y M Q)
    (kk : ∀ v d M' F' H', Same F F' → Rel K F0 H0 W M' σ F' H' → DV K F' v d → Q d M' → k v H') : r vx vy H k := by
  unfold app2 at h
  cases ex : x.get M with
  | none => rw [ex] at h; exact h.elim
  | some dx =>
    cases ey : y.get M with
    | none => rw [ex, ey] at h; exact h.elim
    | some dy =>
      rw [ex, ey] at h
      exact hd rel.sub (rel.opd hx ex) (rel.opd hy ey) h fun v d F' H' g dv q => kk v d M F' H' g.f (rel.grow g) dv q
theorem dE_op {op : Operator} {r : R2} {f : DF2} (ho : OpR X (binaryOp op) r) (hd : DOp X.K r f) (ha : DO X R a oa) (hb : DO X R b ob) : DE X R (.BinOp a op b pos) (wOp f oa ob) := by
  obtain ⟨t1, p1, q1⟩ := ha.ex
  obtain ⟨t2, p2, q2⟩ := hb.ex
  refine ⟨_, pe_op ho p1 p2, fun r l hw kk => ?_⟩
  refine q1 r l hw fun vx x M1 F1 H1 s1 r1 hx z1 => q2 r1 l z1 fun vy y M2 F2 H2 s2 r2 hy z2 => ?_
  exact app2_run hd r2 (hx.same s2) hy z2 fun v d M' F' H' s => kk v d M' F' H' (s1.trans (s2.trans s))
theorem dE_cmp {op : CmpOp} {r : R2} {f : DF2} (ho : OpR X (compareOp op) r) (hd : DOp X.K r f) (ha : DO X R a oa) (hb : DO X R b ob) (hm : behindInMarks op b = false) : DE X R (.Compare a [op] [b] pos) (wOp f oa ob) := by
  obtain ⟨t1, p1, q1⟩ := ha.ex
  obtain ⟨t2, p2, q2⟩ := hb.ex
  refine ⟨_, pe_cmpR ho p1 p2 hm, fun r l hw kk => ?_⟩
  refine q1 r l hw fun vx x M1 F1 H1 s1 r1 hx z1 => q2 r1 l z1 fun vy y M2 F2 H2 s2 r2 hy z2 => ?_
  exact app2_run hd r2 (hx.same s2) hy z2 fun v d M' F' H' s => kk v d M' F' H' (s1.trans (s2.trans s))
def wTst (w : WE) : WT := fun xn M Q => w xn M fun d M1 => match d with
  | .bool b => Q b M1
  | _ => False
theorem dT_cmp {op : CmpOp} {r : R2} {f : DF2} (ho : OpR X (compareOp op) r) (hd : DOp X.K r f) (ha : DO X R a oa) (hb : DO X R b ob) (hm : behindInMarks op b = false) : DT X R (.Compare a [op] [b] pos) (wTst (wOp f oa ob)) := by
  obtain ⟨t1, p1, q1⟩ := ha.ex
  obtain ⟨t2, p2, q2⟩ := hb.ex
  refine ⟨_, pt_cmpR ho p1 p2 hm, fun r l hw kk => ?_⟩
  refine q1 r l hw fun vx x M1 F1 H1 s1 r1 hx z1 => q2 r1 l z1 fun vy y M2 F2 H2 s2 r2 hy z2 => ?_
  refine app2_run hd r2 (hx.same s2) hy z2 fun v d M' F' H' s r3 dv q => ?_
  cases dv with
  | bl b => exact ⟨b, rfl, kk b M' F' H' (s1.trans (s2.trans s)) r3 q⟩
  | _ => exact q.elim
/-- any expression whose value is True or False, as a test -/
theorem dT_val {w : WE} (h : DE X R e w) (he : ∀ whole, isTrue e X.env whole = (do let v ← whole; standAt e.pos; holding [v] (truthy v)) := by intro _; rfl) : DT X R e (wTst w) := by
  obtain ⟨t1, p1, q1⟩ := h.ex
  refine ⟨_, pt_val p1 he, fun r l hw kk => q1 r l hw fun v d M' F' H' s r' dv q => ?_⟩
  cases dv with
  | bl b => exact ⟨b, rfl, kk b M' F' H' s r' q⟩
  | _ => exact q.elim
theorem dE_un {op : UnaryOp} {r : V → Hp → VK → Prop} {f : DF1} (ho : UnR X (unaryOp op) r) (hd : DUn X.K r f) (ha : DO X R a oa) : DE X R (.UnaryOp op a pos) (wUn f oa) := by
  obtain ⟨t1, p1, q1⟩ := ha.ex
  refine ⟨_, pe_un ho p1, fun r l hw kk => ?_⟩
  refine q1 r l hw fun vx x M1 F1 H1 s1 r1 hx z1 => ?_
  unfold app1 at z1
  cases ex : x.get M1 with
  | none => rw [ex] at z1; exact z1.elim
  | some dx =>
    rw [ex] at z1
    exact hd r1.sub (r1.opd hx ex) z1 fun v d F' H' g dv q => kk v d M1 F' H' (s1.trans g.f) (r1.grow g) dv q

/-! ### the operators' rules -/
theorem OpR.or {f : Value → Value → Sem Value} {r r' : R2} (h : OpR X f r) (h' : OpR X f r') : OpR X f (fun x y H Q => r x y H Q ∨ r' x y H Q) :=
  fun pins s σ H x y v u Q I rx ry q => q.elim (h pins s σ H x y v u Q I rx ry) (h' pins s σ H x y v u Q I rx ry)
abbrev S (l : List Nat) : Str := SX.S l
theorem S_app (a b : Str) : a ++ b = S (a.cps.toList ++ b.cps.toList) := by
  show Str.append a b = _
  unfold Str.append
  have : a.cps ++ b.cps = (a.cps.toList ++ b.cps.toList).toArray := by simp
  rw [this]
def fAdd : DF2 := fun x y Q => match x, y with
  | .int i, .int j => Q (.int (i + j))
  | .str a, .str b => a.cps.toList.length + b.cps.toList.length ≤ sizeLine ∧ Q (.str (S (a.cps.toList ++ b.cps.toList)))
  | .list a, .list b => a.length + b.length ≤ sizeLine ∧ Q (.list (a ++ b))
  | .tuple a, .tuple b => a.length + b.length ≤ sizeLine ∧ Q (.tuple (a ++ b))
  | _, _ => False
theorem strLen (x : Str) : x.length = x.cps.toList.length := by simp [Str.length]
abbrev rStr2 (C : Str → Str → Prop) (g : Str → Str → V) : R2 := fun x y H Q => ∃ i j, x = .str i ∧ y = .str j ∧ C i j ∧ Q (g i j) H
abbrev rAdd (K : PySem.W.Frag) : R2 := fun x y H Q => ((rI0 fun i j => .int (i + j)) x y H Q ∨ rStr2 (fun i j => i.length + j.length ≤ sizeLine) (fun i j => .str (i ++ j)) x y H Q) ∨ (rCat x y H Q ∨ rCatA K x y H Q)
theorem hAdd : OpR X (binaryOp .Add) (rAdd X.K) := (op_add.or op_add_str).or (op_cat.or op_catA)
theorem dAdd {K : PySem.W.Frag} : DOp K (rAdd K) fAdd := by
  intro F H vx vy dx dy Qd k s hx hy h kk
  unfold fAdd at h
  split at h
  · rename_i i j
    rw [hx.int, hy.int]
    exact .inl (.inl ⟨i, j, rfl, rfl, kk _ _ _ _ (.refl s) (.int _) h⟩)
  · rename_i i j
    rw [hx.str, hy.str]
    refine .inl (.inr ⟨i, j, rfl, rfl, by show i.length + j.length ≤ _; rw [strLen, strLen]; exact h.1, ?_⟩)
    show k (.str (i ++ j)) H
    rw [S_app]
    exact kk _ _ _ _ (.refl s) (.str _) h.2
  · rename_i i j
    obtain ⟨p, vs, rfl, a1, a2⟩ := hx.list s
    obtain ⟨q, ws, rfl, b1, b2⟩ := hy.list s
    refine .inr (.inl ⟨p, q, vs, ws, rfl, rfl, a1, b1, by rw [a2.len, b2.len]; exact h.1, fun l hl => ?_⟩)
    have g := Grow.newF (o := .lst (vs ++ ws)) s hl
    exact kk _ _ _ _ g (.lst upd_same ((a2.app b2).same g.f)) h.2
  · rename_i i j
    obtain ⟨p, vs, rfl, a1, a2⟩ := hx.tup s
    obtain ⟨q, ws, rfl, b1, b2⟩ := hy.tup s
    have frz : ∀ {v : V} {x : List PyData}, View K F H v (.tuple x) → DV K F v (.tuple x) := fun z => by
      rcases z with z | ⟨_, _, z⟩
      · exact z
      · cases z
    refine .inr (.inr ⟨p, q, vs, ws, rfl, rfl, a1, b1, by rw [a2.len, b2.len]; exact h.1, fun e => ?_, fun _ e => ?_, fun _ _ l hl => ?_⟩)
    · subst e
      cases a2
      exact kk _ _ _ _ (.refl s) (frz hy) h.2
    · subst e
      cases b2
      exact kk _ _ _ _ (.refl s) (by rw [List.append_nil]; exact frz hx) h.2
    · have g := Grow.newF (o := .tup (vs ++ ws)) s hl
      exact kk _ _ _ _ g (.tup upd_same ((a2.app b2).same g.f)) h.2
  · exact h.elim
end
end DL

/-! DL2: operators over plain data. -/
namespace DL
open PySem PySem.Spec L2 PyProof.Rows
section
variable {X : Cx} {R : XP} {K : PySem.W.Frag}

def fII (C : Int → Int → Prop) (g : Int → Int → PyData) : DF2 := fun x y Q => match x, y with
  | .int i, .int j => C i j ∧ Q (g i j)
  | _, _ => False
def fII0 (g : Int → Int → PyData) : DF2 := fun x y Q => match x, y with
  | .int i, .int j => Q (g i j)
  | _, _ => False
theorem dII {C C' : Int → Int → Prop} {g : Int → Int → Int} {g' : Int → Int → Int} (hc : ∀ i j, C' i j → C i j ∧ g i j = g' i j) : DOp K (rI C fun i j => .int (g i j)) (fII C' fun i j => .int (g' i j)) := by
  intro F H vx vy dx dy Qd k s hx hy h kk
  unfold fII at h
  split at h
  · rename_i i j
    rw [hx.int, hy.int]
    obtain ⟨h1, h2⟩ := hc i j h.1
    exact ⟨i, j, rfl, rfl, h1, by show k (.int (g i j)) H; rw [h2]; exact kk _ _ _ _ (.refl s) (.int _) h.2⟩
  · exact h.elim
theorem dII0 {g : Int → Int → Int} : DOp K (rI0 fun i j => .int (g i j)) (fII0 fun i j => .int (g i j)) := by
  intro F H vx vy dx dy Qd k s hx hy h kk
  unfold fII0 at h
  split at h
  · rename_i i j
    rw [hx.int, hy.int]
    exact ⟨i, j, rfl, rfl, kk _ _ _ _ (.refl s) (.int _) h⟩
  · exact h.elim
theorem dIB0 {g : Int → Int → Bool} : DOp K (rI0 fun i j => .bl (g i j)) (fII0 fun i j => .bool (g i j)) := by
  intro F H vx vy dx dy Qd k s hx hy h kk
  unfold fII0 at h
  split at h
  · rename_i i j
    rw [hx.int, hy.int]
    exact ⟨i, j, rfl, rfl, kk _ _ _ _ (.refl s) (.bl _) h⟩
  · exact h.elim
abbrev fSub : DF2 := fII0 fun i j => .int (i - j)
theorem dSub : DOp K (rI0 fun i j => .int (i - j)) fSub := dII0
/-- // by a positive number -/
abbrev fDiv : DF2 := fII CDivW fun i j => .int (i / j)
theorem dDiv : DOp K (rI CDivW fun i j => .int (i / j)) fDiv := dII fun _ _ h => ⟨h, rfl⟩
/-- % by a positive number -/
abbrev fMod : DF2 := fII (fun _ j => 0 < j) fun i j => .int (i % j)
theorem dMod : DOp K (rI (fun _ j => j ≠ 0) fun i j => .int (i.fmod j)) fMod := dII fun i j h => ⟨by omega, Int.fmod_eq_emod_of_nonneg i (by omega)⟩
abbrev fPow : DF2 := fII CPow fun i j => .int (i ^ j.toNat)
theorem dPow : DOp K (rI CPow fun i j => .int (i ^ j.toNat)) fPow := dII fun _ _ h => ⟨h, rfl⟩
def fLt : DF2 := fun x y Q => match x, y with
  | .int i, .int j => Q (.bool (decide (i < j)))
  | .str i, .str j => Q (.bool (decide (i.cps.toList < j.cps.toList)))
  | _, _ => False
abbrev rLtIS : R2 := fun x y H Q => (rI0 fun i j => .bl (decide (i < j))) x y H Q ∨ (∃ i j, x = .str i ∧ y = .str j ∧ Q (.bl (decide (i.cps.toList < j.cps.toList))) H)
theorem hLt : OpR X (compareOp .Lt) rLtIS := op_lt.or op_lt_str
theorem dLt : DOp K rLtIS fLt := by
  intro F H vx vy dx dy Qd k s hx hy h kk
  unfold fLt at h
  split at h
  · rename_i i j
    rw [hx.int, hy.int]
    exact .inl ⟨i, j, rfl, rfl, kk _ _ _ _ (.refl s) (.bl _) h⟩
  · rename_i i j
    rw [hx.str, hy.str]
    exact .inr ⟨i, j, rfl, rfl, kk _ _ _ _ (.refl s) (.bl _) h⟩
  · exact h.elim
def fGt : DF2 := fun x y Q => match x, y with
  | .int i, .int j => Q (.bool (decide (j < i)))
  | _, _ => False
theorem dGt : DOp K (rI0 fun i j => .bl (decide (j < i))) fGt := dIB0
abbrev fLe : DF2 := fII0 fun i j => .bool (decide (i ≤ j))
theorem dLe : DOp K (rI0 fun i j => .bl (decide (i ≤ j))) fLe := dIB0
abbrev fGe : DF2 := fII0 fun i j => .bool (decide (j ≤ i))
theorem dGe : DOp K (rI0 fun i j => .bl (decide (j ≤ i))) fGe := dIB0
def fNeg : DF1 := fun x Q => match x with
  | .int i => Q (.int (-i))
  | _ => False
theorem dNeg : DUn K (rU fun i => .int (-i)) fNeg := by
  intro F H vx dx Qd k s hx h kk
  unfold fNeg at h
  split at h
  · rename_i i
    rw [hx.int]
    exact ⟨i, rfl, kk _ _ _ _ (.refl s) (.int _) h⟩
  · exact h.elim

/-! == and != -/
def eqQ (x y : PyData) (Q : Bool → Prop) : Prop := match x, y with
  | .int i, .int j => Q (decide (i = j))
  | .str i, .str j => Q (decide (i = j))
  | .bool i, .bool j => Q (decide (i = j))
  | .none, .none => Q true
  | .none, .int _ => Q false
  | .int _, .none => Q false
  | .none, .str _ => Q false
  | .str _, .none => Q false
  | .none, .bool _ => Q false
  | .bool _, .none => Q false
  | .int _, .str _ => Q false
  | .str _, .int _ => Q false
  | .bool _, .str _ => Q false
  | .str _, .bool _ => Q false
  | x, y => (flat x = true ∧ flat y = true ∧ SeqAt.shaped x = true ∧ SeqAt.shaped y = true) ∧ Q (PyData.eqv x y)
def fEq : DF2 := fun x y Q => eqQ x y fun b => Q (.bool b)
def fNe : DF2 := fun x y Q => eqQ x y fun b => Q (.bool (!b))
abbrev rEq2 (K : PySem.W.Frag) : R2 := fun x y H Q => rEq x y H Q ∨ rEqD K x y H Q
abbrev rNe2 (K : PySem.W.Frag) : R2 := fun x y H Q => rNe x y H Q ∨ rNeD K x y H Q
theorem hEq (hu : X.A.units + 64 < cLine) : OpR X (compareOp .Eq) (rEq2 X.K) := op_eq.or (op_eqD hu)
theorem hNe (hu : X.A.units + 64 < cLine) : OpR X (compareOp .NotEq) (rNe2 X.K) := op_ne.or (op_neD hu)
theorem dec_eq {a b : V} {c : Bool} (h : (a = b) ↔ c = true) : decide (a = b) = c := by
  cases c with
  | true => exact decide_eq_true (h.mpr rfl)
  | false => exact decide_eq_false fun e => by have := h.mp e; cases this
theorem eqQ_run {F H : Hp} {vx vy : V} {dx dy : PyData} {Q : Bool → Prop} (s : Same F H) (hx : View K F H vx dx) (hy : View K F H vy dy) (h : eqQ dx dy Q) :
    (scal vx vy = true ∧ Q (decide (vx = vy))) ∨ (∃ d e, Dp K H vx d ∧ Dp K H vy e ∧ SeqAt.shaped d = true ∧ SeqAt.shaped e = true ∧ Q (PyData.eqv d e)) := by
  unfold eqQ at h
  split at h
  · rename_i i j
    rw [hx.int, hy.int]
    exact .inl ⟨rfl, by rw [show decide (V.int i = V.int j) = decide (i = j) from dec_eq (by simp)]; exact h⟩
  · rename_i i j
    rw [hx.str, hy.str]
    exact .inl ⟨rfl, by rw [show decide (V.str i = V.str j) = decide (i = j) from dec_eq (by simp)]; exact h⟩
  · rename_i i j
    rw [hx.bl, hy.bl]
    exact .inl ⟨rfl, by rw [show decide (V.bl i = V.bl j) = decide (i = j) from dec_eq (by simp)]; exact h⟩
  · rw [hx.non, hy.non]; exact .inl ⟨rfl, h⟩
  · rw [hx.non, hy.int]; exact .inl ⟨rfl, h⟩
  · rw [hx.int, hy.non]; exact .inl ⟨rfl, h⟩
  · rw [hx.non, hy.str]; exact .inl ⟨rfl, h⟩
  · rw [hx.str, hy.non]; exact .inl ⟨rfl, h⟩
  · rw [hx.non, hy.bl]; exact .inl ⟨rfl, h⟩
  · rw [hx.bl, hy.non]; exact .inl ⟨rfl, h⟩
  · rw [hx.int, hy.str]; exact .inl ⟨rfl, h⟩
  · rw [hx.str, hy.int]; exact .inl ⟨rfl, h⟩
  · rw [hx.bl, hy.str]; exact .inl ⟨rfl, h⟩
  · rw [hx.str, hy.bl]; exact .inl ⟨rfl, h⟩
  · exact .inr ⟨_, _, hx.dp s h.1.1, hy.dp s h.1.2.1, h.1.2.2.1, h.1.2.2.2, h.2⟩
theorem dEq : DOp K (rEq2 K) fEq := by
  intro F H vx vy dx dy Qd k s hx hy h kk
  refine (eqQ_run (Q := fun b => k (.bl b) H) s hx hy ?_).imp id id
  unfold fEq eqQ at h
  unfold eqQ
  split at h <;> first | exact kk _ _ _ _ (.refl s) (.bl _) h | exact ⟨h.1, kk _ _ _ _ (.refl s) (.bl _) h.2⟩
theorem dNe : DOp K (rNe2 K) fNe := by
  intro F H vx vy dx dy Qd k s hx hy h kk
  refine (eqQ_run (Q := fun b => k (.bl (!b)) H) s hx hy ?_).imp id id
  unfold fNe eqQ at h
  unfold eqQ
  split at h <;> first | exact kk _ _ _ _ (.refl s) (.bl _) h | exact ⟨h.1, kk _ _ _ _ (.refl s) (.bl _) h.2⟩

/-! is None -/
def isNone : PyData → Bool
  | .none => true
  | _ => false
theorem View.isN {F H : Hp} {v : V} {d : PyData} (h : View K F H v d) : decide (v = .non) = isNone d := by
  rcases h with h | ⟨p, rfl, h⟩
  · cases h <;> first | rfl | exact decide_eq_false (fun e => nomatch e)
  · cases h <;> rfl
abbrev rIsNo : R2 := fun x y H Q => y = .non ∧ Q (.bl (decide (x = .non))) H
abbrev rNotNo : R2 := fun x y H Q => y = .non ∧ Q (.bl (!decide (x = .non))) H
def fIsN : DF2 := fun x y Q => isNone y = true ∧ Q (.bool (isNone x))
def fNotN : DF2 := fun x y Q => isNone y = true ∧ Q (.bool (!isNone x))
theorem dIsN : DOp K rIsNo fIsN := by
  intro F H vx vy dx dy Qd k s hx hy h kk
  have e : vy = .non := of_decide_eq_true (hy.isN.trans h.1)
  exact ⟨e, by rw [hx.isN]; exact kk _ _ _ _ (.refl s) (.bl _) h.2⟩
theorem dNotN : DOp K rNotNo fNotN := by
  intro F H vx vy dx dy Qd k s hx hy h kk
  have e : vy = .non := of_decide_eq_true (hy.isN.trans h.1)
  exact ⟨e, by rw [hx.isN]; exact kk _ _ _ _ (.refl s) (.bl _) h.2⟩

/-! * -/
theorem op_mulS : OpR X (binaryOp .Mult) (fun x y H Q => ∃ (i : Str) (j : Int), x = .str i ∧ y = .int j ∧ MulOk i j ∧ Q (.str (Txt.mul i j)) H) := by
  intro pins s σ H x y v u Q I rx ry h
  obtain ⟨i, j, rfl, rfl, hz, q⟩ := h
  obtain ⟨t, rfl⟩ := rx
  obtain ⟨t', rfl⟩ := ry
  exact SB.mul hz fun t' k => ⟨.str _, H, I.tok _, ⟨_, rfl⟩, q⟩
def repL {α : Type} (n : Nat) (l : List α) : List α := (List.replicate n l).flatten
theorem foldApp (x : Array Nat) : ∀ (n : Nat) (a : Array Nat), ((List.replicate n x).foldl (· ++ ·) a).toList = a.toList ++ repL n x.toList
  | 0, a => by simp [repL]
  | n + 1, a => by
    rw [List.replicate_succ, List.foldl_cons, foldApp x n]
    simp [repL, List.replicate_succ]
theorem mulText (x : Str) (n : Int) : Txt.mul x n = S (repL n.toNat x.cps.toList) := by
  unfold Txt.mul
  have key : ∀ y : Str, y.cps.toList = repL n.toNat x.cps.toList → y = S (repL n.toNat x.cps.toList) := fun y e => by
    rw [← e]
  split
  · rename_i h
    have : n.toNat = 0 := by omega
    rw [this]
    rfl
  · split
    · rename_i h h2
      apply key
      rcases Bool.or_eq_true _ _ ▸ h2 with h3 | h3
      · have : n = 1 := by simpa using h3
        subst this
        simp [repL]
      · have : x.cps.toList = [] := by
          have h4 : x.cps.size = 0 := by simpa [Str.length] using h3
          exact List.eq_nil_of_length_eq_zero (by simpa using h4)
        rw [this]
        simp [repL]
    · apply key
      rw [foldApp]
      simp
theorem mulOk_of {x : Str} {n : Int} (h1 : n < 2 ^ 62) (h0 : -(2 ^ 62) < n) (h2 : x.cps.toList.length * n.toNat ≤ sizeLine) : MulOk x n := by
  refine ⟨by simp; omega, fun a b => ?_, fun a b => ?_⟩
  · intro c
    have hn : 0 < n := by omega
    have := Int.lt_ediv_add_one_mul_self (2 ^ 63 - 1) hn
    have e : (x.length : Int) * n ≤ sizeLine := by
      have : ((x.cps.toList.length * n.toNat : Nat) : Int) ≤ sizeLine := by exact_mod_cast h2
      rw [strLen]
      push_cast at this
      rw [Int.toNat_of_nonneg (by omega)] at this
      exact this
    have hs : (sizeLine : Int) = 16777216 := by rw [sizeLine_eq]; rfl
    have h3 : ((2 ^ 63 - 1) / n + 1) * n ≤ (x.length : Int) * n := Int.mul_le_mul_of_nonneg_right (by omega) (by omega)
    omega
  · have e : decide (x.length * n.toNat > sizeLine) = false := decide_eq_false (by rw [strLen]; omega)
    exact e
def fMul : DF2 := fun x y Q => match x, y with
  | .int i, .int j => CMul i j ∧ Q (.int (i * j))
  | .str i, .int j => (j < 2 ^ 62 ∧ -(2 ^ 62) < j ∧ i.cps.toList.length * j.toNat ≤ sizeLine) ∧ Q (.str (S (repL j.toNat i.cps.toList)))
  | .list i, .int j => (j < 2 ^ 62 ∧ -(2 ^ 62) < j ∧ i.length * j.toNat ≤ sizeLine) ∧ Q (.list (repL j.toNat i))
  | _, _ => False
abbrev rMul : R2 := fun x y H Q => (rI CMul fun i j => .int (i * j)) x y H Q ∨ ((∃ (i : Str) (j : Int), x = .str i ∧ y = .int j ∧ MulOk i j ∧ Q (.str (Txt.mul i j)) H) ∨ rRep x y H Q)
theorem hMul : OpR X (binaryOp .Mult) rMul := op_mul.or (op_mulS.or op_rep)
theorem DVs.rep {F : Hp} {vs : List V} {ds : List PyData} (h : DVs K F vs ds) : ∀ n : Nat, DVs K F (List.replicate n vs).flatten (repL n ds)
  | 0 => .nil
  | n + 1 => by
    rw [repL, List.replicate_succ, List.replicate_succ, List.flatten_cons, List.flatten_cons]
    exact h.app (DVs.rep h n)
theorem dMul : DOp K rMul fMul := by
  intro F H vx vy dx dy Qd k s hx hy h kk
  unfold fMul at h
  split at h
  · rename_i i j
    rw [hx.int, hy.int]
    exact .inl ⟨i, j, rfl, rfl, h.1, kk _ _ _ _ (.refl s) (.int _) h.2⟩
  · rename_i i j
    rw [hx.str, hy.int]
    exact .inr (.inl ⟨i, j, rfl, rfl, mulOk_of h.1.1 h.1.2.1 h.1.2.2, by rw [mulText]; exact kk _ _ _ _ (.refl s) (.str _) h.2⟩)
  · rename_i i j
    obtain ⟨p, vs, rfl, a1, a2⟩ := hx.list s
    rw [hy.int]
    refine .inr (.inr ⟨p, j, vs, rfl, rfl, a1, by have := h.1.2.1; omega, by have := h.1.1; omega, by rw [a2.len]; exact h.1.2.2, fun l hl => ?_⟩)
    have g := Grow.newF (o := .lst (List.replicate j.toNat vs).flatten) s hl
    exact kk _ _ _ _ g (.lst upd_same ((a2.rep j.toNat).same g.f)) h.2
  · exact h.elim

/-! in -/
theorem flatV_of {F H : Hp} {v : V} {d : PyData} (h : View K F H v d) (hs : match d with | .none | .bool _ | .int _ | .str _ => True | _ => False) : flatV v = true := by
  rcases h with h | ⟨p, rfl, h⟩
  · cases h <;> first | rfl | exact hs.elim
  · cases h <;> exact hs.elim
/-- a sign in a text -/
def fInC : DF2 := fun x y Q => match x, y with
  | .str i, .str j => match i.cps.toList with
    | [c] => Q (.bool (decide (c ∈ j.cps.toList)))
    | _ => False
  | _, _ => False
def fNotInC : DF2 := fun x y Q => match x, y with
  | .str i, .str j => match i.cps.toList with
    | [c] => Q (.bool (!decide (c ∈ j.cps.toList)))
    | _ => False
  | _, _ => False
abbrev rInC : R2 := fun x y H Q => ∃ (c : Nat) (z : Str), x = .str ⟨#[c]⟩ ∧ y = .str z ∧ Q (.bl (decide (c ∈ z.cps.toList))) H
abbrev rNotInC : R2 := fun x y H Q => ∃ (c : Nat) (z : Str), x = .str ⟨#[c]⟩ ∧ y = .str z ∧ Q (.bl (!decide (c ∈ z.cps.toList))) H
theorem one_sign {i : Str} {c : Nat} (h : i.cps.toList = [c]) : i = ⟨#[c]⟩ := by
  rw [← SX.S_tl i, h]
theorem dInC : DOp K rInC fInC := by
  intro F H vx vy dx dy Qd k s hx hy h kk
  unfold fInC at h
  split at h
  · rename_i i j
    split at h
    · rename_i c e
      rw [hx.str, hy.str, one_sign e]
      exact ⟨c, j, rfl, rfl, kk _ _ _ _ (.refl s) (.bl _) h⟩
    · exact h.elim
  · exact h.elim
theorem dNotInC : DOp K rNotInC fNotInC := by
  intro F H vx vy dx dy Qd k s hx hy h kk
  unfold fNotInC at h
  split at h
  · rename_i i j
    split at h
    · rename_i c e
      rw [hx.str, hy.str, one_sign e]
      exact ⟨c, j, rfl, rfl, kk _ _ _ _ (.refl s) (.bl _) h⟩
    · exact h.elim
  · exact h.elim
end
end DL

/-! DL3: subscripts, slices, displays, tests, arguments, calls. -/
namespace DL
open PySem PySem.Spec L2 PyProof.Rows
section
variable {X : Cx} {R : XP} {K : PySem.W.Frag} {e a b c : Expr} {es : List Expr} {pos : Pos} {wa wb wc : WE} {oa ob oc : WO} {ta tb : WT}

/-! e[i] -/
theorem DVs.atI {F : Hp} {vs : List V} {ds : List PyData} {i : Int} {d : PyData} (h : DVs K F vs ds) (e : atI ds i = some d) : ∃ v, L2.atI vs i = some v ∧ DV K F v d := by
  unfold L2.atI at *
  rw [h.len]
  cases z : ixN ds.length i with
  | none => rw [z] at e; cases e
  | some j =>
    rw [z] at e
    exact h.get e
def fIx : DF2 := fun x y Q => match x, y with
  | .list ds, .int i => match atI ds i with
    | some d => Q d
    | none => False
  | .tuple ds, .int i => match atI ds i with
    | some d => Q d
    | none => False
  | .str s, .int i => s.cps.toList.length ≤ sizeLine ∧ match atI s.cps.toList i with
    | some c => Q (.str (S [c]))
    | none => False
  | _, _ => False
theorem dIx : DOp K (rIx K) fIx := by
  intro F H vx vy dx dy Qd k s hx hy h kk
  unfold fIx at h
  split at h
  · rename_i ds i
    split at h
    · rename_i d e
      obtain ⟨p, vs, rfl, a1, a2⟩ := hx.list s
      obtain ⟨v, h1, h2⟩ := a2.atI e
      rw [hy.int]
      exact .inl ⟨p, vs, i, v, rfl, rfl, SqL.of a1, h1, kk _ _ _ _ (.refl s) h2 h⟩
    · exact h.elim
  · rename_i ds i
    split at h
    · rename_i d e
      obtain ⟨p, vs, rfl, a1, a2⟩ := hx.tup s
      obtain ⟨v, h1, h2⟩ := a2.atI e
      rw [hy.int]
      exact .inr (.inl ⟨p, vs, i, v, rfl, rfl, a1, h1, kk _ _ _ _ (.refl s) h2 h⟩)
    · exact h.elim
  · rename_i z i
    obtain ⟨hz, h⟩ := h
    split at h
    · rename_i d e
      rw [hy.int, hx.str]
      exact .inr (.inr ⟨z, i, d, rfl, rfl, by rw [strLen]; exact hz, e, kk _ _ _ _ (.refl s) (.str _) h⟩)
    · exact h.elim
  · exact h.elim
theorem dE_ix (ha : DO X R a oa) (hb : DO X R b ob) (hs : PlainIx b := by exact fun _ _ => rfl) : DE X R (.Subscript a b pos) (wOp fIx oa ob) := by
  obtain ⟨t1, p1, q1⟩ := ha.ex
  obtain ⟨t2, p2, q2⟩ := hb.ex
  refine ⟨_, pe_ix ix_seq p1 p2 hs, fun r l hw kk => ?_⟩
  refine q1 r l hw fun vx x M1 F1 H1 s1 r1 hx z1 => q2 r1 l z1 fun vy y M2 F2 H2 s2 r2 hy z2 => ?_
  exact app2_run dIx r2 (hx.same s2) hy z2 fun v d M' F' H' s => kk v d M' F' H' (s1.trans (s2.trans s))

/-! e[i:j] -/
def cut {α : Type} (l : List α) (lo hi : Option Int) : List α := (l.drop (HT.sIx l.length 0 lo)).take (HT.sIx l.length l.length hi - HT.sIx l.length 0 lo)
abbrev WP := Xn → Mem → (Option Int → Mem → Prop) → Prop
structure DP (X : Cx) (R : XP) (e : Option Expr) (w : WP) : Prop where
  ex : ∃ t : TO, PO X e t ∧ ∀ {F0 H0 F H : Hp} {W : Option (Addr × Addr)} {M : Mem} {σ : List (Option V)} {xn : Xn} {Q : Option Int → Mem → Prop} {k : Option Int → Hp → Prop}, Rel X.K F0 H0 W M σ F H → Lnk X.K R F0 H0 xn → w xn M Q →
    (∀ o M' F' H', Same F F' → Rel X.K F0 H0 W M' σ F' H' → Q o M' → k o H') → t σ H k
theorem dP_n : DP X R none (fun _ M Q => Q none M) := ⟨_, po_none, fun r _ hw kk => kk _ _ _ _ (.refl _) r hw⟩
def wPart (oa : WO) : WP := fun xn M Q => oa xn M fun x M1 => match x.get M1 with
  | some (.int i) => Q (some i) M1
  | _ => False
theorem dP_s (h : DO X R a oa) : DP X R (some a) (wPart oa) := by
  obtain ⟨t1, p1, q1⟩ := h.ex
  refine ⟨_, po_some p1, fun r l hw kk => q1 r l hw fun v x M1 F1 H1 s1 r1 hx z => ?_⟩
  split at z
  · rename_i i e
    exact ⟨i, (r1.opd hx e).int, kk _ _ _ _ s1 r1 z⟩
  · exact z.elim
abbrev rSl (K : PySem.W.Frag) : V → Option Int → Option Int → Hp → VK → Prop := fun x lo hi H Q => rSlL K x lo hi H Q ∨ (rSlA K x lo hi H Q ∨ rSlS x lo hi H Q)
theorem slAll : SlR X (rSl X.K) := sl_list.or (sl_tupA.or sl_str)
def fSl (x : PyData) (lo hi : Option Int) (Q : PyData → Prop) : Prop := match x with
  | .list ds => Q (.list (cut ds lo hi))
  | .tuple ds => Q (.tuple (cut ds lo hi))
  | .str s => s.cps.toList.length ≤ sizeLine ∧ Q (.str (S (cut s.cps.toList lo hi)))
  | _ => False
def wSl (oa : WO) (pl ph : WP) : WE := fun xn M Q => oa xn M fun x M1 => pl xn M1 fun lo M2 => ph xn M2 fun hi M3 => match x.get M3 with
  | some d => fSl d lo hi fun r => Q r M3
  | none => False
theorem View.frzT {F H : Hp} {v : V} {x : List PyData} (z : View K F H v (.tuple x)) : DV K F v (.tuple x) := by
  rcases z with z | ⟨_, _, z⟩
  · exact z
  · cases z
theorem cut_whole {α : Type} {l : List α} {lo hi : Option Int} (h : HT.sIx l.length 0 lo = 0 ∧ HT.sIx l.length l.length hi = l.length) : cut l lo hi = l := by
  unfold cut
  rw [h.1, h.2, List.drop_zero, Nat.sub_zero, List.take_length]
theorem dE_sl {lo hi : Option Expr} {pl ph : WP} {p2 : Pos} (ha : DO X R a oa) (hl : DP X R lo pl) (hh : DP X R hi ph) : DE X R (.Subscript a (.Slice lo hi none p2) pos) (wSl oa pl ph) := by
  obtain ⟨t1, p1, q1⟩ := ha.ex
  obtain ⟨t2, p2', q2⟩ := hl.ex
  obtain ⟨t3, p3, q3⟩ := hh.ex
  refine ⟨_, pe_slice slAll p1 p2' p3, fun r l hw kk => ?_⟩
  refine q1 r l hw fun vx x M1 F1 H1 s1 r1 hx z1 => q2 r1 l z1 fun lo M2 F2 H2 s2 r2 z2 => q3 r2 l z2 fun hi M3 F3 H3 s3 r3 z3 => ?_
  have ss := s1.trans (s2.trans s3)
  split at z3
  · rename_i d e
    have hv := r3.opd ((hx.same s2).same s3) e
    unfold fSl at z3
    split at z3
    · obtain ⟨p, vs, rfl, a1, a2⟩ := hv.list r3.sub
      refine .inl ⟨p, vs, rfl, SqL.of a1, fun q hq => ?_⟩
      have g := Grow.newF (o := .lst (cutV vs lo hi)) r3.sub hq
      refine kk _ _ _ _ _ (ss.trans g.f) (r3.grow g) (.lst upd_same ?_) z3
      refine DVs.same g.f ?_
      unfold cutV cut
      rw [a2.len]
      exact (a2.drop _).take _
    · obtain ⟨p, vs, rfl, a1, a2⟩ := hv.tup r3.sub
      refine .inr (.inl ⟨p, vs, rfl, a1, fun w => ?_, fun _ q hq => ?_⟩)
      · rw [a2.len] at w
        rw [cut_whole w] at z3
        exact kk _ _ _ _ _ ss r3 hv.frzT z3
      · have g := Grow.newF (o := .tup (cutV vs lo hi)) r3.sub hq
        refine kk _ _ _ _ _ (ss.trans g.f) (r3.grow g) (.tup upd_same ?_) z3
        refine DVs.same g.f ?_
        unfold cutV cut
        rw [a2.len]
        exact (a2.drop _).take _
    · rename_i z
      rw [hv.str]
      refine .inr (.inr ⟨z, rfl, by rw [strLen]; exact z3.1, kk _ _ _ _ _ ss r3 ?_ z3.2⟩)
      have : cutS z lo hi = S (cut z.cps.toList lo hi) := by
        unfold cutS cut
        rw [strLen]
      rw [this]
      exact .str _
    · exact z3.elim
  · exact z3.elim

/-! e[::-1] -/
abbrev rRev (K : PySem.W.Frag) (x : V) (H : Hp) (Q : VK) : Prop := (∃ a xs, x = .ref a ∧ SqL K H a xs ∧ ∀ p, H p = none → Q (.ref p) (upd H p (.lst xs.reverse))) ∨ (∃ z : Str, x = .str z ∧ z.length ≤ sizeLine ∧ Q (.str (S z.cps.toList.reverse)) H)
theorem rev_str (z : Str) : ((Builtin.Str.strSliceIndices none none (-1) z.length).filterMap (z.cps[·]?)) = z.cps.toList.reverse := by
  have e : Builtin.Str.strSliceIndices none none (-1) z.length = sliceRange ((z.length : Int) - 1) (-1) (-1) := by
    unfold Builtin.Str.strSliceIndices
    simp
  rw [e, PySem.W.krv_sliceRange, PySem.W.krv_range, List.filterMap_reverse]
  show (List.filterMap (fun x => z.cps[x]?) (List.range z.cps.size)).reverse = _
  rw [PySem.W.krv_all]
theorem rev_get {pins : List (Addr × Obj)} {s : Shared} {σ : List (Option V)} {H : Hp} {x : V} {v vs : Value} {sl : Addr} {Q : VK} (I : Inv X pins σ H s) (rx : RelV x v) (hs : s.heap.IsSliceOf sl .none .none vs) (ps : IsPart vs (some (-1))) (h : rRev X.K x H Q) :
    ∃ T id, typeLookup (.type T) "__getitem__" = pure (some (.builtin id)) ∧ s.TypeIs v T ∧ wpAny (model X.prog X.w) X.A (getItem v (.ref sl)) (EP X pins σ Q) X.xe s := by
  rcases h with ⟨a, xs, rfl, hx, q⟩ | ⟨z, rfl, hz, q⟩
  · cases rx
    obtain ⟨its, r, ht, hz⟩ := I.list hx
    have hlen := r.length
    refine ⟨"list", _, slot_list_getitem.lookup, ht.isList.typeIs, ?_⟩
    refine wpAny_getItem_list_slice ht.isList hs .none .none ps (by simp) ?_ (by rw [List.size_toArray] <;> omega)
    rw [PySem.W.krv_pick]
    have rr : Vals xs.reverse its.reverse := by
      have go : ∀ {a : List V} {b : List Value}, Vals a b → Vals a.reverse b.reverse := by
        intro a b h
        induction h with
        | nil => exact .nil
        | cons r t ih => rw [List.reverse_cons, List.reverse_cons]; exact ih.append (.cons r .nil)
      exact go r
    refine ⟨.ref s.heap.objs.size, _, I.laid (t' := s.toks) (o := .lst xs.reverse) (fun b ob q => Heap.get?_push_of_some _ q) (Nat.le_refl _) ?_, rfl, q _ (I.hok.fresh (Nat.le_refl _))⟩
    exact ⟨by rw [List.length_reverse]; exact hz, its.reverse, 0, rr, Heap.get?_push_size _ rfl⟩
  · obtain ⟨t, rfl⟩ := rx
    obtain ⟨st, rfl, e1⟩ := IsPart.raw ps
    obtain ⟨os, hos, hcs, hds⟩ := hs
    have e2 : (st.map (·.1)).getD 1 = -1 := by rw [e1]; rfl
    refine ⟨"str", _, F.slot_str_getitem.lookup, typeIs_str _ _ _, ?_⟩
    refine wpAny_getItem_str_slice (l := none) (u := none) (st := st) ⟨os, hos, hcs, hds⟩ (by rw [e2]; rfl) ?_
    unfold sliceMade slicePicked
    rw [e2, if_neg (by simp)]
    show Made.post (Made.str ⟨((Builtin.Str.strSliceIndices none none (-1) z.length).filterMap (z.cps[·]?)).toArray⟩) (EP X pins σ Q) s
    rw [rev_str]
    refine ⟨?_, .str _, H, I.tok _, ⟨_, rfl⟩, q⟩
    show (S z.cps.toList.reverse).length ≤ sizeLine
    rw [SX.S_len, List.length_reverse, ← strLen]
    exact hz
theorem pe_rev {te : TE} {p2 p3 p4 : Pos} {j : Nat} (he : PE X e te) : PE X (.Subscript e (.Slice none none (some (.UnaryOp .USub (.Constant (.int 1) j p4) p3)) p2) pos) (fun σ H Q => te σ H fun x H1 => rRev X.K x H1 Q) := by
  refine ⟨fun pins s σ H Q I h => ?_⟩
  refine Subscript_ (thn (he.run pins s σ H _ I h) fun v s1 ⟨x, H1, I1, r1, q1⟩ => ?_)
  refine wpAny_Slice ?_
  rw [evalPart_none]
  refine wpAny_pure ?_
  refine wpAny_pure ?_
  refine thn ((po_some (pe_un un_neg pe_int)).run pins s1 σ H1 (fun o H2 => o = some (-1) ∧ rRev X.K x H2 Q) I1 ?_) fun vs s3 ⟨o, H3, I3, ps, e3, q3⟩ => ?_
  · exact ⟨1, rfl, -1, rfl, rfl, q1⟩
  subst e3
  have I4 : Inv X pins σ H3 { s3 with heap := s3.heap.push { cls := .type "slice", data := .fields #[.none, .none, vs] } } := I3.kept (t' := s3.toks) fun b ob q => Heap.get?_push_of_some _ q
  obtain ⟨T, id, hT, ht, hg⟩ := rev_get I4 r1 (Heap.IsSliceOf.new s3.heap .none .none vs) ps q3
  show wpAny (model X.prog X.w) X.A (subscriptTail e (.Slice none none (some (.UnaryOp .USub (.Constant (.int 1) j p4) p3)) p2) v (.ref s3.heap.objs.size)) (EP X pins σ Q) X.xe { s3 with heap := s3.heap.push { cls := .type "slice", data := .fields #[.none, .none, vs] } }
  exact tail_any (ops := [v, .ref s3.heap.objs.size]) ht hT hg (by with_unfolding_all rfl)
def wRev (oa : WO) : WE := fun xn M Q => oa xn M fun x M1 => match x.get M1 with
  | some (.list ds) => Q (.list ds.reverse) M1
  | some (.str s) => s.cps.toList.length ≤ sizeLine ∧ Q (.str (S s.cps.toList.reverse)) M1
  | _ => False
theorem dE_rev {p2 p3 p4 : Pos} {j : Nat} (ha : DO X R a oa) : DE X R (.Subscript a (.Slice none none (some (.UnaryOp .USub (.Constant (.int 1) j p4) p3)) p2) pos) (wRev oa) := by
  obtain ⟨t1, p1, q1⟩ := ha.ex
  refine ⟨_, pe_rev p1, fun r l hw kk => ?_⟩
  refine q1 r l hw fun vx x M1 F1 H1 s1 r1 hx z1 => ?_
  split at z1
  · rename_i ds e
    obtain ⟨p, vs, rfl, a1, a2⟩ := (r1.opd hx e).list r1.sub
    refine .inl ⟨p, vs, rfl, SqL.of a1, fun q hq => ?_⟩
    have g := Grow.newF (o := .lst vs.reverse) r1.sub hq
    exact kk _ _ _ _ _ (s1.trans g.f) (r1.grow g) (.lst upd_same (a2.rev.same g.f)) z1
  · rename_i z e
    rw [(r1.opd hx e).str]
    exact .inr ⟨z, rfl, by rw [strLen]; exact z1.1, kk _ _ _ _ _ s1 r1 (.str _) z1.2⟩
  · exact z1.elim
end
end DL

/-! DL4: tests, conditional expressions, displays, argument lists, calls of built-ins, of defs. -/
namespace DL
open PySem PySem.Spec L2 PyProof.Rows
section
variable {X : Cx} {R : XP} {K : PySem.W.Frag} {e a b c : Expr} {es rest : List Expr} {pos : Pos} {wa wb wc : WE} {oa ob oc : WO} {ta tb : WT}

/-! tests -/
def tAndD (t u : WT) : WT := fun xn M Q => t xn M fun b M1 => if b = true then u xn M1 Q else Q false M1
def tOrD (t u : WT) : WT := fun xn M Q => t xn M fun b M1 => if b = true then Q true M1 else u xn M1 Q
def tNotD (t : WT) : WT := fun xn M Q => t xn M fun b M1 => Q (!b) M1
theorem DTW.t {w : WT} (h : DTW X R e w) : DT X R e w := by
  obtain ⟨t, p, q⟩ := h.ex
  exact ⟨t, p.pt, q⟩
theorem dW_and1 (h : DT X R a ta) : DTW X R (.BoolOp .And [a] pos) ta := by
  obtain ⟨t, p, q⟩ := h.ex
  exact ⟨t, pw_and1 p, q⟩
theorem dW_or1 (h : DT X R a ta) : DTW X R (.BoolOp .Or [a] pos) ta := by
  obtain ⟨t, p, q⟩ := h.ex
  exact ⟨t, pw_or1 p, q⟩
theorem dW_and (h : DT X R a ta) (h2 : DTW X R (.BoolOp .And (b :: rest) pos) tb) : DTW X R (.BoolOp .And (a :: b :: rest) pos) (tAndD ta tb) := by
  obtain ⟨t, p, q⟩ := h.ex
  obtain ⟨t2, p2, q2⟩ := h2.ex
  refine ⟨_, pw_and p p2, fun r l hw kk => q r l hw fun b M1 F1 H1 s1 r1 z => ?_⟩
  cases b with
  | true => exact q2 r1 l z fun b' M' F' H' s => kk b' M' F' H' (s1.trans s)
  | false => exact kk _ _ _ _ s1 r1 z
theorem dW_or (h : DT X R a ta) (h2 : DTW X R (.BoolOp .Or (b :: rest) pos) tb) : DTW X R (.BoolOp .Or (a :: b :: rest) pos) (tOrD ta tb) := by
  obtain ⟨t, p, q⟩ := h.ex
  obtain ⟨t2, p2, q2⟩ := h2.ex
  refine ⟨_, pw_or p p2, fun r l hw kk => q r l hw fun b M1 F1 H1 s1 r1 z => ?_⟩
  cases b with
  | false => exact q2 r1 l z fun b' M' F' H' s => kk b' M' F' H' (s1.trans s)
  | true => exact kk _ _ _ _ s1 r1 z
theorem dT_not (h : DT X R a ta) : DT X R (.UnaryOp .Not a pos) (tNotD ta) := by
  obtain ⟨t, p, q⟩ := h.ex
  exact ⟨_, pt_not p, fun r l hw kk => q r l hw fun b M1 F1 H1 s1 r1 z => kk _ _ _ _ s1 r1 z⟩
/-! and, or, not as values, all bools -/
def wAndV (wa wb : WE) : WE := fun xn M Q => wa xn M fun d M1 => match d with
  | .bool b => if b = true then wb xn M1 Q else Q (.bool false) M1
  | _ => False
def wOrV (wa wb : WE) : WE := fun xn M Q => wa xn M fun d M1 => match d with
  | .bool b => if b = true then Q (.bool true) M1 else wb xn M1 Q
  | _ => False
def wNotV (wa : WE) : WE := fun xn M Q => wa xn M fun d M1 => match d with
  | .bool b => Q (.bool (!b)) M1
  | _ => False
theorem dE_one {op : BoolOp} (h : DE X R a wa) : DE X R (.BoolOp op [a] pos) wa := by
  obtain ⟨t, p, q⟩ := h.ex
  exact ⟨t, pe_one p, q⟩
theorem dE_and (h : DE X R a wa) (h2 : DE X R (.BoolOp .And (b :: rest) pos) wb) : DE X R (.BoolOp .And (a :: b :: rest) pos) (wAndV wa wb) := by
  obtain ⟨t, p, q⟩ := h.ex
  obtain ⟨t2, p2, q2⟩ := h2.ex
  refine ⟨_, pe_and p p2, fun r l hw kk => q r l hw fun v d M1 F1 H1 s1 r1 dv z => ?_⟩
  cases dv with
  | bl b =>
    refine ⟨b, rfl, ?_⟩
    cases b with
    | true => exact q2 r1 l z fun v' d' M' F' H' s => kk v' d' M' F' H' (s1.trans s)
    | false => exact kk _ _ _ _ _ s1 r1 (.bl _) z
  | _ => exact z.elim
theorem dE_or (h : DE X R a wa) (h2 : DE X R (.BoolOp .Or (b :: rest) pos) wb) : DE X R (.BoolOp .Or (a :: b :: rest) pos) (wOrV wa wb) := by
  obtain ⟨t, p, q⟩ := h.ex
  obtain ⟨t2, p2, q2⟩ := h2.ex
  refine ⟨_, pe_or p p2, fun r l hw kk => q r l hw fun v d M1 F1 H1 s1 r1 dv z => ?_⟩
  cases dv with
  | bl b =>
    refine ⟨b, rfl, ?_⟩
    cases b with
    | false => exact q2 r1 l z fun v' d' M' F' H' s => kk v' d' M' F' H' (s1.trans s)
    | true => exact kk _ _ _ _ _ s1 r1 (.bl _) z
  | _ => exact z.elim
theorem dE_not (h : DE X R a wa) : DE X R (.UnaryOp .Not a pos) (wNotV wa) := by
  obtain ⟨t, p, q⟩ := h.ex
  refine ⟨_, pe_not p, fun r l hw kk => q r l hw fun v d M1 F1 H1 s1 r1 dv z => ?_⟩
  cases dv with
  | bl b => exact ⟨b, rfl, kk _ _ _ _ _ s1 r1 (.bl _) z⟩
  | _ => exact z.elim
def wIf (t : WT) (wa wb : WE) : WE := fun xn M Q => t xn M fun b M1 => if b = true then wa xn M1 Q else wb xn M1 Q
theorem dE_if (h : DT X R c ta) (h1 : DE X R a wa) (h2 : DE X R b wb) : DE X R (.IfExp c a b pos) (wIf ta wa wb) := by
  obtain ⟨t, p, q⟩ := h.ex
  obtain ⟨t1, p1, q1⟩ := h1.ex
  obtain ⟨t2, p2, q2⟩ := h2.ex
  refine ⟨_, pe_ifExp p p1 p2, fun r l hw kk => q r l hw fun b M1 F1 H1 s1 r1 z => ?_⟩
  cases b with
  | true => exact q1 r1 l z fun v' d' M' F' H' s => kk v' d' M' F' H' (s1.trans s)
  | false => exact q2 r1 l z fun v' d' M' F' H' s => kk v' d' M' F' H' (s1.trans s)
/-! a < b < c -/
def wChain (f g : DF2) (oa ob oc : WO) : WE := fun xn M Q => oa xn M fun x M1 => ob xn M1 fun y M2 => app2 f x y M2 fun d M3 => match d with
  | .bool k => if k = true then oc xn M3 fun z M4 => app2 g y z M4 Q else Q (.bool false) M3
  | _ => False
theorem dE_chain {op op' : CmpOp} {r r' : R2} {f g : DF2} (ho : OpR X (compareOp op) r) (hd : DOp X.K r f) (ho' : OpR X (compareOp op') r') (hd' : DOp X.K r' g) (ha : DO X R a oa) (hb : DO X R b ob) (hc : DO X R c oc)
    (hp : ∀ {t1 t2 t3 : TE}, PE X a t1 → PE X b t2 → PE X c t3 → PE X (.Compare a [op, op'] [b, c] pos) (tChain r r' t1 t2 t3)) : DE X R (.Compare a [op, op'] [b, c] pos) (wChain f g oa ob oc) := by
  obtain ⟨t1, p1, q1⟩ := ha.ex
  obtain ⟨t2, p2, q2⟩ := hb.ex
  obtain ⟨t3, p3, q3⟩ := hc.ex
  refine ⟨_, hp p1 p2 p3, fun r l hw kk => ?_⟩
  refine q1 r l hw fun vx x M1 F1 H1 s1 r1 hx z1 => q2 r1 l z1 fun vy y M2 F2 H2 s2 r2 hy z2 => ?_
  refine app2_run hd r2 (hx.same s2) hy z2 fun v d M3 F3 H3 s3 r3 dv z3 => ?_
  cases dv with
  | bl k =>
    refine ⟨k, rfl, ?_⟩
    cases k with
    | true =>
      refine q3 r3 l z3 fun vz z M4 F4 H4 s4 r4 hz z4 => ?_
      exact app2_run hd' r4 ((hy.same s3).same s4) hz z4 fun v d M' F' H' s => kk v d M' F' H' (s1.trans (s2.trans (s3.trans (s4.trans s))))
    | false => exact kk _ _ _ _ _ (s1.trans (s2.trans s3)) r3 (.bl _) z3
  | _ => exact z3.elim

/-! operands in a row -/
def getAll : List Opd → Mem → Option (List PyData)
  | [], _ => some []
  | o :: os, M => match o.get M, getAll os M with
    | some d, some ds => some (d :: ds)
    | _, _ => none
inductive OpdsR (K : PySem.W.Frag) (F : Hp) (σ : List (Option V)) : List V → List Opd → Prop
  | nil : OpdsR K F σ [] []
  | cons {v : V} {vs : List V} {o : Opd} {os : List Opd} : OpdR K F σ v o → OpdsR K F σ vs os → OpdsR K F σ (v :: vs) (o :: os)
inductive Views (K : PySem.W.Frag) (F H : Hp) : List V → List PyData → Prop
  | nil : Views K F H [] []
  | cons {v : V} {vs : List V} {o : PyData} {os : List PyData} : View K F H v o → Views K F H vs os → Views K F H (v :: vs) (o :: os)
theorem views_of {F0 H0 F H : Hp} {W : Option (Addr × Addr)} {M : Mem} {σ : List (Option V)} (rel : Rel K F0 H0 W M σ F H) : ∀ {vs : List V} {os : List Opd} {ds : List PyData}, OpdsR K F σ vs os → getAll os M = some ds → Views K F H vs ds
  | _, _, _, .nil, h => by cases h; exact .nil
  | _, o :: os, ds, .cons r q, h => by
    unfold getAll at h
    split at h
    · rename_i d ds' e1 e2
      cases h
      exact .cons (rel.opd r e1) (views_of rel q e2)
    · cases h
abbrev QOs := List Opd → Mem → Prop
abbrev WOs := Xn → Mem → QOs → Prop
structure DOs (X : Cx) (R : XP) (es : List Expr) (w : WOs) : Prop where
  ex : ∃ t : TA, PA X es t ∧ ∀ {F0 H0 F H : Hp} {W : Option (Addr × Addr)} {M : Mem} {σ : List (Option V)} {xn : Xn} {Q : QOs} {k : List V → Hp → Prop}, Rel X.K F0 H0 W M σ F H → Lnk X.K R F0 H0 xn → w xn M Q →
    (∀ vs os M' F' H', Same F F' → Rel X.K F0 H0 W M' σ F' H' → OpdsR X.K F' σ vs os → Q os M' → k vs H') → t σ H k
def osN : WOs := fun _ M Q => Q [] M
def osC (oa : WO) (os : WOs) : WOs := fun xn M Q => oa xn M fun x M1 => os xn M1 fun xs M2 => Q (x :: xs) M2
theorem dOs_n : DOs X R [] osN := ⟨_, pa_nil, fun r _ hw kk => kk _ _ _ _ _ (.refl _) r .nil hw⟩
theorem dOs_c {os : WOs} (h : DO X R e oa) (h2 : DOs X R es os) (hs : starEach (e :: es) X.env = (false, eval e X.env) :: starEach es X.env := by rfl) : DOs X R (e :: es) (osC oa os) := by
  obtain ⟨t, p, q⟩ := h.ex
  obtain ⟨t2, p2, q2⟩ := h2.ex
  refine ⟨_, pa_cons p p2 hs, fun r l hw kk => q r l hw fun v x M1 F1 H1 s1 r1 hx z => q2 r1 l z fun vs os M2 F2 H2 s2 r2 hy z2 => ?_⟩
  exact kk _ _ _ _ _ (s1.trans s2) r2 (.cons (hx.same s2) hy) z2
abbrev DFN := List PyData → (PyData → Prop) → Prop
def DCall (K : PySem.W.Frag) (r : List V → Hp → VK → Prop) (f : DFN) : Prop := ∀ {F H : Hp} {vs : List V} {ds : List PyData} {Qd : PyData → Prop} {k : VK}, Same F H → Views K F H vs ds → f ds Qd →
  (∀ v d F' H', Grow F H F' H' → DV K F' v d → Qd d → k v H') → r vs H k
def appN (f : DFN) (os : List Opd) (M : Mem) (Q : QD) : Prop := match getAll os M with
  | some ds => f ds fun r => Q r M
  | none => False
def wCB (f : DFN) (os : WOs) : WE := fun xn M Q => os xn M fun xs M1 => appN f xs M1 Q
theorem appN_run {r : List V → Hp → VK → Prop} {f : DFN} (hd : DCall K r f) {F0 H0 F H : Hp} {W : Option (Addr × Addr)} {M : Mem} {σ : List (Option V)} {Q : QD} {k : VK} {os : List Opd} {vs : List V}
    (rel : Rel K F0 H0 W M σ F H) (hx : OpdsR K F σ vs os) (h : appN f os M Q)
    (kk : ∀ v d M' F' H', Same F F' → Rel K F0 H0 W M' σ F' H' → DV K F' v d → Q d M' → k v H') : r vs H k := by
  unfold appN at h
  split at h
  · rename_i ds e
    exact hd rel.sub (views_of rel hx e) h fun v d F' H' g dv q => kk v d M F' H' g.f (rel.grow g) dv q
  · exact h.elim
theorem dE_cb {x : Str} {p : Pos} {id : String} {r : List V → Hp → VK → Prop} {f : DFN} {os : WOs} (hc : CallR X (.builtin id) r) (hd : DCall X.K r f) (hg : Gl X x) (hm : X.mg x = none) (hv : bootBuiltins x = some (.builtin id)) (ha : DOs X R (e :: es) os) (hn : x ≠ "__name__" := by decide) (hdb : (x == ("__debug__" : Str)) = false := by decide)
    (he : starEach (e :: es) X.env = (false, eval e X.env) :: starEach es X.env := by rfl) (hpl : (backTo pos (starEach es X.env)).any (·.1) = false := by rfl) : DE X R (.Call (.Name x p) (e :: es) [] pos) (wCB f os) := by
  obtain ⟨t, q, z⟩ := ha.ex
  refine ⟨_, pe_callB hc hg hm hv q hn hdb he hpl, fun r l hw kk => z r l hw fun vs os M1 F1 H1 s1 r1 hx y => ?_⟩
  exact appN_run hd r1 hx y fun v d M' F' H' s => kk v d M' F' H' (s1.trans s)
theorem dE_ct {x : Str} {p : Pos} {T : String} {r : List V → Hp → VK → Prop} {f : DFN} {os : WOs} (hc : CallR X (.type T) r) (hd : DCall X.K r f) (hg : Gl X x) (hm : X.mg x = none) (hv : bootBuiltins x = some (.type T)) (ha : DOs X R (e :: es) os) (hn : x ≠ "__name__" := by decide) (hdb : (x == ("__debug__" : Str)) = false := by decide)
    (he : starEach (e :: es) X.env = (false, eval e X.env) :: starEach es X.env := by rfl) (hpl : (backTo pos (starEach es X.env)).any (·.1) = false := by rfl) : DE X R (.Call (.Name x p) (e :: es) [] pos) (wCB f os) := by
  obtain ⟨t, q, z⟩ := ha.ex
  refine ⟨_, pe_callTy hc hg hm hv q hn hdb he hpl, fun r l hw kk => z r l hw fun vs os M1 F1 H1 s1 r1 hx y => ?_⟩
  exact appN_run hd r1 hx y fun v d M' F' H' s => kk v d M' F' H' (s1.trans s)
/-! a method of a built-in type that changes nothing -/
abbrev DFM := PyData → List PyData → (PyData → Prop) → Prop
def DMeth (K : PySem.W.Frag) (T : String) (r : V → List V → Hp → VK → Prop) (f : DFM) : Prop := ∀ {F H : Hp} {v : V} {vs : List V} {d : PyData} {ds : List PyData} {Qd : PyData → Prop} {k : VK}, Same F H → View K F H v d → Views K F H vs ds → f d ds Qd →
  (∀ v d F' H', Grow F H F' H' → DV K F' v d → Qd d → k v H') → r v vs H k
def TyD (K : PySem.W.Frag) (T : String) (P : PyData → Bool) : Prop := ∀ {F H : Hp} {v : V} {d : PyData}, Same F H → View K F H v d → P d = true → tyV K T v H
def appM (P : PyData → Bool) (f : DFM) (o : Opd) (os : List Opd) (M : Mem) (Q : QD) : Prop := match o.get M, getAll os M with
  | some d, some ds => P d = true ∧ f d ds fun r => Q r M
  | _, _ => False
def wBM (P : PyData → Bool) (f : DFM) (oa : WO) (os : WOs) : WE := fun xn M Q => oa xn M fun x M1 => (match x.get M1 with
  | some d => P d = true
  | none => False) ∧ os xn M1 fun xs M2 => appM P f x xs M2 Q
def wBM0 (P : PyData → Bool) (f : DFM) (oa : WO) : WE := fun xn M Q => oa xn M fun x M1 => appM P f x [] M1 Q
theorem dE_bm0 {name : Str} {apos : Pos} {T id : String} {r : V → List V → Hp → VK → Prop} {P : PyData → Bool} {f : DFM} (pa : PlainAttrs T) (slot : Slot T name id) (hty : typeOf (.builtin id) = pure (.type "method_descriptor")) (hm : MtR X id r) (ht : TyD X.K T P) (hd : DMeth X.K T r f) (ha : DO X R a oa)
    (hbase : attributeBase a name X.env (eval a X.env) = eval a X.env := by rfl) (hline : (apos.endLine == pos.line) = true := by rfl) : DE X R (.Call (.Attribute a name apos) [] [] pos) (wBM0 P f oa) := by
  obtain ⟨t, p, q⟩ := ha.ex
  refine ⟨_, pe_bm0 pa slot hty hm p hbase hline, fun r l hw kk => q r l hw fun v x M1 F1 H1 s1 r1 hx y => ?_⟩
  unfold appM at y
  split at y
  · rename_i d ds e1 e2
    have hv := r1.opd hx e1
    refine ⟨ht r1.sub hv y.1, hd r1.sub hv (views_of r1 .nil e2) y.2 fun v d F' H' g dv z => kk v d M1 F' H' (s1.trans g.f) (r1.grow g) dv z⟩
  · exact y.elim
theorem dE_bm {name : Str} {apos : Pos} {T id : String} {r : V → List V → Hp → VK → Prop} {P : PyData → Bool} {f : DFM} {os : WOs} (pa : PlainAttrs T) (slot : Slot T name id) (hty : typeOf (.builtin id) = pure (.type "method_descriptor")) (hm : MtR X id r) (ht : TyD X.K T P) (hd : DMeth X.K T r f) (ha : DO X R a oa) (hb : DOs X R (e :: es) os)
    (hbase : attributeBase a name X.env (eval a X.env) = eval a X.env := by rfl)
    (hfew : ((backTo pos (starEach (e :: es) X.env)).all (fun x => !x.1) && (backToKw pos (keywordEach [] X.env)).all (fun x => x.1.isSome)
      && decide ((e :: es).length + ([] : List Keyword).length + (if ([] : List Keyword).isEmpty then 0 else 1) < 30)) = true := by rfl)
    (hline : (apos.endLine == pos.line) = true := by rfl) (hs : starEach (e :: es) X.env = (false, eval e X.env) :: starEach es X.env := by rfl) (hplain : (backTo pos (starEach es X.env)).any (·.1) = false := by rfl) :
    DE X R (.Call (.Attribute a name apos) (e :: es) [] pos) (wBM P f oa os) := by
  obtain ⟨t, p, q⟩ := ha.ex
  obtain ⟨t2, p2, q2⟩ := hb.ex
  refine ⟨_, pe_bm pa slot hty hm p p2 hbase hfew hline hs hplain, fun r l hw kk => q r l hw fun v x M1 F1 H1 s1 r1 hx y => ?_⟩
  obtain ⟨y1, y2⟩ := y
  cases e1 : x.get M1 with
  | none => rw [e1] at y1; exact y1.elim
  | some d =>
    rw [e1] at y1
    refine ⟨ht r1.sub (r1.opd hx e1) y1, q2 r1 l y2 fun vs xs M2 F2 H2 s2 r2 hxs y => ?_⟩
    unfold appM at y
    split at y
    · rename_i d ds e1 e2
      exact hd r2.sub (r2.opd (hx.same s2) e1) (views_of r2 hxs e2) y.2 fun v d F' H' g dv z => kk v d M2 F' H' (s1.trans (s2.trans g.f)) (r2.grow g) dv z
    · exact y.elim

/-! displays: items frozen -/
abbrev WL := Xn → Mem → (List PyData → Mem → Prop) → Prop
structure DL (X : Cx) (R : XP) (es : List Expr) (w : WL) : Prop where
  ex : ∃ t : TA, PA X es t ∧ ∀ {F0 H0 F H : Hp} {W : Option (Addr × Addr)} {M : Mem} {σ : List (Option V)} {xn : Xn} {Q : List PyData → Mem → Prop} {k : List V → Hp → Prop}, Rel X.K F0 H0 W M σ F H → Lnk X.K R F0 H0 xn → w xn M Q →
    (∀ vs ds M' F' H', Same F F' → Rel X.K F0 H0 W M' σ F' H' → DVs X.K F' vs ds → Q ds M' → k vs H') → t σ H k
def wN : WL := fun _ M Q => Q [] M
def wCs (wa : WE) (wl : WL) : WL := fun xn M Q => wa xn M fun d M1 => wl xn M1 fun ds M2 => Q (d :: ds) M2
theorem dL_n : DL X R [] wN := ⟨_, pa_nil, fun r _ hw kk => kk _ _ _ _ _ (.refl _) r .nil hw⟩
theorem dL_c {wl : WL} (h : DE X R e wa) (h2 : DL X R es wl) (hs : starEach (e :: es) X.env = (false, eval e X.env) :: starEach es X.env := by rfl) : DL X R (e :: es) (wCs wa wl) := by
  obtain ⟨t, p, q⟩ := h.ex
  obtain ⟨t2, p2, q2⟩ := h2.ex
  refine ⟨_, pa_cons p p2 hs, fun r l hw kk => q r l hw fun v x M1 F1 H1 s1 r1 hx z => q2 r1 l z fun vs os M2 F2 H2 s2 r2 hy z2 => ?_⟩
  exact kk _ _ _ _ _ (s1.trans s2) r2 (.cons (hx.same s2) hy) z2
def wTup (wl : WL) : WE := fun xn M Q => wl xn M fun ds M1 => ds.length ≤ sizeLine ∧ Q (.tuple ds) M1
def wLst (wl : WL) : WE := fun xn M Q => wl xn M fun ds M1 => ds.length ≤ sizeLine ∧ Q (.list ds) M1
theorem dE_tup {wl : WL} {x1 : Nat} (h : DL X R es wl) : DE X R (.Tuple es x1 pos) (wTup wl) := by
  obtain ⟨t, p, q⟩ := h.ex
  refine ⟨_, pe_tup p, fun r l hw kk => q r l hw fun vs ds M1 F1 H1 s1 r1 hx z => ⟨by rw [hx.len]; exact z.1, fun p hp => ?_⟩⟩
  have g := Grow.newF (o := .tup vs) r1.sub hp
  exact kk _ _ _ _ _ (s1.trans g.f) (r1.grow g) (.tup upd_same (hx.same g.f)) z.2
theorem dF_lst {wl : WL} (h : DL X R es wl) : DF X R (.List es pos) (wLst wl) := by
  obtain ⟨t, p, q⟩ := h.ex
  refine ⟨_, pe_lst p, fun r l hw kk => q r l hw fun vs ds M1 F1 H1 s1 r1 hx z => ⟨by rw [hx.len]; exact z.1, fun p hp => ?_⟩⟩
  obtain ⟨r2, f2⟩ := r1.isFresh (o := .lst vs) (d := .list ds) hp (.lst upd_same hx)
  exact kk _ _ _ _ _ s1 r2 f2 z.2
def wDic0 : WE := fun _ M Q => Q (.dict []) M
def wDicT : WE := fun _ M Q => Q (.dict [(.none, .none)]) M
theorem dF_dicK : DF X R (.Dict [] [] pos) wDic0 := by
  refine ⟨_, pe_dnewK, fun {F0 H0 F H W M σ xn Q k} r l hw kk p hp => ?_⟩
  obtain ⟨r2, f2⟩ := r.isFresh (o := .dK []) (d := .dict []) hp (.dic upd_same rfl .nil)
  exact kk _ _ _ _ _ (.refl _) r2 f2 hw
theorem dF_dicT : DF X R (.Dict [] [] pos) wDicT := by
  refine ⟨_, pe_dnewT, fun {F0 H0 F H W M σ xn Q k} r l hw kk p hp => ?_⟩
  obtain ⟨r2, f2⟩ := r.isFresh (o := .dT []) (d := .dict [(.none, .none)]) hp (.dit (kvs := []) upd_same rfl .nil)
  exact kk _ _ _ _ _ (.refl _) r2 f2 hw

/-! a def's promise over plain data -/
abbrev GSpec := List Arg → Option Wel → (PyData → Option Wel → Prop) → Prop
structure After (F H : Hp) (W : Option (Addr × Addr)) (F' H' : Hp) : Prop where
  f : Same F F'
  s : Same F' H'
  h : ∀ a o, H a = some o → ¬ InW W a → H' a = some o
  n : ∀ a o, F' a = some o → F a = some o ∨ H a = none
def spD (K : PySem.W.Frag) (g : GSpec) : Sp := fun vs H Q _ => ∃ (F : Hp) (W : Option (Addr × Addr)) (args : List Arg) (wl : Option Wel) (Qd : PyData → Option Wel → Prop), Same F H ∧ ArgsR K F W vs args ∧ WelR F H W wl ∧ g args wl Qd ∧
  ∀ v d F' H' wl', After F H W F' H' → WelR F' H' W wl' → DV K F' v d → Qd d wl' → Q v H'
theorem Rel.of_after {F0 H0 F F' H H' : Hp} {W : Option (Addr × Addr)} {M : Mem} {σ : List (Option V)} {wl' : Option Wel} (rel : Rel K F0 H0 W M σ F H) (a : After F H W F' H') (w : WelR F' H' W wl') : Rel K F0 H0 W ⟨M.env, wl'⟩ σ F' H' where
  sub := a.s
  old := fun b o e n => a.h _ _ (rel.old b o e n) n
  fol := rel.fol.trans a.f
  fnw := fun b o e => by
    rcases a.n b o e with z | z
    · exact rel.fnw _ _ z
    · by_cases q : H0 b = none
      · exact .inr q
      · cases y : H0 b with
        | none => exact absurd y q
        | some u =>
          by_cases iw : InW W b
          · exfalso
            cases W with
            | none => exact iw
            | some t =>
              obtain ⟨t1, t2⟩ := t
              have wl := rel.wel
              cases hm : M.wl with
              | none => rw [hm] at wl; exact wl
              | some w2 =>
                rw [hm] at wl
                rcases iw with rfl | rfl
                · rw [wl.1.dic] at z; cases z
                · rw [wl.1.lst] at z; cases z
          · rw [rel.old b u y iw] at z; cases z
  len := rel.len
  slt := fun i e h => by
    obtain ⟨v, h1, h2⟩ := rel.slt i e h
    refine ⟨v, h1, ?_⟩
    cases e with
    | im d => exact DV.same a.f h2
    | wel => exact h2
    | scr ns => obtain ⟨b, e, h⟩ := h2; exact ⟨b, e, sameL a.f h⟩
    | ow d =>
      obtain ⟨p, rfl, o, n, n0, nw⟩ := h2
      obtain ⟨u, hu⟩ := o.there
      refine ⟨p, rfl, o.move a.f ((a.h _ _ hu nw).trans hu.symm), ?_, n0, nw⟩
      cases z : F' p with
      | none => rfl
      | some y =>
        rcases a.n p y z with t | t
        · rw [n] at t; cases t
        · rw [hu] at t; cases t
    | ro d =>
      obtain ⟨p, rfl, o, n0, nw⟩ := h2
      obtain ⟨u, hu⟩ := o.there
      exact ⟨p, rfl, o.move a.f ((a.h _ _ hu nw).trans hu.symm), n0, nw⟩
  dis := rel.dis
  wel := w
/-! arguments of a def -/
def aN : WA := fun _ M Q => Q [] M
def aC (wa : WE) (as : WA) : WA := fun xn M Q => wa xn M fun d M1 => as xn M1 fun xs M2 => Q (.x d :: xs) M2
def aW (i : Nat) (as : WA) : WA := fun xn M Q => M.env[i]? = some (some .wel) ∧ as xn M fun xs M2 => Q (.wel :: xs) M2
theorem ArgR.same {F F' : Hp} {W : Option (Addr × Addr)} {v : V} {x : Arg} (s : Same F F') (h : ArgR K F W v x) : ArgR K F' W v x := by
  cases x with
  | x d => exact DV.same s h
  | wel => exact h
  | scr ns => obtain ⟨a, e, h⟩ := h; exact ⟨a, e, sameL s h⟩
theorem dA_n : DA X R [] aN := ⟨_, pa_nil, fun r _ hw kk => kk _ _ _ _ _ (.refl _) r .nil hw⟩
theorem dA_c {as : WA} (h : DE X R e wa) (h2 : DA X R es as) (hs : starEach (e :: es) X.env = (false, eval e X.env) :: starEach es X.env := by rfl) : DA X R (e :: es) (aC wa as) := by
  obtain ⟨t, p, q⟩ := h.ex
  obtain ⟨t2, p2, q2⟩ := h2.ex
  refine ⟨_, pa_cons p p2 hs, fun r l hw kk => q r l hw fun v x M1 F1 H1 s1 r1 hx z => q2 r1 l z fun vs os M2 F2 H2 s2 r2 hy z2 => ?_⟩
  exact kk _ _ _ _ _ (s1.trans s2) r2 (.cons (a := .x x) (hx.same s2) hy) z2
theorem dA_w (i : Nat) {x : Str} {xp : Pos} {as : WA} (h2 : DA X R es as) (hN : X.N[i]? = some x := by rfl) (hv : Vis X.env.scope x := by first | exact Or.inl rfl | exact Or.inr (Or.inl rfl) | exact Or.inr (Or.inr rfl)) (hd : (x == ("__debug__" : Str)) = false := by decide)
    (hcd : (x == ("__classdict__" : Str)) = false := by decide) (hs : starEach (.Name x xp :: es) X.env = (false, eval (.Name x xp) X.env) :: starEach es X.env := by rfl) : DA X R (.Name x xp :: es) (aW i as) := by
  obtain ⟨t2, p2, q2⟩ := h2.ex
  refine ⟨_, pa_cons (pe_var (i := i) hN hv hd hcd) p2 hs, fun {F0 H0 F H W M σ xn Q k} r l hw kk => ?_⟩
  obtain ⟨w1, w2⟩ := hw
  obtain ⟨u, h1, q, rr, e1, e2⟩ := r.slt i _ w1
  refine ⟨u, h1, q2 r l w2 fun vs os M2 F2 H2 s2 r2 hy z2 => ?_⟩
  exact kk _ _ _ _ _ s2 r2 (.cons (a := .wel) ⟨q, rr, e1, e2⟩ hy) z2
def wCall (g : GSpec) (as : WA) : WE := fun xn M Q => as xn M fun xs M1 => g xs M1.wl fun d wl => Q d ⟨M1.env, wl⟩
theorem spD_run {g : GSpec} {F0 H0 F H : Hp} {W : Option (Addr × Addr)} {M : Mem} {σ : List (Option V)} {Q : QD} {k : VK} {E : XK} {vs : List V} {xs : List Arg} (rel : Rel K F0 H0 W M σ F H) (ha : ArgsR K F W vs xs)
    (h : g xs M.wl fun d wl => Q d ⟨M.env, wl⟩) (kk : ∀ v d M' F' H', Same F F' → Rel K F0 H0 W M' σ F' H' → DV K F' v d → Q d M' → k v H') : spD K g vs H k E :=
  ⟨F, W, xs, M.wl, _, rel.sub, ha, rel.wel, h, fun v d F' H' wl' a w dv q => kk v d ⟨M.env, wl'⟩ F' H' a.f (rel.of_after a w) dv q⟩
theorem dE_call {k j : Nat} {f : Addr} {fd : FuncData} {ps : List Str} {g : GSpec} {x : Str} {p : Pos} {as : WA} (F : FnOk X.prog X.w X.K X.mg X.base CX0 k f fd ps (spD X.K g)) (hr : Room j X.A) (hk : k ≤ j) (hg : Gl X x) (hm : X.mg x = some (.ref f)) (hkp : PySem.W.keepIn X.K (.ref f) = true) (hb : Binds X.K fd ps [])
    (ha : DA X R (e :: es) as) (hdb : (x == ("__debug__" : Str)) = false := by decide) (he : starEach (e :: es) X.env = (false, eval e X.env) :: starEach es X.env := by rfl) (hpl : (backTo pos (starEach es X.env)).any (·.1) = false := by rfl) :
    DE X R (.Call (.Name x p) (e :: es) [] pos) (wCall g as) := by
  obtain ⟨t, q, z⟩ := ha.ex
  refine ⟨_, pe_call F (hr.mono hk) hg hm hkp hb .nil pass0 q hdb he hpl, fun {F0 H0 F H W M σ xn Q kc} r l hw kk => ?_⟩
  refine z r l hw fun vs xs M1 F1 H1 s1 r1 hx y => ?_
  rw [List.append_nil]
  exact spD_run r1 hx y fun v d M' F' H' s => kk v d M' F' H' (s1.trans s)
end
end DL

/-! DL5: statements, loops, comprehensions, a def by its body. -/
namespace DL
open PySem PySem.Spec L2 PyProof.Rows

structure DEn where
  nx : Mem → Prop
  rt : PyData → Mem → Prop
  bk : Mem → Prop := fun _ => False
  ct : Mem → Prop := fun _ => False
abbrev WS := Xn → DEn → Mem → Prop
structure EndsR (K : PySem.W.Frag) (F0 H0 F : Hp) (W : Option (Addr × Addr)) (De : DEn) (D : Ends) : Prop where
  nx : ∀ M' σ' F' H', Same F F' → Rel K F0 H0 W M' σ' F' H' → De.nx M' → D.nx σ' H'
  rt : ∀ v d M' σ' F' H', Same F F' → Rel K F0 H0 W M' σ' F' H' → DV K F' v d → De.rt d M' → D.rt v H'
  bk : ∀ M' σ' F' H', Same F F' → Rel K F0 H0 W M' σ' F' H' → De.bk M' → D.bk σ' H'
  ct : ∀ M' σ' F' H', Same F F' → Rel K F0 H0 W M' σ' F' H' → De.ct M' → D.ct σ' H'
theorem EndsR.same {K : PySem.W.Frag} {F0 H0 F F' : Hp} {W : Option (Addr × Addr)} {De : DEn} {D : Ends} (s : Same F F') (h : EndsR K F0 H0 F W De D) : EndsR K F0 H0 F' W De D :=
  ⟨fun M' σ' F2 H' t => h.nx M' σ' F2 H' (s.trans t), fun v d M' σ' F2 H' t => h.rt v d M' σ' F2 H' (s.trans t), fun M' σ' F2 H' t => h.bk M' σ' F2 H' (s.trans t), fun M' σ' F2 H' t => h.ct M' σ' F2 H' (s.trans t)⟩
structure DS (X : Cx) (R : XP) (st : Stmt) (u : WS) : Prop where
  ex : ∃ t : TS, PS X st t ∧ ∀ {F0 H0 F H : Hp} {W : Option (Addr × Addr)} {M : Mem} {σ : List (Option V)} {xn : Xn} {De : DEn} {D : Ends}, Rel X.K F0 H0 W M σ F H → Lnk X.K R F0 H0 xn → u xn De M → EndsR X.K F0 H0 F W De D → t D σ H
structure DSs (X : Cx) (R : XP) (st : List Stmt) (u : WS) : Prop where
  ex : ∃ t : TS, PSs X st t ∧ ∀ {F0 H0 F H : Hp} {W : Option (Addr × Addr)} {M : Mem} {σ : List (Option V)} {xn : Xn} {De : DEn} {D : Ends}, Rel X.K F0 H0 W M σ F H → Lnk X.K R F0 H0 xn → u xn De M → EndsR X.K F0 H0 F W De D → t D σ H
section
variable {X : Cx} {R : XP} {K : PySem.W.Frag} {e a b c : Expr} {es : List Expr} {st : Stmt} {rest body : List Stmt} {pos : Pos} {wa wb wc : WE} {oa ob oc : WO} {ta tb : WT} {u v : WS}
def uNext : WS := fun _ De M => De.nx M
def uSeq (u v : WS) : WS := fun xn De M => u xn { De with nx := v xn De } M
theorem dSs_n : DSs X R [] uNext := ⟨_, pss_nil, fun r _ h E => E.nx _ _ _ _ (.refl _) r h⟩
theorem dSs_c (h : DS X R st u) (h2 : DSs X R rest v) : DSs X R (st :: rest) (uSeq u v) := by
  obtain ⟨t, p, q⟩ := h.ex
  obtain ⟨t2, p2, q2⟩ := h2.ex
  refine ⟨_, pss_cons p p2, fun r l hw E => q r l hw ⟨fun M' σ' F' H' s r' z => ?_, E.rt, E.bk, E.ct⟩⟩
  exact q2 r' l z (E.same s)
theorem dSs_1 (h : DS X R st u) : DSs X R [st] u := by
  obtain ⟨t, p, q⟩ := h.ex
  exact ⟨_, pss_one p, q⟩
theorem dS_pass : DS X R (.Pass pos) uNext := ⟨_, ps_pass, fun r _ h E => E.nx _ _ _ _ (.refl _) r h⟩
theorem dS_break : DS X R (.Break pos) (fun _ De M => De.bk M) := ⟨_, ps_break, fun r _ h E => E.bk _ _ _ _ (.refl _) r h⟩
theorem dS_cont : DS X R (.Continue pos) (fun _ De M => De.ct M) := ⟨_, ps_continue, fun r _ h E => E.ct _ _ _ _ (.refl _) r h⟩
/-- before a statement some slots are forgotten -/
def uKill (ks : List Nat) (u : WS) : WS := fun xn De M => u xn De (M.kill ks)
theorem dS_kill (ks : List Nat) (h : DS X R st u) : DS X R st (uKill ks u) := by
  obtain ⟨t, p, q⟩ := h.ex
  exact ⟨t, p, fun r l hw E => q (r.kill ks) l hw E⟩
/-- before a statement some owned slots are frozen -/
def Mem.frz (M : Mem) (i : Nat) : Mem := match M.env[i]? with
  | some (some (.ow d)) => M.set i (.im d)
  | _ => M
theorem Rel.frz {F0 H0 F H : Hp} {W : Option (Addr × Addr)} {M : Mem} {σ : List (Option V)} (r : Rel K F0 H0 W M σ F H) (i : Nat) : ∃ F', Same F F' ∧ Rel K F0 H0 W (M.frz i) σ F' H := by
  unfold Mem.frz
  split
  · rename_i d e
    obtain ⟨v, h1, p, rfl, o, nf, n0, nw⟩ := r.slt i _ e
    -- the slot is emptied, what it held is fresh, then frozen
    have rk : Rel K F0 H0 W (M.kill [i]) σ F H := r.kill [i]
    have fr : Fresh K H0 W (M.kill [i]) σ F H p d := ⟨o, nf, n0, nw, fun j d' hj hs => by
      have hn := killNot hj
      have hj' := getKill hj
      exact r.dis i j d d' (.ref p) (fun z => hn (by simp [z])) e hj' h1 hs⟩
    obtain ⟨F', s, r2, dv⟩ := rk.freeze fr
    refine ⟨F', s, ?_⟩
    have r3 := r2.setIm (i := i) dv
    have e1 : (M.kill [i]).set i (.im d) = M.set i (.im d) := by
      show (⟨(M.env.set i none).set i (some (.im d)), M.wl⟩ : Mem) = ⟨M.env.set i (some (.im d)), M.wl⟩
      rw [List.set_set]
    have e2 : σ.set i (some (.ref p)) = σ := by
      have hl := (List.getElem?_eq_some_iff.mp h1)
      obtain ⟨hl, he⟩ := hl
      rw [← he]
      exact List.set_getElem_self hl
    rw [e1, e2] at r3
    exact r3
  · exact ⟨F, .refl _, r⟩
def uFrz (i : Nat) (u : WS) : WS := fun xn De M => u xn De (M.frz i)
theorem dS_frz (i : Nat) (h : DS X R st u) : DS X R st (uFrz i u) := by
  obtain ⟨t, p, q⟩ := h.ex
  refine ⟨t, p, fun r l hw E => ?_⟩
  obtain ⟨F', s, r2⟩ := r.frz i
  exact q r2 l hw (E.same s)
/-- an expression whose value is dropped -/
def uDrop (wa : WE) : WS := fun xn De M => wa xn M fun _ M1 => De.nx M1
theorem dS_expr (h : DE X R e wa) (hs : swapsWith e none pos.line X.env = pure false := by rfl) : DS X R (.Expr e pos) (uDrop wa) := by
  obtain ⟨t, p, q⟩ := h.ex
  exact ⟨_, ps_expr p hs, fun r l hw E => q r l hw fun v d M' F' H' s r' dv z => E.nx _ _ _ _ s r' z⟩
def uRet (wa : WE) : WS := fun xn De M => wa xn M De.rt
theorem dS_ret (h : DE X R e wa) : DS X R (.Return (some e) pos) (uRet wa) := by
  obtain ⟨t, p, q⟩ := h.ex
  exact ⟨_, ps_ret p, fun r l hw E => q r l hw fun v d M' F' H' s r' dv z => E.rt _ _ _ _ _ _ s r' dv z⟩
def uIf (tc : WT) (u v : WS) : WS := fun xn De M => tc xn M fun b M1 => if b = true then u xn De M1 else v xn De M1
theorem dS_if {st1 st2 : List Stmt} (h : DT X R c ta) (h1 : DSs X R st1 u) (h2 : DSs X R st2 v) : DS X R (.If c st1 st2 pos) (uIf ta u v) := by
  obtain ⟨t, p, q⟩ := h.ex
  obtain ⟨t1, p1, q1⟩ := h1.ex
  obtain ⟨t2, p2, q2⟩ := h2.ex
  refine ⟨_, ps_if p p1 p2, fun r l hw E => q r l hw fun b M1 F1 H1 s1 r1 z => ?_⟩
  cases b with
  | true => exact q1 r1 l z (E.same s1)
  | false => exact q2 r1 l z (E.same s1)
/-- the ways behind a statement meet -/
def uCut (Mid : Xn → Mem → Mem → Prop) (u v : WS) : WS := fun xn De M => u xn { De with nx := Mid xn M } M ∧ ∀ M', Mid xn M M' → v xn De M'

/-! targets -/
abbrev WG := PyData → Mem → (Mem → Prop) → Prop
structure DG (X : Cx) (tg : Expr) (is : List Nat) (g : WG) : Prop where
  ex : ∃ t : TG, PG X tg t ∧ ∀ {F0 H0 F H : Hp} {W : Option (Addr × Addr)} {M : Mem} {σ : List (Option V)} {v : V} {d : PyData} {Q : Mem → Prop} {k : List (Option V) → Hp → Prop}, Rel X.K F0 H0 W M σ F H → DV X.K F v d → g d M Q →
    (∀ (M' : Mem) (σ' : List (Option V)), (∀ i : Nat, i ∉ is → σ'[i]? = σ[i]?) ∧ σ'.length = σ.length → Rel X.K F0 H0 W M' σ' F H → Q M' → k σ' H) → t v σ H k
def gSet (i : Nat) : WG := fun d M Q => Q (M.set i (.im d))
theorem dG_n {i : Nat} {x : Str} (hN : X.N.Nodup) (hi : X.N[i]? = some x) (hx : Loc X.env.scope x) (hf : X.fn x = true ∨ X.env.scope.names.lookup x = some .local := by first | exact .inl rfl | exact .inr rfl | assumption) : DG X (.Name x pos) [i] (gSet i) :=
  ⟨_, pg_name hN hi hx hf, fun r dv h kk => kk _ _ ⟨fun j hj => List.getElem?_set_ne (fun z => hj (by simp [z])), List.length_set⟩ (r.setIm dv) h⟩
abbrev WGs := List PyData → Mem → (Mem → Prop) → Prop
structure DGs (X : Cx) (ts : List Expr) (is : List Nat) (g : WGs) : Prop where
  ex : ∃ t : TGs, PGs X ts t ∧ ∀ {F0 H0 F H : Hp} {W : Option (Addr × Addr)} {M : Mem} {σ : List (Option V)} {vs : List V} {ds : List PyData} {Q : Mem → Prop} {k : List (Option V) → Hp → Prop}, Rel X.K F0 H0 W M σ F H → DVs X.K F vs ds → g ds M Q →
    (∀ (M' : Mem) (σ' : List (Option V)), (∀ i : Nat, i ∉ is → σ'[i]? = σ[i]?) ∧ σ'.length = σ.length → Rel X.K F0 H0 W M' σ' F H → Q M' → k σ' H) → t vs σ H k
def gN : WGs := fun ds M Q => ds = [] ∧ Q M
def gC (g : WG) (gs : WGs) : WGs := fun ds M Q => match ds with
  | d :: r => g d M fun M1 => gs r M1 Q
  | [] => False
theorem dGs_n : DGs X [] [] gN := ⟨_, pgs_nil, fun {F0 H0 F H W M σ vs ds Q k} r dv h kk => by
  obtain ⟨rfl, h⟩ := h
  cases dv
  exact ⟨rfl, kk _ _ ⟨fun _ _ => rfl, rfl⟩ r h⟩⟩
theorem dGs_c {g : WG} {gs : WGs} {is js : List Nat} (h : DG X e is g) (h2 : DGs X es js gs) (hs : (assignEach (e :: es) X.env).map (·.2) = assign e X.env :: (assignEach es X.env).map (·.2) := by rfl) : DGs X (e :: es) (is ++ js) (gC g gs) := by
  obtain ⟨t, p, q⟩ := h.ex
  obtain ⟨t2, p2, q2⟩ := h2.ex
  refine ⟨_, pgs_cons p p2 hs, fun {F0 H0 F H W M σ vs ds Q k} r dv hw kk => ?_⟩
  cases dv with
  | nil => exact hw.elim
  | cons d1 d2 => exact ⟨_, _, rfl, q r d1 hw fun M1 σ1 h1 r1 z => q2 r1 d2 z fun M2 σ2 h2 r2 z2 => kk M2 σ2 ⟨fun i hi => (h2.1 i fun y => hi (List.mem_append_right _ y)).trans (h1.1 i fun y => hi (List.mem_append_left _ y)), h2.2.trans h1.2⟩ r2 z2⟩
def gT (n : Nat) (gs : WGs) : WG := fun d M Q => match d with
  | .tuple ds => ds.length = n ∧ gs ds M Q
  | _ => False
theorem dG_t {gs : WGs} {is : List Nat} {k n : Nat} (hc : X.calm = true) (h : DGs X es is gs) (hn : (assignEach es X.env).length = n := by rfl) (hst : (assignEach es X.env).findIdx? (·.1) = none := by rfl) : DG X (.Tuple es k pos) is (gT n gs) := by
  obtain ⟨t, p, q⟩ := h.ex
  refine ⟨_, pg_tup hc p hn hst, fun {F0 H0 F H W M σ v d Q k} r dv hw kk => ?_⟩
  cases dv with
  | tup s ds => exact ⟨_, _, rfl, SqT.of (r.sub _ _ s), by rw [ds.len]; exact hw.1, q r ds hw.2 kk⟩
  | _ => exact hw.elim
def uAsg (wa : WE) (g : WG) : WS := fun xn De M => wa xn M fun d M1 => g d M1 De.nx
theorem dS_asg {tg : Expr} {g : WG} {is : List Nat} (h : DE X R e wa) (hg : DG X tg is g) (hs : swapsWithSole [tg] e pos.line X.env = pure false := by rfl) (hw : swappedStores [tg] e X.env = pure none := by rfl)
    (h1 : (assignEach [tg] X.env).map (·.2) = [assign tg X.env] := by rfl) : DS X R (.Assign [tg] e pos) (uAsg wa g) := by
  obtain ⟨t, p, q⟩ := h.ex
  obtain ⟨t2, p2, q2⟩ := hg.ex
  refine ⟨_, ps_asg p p2 hs hw h1, fun r l hw E => q r l hw fun v d M1 F1 H1 s1 r1 dv z => ?_⟩
  exact q2 r1 dv z fun M' σ' _ r' z' => E.nx _ _ _ _ s1 r' z'
/-- x = e -/
theorem dS_set {i : Nat} {x : Str} {pos' : Pos} (hN : X.N.Nodup) (hi : X.N[i]? = some x) (hx : Loc X.env.scope x) (h : DE X R e wa) (hs : swapsWith e (some (.Name x pos')) pos.line X.env = pure false := by rfl) (hf : X.fn x = true ∨ X.env.scope.names.lookup x = some .local := by first | exact .inl rfl | exact .inr rfl | assumption) :
    DS X R (.Assign [.Name x pos'] e pos) (uAsg wa (gSet i)) := by
  obtain ⟨t, p, q⟩ := h.ex
  exact ⟨_, ps_set hN hi hx p hs hf, fun r l hw E => q r l hw fun v d M1 F1 H1 s1 r1 dv z => E.nx _ _ _ _ s1 (r1.setIm dv) z⟩
/-- x = e, e an object of nobody's -/
def uAsgO (wa : WE) (i : Nat) : WS := fun xn De M => wa xn M fun d M1 => De.nx (M1.set i (.ow d))
theorem dS_setO {i : Nat} {x : Str} {pos' : Pos} (hN : X.N.Nodup) (hi : X.N[i]? = some x) (hx : Loc X.env.scope x) (h : DF X R e wa) (hs : swapsWith e (some (.Name x pos')) pos.line X.env = pure false := by rfl) (hf : X.fn x = true ∨ X.env.scope.names.lookup x = some .local := by first | exact .inl rfl | exact .inr rfl | assumption) :
    DS X R (.Assign [.Name x pos'] e pos) (uAsgO wa i) := by
  obtain ⟨t, p, q⟩ := h.ex
  exact ⟨_, ps_set hN hi hx p hs hf, fun r l hw E => q r l hw fun v d M1 F1 H1 s1 r1 dv z => E.nx _ _ _ _ s1 (r1.setOw dv) z⟩
/-! x, y = e1, e2 -/
def uPar (i j : Nat) (wl : WL) : WS := fun xn De M => wl xn M fun ds M1 => match ds with
  | [d1, d2] => De.nx ((M1.set i (.im d1)).set j (.im d2))
  | _ => False
theorem dS_par {i j : Nat} {x y : Str} {px py pt : Pos} {kt k2 : Nat} {pt2 : Pos} {wl : WL} (hc : X.calm = true) (hN : X.N.Nodup) (hi : X.N[i]? = some x) (hj : X.N[j]? = some y) (hij : i ≠ j)
    (hx : X.env.scope.names.lookup x = some .local) (hy : X.env.scope.names.lookup y = some .local) (h : DL X R [a, b] wl)
    (hw : swappedStores [.Tuple [.Name x px, .Name y py] kt pt] (.Tuple [a, b] k2 pt2) X.env = pure (some [x, y]) := by rfl)
    (hs : swapsWithSole [.Tuple [.Name x px, .Name y py] kt pt] (.Tuple [a, b] k2 pt2) pos.line X.env = pure false := by rfl) :
    DS X R (.Assign [.Tuple [.Name x px, .Name y py] kt pt] (.Tuple [a, b] k2 pt2) pos) (uPar i j wl) := by
  obtain ⟨t, p, q⟩ := h.ex
  refine ⟨_, ps_par hc hN hi hj hij hx hy p hw hs, fun r l hw E => q r l hw fun vs ds M1 F1 H1 s1 r1 dv z => ?_⟩
  cases dv with
  | nil => exact z.elim
  | cons h1 dv =>
    cases dv with
    | nil => exact z.elim
    | cons h2 dv =>
      cases dv with
      | nil => exact ⟨_, _, rfl, E.nx _ _ _ _ s1 ((r1.setIm h1).setIm h2) z⟩
      | cons _ _ => exact z.elim

/-! what an owned slot holds is changed -/
theorem Rel.writeOw {F0 H0 F H : Hp} {W : Option (Addr × Addr)} {M : Mem} {σ : List (Option V)} {i : Nat} {p : Addr} {d d' : PyData} {o : HO} (r : Rel K F0 H0 W M σ F H) (he : M.env[i]? = some (some (.ow d))) (hs : σ[i]? = some (some (.ref p)))
    (ho : OwAt K F (upd H p o) p d') : Rel K F0 H0 W (M.set i (.ow d')) σ F (upd H p o) := by
  obtain ⟨v, h1, q, e1, ow, nf, n0, nw⟩ := r.slt i _ he
  rw [hs] at h1
  cases h1
  cases e1
  have neF : ∀ b u, F b = some u → b ≠ p := fun b u e z => by subst z; rw [nf] at e; cases e
  refine ⟨fun b u e => by rw [upd_ne (neF b u e)]; exact r.sub b u e, fun b u e n => ?_, r.fol, r.fnw, by simp [Mem.set, r.len], fun j e hj => ?_, fun x y dx dy v ne hx hy sx sy => ?_, ?_⟩
  · have : b ≠ p := fun z => by subst z; rw [n0] at e; cases e
    rw [upd_ne this]; exact r.old b u e n
  · rcases getSet hj with ⟨rfl, z⟩ | ⟨ne, hj⟩
    · cases z
      exact ⟨.ref p, hs, p, rfl, ho, nf, n0, nw⟩
    · obtain ⟨v, g1, g2⟩ := r.slt j e hj
      refine ⟨v, g1, ?_⟩
      cases e with
      | im d => exact g2
      | wel => exact g2
      | scr ns => exact g2
      | ow d2 =>
        obtain ⟨q, rfl, a1, a2⟩ := g2
        have : q ≠ p := fun z => by subst z; exact r.dis i j d d2 _ ne he hj hs g1
        exact ⟨q, rfl, a1.move (.refl _) (upd_ne this), a2⟩
      | ro d2 =>
        obtain ⟨q, rfl, a1, ⟨u, hu⟩, a3⟩ := g2
        have : q ≠ p := fun z => by subst z; rw [n0] at hu; cases hu
        exact ⟨q, rfl, a1.move (.refl _) (upd_ne this), ⟨u, hu⟩, a3⟩
  · have fx : ∀ {x : Nat} {dx : PyData}, (M.set i (.ow d')).env[x]? = some (some (.ow dx)) → ∃ dz, M.env[x]? = some (some (.ow dz)) := fun {x dx} hx => by
      rcases getSet hx with ⟨rfl, z⟩ | ⟨ne, hx⟩
      · exact ⟨_, he⟩
      · exact ⟨_, hx⟩
    obtain ⟨d1, h1⟩ := fx hx
    obtain ⟨d2, h2⟩ := fx hy
    exact r.dis x y d1 d2 v ne h1 h2 sx sy
  · show WelR F (upd H p o) W M.wl
    have wl := r.wel
    cases W with
    | none => cases hm : M.wl <;> rw [hm] at wl <;> exact wl
    | some z =>
      obtain ⟨q, t⟩ := z
      cases hm : M.wl with
      | none => rw [hm] at wl; exact wl
      | some w =>
        rw [hm] at wl
        obtain ⟨a, b, c⟩ := wl
        have nq : q ≠ p := fun z => nw (by subst z; exact .inl rfl)
        have nt : t ≠ p := fun z => nw (by subst z; exact .inr rfl)
        exact ⟨⟨by rw [upd_ne nq]; exact a.dic, by rw [upd_ne nt]; exact a.lst, a.ne⟩, b, c⟩
/-- xs.append(e) -/
def wApp (i : Nat) (wa : WE) : WE := fun xn M Q => (∃ ds, M.env[i]? = some (some (.ow (.list ds)))) ∧ wa xn M fun d M1 => match M1.env[i]? with
  | some (some (.ow (.list ds))) => ds.length < sizeLine ∧ Q .none (M1.set i (.ow (.list (ds ++ [d]))))
  | _ => False
theorem Rel.owL {F0 H0 F H : Hp} {W : Option (Addr × Addr)} {M : Mem} {σ : List (Option V)} {i : Nat} {ds : List PyData} (r : Rel K F0 H0 W M σ F H) (he : M.env[i]? = some (some (.ow (.list ds)))) : ∃ p vs, σ[i]? = some (some (.ref p)) ∧ H p = some (.lst vs) ∧ DVs K F vs ds := by
  obtain ⟨v, h1, q, rfl, ow, _⟩ := r.slt i _ he
  cases ow with
  | lst a b => exact ⟨_, _, h1, a, b⟩
theorem dE_app {i : Nat} {x : Str} {xp apos : Pos} (h : DE X R e wa) (hN : X.N[i]? = some x := by rfl) (hv : Vis X.env.scope x := by first | exact Or.inl rfl | exact Or.inr (Or.inl rfl) | exact Or.inr (Or.inr rfl)) (hd : (x == ("__debug__" : Str)) = false := by decide)
    (hcd : (x == ("__classdict__" : Str)) = false := by decide)
    (hbase : attributeBase (.Name x xp) "append" X.env (eval (.Name x xp) X.env) = eval (.Name x xp) X.env := by rfl)
    (hfew : ((backTo pos (starEach [e] X.env)).all (fun x => !x.1) && (backToKw pos (keywordEach [] X.env)).all (fun x => x.1.isSome)
      && decide ([e].length + ([] : List Keyword).length + (if ([] : List Keyword).isEmpty then 0 else 1) < 30)) = true := by rfl)
    (hline : (apos.endLine == pos.line) = true := by rfl) (hs : starEach [e] X.env = (false, eval e X.env) :: starEach [] X.env := by rfl) (hplain : (backTo pos (starEach [] X.env)).any (·.1) = false := by rfl) :
    DE X R (.Call (.Attribute (.Name x xp) "append" apos) [e] [] pos) (wApp i wa) := by
  obtain ⟨t, p, q⟩ := h.ex
  refine ⟨_, pe_bm PySem.F.plainAttrs_list PySem.F.slot_list_append PySem.F.type_list_append mt_append (pe_var (i := i) hN hv hd hcd) (pa_cons p pa_nil hs) hbase hfew hline hs hplain, fun {F0 H0 F H W M σ xn Q k} r l hw kk => ?_⟩
  obtain ⟨⟨ds0, e0⟩, hw⟩ := hw
  obtain ⟨p0, vs0, s0, h0, _⟩ := r.owL e0
  refine ⟨.ref p0, s0, .inl ⟨rfl, _, SqL.of h0⟩, q r l hw fun v d M1 F1 H1 s1 r1 dv z => ?_⟩
  split at z
  · rename_i ds e1
    obtain ⟨p1, vs, s1', h1, d1⟩ := r1.owL e1
    rw [s0] at s1'
    cases s1'
    refine ⟨p0, vs, v, rfl, rfl, h1, by rw [d1.len]; exact z.1, ?_⟩
    exact kk _ _ _ _ _ s1 (r1.writeOw e1 s0 (.lst upd_same (d1.app (.cons dv .nil)))) .non z.2
  · exact z.elim
/-- xs.extend(list) -/
def wExt (i : Nat) (wa : WE) : WE := fun xn M Q => (∃ ds, M.env[i]? = some (some (.ow (.list ds)))) ∧ wa xn M fun d M1 => match d, M1.env[i]? with
  | .list es, some (some (.ow (.list ds))) => ds.length + es.length ≤ sizeLine ∧ Q .none (M1.set i (.ow (.list (ds ++ es))))
  | _, _ => False
theorem dE_ext {i : Nat} {x : Str} {xp apos : Pos} (h : DE X R e wa) (hN : X.N[i]? = some x := by rfl) (hv : Vis X.env.scope x := by first | exact Or.inl rfl | exact Or.inr (Or.inl rfl) | exact Or.inr (Or.inr rfl)) (hd : (x == ("__debug__" : Str)) = false := by decide)
    (hcd : (x == ("__classdict__" : Str)) = false := by decide)
    (hbase : attributeBase (.Name x xp) "extend" X.env (eval (.Name x xp) X.env) = eval (.Name x xp) X.env := by rfl)
    (hfew : ((backTo pos (starEach [e] X.env)).all (fun x => !x.1) && (backToKw pos (keywordEach [] X.env)).all (fun x => x.1.isSome)
      && decide ([e].length + ([] : List Keyword).length + (if ([] : List Keyword).isEmpty then 0 else 1) < 30)) = true := by rfl)
    (hline : (apos.endLine == pos.line) = true := by rfl) (hs : starEach [e] X.env = (false, eval e X.env) :: starEach [] X.env := by rfl) (hplain : (backTo pos (starEach [] X.env)).any (·.1) = false := by rfl) :
    DE X R (.Call (.Attribute (.Name x xp) "extend" apos) [e] [] pos) (wExt i wa) := by
  obtain ⟨t, p, q⟩ := h.ex
  refine ⟨_, pe_bm PySem.F.plainAttrs_list PySem.F.slot_list_extend PySem.F.type_list_extend mt_extend (pe_var (i := i) hN hv hd hcd) (pa_cons p pa_nil hs) hbase hfew hline hs hplain, fun {F0 H0 F H W M σ xn Q k} r l hw kk => ?_⟩
  obtain ⟨⟨ds0, e0⟩, hw⟩ := hw
  obtain ⟨p0, vs0, s0, h0, _⟩ := r.owL e0
  refine ⟨.ref p0, s0, .inl ⟨rfl, _, SqL.of h0⟩, q r l hw fun v d M1 F1 H1 s1 r1 dv z => ?_⟩
  split at z
  · rename_i es ds e1
    obtain ⟨p1, vs, s1', h1, d1⟩ := r1.owL e1
    rw [s0] at s1'
    cases s1'
    cases dv with
    | lst hb db =>
      refine ⟨p0, _, vs, _, rfl, rfl, h1, r1.sub _ _ hb, by rw [d1.len, db.len]; exact z.1, ?_⟩
      exact kk _ _ _ _ _ s1 (r1.writeOw e1 s0 (.lst upd_same (d1.app db))) .non z.2
  · exact z.elim
/-- xs.pop() -/
def wPop (i : Nat) : WE := fun _ M Q => match M.env[i]? with
  | some (some (.ow (.list ds))) => match ds[ds.length - 1]? with
    | some d => Q d (M.set i (.ow (.list ds.dropLast)))
    | none => False
  | _ => False
theorem DVs.dropLast {F : Hp} : ∀ {vs : List V} {ds : List PyData}, DVs K F vs ds → DVs K F vs.dropLast ds.dropLast := fun {vs ds} h => by
  rw [List.dropLast_eq_take, List.dropLast_eq_take, h.len]
  exact h.take _
theorem dE_pop {i : Nat} {x : Str} {xp apos : Pos} (hN : X.N[i]? = some x := by rfl) (hv : Vis X.env.scope x := by first | exact Or.inl rfl | exact Or.inr (Or.inl rfl) | exact Or.inr (Or.inr rfl)) (hd : (x == ("__debug__" : Str)) = false := by decide)
    (hcd : (x == ("__classdict__" : Str)) = false := by decide)
    (hbase : attributeBase (.Name x xp) "pop" X.env (eval (.Name x xp) X.env) = eval (.Name x xp) X.env := by rfl) (hline : (apos.endLine == pos.line) = true := by rfl) :
    DE X R (.Call (.Attribute (.Name x xp) "pop" apos) [] [] pos) (wPop i) := by
  refine ⟨_, pe_bm0 PySem.F.plainAttrs_list PySem.F.slot_list_pop PySem.F.type_list_pop mt_pop (pe_var (i := i) hN hv hd hcd) hbase hline, fun {F0 H0 F H W M σ xn Q k} r l hw kk => ?_⟩
  unfold wPop at hw
  split at hw
  · rename_i ds e0
    split at hw
    · rename_i d e1
      obtain ⟨p0, vs0, s0, h0, d0⟩ := r.owL e0
      rw [← d0.len] at e1
      obtain ⟨v, g1, g2⟩ := d0.get e1
      refine ⟨.ref p0, s0, .inl ⟨rfl, _, SqL.of h0⟩, p0, vs0, v, rfl, rfl, h0, g1, ?_⟩
      exact kk _ _ _ _ _ (.refl _) (r.writeOw e0 s0 (.lst upd_same d0.dropLast)) g2 hw
    · exact hw.elim
  · exact hw.elim
/-- xs[i] = e -/
def uPut (i : Nat) (wa : WE) (oa : WO) : WS := fun xn De M => wa xn M fun d M1 => (∃ ds, M1.env[i]? = some (some (.ow (.list ds)))) ∧ oa xn M1 fun o M2 => match o.get M2, M2.env[i]? with
  | some (.int j), some (some (.ow (.list ds))) => match ixN ds.length j with
    | some n => De.nx (M2.set i (.ow (.list (ds.set n d))))
    | none => False
  | _, _ => False
theorem dS_put {i : Nat} {x : Str} {xp p2 : Pos} (h : DE X R e wa) (hi : DO X R a oa) (hN : X.N[i]? = some x := by rfl) (hv : Vis X.env.scope x := by first | exact Or.inl rfl | exact Or.inr (Or.inl rfl) | exact Or.inr (Or.inr rfl)) (hd : (x == ("__debug__" : Str)) = false := by decide)
    (hcd : (x == ("__classdict__" : Str)) = false := by decide)
    (ha : ∀ v, assign (.Subscript (.Name x xp) a p2) X.env v = (do
      let ov ← holding [v] (eval (.Name x xp) X.env)
      let iv ← holding [v, ov] (eval a X.env)
      standAt p2
      holding [v, ov, iv] (setItem ov iv v)
      release [v, ov, iv] []) := by intro _; rfl)
    (hs : swapsWithSole [.Subscript (.Name x xp) a p2] e pos.line X.env = pure false := by rfl) (hw : swappedStores [.Subscript (.Name x xp) a p2] e X.env = pure none := by rfl)
    (h1 : (assignEach [.Subscript (.Name x xp) a p2] X.env).map (·.2) = [assign (.Subscript (.Name x xp) a p2) X.env] := by rfl) : DS X R (.Assign [.Subscript (.Name x xp) a p2] e pos) (uPut i wa oa) := by
  obtain ⟨t, p, q⟩ := h.ex
  obtain ⟨t2, p2', q2⟩ := hi.ex
  refine ⟨_, ps_asg p (pg_sub (pe_var (i := i) hN hv hd hcd) p2' set_list ha) hs hw h1, fun {F0 H0 F H W M σ xn De D} r l hw E => ?_⟩
  refine q r l hw fun v d M1 F1 H1 s1 r1 dv z => ?_
  obtain ⟨⟨ds0, e0⟩, z⟩ := z
  obtain ⟨p0, vs0, s0, h0, _⟩ := r1.owL e0
  refine ⟨.ref p0, s0, q2 r1 l z fun vi o M2 F2 H2 s2 r2 ho z2 => ?_⟩
  split at z2
  · rename_i j ds eo e1
    split at z2
    · rename_i n en
      obtain ⟨p1, vs, s1', h1, d1⟩ := r2.owL e1
      rw [s0] at s1'
      cases s1'
      rw [(r2.opd ho eo).int]
      refine ⟨p0, vs, j, n, rfl, rfl, h1, by rw [d1.len]; exact en, ?_⟩
      exact E.nx _ _ _ _ (s1.trans s2) (r2.writeOw e1 s0 (.lst upd_same (d1.set n (dv.same s2)))) z2
    · exact z2.elim
  · exact z2.elim
end
end DL

/-! DL6: walks, for, while, comprehensions, a def by its body, calls by keywords. -/
namespace DL
open PySem PySem.Spec L2 PyProof.Rows
/-- the walk J yields the data ds, whatever grows meanwhile -/
structure Walks (K : PySem.W.Frag) (J : It) (F : Hp) (ds : List PyData) : Prop where
  stop : ∀ F' H', Same F F' → Same F' H' → J.stop ds.length H'
  go : ∀ (i : Nat) d F' H', ds[i]? = some d → Same F F' → Same F' H' → J.go i H' ∧ ∀ x H'', J.yld i H' x H'' → ∃ F'', Grow F' H' F'' H'' ∧ DV K F'' x d
abbrev WI := Xn → Mem → (List PyData → Mem → Prop) → Prop
structure DI (X : Cx) (R : XP) (tg iter : Expr) (w : WI) : Prop where
  ex : ∃ wi : TI, PI X tg iter wi ∧ ∀ {F0 H0 F H : Hp} {W : Option (Addr × Addr)} {M : Mem} {σ : List (Option V)} {xn : Xn} {Q : List PyData → Mem → Prop} {k : It → Hp → Prop}, Rel X.K F0 H0 W M σ F H → Lnk X.K R F0 H0 xn → w xn M Q →
    (∀ J ds M' F' H', Same F F' → Rel X.K F0 H0 W M' σ F' H' → Walks X.K J F' ds → Q ds M' → k J H') → wi σ H k
section
variable {X : Cx} {R : XP} {K : PySem.W.Frag} {e a b c tg iter : Expr} {es : List Expr} {st : Stmt} {rest body : List Stmt} {pos : Pos} {wa wb wc : WE} {oa ob oc : WO} {ta tb : WT} {u v : WS}
/-! what is walked -/
def iL (wa : WE) : WI := fun xn M Q => wa xn M fun d M1 => match d with
  | .list ds => Q ds M1
  | _ => False
def iT (wa : WE) : WI := fun xn M Q => wa xn M fun d M1 => match d with
  | .tuple ds => Q ds M1
  | _ => False
def iS (wa : WE) : WI := fun xn M Q => wa xn M fun d M1 => match d with
  | .str s => Q (s.cps.toList.map fun c => .str (S [c])) M1
  | _ => False
theorem walk_list {F : Hp} {p : Addr} {vs : List V} {ds : List PyData} (h : F p = some (.lst vs)) (hd : DVs K F vs ds) : Walks K (Itl K p) F ds where
  stop := fun F' H' s s' => ⟨vs, SqL.of (s' _ _ (s _ _ h)), by rw [hd.len]; exact Nat.le_refl _⟩
  go := fun i d F' H' e s s' => by
    obtain ⟨v, h1, h2⟩ := hd.get e
    refine ⟨⟨vs, v, SqL.of (s' _ _ (s _ _ h)), h1⟩, fun x H'' y => ?_⟩
    obtain ⟨rfl, y⟩ := y
    have := y vs (SqL.of (s' _ _ (s _ _ h)))
    rw [h1] at this
    cases this
    exact ⟨F', Grow.refl s', h2.same s⟩
theorem walk_tup {F : Hp} {p : Addr} {vs : List V} {ds : List PyData} (h : SqT K F p vs) (hd : DVs K F vs ds) : Walks K (Itt K p) F ds where
  stop := fun F' H' s s' => ⟨vs, sameT s' (sameT s h), by rw [hd.len]; exact Nat.le_refl _⟩
  go := fun i d F' H' e s s' => by
    obtain ⟨v, h1, h2⟩ := hd.get e
    refine ⟨⟨vs, v, sameT s' (sameT s h), h1⟩, fun x H'' y => ?_⟩
    obtain ⟨rfl, y⟩ := y
    have := y vs (sameT s' (sameT s h))
    rw [h1] at this
    cases this
    exact ⟨F', Grow.refl s', h2.same s⟩
theorem walk_str {F : Hp} {s : Str} : Walks K (Its s) F (s.cps.toList.map fun c => .str (S [c])) where
  stop := fun F' H' _ _ => by show s.cps.size ≤ _; simp
  go := fun i d F' H' e _ s' => by
    rw [List.getElem?_map] at e
    cases z : s.cps.toList[i]? with
    | none => rw [z] at e; cases e
    | some c =>
      rw [z] at e
      cases e
      have hl : i < s.cps.size := by have := (List.getElem?_eq_some_iff.mp z).1; simpa using this
      refine ⟨hl, fun x H'' y => ?_⟩
      obtain ⟨rfl, c', h1, rfl⟩ := y
      have : s.cps[i]? = some c := by simpa using z
      rw [this] at h1
      cases h1
      exact ⟨F', Grow.refl s', .str _⟩
theorem dI_l (h : DE X R e wa) : DI X R tg e (iL wa) := by
  obtain ⟨t, p, q⟩ := h.ex
  refine ⟨_, pi_list p, fun r l hw kk => q r l hw fun v d M1 F1 H1 s1 r1 dv z => ?_⟩
  cases dv with
  | lst h hd => exact ⟨_, rfl, ⟨_, SqL.of (r1.sub _ _ h)⟩, kk _ _ _ _ _ s1 r1 (walk_list h hd) z⟩
  | _ => exact z.elim
theorem dI_t (h : DE X R e wa) : DI X R tg e (iT wa) := by
  obtain ⟨t, p, q⟩ := h.ex
  refine ⟨_, pi_tup p, fun r l hw kk => q r l hw fun v d M1 F1 H1 s1 r1 dv z => ?_⟩
  cases dv with
  | tup h hd => exact ⟨_, rfl, ⟨_, SqT.of (r1.sub _ _ h)⟩, kk _ _ _ _ _ s1 r1 (walk_tup (SqT.of h) hd) z⟩
  | _ => exact z.elim
theorem dI_s (h : DE X R e wa) : DI X R tg e (iS wa) := by
  obtain ⟨t, p, q⟩ := h.ex
  refine ⟨_, pi_str p, fun r l hw kk => q r l hw fun v d M1 F1 H1 s1 r1 dv z => ?_⟩
  cases dv with
  | str s => exact ⟨_, rfl, kk _ _ _ _ _ s1 r1 walk_str z⟩
  | _ => exact z.elim
/-! ranges -/
def rng (lo : Int) (n : Nat) : List PyData := (List.range n).map fun k => .int (lo + (k : Nat))
theorem walk_rng {F : Hp} {lo : Int} {n : Nat} : Walks K (Itr lo n) F (rng lo n) where
  stop := fun F' H' _ _ => by show n ≤ _; simp [rng]
  go := fun i d F' H' e _ s' => by
    unfold rng at e
    rw [List.getElem?_map] at e
    cases z : (List.range n)[i]? with
    | none => rw [z] at e; cases e
    | some c =>
      rw [z] at e
      cases e
      obtain ⟨hl, hc⟩ := List.getElem?_eq_some_iff.mp z
      simp at hl hc
      subst hc
      refine ⟨hl, fun x H'' y => ?_⟩
      obtain ⟨rfl, rfl⟩ := y
      exact ⟨F', Grow.refl s', .int _⟩
def iR1 (os : WOs) : WI := fun xn M Q => os xn M fun xs M1 => match getAll xs M1 with
  | some [.int j] => (-(2 ^ 62) ≤ j ∧ j < 2 ^ 62) ∧ Q (rng 0 j.toNat) M1
  | _ => False
def iR2 (os : WOs) : WI := fun xn M Q => os xn M fun xs M1 => match getAll xs M1 with
  | some [.int i, .int j] => (-(2 ^ 62) ≤ i ∧ i < 2 ^ 62 ∧ -(2 ^ 62) ≤ j ∧ j < 2 ^ 62) ∧ Q (rng i (j - i).toNat) M1
  | _ => False
theorem Views.cons' {F H : Hp} {vs : List V} {d : PyData} {ds : List PyData} (h : Views K F H vs (d :: ds)) : ∃ v ws, vs = v :: ws ∧ View K F H v d ∧ Views K F H ws ds := by
  cases h with
  | cons a b => exact ⟨_, _, rfl, a, b⟩
theorem Views.nil' {F H : Hp} {vs : List V} (h : Views K F H vs []) : vs = [] := by cases h; rfl
theorem Views.one {F H : Hp} {vs : List V} {d : PyData} (h : Views K F H vs [d]) : ∃ v, vs = [v] ∧ View K F H v d := by
  obtain ⟨v, ws, rfl, a, b⟩ := h.cons'
  rw [b.nil']
  exact ⟨v, rfl, a⟩
theorem Views.two {F H : Hp} {vs : List V} {d d' : PyData} (h : Views K F H vs [d, d']) : ∃ v w, vs = [v, w] ∧ View K F H v d ∧ View K F H w d' := by
  obtain ⟨v, ws, rfl, a, b⟩ := h.cons'
  obtain ⟨w, rfl, b'⟩ := b.one
  exact ⟨v, w, rfl, a, b'⟩
theorem dI_r1 {p : Pos} {os : WOs} (hg : Gl X "range") (hm : X.mg "range" = none) (h : DOs X R [a] os) (hs : starEach [a] X.env = [(false, eval a X.env)] := by rfl) : DI X R tg (.Call (.Name "range" p) [a] [] pos) (iR1 os) := by
  obtain ⟨t, p, q⟩ := h.ex
  refine ⟨_, pi_range1 hg hm p hs, fun r l hw kk => q r l hw fun vs xs M1 F1 H1 s1 r1 hx z => ?_⟩
  split at z
  · rename_i j e
    obtain ⟨v, rfl, hv⟩ := (views_of r1 hx e).one
    exact ⟨j, by rw [hv.int], z.1.1, z.1.2, kk _ _ _ _ _ s1 r1 walk_rng z.2⟩
  · exact z.elim
theorem dI_r2 {p : Pos} {os : WOs} (hg : Gl X "range") (hm : X.mg "range" = none) (h : DOs X R [a, b] os) (hs : starEach [a, b] X.env = [(false, eval a X.env), (false, eval b X.env)] := by rfl) (hs2 : starEach [b] X.env = [(false, eval b X.env)] := by rfl) : DI X R tg (.Call (.Name "range" p) [a, b] [] pos) (iR2 os) := by
  obtain ⟨t, p, q⟩ := h.ex
  refine ⟨_, pi_range2 hg hm p hs hs2, fun r l hw kk => q r l hw fun vs xs M1 F1 H1 s1 r1 hx z => ?_⟩
  split at z
  · rename_i i j e
    obtain ⟨v, w, rfl, hv, hw2⟩ := (views_of r1 hx e).two
    exact ⟨i, j, by rw [hv.int, hw2.int], z.1, kk _ _ _ _ _ s1 r1 walk_rng z.2⟩
  · exact z.elim

/-! for -/
def forW (ks : List Nat) (g : WG) (tb : WS) (xn : Xn) (De : DEn) (ds : List PyData) (M : Mem) : Prop := ∃ I : Nat → Mem → Prop, I 0 M ∧ (∀ i d M', ds[i]? = some d → I i M' →
  g d (M'.kill ks) fun M1 => tb xn { nx := I (i + 1), rt := De.rt, bk := fun M'' => De.nx (M''.kill ks), ct := I (i + 1) } M1) ∧ ∀ M', I ds.length M' → De.nx (M'.kill ks)
def uFor (ks : List Nat) (wi : WI) (g : WG) (tb : WS) : WS := fun xn De M => wi xn M fun ds M1 => forW ks g tb xn De ds M1
theorem dS_for (ks : List Nat) {wi : WI} {g : WG} {is : List Nat} {tb : WS} (hp : PassesOwn (model X.prog X.w) X.A X.env X.xe) (hc : X.calm = true) (hi : DI X R tg iter wi) (hg : DG X tg is g) (hb : DSs X R body tb) (hs : ∀ x, foldedSetIterable iter X.env x = pure x := by intro _; rfl) : DS X R (.For tg iter body [] pos) (uFor ks wi g tb) := by
  obtain ⟨t1, p1, q1⟩ := hi.ex
  obtain ⟨t2, p2, q2⟩ := hg.ex
  obtain ⟨t3, p3, q3⟩ := hb.ex
  refine ⟨_, ps_for hp hc p1 p2 p3 (hs := hs), fun {F0 H0 F H W M σ xn De D} r l hw E => ?_⟩
  refine q1 r l hw fun J ds M1 F1 H1 s1 r1 wk z => ?_
  obtain ⟨I, z0, zs, ze⟩ := z
  refine ⟨fun i m σ' H' => ∃ M' F', i + m = ds.length ∧ Same F1 F' ∧ Rel X.K F0 H0 W M' σ' F' H' ∧ I i M', ⟨ds.length, M1, F1, by omega, .refl _, r1, z0⟩, fun i m σ' H' hW => ?_⟩
  obtain ⟨M', F', em, s2, r2, z2⟩ := hW
  cases hd : ds[i]? with
  | none =>
    have hl : ds.length ≤ i := List.getElem?_eq_none_iff.mp hd
    have : i = ds.length := by omega
    subst this
    exact .inl ⟨wk.stop F' H' s2 r2.sub, E.nx _ _ _ _ (s1.trans s2) (r2.kill ks) (ze _ z2)⟩
  | some d =>
    have hl : i < ds.length := (List.getElem?_eq_some_iff.mp hd).1
    have z2 := zs i d M' hd z2
    obtain ⟨g1, g2⟩ := wk.go i d F' H' hd s2 r2.sub
    refine .inr ⟨g1, fun σ'' H'' => ∃ M'' F'', Same F1 F'' ∧ Rel X.K F0 H0 W M'' σ'' F'' H'' ∧ I (i + 1) M'', fun σ'' H'' hN => ?_, fun x H'' hy => ?_⟩
    · obtain ⟨M'', F'', a1, a2, a3⟩ := hN
      exact ⟨m - 1, by omega, M'', F'', by omega, a1, a2, a3⟩
    · obtain ⟨F'', gr, dv⟩ := g2 x H'' hy
      have r3 := (r2.kill ks).grow gr
      refine q2 r3 dv z2 fun M3 σ3 _ r4 z3 => ?_
      have s4 := s2.trans gr.f
      refine q3 r4 l z3 ⟨fun Ma σa Fa Ha sa ra za => ⟨Ma, Fa, s4.trans sa, ra, za⟩, fun v d Ma σa Fa Ha sa ra dva za => E.rt _ _ _ _ _ _ (s1.trans (s4.trans sa)) ra dva za,
        fun Ma σa Fa Ha sa ra za => E.nx _ _ _ _ (s1.trans (s4.trans sa)) (ra.kill ks) za, fun Ma σa Fa Ha sa ra za => ⟨Ma, Fa, s4.trans sa, ra, za⟩⟩

/-! while -/
def uWhile (ks : List Nat) (tc : WT) (tb : WS) : WS := fun xn De M => ∃ Wm : Nat → Mem → Prop, (∃ m, Wm m (M.kill ks)) ∧ ∀ m M, Wm m M → tc xn M fun b M1 => if b = true then
  tb xn { nx := fun M' => ∃ m', m' < m ∧ Wm m' (M'.kill ks), rt := De.rt, bk := fun M' => De.nx (M'.kill ks), ct := fun M' => ∃ m', m' < m ∧ Wm m' (M'.kill ks) } M1 else De.nx M1
theorem dS_while (ks : List Nat) {tb : WS} (hp : PassesOwn (model X.prog X.w) X.A X.env X.xe) (hc : DT X R c ta) (hb : DSs X R body tb) : DS X R (.While c body [] pos) (uWhile ks ta tb) := by
  obtain ⟨t1, p1, q1⟩ := hc.ex
  obtain ⟨t3, p3, q3⟩ := hb.ex
  refine ⟨_, ps_while hp p1 p3, fun {F0 H0 F H W M σ xn De D} r l hw E => ?_⟩
  obtain ⟨Wm, ⟨m0, h0⟩, hs⟩ := hw
  refine ⟨fun m σ' H' => ∃ M' F', Same F F' ∧ Rel X.K F0 H0 W M' σ' F' H' ∧ Wm m M', ⟨m0, _, F, .refl _, r.kill ks, h0⟩, fun m σ' H' hW => ?_⟩
  obtain ⟨M', F', s2, r2, z2⟩ := hW
  refine q1 r2 l (hs m M' z2) fun b M1 F1 H1 s1 r1 z => ?_
  cases b with
  | true =>
    refine ⟨fun σa Ha => ∃ m', m' < m ∧ ∃ Ma Fa, Same F Fa ∧ Rel X.K F0 H0 W Ma σa Fa Ha ∧ Wm m' Ma, fun σa Ha ⟨m', a1, a2⟩ => ⟨m', a1, a2⟩, ?_⟩
    refine q3 r1 l z ⟨fun Ma σa Fa Ha sa ra ⟨m', y1, y2⟩ => ⟨m', y1, _, Fa, s2.trans (s1.trans sa), ra.kill ks, y2⟩, fun v d Ma σa Fa Ha sa ra dva za => E.rt _ _ _ _ _ _ (s2.trans (s1.trans sa)) ra dva za,
      fun Ma σa Fa Ha sa ra za => E.nx _ _ _ _ (s2.trans (s1.trans sa)) (ra.kill ks) za, fun Ma σa Fa Ha sa ra ⟨m', y1, y2⟩ => ⟨m', y1, _, Fa, s2.trans (s1.trans sa), ra.kill ks, y2⟩⟩
  | false => exact E.nx _ _ _ _ (s2.trans s1) r1 z

/-! comprehensions -/
def Ent.ro' : Ent → Ent
  | .ow d => .ro d
  | e => e
def Mem.ro (M : Mem) : Mem := ⟨M.env.map (·.map Ent.ro'), M.wl⟩
theorem Rel.toRo {F0 H0 F H : Hp} {W : Option (Addr × Addr)} {M : Mem} {σ : List (Option V)} (r : Rel K F0 H0 W M σ F H) : Rel K F H W M.ro σ F H where
  sub := r.sub
  old := fun _ _ e _ => e
  fol := .refl _
  fnw := fun _ _ e => .inl e
  len := by simp [Mem.ro, r.len]
  slt := fun i e h => by
    have : ∃ e0, M.env[i]? = some (some e0) ∧ e = Ent.ro' e0 := by
      simp only [Mem.ro, List.getElem?_map] at h
      cases z : M.env[i]? with
      | none => rw [z] at h; simp at h
      | some y =>
        rw [z] at h
        cases y with
        | none => simp at h
        | some e0 => simp at h; exact ⟨e0, rfl, h.symm⟩
    obtain ⟨e0, h0, rfl⟩ := this
    obtain ⟨v, h1, h2⟩ := r.slt i e0 h0
    refine ⟨v, h1, ?_⟩
    cases e0 with
    | im d => exact h2
    | wel => exact h2
    | scr ns => exact h2
    | ow d =>
      obtain ⟨p, rfl, o, n, n0, nw⟩ := h2
      obtain ⟨u, hu⟩ := o.there
      exact ⟨p, rfl, o, ⟨u, hu⟩, nw⟩
    | ro d =>
      obtain ⟨p, rfl, o, n0, nw⟩ := h2
      obtain ⟨u, hu⟩ := o.there
      exact ⟨p, rfl, o, ⟨u, hu⟩, nw⟩
  dis := fun i j d e v ne h => by
    exfalso
    simp only [Mem.ro, List.getElem?_map] at h
    cases z : M.env[i]? with
    | none => rw [z] at h; simp at h
    | some y =>
      rw [z] at h
      cases y with
      | none => simp at h
      | some e0 => cases e0 <;> simp [Ent.ro'] at h
  wel := r.wel
theorem Rel.after {F H F' H' : Hp} {W : Option (Addr × Addr)} {M : Mem} {σ : List (Option V)} (r : Rel K F H W M σ F' H') : After F H W F' H' := ⟨r.fol, r.sub, r.old, r.fnw⟩
def compW (vs : List Nat) (g : WG) (tt : WT) (te : WE) (xn : Xn) (env : List (Option Ent)) (ds : List PyData) (wl : Option Wel) (Q : List PyData → Option Wel → Prop) : Prop := ∃ I : Nat → List PyData → Option Wel → Prop, I 0 [] wl ∧
  (∀ i d ys wl', ds[i]? = some d → I i ys wl' → g d ((Mem.mk env wl').ro.kill vs) fun M1 => tt xn M1 fun b M2 => if b = true then te xn M2 fun y M3 => I (i + 1) (ys ++ [y]) M3.wl else I (i + 1) ys M2.wl) ∧ ∀ ys wl', I ds.length ys wl' → Q ys wl'
def wComp (vs : List Nat) (wi : WI) (g : WG) (tt : WT) (te : WE) : WE := fun xn M Q => wi xn M fun ds M1 => ds.length ≤ sizeLine ∧ compW vs g tt te (fun _ _ => False) M1.env ds M1.wl fun ys wl => Q (.list ys) ⟨M1.env, wl⟩
structure DTs (X : Cx) (R : XP) (ifs : List Expr) (w : WT) : Prop where
  ex : ∃ t : TT, PTs X ifs t ∧ ∀ {F0 H0 F H : Hp} {W : Option (Addr × Addr)} {M : Mem} {σ : List (Option V)} {xn : Xn} {Q : Bool → Mem → Prop} {k : Bool → Hp → Prop}, Rel X.K F0 H0 W M σ F H → Lnk X.K R F0 H0 xn → w xn M Q →
    (∀ b M' F' H', Same F F' → Rel X.K F0 H0 W M' σ F' H' → Q b M' → k b H') → t σ H k
def ttY : WT := fun _ M Q => Q true M
theorem dTs_n : DTs X R [] ttY := ⟨_, pts_nil, fun r _ hw kk => kk _ _ _ _ (.refl _) r hw⟩
theorem dTs_1 (h : DT X R c ta) : DTs X R [c] ta := by
  obtain ⟨t, p, q⟩ := h.ex
  exact ⟨_, pts_one p, q⟩
theorem wipe_eq {σ σ' : List (Option V)} {vs : List Nat} (hl : σ'.length = σ.length) (h : ∀ i : Nat, i ∉ vs → σ'[i]? = σ[i]?) : wipe σ' vs = wipe σ vs := by
  apply List.ext_getElem?
  intro i
  by_cases hi : i ∈ vs
  · have key : ∀ {τ : List (Option V)} {ws : List Nat}, i ∈ ws → (wipe τ ws)[i]? = if i < τ.length then some none else none := by
      intro τ ws
      induction ws with
      | nil => intro h; cases h
      | cons w ws ih =>
        intro h
        show ((wipe τ ws).set w none)[i]? = _
        by_cases e : w = i
        · subst e
          by_cases hl : w < τ.length
          · rw [List.getElem?_set_self (by rw [wipe_length]; exact hl), if_pos hl]
          · rw [if_neg hl]
            exact List.getElem?_eq_none_iff.mpr (by rw [List.length_set, wipe_length]; omega)
        · rw [List.getElem?_set_ne e]
          exact ih ((List.mem_cons.mp h).resolve_left fun z => e z.symm)
    rw [key hi, key hi, hl]
  · rw [wipe_out hi, wipe_out hi, h i hi]
/-- a comprehension's reading -/
theorem comp_run {wi : TI} {g0 : TG} {tt0 : TT} {te0 : TE} {own : List (Str × Nat)} {w : WI} {g : WG} {tt : WT} {te : WE} {is : List Nat} {elt : Expr} {ifs : List Expr} {scope : Scope}
    (hi : ∀ {F0 H0 F H : Hp} {W : Option (Addr × Addr)} {M : Mem} {σ : List (Option V)} {xn : Xn} {Q : List PyData → Mem → Prop} {k : It → Hp → Prop}, Rel K F0 H0 W M σ F H → Lnk K R F0 H0 xn → w xn M Q →
      (∀ J ds M' F' H', Same F F' → Rel K F0 H0 W M' σ F' H' → Walks K J F' ds → Q ds M' → k J H') → wi σ H k)
    (hg : ∀ {F0 H0 F H : Hp} {W : Option (Addr × Addr)} {M : Mem} {σ : List (Option V)} {v : V} {d : PyData} {Q : Mem → Prop} {k : List (Option V) → Hp → Prop}, Rel K F0 H0 W M σ F H → DV K F v d → g d M Q →
      (∀ (M' : Mem) (σ' : List (Option V)), (∀ i : Nat, i ∉ is → σ'[i]? = σ[i]?) ∧ σ'.length = σ.length → Rel K F0 H0 W M' σ' F H → Q M' → k σ' H) → g0 v σ H k)
    (ht : ∀ {F0 H0 F H : Hp} {W : Option (Addr × Addr)} {M : Mem} {σ : List (Option V)} {xn : Xn} {Q : Bool → Mem → Prop} {k : Bool → Hp → Prop}, Rel K F0 H0 W M σ F H → Lnk K X0 F0 H0 xn → tt xn M Q →
      (∀ b M' F' H', Same F F' → Rel K F0 H0 W M' σ F' H' → Q b M' → k b H') → tt0 σ H k)
    (he : ∀ {F0 H0 F H : Hp} {W : Option (Addr × Addr)} {M : Mem} {σ : List (Option V)} {xn : Xn} {Q : QD} {k : VK}, Rel K F0 H0 W M σ F H → Lnk K X0 F0 H0 xn → te xn M Q →
      (∀ v d M' F' H', Same F F' → Rel K F0 H0 W M' σ F' H' → DV K F' v d → Q d M' → k v H') → te0 σ H k)
    (hin : ∀ i ∈ is, i ∈ own.map (·.2))
    {F0 H0 F H : Hp} {W : Option (Addr × Addr)} {M : Mem} {σ : List (Option V)} {xn : Xn} {Q : QD} {k : VK} (r : Rel K F0 H0 W M σ F H) (l : Lnk K R F0 H0 xn) (hw : wComp (own.map (·.2)) w g tt te xn M Q)
    (kk : ∀ p d M' F' H', Same F F' → Rel K F0 H0 W M' σ F' H' → Fresh K H0 W M' σ F' H' p d → Q d M' → k (.ref p) H') : tLc wi g0 tt0 te0 (own.map (·.2)) σ H k := by
  refine hi r l hw fun J ds M1 F1 H1 s1 r1 wk z D hD => ?_
  obtain ⟨zl, z⟩ := z
  obtain ⟨r2, f2⟩ := r1.isFresh (o := .lst []) (d := .list []) hD (.lst upd_same .nil)
  obtain ⟨I, z0, zs, ze⟩ := z
  refine ⟨fun i m H' => ∃ F' wl' ys, i + m = ds.length ∧ Same F1 F' ∧ Rel K F0 H0 W ⟨M1.env, wl'⟩ σ F' H' ∧ Fresh K H0 W ⟨M1.env, wl'⟩ σ F' H' D (.list ys) ∧ ys.length ≤ i ∧ I i ys wl', ⟨ds.length, F1, M1.wl, [], by omega, .refl _, r2, f2, Nat.le_refl _, z0⟩, fun i m H' hW => ?_⟩
  obtain ⟨F', wl', ys, em, s3, r3, f3, hy, z3⟩ := hW
  cases hd : ds[i]? with
  | none =>
    have hl : ds.length ≤ i := List.getElem?_eq_none_iff.mp hd
    have : i = ds.length := by omega
    subst this
    exact .inl ⟨wk.stop F' H' s3 r3.sub, kk _ _ _ _ _ (s1.trans s3) r3 f3 (ze _ _ z3)⟩
  | some d =>
    have hl : i < ds.length := (List.getElem?_eq_some_iff.mp hd).1
    have z3 := zs i d ys wl' hd z3
    obtain ⟨g1, g2⟩ := wk.go i d F' H' hd s3 r3.sub
    refine .inr ⟨g1, fun H'' => ∃ F'' wl'' ys', Same F1 F'' ∧ Rel K F0 H0 W ⟨M1.env, wl''⟩ σ F'' H'' ∧ Fresh K H0 W ⟨M1.env, wl''⟩ σ F'' H'' D (.list ys') ∧ ys'.length ≤ i + 1 ∧ I (i + 1) ys' wl'', fun H'' hN => ?_, fun x H'' hx => ?_⟩
    · obtain ⟨F'', wl'', ys', a1, a2, a3, a4, a5⟩ := hN
      exact ⟨m - 1, by omega, F'', wl'', ys', by omega, a1, a2, a3, a4, a5⟩
    · obtain ⟨F4, gr, dv⟩ := g2 x H'' hx
      have r4 := r3.grow gr
      have dl : D ≠ D → False := fun h => h rfl
      -- the new list stands where it stood
      have keepD : ∀ {Fa Ha : Hp}, After F4 H'' W Fa Ha → Same F' Fa → ∀ {wl}, Fresh K H0 W ⟨M1.env, wl⟩ σ Fa Ha D (.list ys) ∧ Ha D = H'' D := fun {Fa Ha} af sf {wl} => by
        obtain ⟨u, hu⟩ := f3.at_.there
        have h4 : H'' D = some u := gr.h _ _ hu
        have ha : Ha D = some u := af.h _ _ h4 f3.nw
        refine ⟨⟨f3.at_.move sf (ha.trans hu.symm), ?_, f3.n0, f3.nw, f3.ns⟩, ha.trans h4.symm⟩
        cases y : Fa D with
        | none => rfl
        | some o =>
          rcases af.n D o y with t | t
          · rcases gr.n D o t with t | t
            · rw [f3.nf] at t; cases t
            · rw [hu] at t; cases t
          · rw [h4] at t; cases t
      have rb := (r4.toRo).wipe (own.map (·.2))
      have lk : Lnk K X0 F4 H'' (fun _ _ => False) := fun _ _ _ _ _ _ _ _ _ _ h => h.elim
      refine hg rb dv z3 fun M5 σ5 hσ r5 z5 => ?_
      refine ⟨?_, ?_⟩
      · rw [wipe_eq hσ.2 fun i hi => hσ.1 i fun y => hi (hin i y)]
        apply wipe_eq (wipe_length _ _)
        intro i hi
        exact wipe_out hi
      refine ht r5 lk z5 fun b M6 F6 H6 s6 r6 z6 => ?_
      cases b with
      | true =>
        refine he r6 lk z6 fun y dy M7 F7 H7 s7 r7 dvy z7 => ?_
        have s47 : Same F' F7 := gr.f.trans (s6.trans s7)
        obtain ⟨f7, eD⟩ := keepD r7.after s47 (wl := M7.wl)
        have rel7 := r4.of_after r7.after r7.wel
        cases f7.at_ with
        | @lst vs7 _ hD7 dys =>
          refine ⟨_, hD7, ?_, ?_⟩
          · rw [dys.len]
            omega
          · have nw := f7.nw
            have nf := f7.nf
            have relD : Rel K F0 H0 W ⟨M1.env, M7.wl⟩ σ F7 (upd H7 D (.lst (vs7 ++ [y]))) := by
              refine ⟨fun b u e => ?_, fun b u e n => ?_, rel7.fol, rel7.fnw, rel7.len, fun j e hj => ?_, rel7.dis, ?_⟩
              · have : b ≠ D := fun z => by subst z; rw [nf] at e; cases e
                rw [upd_ne this]; exact rel7.sub _ _ e
              · have : b ≠ D := fun z => by subst z; rw [f7.n0] at e; cases e
                rw [upd_ne this]; exact rel7.old _ _ e n
              · obtain ⟨v, h1, h2⟩ := rel7.slt j e hj
                refine ⟨v, h1, ?_⟩
                cases e with
                | im d => exact h2
                | wel => exact h2
                | scr ns => exact h2
                | ow d =>
                  obtain ⟨q, rfl, a1, a2⟩ := h2
                  have : q ≠ D := fun z => by subst z; exact f7.ns j d hj h1
                  exact ⟨q, rfl, a1.move (.refl _) (upd_ne this), a2⟩
                | ro d =>
                  obtain ⟨q, rfl, a1, ⟨t, ht'⟩, a3⟩ := h2
                  have : q ≠ D := fun z => by subst z; rw [f7.n0] at ht'; cases ht'
                  exact ⟨q, rfl, a1.move (.refl _) (upd_ne this), ⟨t, ht'⟩, a3⟩
              · have wl := rel7.wel
                cases W with
                | none => cases hm : M7.wl <;> simp only [hm] at wl ⊢ <;> exact wl
                | some zz =>
                  obtain ⟨q, t⟩ := zz
                  cases hm : M7.wl with
                  | none => simp only [hm] at wl; exact wl.elim
                  | some w2 =>
                    simp only [hm] at wl ⊢
                    obtain ⟨a, b, c⟩ := wl
                    have nq : q ≠ D := fun z => nw (by subst z; exact .inl rfl)
                    have nt : t ≠ D := fun z => nw (by subst z; exact .inr rfl)
                    exact ⟨⟨by rw [upd_ne nq]; exact a.dic, by rw [upd_ne nt]; exact a.lst, a.ne⟩, b, c⟩
            refine ⟨F7, M7.wl, ys ++ [dy], s3.trans s47, relD, ⟨.lst upd_same (dys.app (.cons dvy .nil)), nf, f7.n0, nw, f7.ns⟩, by simp; omega, ?_⟩
            exact z7
      | false =>
        have s46 : Same F' F6 := gr.f.trans s6
        obtain ⟨f6, _⟩ := keepD r6.after s46 (wl := M6.wl)
        exact ⟨F6, M6.wl, ys, s3.trans s46, r4.of_after r6.after r6.wel, f6, by omega, z6⟩

abbrev BI := Shared × Hp × Addr × List (Str × Addr) × List Addr
abbrev blkX (X : Cx) (scope : Scope) (i : BI) : Cx := X.blk i.1 i.2.1 scope (compEnvC scope i.2.2.2.1 i.2.2.1 X.env) i.2.2.2.2
/-- one reading for all blocks -/
theorem blkG {scope : Scope} {is : List Nat} {g : WG} (h : ∀ i : BI, DG (blkX X scope i) tg is g) : ∃ t : TG, (∀ i : BI, PG (blkX X scope i) tg t) ∧ ∀ {F0 H0 F H : Hp} {W : Option (Addr × Addr)} {M : Mem} {σ : List (Option V)} {v : V} {d : PyData} {Q : Mem → Prop} {k : List (Option V) → Hp → Prop}, Rel X.K F0 H0 W M σ F H → DV X.K F v d → g d M Q →
    (∀ (M' : Mem) (σ' : List (Option V)), (∀ i : Nat, i ∉ is → σ'[i]? = σ[i]?) ∧ σ'.length = σ.length → Rel X.K F0 H0 W M' σ' F H → Q M' → k σ' H) → t v σ H k :=
  ⟨fun v σ H k => ∀ i : BI, (h i).ex.choose v σ H k, fun i => ⟨fun pins s σ H v u Q I r hw => (h i).ex.choose_spec.1.run pins s σ H v u Q I r (hw i)⟩, fun r dv hw kk i => (h i).ex.choose_spec.2 r dv hw kk⟩
theorem blkT {scope : Scope} {ifs : List Expr} {w : WT} (h : ∀ i : BI, DTs (blkX X scope i) X0 ifs w) : ∃ t : TT, (∀ i : BI, PTs (blkX X scope i) ifs t) ∧ ∀ {F0 H0 F H : Hp} {W : Option (Addr × Addr)} {M : Mem} {σ : List (Option V)} {xn : Xn} {Q : Bool → Mem → Prop} {k : Bool → Hp → Prop}, Rel X.K F0 H0 W M σ F H → Lnk X.K X0 F0 H0 xn → w xn M Q →
    (∀ b M' F' H', Same F F' → Rel X.K F0 H0 W M' σ F' H' → Q b M' → k b H') → t σ H k :=
  ⟨fun σ H k => ∀ i : BI, (h i).ex.choose σ H k, fun i => ⟨fun pins s σ H Q I hw => (h i).ex.choose_spec.1.run pins s σ H Q I (hw i)⟩, fun r dv hw kk i => (h i).ex.choose_spec.2 r dv hw kk⟩
theorem blkE {scope : Scope} {w : WE} (h : ∀ i : BI, DE (blkX X scope i) X0 e w) : ∃ t : TE, (∀ i : BI, PE (blkX X scope i) e t) ∧ ∀ {F0 H0 F H : Hp} {W : Option (Addr × Addr)} {M : Mem} {σ : List (Option V)} {xn : Xn} {Q : QD} {k : VK}, Rel X.K F0 H0 W M σ F H → Lnk X.K X0 F0 H0 xn → w xn M Q →
    (∀ v d M' F' H', Same F F' → Rel X.K F0 H0 W M' σ F' H' → DV X.K F' v d → Q d M' → k v H') → t σ H k :=
  ⟨fun σ H k => ∀ i : BI, (h i).ex.choose σ H k, fun i => ⟨fun pins s σ H Q I hw => (h i).ex.choose_spec.1.run pins s σ H Q I (hw i)⟩, fun r dv hw kk i => (h i).ex.choose_spec.2 r dv hw kk⟩
theorem dF_comp {elt : Expr} {ifs : List Expr} {scope : Scope} {own : List (Str × Nat)} {w : WI} {g : WG} {tt : WT} {te : WE} {is : List Nat} (hc : X.calm = true) (hN : X.N.Nodup) (hi : DI X R tg iter w) (ok : BlkOk X.N X.env.scope scope own)
    (hg : ∀ i : BI, DG (blkX X scope i) tg is g) (ht : ∀ i : BI, DTs (blkX X scope i) X0 ifs tt) (he : ∀ i : BI, DE (blkX X scope i) X0 elt te)
    (hin : ∀ i ∈ is, i ∈ own.map (·.2) := by decide) (hs : ∀ x, foldedSetIterable iter X.env x = pure x := by intro _; rfl) : DF X R (.ListComp elt [⟨tg, iter, ifs, 0⟩] scope pos) (wComp (own.map (·.2)) w g tt te) := by
  obtain ⟨t1, p1, q1⟩ := hi.ex
  obtain ⟨t2, p2, q2⟩ := blkG hg
  obtain ⟨t3, p3, q3⟩ := blkT ht
  obtain ⟨t4, p4, q4⟩ := blkE he
  refine ⟨_, pe_lc hc hN p1 ok (fun s H C cl fp => p2 (s, H, C, cl, fp)) (fun s H C cl fp => p3 (s, H, C, cl, fp)) (fun s H C cl fp => p4 (s, H, C, cl, fp)) hs, fun r l hw kk => ?_⟩
  exact comp_run (scope := scope) (elt := elt) (ifs := ifs) q1 q2 q3 q4 hin r l hw kk
theorem dS_comp {i : Nat} {y : Str} {py spos : Pos} {elt : Expr} {ifs : List Expr} {scope : Scope} {own : List (Str × Nat)} {w : WI} {g : WG} {tt : WT} {te : WE} {is : List Nat} (hc : X.calm = true) (hN : X.N.Nodup) (hy : X.N[i]? = some y) (hyl : X.env.scope.names.lookup y = some .local)
    (hsw : swapsWith (.ListComp elt [⟨tg, iter, ifs, 0⟩] scope pos) (some (.Name y py)) spos.line X.env = pure true) (hi : DI X R tg iter w) (ok : BlkOk X.N X.env.scope scope own)
    (hg : ∀ i : BI, DG (blkX X scope i) tg is g) (ht : ∀ i : BI, DTs (blkX X scope i) X0 ifs tt) (he : ∀ i : BI, DE (blkX X scope i) X0 elt te)
    (hin : ∀ i ∈ is, i ∈ own.map (·.2) := by decide) (hs : ∀ x, foldedSetIterable iter X.env x = pure x := by intro _; rfl) : DS X R (.Assign [.Name y py] (.ListComp elt [⟨tg, iter, ifs, 0⟩] scope pos) spos) (uAsgO (wComp (own.map (·.2)) w g tt te) i) := by
  obtain ⟨t1, p1, q1⟩ := hi.ex
  obtain ⟨t2, p2, q2⟩ := blkG hg
  obtain ⟨t3, p3, q3⟩ := blkT ht
  obtain ⟨t4, p4, q4⟩ := blkE he
  refine ⟨_, ps_setLc hc hN hy hyl hsw p1 ok (fun s H C cl fp => p2 (s, H, C, cl, fp)) (fun s H C cl fp => p3 (s, H, C, cl, fp)) (fun s H C cl fp => p4 (s, H, C, cl, fp)) hs, fun {F0 H0 F H W M σ xn De D} r l hw E => ?_⟩
  exact comp_run (scope := scope) (elt := elt) (ifs := ifs) q1 q2 q3 q4 hin r l hw fun p d M' F' H' s r' f z => E.nx _ _ _ _ s (r'.setOw f) z

end
end DL

/-! DL7: a def by its body, calls by keywords. -/
namespace DL
open PySem PySem.Spec L2 PyProof.Rows
section
variable {X : Cx} {R : XP} {K : PySem.W.Frag} {e a b c tg iter : Expr} {es : List Expr} {st : Stmt} {rest body : List Stmt} {pos : Pos} {wa wb wc : WE} {oa ob oc : WO} {ta tb : WT} {u v : WS}
/-! a def by its body -/
def toEnt : Arg → Option Ent
  | .x d => some (.im d)
  | .wel => some .wel
  | .scr ns => some (.scr ns)
def mem0 (n : Nat) (args : List Arg) (wl : Option Wel) : Mem := ⟨args.map toEnt ++ List.replicate (n - args.length) none, wl⟩
abbrev noX : Xn := fun _ _ => False
def endsG (Q : PyData → Option Wel → Prop) : DEn := { nx := fun M => Q .none M.wl, rt := fun d M => Q d M.wl }
theorem rel_start {F H : Hp} {W : Option (Addr × Addr)} {args : List Arg} {wl : Option Wel} {N : List Str} {vs : List V} (s : Same F H) (ha : ArgsR K F W vs args) (hw : WelR F H W wl) (hn : vs.length ≤ N.length) : Rel K F H W (mem0 N.length args wl) (L2.start N vs) F H where
  sub := s
  old := fun _ _ e _ => e
  fol := .refl _
  fnw := fun _ _ e => .inl e
  len := by
    have : vs.length = args.length := by
      clear hw hn
      induction ha with
      | nil => rfl
      | cons _ _ ih => simp [ih]
    simp [mem0, L2.start, this]
  slt := fun i e h => by
    have key : ∀ {vs : List V} {args : List Arg} {i : Nat} {rest : List (Option Ent)} {r2 : List (Option V)}, ArgsR K F W vs args → (∀ (j : Nat) (e : Ent), rest[j]? ≠ some (some e)) → (args.map toEnt ++ rest)[i]? = some (some e) → ∃ v, (vs.map some ++ r2)[i]? = some (some v) ∧ EntR K H F H W v e := by
      intro vs args i rest r2 ha
      induction ha generalizing i with
      | nil => intro hr h; exact absurd h (hr i e)
      | @cons v vs a as r q ih =>
        intro hr h
        cases i with
        | zero =>
          simp at h
          refine ⟨v, by simp, ?_⟩
          cases a with
          | x d => simp [toEnt] at h; subst h; exact r
          | wel => simp [toEnt] at h; subst h; exact r
          | scr u => simp [toEnt] at h; subst h; exact r
        | succ i =>
          simp at h ⊢
          exact ih hr h
    have h : (args.map toEnt ++ List.replicate (N.length - args.length) none)[i]? = some (some e) := h
    exact key ha (fun j e z => by rw [List.getElem?_replicate] at z; split at z <;> simp at z) h
  dis := fun i j d e v _ h => by
    exfalso
    have key : ∀ {args : List Arg} {i : Nat} {rest : List (Option Ent)}, (∀ (j : Nat) (e : Ent), rest[j]? ≠ some (some e)) → (args.map toEnt ++ rest)[i]? ≠ some (some (.ow d)) := by
      intro args
      induction args with
      | nil => intro i rest hr h; exact hr i _ h
      | cons a as ih =>
        intro i rest hr h
        cases i with
        | zero => cases a <;> simp [toEnt] at h
        | succ i => simp at h; exact ih hr h
    have h : (args.map toEnt ++ List.replicate (N.length - args.length) none)[i]? = some (some (.ow d)) := h
    exact key (fun j e z => by rw [List.getElem?_replicate] at z; split at z <;> simp at z) h
  wel := hw
theorem fnD {P : Program} {w : World} {mg : Str → Option Value} {base : Heap} {x qual : Str} {st : Stmt} {f : Addr} {fd : FuncData} {N ps : List Str} {k : Nat} {g : GSpec} (F : Fun K x qual st f fd) (S : FnScope N ps (defScope st)) (hN : ps.length ≤ N.length)
    (hlen : ∀ args wl Q, g args wl Q → args.length = ps.length)
    (hbody : ∀ (cdv : Value) (A : Around) (outer : List Env) (s : Shared) (H : Hp) (E : XK), Room k (A.deeper (envOfC qual (defScope st) s.heap.objs.size f cdv)) →
      ∃ u, DSs (cxOf CX0 P w K mg base N qual (defScope st) f cdv A outer s H E).nox X0 (defBody st) u ∧ ∀ args wl Q, g args wl Q → u noX (endsG Q) (mem0 N.length args wl)) : FnOk P w K mg base CX0 (k + 1) f fd ps (spD K g) := by
  have al : ∀ {F W vs args}, ArgsR K F W vs args → vs.length = args.length := fun ha => by
    induction ha with
    | nil => rfl
    | cons _ _ ih => simp [ih]
  refine F.ok S (fun vs H Q E h => ?_) fun cdv A outer s H vs Q E hr h => ?_
  · obtain ⟨F, W, args, wl, Qd, _, ha, _, hg, _⟩ := h
    rw [al ha]; exact hlen _ _ _ hg
  · obtain ⟨u, hu, hb⟩ := hbody cdv A outer s H E hr
    obtain ⟨F, W, args, wl, Qd, s1, ha, hw, hg, kk⟩ := h
    obtain ⟨t, p, q⟩ := hu.ex
    have hl : vs.length = ps.length := by rw [al ha]; exact hlen _ _ _ hg
    refine ⟨t, p, q (xn := noX) (rel_start s1 ha hw (by omega)) (fun _ _ _ _ _ _ _ _ _ _ z => z.elim) (hb _ _ _ hg) ⟨fun M' σ' F' H' s r z => ?_, fun v d M' σ' F' H' s r dv z => ?_, fun _ _ _ _ _ _ z => z.elim, fun _ _ _ _ _ _ z => z.elim⟩⟩
    · exact kk _ _ F' H' M'.wl r.after r.wel .non z
    · exact kk _ _ F' H' M'.wl r.after r.wel dv z

/-! a call by keywords alone -/
theorem pe_callK0 {k : Nat} {f : Addr} {fd : FuncData} {ps ks : List Str} {sp : Sp} {g : List Value → List Value → List Value} {gV : List V → List V → List V} {x : Str} {p : Pos} {kws : List Keyword} {E : XK} {tk : TA} {CX : CXT} (F : FnOk X.prog X.w X.K X.mg X.base CX k f fd ps sp) (hr : Room k X.A) (hg : Gl X x) (hm : X.mg x = some (.ref f)) (hk : PySem.W.keepIn X.K (.ref f) = true) (hb : KBinds X.K fd ps ks g gV) (hx : Passes CX X E)
    (hkw : PK X kws tk) (hall : (backToKw pos (keywordEach kws X.env)).all (·.1.isSome) = true := by rfl) (hks : (backToKw pos (keywordEach kws X.env)).filterMap (·.1) = ks := by rfl)
    (hdb : (x == ("__debug__" : Str)) = false := by decide) (hpl : ((backTo pos (starEach [] X.env)).any (·.1) || (backToKw pos (keywordEach kws X.env)).any (·.1.isNone)) = false := by rfl) :
    PE X (.Call (.Name x p) [] kws pos) (fun σ H Q => tk σ H fun zs H2 => sp (gV [] zs) H2 Q E) := by
  refine ⟨fun pins s σ H Q I h => ?_⟩
  refine wpAny_Call_Name_kw (ld_glob I hg hm ?_ hdb)
  refine PySem.W.callWith_KW0 (h₀ := X.base) I.ok.mod.kin hk hall ?_ hpl
  refine thn (hkw.run pos pins s σ H _ I h) fun ws s2 ⟨zs, H2, I2, rz, q2⟩ => ⟨I2.kIn, ?_⟩
  rw [hks]
  exact run_fnk (us := []) F hr hb hx I2 .nil rz q2
structure DK (X : Cx) (R : XP) (es : List Keyword) (w : WA) : Prop where
  ex : ∃ t : TA, PK X es t ∧ ∀ {F0 H0 F H : Hp} {W : Option (Addr × Addr)} {M : Mem} {σ : List (Option V)} {xn : Xn} {Q : QA} {k : List V → Hp → Prop}, Rel X.K F0 H0 W M σ F H → Lnk X.K R F0 H0 xn → w xn M Q →
    (∀ vs as M' F' H', Same F F' → Rel X.K F0 H0 W M' σ F' H' → ArgsR X.K F' W vs as → Q as M' → k vs H') → t σ H k
theorem dK_n : DK X R [] aN := ⟨_, pk_nil, fun r _ hw kk => kk _ _ _ _ _ (.refl _) r .nil hw⟩
theorem dK_c {as : WA} {nm : Option Str} {kpos : Pos} {kws : List Keyword} (h : DE X R e wa) (h2 : DK X R kws as) : DK X R (⟨nm, e, kpos⟩ :: kws) (aC wa as) := by
  obtain ⟨t, p, q⟩ := h.ex
  obtain ⟨t2, p2, q2⟩ := h2.ex
  refine ⟨_, pk_cons p p2, fun r l hw kk => q r l hw fun v x M1 F1 H1 s1 r1 hx z => q2 r1 l z fun vs os M2 F2 H2 s2 r2 hy z2 => ?_⟩
  exact kk _ _ _ _ _ (s1.trans s2) r2 (.cons (a := .x x) (hx.same s2) hy) z2
/-- the arguments by the parameters' order: pi i is where parameter i stands among the keywords -/
def perm {α : Type} (pi : List Nat) (zs : List α) : List α := pi.filterMap fun i => zs[i]?
def wCallK (g : GSpec) (pi : List Nat) (as : WA) : WE := fun xn M Q => as xn M fun xs M1 => g (perm pi xs) M1.wl fun d wl => Q d ⟨M1.env, wl⟩
theorem ArgsR.get {F : Hp} {W : Option (Addr × Addr)} : ∀ {vs : List V} {as : List Arg} (i : Nat), ArgsR K F W vs as → (vs[i]? = none ∧ as[i]? = none) ∨ ∃ v a, vs[i]? = some v ∧ as[i]? = some a ∧ ArgR K F W v a
  | _, _, i, .nil => .inl (by simp)
  | _, _, 0, .cons r _ => .inr ⟨_, _, rfl, rfl, r⟩
  | _, _, i + 1, .cons _ q => by simpa using ArgsR.get i q
theorem ArgsR.perm {F : Hp} {W : Option (Addr × Addr)} {vs : List V} {as : List Arg} (h : ArgsR K F W vs as) : ∀ pi : List Nat, ArgsR K F W (perm pi vs) (DL.perm pi as)
  | [] => .nil
  | i :: pi => by
    unfold DL.perm
    rw [List.filterMap_cons, List.filterMap_cons]
    rcases h.get i with ⟨h1, h2⟩ | ⟨v, a, h1, h2, r⟩
    · rw [h1, h2]; exact h.perm pi
    · rw [h1, h2]; exact .cons r (h.perm pi)
theorem permVals {vs : List V} {us : List Value} (h : Vals vs us) : ∀ pi : List Nat, Vals (perm pi vs) (perm pi us)
  | [] => .nil
  | i :: pi => by
    unfold perm
    rw [List.filterMap_cons, List.filterMap_cons]
    cases e : vs[i]? with
    | none => rw [Vals.none_of h e]; exact permVals h pi
    | some v =>
      obtain ⟨u, h1, h2⟩ := h.get e
      rw [h1]
      exact .cons h2 (permVals h pi)
def gK {α : Type} (pi : List Nat) (us ws : List α) : List α := match us with
  | [] => perm pi ws
  | _ => []
theorem kbinds {fd : FuncData} {ps ks : List Str} {pi : List Nat} (h0 : ps ≠ []) (h : ∀ ws : List Value, (perm pi ws).length = ps.length → bindArgs fd ⟨[], ks.zip ws⟩ = pure (ps.zip (perm pi ws))) : KBinds K fd ps ks (gK pi) (gK pi) where
  to := fun s us ws _ hl => by
    cases us with
    | nil => exact .of_eq (h ws hl)
    | cons u us => exact absurd (List.eq_nil_of_length_eq_zero hl.symm) h0
  rel := fun r1 r2 => by
    cases r1 with
    | nil => exact permVals r2 _
    | cons _ _ => exact .nil
theorem dE_callK {k j : Nat} {f : Addr} {fd : FuncData} {ps ks : List Str} {g : GSpec} {x : Str} {p : Pos} {as : WA} {kws : List Keyword} {pi : List Nat} (F : FnOk X.prog X.w X.K X.mg X.base CX0 k f fd ps (spD X.K g)) (hr : Room j X.A) (hk : k ≤ j) (hg : Gl X x) (hm : X.mg x = some (.ref f)) (hkp : PySem.W.keepIn X.K (.ref f) = true) (hb : KBinds X.K fd ps ks (gK pi) (gK pi))
    (ha : DK X R kws as) (hall : (backToKw pos (keywordEach kws X.env)).all (·.1.isSome) = true := by rfl) (hks : (backToKw pos (keywordEach kws X.env)).filterMap (·.1) = ks := by rfl)
    (hdb : (x == ("__debug__" : Str)) = false := by decide) (hpl : ((backTo pos (starEach [] X.env)).any (·.1) || (backToKw pos (keywordEach kws X.env)).any (·.1.isNone)) = false := by rfl) :
    DE X R (.Call (.Name x p) [] kws pos) (wCallK g pi as) := by
  obtain ⟨t, q, z⟩ := ha.ex
  refine ⟨_, pe_callK0 F (hr.mono hk) hg hm hkp hb pass0 q hall hks hdb hpl, fun {F0 H0 F H W M σ xn Q kc} r l hw kk => ?_⟩
  refine z r l hw fun vs xs M1 F1 H1 s1 r1 hx y => ?_
  exact spD_run r1 (hx.perm pi) y fun v d M' F' H' s => kk v d M' F' H' (s1.trans s)
end
end DL

/-! DL8: built-in functions, methods of texts. -/
namespace DL
open PySem PySem.Spec L2 PyProof.Rows
section
variable {X : Cx} {R : XP} {K : PySem.W.Frag} {e a b c tg iter : Expr} {es : List Expr} {pos : Pos} {wa wb wc : WE} {oa ob oc : WO} {ta tb : WT}
/-! len -/
/-- a dict's pairs: one of tuple keys bears a mark ahead of them -/
def dpairs : List (PyData × PyData) → List (PyData × PyData)
  | (.none, _) :: r => r
  | l => l
theorem dpairs_k {ks : List (Key × V)} {kvs : List (PyData × PyData)} (h : kvs.map (·.1) = ks.map fun p => kD p.1) : dpairs kvs = kvs := by
  cases kvs with
  | nil => rfl
  | cons p r =>
    obtain ⟨a, b⟩ := p
    cases ks with
    | nil => simp at h
    | cons q s =>
      simp at h
      obtain ⟨k, v⟩ := q
      cases k <;> (simp [kD] at h; rw [h.1]; rfl)
def fLen : DFN := fun ds Q => match ds with
  | [.list l] => Q (.int (l.length : Nat))
  | [.tuple l] => Q (.int (l.length : Nat))
  | [.str s] => s.cps.toList.length ≤ sizeLine ∧ Q (.int (s.cps.toList.length : Nat))
  | [.dict kvs] => Q (.int ((dpairs kvs).length : Nat))
  | _ => False
abbrev rLn (K : PySem.W.Frag) : List V → Hp → VK → Prop := fun xs H Q => (∃ x n, xs = [x] ∧ LenV K x H n ∧ Q (.int n) H) ∨ ((∃ a kvs, xs = [V.ref a] ∧ Rd H a (.dK kvs) ∧ Q (.int (kvs.length : Nat)) H) ∨ (∃ a kvs, xs = [V.ref a] ∧ Rd H a (.dT kvs) ∧ Q (.int (kvs.length : Nat)) H))
theorem call_lenK : CallR X (.builtin "len") (fun xs H Q => ∃ a kvs, xs = [V.ref a] ∧ Rd H a (.dK kvs) ∧ Q (.int (kvs.length : Nat)) H) := by
  intro pins s σ H xs us Q I r h
  obtain ⟨a, kvs, rfl, ha, q⟩ := h
  obtain ⟨u, rfl, ru⟩ := vals1 r
  cases ru
  exact d_len I ha fun t s' I' => ⟨.int kvs.length, H, I', ⟨t, rfl⟩, q⟩
theorem call_lenTR : CallR X (.builtin "len") (fun xs H Q => ∃ a kvs, xs = [V.ref a] ∧ Rd H a (.dT kvs) ∧ Q (.int (kvs.length : Nat)) H) := by
  intro pins s σ H xs us Q I r h
  obtain ⟨p, kvs, rfl, hp, q⟩ := h
  obtain ⟨u, rfl, ru⟩ := vals1 r
  cases ru
  obtain ⟨z, hd, ys, rel, dd⟩ := dt_rd I.hok hp
  have hl : kvs.length = ys.length := Paired.length rel
  refine call_len_dictH hd dd (by rw [← hl]; rw [sizeLine_eq] at z; omega) ?_
  rw [← hl]
  exact ⟨.int ((kvs.length : Nat) : Int), H, I.tok _, ⟨_, rfl⟩, q⟩
theorem hLen : CallR X (.builtin "len") (rLn X.K) := call_len.or (call_lenK.or call_lenTR)
theorem DVs.len' {F : Hp} {α : Type} {ks : List (α × V)} {kvs : List (PyData × PyData)} (h : DVs K F (ks.map (·.2)) (kvs.map (·.2))) : ks.length = kvs.length := by
  have := h.len
  simpa using this
theorem dLen : DCall K (rLn K) fLen := by
  intro F H vs ds Qd k s hv h kk
  unfold fLen at h
  split at h
  · obtain ⟨v, rfl, h1⟩ := hv.one
    obtain ⟨p, vs, rfl, a1, a2⟩ := h1.list s
    refine .inl ⟨_, vs.length, rfl, .inl ⟨vs, SqL.of a1, rfl⟩, ?_⟩
    rw [a2.len]
    exact kk _ _ _ _ (.refl s) (.int _) h
  · obtain ⟨v, rfl, h1⟩ := hv.one
    obtain ⟨p, vs, rfl, a1, a2⟩ := h1.tup s
    refine .inl ⟨_, vs.length, rfl, .inr ⟨vs, a1, rfl⟩, ?_⟩
    rw [a2.len]
    exact kk _ _ _ _ (.refl s) (.int _) h
  · obtain ⟨v, rfl, h1⟩ := hv.one
    rw [h1.str]
    refine .inl ⟨_, _, rfl, ⟨by rw [strLen]; exact h.1, rfl⟩, ?_⟩
    rw [strLen]
    exact kk _ _ _ _ (.refl s) (.int _) h.2
  · obtain ⟨v, rfl, h1⟩ := hv.one
    have fin : ∀ {p : Addr} {n : Nat}, Qd (.int (n : Nat)) → ((∃ ks, Rd H p (.dK ks) ∧ ks.length = n) ∨ (∃ ks, Rd H p (.dT ks) ∧ ks.length = n)) → rLn K [V.ref p] H k := fun hq o => by
      rcases o with ⟨ks, r, e⟩ | ⟨ks, r, e⟩
      · exact .inr (.inl ⟨_, _, rfl, r, by rw [e]; exact kk _ _ _ _ (.refl s) (.int _) hq⟩)
      · exact .inr (.inr ⟨_, _, rfl, r, by rw [e]; exact kk _ _ _ _ (.refl s) (.int _) hq⟩)
    rcases h1 with h1 | ⟨p, rfl, h1⟩
    · cases h1 with
      | dic r e q => rw [dpairs_k e] at h; exact fin h (.inl ⟨_, sameRd s r, q.len'⟩)
      | dit r e q => exact fin h (.inr ⟨_, sameRd s r, q.len'⟩)
    · cases h1 with
      | dic r e q => rw [dpairs_k e] at h; exact fin h (.inl ⟨_, .inl r, q.len'⟩)
      | dit r e q => exact fin h (.inr ⟨_, .inl r, q.len'⟩)
  · exact h.elim

/-! tuple(x), list(x) -/
def fTuple : DFN := fun ds Q => match ds with
  | [.list l] => Q (.tuple l)
  | [.tuple l] => Q (.tuple l)
  | _ => False
abbrev rTupO (K : PySem.W.Frag) : List V → Hp → VK → Prop := fun xs H Q => ∃ p ys, xs = [.ref p] ∧ ((SqL K H p ys ∧ ∀ l, H l = none → Q (.ref l) (upd H l (.tup ys))) ∨ (SqT K H p ys ∧ Q (.ref p) H))
theorem dTuple : DCall K (rTupO K) fTuple := by
  intro F H vs ds Qd k s hv h kk
  unfold fTuple at h
  split at h
  · obtain ⟨v, rfl, h1⟩ := hv.one
    obtain ⟨p, vs, rfl, a1, a2⟩ := h1.list s
    refine ⟨p, vs, rfl, .inl ⟨SqL.of a1, fun l hl => ?_⟩⟩
    have g := Grow.newF (o := .tup vs) s hl
    exact kk _ _ _ _ g (.tup upd_same (a2.same g.f)) h
  · obtain ⟨v, rfl, h1⟩ := hv.one
    have f := h1.frzT
    obtain ⟨p, vs, rfl, a1, a2⟩ := h1.tup s
    exact ⟨p, vs, rfl, .inr ⟨a1, kk _ _ _ _ (.refl s) f h⟩⟩
  · exact h.elim
/-! list(x): a list of nobody's -/
abbrev rListO (K : PySem.W.Frag) : List V → Hp → VK → Prop := fun xs H Q => ∃ p ys, xs = [.ref p] ∧ (SqL K H p ys ∨ SqT K H p ys) ∧ ∀ l, H l = none → Q (.ref l) (upd H l (.lst ys))
def wListO (os : WOs) : WE := fun xn M Q => os xn M fun xs M1 => match getAll xs M1 with
  | some [.list l] => Q (.list l) M1
  | some [.tuple l] => Q (.list l) M1
  | _ => False
theorem dF_list {x : Str} {p : Pos} {os : WOs} (hg : Gl X x) (hm : X.mg x = none) (hv : bootBuiltins x = some (.type "list")) (ha : DOs X R [e] os) (hn : x ≠ "__name__" := by decide) (hdb : (x == ("__debug__" : Str)) = false := by decide)
    (he : starEach [e] X.env = (false, eval e X.env) :: starEach [] X.env := by rfl) (hpl : (backTo pos (starEach [] X.env)).any (·.1) = false := by rfl) : DF X R (.Call (.Name x p) [e] [] pos) (wListO os) := by
  obtain ⟨t, q, z⟩ := ha.ex
  refine ⟨_, pe_callTy call_list_of hg hm hv q hn hdb he hpl, fun r l hw kk => z r l hw fun vs os M1 F1 H1 s1 r1 hx y => ?_⟩
  split at y
  · rename_i e1
    obtain ⟨v, rfl, h1⟩ := (views_of r1 hx e1).one
    obtain ⟨p, vs, rfl, a1, a2⟩ := h1.list r1.sub
    refine ⟨p, vs, rfl, .inl (SqL.of a1), fun l hl => ?_⟩
    obtain ⟨r2, f2⟩ := r1.isFresh (o := .lst vs) (d := .list _) hl (.lst upd_same a2)
    exact kk _ _ _ _ _ s1 r2 f2 y
  · rename_i e1
    obtain ⟨v, rfl, h1⟩ := (views_of r1 hx e1).one
    obtain ⟨p, vs, rfl, a1, a2⟩ := h1.tup r1.sub
    refine ⟨p, vs, rfl, .inr a1, fun l hl => ?_⟩
    obtain ⟨r2, f2⟩ := r1.isFresh (o := .lst vs) (d := .list _) hl (.lst upd_same a2)
    exact kk _ _ _ _ _ s1 r2 f2 y
  · exact y.elim
/-! fresh: xs * n, xs + ys -/
theorem dF_rep {oa ob : WO} (ha : DO X R a oa) (hb : DO X R b ob) : DF X R (.BinOp a .Mult b pos) (fun xn M Q => oa xn M fun x M1 => ob xn M1 fun y M2 => match x.get M2, y.get M2 with
    | some (.list i), some (.int j) => (j < 2 ^ 62 ∧ -(2 ^ 62) < j ∧ i.length * j.toNat ≤ sizeLine) ∧ Q (.list (repL j.toNat i)) M2
    | _, _ => False) := by
  obtain ⟨t1, p1, q1⟩ := ha.ex
  obtain ⟨t2, p2, q2⟩ := hb.ex
  refine ⟨_, pe_op op_rep p1 p2, fun r l hw kk => ?_⟩
  refine q1 r l hw fun vx x M1 F1 H1 s1 r1 hx z1 => q2 r1 l z1 fun vy y M2 F2 H2 s2 r2 hy z2 => ?_
  split at z2
  · rename_i i j e1 e2
    obtain ⟨p, vs, rfl, a1, a2⟩ := (r2.opd (hx.same s2) e1).list r2.sub
    rw [(r2.opd hy e2).int]
    refine ⟨p, j, vs, rfl, rfl, a1, by have := z2.1.2.1; omega, by have := z2.1.1; omega, by rw [a2.len]; exact z2.1.2.2, fun q hq => ?_⟩
    obtain ⟨r3, f3⟩ := r2.isFresh (o := .lst (List.replicate j.toNat vs).flatten) (d := .list (repL j.toNat i)) hq (.lst upd_same (a2.rep j.toNat))
    exact kk _ _ _ _ _ (s1.trans s2) r3 f3 z2.2
  · exact z2.elim
/-! min, max, sum, all, any of a list -/
def intsOf : List PyData → Option (List Int)
  | [] => some []
  | .int i :: r => (intsOf r).map (i :: ·)
  | _ :: _ => none
theorem intsOf_map : ∀ ns : List Int, intsOf (ns.map PyData.int) = some ns
  | [] => rfl
  | n :: ns => by rw [List.map_cons, intsOf, intsOf_map ns]; rfl
theorem intsOf_eq : ∀ {ds : List PyData} {ns : List Int}, intsOf ds = some ns → ds = ns.map PyData.int
  | [], ns, h => by cases h; rfl
  | .int i :: r, ns, h => by
    unfold intsOf at h
    cases e : intsOf r with
    | none => rw [e] at h; cases h
    | some ms => rw [e] at h; cases h; rw [intsOf_eq e]; rfl
  | .none :: _, _, h => by cases h
  | .bool _ :: _, _, h => by cases h
  | .str _ :: _, _, h => by cases h
  | .list _ :: _, _, h => by cases h
  | .tuple _ :: _, _, h => by cases h
  | .dict _ :: _, _, h => by cases h
def boolsOf : List PyData → Option (List Bool)
  | [] => some []
  | .bool i :: r => (boolsOf r).map (i :: ·)
  | _ :: _ => none
theorem boolsOf_map : ∀ ns : List Bool, boolsOf (ns.map PyData.bool) = some ns
  | [] => rfl
  | n :: ns => by rw [List.map_cons, boolsOf, boolsOf_map ns]; rfl
theorem boolsOf_eq : ∀ {ds : List PyData} {ns : List Bool}, boolsOf ds = some ns → ds = ns.map PyData.bool
  | [], ns, h => by cases h; rfl
  | .bool i :: r, ns, h => by
    unfold boolsOf at h
    cases e : boolsOf r with
    | none => rw [e] at h; cases h
    | some ms => rw [e] at h; cases h; rw [boolsOf_eq e]; rfl
  | .none :: _, _, h => by cases h
  | .int _ :: _, _, h => by cases h
  | .str _ :: _, _, h => by cases h
  | .list _ :: _, _, h => by cases h
  | .tuple _ :: _, _, h => by cases h
  | .dict _ :: _, _, h => by cases h
def strsOf : List PyData → Option (List Str)
  | [] => some []
  | .str i :: r => (strsOf r).map (i :: ·)
  | _ :: _ => none
theorem strsOf_map : ∀ ns : List Str, strsOf (ns.map PyData.str) = some ns
  | [] => rfl
  | n :: ns => by rw [List.map_cons, strsOf, strsOf_map ns]; rfl
theorem strsOf_eq : ∀ {ds : List PyData} {ns : List Str}, strsOf ds = some ns → ds = ns.map PyData.str
  | [], ns, h => by cases h; rfl
  | .str i :: r, ns, h => by
    unfold strsOf at h
    cases e : strsOf r with
    | none => rw [e] at h; cases h
    | some ms => rw [e] at h; cases h; rw [strsOf_eq e]; rfl
  | .none :: _, _, h => by cases h
  | .int _ :: _, _, h => by cases h
  | .bool _ :: _, _, h => by cases h
  | .list _ :: _, _, h => by cases h
  | .tuple _ :: _, _, h => by cases h
  | .dict _ :: _, _, h => by cases h
theorem View.ints {F H : Hp} {v : V} {ds : List PyData} {ns : List Int} (s : Same F H) (h : View K F H v (.list ds)) (e : intsOf ds = some ns) : ∃ p, v = .ref p ∧ H p = some (.lst (ns.map V.int)) := by
  obtain ⟨p, vs, rfl, a1, a2⟩ := h.list s
  rw [intsOf_eq e] at a2
  rw [a2.ints] at a1
  exact ⟨p, rfl, a1⟩
theorem View.bools {F H : Hp} {v : V} {ds : List PyData} {ns : List Bool} (s : Same F H) (h : View K F H v (.list ds)) (e : boolsOf ds = some ns) : ∃ p, v = .ref p ∧ H p = some (.lst (ns.map V.bl)) := by
  obtain ⟨p, vs, rfl, a1, a2⟩ := h.list s
  rw [boolsOf_eq e] at a2
  rw [a2.bools] at a1
  exact ⟨p, rfl, a1⟩
theorem View.strs {F H : Hp} {v : V} {ds : List PyData} {ns : List Str} (s : Same F H) (h : View K F H v (.list ds)) (e : strsOf ds = some ns) : ∃ p, v = .ref p ∧ H p = some (.lst (ns.map V.str)) := by
  obtain ⟨p, vs, rfl, a1, a2⟩ := h.list s
  rw [strsOf_eq e] at a2
  rw [a2.strs] at a1
  exact ⟨p, rfl, a1⟩
def lmin : List Int → Option Int
  | [] => none
  | a :: r => some (r.foldl min a)
def lmax : List Int → Option Int
  | [] => none
  | a :: r => some (r.foldl max a)
theorem foldl_min : ∀ (l : List Int) (a : Int), (l.foldl min a ≤ a ∧ (∀ x ∈ l, l.foldl min a ≤ x)) ∧ (l.foldl min a = a ∨ l.foldl min a ∈ l)
  | [], a => by simp
  | b :: l, a => by
    obtain ⟨⟨h1, h2⟩, h3⟩ := foldl_min l (min a b)
    rw [List.foldl_cons]
    refine ⟨⟨by omega, fun x hx => ?_⟩, ?_⟩
    · rcases List.mem_cons.mp hx with rfl | hx
      · omega
      · exact h2 x hx
    · rcases h3 with h3 | h3
      · by_cases hb : a ≤ b
        · left; omega
        · right; rw [h3, Int.min_eq_right (by omega)]; exact List.mem_cons_self
      · exact .inr (List.mem_cons_of_mem _ h3)
theorem foldl_max : ∀ (l : List Int) (a : Int), (a ≤ l.foldl max a ∧ (∀ x ∈ l, x ≤ l.foldl max a)) ∧ (l.foldl max a = a ∨ l.foldl max a ∈ l)
  | [], a => by simp
  | b :: l, a => by
    obtain ⟨⟨h1, h2⟩, h3⟩ := foldl_max l (max a b)
    rw [List.foldl_cons]
    refine ⟨⟨by omega, fun x hx => ?_⟩, ?_⟩
    · rcases List.mem_cons.mp hx with rfl | hx
      · omega
      · exact h2 x hx
    · rcases h3 with h3 | h3
      · by_cases hb : b ≤ a
        · left; omega
        · right; rw [h3, Int.max_eq_right (by omega)]; exact List.mem_cons_self
      · exact .inr (List.mem_cons_of_mem _ h3)
theorem lmin_spec {l : List Int} {m : Int} (h : lmin l = some m) : m ∈ l ∧ ∀ x ∈ l, m ≤ x := by
  cases l with
  | nil => cases h
  | cons a r =>
    cases h
    obtain ⟨⟨h1, h2⟩, h3⟩ := foldl_min r a
    refine ⟨?_, fun x hx => ?_⟩
    · rcases h3 with h3 | h3
      · rw [h3]; exact List.mem_cons_self
      · exact List.mem_cons_of_mem _ h3
    · rcases List.mem_cons.mp hx with rfl | hx
      · exact h1
      · exact h2 x hx
theorem lmax_spec {l : List Int} {m : Int} (h : lmax l = some m) : m ∈ l ∧ ∀ x ∈ l, x ≤ m := by
  cases l with
  | nil => cases h
  | cons a r =>
    cases h
    obtain ⟨⟨h1, h2⟩, h3⟩ := foldl_max r a
    refine ⟨?_, fun x hx => ?_⟩
    · rcases h3 with h3 | h3
      · rw [h3]; exact List.mem_cons_self
      · exact List.mem_cons_of_mem _ h3
    · rcases List.mem_cons.mp hx with rfl | hx
      · exact h1
      · exact h2 x hx
def fMin1 : DFN := fun ds Q => match ds with
  | [.list l] => match intsOf l with
    | some ns => match lmin ns with
      | some m => Q (.int m)
      | none => False
    | none => False
  | [.int i, .int j] => Q (.int (if j < i then j else i))
  | _ => False
def fMax1 : DFN := fun ds Q => match ds with
  | [.list l] => match intsOf l with
    | some ns => match lmax ns with
      | some m => Q (.int m)
      | none => False
    | none => False
  | [.int i, .int j] => Q (.int (if j > i then j else i))
  | _ => False
abbrev rMn (K : PySem.W.Frag) : List V → Hp → VK → Prop := fun xs H Q => rMin K xs H Q ∨ (∃ i j, xs = [.int i, .int j] ∧ Q (.int (if j < i then j else i)) H)
abbrev rMx (K : PySem.W.Frag) : List V → Hp → VK → Prop := fun xs H Q => rMax K xs H Q ∨ (∃ i j, xs = [.int i, .int j] ∧ Q (.int (if j > i then j else i)) H)
theorem hMin (hc : X.calm = true) : CallR X (.builtin "min") (rMn X.K) := (cr_min hc).or (call_min2 hc)
theorem hMax (hc : X.calm = true) : CallR X (.builtin "max") (rMx X.K) := (cr_max hc).or (call_max2 hc)
theorem dMin : DCall K (rMn K) fMin1 := by
  intro F H vs ds Qd k s hv h kk
  unfold fMin1 at h
  split at h
  · obtain ⟨v, rfl, h1⟩ := hv.one
    split at h
    · rename_i ns e
      obtain ⟨p, rfl, hp⟩ := h1.ints s e
      split at h
      · rename_i m em
        obtain ⟨g1, g2⟩ := lmin_spec em
        refine .inl ⟨p, ns, rfl, SqL.of hp, ?_, fun m' h1' h2' => ?_⟩
        · exact List.length_pos_of_mem g1
        · have : m' = m := by have := g2 m' h1'; have := h2' m g1; omega
          rw [this]
          exact kk _ _ _ _ (.refl s) (.int _) h
      · exact h.elim
    · exact h.elim
  · obtain ⟨v, w, rfl, h1, h2⟩ := hv.two
    rw [h1.int, h2.int]
    exact .inr ⟨_, _, rfl, kk _ _ _ _ (.refl s) (.int _) h⟩
  · exact h.elim
theorem dMax : DCall K (rMx K) fMax1 := by
  intro F H vs ds Qd k s hv h kk
  unfold fMax1 at h
  split at h
  · obtain ⟨v, rfl, h1⟩ := hv.one
    split at h
    · rename_i ns e
      obtain ⟨p, rfl, hp⟩ := h1.ints s e
      split at h
      · rename_i m em
        obtain ⟨g1, g2⟩ := lmax_spec em
        refine .inl ⟨p, ns, rfl, SqL.of hp, ?_, fun m' h1' h2' => ?_⟩
        · exact List.length_pos_of_mem g1
        · have : m' = m := by have := g2 m' h1'; have := h2' m g1; omega
          rw [this]
          exact kk _ _ _ _ (.refl s) (.int _) h
      · exact h.elim
    · exact h.elim
  · obtain ⟨v, w, rfl, h1, h2⟩ := hv.two
    rw [h1.int, h2.int]
    exact .inr ⟨_, _, rfl, kk _ _ _ _ (.refl s) (.int _) h⟩
  · exact h.elim
def fSum : DFN := fun ds Q => match ds with
  | [.list l] => match intsOf l with
    | some ns => Q (.int ns.sum)
    | none => False
  | _ => False
theorem dSum : DCall K (rSum K) fSum := by
  intro F H vs ds Qd k s hv h kk
  unfold fSum at h
  split at h
  · obtain ⟨v, rfl, h1⟩ := hv.one
    split at h
    · rename_i ns e
      obtain ⟨p, rfl, hp⟩ := h1.ints s e
      exact ⟨p, ns, rfl, SqL.of hp, kk _ _ _ _ (.refl s) (.int _) h⟩
    · exact h.elim
  · exact h.elim
def fAll : DFN := fun ds Q => match ds with
  | [.list l] => match boolsOf l with
    | some ns => Q (.bool (ns.all id))
    | none => False
  | _ => False
theorem dAll : DCall K (rAll K) fAll := by
  intro F H vs ds Qd k s hv h kk
  unfold fAll at h
  split at h
  · obtain ⟨v, rfl, h1⟩ := hv.one
    split at h
    · rename_i ns e
      obtain ⟨p, rfl, hp⟩ := h1.bools s e
      exact ⟨p, ns, rfl, SqL.of hp, kk _ _ _ _ (.refl s) (.bl _) h⟩
    · exact h.elim
  · exact h.elim
def fAny : DFN := fun ds Q => match ds with
  | [.list l] => match boolsOf l with
    | some ns => Q (.bool (ns.any id))
    | none => False
  | _ => False
theorem dAny : DCall K (rAny K) fAny := by
  intro F H vs ds Qd k s hv h kk
  unfold fAny at h
  split at h
  · obtain ⟨v, rfl, h1⟩ := hv.one
    split at h
    · rename_i ns e
      obtain ⟨p, rfl, hp⟩ := h1.bools s e
      exact ⟨p, ns, rfl, SqL.of hp, kk _ _ _ _ (.refl s) (.bl _) h⟩
    · exact h.elim
  · exact h.elim
/-! sorted of texts, fewer than 64: a list of nobody's -/
def fSortS (l : List PyData) (Q : PyData → Prop) : Prop := match strsOf l with
  | some ss => ss.length < 64 ∧ ∀ ys : List Str, ys.Perm ss → sortedS ys = true → Q (.list (ys.map PyData.str))
  | none => False
def fSorted : DFN := fun ds Q => match ds with
  | [.list l] => fSortS l Q
  | _ => False
theorem dSorted : DCall K (rSortedS K) fSorted := by
  intro F H vs ds Qd k s hv h kk
  unfold fSorted at h
  split at h
  · obtain ⟨v, rfl, h1⟩ := hv.one
    unfold fSortS at h
    split at h
    · rename_i ns e
      obtain ⟨p, rfl, hp⟩ := h1.strs s e
      refine ⟨p, ns, rfl, SqL.of hp, h.1, fun ys q pm so hq => ?_⟩
      have g := Grow.newF (o := .lst (ys.map V.str)) s hq
      exact kk _ _ _ _ g (.lst upd_same DVs.ofStrs) (h.2 ys pm so)
    · exact h.elim
  · exact h.elim
/-! abs, int -/
def fAbs : DFN := fun ds Q => match ds with
  | [.int i] => Q (.int (if i < 0 then -i else i))
  | _ => False
theorem dAbs : DCall K (fun xs H Q => ∃ i, xs = [.int i] ∧ Q (.int (if i < 0 then -i else i)) H) fAbs := by
  intro F H vs ds Qd k s hv h kk
  unfold fAbs at h
  split at h
  · obtain ⟨v, rfl, h1⟩ := hv.one
    rw [h1.int]
    exact ⟨_, rfl, kk _ _ _ _ (.refl s) (.int _) h⟩
  · exact h.elim
def fInt : DFN := fun ds Q => match ds with
  | [.int i] => Q (.int i)
  | [.bool b] => Q (.int (if b then 1 else 0))
  | _ => False
theorem dInt : DCall K (fun xs H Q => (∃ i, xs = [.int i] ∧ Q (.int i) H) ∨ ∃ k, xs = [.bl k] ∧ Q (.int (if k then 1 else 0)) H) fInt := by
  intro F H vs ds Qd k s hv h kk
  unfold fInt at h
  split at h
  · obtain ⟨v, rfl, h1⟩ := hv.one
    rw [h1.int]
    exact .inl ⟨_, rfl, kk _ _ _ _ (.refl s) (.int _) h⟩
  · obtain ⟨v, rfl, h1⟩ := hv.one
    rw [h1.bl]
    exact .inr ⟨_, rfl, kk _ _ _ _ (.refl s) (.int _) h⟩
  · exact h.elim
/-! len(set(xs)), xs a list of fewer than 64 tuples of ints -/
theorem call_lenTO : CallR X (.builtin "len") (fun xs H Q => ∃ a L, xs = [V.ref a] ∧ H a = some (SetTO X.prog X.w a L) ∧ ((L.map (·.2)).Nodup → Q (.int (L.length : Nat)) H)) := by
  intro pins s σ H xs us Q I r h
  obtain ⟨a, L, rfl, ha, q⟩ := h
  obtain ⟨u, rfl, ru⟩ := vals1 r
  cases ru
  have R0 : SetT0 X.prog X.w s.heap a L := (I.hok a _ ha).1
  obtain ⟨es, ep, t, ⟨o, ho, hex, hd⟩, hr, tab, nd, _, _, hroom, hf⟩ := R0.ex
  have hs : es.size = L.length := by
    have h := congrArg List.length hr
    unfold rowsOf at h
    rw [Array.length_toList, List.length_map] at h
    exact h
  refine call_len_set ho hex hd ?_ (by rw [hs]; omega) ?_
  · unfold SetTable.fits SetTable.fill
    rw [tab.sz, tab.dm, List.length_map, hs]
    simp
    omega
  · rw [hs]
    exact ⟨.int (L.length : Nat), H, I.tok _, ⟨_, rfl⟩, q nd⟩
end
end DL

/-! DL9: methods of texts, sets of tuples, dicts, repr. -/
namespace DL
open PySem PySem.Spec L2 PyProof.Rows
section
open Builtin.Str
/-! where a sign stands -/
theorem subAt_one (s : Str) (c i : Nat) : subAt s ⟨#[c]⟩ i = decide (s.cps.toList[i]? = some c) := by
  unfold subAt
  show (s.cps.extract i (i + 1) == #[c]) = _
  rw [Bool.eq_iff_iff, beq_iff_eq, decide_eq_true_iff]
  constructor
  · intro h
    have h2 := congrArg (fun a : Array Nat => a.toList) h
    simp only [Array.toList_extract] at h2
    have : (s.cps.toList.drop i).take 1 = [c] := by simpa [List.extract_eq_take_drop] using h2
    have h3 := congrArg (fun l : List Nat => l[0]?) this
    simpa [List.getElem?_take, List.getElem?_drop] using h3
  · intro h
    apply Array.toList_inj.mp
    simp only [Array.toList_extract]
    have hl := (List.getElem?_eq_some_iff.mp h)
    obtain ⟨hl, he⟩ := hl
    have : s.cps.toList.drop i = c :: s.cps.toList.drop (i + 1) := by rw [List.drop_eq_getElem_cons hl, he]
    simp [List.extract_eq_take_drop, this]
theorem occ_loop (s : Str) (c hi limit : Nat) : ∀ (l : List Nat) (st : Array Nat × Nat), l.Pairwise (· < ·) → (∀ i ∈ l, st.2 ≤ i) → st.1.size + l.length ≤ limit →
    (forIn l st (StrLaws.occBody s ⟨#[c]⟩ hi limit)).run.fst.toList = st.1.toList ++ l.filter fun i => decide (i < hi) && decide (s.cps.toList[i]? = some c)
  | [], st, _, _, _ => by simp
  | a :: l, st, hp, hf, hl => by
    rw [List.forIn_cons]
    unfold StrLaws.occBody
    have hp' := List.pairwise_cons.mp hp
    have ha := hf a (List.mem_cons_self ..)
    rw [subAt_one]
    have e1 : ((⟨#[c]⟩ : Str).length) = 1 := rfl
    rw [e1]
    simp only [List.length_cons] at hl
    by_cases hc : a < hi ∧ s.cps.toList[a]? = some c
    · rw [if_pos ⟨⟨⟨by omega, ha⟩, by omega⟩, decide_eq_true hc.2⟩]
      have ih := occ_loop s c hi limit l (st.1.push a, a + 1) hp'.2 (fun i hi' => hp'.1 i hi') (by simp; omega)
      have e2 : (a :: l).filter (fun i => decide (i < hi) && decide (s.cps.toList[i]? = some c)) = a :: l.filter fun i => decide (i < hi) && decide (s.cps.toList[i]? = some c) := by
        rw [List.filter_cons_of_pos]
        simp [hc.1, hc.2]
      rw [e2]
      refine Eq.trans ih ?_
      simp
    · have e2 : (a :: l).filter (fun i => decide (i < hi) && decide (s.cps.toList[i]? = some c)) = l.filter fun i => decide (i < hi) && decide (s.cps.toList[i]? = some c) := by
        rw [List.filter_cons_of_neg]
        simp only [Bool.and_eq_true, decide_eq_true_eq]
        exact hc
      rw [if_neg (by
        intro h
        exact hc ⟨by omega, of_decide_eq_true h.2⟩), e2]
      exact occ_loop s c hi limit l st hp'.2 (fun i hi' => hf i (List.mem_cons_of_mem _ hi')) (by omega)
theorem occ_one (s : Str) (c lo hi limit : Nat) (h : hi + 1 - lo ≤ limit) : occurrences s ⟨#[c]⟩ lo hi limit = (List.range' lo (hi - lo)).filter fun i => decide (s.cps.toList[i]? = some c) := by
  rw [StrLaws.occ_eq, occ_loop s c hi limit _ _ List.pairwise_lt_range' (fun i hi' => by have := List.mem_range'.mp hi'; obtain ⟨j, h1, h2⟩ := this; show lo ≤ i; omega) (by simpa using h)]
  show [] ++ _ = _
  rw [List.nil_append]
  by_cases hl : lo ≤ hi
  · have : hi + 1 - lo = (hi - lo) + 1 := by omega
    rw [this, List.range'_concat, List.filter_append]
    have e1 : (List.range' lo (hi - lo)).filter (fun i => decide (i < hi) && decide (s.cps.toList[i]? = some c)) = (List.range' lo (hi - lo)).filter fun i => decide (s.cps.toList[i]? = some c) := by
      apply List.filter_congr
      intro i hi'
      obtain ⟨j, h1, h2⟩ := List.mem_range'.mp hi'
      have : i < hi := by omega
      simp [this]
    rw [e1]
    have : ¬ (lo + (hi - lo) < hi) := by omega
    simp [this]
  · have e1 : hi + 1 - lo = 0 := by omega
    have e2 : hi - lo = 0 := by omega
    rw [e1, e2]
    rfl
theorem count_range (c : Nat) : ∀ (n lo : Nat) (l : List Nat), ((List.range' lo n).filter fun i => decide (l[i]? = some c)).length = ((l.drop lo).take n).count c
  | 0, lo, l => by simp
  | n + 1, lo, l => by
    rw [List.range'_succ]
    have ih := count_range c n (lo + 1) l
    by_cases hl : lo < l.length
    · have e : l.drop lo = l[lo] :: l.drop (lo + 1) := List.drop_eq_getElem_cons hl
      rw [e, List.take_succ_cons, List.count_cons, ← ih]
      by_cases hc : l[lo]? = some c
      · rw [List.filter_cons_of_pos (by simpa using hc), List.length_cons]
        have : l[lo] = c := by rw [List.getElem?_eq_getElem hl] at hc; exact Option.some.inj hc
        simp [this]
      · rw [List.filter_cons_of_neg (by simpa using hc)]
        have : l[lo] ≠ c := fun z => hc (by rw [List.getElem?_eq_getElem hl, z])
        simp [this]
    · have hn : l[lo]? = none := List.getElem?_eq_none_iff.mpr (by omega)
      rw [List.filter_cons_of_neg (by simp [hn]), ih, List.drop_of_length_le (by omega), List.drop_of_length_le (by omega)]
      simp
theorem count_sign (x : Str) (c : Nat) : Txt.count x ⟨#[c]⟩ = ((x.cps.toList.count c : Nat) : Int) := by
  unfold Txt.count
  rw [occ_one _ _ _ _ _ (by omega), count_range, strLen, List.drop_zero, Nat.sub_zero, List.take_length]
/-- the part from i to j, as count(.., i, j) has it -/
def within (l : List Nat) (i j : Int) : List Nat := let lo := fromIndex l.length i; let hi := toIndexW l.length j; (l.drop lo).take (hi - lo)
theorem countIn_sign (x : Str) (c : Nat) (i j : Int) : Txt.countIn x ⟨#[c]⟩ i j = (((within x.cps.toList i j).count c : Nat) : Int) := by
  unfold Txt.countIn within
  rw [occ_one _ _ _ _ _ (by unfold toIndexW; omega), count_range, strLen]
theorem within_nat (l : List Nat) (i j : Nat) : within l (i : Int) (j : Int) = (l.drop i).take (min j l.length - i) := by
  unfold within fromIndex toIndexW
  have e1 : (max 0 (if (i : Int) < 0 then (i : Int) + l.length else i)).toNat = i := by rw [if_neg (by omega)]; omega
  have e2 : min (max 0 (if (j : Int) < 0 then (j : Int) + l.length else j)).toNat l.length = min j l.length := by rw [if_neg (by omega)]; congr 1
  simp only [e1, e2]
theorem idx_le (c : Nat) : ∀ (l : List Nat) (i : Nat), l[i]? = some c → l.idxOf c ≤ i
  | [], i, h => by simp at h
  | a :: l, 0, h => by simp at h; subst h; simp
  | a :: l, i + 1, h => by
    rw [List.idxOf_cons]
    have := idx_le c l i (by simpa using h)
    cases hb : (a == c) <;> simp [hb] <;> omega
theorem index_sign (x : Str) (c : Nat) (h : c ∈ x.cps.toList) : ∃ rest, occurrences x ⟨#[c]⟩ 0 x.length 1 = x.cps.toList.idxOf c :: rest := by
  have at1 : ∀ i, StrLaws.At x ⟨#[c]⟩ x.length i ↔ x.cps.toList[i]? = some c := fun i => by
    unfold StrLaws.At
    rw [subAt_one, decide_eq_true_iff]
    constructor
    · exact fun z => z.2
    · intro z
      refine ⟨?_, z⟩
      have := (List.getElem?_eq_some_iff.mp z).1
      rw [strLen]
      exact this
  have hi : x.cps.toList[x.cps.toList.idxOf c]? = some c := by
    have hl := List.idxOf_lt_length_of_mem h
    rw [List.getElem?_eq_getElem hl]
    simp
  rcases StrLaws.occ_head x ⟨#[c]⟩ 1 (Nat.le_refl _) with ⟨_, hn⟩ | ⟨i, r, e, ha, hk⟩
  · exact absurd ((at1 _).mpr hi) (hn _)
  · have h1 := (at1 i).mp ha
    have : i = x.cps.toList.idxOf c := by
      rcases Nat.lt_trichotomy i (x.cps.toList.idxOf c) with z | z | z
      · have := idx_le c _ _ h1; omega
      · exact z
      · exact absurd ((at1 _).mpr hi) (hk _ z)
    exact ⟨r, by rw [e, this]⟩
end
end DL

/-! DL10: rules for methods of texts, sets of tuples, dicts, repr. -/
namespace DL
open PySem PySem.Spec L2 PyProof.Rows
section
variable {X : Cx} {R : XP} {K : PySem.W.Frag} {e a b c tg iter : Expr} {es : List Expr} {pos : Pos} {wa wb wc : WE} {oa ob oc : WO} {ta tb : WT}
def isStr : PyData → Bool
  | .str _ => true
  | _ => false
def isList : PyData → Bool
  | .list _ => true
  | _ => false
theorem tyStr : TyD K "str" isStr := by
  intro F H v d s hv h
  cases d with
  | str x => rw [hv.str]; rfl
  | _ => cases h
theorem tyList : TyD K "list" isList := by
  intro F H v d s hv h
  cases d with
  | list x =>
    obtain ⟨p, vs, rfl, a1, _⟩ := hv.list s
    exact .inl ⟨rfl, _, SqL.of a1⟩
  | _ => cases h
/-! s.count(c), s.count(c, i, j): c one sign -/
def fCnt : DFM := fun d ds Q => match d, ds with
  | .str s, [.str t] => match t.cps.toList with
    | [c] => Q (.int ((s.cps.toList.count c : Nat)))
    | _ => False
  | .str s, [.str t, .int i, .int j] => match t.cps.toList with
    | [c] => Q (.int (((within s.cps.toList i j).count c : Nat)))
    | _ => False
  | _, _ => False
abbrev rCnt : V → List V → Hp → VK → Prop := fun x xs H Q => (∃ a b, x = .str a ∧ xs = [.str b] ∧ Q (.int (Txt.count a b)) H) ∨ ∃ (a b : Str) (i j : Int), x = .str a ∧ xs = [.str b, .int i, .int j] ∧ Q (.int (Txt.countIn a b i j)) H
theorem MtR.or {id : String} {r r' : V → List V → Hp → VK → Prop} (h : MtR X id r) (h' : MtR X id r') : MtR X id (fun x xs H Q => r x xs H Q ∨ r' x xs H Q) :=
  fun pins s σ H x xs v us Q I rx rv q => q.elim (h pins s σ H x xs v us Q I rx rv) (h' pins s σ H x xs v us Q I rx rv)
theorem mCnt : MtR X "str.count" rCnt := MtR.or mt_count mt_count4
theorem Views.three {F H : Hp} {vs : List V} {d d' d'' : PyData} (h : Views K F H vs [d, d', d'']) : ∃ v w u, vs = [v, w, u] ∧ View K F H v d ∧ View K F H w d' ∧ View K F H u d'' := by
  obtain ⟨v, ws, rfl, a, b⟩ := h.cons'
  obtain ⟨w, u, rfl, b', c'⟩ := b.two
  exact ⟨v, w, u, rfl, a, b', c'⟩
theorem dCnt : DMeth K "str" rCnt fCnt := by
  intro F H v vs d ds Qd k s hv hvs h kk
  unfold fCnt at h
  split at h
  · split at h
    · rename_i c e
      obtain ⟨w, rfl, h1⟩ := hvs.one
      rw [hv.str, h1.str, one_sign e]
      exact .inl ⟨_, _, rfl, rfl, by rw [count_sign]; exact kk _ _ _ _ (.refl s) (.int _) h⟩
    · exact h.elim
  · split at h
    · rename_i c e
      obtain ⟨w, w2, w3, rfl, h1, h2, h3⟩ := hvs.three
      rw [hv.str, h1.str, h2.int, h3.int, one_sign e]
      exact .inr ⟨_, _, _, _, rfl, rfl, by rw [countIn_sign]; exact kk _ _ _ _ (.refl s) (.int _) h⟩
    · exact h.elim
  · exact h.elim
/-! s.index(c) -/
def fIdx : DFM := fun d ds Q => match d, ds with
  | .str s, [.str t] => match t.cps.toList with
    | [c] => c ∈ s.cps.toList ∧ Q (.int ((s.cps.toList.idxOf c : Nat)))
    | _ => False
  | _, _ => False
abbrev rIdxS : V → List V → Hp → VK → Prop := fun x xs H Q => ∃ (a b : Str) (i : Nat) (rest : List Nat), x = .str a ∧ xs = [.str b] ∧ Builtin.Str.occurrences a b 0 a.length 1 = i :: rest ∧ Q (.int i) H
theorem mt_indexS : MtR X "str.index" rIdxS := by
  intro pins s σ H x xs v us Q I rx rxs h
  obtain ⟨a, b, i, rest, rfl, rfl, e, q⟩ := h
  obtain ⟨t, rfl⟩ := rx
  obtain ⟨u, rfl, ru⟩ := vals1 rxs
  obtain ⟨t', rfl⟩ := ru
  exact call_gives PySem.F.slot_str_index (typeIs_str _ _ _) PySem.F.entry_str_index (PySem.F.args_str_index_2 _ _) (gives_str_index a b t t' i rest e) ⟨.int i, H, I.tok _, ⟨_, rfl⟩, q⟩
theorem dIdx : DMeth K "str" rIdxS fIdx := by
  intro F H v vs d ds Qd k s hv hvs h kk
  unfold fIdx at h
  split at h
  · split at h
    · rename_i c e
      obtain ⟨w, rfl, h1⟩ := hvs.one
      rw [hv.str, h1.str, one_sign e]
      obtain ⟨r, hr⟩ := index_sign _ _ h.1
      exact ⟨_, _, _, r, rfl, rfl, hr, kk _ _ _ _ (.refl s) (.int _) h.2⟩
    · exact h.elim
  · exact h.elim
/-! sep.join(list of texts) -/
def joinL (sep : List Nat) : List (List Nat) → List Nat
  | [] => []
  | [x] => x
  | x :: rest => x ++ sep ++ joinL sep rest
theorem join_eq (sep : Str) : ∀ ys : List Str, Txt.join sep ys = S (joinL sep.cps.toList (ys.map fun y => y.cps.toList)) := by
  have key : ∀ ys : List Str, Str.join sep ys = S (joinL sep.cps.toList (ys.map fun y => y.cps.toList)) := by
    intro ys
    induction ys with
    | nil => rfl
    | cons x rest ih =>
      cases rest with
      | nil => rfl
      | cons y rest =>
        show (x ++ sep) ++ Str.join sep (y :: rest) = _
        rw [ih, S_app, S_app]
        rfl
  intro ys
  show Builtin.Str.glued sep ys = _
  rw [StrLaws.glued_eq_join]
  exact key ys
def fJoin : DFM := fun d ds Q => match d, ds with
  | .str s, [.list l] => match strsOf l with
    | some ss => (ss.map (fun y => y.cps.toList.length)).sum + ss.length * s.cps.toList.length ≤ 16777216 ∧ Q (.str (S (joinL s.cps.toList (ss.map fun y => y.cps.toList))))
    | none => False
  | _, _ => False
abbrev rJn (K : PySem.W.Frag) : V → List V → Hp → VK → Prop := fun x xs H Q => ∃ a p, ∃ ys : List Str, x = .str a ∧ xs = [.ref p] ∧ (SqL K H p (ys.map V.str) ∨ SqT K H p (ys.map V.str)) ∧
    (ys.map (·.length)).sum + ys.length * a.length ≤ 16777216 ∧ Q (.str (Txt.join a ys)) H
theorem dJoin : DMeth K "str" (rJn K) fJoin := by
  intro F H v vs d ds Qd k s hv hvs h kk
  unfold fJoin at h
  split at h
  · split at h
    · rename_i ss e
      obtain ⟨w, rfl, h1⟩ := hvs.one
      obtain ⟨p, rfl, hp⟩ := h1.strs s e
      rw [hv.str]
      refine ⟨_, p, ss, rfl, rfl, .inl (SqL.of hp), ?_, by rw [join_eq]; exact kk _ _ _ _ (.refl s) (.str _) h.2⟩
      have : ss.map (·.length) = ss.map (fun y => y.cps.toList.length) := List.map_congr_left fun y _ => strLen y
      rw [this, strLen]
      exact h.1
    · exact h.elim
  · exact h.elim
/-! len(set(list of tuples of ints)) -/
def tupsOf : List PyData → Option (List (List Int))
  | [] => some []
  | .tuple t :: r => match intsOf t, tupsOf r with
    | some ns, some ts => some (ns :: ts)
    | _, _ => none
  | _ :: _ => none
theorem tupsOf_map : ∀ ts : List (List Int), tupsOf (ts.map fun t => .tuple (t.map PyData.int)) = some ts
  | [] => rfl
  | t :: ts => by rw [List.map_cons, tupsOf, intsOf_map, tupsOf_map ts]
theorem sub_len {α : Type} [DecidableEq α] : ∀ (l m : List α), l.Nodup → (∀ x ∈ l, x ∈ m) → l.length ≤ m.length
  | [], m, _, _ => Nat.zero_le _
  | a :: l, m, hn, hs => by
    have h1 := List.nodup_cons.mp hn
    have ha : a ∈ m := hs a List.mem_cons_self
    have := sub_len l (m.erase a) h1.2 fun x hx => by
      have : x ≠ a := fun z => h1.1 (z ▸ hx)
      exact (List.mem_erase_of_ne this).mpr (hs x (List.mem_cons_of_mem _ hx))
    rw [List.length_erase_of_mem ha] at this
    have hp : 0 < m.length := List.length_pos_of_mem ha
    simp only [List.length_cons]
    omega
def distinct {α : Type} [DecidableEq α] : List α → List α
  | [] => []
  | a :: l => if a ∈ l then distinct l else a :: distinct l
theorem mem_distinct {α : Type} [DecidableEq α] {x : α} : ∀ {l : List α}, x ∈ distinct l ↔ x ∈ l
  | [] => by simp [distinct]
  | a :: l => by
    unfold distinct
    split
    · rename_i h
      rw [mem_distinct (l := l), List.mem_cons]
      constructor
      · exact .inr
      · rintro (rfl | h2)
        · exact h
        · exact h2
    · rw [List.mem_cons, List.mem_cons, mem_distinct (l := l)]
theorem nodup_distinct {α : Type} [DecidableEq α] : ∀ l : List α, (distinct l).Nodup
  | [] => List.nodup_nil
  | a :: l => by
    unfold distinct
    split
    · exact nodup_distinct l
    · rename_i h
      exact List.nodup_cons.mpr ⟨fun z => h (mem_distinct.mp z), nodup_distinct l⟩
def wLenSet (oa : WO) : WE := fun xn M Q => oa xn M fun x M1 => match x.get M1 with
  | some (.list l) => match tupsOf l with
    | some ts => ts.length < 64 ∧ Q (.int ((distinct ts).length : Nat)) M1
    | none => False
  | _ => False
theorem tups_refs {F H : Hp} (s : Same F H) : ∀ {l : List PyData} {vs : List V} {ts : List (List Int)}, DVs K F vs l → tupsOf l = some ts → ∃ ks : List (Addr × List Int), vs = ks.map (fun p => V.ref p.1) ∧ ts = ks.map (·.2) ∧ ∀ p ∈ ks, SqT K H p.1 (p.2.map V.int)
  | [], _, ts, .nil, h => by cases h; exact ⟨[], rfl, rfl, fun _ z => nomatch z⟩
  | .tuple t :: r, _, ts, .cons (.tup h1 h2) q, h => by
    unfold tupsOf at h
    split at h
    · rename_i ns ts' e1 e2
      cases h
      obtain ⟨ks, e3, e4, e5⟩ := tups_refs s q e2
      rw [intsOf_eq e1] at h2
      rw [h2.ints] at h1
      refine ⟨(_, ns) :: ks, by rw [e3]; rfl, by rw [e4]; rfl, fun p hp => ?_⟩
      rcases List.mem_cons.mp hp with rfl | hp
      · exact SqT.of (s _ _ h1)
      · exact e5 p hp
    · cases h
theorem dE_lenset {p p2 q pos : Pos} (hc : X.calm = true) (hu : X.A.units + 64 < cLine) (hg : Gl X "len") (hm : X.mg "len" = none) (hg2 : Gl X "set") (hm2 : X.mg "set" = none) (ha : DO X R a oa)
    (hs1 : starEach [a] X.env = [(false, eval a X.env)] := by rfl) (hs2 : starEach [.Call (.Name "set" p2) [a] [] q] X.env = [(false, eval (.Call (.Name "set" p2) [a] [] q) X.env)] := by rfl) : DE X R (.Call (.Name "len" p) [.Call (.Name "set" p2) [a] [] q] [] pos) (wLenSet oa) := by
  obtain ⟨t, pp, qq⟩ := ha.ex
  refine ⟨_, pe_callB call_lenTO hg hm boot_len (pa_cons (pe_callTy (cr_setOfT hc hu) hg2 hm2 boot_set (pa_cons pp pa_nil hs1) (by decide) (by decide) hs1 rfl) pa_nil hs2) (by decide) (by decide) hs2 rfl, fun r l hw kk => qq r l hw fun v x M1 F1 H1 s1 r1 hx y => ?_⟩
  split at y
  · rename_i l e
    split at y
    · rename_i ts e2
      obtain ⟨p, vs, rfl, a1, a2⟩ := (r1.opd hx e).list r1.sub
      obtain ⟨ks, rfl, rfl, h3⟩ := tups_refs r1.sub a2 e2
      refine ⟨p, ks, rfl, SqL.of a1, h3, by simpa using y.1, fun b L hb hL1 hL2 => ?_⟩
      refine ⟨b, L, rfl, upd_same, fun nd => ?_⟩
      have e3 : L.length = (distinct (ks.map (·.2))).length := by
        have h1 : (L.map (·.2)).length ≤ (distinct (ks.map (·.2))).length := sub_len _ _ nd fun z hz => by
          obtain ⟨p, hp, rfl⟩ := List.mem_map.mp hz
          exact mem_distinct.mpr (List.mem_map.mpr ⟨p, hL1 p hp, rfl⟩)
        have h2 : (distinct (ks.map (·.2))).length ≤ (L.map (·.2)).length := sub_len _ _ (nodup_distinct _) fun z hz => by
          obtain ⟨p, hp, rfl⟩ := List.mem_map.mp (mem_distinct.mp hz)
          exact hL2 p hp
        rw [List.length_map] at h1 h2
        omega
      rw [e3]
      exact kk _ _ _ _ _ s1 (r1.grow (Grow.new r1.sub hb)) (.int _) y.2
    · exact y.elim
  · exact y.elim

/-! dicts: keys ints and texts, or tuples of such -/
def kEq1 : PyData → PyData → Bool
  | .int i, .int j => decide (i = j)
  | .str a, .str b => decide (a = b)
  | _, _ => false
def kEqs : List PyData → List PyData → Bool
  | [], [] => true
  | a :: l, b :: m => kEq1 a b && kEqs l m
  | _, _ => false
def kEq : PyData → PyData → Bool
  | .tuple l, .tuple m => kEqs l m
  | a, b => kEq1 a b
theorem kEq1_kD (a b : Key) : kEq1 (kD a) (kD b) = decide (a = b) := by
  cases a <;> cases b <;> simp [kD, kEq1]
theorem kEqs_kD : ∀ a b : List Key, kEqs (a.map kD) (b.map kD) = decide (a = b)
  | [], [] => by simp [kEqs]
  | [], _ :: _ => by simp [kEqs]
  | _ :: _, [] => by simp [kEqs]
  | a :: l, b :: m => by
    rw [List.map_cons, List.map_cons, kEqs, kEq1_kD, kEqs_kD l m]
    simp
theorem kEq_kD (a b : Key) : kEq (kD a) (kD b) = decide (a = b) := by
  rw [← kEq1_kD]
  cases a <;> cases b <;> rfl
theorem kEq_tD (a b : List Key) : kEq (.tuple (a.map kD)) (.tuple (b.map kD)) = decide (a = b) := kEqs_kD a b
def dlook (kvs : List (PyData × PyData)) (k : PyData) : Option PyData := (kvs.find? fun kv => kEq kv.1 k).map (·.2)
def dput (kvs : List (PyData × PyData)) (k v : PyData) : List (PyData × PyData) :=
  if (kvs.any fun kv => kEq kv.1 k) = true then kvs.map (fun kv => if kEq kv.1 k = true then (kv.1, v) else kv) else kvs ++ [(k, v)]
/-- an abstract dict and its data -/
theorem look_run {α : Type} [DecidableEq α] {F : Hp} {kd : α → PyData} (hk : ∀ a b, kEq (kd a) (kd b) = decide (a = b)) {k : α} : ∀ {ks : List (α × V)} {kvs : List (PyData × PyData)}, kvs.map (·.1) = ks.map (fun p => kd p.1) → DVs K F (ks.map (·.2)) (kvs.map (·.2)) →
    (valV ks k = none ∧ dlook kvs (kd k) = none) ∨ ∃ v d, valV ks k = some v ∧ dlook kvs (kd k) = some d ∧ DV K F v d
  | [], [], _, _ => .inl ⟨rfl, rfl⟩
  | [], _ :: _, h, _ => by simp at h
  | _ :: _, [], h, _ => by simp at h
  | (a, v) :: ks, (d, e) :: kvs, h, .cons r q => by
    simp only [List.map_cons, List.cons.injEq] at h
    have hd : d = kd a := h.1
    have e1 : dlook ((d, e) :: kvs) (kd k) = if a = k then some e else dlook kvs (kd k) := by
      unfold dlook
      rw [List.find?_cons]
      simp only [hd, hk]
      by_cases z : a = k <;> simp [z]
    have e2 : valV ((a, v) :: ks) k = if a = k then some v else valV ks k := by
      unfold valV
      rw [List.find?_cons]
      by_cases z : a = k <;> simp [z]
    rw [e1, e2]
    by_cases z : a = k
    · rw [if_pos z, if_pos z]
      exact .inr ⟨v, e, rfl, rfl, r⟩
    · rw [if_neg z, if_neg z]
      exact look_run hk h.2 q
theorem put_run {α : Type} [DecidableEq α] {F : Hp} {kd : α → PyData} (hk : ∀ a b, kEq (kd a) (kd b) = decide (a = b)) {k : α} {v : V} {d : PyData} {ks : List (α × V)} {kvs : List (PyData × PyData)} (h : kvs.map (·.1) = ks.map (fun p => kd p.1)) (hd : DVs K F (ks.map (·.2)) (kvs.map (·.2))) (hv : DV K F v d) :
    (dput kvs (kd k) d).map (·.1) = (putK ks k v).map (fun p => kd p.1) ∧ DVs K F ((putK ks k v).map (·.2)) ((dput kvs (kd k) d).map (·.2)) ∧ (putK ks k v).length ≤ ks.length + 1 := by
  have any_eq : ∀ {ks : List (α × V)} {kvs : List (PyData × PyData)}, kvs.map (·.1) = ks.map (fun p => kd p.1) → (kvs.any fun kv => kEq kv.1 (kd k)) = ks.any fun kv => decide (kv.1 = k) := by
    intro ks
    induction ks with
    | nil => intro kvs h; cases kvs <;> simp at h ⊢
    | cons p ks ih =>
      intro kvs h
      cases kvs with
      | nil => simp at h
      | cons q kvs =>
        simp only [List.map_cons, List.cons.injEq] at h
        rw [List.any_cons, List.any_cons, ih h.2, h.1, hk]
  unfold dput putK
  rw [any_eq h]
  split
  · refine ⟨?_, ?_, by simp⟩
    · rw [List.map_map, List.map_map]
      have e1 : ((fun kv : PyData × PyData => kv.1) ∘ fun kv => if kEq kv.1 (kd k) = true then (kv.1, d) else kv) = fun kv => kv.1 := by
        funext kv; simp only [Function.comp]; split <;> rfl
      have e2 : ((fun p : α × V => kd p.1) ∘ fun kv => if kv.1 = k then (kv.1, v) else kv) = fun p => kd p.1 := by
        funext kv; simp only [Function.comp]; split <;> rfl
      rw [e1, e2, h]
    · rename_i hany; clear any_eq hany
      induction ks generalizing kvs with
      | nil => cases kvs with
        | nil => exact .nil
        | cons _ _ => simp at h
      | cons p ks ih =>
        cases kvs with
        | nil => simp at h
        | cons q kvs =>
          simp only [List.map_cons, List.cons.injEq] at h
          cases hd with
          | cons r q2 =>
            simp only [List.map_cons]
            refine .cons ?_ (ih h.2 q2)
            rw [h.1, hk]
            by_cases z : p.1 = k
            · simp only [z, decide_true, if_true]; exact hv
            · simp only [z, decide_false, if_false]; simpa using r
  · refine ⟨?_, ?_, by simp⟩
    · rw [List.map_append, List.map_append, h]; rfl
    · rw [List.map_append, List.map_append]; exact hd.app (.cons hv .nil)
/-- a key as the dict at hand wants it: kvs begins with a mark where keys are tuples -/
def keyFits (kvs : List (PyData × PyData)) (k : PyData) : Bool := match kvs, k with
  | (.none, _) :: _, .tuple ds => ds.all fun d => match d with
    | .int _ | .str _ => true
    | _ => false
  | (.none, _) :: _, _ => false
  | _, .int _ => true
  | _, .str _ => true
  | _, _ => false
theorem keys_of : ∀ {ds : List PyData}, (ds.all fun d => match d with
    | .int _ | .str _ => true
    | _ => false) = true → ∃ ks : List Key, ds = ks.map kD
  | [], _ => ⟨[], rfl⟩
  | .int i :: r, h => by
    obtain ⟨ks, e⟩ := keys_of (ds := r) (by simpa using h)
    exact ⟨.inl i :: ks, by rw [e]; rfl⟩
  | .str i :: r, h => by
    obtain ⟨ks, e⟩ := keys_of (ds := r) (by simpa using h)
    exact ⟨.inr i :: ks, by rw [e]; rfl⟩
  | .none :: _, h => by simp at h
  | .bool _ :: _, h => by simp at h
  | .list _ :: _, h => by simp at h
  | .tuple _ :: _, h => by simp at h
  | .dict _ :: _, h => by simp at h
theorem keys_vals {F : Hp} : ∀ {ks : List Key} {vs : List V}, DVs K F vs (ks.map kD) → vs = ks.map kV
  | [], _, .nil => rfl
  | .inl i :: ks, _, .cons (.int _) q => by rw [keys_vals q]; rfl
  | .inr i :: ks, _, .cons (.str _) q => by rw [keys_vals q]; rfl
/-- a dict that is seen, asked -/
theorem View.dget {F H : Hp} {v w : V} {kvs : List (PyData × PyData)} {k : PyData} (s : Same F H) (hd : View K F H v (.dict kvs)) (hk : View K F H w k) (fit : keyFits kvs k = true) :
    ∃ a o, v = .ref a ∧ IsD H a ∧ DGet H a w o ∧ ((o = none ∧ dlook (dpairs kvs) k = none) ∨ ∃ x d, o = some x ∧ dlook (dpairs kvs) k = some d ∧ DV K F x d) := by
  have goK : ∀ {a : Addr} {ks : List (Key × V)} {kvs : List (PyData × PyData)}, Rd H a (.dK ks) → kvs.map (·.1) = ks.map (fun p => kD p.1) → DVs K F (ks.map (·.2)) (kvs.map (·.2)) → keyFits kvs k = true →
      ∃ o, IsD H a ∧ DGet H a w o ∧ ((o = none ∧ dlook (dpairs kvs) k = none) ∨ ∃ x d, o = some x ∧ dlook (dpairs kvs) k = some d ∧ DV K F x d) := by
    intro a ks kvs r e q fit
    have key : ∃ kk : Key, k = kD kk := by
      unfold keyFits at fit
      split at fit
      · exfalso
        cases ks with
        | nil => simp at e
        | cons p _ => obtain ⟨z, _⟩ := p; cases z <;> simp [kD] at e
      · cases fit
      · exact ⟨.inl _, rfl⟩
      · exact ⟨.inr _, rfl⟩
      · cases fit
    obtain ⟨kk, rfl⟩ := key
    have hw : w = kV kk := by cases kk with
      | inl i => exact hk.int
      | inr x => exact hk.str
    refine ⟨valV ks kk, .inl ⟨_, r⟩, .inl ⟨ks, kk, r, hw, rfl⟩, ?_⟩
    rw [dpairs_k e]
    rcases look_run (K := K) kEq_kD (k := kk) e q with z | ⟨v, d, z1, z2, z3⟩
    · exact .inl z
    · exact .inr ⟨v, d, z1, z2, z3⟩
  have goT : ∀ {a : Addr} {ks : List (List Key × V)} {kvs : List (PyData × PyData)}, Rd H a (.dT ks) → kvs.map (·.1) = ks.map (fun p => .tuple (p.1.map kD)) → DVs K F (ks.map (·.2)) (kvs.map (·.2)) → keyFits ((.none, .none) :: kvs) k = true →
      ∃ o, IsD H a ∧ DGet H a w o ∧ ((o = none ∧ dlook kvs k = none) ∨ ∃ x d, o = some x ∧ dlook kvs k = some d ∧ DV K F x d) := by
    intro a ks kvs r e q fit
    have key : ∃ kk : List Key, k = .tuple (kk.map kD) := by
      cases k with
      | tuple ds => obtain ⟨kk, rfl⟩ := keys_of (show _ = true from fit); exact ⟨kk, rfl⟩
      | _ => cases fit
    obtain ⟨kk, rfl⟩ := key
    obtain ⟨b, vs, rfl, hb, hvs⟩ := hk.tupP s
    rw [keys_vals hvs] at hb
    refine ⟨valV ks kk, .inr ⟨_, r⟩, .inr ⟨ks, kk, b, r, rfl, hb, rfl⟩, ?_⟩
    rcases look_run (K := K) (kd := fun z => .tuple (z.map kD)) kEq_tD (k := kk) e q with z | ⟨v, d, z1, z2, z3⟩
    · exact .inl z
    · exact .inr ⟨v, d, z1, z2, z3⟩
  rcases hd with hd | ⟨p, rfl, hd⟩
  · cases hd with
    | dic r e q => obtain ⟨o, h1, h2, h3⟩ := goK (sameRd s r) e q fit; exact ⟨_, o, rfl, h1, h2, h3⟩
    | dit r e q => obtain ⟨o, h1, h2, h3⟩ := goT (sameRd s r) e q fit; exact ⟨_, o, rfl, h1, h2, h3⟩
  · cases hd with
    | dic r e q => obtain ⟨o, h1, h2, h3⟩ := goK (.inl r) e q fit; exact ⟨_, o, rfl, h1, h2, h3⟩
    | dit r e q => obtain ⟨o, h1, h2, h3⟩ := goT (.inl r) e q fit; exact ⟨_, o, rfl, h1, h2, h3⟩
/-! k in d, d[k], d.get(k), d.get(k, x) -/
def askD (x y : Opd) (M : Mem) (P : Option PyData → Prop) : Prop := match x.get M, y.get M with
  | some (.dict kvs), some k => keyFits kvs k = true ∧ P (dlook (dpairs kvs) k)
  | _, _ => False
def wDGet (oa ob : WO) : WE := fun xn M Q => oa xn M fun x M1 => ob xn M1 fun y M2 => askD x y M2 fun o => match o with
  | some d => Q d M2
  | none => False
theorem dE_dget (hu : X.A.units + 1 < cLine) (ha : DO X R a oa) (hb : DO X R b ob) (hs : NoSl b := by exact fun _ _ => rfl) : DE X R (.Subscript a b pos) (wDGet oa ob) := by
  obtain ⟨t1, p1, q1⟩ := ha.ex
  obtain ⟨t2, p2, q2⟩ := hb.ex
  refine ⟨_, pe_dget hu p1 p2 hs, fun r l hw kk => ?_⟩
  refine q1 r l hw fun vx x M1 F1 H1 s1 r1 hx z1 => q2 r1 l z1 fun vy y M2 F2 H2 s2 r2 hy z2 => ?_
  unfold askD at z2
  split at z2
  · rename_i kvs k e1 e2
    obtain ⟨a, o, rfl, h1, h2, h3⟩ := (r2.opd (hx.same s2) e1).dget r2.sub (r2.opd hy e2) z2.1
    rcases h3 with ⟨rfl, h4⟩ | ⟨v, d, rfl, h4, h5⟩
    · rw [h4] at z2; exact z2.2.elim
    · rw [h4] at z2
      exact ⟨a, v, rfl, h2, kk _ _ _ _ _ (s1.trans s2) r2 h5 z2.2⟩
  · exact z2.elim
def wDIn (oa ob : WO) : WE := fun xn M Q => oa xn M fun y M1 => ob xn M1 fun x M2 => askD x y M2 fun o => Q (.bool o.isSome) M2
def wDNotIn (oa ob : WO) : WE := fun xn M Q => oa xn M fun y M1 => ob xn M1 fun x M2 => askD x y M2 fun o => Q (.bool (!o.isSome)) M2
theorem dE_din (hu : X.A.units + 1 < cLine) (ha : DO X R a oa) (hb : DO X R b ob) (hm : behindInMarks .In b = false := by first | rfl | with_unfolding_all rfl) : DE X R (.Compare a [.In] [b] pos) (wDIn oa ob) := by
  obtain ⟨t1, p1, q1⟩ := ha.ex
  obtain ⟨t2, p2, q2⟩ := hb.ex
  refine ⟨_, pe_cmp (pc_din hu p1 p2) hm, fun r l hw kk => ?_⟩
  refine q1 r l hw fun vy y M1 F1 H1 s1 r1 hy z1 => q2 r1 l z1 fun vx x M2 F2 H2 s2 r2 hx z2 => ?_
  unfold askD at z2
  split at z2
  · rename_i kvs k e1 e2
    obtain ⟨a, o, rfl, h1, h2, h3⟩ := (r2.opd hx e1).dget r2.sub (r2.opd (hy.same s2) e2) z2.1
    refine ⟨a, o, rfl, h2, ?_⟩
    rcases h3 with ⟨rfl, h4⟩ | ⟨v, d, rfl, h4, h5⟩
    · rw [h4] at z2; exact kk _ _ _ _ _ (s1.trans s2) r2 (.bl _) z2.2
    · rw [h4] at z2; exact kk _ _ _ _ _ (s1.trans s2) r2 (.bl _) z2.2
  · exact z2.elim
theorem dE_dnotin (hu : X.A.units + 1 < cLine) (ha : DO X R a oa) (hb : DO X R b ob) (hm : behindInMarks .NotIn b = false := by first | rfl | with_unfolding_all rfl) : DE X R (.Compare a [.NotIn] [b] pos) (wDNotIn oa ob) := by
  obtain ⟨t1, p1, q1⟩ := ha.ex
  obtain ⟨t2, p2, q2⟩ := hb.ex
  refine ⟨_, pe_cmp (pc_dnotin hu p1 p2) hm, fun r l hw kk => ?_⟩
  refine q1 r l hw fun vy y M1 F1 H1 s1 r1 hy z1 => q2 r1 l z1 fun vx x M2 F2 H2 s2 r2 hx z2 => ?_
  unfold askD at z2
  split at z2
  · rename_i kvs k e1 e2
    obtain ⟨a, o, rfl, h1, h2, h3⟩ := (r2.opd hx e1).dget r2.sub (r2.opd (hy.same s2) e2) z2.1
    refine ⟨a, o, rfl, h2, ?_⟩
    rcases h3 with ⟨rfl, h4⟩ | ⟨v, d, rfl, h4, h5⟩
    · rw [h4] at z2; exact kk _ _ _ _ _ (s1.trans s2) r2 (.bl _) z2.2
    · rw [h4] at z2; exact kk _ _ _ _ _ (s1.trans s2) r2 (.bl _) z2.2
  · exact z2.elim
def wDG2 (oa ob : WO) (wc : WE) : WE := fun xn M Q => oa xn M fun x M1 => (∃ kvs, x.get M1 = some (.dict kvs)) ∧ ob xn M1 fun y M2 => wc xn M2 fun dd M3 => askD x y M3 fun o => Q (o.getD dd) M3
def wDG1 (oa ob : WO) : WE := fun xn M Q => oa xn M fun x M1 => (∃ kvs, x.get M1 = some (.dict kvs)) ∧ ob xn M1 fun y M2 => askD x y M2 fun o => Q (o.getD .none) M2
theorem View.isD {F H : Hp} {v : V} {kvs : List (PyData × PyData)} (s : Same F H) (hd : View K F H v (.dict kvs)) : ∃ a, v = .ref a ∧ IsD H a := by
  rcases hd with hd | ⟨p, rfl, hd⟩
  · cases hd with
    | dic r e q => exact ⟨_, rfl, .inl ⟨_, sameRd s r⟩⟩
    | dit r e q => exact ⟨_, rfl, .inr ⟨_, sameRd s r⟩⟩
  · cases hd with
    | dic r e q => exact ⟨_, rfl, .inl ⟨_, .inl r⟩⟩
    | dit r e q => exact ⟨_, rfl, .inr ⟨_, .inl r⟩⟩
theorem dE_dg2 {apos : Pos} (hu : X.A.units + 1 < cLine) (ha : DO X R a oa) (hb : DO X R b ob) (hc : DE X R c wc) (m : M2 X a "get" apos b c pos) : DE X R (.Call (.Attribute a "get" apos) [b, c] [] pos) (wDG2 oa ob wc) := by
  obtain ⟨t1, p1, q1⟩ := ha.ex
  obtain ⟨t2, p2, q2⟩ := hb.ex
  obtain ⟨t3, p3, q3⟩ := hc.ex
  refine ⟨_, pe_dget2 hu p1 p2 p3 m, fun r l hw kk => ?_⟩
  refine q1 r l hw fun vx x M1 F1 H1 s1 r1 hx z1 => ?_
  obtain ⟨⟨kv0, e0⟩, z1⟩ := z1
  obtain ⟨a, rfl, hD⟩ := (r1.opd hx e0).isD r1.sub
  refine ⟨a, rfl, hD, q2 r1 l z1 fun vy y M2 F2 H2 s2 r2 hy z2 => q3 r2 l z2 fun vz dz M3 F3 H3 s3 r3 hz z3 => ?_⟩
  unfold askD at z3
  split at z3
  · rename_i kvs k e1 e2
    obtain ⟨a', o, ea, h1, h2, h3⟩ := (r3.opd ((hx.same s2).same s3) e1).dget r3.sub (r3.opd (hy.same s3) e2) z3.1
    cases ea
    refine ⟨o, h2, ?_⟩
    rcases h3 with ⟨rfl, h4⟩ | ⟨v, d, rfl, h4, h5⟩
    · rw [h4] at z3; exact kk _ _ _ _ _ (s1.trans (s2.trans s3)) r3 hz z3.2
    · rw [h4] at z3; exact kk _ _ _ _ _ (s1.trans (s2.trans s3)) r3 h5 z3.2
  · exact z3.elim
theorem dE_dg1 {apos : Pos} (hu : X.A.units + 1 < cLine) (ha : DO X R a oa) (hb : DO X R b ob) (m : M1 X a "get" apos b pos) : DE X R (.Call (.Attribute a "get" apos) [b] [] pos) (wDG1 oa ob) := by
  obtain ⟨t1, p1, q1⟩ := ha.ex
  obtain ⟨t2, p2, q2⟩ := hb.ex
  refine ⟨_, pe_dget1 hu p1 p2 m, fun r l hw kk => ?_⟩
  refine q1 r l hw fun vx x M1 F1 H1 s1 r1 hx z1 => ?_
  obtain ⟨⟨kv0, e0⟩, z1⟩ := z1
  obtain ⟨a, rfl, hD⟩ := (r1.opd hx e0).isD r1.sub
  refine ⟨a, rfl, hD, q2 r1 l z1 fun vy y M3 F3 H3 s3 r3 hy z3 => ?_⟩
  unfold askD at z3
  split at z3
  · rename_i kvs k e1 e2
    obtain ⟨a', o, ea, h1, h2, h3⟩ := (r3.opd (hx.same s3) e1).dget r3.sub (r3.opd hy e2) z3.1
    cases ea
    refine ⟨o, h2, ?_⟩
    rcases h3 with ⟨rfl, h4⟩ | ⟨v, d, rfl, h4, h5⟩
    · rw [h4] at z3; exact kk _ _ _ _ _ (s1.trans s3) r3 .non z3.2
    · rw [h4] at z3; exact kk _ _ _ _ _ (s1.trans s3) r3 h5 z3.2
  · exact z3.elim
/-! d[k] = v, the dict a slot's own -/
/-- the dict with a key put in (its mark stays) -/
def dputM (kvs : List (PyData × PyData)) (k v : PyData) : List (PyData × PyData) := match kvs with
  | (.none, m) :: r => (.none, m) :: dput r k v
  | l => dput l k v
def uDPut (i : Nat) (wa : WE) (oa : WO) : WS := fun xn De M => wa xn M fun d M1 => (∃ kvs, M1.env[i]? = some (some (.ow (.dict kvs)))) ∧ oa xn M1 fun o M2 => match o.get M2, M2.env[i]? with
  | some k, some (some (.ow (.dict kvs))) => keyFits kvs k = true ∧ kvs.length < sizeLine ∧ De.nx (M2.set i (.ow (.dict (dputM kvs k d))))
  | _, _ => False
theorem dS_dput {i : Nat} {x : Str} {xp p2 : Pos} (hu : X.A.units + 1 < cLine) (h : DE X R e wa) (hi : DO X R a oa) (hN : X.N[i]? = some x := by rfl) (hv : Vis X.env.scope x := by first | exact Or.inl rfl | exact Or.inr (Or.inl rfl) | exact Or.inr (Or.inr rfl)) (hd : (x == ("__debug__" : Str)) = false := by decide)
    (hcd : (x == ("__classdict__" : Str)) = false := by decide) (hs : swapsWith e (some (.Subscript (.Name x xp) a p2)) pos.line X.env = pure false := by rfl) : DS X R (.Assign [.Subscript (.Name x xp) a p2] e pos) (uDPut i wa oa) := by
  obtain ⟨t, p, q⟩ := h.ex
  obtain ⟨t2, p2', q2⟩ := hi.ex
  refine ⟨_, ps_dput hu (pe_var (i := i) hN hv hd hcd) p2' p hs, fun {F0 H0 F H W M σ xn De D} r l hw E => ?_⟩
  refine q r l hw fun v d M1 F1 H1 s1 r1 dv z => ?_
  obtain ⟨⟨kv0, e0⟩, z⟩ := z
  obtain ⟨v0, g1, p0, rfl, _⟩ := r1.slt i _ e0
  refine ⟨.ref p0, g1, q2 r1 l z fun vi o M2 F2 H2 s2 r2 ho z2 => ?_⟩
  split at z2
  · rename_i k kvs eo e1
    obtain ⟨z3, z4, z5⟩ := z2
    obtain ⟨v1, g2, p1, rfl, ow, _⟩ := r2.slt i _ e1
    rw [g1] at g2
    cases g2
    have hk := r2.opd ho eo
    cases ow with
    | @dic ks _ r e q =>
      have key : ∃ kk : Key, k = kD kk := by
        unfold keyFits at z3
        split at z3
        · exfalso
          cases ks with
          | nil => simp at e
          | cons p _ => obtain ⟨z, _⟩ := p; cases z <;> simp [kD] at e
        · cases z3
        · exact ⟨.inl _, rfl⟩
        · exact ⟨.inr _, rfl⟩
        · cases z3
      obtain ⟨kk, rfl⟩ := key
      have hw : vi = kV kk := by cases kk with
        | inl i => exact hk.int
        | inr x => exact hk.str
      have em : dputM kvs (kD kk) d = dput kvs (kD kk) d := by
        unfold dputM
        split
        · exfalso
          cases ks with
          | nil => simp at e
          | cons p _ => obtain ⟨z, _⟩ := p; cases z <;> simp [kD] at e
        · rfl
      rw [em] at z5
      obtain ⟨a1, a2, a3⟩ := put_run (K := X.K) kEq_kD (k := kk) e q (dv.same s2)
      refine ⟨p0, _, rfl, .inl ⟨ks, kk, r, hw, by rw [q.len']; exact z4, rfl⟩, ?_⟩
      exact E.nx _ _ _ _ (s1.trans s2) (r2.writeOw e1 g1 (.dic upd_same a1 a2)) z5
    | @dit ks kvs r e q =>
      have key : ∃ kk : List Key, k = .tuple (kk.map kD) := by
        cases k with
        | tuple ds => obtain ⟨kk, rfl⟩ := keys_of (show _ = true from z3); exact ⟨kk, rfl⟩
        | _ => cases z3
      obtain ⟨kk, rfl⟩ := key
      obtain ⟨b, vs, rfl, hb, hvs⟩ := hk.tupP r2.sub
      rw [keys_vals hvs] at hb
      obtain ⟨a1, a2, a3⟩ := put_run (K := X.K) (kd := fun z => .tuple (z.map kD)) kEq_tD (k := kk) e q (dv.same s2)
      refine ⟨p0, _, rfl, .inr ⟨ks, kk, b, r, rfl, hb, by rw [q.len']; simp at z4; omega, rfl⟩, ?_⟩
      exact E.nx _ _ _ _ (s1.trans s2) (r2.writeOw e1 g1 (.dit upd_same a1 a2)) z5
  · exact z2.elim
end
end DL

/-! DL11: the script, the well, displays of dicts, repr. -/
namespace DL
open PySem PySem.Spec L2 PyProof.Rows
section
variable {X : Cx} {R : XP} {K : PySem.W.Frag} {e a b c tg iter : Expr} {es : List Expr} {pos : Pos} {wa wb wc : WE} {oa ob oc : WO} {ta tb : WT}
/-- what nobody holds stays so while an expression is reckoned beside it -/
theorem held {F0 H0 F H F' H' : Hp} {W : Option (Addr × Addr)} {M M' : Mem} {σ : List (Option V)} {p : Addr} {d : PyData} (r : Rel K F0 H0 W M σ F H) (f : Fresh K H0 W M σ F H p d) (n : Rel K F H W M' σ F' H') :
    Rel K F0 H0 W ⟨M.env, M'.wl⟩ σ F' H' ∧ Fresh K H0 W ⟨M.env, M'.wl⟩ σ F' H' p d ∧ H' p = H p := by
  have af := n.after
  obtain ⟨u, hu⟩ := f.at_.there
  have ha : H' p = some u := af.h _ _ hu f.nw
  refine ⟨r.of_after af n.wel, ⟨f.at_.move af.f (ha.trans hu.symm), ?_, f.n0, f.nw, f.ns⟩, ha.trans hu.symm⟩
  cases y : F' p with
  | none => rfl
  | some o =>
    rcases af.n p o y with t | t
    · rw [f.nf] at t; cases t
    · rw [hu] at t; cases t
/-- and may then be filled -/
theorem fillF {F0 H0 F H : Hp} {W : Option (Addr × Addr)} {M : Mem} {σ : List (Option V)} {p : Addr} {d d' : PyData} {o : HO} (r : Rel K F0 H0 W M σ F H) (f : Fresh K H0 W M σ F H p d) (ho : OwAt K F (upd H p o) p d') :
    Rel K F0 H0 W M σ F (upd H p o) ∧ Fresh K H0 W M σ F (upd H p o) p d' := by
  have nf := f.nf
  have nw := f.nw
  refine ⟨⟨fun b u e => ?_, fun b u e n => ?_, r.fol, r.fnw, r.len, fun j e hj => ?_, r.dis, ?_⟩, ho, nf, f.n0, nw, f.ns⟩
  · have : b ≠ p := fun z => by subst z; rw [nf] at e; cases e
    rw [upd_ne this]; exact r.sub _ _ e
  · have : b ≠ p := fun z => by subst z; rw [f.n0] at e; cases e
    rw [upd_ne this]; exact r.old _ _ e n
  · obtain ⟨v, h1, h2⟩ := r.slt j e hj
    refine ⟨v, h1, ?_⟩
    cases e with
    | im d => exact h2
    | wel => exact h2
    | scr ns => exact h2
    | ow d =>
      obtain ⟨q, rfl, a1, a2⟩ := h2
      have : q ≠ p := fun z => by subst z; exact f.ns j d hj h1
      exact ⟨q, rfl, a1.move (.refl _) (upd_ne this), a2⟩
    | ro d =>
      obtain ⟨q, rfl, a1, ⟨t, ht'⟩, a3⟩ := h2
      have : q ≠ p := fun z => by subst z; rw [f.n0] at ht'; cases ht'
      exact ⟨q, rfl, a1.move (.refl _) (upd_ne this), ⟨t, ht'⟩, a3⟩
  · have wl := r.wel
    cases W with
    | none => cases hm : M.wl <;> rw [hm] at wl <;> exact wl
    | some zz =>
      obtain ⟨q, t⟩ := zz
      cases hm : M.wl with
      | none => rw [hm] at wl; exact wl
      | some w2 =>
        rw [hm] at wl
        obtain ⟨a, b, c⟩ := wl
        have nq : q ≠ p := fun z => nw (by subst z; exact .inl rfl)
        have nt : t ≠ p := fun z => nw (by subst z; exact .inr rfl)
        exact ⟨⟨by rw [upd_ne nq]; exact a.dic, by rw [upd_ne nt]; exact a.lst, a.ne⟩, b, c⟩

/-! {k: v, ..} written, the keys ints and texts -/
abbrev WPs := Xn → Mem → (List (PyData × PyData) → Mem → Prop) → Prop
structure DPs (X : Cx) (R : XP) (pos : Pos) (ks : List (Option Expr)) (vs : List Expr) (w : WPs) : Prop where
  ex : ∃ trs : List (TE × TE), PPs X pos ks vs trs ∧ ∀ {F0 H0 F H : Hp} {W : Option (Addr × Addr)} {M : Mem} {σ : List (Option V)} {xn : Xn} {Q : List (PyData × PyData) → Mem → Prop} {k : List (V × V) → Hp → Prop}, Rel X.K F0 H0 W M σ F H → Lnk X.K R F0 H0 xn → w xn M Q →
    (∀ ps ds M' F' H', Same F F' → Rel X.K F0 H0 W M' σ F' H' → DVs X.K F' (ps.map (·.1)) (ds.map (·.1)) → DVs X.K F' (ps.map (·.2)) (ds.map (·.2)) → Q ds M' → k ps H') → tPairs trs σ H k
theorem dPs_n : DPs X R pos [] [] (fun _ M Q => Q [] M) := ⟨[], pps_nil, fun r _ hw kk => kk [] [] _ _ _ (.refl _) r .nil .nil hw⟩
theorem dPs_c {ks : List (Option Expr)} {vs : List Expr} {wp : WPs} (h1 : DE X R a wa) (h2 : DE X R b wb) (h3 : DPs X R pos ks vs wp) : DPs X R pos (some a :: ks) (b :: vs) (fun xn M Q => wa xn M fun d M1 => wb xn M1 fun e M2 => wp xn M2 fun ps M3 => Q ((d, e) :: ps) M3) := by
  obtain ⟨t1, p1, q1⟩ := h1.ex
  obtain ⟨t2, p2, q2⟩ := h2.ex
  obtain ⟨t3, p3, q3⟩ := h3.ex
  refine ⟨_, pps_cons p1 p2 p3, fun r l hw kk => q1 r l hw fun v d M1 F1 H1 s1 r1 dv z1 => q2 r1 l z1 fun v2 d2 M2 F2 H2 s2 r2 dv2 z2 => q3 r2 l z2 fun ps ds M3 F3 H3 s3 r3 e1 e2 z3 => ?_⟩
  exact kk ((v, v2) :: ps) ((d, d2) :: ds) _ _ _ (s1.trans (s2.trans s3)) r3 (.cons ((dv.same s2).same s3) e1) (.cons (dv2.same s3) e2) z3
def wDisp (wp : WPs) : WE := fun xn M Q => wp (fun _ _ => False) M.ro fun ds M' => ((ds.map (·.1)).all (fun d => match d with
    | .int _ | .str _ => true
    | _ => false) = true ∧ ds.length ≤ 15) ∧ Q (.dict (ds.foldl (fun acc kv => dput acc kv.1 kv.2) [])) ⟨M.env, M'.wl⟩
theorem merge_run {F : Hp} : ∀ {ks more : List (Key × V)} {kvs ds : List (PyData × PyData)}, kvs.map (·.1) = ks.map (fun p => kD p.1) → DVs K F (ks.map (·.2)) (kvs.map (·.2)) → ds.map (·.1) = more.map (fun p => kD p.1) → DVs K F (more.map (·.2)) (ds.map (·.2)) →
    (ds.foldl (fun acc kv => dput acc kv.1 kv.2) kvs).map (·.1) = (mergeK ks more).map (fun p => kD p.1) ∧ DVs K F ((mergeK ks more).map (·.2)) ((ds.foldl (fun acc kv => dput acc kv.1 kv.2) kvs).map (·.2))
  | ks, [], kvs, [], h1, h2, _, _ => ⟨h1, h2⟩
  | _, [], _, _ :: _, _, _, h, _ => by simp at h
  | _, _ :: _, _, [], _, _, h, _ => by simp at h
  | ks, p :: more, kvs, q :: ds, h1, h2, h3, h4 => by
    simp only [List.map_cons, List.cons.injEq] at h3
    cases h4 with
    | cons r4 q4 =>
      obtain ⟨a1, a2, _⟩ := put_run (K := K) kEq_kD (k := p.1) (v := p.2) (d := q.2) h1 h2 r4
      rw [← h3.1] at a1 a2
      exact merge_run (kvs := dput kvs q.1 q.2) (ks := putK ks p.1 p.2) a1 a2 h3.2 q4
theorem dF_disp {ks : List (Option Expr)} {vs : List Expr} {wp : WPs} (h : DPs X X0 pos ks vs wp) (hall : ks.all (·.isSome) = true) (hl : ks.length = vs.length) (h0 : ks ≠ []) (hk : ks.length ≤ 15) : DF X R (.Dict ks vs pos) (wDisp wp) := by
  obtain ⟨trs, p1, q1⟩ := h.ex
  refine ⟨_, pe_disp p1 hall hl h0 hk, fun {F0 H0 F H W M σ xn Q k} r l hw kk p hp => ?_⟩
  obtain ⟨r2, f2⟩ := r.isFresh (o := .dK []) (d := .dict []) hp (.dic upd_same rfl .nil)
  have lk : Lnk X.K X0 F (upd H p (.dK [])) (fun _ _ => False) := fun _ _ _ _ _ _ _ _ _ _ h => h.elim
  refine q1 r2.toRo lk hw fun ps ds M' F' H' s' r' e1 e2 z => ?_
  obtain ⟨r3, f3, h3⟩ := held r2 f2 r'
  refine ⟨h3.trans upd_same, ?_⟩
  obtain ⟨⟨z1, z2⟩, z3⟩ := z
  obtain ⟨kk2, e3⟩ := keys_of z1
  rw [e3] at e1
  have e4 := keys_vals e1
  have hlen : ps.length = kk2.length := by have := congrArg List.length e4; simpa using this
  refine ⟨kk2.zip (ps.map (·.2)), ?_, ?_, ?_⟩
  · apply List.ext_getElem
    · simp [hlen]
    · intro i h1 h2
      have := congrArg (fun l : List V => l[i]?) e4
      simp at h1 h2
      simp [List.getElem?_eq_getElem h1, List.getElem?_eq_getElem (show i < kk2.length by omega)] at this
      simp [← this]
  · have := e2.len
    simp at this
    simp [← hlen]
    omega
  · have hm := merge_run (K := X.K) (F := F') (ks := []) (kvs := []) (more := kk2.zip (ps.map (·.2))) (ds := ds) rfl .nil (by
      rw [e3]
      apply List.ext_getElem
      · simp [hlen]
      · intro i h1 h2
        simp at h1 h2
        simp) (by
      have : (kk2.zip (ps.map (·.2))).map (·.2) = ps.map (·.2) := by
        rw [List.map_snd_zip]
        simp [hlen]
      rw [this]
      exact e2)
    obtain ⟨r4, f4⟩ := fillF r3 f3 (o := .dK (mergeK [] (kk2.zip (ps.map (·.2))))) (.dic upd_same hm.1 hm.2)
    exact kk _ _ _ _ _ s' r4 f4 z3
/-! repr, where nothing is being shown -/
theorem noDict_flat : ∀ (d : PyData), flat d = true → d.hasDict = false
  | .none, _ => rfl
  | .bool _, _ => rfl
  | .int _, _ => rfl
  | .str _, _ => rfl
  | .list ds, h => by rw [PyData.hasDict]; exact noDict_flats ds (by simpa [flat] using h)
  | .tuple ds, h => by rw [PyData.hasDict]; exact noDict_flats ds (by simpa [flat] using h)
  | .dict _, h => by simp [flat] at h
where noDict_flats : ∀ (ds : List PyData), flats ds = true → PyData.hasDictAll ds = false
  | [], _ => rfl
  | d :: ds, h => by
    simp only [flats, Bool.and_eq_true] at h
    rw [PyData.hasDictAll, noDict_flat d h.1, noDict_flats ds h.2]
    rfl
def fRepr : DFN := fun ds Q => match ds with
  | [d] => (flat d = true ∧ d.showable = true ∧ d.depth ≤ 40 ∧ d.shown.length ≤ sizeLine) ∧ Q (.str d.shown)
  | _ => False
abbrev rRepr (K : PySem.W.Frag) : List V → Hp → VK → Prop := fun xs H Q => ∃ x d, xs = [x] ∧ Dp K H x d ∧ flat d = true ∧ d.showable = true ∧ d.depth ≤ 40 ∧ d.shown.length ≤ sizeLine ∧ Q (.str d.shown) H
theorem call_repr (hg : X.A.guards = some []) (hu : X.A.units + 64 < cLine) : CallR X (.builtin "repr") (rRepr X.K) := by
  intro pins s σ H xs us Q I r h
  obtain ⟨x, d, rfl, dp, fl, sh, de, sz, q⟩ := h
  obtain ⟨u, rfl, ru⟩ := vals1 r
  have fin : ∀ h' v tk, (∀ b o, s.heap.get? b = some o → h'.get? b = some o) → EP X pins σ Q (.str d.shown v) { s with heap := h', toks := tk } := fun h' v tk hk => ⟨.str d.shown, H, I.kept hk, ⟨_, rfl⟩, q⟩
  obtain ⟨as, rd⟩ := Dp.reads I d x u dp ru
  cases rd with
  | none => exact PySem.P.repr_of_none (fin _ _ _ fun _ _ e => e)
  | bool b => exact PySem.P.repr_of_bool (fin _ _ _ fun _ _ e => e)
  | int i t => exact PySem.P.repr_of_int (by simpa [PyData.showable] using sh) (fin _ _ _ fun _ _ e => e)
  | str y t => exact PySem.P.repr_of_str (fin _ _ _ fun _ _ e => e) sz
  | list h1 h2 h3 h4 => exact repr_of_reads' (.list h1 h2 h3 h4) sh (PyData.noDict_hsm (noDict_flat _ fl)) hg (by omega) (fun _ _ e => e) fin sz
  | tuple h1 h2 h3 h4 => exact repr_of_reads' (.tuple h1 h2 h3 h4) sh (PyData.noDict_hsm (noDict_flat _ fl)) hg (by omega) (fun _ _ e => e) fin sz
  | dict h1 h2 h3 h4 h5 => simp [flat] at fl
theorem dRepr : DCall K (rRepr K) fRepr := by
  intro F H vs ds Qd k s hv h kk
  unfold fRepr at h
  split at h
  · obtain ⟨v, rfl, h1⟩ := hv.one
    obtain ⟨⟨a1, a2, a3, a4⟩, h⟩ := h
    exact ⟨v, _, rfl, h1.dp s a1, a1, a2, a3, a4, kk _ _ _ _ (.refl s) (.str _) h⟩
  · exact h.elim
end
end DL

/-! DL12: the script; the well, a dict of a list and two ints that many defs draw from. -/
namespace DL
open PySem PySem.Spec L2 PyProof.Rows
section
variable {X : Cx} {R : XP} {K : PySem.W.Frag} {e a b c tg iter : Expr} {es : List Expr} {pos : Pos} {wa wb wc : WE} {oa ob oc : WO} {ta tb : WT}
/-! the script -/
def wLenScr (i : Nat) : WE := fun _ M Q => match M.env[i]? with
  | some (some (.scr ns)) => Q (.int (ns.length : Nat)) M
  | _ => False
theorem dE_lenscr (i : Nat) {x : Str} {xp p : Pos} (hg : Gl X "len") (hm : X.mg "len" = none) (hN : X.N[i]? = some x := by rfl) (hv : Vis X.env.scope x := by first | exact Or.inl rfl | exact Or.inr (Or.inl rfl) | exact Or.inr (Or.inr rfl)) (hd : (x == ("__debug__" : Str)) = false := by decide)
    (hcd : (x == ("__classdict__" : Str)) = false := by decide) (hs : starEach [.Name x xp] X.env = [(false, eval (.Name x xp) X.env)] := by rfl) : DE X R (.Call (.Name "len" p) [.Name x xp] [] pos) (wLenScr i) := by
  refine ⟨_, pe_callB call_len_seq hg hm boot_len (pa_cons (pe_var (i := i) hN hv hd hcd) pa_nil hs) (by decide) (by decide) hs rfl, fun {F0 H0 F H W M σ xn Q k} r l hw kk => ?_⟩
  unfold wLenScr at hw
  split at hw
  · rename_i ns e0
    obtain ⟨v, h1, a, rfl, h2⟩ := r.slt i _ e0
    refine ⟨_, h1, a, _, rfl, .inl (sameL r.sub h2), ?_⟩
    rw [List.length_map]
    exact kk _ _ _ _ _ (.refl _) r (.int _) hw
  · exact hw.elim
/-- for x in script[:n] -/
def iScr (i : Nat) (n : Int) : WI := fun _ M Q => match M.env[i]? with
  | some (some (.scr ns)) => Q ((cut ns none (some n)).map PyData.int) M
  | _ => False
theorem cut_map {α β : Type} (f : α → β) (l : List α) (lo hi : Option Int) : cut (l.map f) lo hi = (cut l lo hi).map f := by
  unfold cut
  rw [List.length_map, List.map_take, List.map_drop]
theorem dI_scr (i : Nat) {x : Str} {xp p2 p3 : Pos} {n : Int} {j : Nat} (hN : X.N[i]? = some x := by rfl) (hv : Vis X.env.scope x := by first | exact Or.inl rfl | exact Or.inr (Or.inl rfl) | exact Or.inr (Or.inr rfl)) (hd : (x == ("__debug__" : Str)) = false := by decide)
    (hcd : (x == ("__classdict__" : Str)) = false := by decide) : DI X R tg (.Subscript (.Name x xp) (.Slice none (some (.Constant (.int n) j p3)) none p2) pos) (iScr i n) := by
  refine ⟨_, pi_list (pe_slice sl_list (pe_var (i := i) hN hv hd hcd) po_none (po_some pe_int)), fun {F0 H0 F H W M σ xn Q k} r l hw kk => ?_⟩
  unfold iScr at hw
  split at hw
  · rename_i ns e0
    obtain ⟨v, h1, a, rfl, h2⟩ := r.slt i _ e0
    refine ⟨_, h1, n, rfl, a, _, rfl, sameL r.sub h2, fun q hq => ?_⟩
    have g := Grow.newF (o := .lst (cutV (ns.map V.int) none (some n))) r.sub hq
    have e2 : cutV (ns.map V.int) none (some n) = (cut ns none (some n)).map V.int := cut_map V.int ns none (some n)
    exact ⟨q, rfl, ⟨_, SqL.of upd_same⟩, kk _ _ _ _ _ g.f (r.grow g) (walk_list upd_same (by rw [e2]; exact DVs.ofInts)) hw⟩
  · exact hw.elim

/-! the well -/
theorem Rel.welAt {F0 H0 F H : Hp} {W : Option (Addr × Addr)} {M : Mem} {σ : List (Option V)} {i : Nat} (r : Rel K F0 H0 W M σ F H) (h : M.env[i]? = some (some .wel)) : ∃ q t w, W = some (q, t) ∧ M.wl = some w ∧ WelAt H q t w ∧ F q = none ∧ F t = none ∧ σ[i]? = some (some (.ref q)) := by
  obtain ⟨v, h1, q, t, rfl, rfl⟩ := r.slt i _ h
  have wl := r.wel
  cases hm : M.wl with
  | none => rw [hm] at wl; exact wl.elim
  | some w => rw [hm] at wl; exact ⟨q, t, w, rfl, rfl, wl.1, wl.2.1, wl.2.2, h1⟩
theorem Rel.writeWel {F0 H0 F H H' : Hp} {q t : Addr} {M : Mem} {σ : List (Option V)} {w' : Wel} (r : Rel K F0 H0 (some (q, t)) M σ F H) (hF : F q = none ∧ F t = none) (keep : ∀ b, b ≠ q → b ≠ t → H' b = H b) (hw : WelAt H' q t w') : Rel K F0 H0 (some (q, t)) ⟨M.env, some w'⟩ σ F H' where
  sub := fun b o e => by
    have h1 : b ≠ q := fun z => by rw [z, hF.1] at e; cases e
    have h2 : b ≠ t := fun z => by rw [z, hF.2] at e; cases e
    rw [keep b h1 h2]; exact r.sub _ _ e
  old := fun b o e n => by
    rw [keep b (fun z => n (.inl z)) (fun z => n (.inr z))]; exact r.old _ _ e n
  fol := r.fol
  fnw := r.fnw
  len := r.len
  slt := fun i e h => by
    obtain ⟨v, h1, h2⟩ := r.slt i e h
    refine ⟨v, h1, ?_⟩
    cases e with
    | im d => exact h2
    | wel => exact h2
    | scr ns => exact h2
    | ow d => obtain ⟨p, rfl, a1, a2, a3, a4⟩ := h2; exact ⟨p, rfl, a1.move (.refl _) (keep p (fun z => a4 (.inl z)) (fun z => a4 (.inr z))), a2, a3, a4⟩
    | ro d => obtain ⟨p, rfl, a1, a2, a4⟩ := h2; exact ⟨p, rfl, a1.move (.refl _) (keep p (fun z => a4 (.inl z)) (fun z => a4 (.inr z))), a2, a4⟩
  dis := r.dis
  wel := ⟨hw, hF⟩
theorem key3 : (("deep" : Str) = "mix") = False ∧ (("deep" : Str) = "drawn") = False ∧ (("mix" : Str) = "deep") = False ∧ (("mix" : Str) = "drawn") = False ∧ (("drawn" : Str) = "deep") = False ∧ (("drawn" : Str) = "mix") = False := by decide +kernel
theorem wel_deep {r m d : V} : valV [((.inr "deep" : Key), r), (.inr "mix", m), (.inr "drawn", d)] (.inr "deep") = some r := by simp [valV]
theorem wel_mix {r m d : V} : valV [((.inr "deep" : Key), r), (.inr "mix", m), (.inr "drawn", d)] (.inr "mix") = some m := by simp [valV, key3]
theorem wel_drawn {r m d : V} : valV [((.inr "deep" : Key), r), (.inr "mix", m), (.inr "drawn", d)] (.inr "drawn") = some d := by simp [valV, key3]
theorem wel_put {r m d v : V} : putK [((.inr "deep" : Key), r), (.inr "mix", m), (.inr "drawn", d)] (.inr "drawn") v = [(.inr "deep", r), (.inr "mix", m), (.inr "drawn", v)] := by simp [putK, key3]
section
variable {x : Str} {xp kp sp apos : Pos} {j : Nat}
def wWelI (i : Nat) (f : Wel → Int) : WE := fun _ M Q => M.env[i]? = some (some .wel) ∧ match M.wl with
  | some w => Q (.int (f w)) M
  | none => False
theorem dE_wmix (i : Nat) (hu : X.A.units + 1 < cLine) (hN : X.N[i]? = some x := by rfl) (hv : Vis X.env.scope x := by first | exact Or.inl rfl | exact Or.inr (Or.inl rfl) | exact Or.inr (Or.inr rfl)) (hd : (x == ("__debug__" : Str)) = false := by decide)
    (hcd : (x == ("__classdict__" : Str)) = false := by decide) : DE X R (.Subscript (.Name x xp) (.Constant (.str "mix") j kp) sp) (wWelI i (·.mix)) := by
  refine ⟨_, pe_dget hu (pe_var (i := i) hN hv hd hcd) pe_str (fun _ _ => rfl), fun {F0 H0 F H W M σ xn Q k} r l hw kk => ?_⟩
  obtain ⟨q, t, w, rfl, hm, wa, f1, f2, h1⟩ := r.welAt hw.1
  have h2 := hw.2
  rw [hm] at h2
  exact ⟨.ref q, h1, q, .int w.mix, rfl, .inl ⟨_, .inr "mix", .inl wa.dic, rfl, wel_mix.symm⟩, kk _ _ _ _ _ (.refl _) r (.int _) h2⟩
theorem dE_wdrawn (i : Nat) (hu : X.A.units + 1 < cLine) (hN : X.N[i]? = some x := by rfl) (hv : Vis X.env.scope x := by first | exact Or.inl rfl | exact Or.inr (Or.inl rfl) | exact Or.inr (Or.inr rfl)) (hd : (x == ("__debug__" : Str)) = false := by decide)
    (hcd : (x == ("__classdict__" : Str)) = false := by decide) : DE X R (.Subscript (.Name x xp) (.Constant (.str "drawn") j kp) sp) (wWelI i (·.drawn)) := by
  refine ⟨_, pe_dget hu (pe_var (i := i) hN hv hd hcd) pe_str (fun _ _ => rfl), fun {F0 H0 F H W M σ xn Q k} r l hw kk => ?_⟩
  obtain ⟨q, t, w, rfl, hm, wa, f1, f2, h1⟩ := r.welAt hw.1
  have h2 := hw.2
  rw [hm] at h2
  exact ⟨.ref q, h1, q, .int w.drawn, rfl, .inl ⟨_, .inr "drawn", .inl wa.dic, rfl, wel_drawn.symm⟩, kk _ _ _ _ _ (.refl _) r (.int _) h2⟩
/-- well["drawn"] = e -/
def uWelD (i : Nat) (wa : WE) : WS := fun xn De M => M.env[i]? = some (some .wel) ∧ wa xn M fun d M1 => M1.env = M.env ∧ match d, M1.wl with
  | .int n, some w => De.nx ⟨M.env, some { w with drawn := n }⟩
  | _, _ => False
theorem dS_wdrawn (i : Nat) (hu : X.A.units + 1 < cLine) (h : DE X R e wa) (hN : X.N[i]? = some x := by rfl) (hv : Vis X.env.scope x := by first | exact Or.inl rfl | exact Or.inr (Or.inl rfl) | exact Or.inr (Or.inr rfl)) (hd : (x == ("__debug__" : Str)) = false := by decide)
    (hcd : (x == ("__classdict__" : Str)) = false := by decide) (hs : swapsWith e (some (.Subscript (.Name x xp) (.Constant (.str "drawn") j kp) sp)) pos.line X.env = pure false := by rfl) : DS X R (.Assign [.Subscript (.Name x xp) (.Constant (.str "drawn") j kp) sp] e pos) (uWelD i wa) := by
  obtain ⟨t, p, q⟩ := h.ex
  refine ⟨_, ps_dput hu (pe_var (i := i) hN hv hd hcd) pe_str p hs, fun {F0 H0 F H W M σ xn De D} r l hw E => ?_⟩
  obtain ⟨w1, w2⟩ := hw
  refine q r l w2 fun v d M1 F1 H1 s1 r1 dv z => ?_
  obtain ⟨he, z⟩ := z
  rw [← he] at w1 z
  obtain ⟨q, t, w, rfl, hm, wa, f1, f2, h1⟩ := r1.welAt w1
  rw [hm] at z
  cases dv with
  | int n =>
    refine ⟨.ref q, h1, q, _, rfl, .inl ⟨_, .inr "drawn", wa.dic, rfl, by show 3 < sizeLine; decide, rfl⟩, ?_⟩
    rw [wel_put]
    exact E.nx _ _ _ _ s1 (r1.writeWel (w' := { w with drawn := n }) ⟨f1, f2⟩ (fun b hb _ => upd_ne hb) ⟨upd_same, by rw [upd_ne wa.ne.symm]; exact wa.lst, wa.ne⟩) z
  | _ => exact z.elim
theorem shapedInts (ns : List Int) : SeqAt.shaped (.list (ns.map PyData.int)) = true := by
  have h1 : ∀ ns : List Int, PyData.canLayAll0 (ns.map PyData.int) = true := by
    intro ns
    induction ns with
    | nil => rfl
    | cons n ns ih => rw [List.map_cons, PyData.canLayAll0, ih, PyData.canLay0]; rfl
  have h2 : ∀ ns : List Int, PyData.depthAll (ns.map PyData.int) = 0 := by
    intro ns
    induction ns with
    | nil => rfl
    | cons n ns ih => rw [List.map_cons, PyData.depthAll, ih, PyData.depth]; rfl
  unfold SeqAt.shaped
  rw [PyData.canLay0, h1, PyData.depth, h2]
  rfl
theorem dpInts {H : Hp} : ∀ ns : List Int, DpAll K H (ns.map V.int) (ns.map PyData.int)
  | [] => .nil
  | n :: ns => .cons (.int n) (dpInts ns)
/-- well["deep"] != [] -/
def tWelNE (i : Nat) : WT := fun _ M Q => M.env[i]? = some (some .wel) ∧ match M.wl with
  | some w => Q (!w.deep.isEmpty) M
  | none => False
theorem dT_wne (i : Nat) {lp : Pos} (hu : X.A.units + 64 < cLine) (hN : X.N[i]? = some x := by rfl) (hv : Vis X.env.scope x := by first | exact Or.inl rfl | exact Or.inr (Or.inl rfl) | exact Or.inr (Or.inr rfl)) (hd : (x == ("__debug__" : Str)) = false := by decide)
    (hcd : (x == ("__classdict__" : Str)) = false := by decide) : DT X R (.Compare (.Subscript (.Name x xp) (.Constant (.str "deep") j kp) sp) [.NotEq] [.List [] lp] pos) (tWelNE i) := by
  refine ⟨_, pt_cmpR (op_neD hu) (pe_dget (by omega) (pe_var (i := i) hN hv hd hcd) pe_str (fun _ _ => rfl)) (pe_lst pa_nil) (nomark _), fun {F0 H0 F H W M σ xn Q k} r l hw kk => ?_⟩
  obtain ⟨q, t, w, rfl, hm, wa, f1, f2, h1⟩ := r.welAt hw.1
  have h2 := hw.2
  rw [hm] at h2
  refine ⟨.ref q, h1, q, .ref t, rfl, .inl ⟨_, .inr "deep", .inl wa.dic, rfl, wel_deep.symm⟩, by show 0 ≤ sizeLine; decide, fun p hp => ?_⟩
  have ht : t ≠ p := fun z => by rw [← z, wa.lst] at hp; cases hp
  refine ⟨.list (w.deep.map PyData.int), .list [], .lst (SqL.of (by rw [upd_ne ht]; exact wa.lst)) (dpInts _), .lst (SqL.of upd_same) .nil, shapedInts _, by decide, _, rfl, ?_⟩
  have e2 : (!PyData.eqv (.list (w.deep.map PyData.int)) (.list [])) = !w.deep.isEmpty := by
    cases w.deep with
    | nil => rfl
    | cons a l => rw [List.map_cons, PyData.eqv, PyData.eqvAll]; rfl
  rw [e2]
  exact kk _ _ _ _ (.refl _) (r.grow (Grow.new r.sub hp)) h2
/-- well["deep"].pop() -/
def wWelPop (i : Nat) : WE := fun _ M Q => M.env[i]? = some (some .wel) ∧ match M.wl with
  | some w => match w.deep[w.deep.length - 1]? with
    | some n => Q (.int n) ⟨M.env, some { w with deep := w.deep.dropLast }⟩
    | none => False
  | none => False
theorem dE_wpop (i : Nat) (hu : X.A.units + 1 < cLine) (hN : X.N[i]? = some x := by rfl) (hv : Vis X.env.scope x := by first | exact Or.inl rfl | exact Or.inr (Or.inl rfl) | exact Or.inr (Or.inr rfl)) (hd : (x == ("__debug__" : Str)) = false := by decide)
    (hcd : (x == ("__classdict__" : Str)) = false := by decide)
    (hbase : attributeBase (.Subscript (.Name x xp) (.Constant (.str "deep") j kp) sp) "pop" X.env (eval (.Subscript (.Name x xp) (.Constant (.str "deep") j kp) sp) X.env) = eval (.Subscript (.Name x xp) (.Constant (.str "deep") j kp) sp) X.env := by rfl) (hline : (apos.endLine == pos.line) = true := by rfl) :
    DE X R (.Call (.Attribute (.Subscript (.Name x xp) (.Constant (.str "deep") j kp) sp) "pop" apos) [] [] pos) (wWelPop i) := by
  refine ⟨_, pe_bm0 PySem.F.plainAttrs_list PySem.F.slot_list_pop PySem.F.type_list_pop mt_pop (pe_dget hu (pe_var (i := i) hN hv hd hcd) pe_str (fun _ _ => rfl)) hbase hline, fun {F0 H0 F H W M σ xn Q k} r l hw kk => ?_⟩
  obtain ⟨q, t, w, rfl, hm, wa, f1, f2, h1⟩ := r.welAt hw.1
  have h2 := hw.2
  rw [hm] at h2
  have h2 : (match w.deep[w.deep.length - 1]? with
    | some n => Q (.int n) ⟨M.env, some { w with deep := w.deep.dropLast }⟩
    | none => False) := h2
  cases en : w.deep[w.deep.length - 1]? with
  | some n =>
    rw [en] at h2
    refine ⟨.ref q, h1, q, .ref t, rfl, .inl ⟨_, .inr "deep", .inl wa.dic, rfl, wel_deep.symm⟩, .inl ⟨rfl, _, SqL.of wa.lst⟩, t, _, .int n, rfl, rfl, wa.lst, by rw [List.length_map, List.getElem?_map, en]; rfl, ?_⟩
    exact kk _ _ _ _ _ (.refl _) (r.writeWel (w' := { w with deep := w.deep.dropLast }) ⟨f1, f2⟩ (fun b _ hb => upd_ne hb) ⟨by rw [upd_ne wa.ne]; exact wa.dic, by rw [upd_same, List.map_dropLast], wa.ne⟩) (.int n) h2
  | none => rw [en] at h2; exact h2.elim
/-- well["deep"].append(e) -/
def wWelApp (i : Nat) (wa : WE) : WE := fun xn M Q => M.env[i]? = some (some .wel) ∧ wa xn M fun d M1 => M1.env = M.env ∧ match d, M1.wl with
  | .int n, some w => w.deep.length < sizeLine ∧ Q .none ⟨M.env, some { w with deep := w.deep ++ [n] }⟩
  | _, _ => False
theorem dE_wapp (i : Nat) (hu : X.A.units + 1 < cLine) (h : DE X R e wa) (hN : X.N[i]? = some x := by rfl) (hv : Vis X.env.scope x := by first | exact Or.inl rfl | exact Or.inr (Or.inl rfl) | exact Or.inr (Or.inr rfl)) (hd : (x == ("__debug__" : Str)) = false := by decide)
    (hcd : (x == ("__classdict__" : Str)) = false := by decide)
    (hbase : attributeBase (.Subscript (.Name x xp) (.Constant (.str "deep") j kp) sp) "append" X.env (eval (.Subscript (.Name x xp) (.Constant (.str "deep") j kp) sp) X.env) = eval (.Subscript (.Name x xp) (.Constant (.str "deep") j kp) sp) X.env := by rfl)
    (hfew : ((backTo pos (starEach [e] X.env)).all (fun x => !x.1) && (backToKw pos (keywordEach [] X.env)).all (fun x => x.1.isSome)
      && decide ([e].length + ([] : List Keyword).length + (if ([] : List Keyword).isEmpty then 0 else 1) < 30)) = true := by rfl)
    (hline : (apos.endLine == pos.line) = true := by rfl) (hs : starEach [e] X.env = (false, eval e X.env) :: starEach [] X.env := by rfl) (hplain : (backTo pos (starEach [] X.env)).any (·.1) = false := by rfl) :
    DE X R (.Call (.Attribute (.Subscript (.Name x xp) (.Constant (.str "deep") j kp) sp) "append" apos) [e] [] pos) (wWelApp i wa) := by
  obtain ⟨t0, p, q0⟩ := h.ex
  refine ⟨_, pe_bm PySem.F.plainAttrs_list PySem.F.slot_list_append PySem.F.type_list_append mt_append (pe_dget hu (pe_var (i := i) hN hv hd hcd) pe_str (fun _ _ => rfl)) (pa_cons p pa_nil hs) hbase hfew hline hs hplain, fun {F0 H0 F H W M σ xn Q k} r l hw kk => ?_⟩
  obtain ⟨w1, w2⟩ := hw
  obtain ⟨q, t, w, rfl, hm, wa, f1, f2, h1⟩ := r.welAt w1
  refine ⟨.ref q, h1, q, .ref t, rfl, .inl ⟨_, .inr "deep", .inl wa.dic, rfl, wel_deep.symm⟩, .inl ⟨rfl, _, SqL.of wa.lst⟩, q0 r l w2 fun v d M1 F1 H1 s1 r1 dv z => ?_⟩
  obtain ⟨he, z⟩ := z
  rw [← he] at w1 z
  obtain ⟨q', t', w', e1, hm, wa, f1, f2, h1⟩ := r1.welAt w1
  cases e1
  rw [hm] at z
  cases dv with
  | int n =>
    refine ⟨t, _, .int n, rfl, rfl, wa.lst, by rw [List.length_map]; exact z.1, ?_⟩
    exact kk _ _ _ _ _ s1 (r1.writeWel (w' := { w' with deep := w'.deep ++ [n] }) ⟨f1, f2⟩ (fun b _ hb => upd_ne hb) ⟨by rw [upd_ne wa.ne]; exact wa.dic, by rw [upd_same, List.map_append]; rfl, wa.ne⟩) .non z.2
  | _ => exact z.elim
end
end
end DL

/-! DL13: the law's own call, of which it is known that nothing is being shown around it. -/
namespace DL
open PySem PySem.Spec L2 PyProof.Rows

/-- the law's def keeps its promise where the claim calls it -/
def LawOk (P : Program) (w : World) (K : PySem.W.Frag) (mg : Str → Option Value) (base : Heap) (fa : Addr) (n : Nat) : Prop :=
  ∀ (s : Shared) (H : Hp) (a : Addr) (ns : List Int), ns.length ≤ n → Only H → SqL K H a (ns.map V.int) → Env0 P w K mg base callerA [] s H →
    codeAny (model P w) callerA (.call (.ref fa) ⟨[.ref a], []⟩) (CR CX0 [] P w H s (fun v _ => v = .bl true) E0) s

/-- the state at the claim's call: the script alone is tracked, or nothing is -/
theorem law_state {P : Program} {w : World} {K : PySem.W.Frag} {s : Shared} {a : Addr} {vs : List Value} {ns : List Int} (KX : K.In s.heap) (ha : s.heap.get? a = some { cls := .type "list", data := .seq vs.toArray }) (hi : IntsAre vs ns) (hl : ns.length ≤ sizeLine) :
    ∃ H : Hp, Only H ∧ SqL K H a (ns.map V.int) ∧ HOk P w H s.heap ∧ ∀ b, H b ≠ none → b = a ∧ K.lookup a = none := by
  have rv := vals_ints hi
  have hz : (ns.map V.int).length ≤ sizeLine := by rw [List.length_map]; exact hl
  cases hk : K.lookup a with
  | some o =>
    have e : some o = some { cls := .type "list", data := .seq vs.toArray } := (KX a o hk).symm.trans ha
    cases e
    refine ⟨fun _ => none, fun _ => .inl rfl, .inr ⟨_, vs.toArray, _, hk, rfl, rfl, rfl, ?_, ?_⟩, fun b u z => ?_, fun b z => absurd rfl z⟩
    · rw [List.size_toArray, hi.length]; exact hl
    · exact rv
    · cases (show (none : Option HO) = some u from z)
  | none =>
    have at_ : ∀ {b : Addr} {o : HO}, b = a → (fun c : Addr => if c = a then some o else none) b = some o := fun e => if_pos e
    refine ⟨fun b => if b = a then some (.frz { cls := .type "list", data := .seq vs.toArray } (.lst (ns.map V.int))) else none, fun b => ?_, .inl (.inr ⟨_, at_ rfl⟩), fun b u z => ?_, fun b z => ?_⟩
    · by_cases e : b = a
      · exact .inr ⟨_, _, at_ e⟩
      · exact .inl (if_neg e)
    · by_cases e : b = a
      · cases (if_pos e).symm.trans z
        rw [e]
        exact ⟨ha, hz, vs, _, rv, ha⟩
      · cases (if_neg e).symm.trans z
    · by_cases e : b = a
      · exact ⟨e, rfl⟩
      · exact absurd (if_neg e) z
theorem law_callG {P : Program} {w : World} {K : PySem.W.Frag} {mg mb : Str → Option Value} {fa a : Addr} {n : Nat} {s : Shared} {vs : List Value} {ns : List Int}
    (KX : K.In s.heap) (g1 : s.heap.Ns mainGlobals mg) (g2 : s.heap.Ns builtinsNs mb) (g3 : ∀ y : Str, y ≠ "__name__" → mb y = bootBuiltins y) (g4 : s.heap.NoLimit) (g5 : s.gens = #[])
    (ha : s.heap.get? a = some { cls := .type "list", data := .seq vs.toArray }) (hi : IntsAre vs ns) (hn : ns.length ≤ n) (hl : n ≤ sizeLine)
    (F : ∀ base : Heap, K.In base → base.Ns mainGlobals mg → LawOk P w K mg base fa n) :
    codeAny (model P w) callerA (.call (.ref fa) ⟨[.ref a], []⟩) (fun r s' => r = .ok (.ret (.bool true)) ∧ OldK s.heap s'.heap ∧ s'.os = s.os ∧ AllBare s'.gens) s := by
  obtain ⟨H, only, hS, ok, hA⟩ := law_state (P := P) (w := w) KX ha hi (Nat.le_trans hn hl)
  -- what bears no list is in the ground
  have ground : ∀ {b : Addr} {o : Obj}, s.heap.get? b = some o → o.data ≠ .seq vs.toArray → (hidT s.heap H).get? b = some o := fun {b o} e d => hidT_get e (by
    cases q : H b with
    | none => rfl
    | some u =>
      exfalso
      have eb := (hA b (by simp [q])).1
      rw [eb, ha] at e
      exact d (by cases e; rfl))
  have nsG : ∀ {b : Addr} {m : Str → Option Value}, s.heap.Ns b m → (hidT s.heap H).Ns b m := fun ⟨o, es, ep, e, d, r⟩ => ⟨o, es, ep, ground e (by rw [d]; exact fun z => nomatch z), d, r⟩
  have inG : K.In (hidT s.heap H) := fun b o e => hidT_get (KX b o e) (by
    cases q : H b with
    | none => rfl
    | some u =>
      obtain ⟨rfl, hk⟩ := hA b (by simp [q])
      rw [hk] at e; cases e)
  obtain ⟨mc, l1, l2⟩ := g4
  have env : Env0 P w K mg (hidT s.heap H) callerA [] s H :=
    { frames := rfl, mod := ⟨inG, nsG g1, ⟨mb, nsG g2, g3⟩, ⟨mc, nsG l1, l2⟩⟩, bs := fun b o e => of_hidT e, bsz := by rw [hidT_size]; exact Nat.le_refl _, funs := trivial, frf := fun b hb => absurd (show b ∈ ([] : List Addr) from hb) (by simp), hok := ok, bare := .of_eq g5 }
  refine codeAny_mono (F _ inG (nsG g1) s H a ns hn only hS env) fun r s' h => ?_
  match r, h with
  | .ok (.ret u), ⟨v, H', os, bare, un, ok', rv, q⟩ =>
    have q : v = .bl true := q
    subst q
    have e : u = Value.bool true := rv
    subst e
    refine ⟨rfl, OldK.of_keep fun b o e => ?_, os, bare⟩
    rcases only b with z | ⟨ob, xs, z⟩
    · exact un.keep b o e z (fun y => nomatch y) (by simp)
    · have e1 := (ok b _ z).1
      rw [e] at e1
      cases e1
      exact (ok' b _ (un.frzs b _ _ z)).1
theorem walkG {l : PySem.W.OpenLaw} {n : Nat} {q : Program} {loose : List Str} {XP : (Str → Option Value) → Heap → Prop} {YP : World → Heap → Prop} {d : DefRec} {K : Params → PySem.W.Frag}
    (hn : l.most = some n) (hl : n ≤ sizeLine) (hdf : d.params.defaults = []) (hY : ∀ (w : World) (h : Heap), YP w h → (K w.params).In h)
    (F : ∀ (w : World) (mg : Str → Option Value) (fa : Addr) (h : Heap), (K w.params).In h → h.Ns mainGlobals mg → mg d.name = some (.ref fa) → ∀ base : Heap, (K w.params).In base → base.Ns mainGlobals mg → LawOk l.prog w (K w.params) mg base fa n) :
    PySem.W.WalkO q loose XP YP l.row.toRowW d [] (fun f vs => PySem.call f vs) := by
  refine Att.attach_call hn hdf fun w s₀ s₁ mg mb fa o pm cd doc a vs ns G Y ho hd hcd hmg hobj hints hlen hg => ?_
  exact law_callG (hY w _ Y) G.T.g G.T.b G.T.builtins G.T.nolimit hg hobj hints hlen hl (F w mg fa _ (hY w _ Y) G.T.g hmg)
/-- the law's def by its body -/
theorem law_of {P : Program} {w : World} {K : PySem.W.Frag} {mg : Str → Option Value} {base : Heap} {x qual p : Str} {st : Stmt} {f : Addr} {fd : FuncData} {N : List Str} {n : Nat} (F : Fun K x qual st f fd) (S : FnScope N [p] (defScope st)) (hb : ∀ (s : Shared) (u : Value), BindsTo s fd ⟨[u], []⟩ [(p, u)])
    (hbody : ∀ (cdv : Value) (s : Shared) (H : Hp) (a : Addr) (ns : List Int), ns.length ≤ n → Only H → SqL K H a (ns.map V.int) →
      ∃ t, PSs (cxOf CX0 P w K mg base N qual (defScope st) f cdv callerA [] s H E0).nox (defBody st) t ∧ t { nx := fun _ _ => False, rt := fun v _ => v = .bl true } (L2.start N [.ref a]) H) : LawOk P w K mg base f n := by
  obtain ⟨oc, od, kV, doc, pm, an, cdv, ct, osl, rfl, lk, hcd⟩ := F.ex
  intro s H a ns hlen only hS e0
  have keep : ∀ b o, base.get? b = some o → s.heap.get? b = some o := fun b o e => (e0.bs b o e).1
  have KX : K.In s.heap := e0.mod.kin.keeps keep
  have kinds : ∀ y ∈ [p].zip [Value.ref a], (defScope st).names.lookup y.1 = some .local ∨ ((defScope st).names.lookup y.1 = some .cell ∧ ((cellsFrom (s.heap.objs.size + 1) (defScope st).names []).lookup y.1).isSome = true) := fun y hy => by
    have hy1 : y.1 ∈ [p] := (List.of_mem_zip (show (y.1, y.2) ∈ _ from hy)).1
    exact (S.par y.1 hy1).imp id fun k => ⟨k, PySem.W.cellsFrom_some _ _ _ (.inl k)⟩
  refine codeAny_call_function (by decide) (KX _ _ lk) rfl S.co S.gen rfl (PySem.W.codeRec_of KX hcd) (hb s (.ref a) _ _ _ _ ?_)
  refine wpAny_newFunctionEnv_cells S.kind kinds fun env he s1 y => ?_
  subst he
  refine ⟨(e0.mod.nolimit.keeps keep).keeps y.toInCall.keep, codeAny_func ?_⟩
  obtain ⟨t, ht, hq⟩ := hbody cdv s H a ns hlen only hS
  have J := inv_start (CX := CX0) (P := P) (w := w) (mg := mg) (base := base) (f := f) (cd := cdv) (qual := qual) (E := E0) (us := [.ref a]) (vs := [.ref a]) S rfl e0 rfl (.cons rfl .nil) y
  refine wpAny_mono (ht.nox.run [] s1 (L2.start N [.ref a]) H _ J hq) (fun fl s' hs => ?_) fun e s' hs => hs
  match fl, hs with
  | .ret u, ⟨v, σ', H', J', rv, z⟩ => exact ⟨v, H', J'.os, J'.bare, J'.base, J'.hok, rv, z⟩
  | .next, ⟨_, _, _, z⟩ => exact z.elim
  | .brk, ⟨_, _, _, z⟩ => exact z.elim
  | .cont, ⟨_, _, _, z⟩ => exact z.elim
end DL

/-! DL14: rules that look at the data for themselves; walks of two; defs by name. -/
namespace DL
open PySem PySem.Spec L2 PyProof.Rows
section
variable {X : Cx} {R : XP} {K : PySem.W.Frag} {e a b c tg iter : Expr} {es : List Expr} {pos : Pos} {wa wb wc : WE} {oa ob oc : WO} {ta tb : WT}
/-! a walk over a list, a tuple, a text -/
abbrev rItX (K : PySem.W.Frag) (x : V) (H : Hp) (k : It → Hp → Prop) : Prop := (∃ a xs, x = .ref a ∧ SqL K H a xs ∧ k (Itl K a) H) ∨ (∃ a xs, x = .ref a ∧ SqT K H a xs ∧ k (Itt K a) H) ∨ ∃ z, x = .str z ∧ k (Its z) H
theorem pi_any {te : TE} (h : PE X e te) : PI X tg e (fun σ H k => te σ H fun x H1 => rItX X.K x H1 k) := by
  refine ⟨fun pins s σ H k I hw => thn (h.run pins s σ H _ I hw) fun v s1 ⟨x, H1, I1, r1, q1⟩ => ?_⟩
  rcases q1 with ⟨a, xs, rfl, hq, q⟩ | ⟨a, xs, rfl, hq, q⟩ | ⟨z, rfl, q⟩
  · cases r1
    obtain ⟨its, _, p, _⟩ := I1.list hq
    exact wpAny_pyIter_list p.isList (pi_one (tk := s1.toks) I1 _ (turn_list a _) ⟨_, Heap.get?_push_size _ rfl, rfl, rfl⟩ q)
  · cases r1
    obtain ⟨its, _, p, _⟩ := I1.tuple hq
    exact wpAny_pyIter_tuple (show s1.heap.IsTuple a its.toArray from p) (pi_one (tk := s1.toks) I1 _ (turn_tuple a _) ⟨_, Heap.get?_push_size _ rfl, rfl, rfl⟩ q)
  · obtain ⟨t, rfl⟩ := r1
    cases ha : z.cps.all (· < 128)
    · exact wpAny_pyIter_wide ha (pi_one (tk := s1.toks) I1 _ (turn_str _ z t "str_iterator" (.inr rfl)) ⟨_, Heap.get?_push_size _ rfl, rfl, rfl⟩ q)
    · exact wpAny_pyIter_ascii ha (pi_one (tk := s1.toks) I1 _ (turn_str _ z t "str_ascii_iterator" (.inl rfl)) ⟨_, Heap.get?_push_size _ rfl, rfl, rfl⟩ q)
def iX (wa : WE) : WI := fun xn M Q => wa xn M fun d M1 => match d with
  | .list ds => Q ds M1
  | .tuple ds => Q ds M1
  | .str s => Q (s.cps.toList.map fun c => .str (S [c])) M1
  | _ => False
theorem dI_x (h : DE X R e wa) : DI X R tg e (iX wa) := by
  obtain ⟨t, p, q⟩ := h.ex
  refine ⟨_, pi_any p, fun r l hw kk => q r l hw fun v d M1 F1 H1 s1 r1 dv z => ?_⟩
  cases dv with
  | lst h hd => exact .inl ⟨_, _, rfl, SqL.of (r1.sub _ _ h), kk _ _ _ _ _ s1 r1 (walk_list h hd) z⟩
  | tup h hd => exact .inr (.inl ⟨_, _, rfl, SqT.of (r1.sub _ _ h), kk _ _ _ _ _ s1 r1 (walk_tup (SqT.of h) hd) z⟩)
  | str s => exact .inr (.inr ⟨_, rfl, kk _ _ _ _ _ s1 r1 walk_str z⟩)
  | _ => exact z.elim
/-! for a, b in zip(x, y): two lists, two tuples; for i, x in enumerate(list) -/
def zipD : List PyData → List PyData → List PyData
  | x :: xs, y :: ys => .tuple [x, y] :: zipD xs ys
  | _, _ => []
theorem zipD_get : ∀ {xs ys : List PyData} {i : Nat} {d : PyData}, (zipD xs ys)[i]? = some d → ∃ x y, xs[i]? = some x ∧ ys[i]? = some y ∧ d = .tuple [x, y]
  | [], _, i, d, h => by simp [zipD] at h
  | _ :: _, [], i, d, h => by simp [zipD] at h
  | x :: xs, y :: ys, 0, d, h => by simp [zipD] at h; exact ⟨x, y, rfl, rfl, h.symm⟩
  | x :: xs, y :: ys, i + 1, d, h => by
    simp only [zipD, List.getElem?_cons_succ] at h
    obtain ⟨a, b, h1, h2, h3⟩ := zipD_get h
    exact ⟨a, b, by simpa using h1, by simpa using h2, h3⟩
theorem zipD_len : ∀ (xs ys : List PyData), (zipD xs ys).length = min xs.length ys.length
  | [], ys => by simp [zipD]
  | _ :: _, [] => by simp [zipD]
  | x :: xs, y :: ys => by simp [zipD, zipD_len xs ys]
def iZ (os : WOs) : WI := fun xn M Q => os xn M fun xs M1 => match getAll xs M1 with
  | some [.list ds, .list es] => Q (zipD ds es) M1
  | some [.tuple ds, .tuple es] => Q (zipD ds es) M1
  | _ => False
/-- lists that are seen stay while nothing but growth comes: so both must be frozen -/
def froz (xs : List Opd) : Bool := xs.all fun o => match o with
  | .x _ => true
  | .s _ => false
theorem walk_zip {F H : Hp} {p q : Addr} {vs ws : List V} {ds es : List PyData} (h1 : F p = some (.lst vs)) (d1 : DVs K F vs ds) (h2 : F q = some (.lst ws)) (d2 : DVs K F ws es) : Walks K (Itz K p q) F (zipD ds es) where
  stop := fun F' H' s s' => ⟨vs, ws, SqL.of (s' _ _ (s _ _ h1)), SqL.of (s' _ _ (s _ _ h2)), by rw [zipD_len, d1.len, d2.len]; omega⟩
  go := fun i d F' H' e s s' => by
    obtain ⟨x, y, e1, e2, rfl⟩ := zipD_get e
    obtain ⟨v, g1, g2⟩ := d1.get e1
    obtain ⟨w, g3, g4⟩ := d2.get e2
    have l1 : SqL K H' p vs := SqL.of (s' _ _ (s _ _ h1))
    have l2 : SqL K H' q ws := SqL.of (s' _ _ (s _ _ h2))
    refine ⟨⟨vs, ws, v, w, l1, l2, g1, g3⟩, fun z H'' hy => ?_⟩
    obtain ⟨T, x1, x2, rfl, nT, rfl, f1, f2⟩ := hy
    have ex1 : x1 = v := Option.some.inj ((f1 _ l1).symm.trans g1)
    have ex2 : x2 = w := Option.some.inj ((f2 _ l2).symm.trans g3)
    subst ex1
    subst ex2
    have g := Grow.newF (o := .tup [x1, x2]) s' nT
    exact ⟨_, g, .tup upd_same (.cons ((g2.same s).same g.f) (.cons ((g4.same s).same g.f) .nil))⟩
theorem walk_zipT {F H : Hp} {p q : Addr} {vs ws : List V} {ds es : List PyData} (h1 : F p = some (.tup vs)) (d1 : DVs K F vs ds) (h2 : F q = some (.tup ws)) (d2 : DVs K F ws es) : Walks K (RZ.ItzT K p q) F (zipD ds es) where
  stop := fun F' H' s s' => ⟨vs, ws, SqT.of (s' _ _ (s _ _ h1)), SqT.of (s' _ _ (s _ _ h2)), by rw [zipD_len, d1.len, d2.len]; omega⟩
  go := fun i d F' H' e s s' => by
    obtain ⟨x, y, e1, e2, rfl⟩ := zipD_get e
    obtain ⟨v, g1, g2⟩ := d1.get e1
    obtain ⟨w, g3, g4⟩ := d2.get e2
    have l1 : SqT K H' p vs := SqT.of (s' _ _ (s _ _ h1))
    have l2 : SqT K H' q ws := SqT.of (s' _ _ (s _ _ h2))
    refine ⟨⟨vs, ws, v, w, l1, l2, g1, g3⟩, fun z H'' hy => ?_⟩
    obtain ⟨T, x1, x2, rfl, nT, rfl, f1, f2⟩ := hy
    have ex1 : x1 = v := Option.some.inj ((f1 _ l1).symm.trans g1)
    have ex2 : x2 = w := Option.some.inj ((f2 _ l2).symm.trans g3)
    subst ex1
    subst ex2
    have g := Grow.newF (o := .tup [x1, x2]) s' nT
    exact ⟨_, g, .tup upd_same (.cons ((g2.same s).same g.f) (.cons ((g4.same s).same g.f) .nil))⟩
/-- both as frozen data -/
def iZD (wl : WL) : WI := fun xn M Q => wl xn M fun l M1 => match l with
  | [.list ds, .list es] => Q (zipD ds es) M1
  | [.tuple ds, .tuple es] => Q (zipD ds es) M1
  | _ => False
theorem dI_zip {p tpos : Pos} {elts : List Expr} {kk : Nat} {wl : WL} (hg : Gl X "zip") (hm : X.mg "zip" = none) (h : DL X R [a, b] wl) (hs : starEach [a, b] X.env = (false, eval a X.env) :: starEach [b] X.env := by rfl) (hpl : (backTo pos (starEach [b] X.env)).any (·.1) = false := by rfl) :
    DI X R (.Tuple elts kk tpos) (.Call (.Name "zip" p) [a, b] [] pos) (iZD wl) := by
  obtain ⟨t, p, q⟩ := h.ex
  refine ⟨_, RZ.pi_zipA hg hm p hs hpl, fun {F0 H0 F H W M σ xn Q k} r l hw kk => q r l hw fun vs ds M1 F1 H1 s1 r1 dv z => ?_⟩
  cases dv with
  | nil => exact z.elim
  | cons d1 dv =>
    cases dv with
    | nil => cases d1 <;> exact z.elim
    | cons d2 dv =>
      cases dv with
      | cons _ _ => cases d1 <;> cases d2 <;> exact z.elim
      | nil =>
        cases d1 with
        | lst h1 q1 => cases d2 with
          | lst h2 q2 => exact ⟨_, _, _, _, rfl, .inl ⟨SqL.of (r1.sub _ _ h1), SqL.of (r1.sub _ _ h2), kk _ _ _ _ _ s1 r1 (walk_zip (H := H) h1 q1 h2 q2) z⟩⟩
          | _ => exact z.elim
        | tup h1 q1 => cases d2 with
          | tup h2 q2 => exact ⟨_, _, _, _, rfl, .inr ⟨SqT.of (r1.sub _ _ h1), SqT.of (r1.sub _ _ h2), kk _ _ _ _ _ s1 r1 (walk_zipT (H := H) h1 q1 h2 q2) z⟩⟩
          | _ => exact z.elim
        | _ => exact z.elim
def enumD : Nat → List PyData → List PyData
  | _, [] => []
  | n, x :: xs => .tuple [.int (n : Nat), x] :: enumD (n + 1) xs
theorem enumD_get : ∀ {xs : List PyData} {n i : Nat} {d : PyData}, (enumD n xs)[i]? = some d → ∃ x, xs[i]? = some x ∧ d = .tuple [.int ((n + i : Nat) : Int), x]
  | [], n, i, d, h => by simp [enumD] at h
  | x :: xs, n, 0, d, h => by simp [enumD] at h; exact ⟨x, rfl, h.symm⟩
  | x :: xs, n, i + 1, d, h => by
    simp only [enumD, List.getElem?_cons_succ] at h
    obtain ⟨a, h1, h3⟩ := enumD_get h
    exact ⟨a, by simpa using h1, by rw [h3]; congr 4; omega⟩
theorem enumD_len : ∀ (xs : List PyData) (n : Nat), (enumD n xs).length = xs.length
  | [], n => rfl
  | x :: xs, n => by simp [enumD, enumD_len xs]
theorem walk_enum {F : Hp} {p : Addr} {vs : List V} {ds : List PyData} (h1 : F p = some (.lst vs)) (d1 : DVs K F vs ds) : Walks K (Ite K p) F (enumD 0 ds) where
  stop := fun F' H' s s' => ⟨vs, SqL.of (s' _ _ (s _ _ h1)), by rw [enumD_len, d1.len]; omega⟩
  go := fun i d F' H' e s s' => by
    obtain ⟨x, e1, rfl⟩ := enumD_get e
    obtain ⟨v, g1, g2⟩ := d1.get e1
    have l1 : SqL K H' p vs := SqL.of (s' _ _ (s _ _ h1))
    refine ⟨⟨vs, v, l1, g1⟩, fun z H'' hy => ?_⟩
    obtain ⟨T, x1, rfl, nT, rfl, f1⟩ := hy
    have ex1 : x1 = v := Option.some.inj ((f1 _ l1).symm.trans g1)
    subst ex1
    have g := Grow.newF (o := .tup [.int (i : Nat), x1]) s' nT
    refine ⟨_, g, .tup upd_same (.cons ?_ (.cons ((g2.same s).same g.f) .nil))⟩
    rw [Nat.zero_add]
    exact .int _
def iE (wl : WL) : WI := fun xn M Q => wl xn M fun l M1 => match l with
  | [.list ds] => Q (enumD 0 ds) M1
  | _ => False
theorem dI_enum {p tpos : Pos} {elts : List Expr} {kk : Nat} {wl : WL} (hg : Gl X "enumerate") (hm : X.mg "enumerate" = none) (h : DL X R [a] wl) (hs : starEach [a] X.env = [(false, eval a X.env)] := by rfl) :
    DI X R (.Tuple elts kk tpos) (.Call (.Name "enumerate" p) [a] [] pos) (iE wl) := by
  obtain ⟨t, p, q⟩ := h.ex
  refine ⟨_, pi_enum hg hm p hs, fun {F0 H0 F H W M σ xn Q k} r l hw kk => q r l hw fun vs ds M1 F1 H1 s1 r1 dv z => ?_⟩
  cases dv with
  | nil => exact z.elim
  | cons d1 dv =>
    cases dv with
    | cons _ _ => cases d1 <;> exact z.elim
    | nil =>
      cases d1 with
      | lst h1 q1 => exact ⟨_, _, rfl, SqL.of (r1.sub _ _ h1), kk _ _ _ _ _ s1 r1 (walk_enum h1 q1) z⟩
      | _ => exact z.elim

/-! e[i] of anything -/
abbrev rIxDc : R2 := fun x y H Q => ∃ a v, x = .ref a ∧ DGet H a y (some v) ∧ Q v H
theorem ix_dict (hu : X.A.units + 1 < cLine) : IxR X rIxDc := by
  intro value slice pins s σ H x y v u Q I rx ry h hs
  obtain ⟨a, z, rfl, g, q⟩ := h
  cases rx
  exact tail_any (dict_typeIs I g) PySem.F.slot_dict_getitem.lookup (d_getItem hu I g ry fun w' s3 I3 rw' => ⟨z, H, I3, rw', q⟩) hs
def fSub_ : DF2 := fun x y Q => match x with
  | .dict kvs => keyFits kvs y = true ∧ match dlook (dpairs kvs) y with
    | some d => Q d
    | none => False
  | _ => fIx x y Q
abbrev rSub_ (K : PySem.W.Frag) : R2 := fun x y H Q => rIxDc x y H Q ∨ rIx K x y H Q
theorem dSub_ : DOp K (rSub_ K) fSub_ := by
  intro F H vx vy dx dy Qd k s hx hy h kk
  cases dx with
  | dict kvs =>
    have h : keyFits kvs dy = true ∧ (match dlook (dpairs kvs) dy with
      | some d => Qd d
      | none => False) := h
    obtain ⟨h1, h2⟩ := h
    obtain ⟨a, o, rfl, _, g, h3⟩ := hx.dget s hy h1
    rcases h3 with ⟨rfl, h4⟩ | ⟨v, d, rfl, h4, h5⟩
    · rw [h4] at h2; exact h2.elim
    · rw [h4] at h2
      exact .inl ⟨a, v, rfl, g, kk _ _ _ _ (.refl s) h5 h2⟩
  | _ => exact .inr (dIx s hx hy h kk)
theorem dE_sub (hu : X.A.units + 1 < cLine) (ha : DO X R a oa) (hb : DO X R b ob) (hs : PlainIx b := by exact fun _ _ => rfl) : DE X R (.Subscript a b pos) (wOp fSub_ oa ob) := by
  obtain ⟨t1, p1, q1⟩ := ha.ex
  obtain ⟨t2, p2, q2⟩ := hb.ex
  refine ⟨_, pe_ix ((ix_dict hu).or ix_seq) p1 p2 hs, fun r l hw kk => ?_⟩
  refine q1 r l hw fun vx x M1 F1 H1 s1 r1 hx z1 => q2 r1 l z1 fun vy y M2 F2 H2 s2 r2 hy z2 => ?_
  exact app2_run dSub_ r2 (hx.same s2) hy z2 fun v d M' F' H' s => kk v d M' F' H' (s1.trans (s2.trans s))

/-! x in e of anything: a sign in a text, a key in a dict, flat things in a list or a tuple -/
theorem op_inD (hu : X.A.units + 1 < cLine) : OpR X (compareOp .In) (fun y x H Q => ∃ a o, x = .ref a ∧ DGet H a y o ∧ Q (.bl o.isSome) H) := by
  intro pins s σ H y x u v Q I ry rx h
  obtain ⟨a, o, rfl, g, q⟩ := h
  cases rx
  exact d_in hu I g ry fun s3 I3 => ⟨.bl o.isSome, H, I3, rfl, q⟩
theorem op_notInD (hu : X.A.units + 1 < cLine) : OpR X (compareOp .NotIn) (fun y x H Q => ∃ a o, x = .ref a ∧ DGet H a y o ∧ Q (.bl (!o.isSome)) H) := by
  intro pins s σ H y x u v Q I ry rx h
  obtain ⟨a, o, rfl, g, q⟩ := h
  cases rx
  exact d_notIn hu I g ry fun s3 I3 => ⟨.bl (!o.isSome), H, I3, rfl, q⟩
end
end DL

/-! DL15: ways that meet; defs by their names; the well's birth; the law by its body. -/
namespace DL
open PySem PySem.Spec L2 PyProof.Rows
section
variable {X : Cx} {R : XP} {K : PySem.W.Frag} {e a b c tg iter : Expr} {es : List Expr} {st : Stmt} {rest body : List Stmt} {pos : Pos} {wa wb wc : WE} {oa ob oc : WO} {ta tb : WT} {u v : WS}
/-- the ways behind a statement meet in Mid -/
def uSeqM (u v : WS) : WS := fun xn De M => ∃ Mid : Mem → Prop, u xn { De with nx := Mid } M ∧ ∀ M', Mid M' → v xn De M'
theorem dSs_m (h : DS X R st u) (h2 : DSs X R rest v) : DSs X R (st :: rest) (uSeqM u v) := by
  obtain ⟨t, p, q⟩ := h.ex
  obtain ⟨t2, p2, q2⟩ := h2.ex
  refine ⟨_, pss_cons p p2, fun r l hw E => ?_⟩
  obtain ⟨Mid, h1, h2⟩ := hw
  exact q r l h1 ⟨fun M' σ' F' H' s r' z => q2 r' l (h2 _ z) (E.same s), E.rt, E.bk, E.ct⟩
/-! comprehensions that compute -/
theorem compW_map {vs : List Nat} {g : WG} {te : WE} {xn : Xn} {env : List (Option Ent)} {ds : List PyData} {wl : Option Wel} {Q : List PyData → Option Wel → Prop} (f : PyData → PyData)
    (h : ∀ d ∈ ds, ∀ P : PyData → Option Wel → Prop, P (f d) wl → g d ((Mem.mk env wl).ro.kill vs) fun M1 => te xn M1 fun y M3 => P y M3.wl) (hq : Q (ds.map f) wl) : compW vs g ttY te xn env ds wl Q := by
  refine ⟨fun i ys w => ys = (ds.take i).map f ∧ w = wl, ⟨rfl, rfl⟩, fun i d ys wl' e ⟨e1, e2⟩ => ?_, fun ys wl' ⟨e1, e2⟩ => ?_⟩
  · subst e1 e2
    refine h d (List.mem_of_getElem? e) (fun y w => (ds.take i).map f ++ [y] = (ds.take (i + 1)).map f ∧ w = wl') ⟨?_, rfl⟩
    rw [List.take_add_one, e]
    simp
  · subst e1 e2
    rw [List.take_length]
    exact hq
theorem compW_filter {vs : List Nat} {g : WG} {tt : WT} {te : WE} {xn : Xn} {env : List (Option Ent)} {ds : List PyData} {wl : Option Wel} {Q : List PyData → Option Wel → Prop} (f : PyData → PyData) (p : PyData → Bool)
    (h : ∀ d ∈ ds, ∀ P : PyData → Option Wel → Prop, ∀ P2 : Option Wel → Prop, (p d = true → P (f d) wl) → (p d = false → P2 wl) → g d ((Mem.mk env wl).ro.kill vs) fun M1 => tt xn M1 fun b M2 => if b = true then te xn M2 fun y M3 => P y M3.wl else P2 M2.wl) (hq : Q ((ds.filter p).map f) wl) : compW vs g tt te xn env ds wl Q := by
  refine ⟨fun i ys w => ys = ((ds.take i).filter p).map f ∧ w = wl, ⟨rfl, rfl⟩, fun i d ys wl' e ⟨e1, e2⟩ => ?_, fun ys wl' ⟨e1, e2⟩ => ?_⟩
  · subst e1 e2
    have key : (ds.take (i + 1)).filter p = (ds.take i).filter p ++ if p d = true then [d] else [] := by
      rw [List.take_add_one, e, List.filter_append]
      simp only [Option.toList]
      cases hp : p d <;> simp [hp]
    refine h d (List.mem_of_getElem? e) (fun y w => ((ds.take i).filter p).map f ++ [y] = ((ds.take (i + 1)).filter p).map f ∧ w = wl') (fun w => ((ds.take i).filter p).map f = ((ds.take (i + 1)).filter p).map f ∧ w = wl') (fun hp => ⟨?_, rfl⟩) (fun hp => ⟨?_, rfl⟩)
    · rw [key, if_pos hp]; simp
    · rw [key, hp]; simp
  · subst e1 e2
    rw [List.take_length]
    exact hq
end
/-! defs by their names -/
structure Raw (K : PySem.W.Frag) (mg : Str → Option Value) (x : Str) (st : Stmt) (ps : List Str) : Prop where
  ex : ∃ (f : Addr) (fd : FuncData), Fun K x x st f fd ∧ mg x = some (.ref f) ∧ Binds K fd ps []
structure Fn (P : Program) (w : World) (K : PySem.W.Frag) (mg : Str → Option Value) (base : Heap) (x : Str) (st : Stmt) (ps : List Str) (k : Nat) (g : GSpec) : Prop where
  ex : ∃ (f : Addr) (fd : FuncData), Fun K x x st f fd ∧ mg x = some (.ref f) ∧ Binds K fd ps [] ∧ FnOk P w K mg base CX0 k f fd ps (spD K g)
theorem Raw.mk' {K : PySem.W.Frag} {mg : Str → Option Value} {x : Str} {st : Stmt} {ps : List Str} {f : Addr} {fd : FuncData} (F : Fun K x x st f fd) (hm : mg x = some (.ref f))
    (h : ∀ (kV doc pm : Value) (an : Option Addr) (cdv ct : Value) (us : List Value), us.length = ps.length → bindArgs (PySem.W.fnOf x x (defArgs st) (defBody st) (defScope st) .none kV doc pm an cdv ct) ⟨us, []⟩ = pure (ps.zip us)) : Raw K mg x st ps :=
  ⟨f, fd, F, hm, F.binds h⟩
section
variable {X : Cx} {R : XP} {P : Program} {w : World} {K : PySem.W.Frag} {mg : Str → Option Value} {base : Heap} {e : Expr} {es : List Expr} {pos : Pos}
theorem Raw.fn {x : Str} {st : Stmt} {N ps : List Str} {k : Nat} {g : GSpec} (r : Raw K mg x st ps) (S : FnScope N ps (defScope st)) (hN : ps.length ≤ N.length)
    (hlen : ∀ args wl Q, g args wl Q → args.length = ps.length)
    (hbody : ∀ (cdv : Value) (A : Around) (outer : List Env) (s : Shared) (H : Hp) (E : XK) (f : Addr), Room k (A.deeper (envOfC x (defScope st) s.heap.objs.size f cdv)) →
      ∃ u, DSs (cxOf CX0 P w K mg base N x (defScope st) f cdv A outer s H E).nox X0 (defBody st) u ∧ ∀ args wl Q, g args wl Q → u noX (endsG Q) (mem0 N.length args wl)) : Fn P w K mg base x st ps (k + 1) g := by
  obtain ⟨f, fd, F, hm, hb⟩ := r.ex
  exact ⟨f, fd, F, hm, hb, fnD F S hN hlen fun cdv A outer s H E hr => hbody cdv A outer s H E f hr⟩
theorem dE_callF {k j : Nat} {ps : List Str} {g : GSpec} {x : Str} {st : Stmt} {p : Pos} {as : WA} (F : Fn X.prog X.w X.K X.mg X.base x st ps k g) (hr : Room j X.A) (hk : k ≤ j) (hg : Gl X x) (ha : DA X R (e :: es) as)
    (hdb : (x == ("__debug__" : Str)) = false := by decide) (he : starEach (e :: es) X.env = (false, eval e X.env) :: starEach es X.env := by rfl) (hpl : (backTo pos (starEach es X.env)).any (·.1) = false := by rfl) :
    DE X R (.Call (.Name x p) (e :: es) [] pos) (wCall g as) := by
  obtain ⟨f, fd, F, hm, hb, ok⟩ := F.ex
  exact dE_call ok hr hk hg hm F.kp hb ha hdb he hpl
theorem dE_callKF {k j : Nat} {ps ks : List Str} {pi : List Nat} {g : GSpec} {x : Str} {st : Stmt} {p : Pos} {as : WA} {kws : List Keyword} (F : Fn X.prog X.w X.K X.mg X.base x st ps k g) (hr : Room j X.A) (hk : k ≤ j) (hg : Gl X x) (ha : DK X R kws as) (h0 : ps ≠ [])
    (hb : ∀ (kV doc pm : Value) (an : Option Addr) (cdv ct : Value) (ws : List Value), (perm pi ws).length = ps.length → bindArgs (PySem.W.fnOf x x (defArgs st) (defBody st) (defScope st) .none kV doc pm an cdv ct) ⟨[], ks.zip ws⟩ = pure (ps.zip (perm pi ws)))
    (hall : (backToKw pos (keywordEach kws X.env)).all (·.1.isSome) = true := by rfl) (hks : (backToKw pos (keywordEach kws X.env)).filterMap (·.1) = ks := by rfl)
    (hdb : (x == ("__debug__" : Str)) = false := by decide) (hpl : ((backTo pos (starEach [] X.env)).any (·.1) || (backToKw pos (keywordEach kws X.env)).any (·.1.isNone)) = false := by rfl) :
    DE X R (.Call (.Name x p) [] kws pos) (wCallK g pi as) := by
  obtain ⟨f, fd, F, hm, _, ok⟩ := F.ex
  have hkb : KBinds X.K fd ps ks (gK pi) (gK pi) := by
    obtain ⟨oc, od, kV, doc, pm, an, cdv, ct, osl, rfl, lk, hcd⟩ := F.ex
    exact kbinds h0 (hb kV doc pm an cdv ct)
  exact dE_callK ok hr hk hg hm F.kp hkb ha hall hks hdb hpl
end
/-! the well is made: a def that returns what is its own -/
def spW (K : PySem.W.Frag) (n : Nat) (wellOf : List Int → Wel) : Sp := fun vs H Q _ => ∃ (a : Addr) (ns : List Int), vs = [.ref a] ∧ Only H ∧ SqL K H a (ns.map V.int) ∧ ns.length ≤ n ∧
  ∀ q r H', (∀ b o, H b = some o → H' b = some o) → H q = none → H r = none → WelAt H' q r (wellOf ns) → Q (.ref q) H'
structure FnW (P : Program) (w : World) (K : PySem.W.Frag) (mg : Str → Option Value) (base : Heap) (x : Str) (k : Nat) (n : Nat) (wellOf : List Int → Wel) : Prop where
  ex : ∃ (f : Addr) (fd : FuncData) (ps : List Str), mg x = some (.ref f) ∧ PySem.W.keepIn K (.ref f) = true ∧ Binds K fd ps [] ∧ FnOk P w K mg base CX0 k f fd ps (spW K n wellOf)
section
variable {X : Cx} {R : XP} {P : Program} {w : World} {K : PySem.W.Frag} {mg : Str → Option Value} {base : Heap} {e : Expr} {es : List Expr} {pos : Pos}
def welDict (w : Wel) : PyData := .dict [(.str "deep", .list (w.deep.map .int)), (.str "mix", .int w.mix), (.str "drawn", .int w.drawn)]
theorem Raw.fnW {x : Str} {st s1 s2 : Stmt} {N : List Str} {p : Str} {k n : Nat} {wellOf : List Int → Wel} {wr : WE} {u1 u2 : WS} (r : Raw K mg x st [p]) (S : FnScope N [p] (defScope st)) (hN : 1 ≤ N.length) (hbd : defBody st = [s1, s2, .Return (some e) pos])
    (hbody : ∀ (cdv : Value) (A : Around) (outer : List Env) (s : Shared) (H : Hp) (E : XK) (f : Addr), Room k (A.deeper (envOfC x (defScope st) s.heap.objs.size f cdv)) →
      DS (cxOf CX0 P w K mg base N x (defScope st) f cdv A outer s H E).nox X0 s1 u1 ∧ DS (cxOf CX0 P w K mg base N x (defScope st) f cdv A outer s H E).nox X0 s2 u2 ∧ DF (cxOf CX0 P w K mg base N x (defScope st) f cdv A outer s H E).nox X0 e wr)
    (hw : ∀ ns : List Int, ns.length ≤ n → u1 noX { nx := fun M1 => u2 noX { nx := fun M2 => wr noX M2 fun d _ => d = welDict (wellOf ns), rt := fun _ _ => False } M1, rt := fun _ _ => False } (mem0 N.length [.scr ns] none)) : FnW P w K mg base x (k + 1) n wellOf := by
  obtain ⟨f, fd, F, hm, hb⟩ := r.ex
  refine ⟨f, fd, [p], hm, F.kp, hb, F.ok S (fun vs H Q E h => ?_) fun cdv A outer s H vs Q E hr h => ?_⟩
  · obtain ⟨a, ns, rfl, _⟩ := h
    rfl
  · obtain ⟨a, ns, rfl, only, hS, hl, q⟩ := h
    obtain ⟨h1, h2, h3⟩ := hbody cdv A outer s H E f hr
    obtain ⟨t1, p1, q1⟩ := h1.ex
    obtain ⟨t2, p2, q2⟩ := h2.ex
    obtain ⟨t3, p3, q3⟩ := h3.ex
    refine ⟨_, by rw [hbd]; exact pss_cons p1 (pss_cons p2 (pss_one (ps_ret p3))), ?_⟩
    have rel : Rel K H H none (mem0 N.length [.scr ns] none) (L2.start N [.ref a]) H H := rel_start (.refl H) (.cons (a := .scr ns) ⟨a, rfl, hS⟩ .nil) trivial hN
    have lk : Lnk K X0 H H noX := fun _ _ _ _ _ _ _ _ _ _ z => z.elim
    refine q1 (xn := noX) rel lk (hw ns hl) ⟨fun M1 σ1 F1 H1 s1 r1 z1 => ?_, fun _ _ _ _ _ _ _ _ _ z => z.elim, fun _ _ _ _ _ _ z => z.elim, fun _ _ _ _ _ _ z => z.elim⟩
    · refine q2 (xn := noX) r1 lk z1 ⟨fun M2 σ2 F2 H2 s2 r2 z2 => ?_, fun _ _ _ _ _ _ _ _ _ z => z.elim, fun _ _ _ _ _ _ z => z.elim, fun _ _ _ _ _ _ z => z.elim⟩
      · refine q3 (xn := noX) r2 lk z2 fun p d M' F' H' s r3 f3 z => ?_
        subst z
        cases f3.at_ with
        | @dic ks _ hp hk dv =>
          -- three keys
          have newL : ∀ {b : Addr} {vs : List V}, F' b = some (.lst vs) → H b = none := fun {b vs} e => by
            rcases r3.fnw b _ e with y | y
            · rcases only b with z | ⟨ob, xs, z⟩
              · exact z
              · rw [z] at y; cases y
            · exact y
          match ks, hk, dv, hp with
          | [(k1, v1), (k2, v2), (k3, v3)], hk, dv, hp =>
            simp only [List.map_cons, List.map_nil, List.cons.injEq, and_true] at hk
            have kk : ∀ {z : Str} {k : Key}, PyData.str z = kD k → k = .inr z := fun {z k} e => by
              cases k with
              | inl i => cases e
              | inr y => cases e; rfl
            rw [kk hk.1, kk hk.2.1, kk hk.2.2] at hp
            cases dv with
            | cons d1 dv => cases dv with
              | cons d2 dv => cases dv with
                | cons d3 dv =>
                  cases d2
                  cases d3
                  cases d1 with
                  | lst hr dr =>
                    rename_i rr vs
                    have ev := dr.ints
                    subst ev
                    have nq : H p = none := f3.n0
                    have hr' := r3.sub _ _ hr
                    refine q p rr H' (fun b o e => r3.old b o e (fun z => z)) nq (newL hr) ⟨hp, hr', fun z => ?_⟩
                    subst z
                    rw [hp] at hr'; cases hr'
theorem law_ofD {x : Str} {st : Stmt} {rest : List Stmt} {N : List Str} {p y gw : Str} {i n k : Nat} {wellOf : List Int → Wel} {f : Addr} {fd : FuncData} {py pg pp pc : Pos} {spos : Pos} (F : Fun K x x st f fd) (S : FnScope N [p] (defScope st)) (hN : 1 ≤ N.length)
    (hb : ∀ (s : Shared) (u : Value), BindsTo s fd ⟨[u], []⟩ [(p, u)]) (hbd : defBody st = .Assign [.Name y py] (.Call (.Name gw pg) [.Name p pp] [] pc) spos :: rest) (W : FnW P w K mg base gw k n wellOf) (hk : k ≤ 100)
    (hi : N[i]? = some y) (hi0 : i ≠ 0) (h0 : N[0]? = some p)
    (hbody : ∀ (cdv : Value) (s : Shared) (H : Hp), ∃ u, DSs (cxOf CX0 P w K mg base N x (defScope st) f cdv callerA [] s H E0).nox X0 rest u ∧
      ∀ ns : List Int, ns.length ≤ n → u noX { nx := fun _ => False, rt := fun d _ => d = .bool true } ⟨(List.replicate N.length none).set i (some .wel), some (wellOf ns)⟩)
    (hside : ∀ (cdv : Value) (s : Shared) (H : Hp), ∃ t1 : TS, PS (cxOf CX0 P w K mg base N x (defScope st) f cdv callerA [] s H E0).nox (.Assign [.Name y py] (.Call (.Name gw pg) [.Name p pp] [] pc) spos) t1 ∧
      ∀ (D : Ends) (σ : List (Option V)) (H : Hp), (∃ v, σ[0]? = some (some v) ∧ ∀ Q, (Q = fun u H2 => D.nx (σ.set i (some u)) H2) → spW K n wellOf [v] H Q E0) → t1 D σ H) : LawOk P w K mg base f n := by
  refine law_of F S hb fun cdv s H a ns hl only hS => ?_
  obtain ⟨u, hu, hU⟩ := hbody cdv s H
  obtain ⟨t1, p1, q1⟩ := hside cdv s H
  obtain ⟨t2, p2, q2⟩ := hu.ex
  refine ⟨_, by rw [hbd]; exact pss_cons p1 p2, ?_⟩
  refine q1 _ _ _ ⟨.ref a, rfl, fun Q hQ => ⟨a, ns, rfl, only, hS, hl, fun q r H' keep nq nr wa => ?_⟩⟩
  subst hQ
  have lk : Lnk K X0 H H' noX := fun _ _ _ _ _ _ _ _ _ _ z => z.elim
  refine q2 (F0 := H) (H0 := H') (F := H) (W := some (q, r)) (M := ⟨(List.replicate N.length none).set i (some .wel), some (wellOf ns)⟩) (xn := noX) ⟨keep, fun _ _ e _ => e, .refl _, fun _ _ e => .inl e, ?_, fun j e h => ?_, fun j j' d e v ne h => ?_, ⟨wa, nq, nr⟩⟩ lk (hU ns hl) ⟨fun _ _ _ _ _ _ z => z.elim, fun v d M' σ' F' H'' s r dv z => ?_, fun _ _ _ _ _ _ z => z.elim, fun _ _ _ _ _ _ z => z.elim⟩
  · simp [L2.start]; omega
  · have h : ((List.replicate N.length (none : Option Ent)).set i (some .wel))[j]? = some (some e) := h
    have hN' := (List.getElem?_eq_some_iff.mp hi).1
    by_cases ej : j = i
    · subst ej
      rw [List.getElem?_set_self (by simpa using hN')] at h
      cases h
      refine ⟨.ref q, ?_, q, r, rfl, rfl⟩
      rw [List.getElem?_set_self]
      simp [L2.start]; omega
    · rw [List.getElem?_set_ne (fun z => ej z.symm), List.getElem?_replicate] at h
      split at h <;> simp at h
  · exfalso
    have h : ((List.replicate N.length (none : Option Ent)).set i (some .wel))[j]? = some (some (.ow d)) := h
    by_cases ej : j = i
    · subst ej
      rw [List.getElem?_set_self (by simpa using (List.getElem?_eq_some_iff.mp hi).1)] at h
      cases h
    · rw [List.getElem?_set_ne (fun z => ej z.symm), List.getElem?_replicate] at h
      split at h <;> simp at h
  · subst z
    cases dv
    rfl
end
end DL

/-! DL16: two names at once, each what is seen or what is one's own. -/
namespace DL
open PySem PySem.Spec L2 PyProof.Rows
def PVal (K : PySem.W.Frag) (H0 : Hp) (W : Option (Addr × Addr)) (M : Mem) (σ : List (Option V)) (F H : Hp) (v : V) : Ent → Prop
  | .im d => DV K F v d
  | .ow d => ∃ p, v = .ref p ∧ Fresh K H0 W M σ F H p d
  | _ => False
abbrev WZ := Xn → Mem → (Ent → Mem → Prop) → Prop
structure DZ (X : Cx) (R : XP) (e : Expr) (w : WZ) : Prop where
  ex : ∃ t : TE, PE X e t ∧ ∀ {F0 H0 F H : Hp} {W : Option (Addr × Addr)} {M : Mem} {σ : List (Option V)} {xn : Xn} {Q : Ent → Mem → Prop} {k : VK}, Rel X.K F0 H0 W M σ F H → Lnk X.K R F0 H0 xn → w xn M Q →
    (∀ v e M' F' H', Same F F' → Rel X.K F0 H0 W M' σ F' H' → PVal X.K H0 W M' σ F' H' v e → Q e M' → k v H') → t σ H k
section
variable {X : Cx} {R : XP} {K : PySem.W.Frag} {e a b c : Expr} {pos : Pos} {wa wb : WE}
def zE (wa : WE) : WZ := fun xn M Q => wa xn M fun d M1 => Q (.im d) M1
def zF (wa : WE) : WZ := fun xn M Q => wa xn M fun d M1 => Q (.ow d) M1
theorem dZ_e (h : DE X R e wa) : DZ X R e (zE wa) := by
  obtain ⟨t, p, q⟩ := h.ex
  exact ⟨t, p, fun r l hw k => q r l hw fun v d M' F' H' s r' f z => k v (.im d) M' F' H' s r' f z⟩
theorem dZ_f (h : DF X R e wa) : DZ X R e (zF wa) := by
  obtain ⟨t, p, q⟩ := h.ex
  exact ⟨t, p, fun r l hw k => q r l hw fun p d M' F' H' s r' f z => k (.ref p) (.ow d) M' F' H' s r' ⟨p, rfl, f⟩ z⟩
/-- what was got stands while another expression is taken -/
theorem PVal.after {F0 H0 F1 H1 F2 H2 : Hp} {W : Option (Addr × Addr)} {M : Mem} {wl : Option Wel} {σ : List (Option V)} {v : V} {e : Ent} (r : Rel K F0 H0 W M σ F1 H1) (af : After F1 H1 W F2 H2) (h : PVal K H0 W M σ F1 H1 v e) : PVal K H0 W ⟨M.env, wl⟩ σ F2 H2 v e := by
  cases e with
  | im d => exact DV.same af.f h
  | ow d =>
    obtain ⟨p, rfl, f⟩ := h
    obtain ⟨u, hu⟩ := f.at_.there
    have ha := af.h _ _ hu f.nw
    refine ⟨p, rfl, f.at_.move af.f (ha.trans hu.symm), ?_, f.n0, f.nw, f.ns⟩
    cases y : F2 p with
    | none => rfl
    | some o =>
      rcases af.n p o y with t | t
      · rw [f.nf] at t; cases t
      · rw [hu] at t; cases t
  | _ => exact h.elim
theorem PVal.back {F0 H0 F1 H1 F2 H2 : Hp} {W : Option (Addr × Addr)} {M M2 : Mem} {wl : Option Wel} {σ : List (Option V)} {v : V} {e : Ent} (r : Rel K F0 H0 W M σ F1 H1) (h : PVal K H1 W M2 σ F2 H2 v e) : PVal K H0 W ⟨M.env, wl⟩ σ F2 H2 v e := by
  cases e with
  | im d => exact h
  | ow d =>
    obtain ⟨p, rfl, f⟩ := h
    refine ⟨p, rfl, f.at_, f.nf, ?_, f.nw, fun i d' hi hs => ?_⟩
    · cases y : H0 p with
      | none => rfl
      | some o =>
        have := r.old p o y f.nw
        rw [f.n0] at this; cases this
    · obtain ⟨v, h1, q, rfl, o, _⟩ := r.slt i _ hi
      rw [hs] at h1
      cases h1
      obtain ⟨u, hu⟩ := o.there
      rw [f.n0] at hu; cases hu
  | _ => exact h.elim
theorem Rel.setP {F0 H0 F H : Hp} {W : Option (Addr × Addr)} {M : Mem} {σ : List (Option V)} {v : V} {e : Ent} {i : Nat} (r : Rel K F0 H0 W M σ F H) (h : PVal K H0 W M σ F H v e) : Rel K F0 H0 W (M.set i e) (σ.set i (some v)) F H := by
  cases e with
  | im d => exact r.setIm h
  | ow d => obtain ⟨p, rfl, f⟩ := h; exact r.setOw f
  | _ => exact h.elim
theorem PVal.set {H0 H1 F H : Hp} {W : Option (Addr × Addr)} {M : Mem} {σ : List (Option V)} {v v1 : V} {e e1 : Ent} {i : Nat} (h1 : PVal K H0 W M σ F H v1 e1) (hp : ∀ p, v1 = .ref p → ∀ d, e1 = .ow d → H1 p ≠ none) {M2 : Mem} (h : PVal K H1 W M2 σ F H v e) (h' : PVal K H0 W M σ F H v e) : PVal K H0 W (M.set i e1) (σ.set i (some v1)) F H v e := by
  cases e with
  | im d => exact h'
  | ow d =>
    obtain ⟨p, rfl, f⟩ := h'
    obtain ⟨p', e', f'⟩ := h
    cases e'
    refine ⟨p, rfl, f.at_, f.nf, f.n0, f.nw, fun j d' hj hs => ?_⟩
    rcases getSet hj with ⟨rfl, z⟩ | ⟨ne, hj⟩
    · cases z
      rw [List.getElem?_set] at hs
      rw [if_pos rfl] at hs
      split at hs
      · cases hs
        exact hp p rfl _ rfl f'.n0
      · cases hs
    · rw [List.getElem?_set_ne ne] at hs
      exact f.ns j d' hj hs
  | _ => exact h'.elim
def uPar2 (i j : Nat) (za zb : WZ) : WS := fun xn De M => za xn M fun d1 M1 => zb noX M1.ro fun d2 M2 => De.nx ((Mem.set ⟨M1.env, M2.wl⟩ i d1).set j d2)
theorem dS_par2 {i j : Nat} {x y : Str} {px py pt : Pos} {kt k2 : Nat} {pt2 : Pos} {za zb : WZ} (hc : X.calm = true) (hN : X.N.Nodup) (hi : X.N[i]? = some x) (hj : X.N[j]? = some y) (hij : i ≠ j)
    (hx : X.env.scope.names.lookup x = some .local) (hy : X.env.scope.names.lookup y = some .local) (ha : DZ X R a za) (hb : DZ X X0 b zb)
    (hw : swappedStores [.Tuple [.Name x px, .Name y py] kt pt] (.Tuple [a, b] k2 pt2) X.env = pure (some [x, y]) := by rfl)
    (hs : swapsWithSole [.Tuple [.Name x px, .Name y py] kt pt] (.Tuple [a, b] k2 pt2) pos.line X.env = pure false := by rfl)
    (h1 : starEach [a, b] X.env = (false, eval a X.env) :: starEach [b] X.env := by rfl) (h2 : starEach [b] X.env = (false, eval b X.env) :: starEach [] X.env := by rfl) :
    DS X R (.Assign [.Tuple [.Name x px, .Name y py] kt pt] (.Tuple [a, b] k2 pt2) pos) (uPar2 i j za zb) := by
  obtain ⟨t, p, q⟩ := ha.ex
  obtain ⟨t2, p2, q2⟩ := hb.ex
  refine ⟨_, ps_par hc hN hi hj hij hx hy (pa_cons p (pa_cons p2 pa_nil h2) h1) hw hs, fun {F0 H0 F H W M σ xn De D} r l hw E => ?_⟩
  refine q r l hw fun v1 e1 M1 F1 H1 s1 r1 g1 z => ?_
  have lk : Lnk X.K X0 F1 H1 noX := fun _ _ _ _ _ _ _ _ _ _ h => h.elim
  refine q2 (r1.toRo) lk z fun v2 e2 M2 F2 H2 s2 r2 g2 z2 => ?_
  refine ⟨v1, v2, rfl, ?_⟩
  have af := r2.after
  have rel := r1.of_after af r2.wel
  have g1' := g1.after (wl := M2.wl) r1 af
  have g2' := PVal.back (wl := M2.wl) r1 g2
  have rel2 := rel.setP (i := i) g1'
  refine E.nx _ _ _ _ (s1.trans s2) (rel2.setP (i := j) (PVal.set g1' (fun p hp d hd hn => ?_) g2 g2')) z2
  subst hp hd
  obtain ⟨p', e', f⟩ := g1
  cases e'
  obtain ⟨u, hu⟩ := f.at_.there
  rw [hn] at hu; cases hu
end
end DL

/-! DL17: names for the printer's sake; the law's frame in short. -/
namespace DL
open PySem PySem.Spec L2 PyProof.Rows
def uBrk : WS := fun _ De M => De.bk M
def uCnt : WS := fun _ De M => De.ct M
def psC (wa wb : WE) (wp : WPs) : WPs := fun xn M Q => wa xn M fun d M1 => wb xn M1 fun e M2 => wp xn M2 fun ps M3 => Q ((d, e) :: ps) M3
def psN : WPs := fun _ M Q => Q [] M
def wRep (oa ob : WO) : WE := fun xn M Q => oa xn M fun x M1 => ob xn M1 fun y M2 => match x.get M2, y.get M2 with
    | some (.list i), some (.int j) => (j < 2 ^ 62 ∧ -(2 ^ 62) < j ∧ i.length * j.toNat ≤ sizeLine) ∧ Q (.list (repL j.toNat i)) M2
    | _, _ => False
def plN : WP := fun _ M Q => Q none M
section
variable {X : Cx} {R : XP} {K : PySem.W.Frag} {e a b c : Expr} {pos : Pos} {wa wb : WE} {oa ob : WO}
theorem dS_brk : DS X R (.Break pos) uBrk := dS_break
theorem dS_cnt : DS X R (.Continue pos) uCnt := dS_cont
theorem dQ_n : DPs X R pos [] [] psN := dPs_n
theorem dQ_c {ks : List (Option Expr)} {vs : List Expr} {wp : WPs} (h1 : DE X R a wa) (h2 : DE X R b wb) (h3 : DPs X R pos ks vs wp) : DPs X R pos (some a :: ks) (b :: vs) (psC wa wb wp) := dPs_c h1 h2 h3
theorem dF_repp (ha : DO X R a oa) (hb : DO X R b ob) : DF X R (.BinOp a .Mult b pos) (wRep oa ob) := dF_rep ha hb
theorem dP_no : DP X R none plN := dP_n
theorem dF_cmp {tg iter elt : Expr} {ifs : List Expr} {scope : Scope} {w : WI} {g : WG} {tt : WT} {te : WE} {is vs : List Nat} (own : List (Str × Nat)) (hc : X.calm = true) (hN : X.N.Nodup) (hi : DI X R tg iter w) (N : List Str) (sc : Scope) (ok : blkC N sc scope own = true)
    (hg : ∀ i : BI, DG (blkX X scope i) tg is g) (ht : ∀ i : BI, DTs (blkX X scope i) X0 ifs tt) (he : ∀ i : BI, DE (blkX X scope i) X0 elt te)
    (eN : X.N = N := by rfl) (es : X.env.scope = sc := by rfl) (hvs : own.map (·.2) = vs := by rfl) (hin : ∀ i ∈ is, i ∈ vs := by decide) (hs : ∀ x, foldedSetIterable iter X.env x = pure x := by intro _; rfl) : DF X R (.ListComp elt [⟨tg, iter, ifs, 0⟩] scope pos) (wComp vs w g tt te) := by
  subst hvs eN es
  exact dF_comp hc hN hi (blkOk_by ok) hg ht he hin hs
theorem dS_cmp {i : Nat} {y : Str} {py spos : Pos} {tg iter elt : Expr} {ifs : List Expr} {scope : Scope} {w : WI} {g : WG} {tt : WT} {te : WE} {is vs : List Nat} (own : List (Str × Nat)) (hc : X.calm = true) (hN : X.N.Nodup) (hy : X.N[i]? = some y) (hyl : X.env.scope.names.lookup y = some .local)
    (hsw : swapsWith (.ListComp elt [⟨tg, iter, ifs, 0⟩] scope pos) (some (.Name y py)) spos.line X.env = pure true) (hi : DI X R tg iter w) (N : List Str) (sc : Scope) (ok : blkC N sc scope own = true)
    (hg : ∀ i : BI, DG (blkX X scope i) tg is g) (ht : ∀ i : BI, DTs (blkX X scope i) X0 ifs tt) (he : ∀ i : BI, DE (blkX X scope i) X0 elt te)
    (eN : X.N = N := by rfl) (es : X.env.scope = sc := by rfl) (hvs : own.map (·.2) = vs := by rfl) (hin : ∀ i ∈ is, i ∈ vs := by decide) (hs : ∀ x, foldedSetIterable iter X.env x = pure x := by intro _; rfl) : DS X R (.Assign [.Name y py] (.ListComp elt [⟨tg, iter, ifs, 0⟩] scope pos) spos) (uAsgO (wComp vs w g tt te) i) := by
  subst hvs eN es
  exact dS_comp hc hN hy hyl hsw hi (blkOk_by ok) hg ht he hin hs
end
/-! what is looked at step by step: continuations are left alone (nothing rewrites what a later argument's type speaks of) -/
inductive Lock {α : Sort _} (a : α) : Type
  | mk
def callG (g : GSpec) (args : List Arg) (wl : Option Wel) (Q : PyData → Option Wel → Prop) (_ : Lock Q) : Prop := g args wl Q
theorem wCall_eq {g : GSpec} {as : WA} {xn : Xn} {M : Mem} {Q : QD} : wCall g as xn M Q = as xn M fun xs M1 => callG g xs M1.wl (fun d wl => Q d ⟨M1.env, wl⟩) .mk := rfl
theorem wCallK_eq {g : GSpec} {pi : List Nat} {as : WA} {xn : Xn} {M : Mem} {Q : QD} : wCallK g pi as xn M Q = as xn M fun xs M1 => callG g (perm pi xs) M1.wl (fun d wl => Q d ⟨M1.env, wl⟩) .mk := rfl
def forL (ks : List Nat) (g : WG) (tb : WS) (xn : Xn) (De : DEn) (_ : Lock De) (ds : List PyData) (M : Mem) : Prop := forW ks g tb xn De ds M
theorem uFor_eq {ks : List Nat} {wi : WI} {g : WG} {tb : WS} {xn : Xn} {De : DEn} {M : Mem} : uFor ks wi g tb xn De M = wi xn M fun ds M1 => forL ks g tb xn De .mk ds M1 := rfl
def compL (vs : List Nat) (g : WG) (tt : WT) (te : WE) (env : List (Option Ent)) (ds : List PyData) (wl : Option Wel) (Q : List PyData → Option Wel → Prop) (_ : Lock Q) : Prop := compW vs g tt te (fun _ _ => False) env ds wl Q
theorem wComp_eq {vs : List Nat} {wi : WI} {g : WG} {tt : WT} {te : WE} {xn : Xn} {M : Mem} {Q : QD} : wComp vs wi g tt te xn M Q = wi xn M fun ds M1 => ds.length ≤ sizeLine ∧ compL vs g tt te M1.env ds M1.wl (fun ys wl => Q (.list ys) ⟨M1.env, wl⟩) .mk := rfl
def whileL (ks : List Nat) (tc : WT) (tb : WS) (xn : Xn) (De : DEn) (_ : Lock De) (M : Mem) : Prop := uWhile ks tc tb xn De M
theorem uWhile_eq {ks : List Nat} {tc : WT} {tb : WS} {xn : Xn} {De : DEn} {M : Mem} : uWhile ks tc tb xn De M = whileL ks tc tb xn De .mk M := rfl
def seqL (u v : WS) (xn : Xn) (De : DEn) (_ : Lock De) (M : Mem) : Prop := uSeqM u v xn De M
theorem uSeqM_eq {u v : WS} {xn : Xn} {De : DEn} {M : Mem} : uSeqM u v xn De M = seqL u v xn De .mk M := rfl
theorem seq_i {u v : WS} {xn : Xn} {De : DEn} {l : Lock De} {M : Mem} (Mid : Mem → Prop) (h1 : u xn { De with nx := Mid } M) (h2 : ∀ M', Mid M' → v xn De M') : seqL u v xn De l M := ⟨Mid, h1, h2⟩
theorem for_i {ks : List Nat} {g : WG} {tb : WS} {xn : Xn} {De : DEn} {l : Lock De} {ds : List PyData} {M : Mem} (I : Nat → Mem → Prop) (h0 : I 0 M)
    (hs : ∀ i d M', ds[i]? = some d → I i M' → g d (M'.kill ks) fun M1 => tb xn { nx := I (i + 1), rt := De.rt, bk := fun M'' => De.nx (M''.kill ks), ct := I (i + 1) } M1) (he : ∀ M', I ds.length M' → De.nx (M'.kill ks)) : forL ks g tb xn De l ds M := ⟨I, h0, hs, he⟩
theorem while_i {ks : List Nat} {tc : WT} {tb : WS} {xn : Xn} {De : DEn} {l : Lock De} {M : Mem} (I : Nat → Mem → Prop) (m : Nat) (h0 : I m (M.kill ks))
    (hs : ∀ m M, I m M → tc xn M fun b M1 => if b = true then
      tb xn { nx := fun M' => ∃ m', m' < m ∧ I m' (M'.kill ks), rt := De.rt, bk := fun M' => De.nx (M'.kill ks), ct := fun M' => ∃ m', m' < m ∧ I m' (M'.kill ks) } M1 else De.nx M1) : whileL ks tc tb xn De l M := ⟨I, ⟨m, h0⟩, hs⟩
theorem comp_i {vs : List Nat} {g : WG} {tt : WT} {te : WE} {env : List (Option Ent)} {ds : List PyData} {wl : Option Wel} {Q : List PyData → Option Wel → Prop} {l : Lock Q} (I : Nat → List PyData → Option Wel → Prop) (h0 : I 0 [] wl)
    (hs : ∀ i d ys wl', ds[i]? = some d → I i ys wl' → g d ((Mem.mk env wl').ro.kill vs) fun M1 => tt (fun _ _ => False) M1 fun b M2 => if b = true then te (fun _ _ => False) M2 fun y M3 => I (i + 1) (ys ++ [y]) M3.wl else I (i + 1) ys M2.wl)
    (he : ∀ ys wl', I ds.length ys wl' → Q ys wl') : compL vs g tt te env ds wl Q l := ⟨I, h0, hs, he⟩
theorem comp_map {vs : List Nat} {g : WG} {te : WE} {env : List (Option Ent)} {ds : List PyData} {wl : Option Wel} {Q : List PyData → Option Wel → Prop} {l : Lock Q} (f : PyData → PyData)
    (h : ∀ d ∈ ds, ∀ P : PyData → Option Wel → Prop, P (f d) wl → g d ((Mem.mk env wl).ro.kill vs) fun M1 => te (fun _ _ => False) M1 fun y M3 => P y M3.wl) (hq : Q (ds.map f) wl) : compL vs g ttY te env ds wl Q l := compW_map f h hq
theorem comp_filter {vs : List Nat} {g : WG} {tt : WT} {te : WE} {env : List (Option Ent)} {ds : List PyData} {wl : Option Wel} {Q : List PyData → Option Wel → Prop} {l : Lock Q} (f : PyData → PyData) (p : PyData → Bool)
    (h : ∀ d ∈ ds, ∀ P : PyData → Option Wel → Prop, ∀ P2 : Option Wel → Prop, (p d = true → P (f d) wl) → (p d = false → P2 wl) → g d ((Mem.mk env wl).ro.kill vs) fun M1 => tt (fun _ _ => False) M1 fun b M2 => if b = true then te (fun _ _ => False) M2 fun y M3 => P y M3.wl else P2 M2.wl) (hq : Q ((ds.filter p).map f) wl) : compL vs g tt te env ds wl Q l := compW_filter f p h hq
end DL

/-! DL18: orders of data that are alike, pop(i), list(text), replace where a token is out. -/
namespace DL
open PySem PySem.Spec L2 PyProof.Rows
open PySem.W (alike dataLt gt_data lt_data le_data ge_data)
section
variable {X : Cx} {R : XP} {K : PySem.W.Frag} {e a b c tg iter : Expr} {es : List Expr} {st : Stmt} {rest body : List Stmt} {pos : Pos} {wa wb wc : WE} {oa ob oc : WO} {u v : WS}
/-! orders -/
def Alk (x y : PyData) : Prop := flat x = true ∧ flat y = true ∧ alike x y = true ∧ x ≠ .none ∧ x.depth ≤ 64
abbrev rCmpD (K : PySem.W.Frag) (f : PyData → PyData → Bool) : R2 := fun x y H Q => ∃ dx dy, Dp K H x dx ∧ Dp K H y dy ∧ alike dx dy = true ∧ dx ≠ .none ∧ dx.depth ≤ 64 ∧ Q (.bl (f dx dy)) H
theorem dCmpD {f : PyData → PyData → Bool} : DOp K (rCmpD K f) (fun x y Q => Alk x y ∧ Q (.bool (f x y))) := by
  intro F H vx vy dx dy Qd k s hx hy h kk
  obtain ⟨⟨h1, h2, h3, h4, h5⟩, h⟩ := h
  exact ⟨dx, dy, hx.dp s h1, hy.dp s h2, h3, h4, h5, kk _ _ _ _ (.refl s) (.bl _) h⟩
theorem op_gtDt (hu : X.A.units + 64 < cLine) : OpR X (compareOp .Gt) (rCmpD X.K fun x y => dataLt y x) := by
  intro pins s σ H x y u v Q I rx ry h
  obtain ⟨dx, dy, h1, h2, h3, h4, h5, q⟩ := h
  obtain ⟨as, ra⟩ := Dp.reads I dx x u h1 rx
  obtain ⟨bs, rb⟩ := Dp.reads I dy y v h2 ry
  exact gt_data ra rb h3 h4 (by have : min dx.depth dy.depth ≤ dx.depth := Nat.min_le_left _ _; omega) ⟨.bl _, H, I, rfl, q⟩
theorem op_ltDt (hu : X.A.units + 64 < cLine) : OpR X (compareOp .Lt) (rCmpD X.K fun x y => dataLt x y) := by
  intro pins s σ H x y u v Q I rx ry h
  obtain ⟨dx, dy, h1, h2, h3, h4, h5, q⟩ := h
  obtain ⟨as, ra⟩ := Dp.reads I dx x u h1 rx
  obtain ⟨bs, rb⟩ := Dp.reads I dy y v h2 ry
  exact lt_data ra rb h3 h4 (by have : min dx.depth dy.depth ≤ dx.depth := Nat.min_le_left _ _; omega) ⟨.bl _, H, I, rfl, q⟩
theorem op_leDt (hu : X.A.units + 64 < cLine) : OpR X (compareOp .LtE) (rCmpD X.K fun x y => !dataLt y x) := by
  intro pins s σ H x y u v Q I rx ry h
  obtain ⟨dx, dy, h1, h2, h3, h4, h5, q⟩ := h
  obtain ⟨as, ra⟩ := Dp.reads I dx x u h1 rx
  obtain ⟨bs, rb⟩ := Dp.reads I dy y v h2 ry
  exact le_data ra rb h3 h4 (by have : min dx.depth dy.depth ≤ dx.depth := Nat.min_le_left _ _; omega) ⟨.bl _, H, I, rfl, q⟩
theorem op_geDt (hu : X.A.units + 64 < cLine) : OpR X (compareOp .GtE) (rCmpD X.K fun x y => !dataLt x y) := by
  intro pins s σ H x y u v Q I rx ry h
  obtain ⟨dx, dy, h1, h2, h3, h4, h5, q⟩ := h
  obtain ⟨as, ra⟩ := Dp.reads I dx x u h1 rx
  obtain ⟨bs, rb⟩ := Dp.reads I dy y v h2 ry
  exact ge_data ra rb h3 h4 (by have : min dx.depth dy.depth ≤ dx.depth := Nat.min_le_left _ _; omega) ⟨.bl _, H, I, rfl, q⟩
theorem DOp.or {r r' : R2} {f g : DF2} (p : PyData → PyData → Bool) (h : DOp K r f) (h' : DOp K r' g) : DOp K (fun x y H Q => r x y H Q ∨ r' x y H Q) (fun x y Q => if p x y = true then f x y Q else g x y Q) := by
  intro F H vx vy dx dy Qd k s hx hy z kk
  by_cases hp : p dx dy = true
  · simp only [hp, if_true] at z
    exact .inl (h s hx hy z kk)
  · simp only [hp] at z
    exact .inr (h' s hx hy z kk)
theorem DOp.orR {r r' : R2} {g : DF2} (h' : DOp K r' g) : DOp K (fun x y H Q => r x y H Q ∨ r' x y H Q) g := fun s hx hy z kk => .inr (h' s hx hy z kk)
def fGtD : DF2 := fun x y Q => match x, y with
  | .int i, .int j => Q (.bool (decide (j < i)))
  | x, y => Alk x y ∧ Q (.bool (dataLt y x))
def fLtD : DF2 := fun x y Q => match x, y with
  | .int i, .int j => Q (.bool (decide (i < j)))
  | x, y => Alk x y ∧ Q (.bool (dataLt x y))
def fLeD : DF2 := fun x y Q => match x, y with
  | .int i, .int j => Q (.bool (decide (i ≤ j)))
  | x, y => Alk x y ∧ Q (.bool (!dataLt y x))
def fGeD : DF2 := fun x y Q => match x, y with
  | .int i, .int j => Q (.bool (decide (j ≤ i)))
  | x, y => Alk x y ∧ Q (.bool (!dataLt x y))
abbrev rGtD (K : PySem.W.Frag) : R2 := fun x y H Q => (rI0 fun i j => .bl (decide (j < i))) x y H Q ∨ rCmpD K (fun x y => dataLt y x) x y H Q
abbrev rLtD (K : PySem.W.Frag) : R2 := fun x y H Q => (rI0 fun i j => .bl (decide (i < j))) x y H Q ∨ rCmpD K (fun x y => dataLt x y) x y H Q
abbrev rLeD (K : PySem.W.Frag) : R2 := fun x y H Q => (rI0 fun i j => .bl (decide (i ≤ j))) x y H Q ∨ rCmpD K (fun x y => !dataLt y x) x y H Q
abbrev rGeD (K : PySem.W.Frag) : R2 := fun x y H Q => (rI0 fun i j => .bl (decide (j ≤ i))) x y H Q ∨ rCmpD K (fun x y => !dataLt x y) x y H Q
theorem hGtD (hu : X.A.units + 64 < cLine) : OpR X (compareOp .Gt) (rGtD X.K) := op_gt.or (op_gtDt hu)
theorem hLtD (hu : X.A.units + 64 < cLine) : OpR X (compareOp .Lt) (rLtD X.K) := op_lt.or (op_ltDt hu)
theorem hLeD (hu : X.A.units + 64 < cLine) : OpR X (compareOp .LtE) (rLeD X.K) := op_le.or (op_leDt hu)
theorem hGeD (hu : X.A.units + 64 < cLine) : OpR X (compareOp .GtE) (rGeD X.K) := op_ge.or (op_geDt hu)
theorem dGtD : DOp K (rGtD K) fGtD := by
  intro F H vx vy dx dy Qd k s hx hy h kk
  unfold fGtD at h
  split at h
  · rename_i i j
    rw [hx.int, hy.int]
    exact .inl ⟨i, j, rfl, rfl, kk _ _ _ _ (.refl s) (.bl _) h⟩
  · exact .inr (dCmpD s hx hy h kk)
theorem dLtD : DOp K (rLtD K) fLtD := by
  intro F H vx vy dx dy Qd k s hx hy h kk
  unfold fLtD at h
  split at h
  · rename_i i j
    rw [hx.int, hy.int]
    exact .inl ⟨i, j, rfl, rfl, kk _ _ _ _ (.refl s) (.bl _) h⟩
  · exact .inr (dCmpD s hx hy h kk)
theorem dLeD : DOp K (rLeD K) fLeD := by
  intro F H vx vy dx dy Qd k s hx hy h kk
  unfold fLeD at h
  split at h
  · rename_i i j
    rw [hx.int, hy.int]
    exact .inl ⟨i, j, rfl, rfl, kk _ _ _ _ (.refl s) (.bl _) h⟩
  · exact .inr (dCmpD s hx hy h kk)
theorem dGeD : DOp K (rGeD K) fGeD := by
  intro F H vx vy dx dy Qd k s hx hy h kk
  unfold fGeD at h
  split at h
  · rename_i i j
    rw [hx.int, hy.int]
    exact .inl ⟨i, j, rfl, rfl, kk _ _ _ _ (.refl s) (.bl _) h⟩
  · exact .inr (dCmpD s hx hy h kk)
/-! xs.pop(i) -/
def wPopAt (i : Nat) (oa : WO) : WE := fun xn M Q => (∃ ds, M.env[i]? = some (some (.ow (.list ds)))) ∧ oa xn M fun o M1 => match o.get M1, M1.env[i]? with
  | some (.int j), some (some (.ow (.list ds))) => (-(2 ^ 62) ≤ j ∧ j < 2 ^ 62) ∧ match ixN ds.length j with
    | some n => match ds[n]? with
      | some d => Q d (M1.set i (.ow (.list (ds.eraseIdx n))))
      | none => False
    | none => False
  | _, _ => False
theorem dE_popAt {i : Nat} {x : Str} {xp apos : Pos} (h : DO X R e oa) (hN : X.N[i]? = some x := by rfl) (hv : Vis X.env.scope x := by first | exact Or.inl rfl | exact Or.inr (Or.inl rfl) | exact Or.inr (Or.inr rfl)) (hd : (x == ("__debug__" : Str)) = false := by decide)
    (hcd : (x == ("__classdict__" : Str)) = false := by decide)
    (hbase : attributeBase (.Name x xp) "pop" X.env (eval (.Name x xp) X.env) = eval (.Name x xp) X.env := by rfl)
    (hfew : ((backTo pos (starEach [e] X.env)).all (fun x => !x.1) && (backToKw pos (keywordEach [] X.env)).all (fun x => x.1.isSome)
      && decide ([e].length + ([] : List Keyword).length + (if ([] : List Keyword).isEmpty then 0 else 1) < 30)) = true := by rfl)
    (hline : (apos.endLine == pos.line) = true := by rfl) (hs : starEach [e] X.env = (false, eval e X.env) :: starEach [] X.env := by rfl) (hplain : (backTo pos (starEach [] X.env)).any (·.1) = false := by rfl) :
    DE X R (.Call (.Attribute (.Name x xp) "pop" apos) [e] [] pos) (wPopAt i oa) := by
  obtain ⟨t, p, q⟩ := h.ex
  refine ⟨_, pe_bm PySem.F.plainAttrs_list PySem.F.slot_list_pop PySem.F.type_list_pop mt_popAt (pe_var (i := i) hN hv hd hcd) (pa_cons p pa_nil hs) hbase hfew hline hs hplain, fun {F0 H0 F H W M σ xn Q k} r l hw kk => ?_⟩
  obtain ⟨⟨ds0, e0⟩, hw⟩ := hw
  obtain ⟨p0, vs0, s0, h0, _⟩ := r.owL e0
  refine ⟨.ref p0, s0, .inl ⟨rfl, _, SqL.of h0⟩, q r l hw fun v o M1 F1 H1 s1 r1 ho z => ?_⟩
  split at z
  · rename_i j ds eo e1
    obtain ⟨⟨b1, b2⟩, z⟩ := z
    split at z
    · rename_i n en
      split at z
      · rename_i d ed
        obtain ⟨p1, vs, s1', h1, d1⟩ := r1.owL e1
        rw [s0] at s1'
        cases s1'
        obtain ⟨w, g1, g2⟩ := d1.get ed
        rw [(r1.opd ho eo).int]
        refine ⟨p0, vs, j, n, w, rfl, rfl, h1, by omega, by omega, by rw [d1.len]; exact (ixN_seq en).1, g1, ?_⟩
        exact kk _ _ _ _ _ s1 (r1.writeOw e1 s0 (.lst upd_same (d1.erase n))) g2 z
      · exact z.elim
    · exact z.elim
  · exact z.elim
/-! list(text) -/
theorem call_listS (hc : X.calm = true) : CallR X (.type "list") (fun xs H Q => ∃ z : Str, xs = [V.str z] ∧ z.cps.toList.length ≤ sizeLine ∧ ∀ l, H l = none → Q (.ref l) (upd H l (.lst (z.cps.toList.map fun c => V.str (S [c]))))) := by
  intro pins s σ H xs us Q I r h
  obtain ⟨z, rfl, hz, q⟩ := h
  obtain ⟨u, rfl, rx⟩ := vals1 r
  obtain ⟨t, rfl⟩ := rx
  refine call_list_str (I.ok.hd hc) z t (fun h' tk acc' c' kp e its => ?_) (by simpa using hz)
  have hv : Vals (z.cps.toList.map fun c => V.str (S [c])) acc'.toList := by
    obtain ⟨h1, h2⟩ := its
    have key : ∀ (l : List Nat) (us : List Value), us.length = l.length → (∀ (j : Nat) (v : Value), us[j]? = some v → ∃ (c : Nat) (u : Tok), l[j]? = some c ∧ v = Value.str ⟨#[c]⟩ u) → Vals (l.map fun c => V.str (S [c])) us := by
      intro l
      induction l with
      | nil => intro us h _; cases us with
        | nil => exact .nil
        | cons _ _ => simp at h
      | cons c l ih =>
        intro us h hh
        cases us with
        | nil => simp at h
        | cons u us =>
          obtain ⟨c', t', e1, e2⟩ := hh 0 u rfl
          simp at e1
          subst e1
          refine .cons ⟨t', e2⟩ (ih us (by simpa using h) fun j v hj => ?_)
          obtain ⟨c', t', e1, e2⟩ := hh (j + 1) v (by simpa using hj)
          exact ⟨c', t', by simpa using e1, e2⟩
    refine key _ _ (by simpa using h1) fun j v hj => ?_
    obtain ⟨c, t', e1, e2⟩ := h2 j v (by simpa using hj)
    exact ⟨c, t', by simpa using e1, e2⟩
  exact ⟨.ref s.heap.objs.size, _, I.laid (t' := tk) kp (Nat.le_refl _) (show ObjOk X.prog X.w _ h' _ (.lst _) from ⟨by simpa using hz, acc'.toList, c', hv, by simpa using e⟩), rfl, q _ (I.hok.fresh (Nat.le_refl _))⟩
def wListA (os : WOs) : WE := fun xn M Q => os xn M fun xs M1 => match getAll xs M1 with
  | some [.list l] => Q (.list l) M1
  | some [.tuple l] => Q (.list l) M1
  | some [.str z] => z.cps.toList.length ≤ sizeLine ∧ Q (.list (z.cps.toList.map fun c => .str (S [c]))) M1
  | _ => False
theorem dF_listA {x : Str} {p : Pos} {os : WOs} (hc : X.calm = true) (hg : Gl X x) (hm : X.mg x = none) (hv : bootBuiltins x = some (.type "list")) (ha : DOs X R [e] os) (hn : x ≠ "__name__" := by decide) (hdb : (x == ("__debug__" : Str)) = false := by decide)
    (he : starEach [e] X.env = (false, eval e X.env) :: starEach [] X.env := by rfl) (hpl : (backTo pos (starEach [] X.env)).any (·.1) = false := by rfl) : DF X R (.Call (.Name x p) [e] [] pos) (wListA os) := by
  obtain ⟨t, q, z⟩ := ha.ex
  refine ⟨_, pe_callTy (call_list_of.or (call_listS hc)) hg hm hv q hn hdb he hpl, fun r l hw kk => z r l hw fun vs os M1 F1 H1 s1 r1 hx y => ?_⟩
  split at y
  · rename_i e1
    obtain ⟨v, rfl, h1⟩ := (views_of r1 hx e1).one
    obtain ⟨p, vs, rfl, a1, a2⟩ := h1.list r1.sub
    refine .inl ⟨p, vs, rfl, .inl (SqL.of a1), fun l hl => ?_⟩
    obtain ⟨r2, f2⟩ := r1.isFresh (o := .lst vs) (d := .list _) hl (.lst upd_same a2)
    exact kk _ _ _ _ _ s1 r2 f2 y
  · rename_i e1
    obtain ⟨v, rfl, h1⟩ := (views_of r1 hx e1).one
    obtain ⟨p, vs, rfl, a1, a2⟩ := h1.tup r1.sub
    refine .inl ⟨p, vs, rfl, .inr a1, fun l hl => ?_⟩
    obtain ⟨r2, f2⟩ := r1.isFresh (o := .lst vs) (d := .list _) hl (.lst upd_same a2)
    exact kk _ _ _ _ _ s1 r2 f2 y
  · rename_i z e1
    obtain ⟨v, rfl, h1⟩ := (views_of r1 hx e1).one
    rw [h1.str]
    have a2 : DVs X.K F1 (z.cps.toList.map fun c => V.str (S [c])) (z.cps.toList.map fun c => PyData.str (S [c])) := by
      have := DVs.ofStrs (K := X.K) (F := F1) (ns := z.cps.toList.map fun c => S [c])
      rw [List.map_map, List.map_map] at this
      exact this
    refine .inr ⟨z, rfl, y.1, fun l hl => ?_⟩
    obtain ⟨r2, f2⟩ := r1.isFresh (o := .lst _) (d := .list _) hl (.lst upd_same a2)
    exact kk _ _ _ _ _ s1 r2 f2 y.2
  · exact y.elim
/-! where a token is out -/
structure DSsT (X : Cx) (R : XP) (st : List Stmt) (u : WS) : Prop where
  ex : ∃ t : TS, PSsT X st t ∧ ∀ {F0 H0 F H : Hp} {W : Option (Addr × Addr)} {M : Mem} {σ : List (Option V)} {xn : Xn} {De : DEn} {D : Ends}, Rel X.K F0 H0 W M σ F H → Lnk X.K R F0 H0 xn → u xn De M → EndsR X.K F0 H0 F W De D → t D σ H
structure DET (X : Cx) (R : XP) (e : Expr) (w : WE) : Prop where
  ex : ∃ t : TE, PET X e t ∧ ∀ {F0 H0 F H : Hp} {W : Option (Addr × Addr)} {M : Mem} {σ : List (Option V)} {xn : Xn} {Q : QD} {k : VK}, Rel X.K F0 H0 W M σ F H → Lnk X.K R F0 H0 xn → w xn M Q →
    (∀ v d M' F' H', Same F F' → Rel X.K F0 H0 W M' σ F' H' → DV X.K F' v d → Q d M' → k v H') → t σ H k
theorem dT_of (h : DSs X R rest u) : DSsT X R rest u := by
  obtain ⟨t, p, q⟩ := h.ex
  exact ⟨t, .of p, q⟩
theorem dT_c (h : DS X R st u) (h2 : DSsT X R rest v) : DSsT X R (st :: rest) (uSeq u v) := by
  obtain ⟨t, p, q⟩ := h.ex
  obtain ⟨t2, p2, q2⟩ := h2.ex
  refine ⟨_, psst_cons (.of p) p2, fun r l hw E => q r l hw ⟨fun M' σ' F' H' s r' z => ?_, E.rt, E.bk, E.ct⟩⟩
  exact q2 r' l z (E.same s)
theorem dT_m (h : DS X R st u) (h2 : DSsT X R rest v) : DSsT X R (st :: rest) (uSeqM u v) := by
  obtain ⟨t, p, q⟩ := h.ex
  obtain ⟨t2, p2, q2⟩ := h2.ex
  refine ⟨_, psst_cons (.of p) p2, fun r l hw E => ?_⟩
  obtain ⟨Mid, h1, h2⟩ := hw
  exact q r l h1 ⟨fun M' σ' F' H' s r' z => q2 r' l (h2 _ z) (E.same s), E.rt, E.bk, E.ct⟩
theorem dET_e (h : DE X R e wa) : DET X R e wa := by
  obtain ⟨t, p, q⟩ := h.ex
  exact ⟨t, fun pins s σ H Q _ I hw => p.run pins s σ H Q I hw, q⟩
/-- e.replace(one written text, another) -/
def wRpl (wa : WE) (y z : Str) : WE := fun xn M Q => wa xn M fun d M1 => match d with
  | .str x => (y ≠ z ∧ x.cps.toList.length + (x.cps.toList.length + 1) * z.cps.toList.length ≤ 16777216) ∧ Q (.str (Txt.replace x y z)) M1
  | _ => False
theorem dET_rpl {y z : Str} {j0 j1 : Nat} {c0 c1 apos : Pos} (h : DET X R e wa)
    (hst : starEach [.Constant (.str y) j0 c0, .Constant (.str z) j1 c1] X.env = [(false, eval (.Constant (.str y) j0 c0) X.env), (false, eval (.Constant (.str z) j1 c1) X.env)] := by rfl)
    (hbase : attributeBase e "replace" X.env (eval e X.env) = eval e X.env := by rfl) (hline : (apos.endLine == pos.line) = true := by rfl) :
    DET X R (.Call (.Attribute e "replace" apos) [.Constant (.str y) j0 c0, .Constant (.str z) j1 c1] [] pos) (wRpl wa y z) := by
  obtain ⟨t, p, q⟩ := h.ex
  refine ⟨fun σ H Q => t σ H fun v H1 => ∃ x, v = .str x ∧ (y ≠ z ∧ x.length + (x.length + 1) * z.length ≤ 16777216) ∧ Q (.str (Txt.replace x y z)) H1, fun pins s σ H Q h0 I hw => ?_, fun r l hw kk => q r l hw fun v d M1 F1 H1 s1 r1 dv y => ?_⟩
  · refine PySem.Call_method2 hbase hst hline (wpAny_mono (PySem.wpAny_toks (p pins s σ H _ h0 I hw)) (fun v s1 q => ?_) fun _ _ x => x.2)
    obtain ⟨hk, x, H1, I1, r1, w, rfl, ⟨hyz, hb⟩, q⟩ := q
    obtain ⟨tx, rfl⟩ := r1
    refine ⟨"str", _, F.plainAttrs_str, F.slot_str_replace, F.type_str_replace, typeIs_str _ _ _, (fun _ e => nomatch e), Calls.callWith_builtin rfl (Calls.evalArgs_plain (Calls.spliced_cons (Calls.Constant_str ?_)))⟩
    refine Calls.spliced_cons (Calls.Constant_str (Calls.spliced_nil ?_))
    exact PySem.SC.replace (show s1.toks ≠ 0 by omega) (show s1.toks + 1 ≠ 0 by omega) (show s1.toks ≠ s1.toks + 1 by omega) (beq_eq_false_iff_ne.mpr hyz) hb fun t' k => ⟨.str (Txt.replace w y z), H1, I1.tok k, ⟨t', rfl⟩, q⟩
  · cases dv with
    | str x => exact ⟨x, rfl, ⟨y.1.1, by rw [strLen, strLen]; exact y.1.2⟩, kk _ _ _ _ _ s1 r1 (.str _) y.2⟩
    | _ => exact y.elim
theorem dT_set {i : Nat} {x : Str} {pos' : Pos} (hN : X.N.Nodup) (hi : X.N[i]? = some x) (hx : Loc X.env.scope x) (h : DET X R e wa) (h2 : DSsT X R rest v) (hs : swapsWith e (some (.Name x pos')) pos.line X.env = pure false := by rfl) (hf : X.fn x = true ∨ X.env.scope.names.lookup x = some .local := by first | exact .inl rfl | exact .inr rfl | assumption) :
    DSsT X R (.Assign [.Name x pos'] e pos :: rest) (uSeq (uAsg wa (gSet i)) v) := by
  obtain ⟨t, p, q⟩ := h.ex
  obtain ⟨t2, p2, q2⟩ := h2.ex
  refine ⟨tSeq (tAsg t (gName i)) t2, psst_cons (fun pins s σ H D h0 I hw => ?_) p2, fun r l hw E => q r l hw fun v d M1 F1 H1 s1 r1 dv z => ?_⟩
  · refine wpAny_Assign_Name (thn (p pins s σ H _ h0 I hw) fun v s1 ⟨w, H1, I1, r1, q1⟩ => ?_) hs
    exact store_ok I1 hN hi hx r1 (fun s2 I2 => ⟨_, H1, I2, q1⟩) hf
  · exact q2 (r1.setIm dv) l z (E.same s1)
end
end DL

/-! DL19: for over a range: behind it a token is out. -/
namespace DL
open PySem PySem.Spec L2 PyProof.Rows
section
variable {X : Cx} {R : XP} {tg iter a : Expr} {body : List Stmt} {pos : Pos}
def PIK (X : Cx) (tg iter : Expr) (wi : TI) : Prop := ∀ (pins : List (Addr × Obj)) (s : Shared) (σ : List (Option V)) (H : Hp) (R : It → Hp → Prop), Inv X pins σ H s → wi σ H R →
    wpAny (model X.prog X.w) X.A (eval iter X.env) (fun v s1 => wpAny (model X.prog X.w) X.A (pyIter v) (fun it s2 => 1 ≤ s2.toks ∧ PIE X pins σ tg R it s2) X.xe s1) X.xe s
theorem pik_range1 {ta : TA} {p : Pos} (hg : Gl X "range") (hm : X.mg "range" = none) (ha : PA X [a] ta) (hs : starEach [a] X.env = [(false, eval a X.env)] := by rfl) : PIK X tg (.Call (.Name "range" p) [a] [] pos) (iRng1 ta) := by
  intro pins s σ H R I h
  refine Call_ (ld_blt I hg hm boot_range (PyProof.Rows.callWith_type1 (thn (ha.run pos pins s σ H _ I h) fun us s1 ⟨vs, H1, I1, r1, q1⟩ => ?_) hs rfl))
  obtain ⟨j, e, b1, b2, q⟩ := q1
  subst e
  cases r1 with
  | cons r rr =>
    cases rr
    obtain ⟨t, rfl⟩ := r
    exact call_range_1 (wpAny_mono (PySem.wpAny_toks_of (n := 1) (show 1 ≤ s1.toks + 1 + 1 by omega) (range_it I1 (by omega) (by omega) b1 b2 (by simpa using q))) (fun _ _ h => h) fun _ _ h => h.2)
/-- a for whose body may lean on a token's being out -/
theorem psk_for {wi : TI} {g : TG} {tb : TS} (hp : PassesOwn (model X.prog X.w) X.A X.env X.xe) (hc : X.calm = true) (hi : PIK X tg iter wi) (hg : PG X tg g) (hb : PSsT X body tb)
    (hs : ∀ x, foldedSetIterable iter X.env x = pure x := by intro _; rfl) : PS X (.For tg iter body [] pos) (tFor wi g tb) := by
  refine ⟨fun pins s σ H D I h => ?_⟩
  refine wpAny_For (thn (hi pins s σ H _ I h) fun v s1 h1 => thn h1 fun itv s2 h2 => ?_) hs
  obtain ⟨k2, it, fp, tn, J, H2, e, I2, T, st2, f2, W, ⟨m0, w0⟩, turn⟩ := h2
  subst e
  have stat : ∀ {Hx : Hp}, (∀ b ∈ fp, Hx b = none) → ∀ b ∈ fp, FpOk X pins Hx b := fun hn b hb => ⟨hn b hb, (f2 b hb).2⟩
  refine codeAny_forLoop_any (fun n sx => 1 ≤ sx.toks ∧ ∃ i σx Hx, Inv X pins σx Hx sx ∧ tn i sx.heap ∧ (∀ b ∈ fp, Hx b = none) ∧ W i n σx Hx) ?_ m0 ⟨k2, 0, σ, H2, I2, st2, fun b hb => (f2 b hb).1, w0⟩
  rintro n s3 ⟨k3, i, σ3, H3, I3, st3, fr3, w3⟩
  rcases turn i n σ3 H3 w3 with ⟨stop, qn⟩ | ⟨go, N, hN, step⟩
  · refine wpAny_passesOwn hp (thn (T.done X rfl rfl rfl hc i pins s3 σ3 H3 X.xe I3 (stat fr3) st3 stop) fun r s4 ⟨hr, I4⟩ => ?_)
    subst hr
    exact wpAny_execs_nil ⟨σ3, H3, I4, qn⟩
  · have dropE : ∀ {α : Type} {t : Sem α} {Q : α → Shared → Prop} {E : Value → Shared → Prop} {sx : Shared}, 1 ≤ sx.toks → wpAny (model X.prog X.w) X.A t Q E sx → wpAny (model X.prog X.w) X.A t (fun a s' => 1 ≤ s'.toks ∧ Q a s') E sx :=
      fun hk h => wpAny_mono (PySem.wpAny_toks_of hk h) (fun _ _ h => h) fun _ _ h => h.2
    refine wpAny_passesOwn hp (thn (dropE k3 (T.item X rfl rfl rfl hc i pins s3 σ3 H3 X.xe I3 (stat fr3) st3 go)) fun r s4 ⟨k4, u, hr, h4⟩ => ?_)
    subst hr
    refine wpAny_passesOwn hp (thn (dropE k4 h4) fun _ s5 ⟨k5, x, H5, I5, r5, y5, st5, fr5⟩ => ?_)
    have I6 := I5.pinned (stat fr5) (T.obj _ _ st5)
    refine wpAny_passesOwn hp (thn (dropE k5 (hg.run _ s5 σ3 H5 x u _ I6 r5 (step x H5 y5))) fun _ s6 ⟨k6, σ6, H6, I7, q6⟩ => ?_)
    refine wpAny_passesOwn hp (thn (dropE k6 (hb _ s6 σ6 H6 _ k6 I7 q6)) fun f s7 ⟨k7, q7⟩ => ?_)
    have again : ∀ {σ7 : List (Option V)} {H7 : Hp}, Inv X (pins ++ pinsAt fp s5.heap) σ7 H7 s7 → N σ7 H7 → ∃ m, m < n ∧ 1 ≤ s7.toks ∧ ∃ i σx Hx, Inv X pins σx Hx s7 ∧ tn i s7.heap ∧ (∀ b ∈ fp, Hx b = none) ∧ W i m σx Hx := fun {σ7 H7} I8 n7 => by
      obtain ⟨m1, hm, w7⟩ := hN σ7 H7 n7
      refine ⟨m1, hm, k7, i + 1, σ7, H7, I8.unpinned, T.keep _ _ _ st5 fun b hb o e => (I8.pin (b, o) (List.mem_append_right _ (List.mem_append_right _ (mem_pinsAt hb e)))).1, fun b hb => ?_, w7⟩
      obtain ⟨o, e, d⟩ := T.obj _ _ st5 b hb
      exact (I8.pin (b, o) (List.mem_append_right _ (List.mem_append_right _ (mem_pinsAt hb e)))).2.1
    cases f with
    | next => obtain ⟨σ7, H7, I8, n7⟩ := q7; exact again I8 n7
    | cont => obtain ⟨σ7, H7, I8, n7⟩ := q7; exact again I8 n7
    | brk => obtain ⟨σ7, H7, I8, q8⟩ := q7; exact ⟨σ7, H7, I8.unpinned, q8⟩
    | ret v => obtain ⟨x7, σ7, H7, I8, r7, q8⟩ := q7; exact ⟨x7, σ7, H7, I8.unpinned, r7, q8⟩
theorem dS_forT (ks : List Nat) {p : Pos} {os : WOs} {g : WG} {is : List Nat} {tb : WS} (hp : PassesOwn (model X.prog X.w) X.A X.env X.xe) (hc : X.calm = true) (hgl : Gl X "range") (hm : X.mg "range" = none) (ha : DOs X R [a] os) (hg : DG X tg is g) (hb : DSsT X R body tb)
    (h1 : starEach [a] X.env = [(false, eval a X.env)] := by rfl) (hs : ∀ x, foldedSetIterable (.Call (.Name "range" p) [a] [] pos) X.env x = pure x := by intro _; rfl) {fpos : Pos} : DS X R (.For tg (.Call (.Name "range" p) [a] [] pos) body [] fpos) (uFor ks (iR1 os) g tb) := by
  obtain ⟨t1, p1, q1⟩ := ha.ex
  obtain ⟨t2, p2, q2⟩ := hg.ex
  obtain ⟨t3, p3, q3⟩ := hb.ex
  refine ⟨_, psk_for hp hc (pik_range1 hgl hm p1 h1) p2 p3 (hs := hs), fun {F0 H0 F H W M σ xn De D} r l hw E => ?_⟩
  refine q1 r l hw fun vs xs M1 F1 H1 s1 r1 hx z => ?_
  have wk : ∀ {J : It} {ds : List PyData}, Walks X.K J F1 ds → forW ks g tb xn De ds M1 → ∃ Wv : Nat → Nat → List (Option V) → Hp → Prop, (∃ m, Wv 0 m σ H1) ∧ ∀ i m σ' H', Wv i m σ' H' → (J.stop i H' ∧ D.nx σ' H') ∨ (J.go i H' ∧ ∃ N : List (Option V) → Hp → Prop, (∀ σ'' H'', N σ'' H'' → ∃ m', m' < m ∧ Wv (i + 1) m' σ'' H'') ∧ ∀ x H'', J.yld i H' x H'' → t2 x σ' H'' fun σ2 H2 => t3 { D with nx := N, ct := N, bk := D.nx } σ2 H2) := by
    intro J ds wk z
    obtain ⟨I, z0, zs, ze⟩ := z
    refine ⟨fun i m σ' H' => ∃ M' F', i + m = ds.length ∧ Same F1 F' ∧ Rel X.K F0 H0 W M' σ' F' H' ∧ I i M', ⟨ds.length, M1, F1, by omega, .refl _, r1, z0⟩, fun i m σ' H' hW => ?_⟩
    obtain ⟨M', F', em, s2, r2, z2⟩ := hW
    cases hd : ds[i]? with
    | none =>
      have hl : ds.length ≤ i := List.getElem?_eq_none_iff.mp hd
      have : i = ds.length := by omega
      subst this
      exact .inl ⟨wk.stop F' H' s2 r2.sub, E.nx _ _ _ _ (s1.trans s2) (r2.kill ks) (ze _ z2)⟩
    | some d =>
      have hl : i < ds.length := (List.getElem?_eq_some_iff.mp hd).1
      have z2 := zs i d M' hd z2
      obtain ⟨g1, g2⟩ := wk.go i d F' H' hd s2 r2.sub
      refine .inr ⟨g1, fun σ'' H'' => ∃ M'' F'', Same F1 F'' ∧ Rel X.K F0 H0 W M'' σ'' F'' H'' ∧ I (i + 1) M'', fun σ'' H'' hN => ?_, fun x H'' hy => ?_⟩
      · obtain ⟨M'', F'', a1, a2, a3⟩ := hN
        exact ⟨m - 1, by omega, M'', F'', by omega, a1, a2, a3⟩
      · obtain ⟨F'', gr, dv⟩ := g2 x H'' hy
        have r3 := (r2.kill ks).grow gr
        refine q2 r3 dv z2 fun M3 σ3 _ r4 z3 => ?_
        have s4 := s2.trans gr.f
        refine q3 r4 l z3 ⟨fun Ma σa Fa Ha sa ra za => ⟨Ma, Fa, s4.trans sa, ra, za⟩, fun v d Ma σa Fa Ha sa ra dva za => E.rt _ _ _ _ _ _ (s1.trans (s4.trans sa)) ra dva za,
          fun Ma σa Fa Ha sa ra za => E.nx _ _ _ _ (s1.trans (s4.trans sa)) (ra.kill ks) za, fun Ma σa Fa Ha sa ra za => ⟨Ma, Fa, s4.trans sa, ra, za⟩⟩
  split at z
  · rename_i j e
    obtain ⟨v, rfl, hv⟩ := (views_of r1 hx e).one
    exact ⟨j, by rw [hv.int], z.1.1, z.1.2, wk walk_rng z.2⟩
  · exact z.elim
end
end DL

/-! M0: data small enough to be shown and compared. -/
namespace DL
open PySem PySem.Spec L2 PyProof.Rows
structure Sm (n k : Nat) (d : PyData) : Prop where
  fl : flat d = true
  sh : d.showable = true
  de : d.depth ≤ n
  le : d.shown.length ≤ k
  la : d.canLay0 = true
theorem Sm.mono {n k n' k' : Nat} {d : PyData} (h : Sm n k d) (h1 : n ≤ n') (h2 : k ≤ k') : Sm n' k' d := ⟨h.fl, h.sh, Nat.le_trans h.de h1, Nat.le_trans h.le h2, h.la⟩
theorem Sm.none : Sm 0 5 .none := ⟨rfl, rfl, Nat.le_refl _, by decide +kernel, rfl⟩
theorem Sm.bool (b : Bool) : Sm 0 5 (.bool b) := ⟨rfl, rfl, Nat.le_refl _, by cases b <;> decide +kernel, rfl⟩
theorem Sm.int {i : Int} {m : Nat} (hm : m < 1900) (h0 : 0 < m) (h : i.natAbs < 2 ^ m) : Sm 0 (m + 1) (.int i) := by
  have hl : i.natAbs.log2 < m := by
    by_cases h0 : i.natAbs = 0
    · rw [h0]; simpa using ‹0 < m›
    · exact (Nat.log2_lt h0).mpr h
  refine ⟨rfl, by rw [PyData.showable]; exact decide_eq_true (by omega), Nat.le_refl _, ?_, rfl⟩
  rw [PyData.shown]
  have := int_text_length_le h0 hl
  have e : (Str.ofString (toString i)).length = (toString i).length := by rw [PySem.ofString_length]
  show (Str.ofString (toString i)).length ≤ _
  omega
theorem Sm.str {l : List Nat} {m : Nat} (h : ∀ c ∈ l, c < 1000) (hl : l.length ≤ m) : Sm 0 (10 * m + 2) (.str (S l)) := by
  refine ⟨rfl, rfl, Nat.le_refl _, ?_, ?_⟩
  · rw [PyData.shown]
    have := StrLaws.reprText_len (S l) (fun c hc => by have := h c hc; omega)
    have e : (S l).length = l.length := strLen _
    omega
  · rw [PyData.canLay0]
    show Array.all _ _ = true
    rw [Array.all_eq_true_iff_forall_mem]
    intro c hc
    have := h c (by simpa using hc)
    exact decide_eq_true (by omega)
theorem flats_of : ∀ {l : List PyData}, (∀ x ∈ l, flat x = true) → flats l = true
  | [], _ => rfl
  | x :: r, h => by rw [flats, h x List.mem_cons_self, flats_of fun y hy => h y (List.mem_cons_of_mem _ hy)]; rfl
theorem depthAll_of {n : Nat} : ∀ {l : List PyData}, (∀ x ∈ l, x.depth ≤ n) → PyData.depthAll l ≤ n
  | [], _ => Nat.zero_le _
  | x :: r, h => by rw [PyData.depthAll]; exact Nat.max_le.mpr ⟨h x List.mem_cons_self, depthAll_of fun y hy => h y (List.mem_cons_of_mem _ hy)⟩
theorem canLayAll_of : ∀ {l : List PyData}, (∀ x ∈ l, x.canLay0 = true) → PyData.canLayAll0 l = true
  | [], _ => rfl
  | x :: r, h => by rw [PyData.canLayAll0, h x List.mem_cons_self, canLayAll_of fun y hy => h y (List.mem_cons_of_mem _ hy)]; rfl
theorem join_le {k : Nat} : ∀ {l : List Str}, (∀ x ∈ l, x.length ≤ k) → (Str.join ", " l).length ≤ l.length * (k + 2)
  | [], _ => Nat.zero_le _
  | [x], h => by have := h x List.mem_cons_self; show x.length ≤ 1 * (k + 2); omega
  | x :: y :: r, h => by
    have h1 := h x List.mem_cons_self
    have h2 := join_le (l := y :: r) fun z hz => h z (List.mem_cons_of_mem _ hz)
    show ((x ++ ", ") ++ Str.join ", " (y :: r)).length ≤ _
    rw [Str.length_append, Str.length_append]
    have e : (Str.ofString ", ").length = 2 := by decide +kernel
    rw [e]
    simp only [List.length_cons] at h2 ⊢
    rw [Nat.add_mul (r.length + 1) 1]
    omega
theorem shownAll_mem : ∀ {l : List PyData} {s : Str}, s ∈ PyData.shownAll l → ∃ d ∈ l, s = d.shown
  | [], s, h => by simp [PyData.shownAll] at h
  | x :: r, s, h => by
    simp only [PyData.shownAll, List.mem_cons] at h
    rcases h with rfl | h
    · exact ⟨x, List.mem_cons_self, rfl⟩
    · obtain ⟨d, h1, h2⟩ := shownAll_mem h
      exact ⟨d, List.mem_cons_of_mem _ h1, h2⟩
theorem shownAll_len : ∀ l : List PyData, (PyData.shownAll l).length = l.length
  | [] => rfl
  | x :: r => by simp [PyData.shownAll, shownAll_len r]
theorem Sm.list {n k m : Nat} {l : List PyData} (h : ∀ x ∈ l, Sm n k x) (hl : l.length ≤ m) : Sm (n + 1) (m * (k + 2) + 3) (.list l) := by
  refine ⟨by rw [flat]; exact flats_of fun x hx => (h x hx).fl, by rw [PyData.showable]; exact showableAll_of fun x hx => (h x hx).sh, by rw [PyData.depth]; exact Nat.succ_le_succ (depthAll_of fun x hx => (h x hx).de), ?_, by rw [PyData.canLay0]; exact canLayAll_of fun x hx => (h x hx).la⟩
  rw [PyData.shown_list, Str.length_append, Str.length_append]
  have e := join_le (k := k) (l := PyData.shownAll l) fun s hs => by
    obtain ⟨d, h1, rfl⟩ := shownAll_mem hs
    exact (h d h1).le
  rw [shownAll_len] at e
  have e1 : (Str.ofString "[").length = 1 := by decide +kernel
  have e2 : (Str.ofString "]").length = 1 := by decide +kernel
  have := Nat.mul_le_mul_right (k + 2) hl
  omega
theorem Sm.tup {n k m : Nat} {l : List PyData} (h : ∀ x ∈ l, Sm n k x) (hl : l.length ≤ m) : Sm (n + 1) (m * (k + 2) + 3) (.tuple l) := by
  refine ⟨by rw [flat]; exact flats_of fun x hx => (h x hx).fl, by rw [PyData.showable]; exact showableAll_of fun x hx => (h x hx).sh, by rw [PyData.depth]; exact Nat.succ_le_succ (depthAll_of fun x hx => (h x hx).de), ?_, by rw [PyData.canLay0]; exact canLayAll_of fun x hx => (h x hx).la⟩
  rw [PyData.shown_tuple, Str.length_append, Str.length_append]
  have e := join_le (k := k) (l := PyData.shownAll l) fun s hs => by
    obtain ⟨d, h1, rfl⟩ := shownAll_mem hs
    exact (h d h1).le
  rw [shownAll_len] at e
  have e1 : (Str.ofString "(").length = 1 := by decide +kernel
  have e2 : (Str.ofString (if (l.length == 1) = true then ",)" else ")")).length ≤ 2 := by split <;> decide +kernel
  have := Nat.mul_le_mul_right (k + 2) hl
  omega
theorem Sm.shaped {n k : Nat} {d : PyData} (h : Sm n k d) (hn : n ≤ 64) : SeqAt.shaped d = true := by
  unfold SeqAt.shaped
  rw [h.la, decide_eq_true (Nat.le_trans h.de hn)]
  rfl
/-- what repr wants -/
theorem Sm.repr {n k : Nat} {d : PyData} (h : Sm n k d) (hn : n ≤ 40) (hk : k ≤ 16777216) : flat d = true ∧ d.showable = true ∧ d.depth ≤ 40 ∧ d.shown.length ≤ sizeLine := ⟨h.fl, h.sh, Nat.le_trans h.de hn, Nat.le_trans h.le (by rw [sizeLine_eq]; exact hk)⟩
theorem Sm.eq {n k n' k' : Nat} {d e : PyData} (h : Sm n k d) (h' : Sm n' k' e) (hn : n ≤ 64) (hn' : n' ≤ 64) : flat d = true ∧ flat e = true ∧ SeqAt.shaped d = true ∧ SeqAt.shaped e = true := ⟨h.fl, h'.fl, h.shaped hn, h'.shaped hn'⟩
theorem eqv_nil : ∀ l : List PyData, PyData.eqv (.list l) (.list []) = l.isEmpty
  | [] => by rw [PyData.eqv, PyData.eqvAll]; rfl
  | x :: r => by rw [PyData.eqv, PyData.eqvAll]; rfl
theorem Sm.nil : Sm 1 3 (.list []) := (Sm.list (n := 0) (k := 0) (m := 0) (fun x hx => by simp at hx) (Nat.le_refl _)).mono (by omega) (by omega)
theorem isNone_1 : isNone .none = true := rfl
theorem isNone_2 {i : Int} : isNone (.int i) = false := rfl
theorem isNone_3 {i : Str} : isNone (.str i) = false := rfl
theorem isNone_4 {i : Bool} : isNone (.bool i) = false := rfl
theorem isNone_5 {i : List PyData} : isNone (.list i) = false := rfl
theorem isNone_6 {i : List PyData} : isNone (.tuple i) = false := rfl
theorem isNone_7 {i : List (PyData × PyData)} : isNone (.dict i) = false := rfl
end DL

namespace DL
open PySem PySem.Spec L2 PyProof.Rows
structure WelOk (w : Wel) : Prop where
  pos : ∀ c ∈ w.deep, 0 ≤ c
  len : w.deep.length ≤ 63
def g__law_dip : GSpec := fun args wl Q => ∃ w many, args = [.wel, .x (.int many)] ∧ wl = some w ∧ WelOk w ∧ many < 2 ^ 62 ∧ ∀ r w', 0 ≤ r → (r < many ∨ r = 0) → WelOk w' → Q (.int r) (some w')
theorem divW {i j : Int} (h0 : 0 < j) (h : j < 2 ^ 62) : CDivW i j := by
  refine ⟨h0, ?_⟩
  have : j.natAbs < 2 ^ 62 := by omega
  have := (Nat.log2_lt (by omega)).mpr this
  omega
def u__law_dip : WS :=
  (uSeq (uIf (wTst (wOp fLt (oV 1) (oE (wC (.int 2)))))
  (uRet (wC (.int 0)))
  uNext)
  (uSeq (uIf (tWelNE 0)
  (uSeq (uAsg (wWelPop 0) (gSet 2))
  (uSeqM (uIf (wTst (wOp fGe (oV 2) (oV 1)))
  (uDrop (wWelApp 0 (wOp fDiv (oV 2) (oV 1))))
  uNext)
  (uRet (wOp fMod (oE (wCB fInt (osC (oV 2) osN))) (oV 1)))))
  uNext)
  (uSeq (uWelD 0 (wOp fAdd (oE (wWelI 0 (·.drawn))) (oE (wC (.int 1)))))
  (uSeq (uAsg (wOp fMod (oE (wCB fInt (osC (oE (wOp fAdd (oE (wWelI 0 (·.mix))) (oE (wOp fMul (oE (wC (.int 2654435769))) (oE (wWelI 0 (·.drawn))))))) osN))) (oE (wC (.int 4294967291)))) (gSet 3))
  (uSeq (uAsg (wOp fMod (oE (wCB fInt (osC (oE (wOp fAdd (oE (wOp fAdd (oE (wOp fMul (oV 3) (oV 3))) (oE (wOp fMul (oE (wC (.int 374761393))) (oE (wWelI 0 (·.drawn))))))) (oE (wC (.int 9))))) osN))) (oE (wC (.int 4294967279)))) (gSet 3))
  (uSeq (uAsg (wOp fMod (oE (wCB fInt (osC (oE (wOp fAdd (oE (wOp fMul (oV 3) (oV 3))) (oE (wWelI 0 (·.mix))))) osN))) (oE (wC (.int 4294967231)))) (gSet 3))
  (uRet (wOp fMod (oE (wCB fInt (osC (oE (wOp fDiv (oV 3) (oE (wC (.int 128))))) osN))) (oV 1)))))))))
theorem pf__law_dip (args : List Arg) (wl : Option Wel) (Q : PyData → Option Wel → Prop) (h : g__law_dip args wl Q) : u__law_dip noX (endsG Q) (mem0 4 args wl) := by
  obtain ⟨w, many, rfl, rfl, ok, hm, q⟩ := h
  simp -dsimp only [u__law_dip, ↓uSeq, ↓uNext, ↓uKill, ↓uFrz, ↓uDrop, ↓uRet, ↓uIf, ↓uAsg, ↓uAsgO, ↓uPar2, ↓uPut, ↓uDPut, ↓uFor_eq, ↓uWhile_eq, ↓uSeqM_eq, ↓uBrk, ↓uCnt, ↓uWelD, ↓gSet, ↓gN, ↓gC, ↓gT, ↓zE, ↓zF, ↓oE, ↓oV, ↓wV, ↓wC, ↓wOp, ↓wUn, ↓app2, ↓app1, ↓wTst, ↓tAndD, ↓tOrD, ↓tNotD, ↓wAndV, ↓wOrV, ↓wNotV, ↓wIf, ↓wChain, ↓osN, ↓osC, getAll, ↓appN, ↓wCB, ↓appM, ↓wBM, ↓wBM0, ↓wN, ↓wCs, ↓wTup, ↓wLst, ↓wDic0, ↓wDicT, ↓aN, ↓aC, ↓aW, ↓wCall_eq, ↓wCallK_eq, perm, List.filterMap_cons, List.filterMap_nil, ↓wApp, ↓wExt, ↓wPop, ↓wPopAt, ↓wListA, ↓wRpl, ↓iX, ↓iL, ↓iT, ↓iS, ↓iR1, ↓iR2, ↓iScr, ↓iZD, ↓iE, ↓wComp_eq, ↓ttY, ↓wSl, ↓wPart, ↓plN, ↓wRev, ↓wListO, ↓wRep, ↓wLenSet, ↓wLenScr, ↓wWelI, ↓wWelPop, ↓wWelApp, ↓tWelNE, ↓wDisp, ↓psC, ↓psN, ↓wDIn, ↓wDNotIn, ↓askD, ↓fAdd, ↓fSub, ↓fII, ↓fII0, ↓fDiv, ↓fMod, ↓fPow, ↓fLt, ↓fGt, ↓fLe, ↓fGe, ↓fGtD, ↓fLtD, ↓fLeD, ↓fGeD, ↓fNeg, ↓fMul, ↓fEq, ↓fNe, ↓eqQ, ↓fIsN, ↓fNotN, isNone_1, isNone_2, isNone_3, isNone_4, isNone_5, isNone_6, isNone_7, ↓fInC, ↓fNotInC, ↓fSub_, ↓fIx, ↓fSl, ↓fLen, ↓fTuple, ↓fMin1, ↓fMax1, ↓fSum, ↓fAll, ↓fAny, ↓fSorted, ↓fSortS, ↓fAbs, ↓fInt, ↓fRepr, ↓fCnt, ↓fIdx, ↓fJoin, isStr,
 endsG, mem0, toEnt, Mem.set, Mem.view, Mem.kill, Mem.frz, Mem.ro, Ent.ro', Opd.get,
 List.set_cons_zero, List.set_cons_succ, List.getElem?_cons_zero, List.getElem?_cons_succ, List.map_cons, List.map_nil, List.length_cons, List.length_nil, List.cons_append, List.nil_append, List.replicate_succ, List.replicate_zero, Option.map_some, Option.map_none, List.cons.injEq, and_true, true_and, Arg.x.injEq, exists_eq_left, exists_eq_right, Option.some.injEq, Ent.ow.injEq, Ent.im.injEq, PyData.int.injEq, PyData.list.injEq, PyData.dict.injEq, PyData.tuple.injEq, PyData.str.injEq, exists_eq', exists_eq, decide_eq_true_eq, Bool.not_eq_true', ite_true, ite_false, decide_true, decide_false, decide_eq_false_iff_not, not_true_eq_false, not_false_eq_true, reduceCtorEq, eq_self]
  by_cases h2 : many < 2
  · rw [if_pos h2]
    exact q 0 w (Int.le_refl _) (.inr rfl) ok
  rw [if_neg h2]
  have small : ∀ {a b : Int}, 0 < b → b < 2 ^ 64 → CMul (a % b) (a % b) := fun {a b} h1 h2 => by
    have := Int.emod_nonneg a (b := b) (by omega)
    have := Int.emod_lt_of_pos a h1
    exact .inl ⟨by omega, by omega⟩
  by_cases hd : w.deep.isEmpty = true
  · rw [if_neg (by simp [hd])]
    refine ⟨.inl (by decide), by decide, small (by decide) (by decide), .inl (by decide), by decide, small (by decide) (by decide), by decide, divW (by decide) (by decide), by omega, ?_⟩
    refine q _ _ (Int.emod_nonneg _ (by omega)) (.inl (Int.emod_lt_of_pos _ (by omega))) ⟨ok.pos, ok.len⟩
  · rw [if_pos (by simpa using hd)]
    obtain ⟨n, hn⟩ : ∃ n, w.deep[w.deep.length - 1]? = some n := by
      cases e : w.deep with
      | nil => rw [e] at hd; exact absurd rfl hd
      | cons a l => simp
    simp only [hn]
    have nn : 0 ≤ n := ok.pos n (List.mem_of_getElem? hn)
    have dl : ∀ c ∈ w.deep.dropLast, 0 ≤ c := fun c hc => ok.pos c (List.dropLast_subset _ hc)
    have dn : w.deep.dropLast.length + 1 ≤ w.deep.length := by
      rw [List.length_dropLast]
      have := (List.getElem?_eq_some_iff.mp hn).1
      omega
    have := ok.len
    refine seq_i (fun M => ∃ w', WelOk w' ∧ M = ⟨[some .wel, some (.im (.int many)), some (.im (.int n)), none], some w'⟩) ?_ ?_
    · simp -dsimp only [↓uSeq, ↓uNext, ↓uKill, ↓uFrz, ↓uDrop, ↓uRet, ↓uIf, ↓uAsg, ↓uAsgO, ↓uPar2, ↓uPut, ↓uDPut, ↓uFor_eq, ↓uWhile_eq, ↓uSeqM_eq, ↓uBrk, ↓uCnt, ↓uWelD, ↓gSet, ↓gN, ↓gC, ↓gT, ↓zE, ↓zF, ↓oE, ↓oV, ↓wV, ↓wC, ↓wOp, ↓wUn, ↓app2, ↓app1, ↓wTst, ↓tAndD, ↓tOrD, ↓tNotD, ↓wAndV, ↓wOrV, ↓wNotV, ↓wIf, ↓wChain, ↓osN, ↓osC, getAll, ↓appN, ↓wCB, ↓appM, ↓wBM, ↓wBM0, ↓wN, ↓wCs, ↓wTup, ↓wLst, ↓wDic0, ↓wDicT, ↓aN, ↓aC, ↓aW, ↓wCall_eq, ↓wCallK_eq, perm, List.filterMap_cons, List.filterMap_nil, ↓wApp, ↓wExt, ↓wPop, ↓wPopAt, ↓wListA, ↓wRpl, ↓iX, ↓iL, ↓iT, ↓iS, ↓iR1, ↓iR2, ↓iScr, ↓iZD, ↓iE, ↓wComp_eq, ↓ttY, ↓wSl, ↓wPart, ↓plN, ↓wRev, ↓wListO, ↓wRep, ↓wLenSet, ↓wLenScr, ↓wWelI, ↓wWelPop, ↓wWelApp, ↓tWelNE, ↓wDisp, ↓psC, ↓psN, ↓wDIn, ↓wDNotIn, ↓askD, ↓fAdd, ↓fSub, ↓fII, ↓fII0, ↓fDiv, ↓fMod, ↓fPow, ↓fLt, ↓fGt, ↓fLe, ↓fGe, ↓fGtD, ↓fLtD, ↓fLeD, ↓fGeD, ↓fNeg, ↓fMul, ↓fEq, ↓fNe, ↓eqQ, ↓fIsN, ↓fNotN, isNone_1, isNone_2, isNone_3, isNone_4, isNone_5, isNone_6, isNone_7, ↓fInC, ↓fNotInC, ↓fSub_, ↓fIx, ↓fSl, ↓fLen, ↓fTuple, ↓fMin1, ↓fMax1, ↓fSum, ↓fAll, ↓fAny, ↓fSorted, ↓fSortS, ↓fAbs, ↓fInt, ↓fRepr, ↓fCnt, ↓fIdx, ↓fJoin, isStr,
 endsG, mem0, toEnt, Mem.set, Mem.view, Mem.kill, Mem.frz, Mem.ro, Ent.ro', Opd.get,
 List.set_cons_zero, List.set_cons_succ, List.getElem?_cons_zero, List.getElem?_cons_succ, List.map_cons, List.map_nil, List.length_cons, List.length_nil, List.cons_append, List.nil_append, List.replicate_succ, List.replicate_zero, Option.map_some, Option.map_none, List.cons.injEq, and_true, true_and, Arg.x.injEq, exists_eq_left, exists_eq_right, Option.some.injEq, Ent.ow.injEq, Ent.im.injEq, PyData.int.injEq, PyData.list.injEq, PyData.dict.injEq, PyData.tuple.injEq, PyData.str.injEq, exists_eq', exists_eq, decide_eq_true_eq, Bool.not_eq_true', ite_true, ite_false, decide_true, decide_false, decide_eq_false_iff_not, not_true_eq_false, not_false_eq_true, reduceCtorEq, eq_self]
      by_cases hc : many ≤ n
      · rw [if_pos hc]
        refine ⟨divW (by omega) hm, small1000 (by omega), _, ⟨fun c hc => ?_, ?_⟩, rfl⟩
        · rcases List.mem_append.mp hc with hc | hc
          · exact dl c hc
          · rw [List.mem_singleton.mp hc]
            exact Int.ediv_nonneg nn (by omega)
        · simp only [List.length_append, List.length_cons, List.length_nil]
          omega
      · rw [if_neg hc]
        exact ⟨_, ⟨dl, by show w.deep.dropLast.length ≤ 63; omega⟩, rfl⟩
    · rintro M' ⟨w', ok', rfl⟩
      simp -dsimp only [↓uSeq, ↓uNext, ↓uKill, ↓uFrz, ↓uDrop, ↓uRet, ↓uIf, ↓uAsg, ↓uAsgO, ↓uPar2, ↓uPut, ↓uDPut, ↓uFor_eq, ↓uWhile_eq, ↓uSeqM_eq, ↓uBrk, ↓uCnt, ↓uWelD, ↓gSet, ↓gN, ↓gC, ↓gT, ↓zE, ↓zF, ↓oE, ↓oV, ↓wV, ↓wC, ↓wOp, ↓wUn, ↓app2, ↓app1, ↓wTst, ↓tAndD, ↓tOrD, ↓tNotD, ↓wAndV, ↓wOrV, ↓wNotV, ↓wIf, ↓wChain, ↓osN, ↓osC, getAll, ↓appN, ↓wCB, ↓appM, ↓wBM, ↓wBM0, ↓wN, ↓wCs, ↓wTup, ↓wLst, ↓wDic0, ↓wDicT, ↓aN, ↓aC, ↓aW, ↓wCall_eq, ↓wCallK_eq, perm, List.filterMap_cons, List.filterMap_nil, ↓wApp, ↓wExt, ↓wPop, ↓wPopAt, ↓wListA, ↓wRpl, ↓iX, ↓iL, ↓iT, ↓iS, ↓iR1, ↓iR2, ↓iScr, ↓iZD, ↓iE, ↓wComp_eq, ↓ttY, ↓wSl, ↓wPart, ↓plN, ↓wRev, ↓wListO, ↓wRep, ↓wLenSet, ↓wLenScr, ↓wWelI, ↓wWelPop, ↓wWelApp, ↓tWelNE, ↓wDisp, ↓psC, ↓psN, ↓wDIn, ↓wDNotIn, ↓askD, ↓fAdd, ↓fSub, ↓fII, ↓fII0, ↓fDiv, ↓fMod, ↓fPow, ↓fLt, ↓fGt, ↓fLe, ↓fGe, ↓fGtD, ↓fLtD, ↓fLeD, ↓fGeD, ↓fNeg, ↓fMul, ↓fEq, ↓fNe, ↓eqQ, ↓fIsN, ↓fNotN, isNone_1, isNone_2, isNone_3, isNone_4, isNone_5, isNone_6, isNone_7, ↓fInC, ↓fNotInC, ↓fSub_, ↓fIx, ↓fSl, ↓fLen, ↓fTuple, ↓fMin1, ↓fMax1, ↓fSum, ↓fAll, ↓fAny, ↓fSorted, ↓fSortS, ↓fAbs, ↓fInt, ↓fRepr, ↓fCnt, ↓fIdx, ↓fJoin, isStr,
 endsG, mem0, toEnt, Mem.set, Mem.view, Mem.kill, Mem.frz, Mem.ro, Ent.ro', Opd.get,
 List.set_cons_zero, List.set_cons_succ, List.getElem?_cons_zero, List.getElem?_cons_succ, List.map_cons, List.map_nil, List.length_cons, List.length_nil, List.cons_append, List.nil_append, List.replicate_succ, List.replicate_zero, Option.map_some, Option.map_none, List.cons.injEq, and_true, true_and, Arg.x.injEq, exists_eq_left, exists_eq_right, Option.some.injEq, Ent.ow.injEq, Ent.im.injEq, PyData.int.injEq, PyData.list.injEq, PyData.dict.injEq, PyData.tuple.injEq, PyData.str.injEq, exists_eq', exists_eq, decide_eq_true_eq, Bool.not_eq_true', ite_true, ite_false, decide_true, decide_false, decide_eq_false_iff_not, not_true_eq_false, not_false_eq_true, reduceCtorEq, eq_self]
      exact ⟨by omega, q _ _ (Int.emod_nonneg _ (by omega)) (.inl (Int.emod_lt_of_pos _ (by omega))) ok'⟩
theorem S_cps (l : List Nat) : (S l).cps.toList = l := rfl
theorem S_of (s : Str) : s = S s.cps.toList := (SX.S_tl s).symm
theorem S_inj {a b : List Nat} (h : S a = S b) : a = b := by
  have := congrArg (fun s : Str => s.cps.toList) h
  simpa [S_cps] using this
abbrev sD (l : List Nat) : PyData := .str (S l)
theorem k_abcd : ("abcd" : Str) = S [97, 98, 99, 100] := by decide +kernel
theorem k_a : ("a" : Str) = S [97] := by decide +kernel
theorem k_ab : ("ab" : Str) = S [97, 98] := by decide +kernel
theorem k_ : ("" : Str) = S [] := by decide +kernel
theorem zl (n : Nat) (h : n ≤ 1000) : n ≤ sizeLine := Nat.le_of_lt (small1000 h)
theorem atI_nn {α : Type} {l : List α} {i : Int} (h0 : 0 ≤ i) (h : i < l.length) : ∃ x, atI l i = some x ∧ x ∈ l := by
  have hl : i.toNat < l.length := by omega
  refine ⟨l[i.toNat], ?_, List.getElem_mem hl⟩
  unfold L2.atI ixN
  rw [if_pos h0, if_pos h]
  simp [List.getElem?_eq_getElem hl]
theorem dip_i {w : Wel} {many : Int} {Q : PyData → Option Wel → Prop} {l : Lock Q} (ok : WelOk w) (hm : many < 2 ^ 62) (h : ∀ r w', 0 ≤ r → (r < many ∨ r = 0) → WelOk w' → Q (.int r) (some w')) : callG g__law_dip [.wel, .x (.int many)] (some w) Q l := ⟨w, many, rfl, rfl, ok, hm, h⟩
/-! _law_take -/
def itemsOf : PyData → Option (List PyData)
  | .list l => some l
  | .tuple l => some l
  | _ => none
def g__law_take : GSpec := fun args wl Q => ∃ w d l, args = [.wel, .x d] ∧ wl = some w ∧ WelOk w ∧ itemsOf d = some l ∧ 0 < l.length ∧ l.length ≤ 1000 ∧ ∀ x w', x ∈ l → WelOk w' → Q x (some w')
def u__law_take : WS :=
  (uRet (wOp fSub_ (oV 1) (oE (wCall g__law_dip (aW 0 (aC (wCB fLen (osC (oV 1) osN)) aN))))))
theorem pf__law_take (args : List Arg) (wl : Option Wel) (Q : PyData → Option Wel → Prop) (h : g__law_take args wl Q) : u__law_take noX (endsG Q) (mem0 2 args wl) := by
  obtain ⟨w, d, l, rfl, rfl, ok, hi, h0, hl, q⟩ := h
  cases d with
  | list l' =>
    cases hi
    simp -dsimp only [u__law_take, ↓uSeq, ↓uNext, ↓uKill, ↓uFrz, ↓uDrop, ↓uRet, ↓uIf, ↓uAsg, ↓uAsgO, ↓uPar2, ↓uPut, ↓uDPut, ↓uFor_eq, ↓uWhile_eq, ↓uSeqM_eq, ↓uBrk, ↓uCnt, ↓uWelD, ↓gSet, ↓gN, ↓gC, ↓gT, ↓zE, ↓zF, ↓oE, ↓oV, ↓wV, ↓wC, ↓wOp, ↓wUn, ↓app2, ↓app1, ↓wTst, ↓tAndD, ↓tOrD, ↓tNotD, ↓wAndV, ↓wOrV, ↓wNotV, ↓wIf, ↓wChain, ↓osN, ↓osC, getAll, ↓appN, ↓wCB, ↓appM, ↓wBM, ↓wBM0, ↓wN, ↓wCs, ↓wTup, ↓wLst, ↓wDic0, ↓wDicT, ↓aN, ↓aC, ↓aW, ↓wCall_eq, ↓wCallK_eq, perm, List.filterMap_cons, List.filterMap_nil, ↓wApp, ↓wExt, ↓wPop, ↓wPopAt, ↓wListA, ↓wRpl, ↓iX, ↓iL, ↓iT, ↓iS, ↓iR1, ↓iR2, ↓iScr, ↓iZD, ↓iE, ↓wComp_eq, ↓ttY, ↓wSl, ↓wPart, ↓plN, ↓wRev, ↓wListO, ↓wRep, ↓wLenSet, ↓wLenScr, ↓wWelI, ↓wWelPop, ↓wWelApp, ↓tWelNE, ↓wDisp, ↓psC, ↓psN, ↓wDIn, ↓wDNotIn, ↓askD, ↓fAdd, ↓fSub, ↓fII, ↓fII0, ↓fDiv, ↓fMod, ↓fPow, ↓fLt, ↓fGt, ↓fLe, ↓fGe, ↓fGtD, ↓fLtD, ↓fLeD, ↓fGeD, ↓fNeg, ↓fMul, ↓fEq, ↓fNe, ↓eqQ, ↓fIsN, ↓fNotN, isNone_1, isNone_2, isNone_3, isNone_4, isNone_5, isNone_6, isNone_7, ↓fInC, ↓fNotInC, ↓fSub_, ↓fIx, ↓fSl, ↓fLen, ↓fTuple, ↓fMin1, ↓fMax1, ↓fSum, ↓fAll, ↓fAny, ↓fSorted, ↓fSortS, ↓fAbs, ↓fInt, ↓fRepr, ↓fCnt, ↓fIdx, ↓fJoin, isStr,
 endsG, mem0, toEnt, Mem.set, Mem.view, Mem.kill, Mem.frz, Mem.ro, Ent.ro', Opd.get,
 List.set_cons_zero, List.set_cons_succ, List.getElem?_cons_zero, List.getElem?_cons_succ, List.map_cons, List.map_nil, List.length_cons, List.length_nil, List.cons_append, List.nil_append, List.replicate_succ, List.replicate_zero, Option.map_some, Option.map_none, List.cons.injEq, and_true, true_and, Arg.x.injEq, exists_eq_left, exists_eq_right, Option.some.injEq, Ent.ow.injEq, Ent.im.injEq, PyData.int.injEq, PyData.list.injEq, PyData.dict.injEq, PyData.tuple.injEq, PyData.str.injEq, exists_eq', exists_eq, decide_eq_true_eq, Bool.not_eq_true', ite_true, ite_false, decide_true, decide_false, decide_eq_false_iff_not, not_true_eq_false, not_false_eq_true, reduceCtorEq, eq_self]
    refine dip_i ok (by omega) fun r w' h1 h2 ok' => ?_
    obtain ⟨x, e, hx⟩ := atI_nn (l := l) h1 (by omega)
    simp -dsimp only [↓uSeq, ↓uNext, ↓uKill, ↓uFrz, ↓uDrop, ↓uRet, ↓uIf, ↓uAsg, ↓uAsgO, ↓uPar2, ↓uPut, ↓uDPut, ↓uFor_eq, ↓uWhile_eq, ↓uSeqM_eq, ↓uBrk, ↓uCnt, ↓uWelD, ↓gSet, ↓gN, ↓gC, ↓gT, ↓zE, ↓zF, ↓oE, ↓oV, ↓wV, ↓wC, ↓wOp, ↓wUn, ↓app2, ↓app1, ↓wTst, ↓tAndD, ↓tOrD, ↓tNotD, ↓wAndV, ↓wOrV, ↓wNotV, ↓wIf, ↓wChain, ↓osN, ↓osC, getAll, ↓appN, ↓wCB, ↓appM, ↓wBM, ↓wBM0, ↓wN, ↓wCs, ↓wTup, ↓wLst, ↓wDic0, ↓wDicT, ↓aN, ↓aC, ↓aW, ↓wCall_eq, ↓wCallK_eq, perm, List.filterMap_cons, List.filterMap_nil, ↓wApp, ↓wExt, ↓wPop, ↓wPopAt, ↓wListA, ↓wRpl, ↓iX, ↓iL, ↓iT, ↓iS, ↓iR1, ↓iR2, ↓iScr, ↓iZD, ↓iE, ↓wComp_eq, ↓ttY, ↓wSl, ↓wPart, ↓plN, ↓wRev, ↓wListO, ↓wRep, ↓wLenSet, ↓wLenScr, ↓wWelI, ↓wWelPop, ↓wWelApp, ↓tWelNE, ↓wDisp, ↓psC, ↓psN, ↓wDIn, ↓wDNotIn, ↓askD, ↓fAdd, ↓fSub, ↓fII, ↓fII0, ↓fDiv, ↓fMod, ↓fPow, ↓fLt, ↓fGt, ↓fLe, ↓fGe, ↓fGtD, ↓fLtD, ↓fLeD, ↓fGeD, ↓fNeg, ↓fMul, ↓fEq, ↓fNe, ↓eqQ, ↓fIsN, ↓fNotN, isNone_1, isNone_2, isNone_3, isNone_4, isNone_5, isNone_6, isNone_7, ↓fInC, ↓fNotInC, ↓fSub_, ↓fIx, ↓fSl, ↓fLen, ↓fTuple, ↓fMin1, ↓fMax1, ↓fSum, ↓fAll, ↓fAny, ↓fSorted, ↓fSortS, ↓fAbs, ↓fInt, ↓fRepr, ↓fCnt, ↓fIdx, ↓fJoin, isStr,
 endsG, mem0, toEnt, Mem.set, Mem.view, Mem.kill, Mem.frz, Mem.ro, Ent.ro', Opd.get,
 List.set_cons_zero, List.set_cons_succ, List.getElem?_cons_zero, List.getElem?_cons_succ, List.map_cons, List.map_nil, List.length_cons, List.length_nil, List.cons_append, List.nil_append, List.replicate_succ, List.replicate_zero, Option.map_some, Option.map_none, List.cons.injEq, and_true, true_and, Arg.x.injEq, exists_eq_left, exists_eq_right, Option.some.injEq, Ent.ow.injEq, Ent.im.injEq, PyData.int.injEq, PyData.list.injEq, PyData.dict.injEq, PyData.tuple.injEq, PyData.str.injEq, exists_eq', exists_eq, decide_eq_true_eq, Bool.not_eq_true', ite_true, ite_false, decide_true, decide_false, decide_eq_false_iff_not, not_true_eq_false, not_false_eq_true, reduceCtorEq, eq_self, e]
    exact q x w' hx ok'
  | tuple l' =>
    cases hi
    simp -dsimp only [u__law_take, ↓uSeq, ↓uNext, ↓uKill, ↓uFrz, ↓uDrop, ↓uRet, ↓uIf, ↓uAsg, ↓uAsgO, ↓uPar2, ↓uPut, ↓uDPut, ↓uFor_eq, ↓uWhile_eq, ↓uSeqM_eq, ↓uBrk, ↓uCnt, ↓uWelD, ↓gSet, ↓gN, ↓gC, ↓gT, ↓zE, ↓zF, ↓oE, ↓oV, ↓wV, ↓wC, ↓wOp, ↓wUn, ↓app2, ↓app1, ↓wTst, ↓tAndD, ↓tOrD, ↓tNotD, ↓wAndV, ↓wOrV, ↓wNotV, ↓wIf, ↓wChain, ↓osN, ↓osC, getAll, ↓appN, ↓wCB, ↓appM, ↓wBM, ↓wBM0, ↓wN, ↓wCs, ↓wTup, ↓wLst, ↓wDic0, ↓wDicT, ↓aN, ↓aC, ↓aW, ↓wCall_eq, ↓wCallK_eq, perm, List.filterMap_cons, List.filterMap_nil, ↓wApp, ↓wExt, ↓wPop, ↓wPopAt, ↓wListA, ↓wRpl, ↓iX, ↓iL, ↓iT, ↓iS, ↓iR1, ↓iR2, ↓iScr, ↓iZD, ↓iE, ↓wComp_eq, ↓ttY, ↓wSl, ↓wPart, ↓plN, ↓wRev, ↓wListO, ↓wRep, ↓wLenSet, ↓wLenScr, ↓wWelI, ↓wWelPop, ↓wWelApp, ↓tWelNE, ↓wDisp, ↓psC, ↓psN, ↓wDIn, ↓wDNotIn, ↓askD, ↓fAdd, ↓fSub, ↓fII, ↓fII0, ↓fDiv, ↓fMod, ↓fPow, ↓fLt, ↓fGt, ↓fLe, ↓fGe, ↓fGtD, ↓fLtD, ↓fLeD, ↓fGeD, ↓fNeg, ↓fMul, ↓fEq, ↓fNe, ↓eqQ, ↓fIsN, ↓fNotN, isNone_1, isNone_2, isNone_3, isNone_4, isNone_5, isNone_6, isNone_7, ↓fInC, ↓fNotInC, ↓fSub_, ↓fIx, ↓fSl, ↓fLen, ↓fTuple, ↓fMin1, ↓fMax1, ↓fSum, ↓fAll, ↓fAny, ↓fSorted, ↓fSortS, ↓fAbs, ↓fInt, ↓fRepr, ↓fCnt, ↓fIdx, ↓fJoin, isStr,
 endsG, mem0, toEnt, Mem.set, Mem.view, Mem.kill, Mem.frz, Mem.ro, Ent.ro', Opd.get,
 List.set_cons_zero, List.set_cons_succ, List.getElem?_cons_zero, List.getElem?_cons_succ, List.map_cons, List.map_nil, List.length_cons, List.length_nil, List.cons_append, List.nil_append, List.replicate_succ, List.replicate_zero, Option.map_some, Option.map_none, List.cons.injEq, and_true, true_and, Arg.x.injEq, exists_eq_left, exists_eq_right, Option.some.injEq, Ent.ow.injEq, Ent.im.injEq, PyData.int.injEq, PyData.list.injEq, PyData.dict.injEq, PyData.tuple.injEq, PyData.str.injEq, exists_eq', exists_eq, decide_eq_true_eq, Bool.not_eq_true', ite_true, ite_false, decide_true, decide_false, decide_eq_false_iff_not, not_true_eq_false, not_false_eq_true, reduceCtorEq, eq_self]
    refine dip_i ok (by omega) fun r w' h1 h2 ok' => ?_
    obtain ⟨x, e, hx⟩ := atI_nn (l := l) h1 (by omega)
    simp -dsimp only [↓uSeq, ↓uNext, ↓uKill, ↓uFrz, ↓uDrop, ↓uRet, ↓uIf, ↓uAsg, ↓uAsgO, ↓uPar2, ↓uPut, ↓uDPut, ↓uFor_eq, ↓uWhile_eq, ↓uSeqM_eq, ↓uBrk, ↓uCnt, ↓uWelD, ↓gSet, ↓gN, ↓gC, ↓gT, ↓zE, ↓zF, ↓oE, ↓oV, ↓wV, ↓wC, ↓wOp, ↓wUn, ↓app2, ↓app1, ↓wTst, ↓tAndD, ↓tOrD, ↓tNotD, ↓wAndV, ↓wOrV, ↓wNotV, ↓wIf, ↓wChain, ↓osN, ↓osC, getAll, ↓appN, ↓wCB, ↓appM, ↓wBM, ↓wBM0, ↓wN, ↓wCs, ↓wTup, ↓wLst, ↓wDic0, ↓wDicT, ↓aN, ↓aC, ↓aW, ↓wCall_eq, ↓wCallK_eq, perm, List.filterMap_cons, List.filterMap_nil, ↓wApp, ↓wExt, ↓wPop, ↓wPopAt, ↓wListA, ↓wRpl, ↓iX, ↓iL, ↓iT, ↓iS, ↓iR1, ↓iR2, ↓iScr, ↓iZD, ↓iE, ↓wComp_eq, ↓ttY, ↓wSl, ↓wPart, ↓plN, ↓wRev, ↓wListO, ↓wRep, ↓wLenSet, ↓wLenScr, ↓wWelI, ↓wWelPop, ↓wWelApp, ↓tWelNE, ↓wDisp, ↓psC, ↓psN, ↓wDIn, ↓wDNotIn, ↓askD, ↓fAdd, ↓fSub, ↓fII, ↓fII0, ↓fDiv, ↓fMod, ↓fPow, ↓fLt, ↓fGt, ↓fLe, ↓fGe, ↓fGtD, ↓fLtD, ↓fLeD, ↓fGeD, ↓fNeg, ↓fMul, ↓fEq, ↓fNe, ↓eqQ, ↓fIsN, ↓fNotN, isNone_1, isNone_2, isNone_3, isNone_4, isNone_5, isNone_6, isNone_7, ↓fInC, ↓fNotInC, ↓fSub_, ↓fIx, ↓fSl, ↓fLen, ↓fTuple, ↓fMin1, ↓fMax1, ↓fSum, ↓fAll, ↓fAny, ↓fSorted, ↓fSortS, ↓fAbs, ↓fInt, ↓fRepr, ↓fCnt, ↓fIdx, ↓fJoin, isStr,
 endsG, mem0, toEnt, Mem.set, Mem.view, Mem.kill, Mem.frz, Mem.ro, Ent.ro', Opd.get,
 List.set_cons_zero, List.set_cons_succ, List.getElem?_cons_zero, List.getElem?_cons_succ, List.map_cons, List.map_nil, List.length_cons, List.length_nil, List.cons_append, List.nil_append, List.replicate_succ, List.replicate_zero, Option.map_some, Option.map_none, List.cons.injEq, and_true, true_and, Arg.x.injEq, exists_eq_left, exists_eq_right, Option.some.injEq, Ent.ow.injEq, Ent.im.injEq, PyData.int.injEq, PyData.list.injEq, PyData.dict.injEq, PyData.tuple.injEq, PyData.str.injEq, exists_eq', exists_eq, decide_eq_true_eq, Bool.not_eq_true', ite_true, ite_false, decide_true, decide_false, decide_eq_false_iff_not, not_true_eq_false, not_false_eq_true, reduceCtorEq, eq_self, e]
    exact q x w' hx ok'
  | _ => cases hi
theorem strsOf_f {α : Type} (f : α → Str) (l : List α) : strsOf (l.map fun c => PyData.str (f c)) = some (l.map f) := by
  have := strsOf_map (l.map f)
  rw [List.map_map] at this
  exact this
theorem intsOf_f {α : Type} (f : α → Int) (l : List α) : intsOf (l.map fun c => PyData.int (f c)) = some (l.map f) := by
  have := intsOf_map (l.map f)
  rw [List.map_map] at this
  exact this
theorem join_one : ∀ l : List Nat, joinL [] (l.map fun c => [c]) = l
  | [] => rfl
  | [x] => rfl
  | x :: y :: r => by
    have := join_one (y :: r)
    simp only [List.map_cons] at this ⊢
    show [x] ++ [] ++ joinL [] ([y] :: List.map (fun c => [c]) r) = _
    rw [this]; rfl
theorem rng_len (a : Int) (n : Nat) : (rng a n).length = n := by simp [rng]
theorem atI_abcd {r : Int} (h0 : 0 ≤ r) (h1 : r < 4) : atI [97, 98, 99, 100] r = some (97 + r.toNat) := by
  obtain ⟨n, rfl⟩ := Int.eq_ofNat_of_zero_le h0
  have : n < 4 := by omega
  match n, this with
  | 0, _ => rfl
  | 1, _ => rfl
  | 2, _ => rfl
  | 3, _ => rfl
theorem cut_lo {α : Type} {l : List α} {i : Int} (h : 0 ≤ i) : cut l (some i) none = l.drop i.toNat := by
  obtain ⟨n, rfl⟩ := Int.eq_ofNat_of_zero_le h
  unfold cut
  rw [HT.sIx_nat, HT.sIx_none, Int.toNat_natCast]
  by_cases hn : n ≤ l.length
  · rw [Nat.min_eq_left hn]
    exact List.take_of_length_le (by rw [List.length_drop]; exact Nat.le_refl _)
  · rw [Nat.min_eq_right (by omega), List.drop_length, List.drop_of_length_le (by omega)]
    simp
theorem cut_hi {α : Type} {l : List α} {i : Int} (h : 0 ≤ i) : cut l none (some i) = l.take i.toNat := by
  obtain ⟨n, rfl⟩ := Int.eq_ofNat_of_zero_le h
  unfold cut
  rw [HT.sIx_nat, HT.sIx_none, Int.toNat_natCast, List.drop_zero, Nat.sub_zero]
  by_cases hn : n ≤ l.length
  · rw [Nat.min_eq_left hn]
  · rw [Nat.min_eq_right (by omega), List.take_length, List.take_of_length_le (by omega)]
theorem cut_lh {α : Type} {l : List α} {i j : Int} (h : 0 ≤ i) (h2 : 0 ≤ j) : cut l (some i) (some j) = (l.drop i.toNat).take (j.toNat - i.toNat) := by
  obtain ⟨n, rfl⟩ := Int.eq_ofNat_of_zero_le h
  obtain ⟨m, rfl⟩ := Int.eq_ofNat_of_zero_le h2
  unfold cut
  rw [HT.sIx_nat, HT.sIx_nat, Int.toNat_natCast, Int.toNat_natCast]
  by_cases hn : n ≤ l.length
  · rw [Nat.min_eq_left hn]
    by_cases hm : m ≤ l.length
    · rw [Nat.min_eq_left hm]
    · rw [Nat.min_eq_right (by omega), List.take_of_length_le (by rw [List.length_drop]; omega), List.take_of_length_le (by rw [List.length_drop]; omega)]
  · rw [Nat.min_eq_right (show l.length ≤ n by omega), List.drop_length, List.drop_of_length_le (by omega)]
    simp
theorem ite_i {c : Prop} [Decidable c] {A B : Prop} (h1 : c → A) (h2 : ¬ c → B) : if c then A else B := by
  by_cases h : c
  · rw [if_pos h]; exact h1 h
  · rw [if_neg h]; exact h2 h
theorem repL_mem {α : Type} {x : α} : ∀ {n : Nat} {l : List α}, x ∈ repL n l → x ∈ l
  | 0, l, h => by simp [repL] at h
  | n + 1, l, h => by
    simp only [repL, List.replicate_succ, List.flatten_cons, List.mem_append] at h
    rcases h with h | h
    · exact h
    · exact repL_mem (n := n) h
theorem repL_len {α : Type} : ∀ (n : Nat) (l : List α), (repL n l).length = n * l.length
  | 0, l => by simp [repL]
  | n + 1, l => by
    simp only [repL, List.replicate_succ, List.flatten_cons, List.length_append]
    have := repL_len n l
    simp only [repL] at this
    rw [this, Nat.add_mul]; omega
def LetK (kinds : Int) (l : List Nat) : Prop := ∀ c ∈ l, 97 ≤ c ∧ (c : Int) < 97 + kinds
theorem comp_letters {kinds : Int} {n : Nat} {w : Wel} {Q : List PyData → Option Wel → Prop} {lk : Lock Q} {e1 e3 e4 e5 e6 e7 e8 e9 e10 : Option Ent} (k0 : 1 ≤ kinds) (k1 : kinds ≤ 4) (ok : WelOk w)
    (h : ∀ ls w', ls.length = n → LetK kinds ls → WelOk w' → Q (ls.map fun c => .str (S [c])) (some w')) :
    compL [10] (gSet 10) ttY (wOp fSub_ (oE (wC (PyData.str "abcd"))) (oE (wCall g__law_dip (aW 0 (aC (wV 2) aN))))) [some .wel, e1, some (.im (.int kinds)), e3, e4, e5, e6, e7, e8, e9, e10] (rng 0 n) (some w) Q lk := by
  refine comp_i (fun i ys wl => ∃ ls w', ys = (ls.map fun c => .str (S [c])) ∧ ls.length = i ∧ LetK kinds ls ∧ wl = some w' ∧ WelOk w') ⟨[], w, rfl, rfl, (fun _ hc => absurd hc (List.not_mem_nil)), rfl, ok⟩ ?_ ?_
  · rintro i d ys wl' hd ⟨ls, w', rfl, rfl, hl, rfl, ok'⟩
    simp -dsimp only [↓uSeq, ↓uNext, ↓uKill, ↓uFrz, ↓uDrop, ↓uRet, ↓uIf, ↓uAsg, ↓uAsgO, ↓uPar2, ↓uPut, ↓uDPut, ↓uFor_eq, ↓uWhile_eq, ↓uSeqM_eq, ↓uBrk, ↓uCnt, ↓uWelD, ↓gSet, ↓gN, ↓gC, ↓gT, ↓zE, ↓zF, ↓oE, ↓oV, ↓wV, ↓wC, ↓wOp, ↓wUn, ↓app2, ↓app1, ↓wTst, ↓tAndD, ↓tOrD, ↓tNotD, ↓wAndV, ↓wOrV, ↓wNotV, ↓wIf, ↓wChain, ↓osN, ↓osC, getAll, ↓appN, ↓wCB, ↓appM, ↓wBM, ↓wBM0, ↓wN, ↓wCs, ↓wTup, ↓wLst, ↓wDic0, ↓wDicT, ↓aN, ↓aC, ↓aW, ↓wCall_eq, ↓wCallK_eq, perm, List.filterMap_cons, List.filterMap_nil, ↓wApp, ↓wExt, ↓wPop, ↓wPopAt, ↓wListA, ↓wRpl, ↓iX, ↓iL, ↓iT, ↓iS, ↓iR1, ↓iR2, ↓iScr, ↓iZD, ↓iE, ↓wComp_eq, ↓ttY, ↓wSl, ↓wPart, ↓plN, ↓wRev, ↓wListO, ↓wRep, ↓wLenSet, ↓wLenScr, ↓wWelI, ↓wWelPop, ↓wWelApp, ↓tWelNE, ↓wDisp, ↓psC, ↓psN, ↓wDIn, ↓wDNotIn, ↓askD, ↓fAdd, ↓fSub, ↓fII, ↓fII0, ↓fDiv, ↓fMod, ↓fPow, ↓fLt, ↓fGt, ↓fLe, ↓fGe, ↓fGtD, ↓fLtD, ↓fLeD, ↓fGeD, ↓fNeg, ↓fMul, ↓fEq, ↓fNe, ↓eqQ, ↓fIsN, ↓fNotN, isNone_1, isNone_2, isNone_3, isNone_4, isNone_5, isNone_6, isNone_7, ↓fInC, ↓fNotInC, ↓fSub_, ↓fIx, ↓fSl, ↓fLen, ↓fTuple, ↓fMin1, ↓fMax1, ↓fSum, ↓fAll, ↓fAny, ↓fSorted, ↓fSortS, ↓fAbs, ↓fInt, ↓fRepr, ↓fCnt, ↓fIdx, ↓fJoin, isStr,
 endsG, mem0, toEnt, Mem.set, Mem.view, Mem.kill, Mem.frz, Mem.ro, Ent.ro', Opd.get,
 List.set_cons_zero, List.set_cons_succ, List.getElem?_cons_zero, List.getElem?_cons_succ, List.map_cons, List.map_nil, List.length_cons, List.length_nil, List.cons_append, List.nil_append, List.replicate_succ, List.replicate_zero, Option.map_some, Option.map_none, List.cons.injEq, and_true, true_and, Arg.x.injEq, exists_eq_left, exists_eq_right, Option.some.injEq, Ent.ow.injEq, Ent.im.injEq, PyData.int.injEq, PyData.list.injEq, PyData.dict.injEq, PyData.tuple.injEq, PyData.str.injEq, exists_eq', exists_eq, decide_eq_true_eq, Bool.not_eq_true', ite_true, ite_false, decide_true, decide_false, decide_eq_false_iff_not, not_true_eq_false, not_false_eq_true, reduceCtorEq, eq_self]
    refine dip_i ok' (by omega) fun r w2 h1 h2 ok2 => ?_
    simp -dsimp only [↓uSeq, ↓uNext, ↓uKill, ↓uFrz, ↓uDrop, ↓uRet, ↓uIf, ↓uAsg, ↓uAsgO, ↓uPar2, ↓uPut, ↓uDPut, ↓uFor_eq, ↓uWhile_eq, ↓uSeqM_eq, ↓uBrk, ↓uCnt, ↓uWelD, ↓gSet, ↓gN, ↓gC, ↓gT, ↓zE, ↓zF, ↓oE, ↓oV, ↓wV, ↓wC, ↓wOp, ↓wUn, ↓app2, ↓app1, ↓wTst, ↓tAndD, ↓tOrD, ↓tNotD, ↓wAndV, ↓wOrV, ↓wNotV, ↓wIf, ↓wChain, ↓osN, ↓osC, getAll, ↓appN, ↓wCB, ↓appM, ↓wBM, ↓wBM0, ↓wN, ↓wCs, ↓wTup, ↓wLst, ↓wDic0, ↓wDicT, ↓aN, ↓aC, ↓aW, ↓wCall_eq, ↓wCallK_eq, perm, List.filterMap_cons, List.filterMap_nil, ↓wApp, ↓wExt, ↓wPop, ↓wPopAt, ↓wListA, ↓wRpl, ↓iX, ↓iL, ↓iT, ↓iS, ↓iR1, ↓iR2, ↓iScr, ↓iZD, ↓iE, ↓wComp_eq, ↓ttY, ↓wSl, ↓wPart, ↓plN, ↓wRev, ↓wListO, ↓wRep, ↓wLenSet, ↓wLenScr, ↓wWelI, ↓wWelPop, ↓wWelApp, ↓tWelNE, ↓wDisp, ↓psC, ↓psN, ↓wDIn, ↓wDNotIn, ↓askD, ↓fAdd, ↓fSub, ↓fII, ↓fII0, ↓fDiv, ↓fMod, ↓fPow, ↓fLt, ↓fGt, ↓fLe, ↓fGe, ↓fGtD, ↓fLtD, ↓fLeD, ↓fGeD, ↓fNeg, ↓fMul, ↓fEq, ↓fNe, ↓eqQ, ↓fIsN, ↓fNotN, isNone_1, isNone_2, isNone_3, isNone_4, isNone_5, isNone_6, isNone_7, ↓fInC, ↓fNotInC, ↓fSub_, ↓fIx, ↓fSl, ↓fLen, ↓fTuple, ↓fMin1, ↓fMax1, ↓fSum, ↓fAll, ↓fAny, ↓fSorted, ↓fSortS, ↓fAbs, ↓fInt, ↓fRepr, ↓fCnt, ↓fIdx, ↓fJoin, isStr,
 endsG, mem0, toEnt, Mem.set, Mem.view, Mem.kill, Mem.frz, Mem.ro, Ent.ro', Opd.get,
 List.set_cons_zero, List.set_cons_succ, List.getElem?_cons_zero, List.getElem?_cons_succ, List.map_cons, List.map_nil, List.length_cons, List.length_nil, List.cons_append, List.nil_append, List.replicate_succ, List.replicate_zero, Option.map_some, Option.map_none, List.cons.injEq, and_true, true_and, Arg.x.injEq, exists_eq_left, exists_eq_right, Option.some.injEq, Ent.ow.injEq, Ent.im.injEq, PyData.int.injEq, PyData.list.injEq, PyData.dict.injEq, PyData.tuple.injEq, PyData.str.injEq, exists_eq', exists_eq, decide_eq_true_eq, Bool.not_eq_true', ite_true, ite_false, decide_true, decide_false, decide_eq_false_iff_not, not_true_eq_false, not_false_eq_true, reduceCtorEq, eq_self, k_abcd, S_cps, atI_abcd h1 (by omega : r < 4)]
    refine ⟨by decide, ls ++ [97 + r.toNat], w2, by simp, by simp, fun c hc => ?_, rfl, ok2⟩
    rcases List.mem_append.mp hc with hc | hc
    · exact hl c hc
    · have := List.mem_singleton.mp hc
      omega
  · rintro ys wl' ⟨ls, w', rfl, hn, hl, rfl, ok'⟩
    rw [rng_len] at hn
    exact h ls w' hn hl ok'
theorem sum_ones {α : Type} (l : List α) : (l.map fun _ => 1).sum = l.length := by
  induction l with
  | nil => rfl
  | cons a l ih => simp; omega
/-! _law_word -/
def g__law_word : GSpec := fun args wl Q => ∃ (w : Wel) (most kinds : Int), args = [.wel, .x (.int most), .x (.int kinds)] ∧ wl = some w ∧ WelOk w ∧ 0 ≤ most ∧ most ≤ 64 ∧ 1 ≤ kinds ∧ kinds ≤ 4 ∧
  ∀ (l : List Nat) w', (∀ c ∈ l, 97 ≤ c ∧ (c : Int) < 97 + kinds) → l.length ≤ most.toNat → WelOk w' → Q (sD l) (some w')
def u__law_word : WS :=
  (uSeq (uPar2 3 4 (zE (wCall g__law_dip (aW 0 (aC (wOp fAdd (oV 1) (oE (wC (.int 1)))) aN)))) (zE (wCall g__law_dip (aW 0 (aC (wC (.int 6)) aN)))))
  (uSeq (uIf (wTst (wOp fLt (oV 4) (oE (wC (.int 3)))))
  (uRet (wBM isStr fJoin (oE (wC (.str ""))) (osC (oE (wComp [10] (iR1 (osC (oV 3) osN)) (gSet 10) ttY (wOp fSub_ (oE (wC (.str "abcd"))) (oE (wCall g__law_dip (aW 0 (aC (wV 2) aN))))))) osN)))
  uNext)
  (uSeqM (uIf (wTst (wOp fLt (oV 4) (oE (wC (.int 5)))))
  (uSeq (uAsg (wBM isStr fJoin (oE (wC (.str ""))) (osC (oE (wComp [10] (iR1 (osC (oE (wOp fAdd (oE (wC (.int 1))) (oE (wCall g__law_dip (aW 0 (aC (wC (.int 4)) aN)))))) osN)) (gSet 10) ttY (wOp fSub_ (oE (wC (.str "abcd"))) (oE (wCall g__law_dip (aW 0 (aC (wV 2) aN))))))) osN)) (gSet 5))
  (uAsg (wSl (oE (wOp fMul (oV 5) (oE (wOp fAdd (oV 3) (oE (wC (.int 1))))))) plN (wPart (oV 3))) (gSet 6)))
  (uSeq (uPar2 7 8 (zE (wC (.str "a"))) (zE (wIf (wTst (wOp fGt (oV 2) (oE (wC (.int 1))))) (wC (.str "ab")) (wC (.str "a")))))
  (uSeq (uWhile [] (wTst (wOp fLt (oE (wCB fLen (osC (oV 8) osN))) (oV 3)))
  (uPar2 7 8 (zE (wV 8)) (zE (wOp fAdd (oV 8) (oV 7)))))
  (uAsg (wSl (oV 8) plN (wPart (oV 3))) (gSet 6)))))
  (uSeqM (uIf (tAndD (wTst (wOp fGt (oV 3) (oE (wC (.int 0))))) (wTst (wOp fEq (oE (wCall g__law_dip (aW 0 (aC (wC (.int 3)) aN)))) (oE (wC (.int 0))))))
  (uSeq (uAsg (wCall g__law_dip (aW 0 (aC (wV 3) aN))) (gSet 9))
  (uAsg (wOp fAdd (oE (wOp fAdd (oE (wSl (oV 6) plN (wPart (oV 9)))) (oE (wOp fSub_ (oE (wC (.str "abcd"))) (oE (wCall g__law_dip (aW 0 (aC (wV 2) aN)))))))) (oE (wSl (oV 6) (wPart (oE (wOp fAdd (oV 9) (oE (wC (.int 1)))))) plN))) (gSet 6)))
  uNext)
  (uRet (wV 6))))))
theorem pf__law_word (args : List Arg) (wl : Option Wel) (Q : PyData → Option Wel → Prop) (h : g__law_word args wl Q) : u__law_word noX (endsG Q) (mem0 11 args wl) := by
  obtain ⟨w, most, kinds, rfl, rfl, ok, m0, m1, k0, k1, q⟩ := h
  simp -dsimp only [u__law_word, ↓uSeq, ↓uNext, ↓uKill, ↓uFrz, ↓uDrop, ↓uRet, ↓uIf, ↓uAsg, ↓uAsgO, ↓uPar2, ↓uPut, ↓uDPut, ↓uFor_eq, ↓uWhile_eq, ↓uSeqM_eq, ↓uBrk, ↓uCnt, ↓uWelD, ↓gSet, ↓gN, ↓gC, ↓gT, ↓zE, ↓zF, ↓oE, ↓oV, ↓wV, ↓wC, ↓wOp, ↓wUn, ↓app2, ↓app1, ↓wTst, ↓tAndD, ↓tOrD, ↓tNotD, ↓wAndV, ↓wOrV, ↓wNotV, ↓wIf, ↓wChain, ↓osN, ↓osC, getAll, ↓appN, ↓wCB, ↓appM, ↓wBM, ↓wBM0, ↓wN, ↓wCs, ↓wTup, ↓wLst, ↓wDic0, ↓wDicT, ↓aN, ↓aC, ↓aW, ↓wCall_eq, ↓wCallK_eq, perm, List.filterMap_cons, List.filterMap_nil, ↓wApp, ↓wExt, ↓wPop, ↓wPopAt, ↓wListA, ↓wRpl, ↓iX, ↓iL, ↓iT, ↓iS, ↓iR1, ↓iR2, ↓iScr, ↓iZD, ↓iE, ↓wComp_eq, ↓ttY, ↓wSl, ↓wPart, ↓plN, ↓wRev, ↓wListO, ↓wRep, ↓wLenSet, ↓wLenScr, ↓wWelI, ↓wWelPop, ↓wWelApp, ↓tWelNE, ↓wDisp, ↓psC, ↓psN, ↓wDIn, ↓wDNotIn, ↓askD, ↓fAdd, ↓fSub, ↓fII, ↓fII0, ↓fDiv, ↓fMod, ↓fPow, ↓fLt, ↓fGt, ↓fLe, ↓fGe, ↓fGtD, ↓fLtD, ↓fLeD, ↓fGeD, ↓fNeg, ↓fMul, ↓fEq, ↓fNe, ↓eqQ, ↓fIsN, ↓fNotN, isNone_1, isNone_2, isNone_3, isNone_4, isNone_5, isNone_6, isNone_7, ↓fInC, ↓fNotInC, ↓fSub_, ↓fIx, ↓fSl, ↓fLen, ↓fTuple, ↓fMin1, ↓fMax1, ↓fSum, ↓fAll, ↓fAny, ↓fSorted, ↓fSortS, ↓fAbs, ↓fInt, ↓fRepr, ↓fCnt, ↓fIdx, ↓fJoin, isStr,
 endsG, mem0, toEnt, Mem.set, Mem.view, Mem.kill, Mem.frz, Mem.ro, Ent.ro', Opd.get,
 List.set_cons_zero, List.set_cons_succ, List.getElem?_cons_zero, List.getElem?_cons_succ, List.map_cons, List.map_nil, List.length_cons, List.length_nil, List.cons_append, List.nil_append, List.replicate_succ, List.replicate_zero, Option.map_some, Option.map_none, List.cons.injEq, and_true, true_and, Arg.x.injEq, exists_eq_left, exists_eq_right, Option.some.injEq, Ent.ow.injEq, Ent.im.injEq, PyData.int.injEq, PyData.list.injEq, PyData.dict.injEq, PyData.tuple.injEq, PyData.str.injEq, exists_eq', exists_eq, decide_eq_true_eq, Bool.not_eq_true', ite_true, ite_false, decide_true, decide_false, decide_eq_false_iff_not, not_true_eq_false, not_false_eq_true, reduceCtorEq, eq_self]
  refine dip_i ok (by omega) fun size w1 s1 s2 ok1 => ?_
  simp -dsimp only [↓uSeq, ↓uNext, ↓uKill, ↓uFrz, ↓uDrop, ↓uRet, ↓uIf, ↓uAsg, ↓uAsgO, ↓uPar2, ↓uPut, ↓uDPut, ↓uFor_eq, ↓uWhile_eq, ↓uSeqM_eq, ↓uBrk, ↓uCnt, ↓uWelD, ↓gSet, ↓gN, ↓gC, ↓gT, ↓zE, ↓zF, ↓oE, ↓oV, ↓wV, ↓wC, ↓wOp, ↓wUn, ↓app2, ↓app1, ↓wTst, ↓tAndD, ↓tOrD, ↓tNotD, ↓wAndV, ↓wOrV, ↓wNotV, ↓wIf, ↓wChain, ↓osN, ↓osC, getAll, ↓appN, ↓wCB, ↓appM, ↓wBM, ↓wBM0, ↓wN, ↓wCs, ↓wTup, ↓wLst, ↓wDic0, ↓wDicT, ↓aN, ↓aC, ↓aW, ↓wCall_eq, ↓wCallK_eq, perm, List.filterMap_cons, List.filterMap_nil, ↓wApp, ↓wExt, ↓wPop, ↓wPopAt, ↓wListA, ↓wRpl, ↓iX, ↓iL, ↓iT, ↓iS, ↓iR1, ↓iR2, ↓iScr, ↓iZD, ↓iE, ↓wComp_eq, ↓ttY, ↓wSl, ↓wPart, ↓plN, ↓wRev, ↓wListO, ↓wRep, ↓wLenSet, ↓wLenScr, ↓wWelI, ↓wWelPop, ↓wWelApp, ↓tWelNE, ↓wDisp, ↓psC, ↓psN, ↓wDIn, ↓wDNotIn, ↓askD, ↓fAdd, ↓fSub, ↓fII, ↓fII0, ↓fDiv, ↓fMod, ↓fPow, ↓fLt, ↓fGt, ↓fLe, ↓fGe, ↓fGtD, ↓fLtD, ↓fLeD, ↓fGeD, ↓fNeg, ↓fMul, ↓fEq, ↓fNe, ↓eqQ, ↓fIsN, ↓fNotN, isNone_1, isNone_2, isNone_3, isNone_4, isNone_5, isNone_6, isNone_7, ↓fInC, ↓fNotInC, ↓fSub_, ↓fIx, ↓fSl, ↓fLen, ↓fTuple, ↓fMin1, ↓fMax1, ↓fSum, ↓fAll, ↓fAny, ↓fSorted, ↓fSortS, ↓fAbs, ↓fInt, ↓fRepr, ↓fCnt, ↓fIdx, ↓fJoin, isStr,
 endsG, mem0, toEnt, Mem.set, Mem.view, Mem.kill, Mem.frz, Mem.ro, Ent.ro', Opd.get,
 List.set_cons_zero, List.set_cons_succ, List.getElem?_cons_zero, List.getElem?_cons_succ, List.map_cons, List.map_nil, List.length_cons, List.length_nil, List.cons_append, List.nil_append, List.replicate_succ, List.replicate_zero, Option.map_some, Option.map_none, List.cons.injEq, and_true, true_and, Arg.x.injEq, exists_eq_left, exists_eq_right, Option.some.injEq, Ent.ow.injEq, Ent.im.injEq, PyData.int.injEq, PyData.list.injEq, PyData.dict.injEq, PyData.tuple.injEq, PyData.str.injEq, exists_eq', exists_eq, decide_eq_true_eq, Bool.not_eq_true', ite_true, ite_false, decide_true, decide_false, decide_eq_false_iff_not, not_true_eq_false, not_false_eq_true, reduceCtorEq, eq_self]
  refine dip_i ok1 (by omega) fun way w2 _ _ ok2 => ?_
  simp -dsimp only [↓uSeq, ↓uNext, ↓uKill, ↓uFrz, ↓uDrop, ↓uRet, ↓uIf, ↓uAsg, ↓uAsgO, ↓uPar2, ↓uPut, ↓uDPut, ↓uFor_eq, ↓uWhile_eq, ↓uSeqM_eq, ↓uBrk, ↓uCnt, ↓uWelD, ↓gSet, ↓gN, ↓gC, ↓gT, ↓zE, ↓zF, ↓oE, ↓oV, ↓wV, ↓wC, ↓wOp, ↓wUn, ↓app2, ↓app1, ↓wTst, ↓tAndD, ↓tOrD, ↓tNotD, ↓wAndV, ↓wOrV, ↓wNotV, ↓wIf, ↓wChain, ↓osN, ↓osC, getAll, ↓appN, ↓wCB, ↓appM, ↓wBM, ↓wBM0, ↓wN, ↓wCs, ↓wTup, ↓wLst, ↓wDic0, ↓wDicT, ↓aN, ↓aC, ↓aW, ↓wCall_eq, ↓wCallK_eq, perm, List.filterMap_cons, List.filterMap_nil, ↓wApp, ↓wExt, ↓wPop, ↓wPopAt, ↓wListA, ↓wRpl, ↓iX, ↓iL, ↓iT, ↓iS, ↓iR1, ↓iR2, ↓iScr, ↓iZD, ↓iE, ↓wComp_eq, ↓ttY, ↓wSl, ↓wPart, ↓plN, ↓wRev, ↓wListO, ↓wRep, ↓wLenSet, ↓wLenScr, ↓wWelI, ↓wWelPop, ↓wWelApp, ↓tWelNE, ↓wDisp, ↓psC, ↓psN, ↓wDIn, ↓wDNotIn, ↓askD, ↓fAdd, ↓fSub, ↓fII, ↓fII0, ↓fDiv, ↓fMod, ↓fPow, ↓fLt, ↓fGt, ↓fLe, ↓fGe, ↓fGtD, ↓fLtD, ↓fLeD, ↓fGeD, ↓fNeg, ↓fMul, ↓fEq, ↓fNe, ↓eqQ, ↓fIsN, ↓fNotN, isNone_1, isNone_2, isNone_3, isNone_4, isNone_5, isNone_6, isNone_7, ↓fInC, ↓fNotInC, ↓fSub_, ↓fIx, ↓fSl, ↓fLen, ↓fTuple, ↓fMin1, ↓fMax1, ↓fSum, ↓fAll, ↓fAny, ↓fSorted, ↓fSortS, ↓fAbs, ↓fInt, ↓fRepr, ↓fCnt, ↓fIdx, ↓fJoin, isStr,
 endsG, mem0, toEnt, Mem.set, Mem.view, Mem.kill, Mem.frz, Mem.ro, Ent.ro', Opd.get,
 List.set_cons_zero, List.set_cons_succ, List.getElem?_cons_zero, List.getElem?_cons_succ, List.map_cons, List.map_nil, List.length_cons, List.length_nil, List.cons_append, List.nil_append, List.replicate_succ, List.replicate_zero, Option.map_some, Option.map_none, List.cons.injEq, and_true, true_and, Arg.x.injEq, exists_eq_left, exists_eq_right, Option.some.injEq, Ent.ow.injEq, Ent.im.injEq, PyData.int.injEq, PyData.list.injEq, PyData.dict.injEq, PyData.tuple.injEq, PyData.str.injEq, exists_eq', exists_eq, decide_eq_true_eq, Bool.not_eq_true', ite_true, ite_false, decide_true, decide_false, decide_eq_false_iff_not, not_true_eq_false, not_false_eq_true, reduceCtorEq, eq_self]
  by_cases h3 : way < 3
  · rw [if_pos h3]
    refine ⟨⟨by omega, by omega⟩, by rw [rng_len]; exact zl _ (by omega), comp_letters k0 k1 ok2 fun ls w' hn hl ok' => ?_⟩
    simp -dsimp only [↓uSeq, ↓uNext, ↓uKill, ↓uFrz, ↓uDrop, ↓uRet, ↓uIf, ↓uAsg, ↓uAsgO, ↓uPar2, ↓uPut, ↓uDPut, ↓uFor_eq, ↓uWhile_eq, ↓uSeqM_eq, ↓uBrk, ↓uCnt, ↓uWelD, ↓gSet, ↓gN, ↓gC, ↓gT, ↓zE, ↓zF, ↓oE, ↓oV, ↓wV, ↓wC, ↓wOp, ↓wUn, ↓app2, ↓app1, ↓wTst, ↓tAndD, ↓tOrD, ↓tNotD, ↓wAndV, ↓wOrV, ↓wNotV, ↓wIf, ↓wChain, ↓osN, ↓osC, getAll, ↓appN, ↓wCB, ↓appM, ↓wBM, ↓wBM0, ↓wN, ↓wCs, ↓wTup, ↓wLst, ↓wDic0, ↓wDicT, ↓aN, ↓aC, ↓aW, ↓wCall_eq, ↓wCallK_eq, perm, List.filterMap_cons, List.filterMap_nil, ↓wApp, ↓wExt, ↓wPop, ↓wPopAt, ↓wListA, ↓wRpl, ↓iX, ↓iL, ↓iT, ↓iS, ↓iR1, ↓iR2, ↓iScr, ↓iZD, ↓iE, ↓wComp_eq, ↓ttY, ↓wSl, ↓wPart, ↓plN, ↓wRev, ↓wListO, ↓wRep, ↓wLenSet, ↓wLenScr, ↓wWelI, ↓wWelPop, ↓wWelApp, ↓tWelNE, ↓wDisp, ↓psC, ↓psN, ↓wDIn, ↓wDNotIn, ↓askD, ↓fAdd, ↓fSub, ↓fII, ↓fII0, ↓fDiv, ↓fMod, ↓fPow, ↓fLt, ↓fGt, ↓fLe, ↓fGe, ↓fGtD, ↓fLtD, ↓fLeD, ↓fGeD, ↓fNeg, ↓fMul, ↓fEq, ↓fNe, ↓eqQ, ↓fIsN, ↓fNotN, isNone_1, isNone_2, isNone_3, isNone_4, isNone_5, isNone_6, isNone_7, ↓fInC, ↓fNotInC, ↓fSub_, ↓fIx, ↓fSl, ↓fLen, ↓fTuple, ↓fMin1, ↓fMax1, ↓fSum, ↓fAll, ↓fAny, ↓fSorted, ↓fSortS, ↓fAbs, ↓fInt, ↓fRepr, ↓fCnt, ↓fIdx, ↓fJoin, isStr,
 endsG, mem0, toEnt, Mem.set, Mem.view, Mem.kill, Mem.frz, Mem.ro, Ent.ro', Opd.get,
 List.set_cons_zero, List.set_cons_succ, List.getElem?_cons_zero, List.getElem?_cons_succ, List.map_cons, List.map_nil, List.length_cons, List.length_nil, List.cons_append, List.nil_append, List.replicate_succ, List.replicate_zero, Option.map_some, Option.map_none, List.cons.injEq, and_true, true_and, Arg.x.injEq, exists_eq_left, exists_eq_right, Option.some.injEq, Ent.ow.injEq, Ent.im.injEq, PyData.int.injEq, PyData.list.injEq, PyData.dict.injEq, PyData.tuple.injEq, PyData.str.injEq, exists_eq', exists_eq, decide_eq_true_eq, Bool.not_eq_true', ite_true, ite_false, decide_true, decide_false, decide_eq_false_iff_not, not_true_eq_false, not_false_eq_true, reduceCtorEq, eq_self, strsOf_f, k_, S_cps, List.map_map, Function.comp_def, join_one, List.length_cons, List.length_nil, sum_ones]
    refine ⟨by simp; omega, q ls w' hl (by omega) ok'⟩
  rw [if_neg h3]
  refine seq_i (fun M => ∃ (l : List Nat) (w' : Wel) (e5 e7 e8 : Option Ent), LetK kinds l ∧ l.length ≤ size.toNat ∧ WelOk w' ∧ M = ⟨[some .wel, some (.im (.int most)), some (.im (.int kinds)), some (.im (.int size)), some (.im (.int way)), e5, some (.im (sD l)), e7, e8, none, none], some w'⟩) ?_ ?_
  · simp -dsimp only [↓uSeq, ↓uNext, ↓uKill, ↓uFrz, ↓uDrop, ↓uRet, ↓uIf, ↓uAsg, ↓uAsgO, ↓uPar2, ↓uPut, ↓uDPut, ↓uFor_eq, ↓uWhile_eq, ↓uSeqM_eq, ↓uBrk, ↓uCnt, ↓uWelD, ↓gSet, ↓gN, ↓gC, ↓gT, ↓zE, ↓zF, ↓oE, ↓oV, ↓wV, ↓wC, ↓wOp, ↓wUn, ↓app2, ↓app1, ↓wTst, ↓tAndD, ↓tOrD, ↓tNotD, ↓wAndV, ↓wOrV, ↓wNotV, ↓wIf, ↓wChain, ↓osN, ↓osC, getAll, ↓appN, ↓wCB, ↓appM, ↓wBM, ↓wBM0, ↓wN, ↓wCs, ↓wTup, ↓wLst, ↓wDic0, ↓wDicT, ↓aN, ↓aC, ↓aW, ↓wCall_eq, ↓wCallK_eq, perm, List.filterMap_cons, List.filterMap_nil, ↓wApp, ↓wExt, ↓wPop, ↓wPopAt, ↓wListA, ↓wRpl, ↓iX, ↓iL, ↓iT, ↓iS, ↓iR1, ↓iR2, ↓iScr, ↓iZD, ↓iE, ↓wComp_eq, ↓ttY, ↓wSl, ↓wPart, ↓plN, ↓wRev, ↓wListO, ↓wRep, ↓wLenSet, ↓wLenScr, ↓wWelI, ↓wWelPop, ↓wWelApp, ↓tWelNE, ↓wDisp, ↓psC, ↓psN, ↓wDIn, ↓wDNotIn, ↓askD, ↓fAdd, ↓fSub, ↓fII, ↓fII0, ↓fDiv, ↓fMod, ↓fPow, ↓fLt, ↓fGt, ↓fLe, ↓fGe, ↓fGtD, ↓fLtD, ↓fLeD, ↓fGeD, ↓fNeg, ↓fMul, ↓fEq, ↓fNe, ↓eqQ, ↓fIsN, ↓fNotN, isNone_1, isNone_2, isNone_3, isNone_4, isNone_5, isNone_6, isNone_7, ↓fInC, ↓fNotInC, ↓fSub_, ↓fIx, ↓fSl, ↓fLen, ↓fTuple, ↓fMin1, ↓fMax1, ↓fSum, ↓fAll, ↓fAny, ↓fSorted, ↓fSortS, ↓fAbs, ↓fInt, ↓fRepr, ↓fCnt, ↓fIdx, ↓fJoin, isStr,
 endsG, mem0, toEnt, Mem.set, Mem.view, Mem.kill, Mem.frz, Mem.ro, Ent.ro', Opd.get,
 List.set_cons_zero, List.set_cons_succ, List.getElem?_cons_zero, List.getElem?_cons_succ, List.map_cons, List.map_nil, List.length_cons, List.length_nil, List.cons_append, List.nil_append, List.replicate_succ, List.replicate_zero, Option.map_some, Option.map_none, List.cons.injEq, and_true, true_and, Arg.x.injEq, exists_eq_left, exists_eq_right, Option.some.injEq, Ent.ow.injEq, Ent.im.injEq, PyData.int.injEq, PyData.list.injEq, PyData.dict.injEq, PyData.tuple.injEq, PyData.str.injEq, exists_eq', exists_eq, decide_eq_true_eq, Bool.not_eq_true', ite_true, ite_false, decide_true, decide_false, decide_eq_false_iff_not, not_true_eq_false, not_false_eq_true, reduceCtorEq, eq_self]
    refine ite_i (fun h5 => ?_) (fun h5 => ?_)
    · refine dip_i ok2 (by decide) fun n w3 n1 n2 ok3 => ?_
      simp -dsimp only [↓uSeq, ↓uNext, ↓uKill, ↓uFrz, ↓uDrop, ↓uRet, ↓uIf, ↓uAsg, ↓uAsgO, ↓uPar2, ↓uPut, ↓uDPut, ↓uFor_eq, ↓uWhile_eq, ↓uSeqM_eq, ↓uBrk, ↓uCnt, ↓uWelD, ↓gSet, ↓gN, ↓gC, ↓gT, ↓zE, ↓zF, ↓oE, ↓oV, ↓wV, ↓wC, ↓wOp, ↓wUn, ↓app2, ↓app1, ↓wTst, ↓tAndD, ↓tOrD, ↓tNotD, ↓wAndV, ↓wOrV, ↓wNotV, ↓wIf, ↓wChain, ↓osN, ↓osC, getAll, ↓appN, ↓wCB, ↓appM, ↓wBM, ↓wBM0, ↓wN, ↓wCs, ↓wTup, ↓wLst, ↓wDic0, ↓wDicT, ↓aN, ↓aC, ↓aW, ↓wCall_eq, ↓wCallK_eq, perm, List.filterMap_cons, List.filterMap_nil, ↓wApp, ↓wExt, ↓wPop, ↓wPopAt, ↓wListA, ↓wRpl, ↓iX, ↓iL, ↓iT, ↓iS, ↓iR1, ↓iR2, ↓iScr, ↓iZD, ↓iE, ↓wComp_eq, ↓ttY, ↓wSl, ↓wPart, ↓plN, ↓wRev, ↓wListO, ↓wRep, ↓wLenSet, ↓wLenScr, ↓wWelI, ↓wWelPop, ↓wWelApp, ↓tWelNE, ↓wDisp, ↓psC, ↓psN, ↓wDIn, ↓wDNotIn, ↓askD, ↓fAdd, ↓fSub, ↓fII, ↓fII0, ↓fDiv, ↓fMod, ↓fPow, ↓fLt, ↓fGt, ↓fLe, ↓fGe, ↓fGtD, ↓fLtD, ↓fLeD, ↓fGeD, ↓fNeg, ↓fMul, ↓fEq, ↓fNe, ↓eqQ, ↓fIsN, ↓fNotN, isNone_1, isNone_2, isNone_3, isNone_4, isNone_5, isNone_6, isNone_7, ↓fInC, ↓fNotInC, ↓fSub_, ↓fIx, ↓fSl, ↓fLen, ↓fTuple, ↓fMin1, ↓fMax1, ↓fSum, ↓fAll, ↓fAny, ↓fSorted, ↓fSortS, ↓fAbs, ↓fInt, ↓fRepr, ↓fCnt, ↓fIdx, ↓fJoin, isStr,
 endsG, mem0, toEnt, Mem.set, Mem.view, Mem.kill, Mem.frz, Mem.ro, Ent.ro', Opd.get,
 List.set_cons_zero, List.set_cons_succ, List.getElem?_cons_zero, List.getElem?_cons_succ, List.map_cons, List.map_nil, List.length_cons, List.length_nil, List.cons_append, List.nil_append, List.replicate_succ, List.replicate_zero, Option.map_some, Option.map_none, List.cons.injEq, and_true, true_and, Arg.x.injEq, exists_eq_left, exists_eq_right, Option.some.injEq, Ent.ow.injEq, Ent.im.injEq, PyData.int.injEq, PyData.list.injEq, PyData.dict.injEq, PyData.tuple.injEq, PyData.str.injEq, exists_eq', exists_eq, decide_eq_true_eq, Bool.not_eq_true', ite_true, ite_false, decide_true, decide_false, decide_eq_false_iff_not, not_true_eq_false, not_false_eq_true, reduceCtorEq, eq_self]
      refine ⟨⟨by omega, by omega⟩, by rw [rng_len]; exact zl _ (by omega), comp_letters k0 k1 ok3 fun ls w' hn hl ok' => ?_⟩
      simp -dsimp only [↓uSeq, ↓uNext, ↓uKill, ↓uFrz, ↓uDrop, ↓uRet, ↓uIf, ↓uAsg, ↓uAsgO, ↓uPar2, ↓uPut, ↓uDPut, ↓uFor_eq, ↓uWhile_eq, ↓uSeqM_eq, ↓uBrk, ↓uCnt, ↓uWelD, ↓gSet, ↓gN, ↓gC, ↓gT, ↓zE, ↓zF, ↓oE, ↓oV, ↓wV, ↓wC, ↓wOp, ↓wUn, ↓app2, ↓app1, ↓wTst, ↓tAndD, ↓tOrD, ↓tNotD, ↓wAndV, ↓wOrV, ↓wNotV, ↓wIf, ↓wChain, ↓osN, ↓osC, getAll, ↓appN, ↓wCB, ↓appM, ↓wBM, ↓wBM0, ↓wN, ↓wCs, ↓wTup, ↓wLst, ↓wDic0, ↓wDicT, ↓aN, ↓aC, ↓aW, ↓wCall_eq, ↓wCallK_eq, perm, List.filterMap_cons, List.filterMap_nil, ↓wApp, ↓wExt, ↓wPop, ↓wPopAt, ↓wListA, ↓wRpl, ↓iX, ↓iL, ↓iT, ↓iS, ↓iR1, ↓iR2, ↓iScr, ↓iZD, ↓iE, ↓wComp_eq, ↓ttY, ↓wSl, ↓wPart, ↓plN, ↓wRev, ↓wListO, ↓wRep, ↓wLenSet, ↓wLenScr, ↓wWelI, ↓wWelPop, ↓wWelApp, ↓tWelNE, ↓wDisp, ↓psC, ↓psN, ↓wDIn, ↓wDNotIn, ↓askD, ↓fAdd, ↓fSub, ↓fII, ↓fII0, ↓fDiv, ↓fMod, ↓fPow, ↓fLt, ↓fGt, ↓fLe, ↓fGe, ↓fGtD, ↓fLtD, ↓fLeD, ↓fGeD, ↓fNeg, ↓fMul, ↓fEq, ↓fNe, ↓eqQ, ↓fIsN, ↓fNotN, isNone_1, isNone_2, isNone_3, isNone_4, isNone_5, isNone_6, isNone_7, ↓fInC, ↓fNotInC, ↓fSub_, ↓fIx, ↓fSl, ↓fLen, ↓fTuple, ↓fMin1, ↓fMax1, ↓fSum, ↓fAll, ↓fAny, ↓fSorted, ↓fSortS, ↓fAbs, ↓fInt, ↓fRepr, ↓fCnt, ↓fIdx, ↓fJoin, isStr,
 endsG, mem0, toEnt, Mem.set, Mem.view, Mem.kill, Mem.frz, Mem.ro, Ent.ro', Opd.get,
 List.set_cons_zero, List.set_cons_succ, List.getElem?_cons_zero, List.getElem?_cons_succ, List.map_cons, List.map_nil, List.length_cons, List.length_nil, List.cons_append, List.nil_append, List.replicate_succ, List.replicate_zero, Option.map_some, Option.map_none, List.cons.injEq, and_true, true_and, Arg.x.injEq, exists_eq_left, exists_eq_right, Option.some.injEq, Ent.ow.injEq, Ent.im.injEq, PyData.int.injEq, PyData.list.injEq, PyData.dict.injEq, PyData.tuple.injEq, PyData.str.injEq, exists_eq', exists_eq, decide_eq_true_eq, Bool.not_eq_true', ite_true, ite_false, decide_true, decide_false, decide_eq_false_iff_not, not_true_eq_false, not_false_eq_true, reduceCtorEq, eq_self, strsOf_f, k_, S_cps, List.map_map, Function.comp_def, join_one, List.length_cons, List.length_nil, sum_ones]
      rw [cut_hi s1]
      have b2 : ls.length * (size + 1).toNat ≤ 4 * 65 := Nat.mul_le_mul (by omega) (by omega)
      refine ⟨by omega, ⟨by omega, by omega, zl _ (by omega)⟩, by rw [repL_len, Nat.mul_comm]; exact zl _ (by omega), _, w', _, _, _, fun c hc => hl c (repL_mem (List.mem_of_mem_take hc)), by rw [List.length_take]; omega, ok', rfl⟩
    · have gold : ∀ (one other : List Nat), LetK kinds one → LetK kinds other → 1 ≤ one.length → one.length ≤ 64 → 1 ≤ other.length → other.length ≤ 128 → ∀ (De : DEn) (lk : Lock De), (∀ (one other : List Nat), LetK kinds other → size ≤ other.length → other.length ≤ 128 → De.nx ⟨[some .wel, some (.im (.int most)), some (.im (.int kinds)), some (.im (.int size)), some (.im (.int way)), none, none, some (.im (sD one)), some (.im (sD other)), none, none], some w2⟩) →
          whileL [] (wTst (wOp fLt (oE (wCB fLen (osC (oV 8) osN))) (oV 3))) (uPar2 7 8 (zE (wV 8)) (zE (wOp fAdd (oV 8) (oV 7)))) noX De lk ⟨[some .wel, some (.im (.int most)), some (.im (.int kinds)), some (.im (.int size)), some (.im (.int way)), none, none, some (.im (sD one)), some (.im (sD other)), none, none], some w2⟩ := by
        intro one other a1 a2 a3 a4 a5 a6 De lk fin
        refine while_i (fun m M => ∃ (one other : List Nat), LetK kinds one ∧ LetK kinds other ∧ 1 ≤ one.length ∧ one.length ≤ 64 ∧ 1 ≤ other.length ∧ other.length ≤ 128 ∧ m = 200 - other.length ∧ M = ⟨[some .wel, some (.im (.int most)), some (.im (.int kinds)), some (.im (.int size)), some (.im (.int way)), none, none, some (.im (sD one)), some (.im (sD other)), none, none], some w2⟩) (200 - other.length) ⟨one, other, a1, a2, a3, a4, a5, a6, rfl, rfl⟩ ?_
        rintro m M ⟨one, other, a1, a2, a3, a4, a5, a6, rfl, rfl⟩
        simp -dsimp only [↓uSeq, ↓uNext, ↓uKill, ↓uFrz, ↓uDrop, ↓uRet, ↓uIf, ↓uAsg, ↓uAsgO, ↓uPar2, ↓uPut, ↓uDPut, ↓uFor_eq, ↓uWhile_eq, ↓uSeqM_eq, ↓uBrk, ↓uCnt, ↓uWelD, ↓gSet, ↓gN, ↓gC, ↓gT, ↓zE, ↓zF, ↓oE, ↓oV, ↓wV, ↓wC, ↓wOp, ↓wUn, ↓app2, ↓app1, ↓wTst, ↓tAndD, ↓tOrD, ↓tNotD, ↓wAndV, ↓wOrV, ↓wNotV, ↓wIf, ↓wChain, ↓osN, ↓osC, getAll, ↓appN, ↓wCB, ↓appM, ↓wBM, ↓wBM0, ↓wN, ↓wCs, ↓wTup, ↓wLst, ↓wDic0, ↓wDicT, ↓aN, ↓aC, ↓aW, ↓wCall_eq, ↓wCallK_eq, perm, List.filterMap_cons, List.filterMap_nil, ↓wApp, ↓wExt, ↓wPop, ↓wPopAt, ↓wListA, ↓wRpl, ↓iX, ↓iL, ↓iT, ↓iS, ↓iR1, ↓iR2, ↓iScr, ↓iZD, ↓iE, ↓wComp_eq, ↓ttY, ↓wSl, ↓wPart, ↓plN, ↓wRev, ↓wListO, ↓wRep, ↓wLenSet, ↓wLenScr, ↓wWelI, ↓wWelPop, ↓wWelApp, ↓tWelNE, ↓wDisp, ↓psC, ↓psN, ↓wDIn, ↓wDNotIn, ↓askD, ↓fAdd, ↓fSub, ↓fII, ↓fII0, ↓fDiv, ↓fMod, ↓fPow, ↓fLt, ↓fGt, ↓fLe, ↓fGe, ↓fGtD, ↓fLtD, ↓fLeD, ↓fGeD, ↓fNeg, ↓fMul, ↓fEq, ↓fNe, ↓eqQ, ↓fIsN, ↓fNotN, isNone_1, isNone_2, isNone_3, isNone_4, isNone_5, isNone_6, isNone_7, ↓fInC, ↓fNotInC, ↓fSub_, ↓fIx, ↓fSl, ↓fLen, ↓fTuple, ↓fMin1, ↓fMax1, ↓fSum, ↓fAll, ↓fAny, ↓fSorted, ↓fSortS, ↓fAbs, ↓fInt, ↓fRepr, ↓fCnt, ↓fIdx, ↓fJoin, isStr,
 endsG, mem0, toEnt, Mem.set, Mem.view, Mem.kill, Mem.frz, Mem.ro, Ent.ro', Opd.get,
 List.set_cons_zero, List.set_cons_succ, List.getElem?_cons_zero, List.getElem?_cons_succ, List.map_cons, List.map_nil, List.length_cons, List.length_nil, List.cons_append, List.nil_append, List.replicate_succ, List.replicate_zero, Option.map_some, Option.map_none, List.cons.injEq, and_true, true_and, Arg.x.injEq, exists_eq_left, exists_eq_right, Option.some.injEq, Ent.ow.injEq, Ent.im.injEq, PyData.int.injEq, PyData.list.injEq, PyData.dict.injEq, PyData.tuple.injEq, PyData.str.injEq, exists_eq', exists_eq, decide_eq_true_eq, Bool.not_eq_true', ite_true, ite_false, decide_true, decide_false, decide_eq_false_iff_not, not_true_eq_false, not_false_eq_true, reduceCtorEq, eq_self, S_cps]
        refine ⟨zl _ (by omega), ite_i (fun hc => ?_) (fun hc => ?_)⟩
        · refine ⟨zl _ (by omega), _, ?_, other, other ++ one, a2, fun c hc => ?_, a5, by omega, by rw [List.length_append]; omega, by rw [List.length_append]; omega, rfl, rfl⟩
          · rw [List.length_append]; omega
          · rcases List.mem_append.mp hc with hc | hc
            · exact a2 c hc
            · exact a1 c hc
        · exact fin one other a2 (by omega) a6
      have la : LetK kinds [97] := fun c hc => by have := List.mem_singleton.mp hc; omega
      have fin : ∀ (one other : List Nat), LetK kinds other → size ≤ other.length → other.length ≤ 128 → ∀ rt bk ct, uAsg (wSl (oV 8) plN (wPart (oV 3))) (gSet 6) noX { rt := rt, bk := bk, ct := ct, nx := fun M => ∃ (l : List Nat) (w' : Wel) (e5 e7 e8 : Option Ent), LetK kinds l ∧ l.length ≤ size.toNat ∧ WelOk w' ∧ M = ⟨[some .wel, some (.im (.int most)), some (.im (.int kinds)), some (.im (.int size)), some (.im (.int way)), e5, some (.im (sD l)), e7, e8, none, none], some w'⟩ } ⟨[some .wel, some (.im (.int most)), some (.im (.int kinds)), some (.im (.int size)), some (.im (.int way)), none, none, some (.im (sD one)), some (.im (sD other)), none, none], some w2⟩ := by
        intro one other a1 a2 a3 rt bk ct
        simp -dsimp only [↓uSeq, ↓uNext, ↓uKill, ↓uFrz, ↓uDrop, ↓uRet, ↓uIf, ↓uAsg, ↓uAsgO, ↓uPar2, ↓uPut, ↓uDPut, ↓uFor_eq, ↓uWhile_eq, ↓uSeqM_eq, ↓uBrk, ↓uCnt, ↓uWelD, ↓gSet, ↓gN, ↓gC, ↓gT, ↓zE, ↓zF, ↓oE, ↓oV, ↓wV, ↓wC, ↓wOp, ↓wUn, ↓app2, ↓app1, ↓wTst, ↓tAndD, ↓tOrD, ↓tNotD, ↓wAndV, ↓wOrV, ↓wNotV, ↓wIf, ↓wChain, ↓osN, ↓osC, getAll, ↓appN, ↓wCB, ↓appM, ↓wBM, ↓wBM0, ↓wN, ↓wCs, ↓wTup, ↓wLst, ↓wDic0, ↓wDicT, ↓aN, ↓aC, ↓aW, ↓wCall_eq, ↓wCallK_eq, perm, List.filterMap_cons, List.filterMap_nil, ↓wApp, ↓wExt, ↓wPop, ↓wPopAt, ↓wListA, ↓wRpl, ↓iX, ↓iL, ↓iT, ↓iS, ↓iR1, ↓iR2, ↓iScr, ↓iZD, ↓iE, ↓wComp_eq, ↓ttY, ↓wSl, ↓wPart, ↓plN, ↓wRev, ↓wListO, ↓wRep, ↓wLenSet, ↓wLenScr, ↓wWelI, ↓wWelPop, ↓wWelApp, ↓tWelNE, ↓wDisp, ↓psC, ↓psN, ↓wDIn, ↓wDNotIn, ↓askD, ↓fAdd, ↓fSub, ↓fII, ↓fII0, ↓fDiv, ↓fMod, ↓fPow, ↓fLt, ↓fGt, ↓fLe, ↓fGe, ↓fGtD, ↓fLtD, ↓fLeD, ↓fGeD, ↓fNeg, ↓fMul, ↓fEq, ↓fNe, ↓eqQ, ↓fIsN, ↓fNotN, isNone_1, isNone_2, isNone_3, isNone_4, isNone_5, isNone_6, isNone_7, ↓fInC, ↓fNotInC, ↓fSub_, ↓fIx, ↓fSl, ↓fLen, ↓fTuple, ↓fMin1, ↓fMax1, ↓fSum, ↓fAll, ↓fAny, ↓fSorted, ↓fSortS, ↓fAbs, ↓fInt, ↓fRepr, ↓fCnt, ↓fIdx, ↓fJoin, isStr,
 endsG, mem0, toEnt, Mem.set, Mem.view, Mem.kill, Mem.frz, Mem.ro, Ent.ro', Opd.get,
 List.set_cons_zero, List.set_cons_succ, List.getElem?_cons_zero, List.getElem?_cons_succ, List.map_cons, List.map_nil, List.length_cons, List.length_nil, List.cons_append, List.nil_append, List.replicate_succ, List.replicate_zero, Option.map_some, Option.map_none, List.cons.injEq, and_true, true_and, Arg.x.injEq, exists_eq_left, exists_eq_right, Option.some.injEq, Ent.ow.injEq, Ent.im.injEq, PyData.int.injEq, PyData.list.injEq, PyData.dict.injEq, PyData.tuple.injEq, PyData.str.injEq, exists_eq', exists_eq, decide_eq_true_eq, Bool.not_eq_true', ite_true, ite_false, decide_true, decide_false, decide_eq_false_iff_not, not_true_eq_false, not_false_eq_true, reduceCtorEq, eq_self, S_cps]
        rw [cut_hi s1]
        exact ⟨zl _ (by omega), _, w2, _, _, _, fun c hc => a1 c (List.mem_of_mem_take hc), by rw [List.length_take]; omega, ok2, rfl⟩
      refine ite_i (fun hk => ?_) (fun hk => ?_)
      · rw [k_a, k_ab]
        exact gold [97] [97, 98] la (fun c hc => by simp at hc; omega) (by decide) (by decide) (by decide) (by decide) _ _ fun one other b1 b2 b3 => fin one other b1 b2 b3 _ _ _
      · rw [k_a]
        exact gold [97] [97] la la (by decide) (by decide) (by decide) (by decide) _ _ fun one other b1 b2 b3 => fin one other b1 b2 b3 _ _ _
  · rintro M' ⟨l, w3, e5, e7, e8, hl, hn, ok3, rfl⟩
    refine seq_i (l := .mk) (fun M => ∃ (l : List Nat) (w' : Wel) (e5 e7 e8 e9 : Option Ent), LetK kinds l ∧ l.length ≤ size.toNat ∧ WelOk w' ∧ M = ⟨[some .wel, some (.im (.int most)), some (.im (.int kinds)), some (.im (.int size)), some (.im (.int way)), e5, some (.im (sD l)), e7, e8, e9, none], some w'⟩) ?_ ?_
    · simp -dsimp only [↓uSeq, ↓uNext, ↓uKill, ↓uFrz, ↓uDrop, ↓uRet, ↓uIf, ↓uAsg, ↓uAsgO, ↓uPar2, ↓uPut, ↓uDPut, ↓uFor_eq, ↓uWhile_eq, ↓uSeqM_eq, ↓uBrk, ↓uCnt, ↓uWelD, ↓gSet, ↓gN, ↓gC, ↓gT, ↓zE, ↓zF, ↓oE, ↓oV, ↓wV, ↓wC, ↓wOp, ↓wUn, ↓app2, ↓app1, ↓wTst, ↓tAndD, ↓tOrD, ↓tNotD, ↓wAndV, ↓wOrV, ↓wNotV, ↓wIf, ↓wChain, ↓osN, ↓osC, getAll, ↓appN, ↓wCB, ↓appM, ↓wBM, ↓wBM0, ↓wN, ↓wCs, ↓wTup, ↓wLst, ↓wDic0, ↓wDicT, ↓aN, ↓aC, ↓aW, ↓wCall_eq, ↓wCallK_eq, perm, List.filterMap_cons, List.filterMap_nil, ↓wApp, ↓wExt, ↓wPop, ↓wPopAt, ↓wListA, ↓wRpl, ↓iX, ↓iL, ↓iT, ↓iS, ↓iR1, ↓iR2, ↓iScr, ↓iZD, ↓iE, ↓wComp_eq, ↓ttY, ↓wSl, ↓wPart, ↓plN, ↓wRev, ↓wListO, ↓wRep, ↓wLenSet, ↓wLenScr, ↓wWelI, ↓wWelPop, ↓wWelApp, ↓tWelNE, ↓wDisp, ↓psC, ↓psN, ↓wDIn, ↓wDNotIn, ↓askD, ↓fAdd, ↓fSub, ↓fII, ↓fII0, ↓fDiv, ↓fMod, ↓fPow, ↓fLt, ↓fGt, ↓fLe, ↓fGe, ↓fGtD, ↓fLtD, ↓fLeD, ↓fGeD, ↓fNeg, ↓fMul, ↓fEq, ↓fNe, ↓eqQ, ↓fIsN, ↓fNotN, isNone_1, isNone_2, isNone_3, isNone_4, isNone_5, isNone_6, isNone_7, ↓fInC, ↓fNotInC, ↓fSub_, ↓fIx, ↓fSl, ↓fLen, ↓fTuple, ↓fMin1, ↓fMax1, ↓fSum, ↓fAll, ↓fAny, ↓fSorted, ↓fSortS, ↓fAbs, ↓fInt, ↓fRepr, ↓fCnt, ↓fIdx, ↓fJoin, isStr,
 endsG, mem0, toEnt, Mem.set, Mem.view, Mem.kill, Mem.frz, Mem.ro, Ent.ro', Opd.get,
 List.set_cons_zero, List.set_cons_succ, List.getElem?_cons_zero, List.getElem?_cons_succ, List.map_cons, List.map_nil, List.length_cons, List.length_nil, List.cons_append, List.nil_append, List.replicate_succ, List.replicate_zero, Option.map_some, Option.map_none, List.cons.injEq, and_true, true_and, Arg.x.injEq, exists_eq_left, exists_eq_right, Option.some.injEq, Ent.ow.injEq, Ent.im.injEq, PyData.int.injEq, PyData.list.injEq, PyData.dict.injEq, PyData.tuple.injEq, PyData.str.injEq, exists_eq', exists_eq, decide_eq_true_eq, Bool.not_eq_true', ite_true, ite_false, decide_true, decide_false, decide_eq_false_iff_not, not_true_eq_false, not_false_eq_true, reduceCtorEq, eq_self]
      have fin : ∀ (l : List Nat) (w' : Wel) (e9 : Option Ent), LetK kinds l → l.length ≤ size.toNat → WelOk w' → (∃ (l_1 : List Nat) (w'_1 : Wel) (e5_1 e7_1 e8_1 e9_1 : Option Ent), LetK kinds l_1 ∧ l_1.length ≤ size.toNat ∧ WelOk w'_1 ∧ (⟨[some .wel, some (.im (.int most)), some (.im (.int kinds)), some (.im (.int size)), some (.im (.int way)), e5, some (.im (sD l)), e7, e8, e9, none], some w'⟩ : Mem) = ⟨[some .wel, some (.im (.int most)), some (.im (.int kinds)), some (.im (.int size)), some (.im (.int way)), e5_1, some (.im (sD l_1)), e7_1, e8_1, e9_1, none], some w'_1⟩) :=
        fun l w' e9 a b c => ⟨l, w', e5, e7, e8, e9, a, b, c, rfl⟩
      by_cases h0 : 0 < size
      · rw [if_pos h0]
        refine dip_i ok3 (by decide) fun r w4 _ _ ok4 => ?_
        simp -dsimp only [↓uSeq, ↓uNext, ↓uKill, ↓uFrz, ↓uDrop, ↓uRet, ↓uIf, ↓uAsg, ↓uAsgO, ↓uPar2, ↓uPut, ↓uDPut, ↓uFor_eq, ↓uWhile_eq, ↓uSeqM_eq, ↓uBrk, ↓uCnt, ↓uWelD, ↓gSet, ↓gN, ↓gC, ↓gT, ↓zE, ↓zF, ↓oE, ↓oV, ↓wV, ↓wC, ↓wOp, ↓wUn, ↓app2, ↓app1, ↓wTst, ↓tAndD, ↓tOrD, ↓tNotD, ↓wAndV, ↓wOrV, ↓wNotV, ↓wIf, ↓wChain, ↓osN, ↓osC, getAll, ↓appN, ↓wCB, ↓appM, ↓wBM, ↓wBM0, ↓wN, ↓wCs, ↓wTup, ↓wLst, ↓wDic0, ↓wDicT, ↓aN, ↓aC, ↓aW, ↓wCall_eq, ↓wCallK_eq, perm, List.filterMap_cons, List.filterMap_nil, ↓wApp, ↓wExt, ↓wPop, ↓wPopAt, ↓wListA, ↓wRpl, ↓iX, ↓iL, ↓iT, ↓iS, ↓iR1, ↓iR2, ↓iScr, ↓iZD, ↓iE, ↓wComp_eq, ↓ttY, ↓wSl, ↓wPart, ↓plN, ↓wRev, ↓wListO, ↓wRep, ↓wLenSet, ↓wLenScr, ↓wWelI, ↓wWelPop, ↓wWelApp, ↓tWelNE, ↓wDisp, ↓psC, ↓psN, ↓wDIn, ↓wDNotIn, ↓askD, ↓fAdd, ↓fSub, ↓fII, ↓fII0, ↓fDiv, ↓fMod, ↓fPow, ↓fLt, ↓fGt, ↓fLe, ↓fGe, ↓fGtD, ↓fLtD, ↓fLeD, ↓fGeD, ↓fNeg, ↓fMul, ↓fEq, ↓fNe, ↓eqQ, ↓fIsN, ↓fNotN, isNone_1, isNone_2, isNone_3, isNone_4, isNone_5, isNone_6, isNone_7, ↓fInC, ↓fNotInC, ↓fSub_, ↓fIx, ↓fSl, ↓fLen, ↓fTuple, ↓fMin1, ↓fMax1, ↓fSum, ↓fAll, ↓fAny, ↓fSorted, ↓fSortS, ↓fAbs, ↓fInt, ↓fRepr, ↓fCnt, ↓fIdx, ↓fJoin, isStr,
 endsG, mem0, toEnt, Mem.set, Mem.view, Mem.kill, Mem.frz, Mem.ro, Ent.ro', Opd.get,
 List.set_cons_zero, List.set_cons_succ, List.getElem?_cons_zero, List.getElem?_cons_succ, List.map_cons, List.map_nil, List.length_cons, List.length_nil, List.cons_append, List.nil_append, List.replicate_succ, List.replicate_zero, Option.map_some, Option.map_none, List.cons.injEq, and_true, true_and, Arg.x.injEq, exists_eq_left, exists_eq_right, Option.some.injEq, Ent.ow.injEq, Ent.im.injEq, PyData.int.injEq, PyData.list.injEq, PyData.dict.injEq, PyData.tuple.injEq, PyData.str.injEq, exists_eq', exists_eq, decide_eq_true_eq, Bool.not_eq_true', ite_true, ite_false, decide_true, decide_false, decide_eq_false_iff_not, not_true_eq_false, not_false_eq_true, reduceCtorEq, eq_self]
        by_cases hr : r = 0
        · rw [if_pos hr]
          refine dip_i ok4 (by omega) fun p w5 p1 p2 ok5 => ?_
          simp -dsimp only [↓uSeq, ↓uNext, ↓uKill, ↓uFrz, ↓uDrop, ↓uRet, ↓uIf, ↓uAsg, ↓uAsgO, ↓uPar2, ↓uPut, ↓uDPut, ↓uFor_eq, ↓uWhile_eq, ↓uSeqM_eq, ↓uBrk, ↓uCnt, ↓uWelD, ↓gSet, ↓gN, ↓gC, ↓gT, ↓zE, ↓zF, ↓oE, ↓oV, ↓wV, ↓wC, ↓wOp, ↓wUn, ↓app2, ↓app1, ↓wTst, ↓tAndD, ↓tOrD, ↓tNotD, ↓wAndV, ↓wOrV, ↓wNotV, ↓wIf, ↓wChain, ↓osN, ↓osC, getAll, ↓appN, ↓wCB, ↓appM, ↓wBM, ↓wBM0, ↓wN, ↓wCs, ↓wTup, ↓wLst, ↓wDic0, ↓wDicT, ↓aN, ↓aC, ↓aW, ↓wCall_eq, ↓wCallK_eq, perm, List.filterMap_cons, List.filterMap_nil, ↓wApp, ↓wExt, ↓wPop, ↓wPopAt, ↓wListA, ↓wRpl, ↓iX, ↓iL, ↓iT, ↓iS, ↓iR1, ↓iR2, ↓iScr, ↓iZD, ↓iE, ↓wComp_eq, ↓ttY, ↓wSl, ↓wPart, ↓plN, ↓wRev, ↓wListO, ↓wRep, ↓wLenSet, ↓wLenScr, ↓wWelI, ↓wWelPop, ↓wWelApp, ↓tWelNE, ↓wDisp, ↓psC, ↓psN, ↓wDIn, ↓wDNotIn, ↓askD, ↓fAdd, ↓fSub, ↓fII, ↓fII0, ↓fDiv, ↓fMod, ↓fPow, ↓fLt, ↓fGt, ↓fLe, ↓fGe, ↓fGtD, ↓fLtD, ↓fLeD, ↓fGeD, ↓fNeg, ↓fMul, ↓fEq, ↓fNe, ↓eqQ, ↓fIsN, ↓fNotN, isNone_1, isNone_2, isNone_3, isNone_4, isNone_5, isNone_6, isNone_7, ↓fInC, ↓fNotInC, ↓fSub_, ↓fIx, ↓fSl, ↓fLen, ↓fTuple, ↓fMin1, ↓fMax1, ↓fSum, ↓fAll, ↓fAny, ↓fSorted, ↓fSortS, ↓fAbs, ↓fInt, ↓fRepr, ↓fCnt, ↓fIdx, ↓fJoin, isStr,
 endsG, mem0, toEnt, Mem.set, Mem.view, Mem.kill, Mem.frz, Mem.ro, Ent.ro', Opd.get,
 List.set_cons_zero, List.set_cons_succ, List.getElem?_cons_zero, List.getElem?_cons_succ, List.map_cons, List.map_nil, List.length_cons, List.length_nil, List.cons_append, List.nil_append, List.replicate_succ, List.replicate_zero, Option.map_some, Option.map_none, List.cons.injEq, and_true, true_and, Arg.x.injEq, exists_eq_left, exists_eq_right, Option.some.injEq, Ent.ow.injEq, Ent.im.injEq, PyData.int.injEq, PyData.list.injEq, PyData.dict.injEq, PyData.tuple.injEq, PyData.str.injEq, exists_eq', exists_eq, decide_eq_true_eq, Bool.not_eq_true', ite_true, ite_false, decide_true, decide_false, decide_eq_false_iff_not, not_true_eq_false, not_false_eq_true, reduceCtorEq, eq_self]
          refine ⟨zl _ (by omega), dip_i ok5 (by omega) fun c w6 c1 c2 ok6 => ?_⟩
          simp -dsimp only [↓uSeq, ↓uNext, ↓uKill, ↓uFrz, ↓uDrop, ↓uRet, ↓uIf, ↓uAsg, ↓uAsgO, ↓uPar2, ↓uPut, ↓uDPut, ↓uFor_eq, ↓uWhile_eq, ↓uSeqM_eq, ↓uBrk, ↓uCnt, ↓uWelD, ↓gSet, ↓gN, ↓gC, ↓gT, ↓zE, ↓zF, ↓oE, ↓oV, ↓wV, ↓wC, ↓wOp, ↓wUn, ↓app2, ↓app1, ↓wTst, ↓tAndD, ↓tOrD, ↓tNotD, ↓wAndV, ↓wOrV, ↓wNotV, ↓wIf, ↓wChain, ↓osN, ↓osC, getAll, ↓appN, ↓wCB, ↓appM, ↓wBM, ↓wBM0, ↓wN, ↓wCs, ↓wTup, ↓wLst, ↓wDic0, ↓wDicT, ↓aN, ↓aC, ↓aW, ↓wCall_eq, ↓wCallK_eq, perm, List.filterMap_cons, List.filterMap_nil, ↓wApp, ↓wExt, ↓wPop, ↓wPopAt, ↓wListA, ↓wRpl, ↓iX, ↓iL, ↓iT, ↓iS, ↓iR1, ↓iR2, ↓iScr, ↓iZD, ↓iE, ↓wComp_eq, ↓ttY, ↓wSl, ↓wPart, ↓plN, ↓wRev, ↓wListO, ↓wRep, ↓wLenSet, ↓wLenScr, ↓wWelI, ↓wWelPop, ↓wWelApp, ↓tWelNE, ↓wDisp, ↓psC, ↓psN, ↓wDIn, ↓wDNotIn, ↓askD, ↓fAdd, ↓fSub, ↓fII, ↓fII0, ↓fDiv, ↓fMod, ↓fPow, ↓fLt, ↓fGt, ↓fLe, ↓fGe, ↓fGtD, ↓fLtD, ↓fLeD, ↓fGeD, ↓fNeg, ↓fMul, ↓fEq, ↓fNe, ↓eqQ, ↓fIsN, ↓fNotN, isNone_1, isNone_2, isNone_3, isNone_4, isNone_5, isNone_6, isNone_7, ↓fInC, ↓fNotInC, ↓fSub_, ↓fIx, ↓fSl, ↓fLen, ↓fTuple, ↓fMin1, ↓fMax1, ↓fSum, ↓fAll, ↓fAny, ↓fSorted, ↓fSortS, ↓fAbs, ↓fInt, ↓fRepr, ↓fCnt, ↓fIdx, ↓fJoin, isStr,
 endsG, mem0, toEnt, Mem.set, Mem.view, Mem.kill, Mem.frz, Mem.ro, Ent.ro', Opd.get,
 List.set_cons_zero, List.set_cons_succ, List.getElem?_cons_zero, List.getElem?_cons_succ, List.map_cons, List.map_nil, List.length_cons, List.length_nil, List.cons_append, List.nil_append, List.replicate_succ, List.replicate_zero, Option.map_some, Option.map_none, List.cons.injEq, and_true, true_and, Arg.x.injEq, exists_eq_left, exists_eq_right, Option.some.injEq, Ent.ow.injEq, Ent.im.injEq, PyData.int.injEq, PyData.list.injEq, PyData.dict.injEq, PyData.tuple.injEq, PyData.str.injEq, exists_eq', exists_eq, decide_eq_true_eq, Bool.not_eq_true', ite_true, ite_false, decide_true, decide_false, decide_eq_false_iff_not, not_true_eq_false, not_false_eq_true, reduceCtorEq, eq_self, k_abcd, S_cps, atI_abcd c1 (by omega : c < 4)]
          simp only [cut_hi p1, cut_lo (by omega : (0 : Int) ≤ p + 1), List.length_append, List.length_take, List.length_drop, List.length_cons, List.length_nil]
          refine ⟨by decide, zl _ (by omega), zl _ (by omega), zl _ (by omega), ?_⟩
          refine fin _ w6 _ (fun x hx => ?_) ?_ ok6
          · rcases List.mem_append.mp hx with hx | hx
            · rcases List.mem_append.mp hx with hx | hx
              · exact hl x (List.mem_of_mem_take hx)
              · have := List.mem_singleton.mp hx
                omega
            · exact hl x (List.mem_of_mem_drop hx)
          · simp only [List.length_append, List.length_take, List.length_drop, List.length_cons, List.length_nil]
            have : p.toNat < l.length ∨ l.length ≤ p.toNat := by omega
            omega
        · rw [if_neg hr]
          exact fin l w4 none hl hn ok4
      · rw [if_neg h0]
        exact fin l w3 none hl hn ok3
    · rintro M' ⟨l, w3, e5, e7, e8, e9, hl, hn, ok3, rfl⟩
      simp -dsimp only [↓uSeq, ↓uNext, ↓uKill, ↓uFrz, ↓uDrop, ↓uRet, ↓uIf, ↓uAsg, ↓uAsgO, ↓uPar2, ↓uPut, ↓uDPut, ↓uFor_eq, ↓uWhile_eq, ↓uSeqM_eq, ↓uBrk, ↓uCnt, ↓uWelD, ↓gSet, ↓gN, ↓gC, ↓gT, ↓zE, ↓zF, ↓oE, ↓oV, ↓wV, ↓wC, ↓wOp, ↓wUn, ↓app2, ↓app1, ↓wTst, ↓tAndD, ↓tOrD, ↓tNotD, ↓wAndV, ↓wOrV, ↓wNotV, ↓wIf, ↓wChain, ↓osN, ↓osC, getAll, ↓appN, ↓wCB, ↓appM, ↓wBM, ↓wBM0, ↓wN, ↓wCs, ↓wTup, ↓wLst, ↓wDic0, ↓wDicT, ↓aN, ↓aC, ↓aW, ↓wCall_eq, ↓wCallK_eq, perm, List.filterMap_cons, List.filterMap_nil, ↓wApp, ↓wExt, ↓wPop, ↓wPopAt, ↓wListA, ↓wRpl, ↓iX, ↓iL, ↓iT, ↓iS, ↓iR1, ↓iR2, ↓iScr, ↓iZD, ↓iE, ↓wComp_eq, ↓ttY, ↓wSl, ↓wPart, ↓plN, ↓wRev, ↓wListO, ↓wRep, ↓wLenSet, ↓wLenScr, ↓wWelI, ↓wWelPop, ↓wWelApp, ↓tWelNE, ↓wDisp, ↓psC, ↓psN, ↓wDIn, ↓wDNotIn, ↓askD, ↓fAdd, ↓fSub, ↓fII, ↓fII0, ↓fDiv, ↓fMod, ↓fPow, ↓fLt, ↓fGt, ↓fLe, ↓fGe, ↓fGtD, ↓fLtD, ↓fLeD, ↓fGeD, ↓fNeg, ↓fMul, ↓fEq, ↓fNe, ↓eqQ, ↓fIsN, ↓fNotN, isNone_1, isNone_2, isNone_3, isNone_4, isNone_5, isNone_6, isNone_7, ↓fInC, ↓fNotInC, ↓fSub_, ↓fIx, ↓fSl, ↓fLen, ↓fTuple, ↓fMin1, ↓fMax1, ↓fSum, ↓fAll, ↓fAny, ↓fSorted, ↓fSortS, ↓fAbs, ↓fInt, ↓fRepr, ↓fCnt, ↓fIdx, ↓fJoin, isStr,
 endsG, mem0, toEnt, Mem.set, Mem.view, Mem.kill, Mem.frz, Mem.ro, Ent.ro', Opd.get,
 List.set_cons_zero, List.set_cons_succ, List.getElem?_cons_zero, List.getElem?_cons_succ, List.map_cons, List.map_nil, List.length_cons, List.length_nil, List.cons_append, List.nil_append, List.replicate_succ, List.replicate_zero, Option.map_some, Option.map_none, List.cons.injEq, and_true, true_and, Arg.x.injEq, exists_eq_left, exists_eq_right, Option.some.injEq, Ent.ow.injEq, Ent.im.injEq, PyData.int.injEq, PyData.list.injEq, PyData.dict.injEq, PyData.tuple.injEq, PyData.str.injEq, exists_eq', exists_eq, decide_eq_true_eq, Bool.not_eq_true', ite_true, ite_false, decide_true, decide_false, decide_eq_false_iff_not, not_true_eq_false, not_false_eq_true, reduceCtorEq, eq_self]
      exact q l w3 hl (by omega) ok3
end DL

/-! MW: the well's birth -/
namespace DL
open PySem PySem.Spec L2 PyProof.Rows
def cellOf (x : Int) : Int := 2 * (if x < 0 then -x else x) + if x < 0 then 1 else 0
def cellsOf (ns : List Int) : List Int := (ns.take 63).map cellOf
def mixStep (m c : Int) : Int := (m * 48271 + c + 11) % 4294967291
def wellOf (ns : List Int) : Wel := ⟨(cellsOf ns).filter fun c => decide (10 ^ 17 ≤ c), (cellsOf ns).foldl mixStep (16257 + 31 * (ns.length : Nat)), 0⟩
theorem wellOf_ok (ns : List Int) : WelOk (wellOf ns) := by
  refine ⟨fun c hc => ?_, ?_⟩
  · have := of_decide_eq_true (List.mem_filter.mp hc).2
    omega
  · have h1 := List.length_filter_le (fun c : Int => decide (10 ^ 17 ≤ c)) (cellsOf ns)
    have h2 : (cellsOf ns).length ≤ 63 := by unfold cellsOf; rw [List.length_map, List.length_take]; omega
    show ((cellsOf ns).filter fun c => decide (10 ^ 17 ≤ c)).length ≤ 63
    omega
def uw1 : WS := (uPar2 1 2 (zE (wComp [4] (iScr 0 63) (gSet 4) ttY (wOp fAdd (oE (wOp fMul (oE (wC (.int 2))) (oE (wCB fAbs (osC (oV 4) osN))))) (oE (wCB fInt (osC (oE (wOp fLt (oV 4) (oE (wC (.int 0))))) osN)))))) (zE (wOp fAdd (oE (wC (.int 16257))) (oE (wOp fMul (oE (wC (.int 31))) (oE (wLenScr 0)))))))
def uw2 : WS := (uFor [3] (iX (wV 1)) (gSet 3)
  (uAsg (wOp fMod (oE (wCB fInt (osC (oE (wOp fAdd (oE (wOp fAdd (oE (wOp fMul (oV 2) (oE (wC (.int 48271))))) (oV 3))) (oE (wC (.int 11))))) osN))) (oE (wC (.int 4294967291)))) (gSet 2)))
def uww : WE := (wDisp (psC (wC (.str "deep")) (wComp [3] (iX (wV 1)) (gSet 3) (wTst (wOp fGe (oV 3) (oE (wOp fPow (oE (wC (.int 10))) (oE (wC (.int 17))))))) (wV 3)) (psC (wC (.str "mix")) (wV 2) (psC (wC (.str "drawn")) (wC (.int 0)) psN))))
theorem k_deep : ("deep" : Str) ≠ "mix" ∧ ("deep" : Str) ≠ "drawn" ∧ ("mix" : Str) ≠ "drawn" := by decide +kernel
theorem pf_well (ns : List Int) (hn : ns.length ≤ 63) : uw1 noX { nx := fun M1 => uw2 noX { nx := fun M2 => uww noX M2 fun d _ => d = welDict (wellOf ns), rt := fun _ _ => False } M1, rt := fun _ _ => False } (mem0 5 [.scr ns] none) := by
  simp -dsimp only [uw1, ↓uSeq, ↓uNext, ↓uKill, ↓uFrz, ↓uDrop, ↓uRet, ↓uIf, ↓uAsg, ↓uAsgO, ↓uPar2, ↓uPut, ↓uDPut, ↓uFor_eq, ↓uWhile_eq, ↓uSeqM_eq, ↓uBrk, ↓uCnt, ↓uWelD, ↓gSet, ↓gN, ↓gC, ↓gT, ↓zE, ↓zF, ↓oE, ↓oV, ↓wV, ↓wC, ↓wOp, ↓wUn, ↓app2, ↓app1, ↓wTst, ↓tAndD, ↓tOrD, ↓tNotD, ↓wAndV, ↓wOrV, ↓wNotV, ↓wIf, ↓wChain, ↓osN, ↓osC, getAll, ↓appN, ↓wCB, ↓appM, ↓wBM, ↓wBM0, ↓wN, ↓wCs, ↓wTup, ↓wLst, ↓wDic0, ↓wDicT, ↓aN, ↓aC, ↓aW, ↓wCall_eq, ↓wCallK_eq, perm, List.filterMap_cons, List.filterMap_nil, ↓wApp, ↓wExt, ↓wPop, ↓wPopAt, ↓wListA, ↓wRpl, ↓iX, ↓iL, ↓iT, ↓iS, ↓iR1, ↓iR2, ↓iScr, ↓iZD, ↓iE, ↓wComp_eq, ↓ttY, ↓wSl, ↓wPart, ↓plN, ↓wRev, ↓wListO, ↓wRep, ↓wLenSet, ↓wLenScr, ↓wWelI, ↓wWelPop, ↓wWelApp, ↓tWelNE, ↓wDisp, ↓psC, ↓psN, ↓wDIn, ↓wDNotIn, ↓askD, ↓fAdd, ↓fSub, ↓fII, ↓fII0, ↓fDiv, ↓fMod, ↓fPow, ↓fLt, ↓fGt, ↓fLe, ↓fGe, ↓fGtD, ↓fLtD, ↓fLeD, ↓fGeD, ↓fNeg, ↓fMul, ↓fEq, ↓fNe, ↓eqQ, ↓fIsN, ↓fNotN, isNone_1, isNone_2, isNone_3, isNone_4, isNone_5, isNone_6, isNone_7, ↓fInC, ↓fNotInC, ↓fSub_, ↓fIx, ↓fSl, ↓fLen, ↓fTuple, ↓fMin1, ↓fMax1, ↓fSum, ↓fAll, ↓fAny, ↓fSorted, ↓fSortS, ↓fAbs, ↓fInt, ↓fRepr, ↓fCnt, ↓fIdx, ↓fJoin, isStr,
 endsG, mem0, toEnt, Mem.set, Mem.view, Mem.kill, Mem.frz, Mem.ro, Ent.ro', Opd.get,
 List.set_cons_zero, List.set_cons_succ, List.getElem?_cons_zero, List.getElem?_cons_succ, List.map_cons, List.map_nil, List.length_cons, List.length_nil, List.cons_append, List.nil_append, List.replicate_succ, List.replicate_zero, Option.map_some, Option.map_none, List.cons.injEq, and_true, true_and, Arg.x.injEq, exists_eq_left, exists_eq_right, Option.some.injEq, Ent.ow.injEq, Ent.im.injEq, PyData.int.injEq, PyData.list.injEq, PyData.dict.injEq, PyData.tuple.injEq, PyData.str.injEq, exists_eq', exists_eq, decide_eq_true_eq, Bool.not_eq_true', ite_true, ite_false, decide_true, decide_false, decide_eq_false_iff_not, not_true_eq_false, not_false_eq_true, reduceCtorEq, eq_self]
  rw [cut_hi (by decide)]
  have hl : (ns.take 63).length ≤ 63 := by rw [List.length_take]; omega
  refine ⟨by rw [List.length_map]; exact zl _ (by show (ns.take 63).length ≤ 1000; omega), comp_map (fun d => match d with
    | .int x => .int (cellOf x)
    | _ => .none) (fun d hd P hP => ?_) ?_⟩
  · obtain ⟨x, hx, rfl⟩ := List.mem_map.mp hd
    simp -dsimp only [↓uSeq, ↓uNext, ↓uKill, ↓uFrz, ↓uDrop, ↓uRet, ↓uIf, ↓uAsg, ↓uAsgO, ↓uPar2, ↓uPut, ↓uDPut, ↓uFor_eq, ↓uWhile_eq, ↓uSeqM_eq, ↓uBrk, ↓uCnt, ↓uWelD, ↓gSet, ↓gN, ↓gC, ↓gT, ↓zE, ↓zF, ↓oE, ↓oV, ↓wV, ↓wC, ↓wOp, ↓wUn, ↓app2, ↓app1, ↓wTst, ↓tAndD, ↓tOrD, ↓tNotD, ↓wAndV, ↓wOrV, ↓wNotV, ↓wIf, ↓wChain, ↓osN, ↓osC, getAll, ↓appN, ↓wCB, ↓appM, ↓wBM, ↓wBM0, ↓wN, ↓wCs, ↓wTup, ↓wLst, ↓wDic0, ↓wDicT, ↓aN, ↓aC, ↓aW, ↓wCall_eq, ↓wCallK_eq, perm, List.filterMap_cons, List.filterMap_nil, ↓wApp, ↓wExt, ↓wPop, ↓wPopAt, ↓wListA, ↓wRpl, ↓iX, ↓iL, ↓iT, ↓iS, ↓iR1, ↓iR2, ↓iScr, ↓iZD, ↓iE, ↓wComp_eq, ↓ttY, ↓wSl, ↓wPart, ↓plN, ↓wRev, ↓wListO, ↓wRep, ↓wLenSet, ↓wLenScr, ↓wWelI, ↓wWelPop, ↓wWelApp, ↓tWelNE, ↓wDisp, ↓psC, ↓psN, ↓wDIn, ↓wDNotIn, ↓askD, ↓fAdd, ↓fSub, ↓fII, ↓fII0, ↓fDiv, ↓fMod, ↓fPow, ↓fLt, ↓fGt, ↓fLe, ↓fGe, ↓fGtD, ↓fLtD, ↓fLeD, ↓fGeD, ↓fNeg, ↓fMul, ↓fEq, ↓fNe, ↓eqQ, ↓fIsN, ↓fNotN, isNone_1, isNone_2, isNone_3, isNone_4, isNone_5, isNone_6, isNone_7, ↓fInC, ↓fNotInC, ↓fSub_, ↓fIx, ↓fSl, ↓fLen, ↓fTuple, ↓fMin1, ↓fMax1, ↓fSum, ↓fAll, ↓fAny, ↓fSorted, ↓fSortS, ↓fAbs, ↓fInt, ↓fRepr, ↓fCnt, ↓fIdx, ↓fJoin, isStr,
 endsG, mem0, toEnt, Mem.set, Mem.view, Mem.kill, Mem.frz, Mem.ro, Ent.ro', Opd.get,
 List.set_cons_zero, List.set_cons_succ, List.getElem?_cons_zero, List.getElem?_cons_succ, List.map_cons, List.map_nil, List.length_cons, List.length_nil, List.cons_append, List.nil_append, List.replicate_succ, List.replicate_zero, Option.map_some, Option.map_none, List.cons.injEq, and_true, true_and, Arg.x.injEq, exists_eq_left, exists_eq_right, Option.some.injEq, Ent.ow.injEq, Ent.im.injEq, PyData.int.injEq, PyData.list.injEq, PyData.dict.injEq, PyData.tuple.injEq, PyData.str.injEq, exists_eq', exists_eq, decide_eq_true_eq, Bool.not_eq_true', ite_true, ite_false, decide_true, decide_false, decide_eq_false_iff_not, not_true_eq_false, not_false_eq_true, reduceCtorEq, eq_self]
    exact ⟨.inl ⟨by decide, by decide⟩, hP⟩
  · have e1 : ((ns.take (Int.toNat 63)).map PyData.int).map (fun d => match d with
      | .int x => PyData.int (cellOf x)
      | _ => PyData.none) = (cellsOf ns).map .int := by
      unfold cellsOf
      rw [List.map_map, List.map_map]
      rfl
    rw [e1]
    simp -dsimp only [↓uSeq, ↓uNext, ↓uKill, ↓uFrz, ↓uDrop, ↓uRet, ↓uIf, ↓uAsg, ↓uAsgO, ↓uPar2, ↓uPut, ↓uDPut, ↓uFor_eq, ↓uWhile_eq, ↓uSeqM_eq, ↓uBrk, ↓uCnt, ↓uWelD, ↓gSet, ↓gN, ↓gC, ↓gT, ↓zE, ↓zF, ↓oE, ↓oV, ↓wV, ↓wC, ↓wOp, ↓wUn, ↓app2, ↓app1, ↓wTst, ↓tAndD, ↓tOrD, ↓tNotD, ↓wAndV, ↓wOrV, ↓wNotV, ↓wIf, ↓wChain, ↓osN, ↓osC, getAll, ↓appN, ↓wCB, ↓appM, ↓wBM, ↓wBM0, ↓wN, ↓wCs, ↓wTup, ↓wLst, ↓wDic0, ↓wDicT, ↓aN, ↓aC, ↓aW, ↓wCall_eq, ↓wCallK_eq, perm, List.filterMap_cons, List.filterMap_nil, ↓wApp, ↓wExt, ↓wPop, ↓wPopAt, ↓wListA, ↓wRpl, ↓iX, ↓iL, ↓iT, ↓iS, ↓iR1, ↓iR2, ↓iScr, ↓iZD, ↓iE, ↓wComp_eq, ↓ttY, ↓wSl, ↓wPart, ↓plN, ↓wRev, ↓wListO, ↓wRep, ↓wLenSet, ↓wLenScr, ↓wWelI, ↓wWelPop, ↓wWelApp, ↓tWelNE, ↓wDisp, ↓psC, ↓psN, ↓wDIn, ↓wDNotIn, ↓askD, ↓fAdd, ↓fSub, ↓fII, ↓fII0, ↓fDiv, ↓fMod, ↓fPow, ↓fLt, ↓fGt, ↓fLe, ↓fGe, ↓fGtD, ↓fLtD, ↓fLeD, ↓fGeD, ↓fNeg, ↓fMul, ↓fEq, ↓fNe, ↓eqQ, ↓fIsN, ↓fNotN, isNone_1, isNone_2, isNone_3, isNone_4, isNone_5, isNone_6, isNone_7, ↓fInC, ↓fNotInC, ↓fSub_, ↓fIx, ↓fSl, ↓fLen, ↓fTuple, ↓fMin1, ↓fMax1, ↓fSum, ↓fAll, ↓fAny, ↓fSorted, ↓fSortS, ↓fAbs, ↓fInt, ↓fRepr, ↓fCnt, ↓fIdx, ↓fJoin, isStr,
 endsG, mem0, toEnt, Mem.set, Mem.view, Mem.kill, Mem.frz, Mem.ro, Ent.ro', Opd.get,
 List.set_cons_zero, List.set_cons_succ, List.getElem?_cons_zero, List.getElem?_cons_succ, List.map_cons, List.map_nil, List.length_cons, List.length_nil, List.cons_append, List.nil_append, List.replicate_succ, List.replicate_zero, Option.map_some, Option.map_none, List.cons.injEq, and_true, true_and, Arg.x.injEq, exists_eq_left, exists_eq_right, Option.some.injEq, Ent.ow.injEq, Ent.im.injEq, PyData.int.injEq, PyData.list.injEq, PyData.dict.injEq, PyData.tuple.injEq, PyData.str.injEq, exists_eq', exists_eq, decide_eq_true_eq, Bool.not_eq_true', ite_true, ite_false, decide_true, decide_false, decide_eq_false_iff_not, not_true_eq_false, not_false_eq_true, reduceCtorEq, eq_self]
    refine ⟨.inl ⟨by decide, by decide⟩, ?_⟩
    simp -dsimp only [uw2, ↓uSeq, ↓uNext, ↓uKill, ↓uFrz, ↓uDrop, ↓uRet, ↓uIf, ↓uAsg, ↓uAsgO, ↓uPar2, ↓uPut, ↓uDPut, ↓uFor_eq, ↓uWhile_eq, ↓uSeqM_eq, ↓uBrk, ↓uCnt, ↓uWelD, ↓gSet, ↓gN, ↓gC, ↓gT, ↓zE, ↓zF, ↓oE, ↓oV, ↓wV, ↓wC, ↓wOp, ↓wUn, ↓app2, ↓app1, ↓wTst, ↓tAndD, ↓tOrD, ↓tNotD, ↓wAndV, ↓wOrV, ↓wNotV, ↓wIf, ↓wChain, ↓osN, ↓osC, getAll, ↓appN, ↓wCB, ↓appM, ↓wBM, ↓wBM0, ↓wN, ↓wCs, ↓wTup, ↓wLst, ↓wDic0, ↓wDicT, ↓aN, ↓aC, ↓aW, ↓wCall_eq, ↓wCallK_eq, perm, List.filterMap_cons, List.filterMap_nil, ↓wApp, ↓wExt, ↓wPop, ↓wPopAt, ↓wListA, ↓wRpl, ↓iX, ↓iL, ↓iT, ↓iS, ↓iR1, ↓iR2, ↓iScr, ↓iZD, ↓iE, ↓wComp_eq, ↓ttY, ↓wSl, ↓wPart, ↓plN, ↓wRev, ↓wListO, ↓wRep, ↓wLenSet, ↓wLenScr, ↓wWelI, ↓wWelPop, ↓wWelApp, ↓tWelNE, ↓wDisp, ↓psC, ↓psN, ↓wDIn, ↓wDNotIn, ↓askD, ↓fAdd, ↓fSub, ↓fII, ↓fII0, ↓fDiv, ↓fMod, ↓fPow, ↓fLt, ↓fGt, ↓fLe, ↓fGe, ↓fGtD, ↓fLtD, ↓fLeD, ↓fGeD, ↓fNeg, ↓fMul, ↓fEq, ↓fNe, ↓eqQ, ↓fIsN, ↓fNotN, isNone_1, isNone_2, isNone_3, isNone_4, isNone_5, isNone_6, isNone_7, ↓fInC, ↓fNotInC, ↓fSub_, ↓fIx, ↓fSl, ↓fLen, ↓fTuple, ↓fMin1, ↓fMax1, ↓fSum, ↓fAll, ↓fAny, ↓fSorted, ↓fSortS, ↓fAbs, ↓fInt, ↓fRepr, ↓fCnt, ↓fIdx, ↓fJoin, isStr,
 endsG, mem0, toEnt, Mem.set, Mem.view, Mem.kill, Mem.frz, Mem.ro, Ent.ro', Opd.get,
 List.set_cons_zero, List.set_cons_succ, List.getElem?_cons_zero, List.getElem?_cons_succ, List.map_cons, List.map_nil, List.length_cons, List.length_nil, List.cons_append, List.nil_append, List.replicate_succ, List.replicate_zero, Option.map_some, Option.map_none, List.cons.injEq, and_true, true_and, Arg.x.injEq, exists_eq_left, exists_eq_right, Option.some.injEq, Ent.ow.injEq, Ent.im.injEq, PyData.int.injEq, PyData.list.injEq, PyData.dict.injEq, PyData.tuple.injEq, PyData.str.injEq, exists_eq', exists_eq, decide_eq_true_eq, Bool.not_eq_true', ite_true, ite_false, decide_true, decide_false, decide_eq_false_iff_not, not_true_eq_false, not_false_eq_true, reduceCtorEq, eq_self]
    refine for_i (fun i M => ∃ e3 : Option Ent, M = ⟨[some (.scr ns), some (.im (.list ((cellsOf ns).map .int))), some (.im (.int (((cellsOf ns).take i).foldl mixStep (16257 + 31 * (ns.length : Nat))))), e3, none], none⟩) ⟨none, rfl⟩ ?_ ?_
    · rintro i d M' hd ⟨e3, rfl⟩
      rw [List.getElem?_map] at hd
      obtain ⟨c, hc, rfl⟩ := Option.map_eq_some_iff.mp hd
      simp -dsimp only [↓uSeq, ↓uNext, ↓uKill, ↓uFrz, ↓uDrop, ↓uRet, ↓uIf, ↓uAsg, ↓uAsgO, ↓uPar2, ↓uPut, ↓uDPut, ↓uFor_eq, ↓uWhile_eq, ↓uSeqM_eq, ↓uBrk, ↓uCnt, ↓uWelD, ↓gSet, ↓gN, ↓gC, ↓gT, ↓zE, ↓zF, ↓oE, ↓oV, ↓wV, ↓wC, ↓wOp, ↓wUn, ↓app2, ↓app1, ↓wTst, ↓tAndD, ↓tOrD, ↓tNotD, ↓wAndV, ↓wOrV, ↓wNotV, ↓wIf, ↓wChain, ↓osN, ↓osC, getAll, ↓appN, ↓wCB, ↓appM, ↓wBM, ↓wBM0, ↓wN, ↓wCs, ↓wTup, ↓wLst, ↓wDic0, ↓wDicT, ↓aN, ↓aC, ↓aW, ↓wCall_eq, ↓wCallK_eq, perm, List.filterMap_cons, List.filterMap_nil, ↓wApp, ↓wExt, ↓wPop, ↓wPopAt, ↓wListA, ↓wRpl, ↓iX, ↓iL, ↓iT, ↓iS, ↓iR1, ↓iR2, ↓iScr, ↓iZD, ↓iE, ↓wComp_eq, ↓ttY, ↓wSl, ↓wPart, ↓plN, ↓wRev, ↓wListO, ↓wRep, ↓wLenSet, ↓wLenScr, ↓wWelI, ↓wWelPop, ↓wWelApp, ↓tWelNE, ↓wDisp, ↓psC, ↓psN, ↓wDIn, ↓wDNotIn, ↓askD, ↓fAdd, ↓fSub, ↓fII, ↓fII0, ↓fDiv, ↓fMod, ↓fPow, ↓fLt, ↓fGt, ↓fLe, ↓fGe, ↓fGtD, ↓fLtD, ↓fLeD, ↓fGeD, ↓fNeg, ↓fMul, ↓fEq, ↓fNe, ↓eqQ, ↓fIsN, ↓fNotN, isNone_1, isNone_2, isNone_3, isNone_4, isNone_5, isNone_6, isNone_7, ↓fInC, ↓fNotInC, ↓fSub_, ↓fIx, ↓fSl, ↓fLen, ↓fTuple, ↓fMin1, ↓fMax1, ↓fSum, ↓fAll, ↓fAny, ↓fSorted, ↓fSortS, ↓fAbs, ↓fInt, ↓fRepr, ↓fCnt, ↓fIdx, ↓fJoin, isStr,
 endsG, mem0, toEnt, Mem.set, Mem.view, Mem.kill, Mem.frz, Mem.ro, Ent.ro', Opd.get,
 List.set_cons_zero, List.set_cons_succ, List.getElem?_cons_zero, List.getElem?_cons_succ, List.map_cons, List.map_nil, List.length_cons, List.length_nil, List.cons_append, List.nil_append, List.replicate_succ, List.replicate_zero, Option.map_some, Option.map_none, List.cons.injEq, and_true, true_and, Arg.x.injEq, exists_eq_left, exists_eq_right, Option.some.injEq, Ent.ow.injEq, Ent.im.injEq, PyData.int.injEq, PyData.list.injEq, PyData.dict.injEq, PyData.tuple.injEq, PyData.str.injEq, exists_eq', exists_eq, decide_eq_true_eq, Bool.not_eq_true', ite_true, ite_false, decide_true, decide_false, decide_eq_false_iff_not, not_true_eq_false, not_false_eq_true, reduceCtorEq, eq_self]
      refine ⟨.inr ⟨by decide, by decide⟩, by decide, some (.im (.int c)), ?_⟩
      rw [List.take_add_one, hc, List.foldl_append]
      rfl
    · rintro M' ⟨e3, rfl⟩
      rw [List.length_map, List.take_length]
      simp -dsimp only [uww, ↓uSeq, ↓uNext, ↓uKill, ↓uFrz, ↓uDrop, ↓uRet, ↓uIf, ↓uAsg, ↓uAsgO, ↓uPar2, ↓uPut, ↓uDPut, ↓uFor_eq, ↓uWhile_eq, ↓uSeqM_eq, ↓uBrk, ↓uCnt, ↓uWelD, ↓gSet, ↓gN, ↓gC, ↓gT, ↓zE, ↓zF, ↓oE, ↓oV, ↓wV, ↓wC, ↓wOp, ↓wUn, ↓app2, ↓app1, ↓wTst, ↓tAndD, ↓tOrD, ↓tNotD, ↓wAndV, ↓wOrV, ↓wNotV, ↓wIf, ↓wChain, ↓osN, ↓osC, getAll, ↓appN, ↓wCB, ↓appM, ↓wBM, ↓wBM0, ↓wN, ↓wCs, ↓wTup, ↓wLst, ↓wDic0, ↓wDicT, ↓aN, ↓aC, ↓aW, ↓wCall_eq, ↓wCallK_eq, perm, List.filterMap_cons, List.filterMap_nil, ↓wApp, ↓wExt, ↓wPop, ↓wPopAt, ↓wListA, ↓wRpl, ↓iX, ↓iL, ↓iT, ↓iS, ↓iR1, ↓iR2, ↓iScr, ↓iZD, ↓iE, ↓wComp_eq, ↓ttY, ↓wSl, ↓wPart, ↓plN, ↓wRev, ↓wListO, ↓wRep, ↓wLenSet, ↓wLenScr, ↓wWelI, ↓wWelPop, ↓wWelApp, ↓tWelNE, ↓wDisp, ↓psC, ↓psN, ↓wDIn, ↓wDNotIn, ↓askD, ↓fAdd, ↓fSub, ↓fII, ↓fII0, ↓fDiv, ↓fMod, ↓fPow, ↓fLt, ↓fGt, ↓fLe, ↓fGe, ↓fGtD, ↓fLtD, ↓fLeD, ↓fGeD, ↓fNeg, ↓fMul, ↓fEq, ↓fNe, ↓eqQ, ↓fIsN, ↓fNotN, isNone_1, isNone_2, isNone_3, isNone_4, isNone_5, isNone_6, isNone_7, ↓fInC, ↓fNotInC, ↓fSub_, ↓fIx, ↓fSl, ↓fLen, ↓fTuple, ↓fMin1, ↓fMax1, ↓fSum, ↓fAll, ↓fAny, ↓fSorted, ↓fSortS, ↓fAbs, ↓fInt, ↓fRepr, ↓fCnt, ↓fIdx, ↓fJoin, isStr,
 endsG, mem0, toEnt, Mem.set, Mem.view, Mem.kill, Mem.frz, Mem.ro, Ent.ro', Opd.get,
 List.set_cons_zero, List.set_cons_succ, List.getElem?_cons_zero, List.getElem?_cons_succ, List.map_cons, List.map_nil, List.length_cons, List.length_nil, List.cons_append, List.nil_append, List.replicate_succ, List.replicate_zero, Option.map_some, Option.map_none, List.cons.injEq, and_true, true_and, Arg.x.injEq, exists_eq_left, exists_eq_right, Option.some.injEq, Ent.ow.injEq, Ent.im.injEq, PyData.int.injEq, PyData.list.injEq, PyData.dict.injEq, PyData.tuple.injEq, PyData.str.injEq, exists_eq', exists_eq, decide_eq_true_eq, Bool.not_eq_true', ite_true, ite_false, decide_true, decide_false, decide_eq_false_iff_not, not_true_eq_false, not_false_eq_true, reduceCtorEq, eq_self]
      have hc63 : (cellsOf ns).length ≤ 63 := by unfold cellsOf; rw [List.length_map]; exact hl
      refine ⟨by rw [List.length_map]; exact zl _ (by omega), comp_filter id (fun d => match d with
        | .int c => decide (10 ^ 17 ≤ c)
        | _ => false) (fun d hd P P2 h1 h2 => ?_) ?_⟩
      · obtain ⟨c, hc, rfl⟩ := List.mem_map.mp hd
        have e17 : (10 : Int) ^ Int.toNat 17 = 10 ^ 17 := rfl
        simp -dsimp only [↓uSeq, ↓uNext, ↓uKill, ↓uFrz, ↓uDrop, ↓uRet, ↓uIf, ↓uAsg, ↓uAsgO, ↓uPar2, ↓uPut, ↓uDPut, ↓uFor_eq, ↓uWhile_eq, ↓uSeqM_eq, ↓uBrk, ↓uCnt, ↓uWelD, ↓gSet, ↓gN, ↓gC, ↓gT, ↓zE, ↓zF, ↓oE, ↓oV, ↓wV, ↓wC, ↓wOp, ↓wUn, ↓app2, ↓app1, ↓wTst, ↓tAndD, ↓tOrD, ↓tNotD, ↓wAndV, ↓wOrV, ↓wNotV, ↓wIf, ↓wChain, ↓osN, ↓osC, getAll, ↓appN, ↓wCB, ↓appM, ↓wBM, ↓wBM0, ↓wN, ↓wCs, ↓wTup, ↓wLst, ↓wDic0, ↓wDicT, ↓aN, ↓aC, ↓aW, ↓wCall_eq, ↓wCallK_eq, perm, List.filterMap_cons, List.filterMap_nil, ↓wApp, ↓wExt, ↓wPop, ↓wPopAt, ↓wListA, ↓wRpl, ↓iX, ↓iL, ↓iT, ↓iS, ↓iR1, ↓iR2, ↓iScr, ↓iZD, ↓iE, ↓wComp_eq, ↓ttY, ↓wSl, ↓wPart, ↓plN, ↓wRev, ↓wListO, ↓wRep, ↓wLenSet, ↓wLenScr, ↓wWelI, ↓wWelPop, ↓wWelApp, ↓tWelNE, ↓wDisp, ↓psC, ↓psN, ↓wDIn, ↓wDNotIn, ↓askD, ↓fAdd, ↓fSub, ↓fII, ↓fII0, ↓fDiv, ↓fMod, ↓fPow, ↓fLt, ↓fGt, ↓fLe, ↓fGe, ↓fGtD, ↓fLtD, ↓fLeD, ↓fGeD, ↓fNeg, ↓fMul, ↓fEq, ↓fNe, ↓eqQ, ↓fIsN, ↓fNotN, isNone_1, isNone_2, isNone_3, isNone_4, isNone_5, isNone_6, isNone_7, ↓fInC, ↓fNotInC, ↓fSub_, ↓fIx, ↓fSl, ↓fLen, ↓fTuple, ↓fMin1, ↓fMax1, ↓fSum, ↓fAll, ↓fAny, ↓fSorted, ↓fSortS, ↓fAbs, ↓fInt, ↓fRepr, ↓fCnt, ↓fIdx, ↓fJoin, isStr,
 endsG, mem0, toEnt, Mem.set, Mem.view, Mem.kill, Mem.frz, Mem.ro, Ent.ro', Opd.get,
 List.set_cons_zero, List.set_cons_succ, List.getElem?_cons_zero, List.getElem?_cons_succ, List.map_cons, List.map_nil, List.length_cons, List.length_nil, List.cons_append, List.nil_append, List.replicate_succ, List.replicate_zero, Option.map_some, Option.map_none, List.cons.injEq, and_true, true_and, Arg.x.injEq, exists_eq_left, exists_eq_right, Option.some.injEq, Ent.ow.injEq, Ent.im.injEq, PyData.int.injEq, PyData.list.injEq, PyData.dict.injEq, PyData.tuple.injEq, PyData.str.injEq, exists_eq', exists_eq, decide_eq_true_eq, Bool.not_eq_true', ite_true, ite_false, decide_true, decide_false, decide_eq_false_iff_not, not_true_eq_false, not_false_eq_true, reduceCtorEq, eq_self]
        rw [e17]
        exact ⟨⟨by decide, by decide, by decide⟩, ite_i (fun h => h1 (decide_eq_true h)) (fun h => h2 (decide_eq_false h))⟩
      · have ef : (((cellsOf ns).map PyData.int).filter (fun d => match d with
          | .int c => decide (10 ^ 17 ≤ c)
          | _ => false)).map id = (wellOf ns).deep.map .int := by
          rw [List.map_id, List.filter_map]
          rfl
        rw [ef]
        obtain ⟨k1, k2, k3⟩ := k_deep
        simp -dsimp only [↓uSeq, ↓uNext, ↓uKill, ↓uFrz, ↓uDrop, ↓uRet, ↓uIf, ↓uAsg, ↓uAsgO, ↓uPar2, ↓uPut, ↓uDPut, ↓uFor_eq, ↓uWhile_eq, ↓uSeqM_eq, ↓uBrk, ↓uCnt, ↓uWelD, ↓gSet, ↓gN, ↓gC, ↓gT, ↓zE, ↓zF, ↓oE, ↓oV, ↓wV, ↓wC, ↓wOp, ↓wUn, ↓app2, ↓app1, ↓wTst, ↓tAndD, ↓tOrD, ↓tNotD, ↓wAndV, ↓wOrV, ↓wNotV, ↓wIf, ↓wChain, ↓osN, ↓osC, getAll, ↓appN, ↓wCB, ↓appM, ↓wBM, ↓wBM0, ↓wN, ↓wCs, ↓wTup, ↓wLst, ↓wDic0, ↓wDicT, ↓aN, ↓aC, ↓aW, ↓wCall_eq, ↓wCallK_eq, perm, List.filterMap_cons, List.filterMap_nil, ↓wApp, ↓wExt, ↓wPop, ↓wPopAt, ↓wListA, ↓wRpl, ↓iX, ↓iL, ↓iT, ↓iS, ↓iR1, ↓iR2, ↓iScr, ↓iZD, ↓iE, ↓wComp_eq, ↓ttY, ↓wSl, ↓wPart, ↓plN, ↓wRev, ↓wListO, ↓wRep, ↓wLenSet, ↓wLenScr, ↓wWelI, ↓wWelPop, ↓wWelApp, ↓tWelNE, ↓wDisp, ↓psC, ↓psN, ↓wDIn, ↓wDNotIn, ↓askD, ↓fAdd, ↓fSub, ↓fII, ↓fII0, ↓fDiv, ↓fMod, ↓fPow, ↓fLt, ↓fGt, ↓fLe, ↓fGe, ↓fGtD, ↓fLtD, ↓fLeD, ↓fGeD, ↓fNeg, ↓fMul, ↓fEq, ↓fNe, ↓eqQ, ↓fIsN, ↓fNotN, isNone_1, isNone_2, isNone_3, isNone_4, isNone_5, isNone_6, isNone_7, ↓fInC, ↓fNotInC, ↓fSub_, ↓fIx, ↓fSl, ↓fLen, ↓fTuple, ↓fMin1, ↓fMax1, ↓fSum, ↓fAll, ↓fAny, ↓fSorted, ↓fSortS, ↓fAbs, ↓fInt, ↓fRepr, ↓fCnt, ↓fIdx, ↓fJoin, isStr,
 endsG, mem0, toEnt, Mem.set, Mem.view, Mem.kill, Mem.frz, Mem.ro, Ent.ro', Opd.get,
 List.set_cons_zero, List.set_cons_succ, List.getElem?_cons_zero, List.getElem?_cons_succ, List.map_cons, List.map_nil, List.length_cons, List.length_nil, List.cons_append, List.nil_append, List.replicate_succ, List.replicate_zero, Option.map_some, Option.map_none, List.cons.injEq, and_true, true_and, Arg.x.injEq, exists_eq_left, exists_eq_right, Option.some.injEq, Ent.ow.injEq, Ent.im.injEq, PyData.int.injEq, PyData.list.injEq, PyData.dict.injEq, PyData.tuple.injEq, PyData.str.injEq, exists_eq', exists_eq, decide_eq_true_eq, Bool.not_eq_true', ite_true, ite_false, decide_true, decide_false, decide_eq_false_iff_not, not_true_eq_false, not_false_eq_true, reduceCtorEq, eq_self, List.all_cons, List.all_nil, List.foldl_cons, List.foldl_nil]
        refine ⟨⟨rfl, by decide⟩, ?_⟩
        simp [welDict, dput, kEq, kEq1, k1, k2, k3, wellOf]
end DL

/-! M2: k85 -/
namespace DL
open PySem PySem.Spec L2 PyProof.Rows
/-! each_once of texts -/
theorem rising_pair : ∀ (p : Str) (l : List Str), risingS p l = true → (p :: l).Pairwise (fun a b => a.cps.toList ≤ b.cps.toList)
  | p, [], _ => List.pairwise_singleton _ _
  | p, x :: r, h => by
    have h : (!ltCps x.cps.toList p.cps.toList && risingS x r) = true := h
    rw [Bool.and_eq_true] at h
    have h1 : p.cps.toList ≤ x.cps.toList := by
      have := h.1
      rw [ltCps_eq] at this
      simpa using this
    have ih := rising_pair x r h.2
    refine List.pairwise_cons.mpr ⟨fun y hy => ?_, ih⟩
    rcases List.mem_cons.mp hy with rfl | hy
    · exact h1
    · exact List.le_trans h1 (List.rel_of_pairwise_cons ih hy)
theorem sorted_pair : ∀ (l : List Str), sortedS l = true → l.Pairwise (fun a b => a.cps.toList ≤ b.cps.toList)
  | [], _ => .nil
  | x :: r, h => rising_pair x r h
def Words (ls : List (List Nat)) : Prop := ∀ x ∈ ls, (∀ c ∈ x, c < 1000) ∧ x.length ≤ 200
theorem Words.sm {ls : List (List Nat)} (h : Words ls) (hl : ls.length ≤ 100) : Sm 1 (100 * 2004 + 3) (.list (ls.map sD)) :=
  Sm.list (n := 0) (k := 2002) (fun x hx => by
    obtain ⟨y, hy, rfl⟩ := List.mem_map.mp hx
    exact Sm.str (m := 200) (h y hy).1 (h y hy).2) (by simpa using hl)
def g_each_once : GSpec := fun args wl Q => ∃ ls : List (List Nat), args = [.x (.list (ls.map sD))] ∧ ls.length < 64 ∧ Words ls ∧ ∀ es : List (List Nat), es.Pairwise (· < ·) → (∀ x, x ∈ es ↔ x ∈ ls) → Q (.tuple (es.map sD)) wl
theorem each_i {ls : List (List Nat)} {wl : Option Wel} {Q : PyData → Option Wel → Prop} {l : Lock Q} (h : ls.length < 64) (hw : Words ls) (q : ∀ es : List (List Nat), es.Pairwise (· < ·) → (∀ x, x ∈ es ↔ x ∈ ls) → Q (.tuple (es.map sD)) wl) : callG g_each_once [.x (.list (ls.map sD))] wl Q l := ⟨ls, rfl, h, hw, q⟩
def u_each_once : WS :=
  (uSeq (uAsgO (wLst wN) 1)
  (uSeq (uFor [2] (iX (wCB fSorted (osC (oV 0) osN))) (gSet 2)
  (uIf (tOrD (wTst (wOp fEq (oV 1) (oE (wLst wN)))) (wTst (wOp fNe (oE (wOp fSub_ (oV 1) (oE (wUn fNeg (oE (wC (.int 1))))))) (oV 2))))
  (uDrop (wApp 1 (wV 2)))
  uNext))
  (uRet (wCB fTuple (osC (oV 1) osN)))))
theorem atI_last {α : Type} {l : List α} {x : α} (h : l.getLast? = some x) : atI l (-1) = some x := by
  have h0 : 0 < l.length := by
    cases l with
    | nil => simp at h
    | cons a r => simp
  unfold L2.atI ixN
  rw [if_neg (by omega), if_pos (by omega)]
  rw [List.getLast?_eq_getElem?] at h
  have : ((-1 : Int) + (l.length : Int)).toNat = l.length - 1 := by omega
  rw [this]
  exact h
theorem last_max {es : List (List Nat)} {x y : List Nat} (h : es.Pairwise (· < ·)) (hl : es.getLast? = some y) (hx : x ∈ es) : x ≤ y := by
  obtain ⟨pre, rfl⟩ : ∃ pre, es = pre ++ [y] := by
    obtain ⟨ys, e⟩ := List.getLast?_eq_some_iff.mp hl
    exact ⟨ys, e⟩
  rcases List.mem_append.mp hx with hx | hx
  · exact List.le_of_lt ((List.pairwise_append.mp h).2.2 x hx y List.mem_cons_self)
  · rw [List.mem_singleton.mp hx]
    exact List.le_refl _
theorem pf_each_once (args : List Arg) (wl : Option Wel) (Q : PyData → Option Wel → Prop) (h : g_each_once args wl Q) : u_each_once noX (endsG Q) (mem0 3 args wl) := by
  obtain ⟨ls, rfl, hn, hw, q⟩ := h
  simp -dsimp only [u_each_once, ↓uSeq, ↓uNext, ↓uKill, ↓uFrz, ↓uDrop, ↓uRet, ↓uIf, ↓uAsg, ↓uAsgO, ↓uPar2, ↓uPut, ↓uDPut, ↓uFor_eq, ↓uWhile_eq, ↓uSeqM_eq, ↓uBrk, ↓uCnt, ↓uWelD, ↓gSet, ↓gN, ↓gC, ↓gT, ↓zE, ↓zF, ↓oE, ↓oV, ↓wV, ↓wC, ↓wOp, ↓wUn, ↓app2, ↓app1, ↓wTst, ↓tAndD, ↓tOrD, ↓tNotD, ↓wAndV, ↓wOrV, ↓wNotV, ↓wIf, ↓wChain, ↓osN, ↓osC, getAll, ↓appN, ↓wCB, ↓appM, ↓wBM, ↓wBM0, ↓wN, ↓wCs, ↓wTup, ↓wLst, ↓wDic0, ↓wDicT, ↓aN, ↓aC, ↓aW, ↓wCall_eq, ↓wCallK_eq, perm, List.filterMap_cons, List.filterMap_nil, ↓wApp, ↓wExt, ↓wPop, ↓wPopAt, ↓wListA, ↓wRpl, ↓iX, ↓iL, ↓iT, ↓iS, ↓iR1, ↓iR2, ↓iScr, ↓iZD, ↓iE, ↓wComp_eq, ↓ttY, ↓wSl, ↓wPart, ↓plN, ↓wRev, ↓wListO, ↓wRep, ↓wLenSet, ↓wLenScr, ↓wWelI, ↓wWelPop, ↓wWelApp, ↓tWelNE, ↓wDisp, ↓psC, ↓psN, ↓wDIn, ↓wDNotIn, ↓askD, ↓fAdd, ↓fSub, ↓fII, ↓fII0, ↓fDiv, ↓fMod, ↓fPow, ↓fLt, ↓fGt, ↓fLe, ↓fGe, ↓fGtD, ↓fLtD, ↓fLeD, ↓fGeD, ↓fNeg, ↓fMul, ↓fEq, ↓fNe, ↓eqQ, ↓fIsN, ↓fNotN, isNone_1, isNone_2, isNone_3, isNone_4, isNone_5, isNone_6, isNone_7, ↓fInC, ↓fNotInC, ↓fSub_, ↓fIx, ↓fSl, ↓fLen, ↓fTuple, ↓fMin1, ↓fMax1, ↓fSum, ↓fAll, ↓fAny, ↓fSorted, ↓fSortS, ↓fAbs, ↓fInt, ↓fRepr, ↓fCnt, ↓fIdx, ↓fJoin, isStr,
 endsG, mem0, toEnt, Mem.set, Mem.view, Mem.kill, Mem.frz, Mem.ro, Ent.ro', Opd.get,
 List.set_cons_zero, List.set_cons_succ, List.getElem?_cons_zero, List.getElem?_cons_succ, List.map_cons, List.map_nil, List.length_cons, List.length_nil, List.cons_append, List.nil_append, List.replicate_succ, List.replicate_zero, Option.map_some, Option.map_none, List.cons.injEq, and_true, true_and, Arg.x.injEq, exists_eq_left, exists_eq_right, Option.some.injEq, Ent.ow.injEq, Ent.im.injEq, PyData.int.injEq, PyData.list.injEq, PyData.dict.injEq, PyData.tuple.injEq, PyData.str.injEq, exists_eq', exists_eq, decide_eq_true_eq, Bool.not_eq_true', ite_true, ite_false, decide_true, decide_false, decide_eq_false_iff_not, not_true_eq_false, not_false_eq_true, reduceCtorEq, eq_self]
  have e0 : strsOf (ls.map sD) = some (ls.map S) := strsOf_f S ls
  simp -dsimp only [e0]
  refine ⟨Nat.zero_le _, by simpa using hn, fun ys hp hs => ?_⟩
  obtain ⟨zs, rfl⟩ : ∃ zs : List (List Nat), ys = zs.map S := ⟨ys.map (fun y => y.cps.toList), by rw [List.map_map]; exact (List.map_id' ys).symm.trans (List.map_congr_left fun y _ => S_of y)⟩
  have hlen : zs.length = ls.length := by have := hp.length_eq; simpa using this
  have mem : ∀ x, x ∈ zs ↔ x ∈ ls := fun x => by
    have := hp.mem_iff (a := S x)
    rw [List.mem_map, List.mem_map] at this
    exact ⟨fun h => by obtain ⟨y, hy, e⟩ := this.mp ⟨x, h, rfl⟩; rw [← S_inj e]; exact hy, fun h => by obtain ⟨y, hy, e⟩ := this.mpr ⟨x, h, rfl⟩; rw [← S_inj e]; exact hy⟩
  have srt : zs.Pairwise (· ≤ ·) := by
    have := sorted_pair _ hs
    rw [List.pairwise_map] at this
    exact this
  have em : (zs.map S).map PyData.str = zs.map sD := by rw [List.map_map]; rfl
  rw [em]
  refine for_i (fun i M => ∃ (es : List (List Nat)) (e2 : Option Ent), M = ⟨[some (.im (.list (ls.map sD))), some (.ow (.list (es.map sD))), e2], wl⟩ ∧ es.Pairwise (· < ·) ∧ (∀ x, x ∈ es ↔ x ∈ zs.take i) ∧ es.getLast? = (zs.take i).getLast?) ⟨[], none, rfl, .nil, by simp, by simp⟩ ?_ ?_
  · rintro i d M' hd ⟨es, e2, rfl, h1, h2, h3⟩
    rw [List.getElem?_map] at hd
    obtain ⟨z, hz, rfl⟩ := Option.map_eq_some_iff.mp hd
    have hi : i < zs.length := (List.getElem?_eq_some_iff.mp hz).1
    have ht : zs.take (i + 1) = zs.take i ++ [z] := by rw [List.take_add_one, hz]; rfl
    have zin : z ∈ zs := List.mem_of_getElem? hz
    have esW : Words es := fun x hx => hw x ((mem x).mp (List.mem_of_mem_take ((h2 x).mp hx)))
    have esl : es.length ≤ 64 := by
      have nd : es.Nodup := h1.imp fun h e => by subst e; exact List.lt_irrefl _ h
      have := sub_len es zs nd fun x hx => List.mem_of_mem_take ((h2 x).mp hx)
      omega
    have sm := (esW.sm (by omega)).eq Sm.nil (by omega) (by omega)
    simp -dsimp only [↓uSeq, ↓uNext, ↓uKill, ↓uFrz, ↓uDrop, ↓uRet, ↓uIf, ↓uAsg, ↓uAsgO, ↓uPar2, ↓uPut, ↓uDPut, ↓uFor_eq, ↓uWhile_eq, ↓uSeqM_eq, ↓uBrk, ↓uCnt, ↓uWelD, ↓gSet, ↓gN, ↓gC, ↓gT, ↓zE, ↓zF, ↓oE, ↓oV, ↓wV, ↓wC, ↓wOp, ↓wUn, ↓app2, ↓app1, ↓wTst, ↓tAndD, ↓tOrD, ↓tNotD, ↓wAndV, ↓wOrV, ↓wNotV, ↓wIf, ↓wChain, ↓osN, ↓osC, getAll, ↓appN, ↓wCB, ↓appM, ↓wBM, ↓wBM0, ↓wN, ↓wCs, ↓wTup, ↓wLst, ↓wDic0, ↓wDicT, ↓aN, ↓aC, ↓aW, ↓wCall_eq, ↓wCallK_eq, perm, List.filterMap_cons, List.filterMap_nil, ↓wApp, ↓wExt, ↓wPop, ↓wPopAt, ↓wListA, ↓wRpl, ↓iX, ↓iL, ↓iT, ↓iS, ↓iR1, ↓iR2, ↓iScr, ↓iZD, ↓iE, ↓wComp_eq, ↓ttY, ↓wSl, ↓wPart, ↓plN, ↓wRev, ↓wListO, ↓wRep, ↓wLenSet, ↓wLenScr, ↓wWelI, ↓wWelPop, ↓wWelApp, ↓tWelNE, ↓wDisp, ↓psC, ↓psN, ↓wDIn, ↓wDNotIn, ↓askD, ↓fAdd, ↓fSub, ↓fII, ↓fII0, ↓fDiv, ↓fMod, ↓fPow, ↓fLt, ↓fGt, ↓fLe, ↓fGe, ↓fGtD, ↓fLtD, ↓fLeD, ↓fGeD, ↓fNeg, ↓fMul, ↓fEq, ↓fNe, ↓eqQ, ↓fIsN, ↓fNotN, isNone_1, isNone_2, isNone_3, isNone_4, isNone_5, isNone_6, isNone_7, ↓fInC, ↓fNotInC, ↓fSub_, ↓fIx, ↓fSl, ↓fLen, ↓fTuple, ↓fMin1, ↓fMax1, ↓fSum, ↓fAll, ↓fAny, ↓fSorted, ↓fSortS, ↓fAbs, ↓fInt, ↓fRepr, ↓fCnt, ↓fIdx, ↓fJoin, isStr,
 endsG, mem0, toEnt, Mem.set, Mem.view, Mem.kill, Mem.frz, Mem.ro, Ent.ro', Opd.get,
 List.set_cons_zero, List.set_cons_succ, List.getElem?_cons_zero, List.getElem?_cons_succ, List.map_cons, List.map_nil, List.length_cons, List.length_nil, List.cons_append, List.nil_append, List.replicate_succ, List.replicate_zero, Option.map_some, Option.map_none, List.cons.injEq, and_true, true_and, Arg.x.injEq, exists_eq_left, exists_eq_right, Option.some.injEq, Ent.ow.injEq, Ent.im.injEq, PyData.int.injEq, PyData.list.injEq, PyData.dict.injEq, PyData.tuple.injEq, PyData.str.injEq, exists_eq', exists_eq, decide_eq_true_eq, Bool.not_eq_true', ite_true, ite_false, decide_true, decide_false, decide_eq_false_iff_not, not_true_eq_false, not_false_eq_true, reduceCtorEq, eq_self, eqv_nil]
    refine ⟨Nat.zero_le _, sm, ?_⟩
    have skip : es.getLast? = some z → ∃ (es' : List (List Nat)) (e2 : Option Ent), (⟨[some (.im (.list (ls.map sD))), some (.ow (.list (es.map sD))), some (.im (sD z))], wl⟩ : Mem) = ⟨[some (.im (.list (ls.map sD))), some (.ow (.list (es'.map sD))), e2], wl⟩ ∧ es'.Pairwise (· < ·) ∧ (∀ x, x ∈ es' ↔ x ∈ zs.take (i + 1)) ∧ es'.getLast? = (zs.take (i + 1)).getLast? := fun hl => by
      refine ⟨es, _, rfl, h1, fun x => ?_, by rw [ht, List.getLast?_concat]; exact hl⟩
      rw [ht, List.mem_append, ← h2 x, List.mem_singleton]
      exact ⟨.inl, fun h => h.elim id fun e => by rw [e]; exact List.mem_of_getLast? hl⟩
    have add : es.getLast? ≠ some z → ∃ (es' : List (List Nat)) (e2 : Option Ent), (⟨[some (.im (.list (ls.map sD))), some (.ow (.list (es.map sD ++ [sD z]))), some (.im (sD z))], wl⟩ : Mem) = ⟨[some (.im (.list (ls.map sD))), some (.ow (.list (es'.map sD))), e2], wl⟩ ∧ es'.Pairwise (· < ·) ∧ (∀ x, x ∈ es' ↔ x ∈ zs.take (i + 1)) ∧ es'.getLast? = (zs.take (i + 1)).getLast? := fun hl => by
      refine ⟨es ++ [z], some (.im (sD z)), by rw [List.map_append]; rfl, ?_, fun x => ?_, by rw [ht, List.getLast?_concat, List.getLast?_concat]⟩
      · refine List.pairwise_append.mpr ⟨h1, List.pairwise_singleton _ _, fun x hx y hy => ?_⟩
        rw [List.mem_singleton.mp hy]
        cases hy2 : es.getLast? with
        | none => rw [List.getLast?_eq_none_iff.mp hy2] at hx; simp at hx
        | some y2 =>
          have hxy := last_max h1 hy2 hx
          have y2z : y2 ≤ z := by
            have hin : y2 ∈ zs.take i := (h2 y2).mp (List.mem_of_getLast? hy2)
            have := srt
            rw [← List.take_append_drop (i + 1) zs, ht] at this
            exact (List.pairwise_append.mp (List.pairwise_append.mp this).1).2.2 y2 hin z List.mem_cons_self
          have ne : y2 ≠ z := fun e => hl (by rw [hy2, e])
          exact List.lt_of_le_of_lt hxy (Decidable.byContradiction fun h => ne (List.le_antisymm y2z (List.not_lt.mp h)))
      · rw [ht, List.mem_append, List.mem_append, h2 x]
    refine ite_i (fun hc => ?_) (fun hc => ?_)
    · refine ⟨small1000 (by simpa using by omega), add fun e => ?_⟩
      cases es with
      | nil => simp at e
      | cons a r => simp at hc
    · cases hl : es.getLast? with
      | none => rw [List.getLast?_eq_none_iff.mp hl] at hc; simp at hc
      | some y =>
        have : (es.map sD).getLast? = some (sD y) := by rw [List.getLast?_map, hl]; rfl
        simp -dsimp only [↓uSeq, ↓uNext, ↓uKill, ↓uFrz, ↓uDrop, ↓uRet, ↓uIf, ↓uAsg, ↓uAsgO, ↓uPar2, ↓uPut, ↓uDPut, ↓uFor_eq, ↓uWhile_eq, ↓uSeqM_eq, ↓uBrk, ↓uCnt, ↓uWelD, ↓gSet, ↓gN, ↓gC, ↓gT, ↓zE, ↓zF, ↓oE, ↓oV, ↓wV, ↓wC, ↓wOp, ↓wUn, ↓app2, ↓app1, ↓wTst, ↓tAndD, ↓tOrD, ↓tNotD, ↓wAndV, ↓wOrV, ↓wNotV, ↓wIf, ↓wChain, ↓osN, ↓osC, getAll, ↓appN, ↓wCB, ↓appM, ↓wBM, ↓wBM0, ↓wN, ↓wCs, ↓wTup, ↓wLst, ↓wDic0, ↓wDicT, ↓aN, ↓aC, ↓aW, ↓wCall_eq, ↓wCallK_eq, perm, List.filterMap_cons, List.filterMap_nil, ↓wApp, ↓wExt, ↓wPop, ↓wPopAt, ↓wListA, ↓wRpl, ↓iX, ↓iL, ↓iT, ↓iS, ↓iR1, ↓iR2, ↓iScr, ↓iZD, ↓iE, ↓wComp_eq, ↓ttY, ↓wSl, ↓wPart, ↓plN, ↓wRev, ↓wListO, ↓wRep, ↓wLenSet, ↓wLenScr, ↓wWelI, ↓wWelPop, ↓wWelApp, ↓tWelNE, ↓wDisp, ↓psC, ↓psN, ↓wDIn, ↓wDNotIn, ↓askD, ↓fAdd, ↓fSub, ↓fII, ↓fII0, ↓fDiv, ↓fMod, ↓fPow, ↓fLt, ↓fGt, ↓fLe, ↓fGe, ↓fGtD, ↓fLtD, ↓fLeD, ↓fGeD, ↓fNeg, ↓fMul, ↓fEq, ↓fNe, ↓eqQ, ↓fIsN, ↓fNotN, isNone_1, isNone_2, isNone_3, isNone_4, isNone_5, isNone_6, isNone_7, ↓fInC, ↓fNotInC, ↓fSub_, ↓fIx, ↓fSl, ↓fLen, ↓fTuple, ↓fMin1, ↓fMax1, ↓fSum, ↓fAll, ↓fAny, ↓fSorted, ↓fSortS, ↓fAbs, ↓fInt, ↓fRepr, ↓fCnt, ↓fIdx, ↓fJoin, isStr,
 endsG, mem0, toEnt, Mem.set, Mem.view, Mem.kill, Mem.frz, Mem.ro, Ent.ro', Opd.get,
 List.set_cons_zero, List.set_cons_succ, List.getElem?_cons_zero, List.getElem?_cons_succ, List.map_cons, List.map_nil, List.length_cons, List.length_nil, List.cons_append, List.nil_append, List.replicate_succ, List.replicate_zero, Option.map_some, Option.map_none, List.cons.injEq, and_true, true_and, Arg.x.injEq, exists_eq_left, exists_eq_right, Option.some.injEq, Ent.ow.injEq, Ent.im.injEq, PyData.int.injEq, PyData.list.injEq, PyData.dict.injEq, PyData.tuple.injEq, PyData.str.injEq, exists_eq', exists_eq, decide_eq_true_eq, Bool.not_eq_true', ite_true, ite_false, decide_true, decide_false, decide_eq_false_iff_not, not_true_eq_false, not_false_eq_true, reduceCtorEq, eq_self, atI_last this]
        refine ite_i (fun hd => ?_) (fun hd => ?_)
        · exact ⟨small1000 (by simpa using by omega), add fun e => by rw [hl] at e; cases e; simp at hd⟩
        · exact skip (by rw [hl]; simp at hd; rw [hd])
  · rintro M' ⟨es, e2, rfl, h1, h2, h3⟩
    rw [List.length_map, List.take_length] at h2
    simp -dsimp only [↓uSeq, ↓uNext, ↓uKill, ↓uFrz, ↓uDrop, ↓uRet, ↓uIf, ↓uAsg, ↓uAsgO, ↓uPar2, ↓uPut, ↓uDPut, ↓uFor_eq, ↓uWhile_eq, ↓uSeqM_eq, ↓uBrk, ↓uCnt, ↓uWelD, ↓gSet, ↓gN, ↓gC, ↓gT, ↓zE, ↓zF, ↓oE, ↓oV, ↓wV, ↓wC, ↓wOp, ↓wUn, ↓app2, ↓app1, ↓wTst, ↓tAndD, ↓tOrD, ↓tNotD, ↓wAndV, ↓wOrV, ↓wNotV, ↓wIf, ↓wChain, ↓osN, ↓osC, getAll, ↓appN, ↓wCB, ↓appM, ↓wBM, ↓wBM0, ↓wN, ↓wCs, ↓wTup, ↓wLst, ↓wDic0, ↓wDicT, ↓aN, ↓aC, ↓aW, ↓wCall_eq, ↓wCallK_eq, perm, List.filterMap_cons, List.filterMap_nil, ↓wApp, ↓wExt, ↓wPop, ↓wPopAt, ↓wListA, ↓wRpl, ↓iX, ↓iL, ↓iT, ↓iS, ↓iR1, ↓iR2, ↓iScr, ↓iZD, ↓iE, ↓wComp_eq, ↓ttY, ↓wSl, ↓wPart, ↓plN, ↓wRev, ↓wListO, ↓wRep, ↓wLenSet, ↓wLenScr, ↓wWelI, ↓wWelPop, ↓wWelApp, ↓tWelNE, ↓wDisp, ↓psC, ↓psN, ↓wDIn, ↓wDNotIn, ↓askD, ↓fAdd, ↓fSub, ↓fII, ↓fII0, ↓fDiv, ↓fMod, ↓fPow, ↓fLt, ↓fGt, ↓fLe, ↓fGe, ↓fGtD, ↓fLtD, ↓fLeD, ↓fGeD, ↓fNeg, ↓fMul, ↓fEq, ↓fNe, ↓eqQ, ↓fIsN, ↓fNotN, isNone_1, isNone_2, isNone_3, isNone_4, isNone_5, isNone_6, isNone_7, ↓fInC, ↓fNotInC, ↓fSub_, ↓fIx, ↓fSl, ↓fLen, ↓fTuple, ↓fMin1, ↓fMax1, ↓fSum, ↓fAll, ↓fAny, ↓fSorted, ↓fSortS, ↓fAbs, ↓fInt, ↓fRepr, ↓fCnt, ↓fIdx, ↓fJoin, isStr,
 endsG, mem0, toEnt, Mem.set, Mem.view, Mem.kill, Mem.frz, Mem.ro, Ent.ro', Opd.get,
 List.set_cons_zero, List.set_cons_succ, List.getElem?_cons_zero, List.getElem?_cons_succ, List.map_cons, List.map_nil, List.length_cons, List.length_nil, List.cons_append, List.nil_append, List.replicate_succ, List.replicate_zero, Option.map_some, Option.map_none, List.cons.injEq, and_true, true_and, Arg.x.injEq, exists_eq_left, exists_eq_right, Option.some.injEq, Ent.ow.injEq, Ent.im.injEq, PyData.int.injEq, PyData.list.injEq, PyData.dict.injEq, PyData.tuple.injEq, PyData.str.injEq, exists_eq', exists_eq, decide_eq_true_eq, Bool.not_eq_true', ite_true, ite_false, decide_true, decide_false, decide_eq_false_iff_not, not_true_eq_false, not_false_eq_true, reduceCtorEq, eq_self]
    exact q es h1 fun x => (h2 x).trans (mem x)
/-! pieces_of -/
def wins (l : List Nat) (n : Nat) : List (List Nat) := (List.range (l.length - n + 1)).map fun p => (l.drop p).take n
def g_pieces_of : GSpec := fun args wl Q => ∃ (l : List Nat) (n : Nat), args = [.x (sD l), .x (.int (n : Nat))] ∧ n ≤ l.length ∧ l.length ≤ 62 ∧ (∀ c ∈ l, c < 1000) ∧ ∀ es : List (List Nat), es.Pairwise (· < ·) → (∀ x, x ∈ es ↔ x ∈ wins l n) → Q (.tuple (es.map sD)) wl
theorem pieces_i {l : List Nat} {n : Nat} {wl : Option Wel} {Q : PyData → Option Wel → Prop} {lk : Lock Q} (h : n ≤ l.length) (h2 : l.length ≤ 62) (h3 : ∀ c ∈ l, c < 1000) (q : ∀ es : List (List Nat), es.Pairwise (· < ·) → (∀ x, x ∈ es ↔ x ∈ wins l n) → Q (.tuple (es.map sD)) wl) :
    callG g_pieces_of [.x (sD l), .x (.int (n : Nat))] wl Q lk := ⟨l, n, rfl, h, h2, h3, q⟩
def u_pieces_of : WS :=
  (uRet (wCall g_each_once (aC (wComp [2] (iR1 (osC (oE (wOp fAdd (oE (wOp fSub (oE (wCB fLen (osC (oV 0) osN))) (oV 1))) (oE (wC (.int 1))))) osN)) (gSet 2) ttY (wSl (oV 0) (wPart (oV 2)) (wPart (oE (wOp fAdd (oV 2) (oV 1)))))) aN)))
theorem rng_map {β : Type} (f : PyData → β) (g : Nat → β) (n : Nat) (h : ∀ p, p < n → f (.int (p : Nat)) = g p) : (rng 0 n).map f = (List.range n).map g := by
  unfold rng
  rw [List.map_map]
  refine List.map_congr_left fun p hp => ?_
  show f (.int (0 + (p : Nat))) = g p
  rw [Int.zero_add]
  exact h p (List.mem_range.mp hp)
theorem mem_rng {d : PyData} {n : Nat} (h : d ∈ rng 0 n) : ∃ p : Nat, p < n ∧ d = .int (p : Nat) := by
  unfold rng at h
  obtain ⟨p, h1, rfl⟩ := List.mem_map.mp h
  exact ⟨p, List.mem_range.mp h1, by rw [Int.zero_add]⟩
theorem pf_pieces_of (args : List Arg) (wl : Option Wel) (Q : PyData → Option Wel → Prop) (h : g_pieces_of args wl Q) : u_pieces_of noX (endsG Q) (mem0 3 args wl) := by
  obtain ⟨l, n, rfl, hn, hl, hc, q⟩ := h
  simp -dsimp only [u_pieces_of, ↓uSeq, ↓uNext, ↓uKill, ↓uFrz, ↓uDrop, ↓uRet, ↓uIf, ↓uAsg, ↓uAsgO, ↓uPar2, ↓uPut, ↓uDPut, ↓uFor_eq, ↓uWhile_eq, ↓uSeqM_eq, ↓uBrk, ↓uCnt, ↓uWelD, ↓gSet, ↓gN, ↓gC, ↓gT, ↓zE, ↓zF, ↓oE, ↓oV, ↓wV, ↓wC, ↓wOp, ↓wUn, ↓app2, ↓app1, ↓wTst, ↓tAndD, ↓tOrD, ↓tNotD, ↓wAndV, ↓wOrV, ↓wNotV, ↓wIf, ↓wChain, ↓osN, ↓osC, getAll, ↓appN, ↓wCB, ↓appM, ↓wBM, ↓wBM0, ↓wN, ↓wCs, ↓wTup, ↓wLst, ↓wDic0, ↓wDicT, ↓aN, ↓aC, ↓aW, ↓wCall_eq, ↓wCallK_eq, perm, List.filterMap_cons, List.filterMap_nil, ↓wApp, ↓wExt, ↓wPop, ↓wPopAt, ↓wListA, ↓wRpl, ↓iX, ↓iL, ↓iT, ↓iS, ↓iR1, ↓iR2, ↓iScr, ↓iZD, ↓iE, ↓wComp_eq, ↓ttY, ↓wSl, ↓wPart, ↓plN, ↓wRev, ↓wListO, ↓wRep, ↓wLenSet, ↓wLenScr, ↓wWelI, ↓wWelPop, ↓wWelApp, ↓tWelNE, ↓wDisp, ↓psC, ↓psN, ↓wDIn, ↓wDNotIn, ↓askD, ↓fAdd, ↓fSub, ↓fII, ↓fII0, ↓fDiv, ↓fMod, ↓fPow, ↓fLt, ↓fGt, ↓fLe, ↓fGe, ↓fGtD, ↓fLtD, ↓fLeD, ↓fGeD, ↓fNeg, ↓fMul, ↓fEq, ↓fNe, ↓eqQ, ↓fIsN, ↓fNotN, isNone_1, isNone_2, isNone_3, isNone_4, isNone_5, isNone_6, isNone_7, ↓fInC, ↓fNotInC, ↓fSub_, ↓fIx, ↓fSl, ↓fLen, ↓fTuple, ↓fMin1, ↓fMax1, ↓fSum, ↓fAll, ↓fAny, ↓fSorted, ↓fSortS, ↓fAbs, ↓fInt, ↓fRepr, ↓fCnt, ↓fIdx, ↓fJoin, isStr,
 endsG, mem0, toEnt, Mem.set, Mem.view, Mem.kill, Mem.frz, Mem.ro, Ent.ro', Opd.get,
 List.set_cons_zero, List.set_cons_succ, List.getElem?_cons_zero, List.getElem?_cons_succ, List.map_cons, List.map_nil, List.length_cons, List.length_nil, List.cons_append, List.nil_append, List.replicate_succ, List.replicate_zero, Option.map_some, Option.map_none, List.cons.injEq, and_true, true_and, Arg.x.injEq, exists_eq_left, exists_eq_right, Option.some.injEq, Ent.ow.injEq, Ent.im.injEq, PyData.int.injEq, PyData.list.injEq, PyData.dict.injEq, PyData.tuple.injEq, PyData.str.injEq, exists_eq', exists_eq, decide_eq_true_eq, Bool.not_eq_true', ite_true, ite_false, decide_true, decide_false, decide_eq_false_iff_not, not_true_eq_false, not_false_eq_true, reduceCtorEq, eq_self, S_cps]
  have e1 : ((l.length : Int) - n + 1).toNat = l.length - n + 1 := by omega
  rw [e1, rng_len]
  refine ⟨zl _ (by omega), ⟨by omega, by omega⟩, zl _ (by omega), comp_map (fun d => match d with
    | .int p => sD ((l.drop p.toNat).take n)
    | _ => .none) (fun d hd P hP => ?_) ?_⟩
  · obtain ⟨p, hp, rfl⟩ := mem_rng hd
    simp -dsimp only [↓uSeq, ↓uNext, ↓uKill, ↓uFrz, ↓uDrop, ↓uRet, ↓uIf, ↓uAsg, ↓uAsgO, ↓uPar2, ↓uPut, ↓uDPut, ↓uFor_eq, ↓uWhile_eq, ↓uSeqM_eq, ↓uBrk, ↓uCnt, ↓uWelD, ↓gSet, ↓gN, ↓gC, ↓gT, ↓zE, ↓zF, ↓oE, ↓oV, ↓wV, ↓wC, ↓wOp, ↓wUn, ↓app2, ↓app1, ↓wTst, ↓tAndD, ↓tOrD, ↓tNotD, ↓wAndV, ↓wOrV, ↓wNotV, ↓wIf, ↓wChain, ↓osN, ↓osC, getAll, ↓appN, ↓wCB, ↓appM, ↓wBM, ↓wBM0, ↓wN, ↓wCs, ↓wTup, ↓wLst, ↓wDic0, ↓wDicT, ↓aN, ↓aC, ↓aW, ↓wCall_eq, ↓wCallK_eq, perm, List.filterMap_cons, List.filterMap_nil, ↓wApp, ↓wExt, ↓wPop, ↓wPopAt, ↓wListA, ↓wRpl, ↓iX, ↓iL, ↓iT, ↓iS, ↓iR1, ↓iR2, ↓iScr, ↓iZD, ↓iE, ↓wComp_eq, ↓ttY, ↓wSl, ↓wPart, ↓plN, ↓wRev, ↓wListO, ↓wRep, ↓wLenSet, ↓wLenScr, ↓wWelI, ↓wWelPop, ↓wWelApp, ↓tWelNE, ↓wDisp, ↓psC, ↓psN, ↓wDIn, ↓wDNotIn, ↓askD, ↓fAdd, ↓fSub, ↓fII, ↓fII0, ↓fDiv, ↓fMod, ↓fPow, ↓fLt, ↓fGt, ↓fLe, ↓fGe, ↓fGtD, ↓fLtD, ↓fLeD, ↓fGeD, ↓fNeg, ↓fMul, ↓fEq, ↓fNe, ↓eqQ, ↓fIsN, ↓fNotN, isNone_1, isNone_2, isNone_3, isNone_4, isNone_5, isNone_6, isNone_7, ↓fInC, ↓fNotInC, ↓fSub_, ↓fIx, ↓fSl, ↓fLen, ↓fTuple, ↓fMin1, ↓fMax1, ↓fSum, ↓fAll, ↓fAny, ↓fSorted, ↓fSortS, ↓fAbs, ↓fInt, ↓fRepr, ↓fCnt, ↓fIdx, ↓fJoin, isStr,
 endsG, mem0, toEnt, Mem.set, Mem.view, Mem.kill, Mem.frz, Mem.ro, Ent.ro', Opd.get,
 List.set_cons_zero, List.set_cons_succ, List.getElem?_cons_zero, List.getElem?_cons_succ, List.map_cons, List.map_nil, List.length_cons, List.length_nil, List.cons_append, List.nil_append, List.replicate_succ, List.replicate_zero, Option.map_some, Option.map_none, List.cons.injEq, and_true, true_and, Arg.x.injEq, exists_eq_left, exists_eq_right, Option.some.injEq, Ent.ow.injEq, Ent.im.injEq, PyData.int.injEq, PyData.list.injEq, PyData.dict.injEq, PyData.tuple.injEq, PyData.str.injEq, exists_eq', exists_eq, decide_eq_true_eq, Bool.not_eq_true', ite_true, ite_false, decide_true, decide_false, decide_eq_false_iff_not, not_true_eq_false, not_false_eq_true, reduceCtorEq, eq_self, S_cps]
    refine ⟨zl _ (by omega), ?_⟩
    rw [cut_lh (by omega) (by omega)]
    have e2 : ((p : Int) + n).toNat - (p : Int).toNat = n := by omega
    rw [e2]
    exact hP
  · rw [rng_map _ (fun p => sD ((l.drop p).take n)) _ fun p _ => rfl]
    have e2 : (List.range (l.length - n + 1)).map (fun p => sD ((l.drop p).take n)) = (wins l n).map sD := by unfold wins; rw [List.map_map]; rfl
    rw [e2]
    simp -dsimp only [↓uSeq, ↓uNext, ↓uKill, ↓uFrz, ↓uDrop, ↓uRet, ↓uIf, ↓uAsg, ↓uAsgO, ↓uPar2, ↓uPut, ↓uDPut, ↓uFor_eq, ↓uWhile_eq, ↓uSeqM_eq, ↓uBrk, ↓uCnt, ↓uWelD, ↓gSet, ↓gN, ↓gC, ↓gT, ↓zE, ↓zF, ↓oE, ↓oV, ↓wV, ↓wC, ↓wOp, ↓wUn, ↓app2, ↓app1, ↓wTst, ↓tAndD, ↓tOrD, ↓tNotD, ↓wAndV, ↓wOrV, ↓wNotV, ↓wIf, ↓wChain, ↓osN, ↓osC, getAll, ↓appN, ↓wCB, ↓appM, ↓wBM, ↓wBM0, ↓wN, ↓wCs, ↓wTup, ↓wLst, ↓wDic0, ↓wDicT, ↓aN, ↓aC, ↓aW, ↓wCall_eq, ↓wCallK_eq, perm, List.filterMap_cons, List.filterMap_nil, ↓wApp, ↓wExt, ↓wPop, ↓wPopAt, ↓wListA, ↓wRpl, ↓iX, ↓iL, ↓iT, ↓iS, ↓iR1, ↓iR2, ↓iScr, ↓iZD, ↓iE, ↓wComp_eq, ↓ttY, ↓wSl, ↓wPart, ↓plN, ↓wRev, ↓wListO, ↓wRep, ↓wLenSet, ↓wLenScr, ↓wWelI, ↓wWelPop, ↓wWelApp, ↓tWelNE, ↓wDisp, ↓psC, ↓psN, ↓wDIn, ↓wDNotIn, ↓askD, ↓fAdd, ↓fSub, ↓fII, ↓fII0, ↓fDiv, ↓fMod, ↓fPow, ↓fLt, ↓fGt, ↓fLe, ↓fGe, ↓fGtD, ↓fLtD, ↓fLeD, ↓fGeD, ↓fNeg, ↓fMul, ↓fEq, ↓fNe, ↓eqQ, ↓fIsN, ↓fNotN, isNone_1, isNone_2, isNone_3, isNone_4, isNone_5, isNone_6, isNone_7, ↓fInC, ↓fNotInC, ↓fSub_, ↓fIx, ↓fSl, ↓fLen, ↓fTuple, ↓fMin1, ↓fMax1, ↓fSum, ↓fAll, ↓fAny, ↓fSorted, ↓fSortS, ↓fAbs, ↓fInt, ↓fRepr, ↓fCnt, ↓fIdx, ↓fJoin, isStr,
 endsG, mem0, toEnt, Mem.set, Mem.view, Mem.kill, Mem.frz, Mem.ro, Ent.ro', Opd.get,
 List.set_cons_zero, List.set_cons_succ, List.getElem?_cons_zero, List.getElem?_cons_succ, List.map_cons, List.map_nil, List.length_cons, List.length_nil, List.cons_append, List.nil_append, List.replicate_succ, List.replicate_zero, Option.map_some, Option.map_none, List.cons.injEq, and_true, true_and, Arg.x.injEq, exists_eq_left, exists_eq_right, Option.some.injEq, Ent.ow.injEq, Ent.im.injEq, PyData.int.injEq, PyData.list.injEq, PyData.dict.injEq, PyData.tuple.injEq, PyData.str.injEq, exists_eq', exists_eq, decide_eq_true_eq, Bool.not_eq_true', ite_true, ite_false, decide_true, decide_false, decide_eq_false_iff_not, not_true_eq_false, not_false_eq_true, reduceCtorEq, eq_self]
    refine each_i ?_ ?_ q
    · unfold wins; rw [List.length_map, List.length_range]; omega
    · intro x hx
      unfold wins at hx
      obtain ⟨p, _, rfl⟩ := List.mem_map.mp hx
      exact ⟨fun c h => hc c (List.mem_of_mem_drop (List.mem_of_mem_take h)), by rw [List.length_take, List.length_drop]; omega⟩
/-! counts_of -/
def cts (l : List Nat) : List Int := [(l.count 97 : Nat), (l.count 98 : Nat), (l.count 99 : Nat), (l.count 100 : Nat)]
def g_counts_of : GSpec := fun args wl Q => ∃ (l : List Nat), args = [.x (sD l)] ∧ Q (.tuple ((cts l).map .int)) wl
theorem counts_i {l : List Nat} {wl : Option Wel} {Q : PyData → Option Wel → Prop} {lk : Lock Q} (q : Q (.tuple ((cts l).map .int)) wl) : callG g_counts_of [.x (sD l)] wl Q lk := ⟨l, rfl, q⟩
def u_counts_of : WS :=
  (uRet (wCB fTuple (osC (oE (wComp [1] (iX (wC (.str "abcd"))) (gSet 1) ttY (wBM isStr fCnt (oV 0) (osC (oV 1) osN)))) osN)))
theorem pf_counts_of (args : List Arg) (wl : Option Wel) (Q : PyData → Option Wel → Prop) (h : g_counts_of args wl Q) : u_counts_of noX (endsG Q) (mem0 2 args wl) := by
  obtain ⟨l, rfl, q⟩ := h
  simp -dsimp only [u_counts_of, ↓uSeq, ↓uNext, ↓uKill, ↓uFrz, ↓uDrop, ↓uRet, ↓uIf, ↓uAsg, ↓uAsgO, ↓uPar2, ↓uPut, ↓uDPut, ↓uFor_eq, ↓uWhile_eq, ↓uSeqM_eq, ↓uBrk, ↓uCnt, ↓uWelD, ↓gSet, ↓gN, ↓gC, ↓gT, ↓zE, ↓zF, ↓oE, ↓oV, ↓wV, ↓wC, ↓wOp, ↓wUn, ↓app2, ↓app1, ↓wTst, ↓tAndD, ↓tOrD, ↓tNotD, ↓wAndV, ↓wOrV, ↓wNotV, ↓wIf, ↓wChain, ↓osN, ↓osC, getAll, ↓appN, ↓wCB, ↓appM, ↓wBM, ↓wBM0, ↓wN, ↓wCs, ↓wTup, ↓wLst, ↓wDic0, ↓wDicT, ↓aN, ↓aC, ↓aW, ↓wCall_eq, ↓wCallK_eq, perm, List.filterMap_cons, List.filterMap_nil, ↓wApp, ↓wExt, ↓wPop, ↓wPopAt, ↓wListA, ↓wRpl, ↓iX, ↓iL, ↓iT, ↓iS, ↓iR1, ↓iR2, ↓iScr, ↓iZD, ↓iE, ↓wComp_eq, ↓ttY, ↓wSl, ↓wPart, ↓plN, ↓wRev, ↓wListO, ↓wRep, ↓wLenSet, ↓wLenScr, ↓wWelI, ↓wWelPop, ↓wWelApp, ↓tWelNE, ↓wDisp, ↓psC, ↓psN, ↓wDIn, ↓wDNotIn, ↓askD, ↓fAdd, ↓fSub, ↓fII, ↓fII0, ↓fDiv, ↓fMod, ↓fPow, ↓fLt, ↓fGt, ↓fLe, ↓fGe, ↓fGtD, ↓fLtD, ↓fLeD, ↓fGeD, ↓fNeg, ↓fMul, ↓fEq, ↓fNe, ↓eqQ, ↓fIsN, ↓fNotN, isNone_1, isNone_2, isNone_3, isNone_4, isNone_5, isNone_6, isNone_7, ↓fInC, ↓fNotInC, ↓fSub_, ↓fIx, ↓fSl, ↓fLen, ↓fTuple, ↓fMin1, ↓fMax1, ↓fSum, ↓fAll, ↓fAny, ↓fSorted, ↓fSortS, ↓fAbs, ↓fInt, ↓fRepr, ↓fCnt, ↓fIdx, ↓fJoin, isStr,
 endsG, mem0, toEnt, Mem.set, Mem.view, Mem.kill, Mem.frz, Mem.ro, Ent.ro', Opd.get,
 List.set_cons_zero, List.set_cons_succ, List.getElem?_cons_zero, List.getElem?_cons_succ, List.map_cons, List.map_nil, List.length_cons, List.length_nil, List.cons_append, List.nil_append, List.replicate_succ, List.replicate_zero, Option.map_some, Option.map_none, List.cons.injEq, and_true, true_and, Arg.x.injEq, exists_eq_left, exists_eq_right, Option.some.injEq, Ent.ow.injEq, Ent.im.injEq, PyData.int.injEq, PyData.list.injEq, PyData.dict.injEq, PyData.tuple.injEq, PyData.str.injEq, exists_eq', exists_eq, decide_eq_true_eq, Bool.not_eq_true', ite_true, ite_false, decide_true, decide_false, decide_eq_false_iff_not, not_true_eq_false, not_false_eq_true, reduceCtorEq, eq_self, k_abcd, S_cps]
  refine ⟨by decide, comp_map (fun d => match d with
    | .str c => .int ((l.count (c.cps.toList.headD 0) : Nat))
    | _ => .none) (fun d hd P hP => ?_) ?_⟩
  · simp only [List.mem_cons, List.not_mem_nil, or_false] at hd
    rcases hd with rfl | rfl | rfl | rfl <;> (simp -dsimp only [↓uSeq, ↓uNext, ↓uKill, ↓uFrz, ↓uDrop, ↓uRet, ↓uIf, ↓uAsg, ↓uAsgO, ↓uPar2, ↓uPut, ↓uDPut, ↓uFor_eq, ↓uWhile_eq, ↓uSeqM_eq, ↓uBrk, ↓uCnt, ↓uWelD, ↓gSet, ↓gN, ↓gC, ↓gT, ↓zE, ↓zF, ↓oE, ↓oV, ↓wV, ↓wC, ↓wOp, ↓wUn, ↓app2, ↓app1, ↓wTst, ↓tAndD, ↓tOrD, ↓tNotD, ↓wAndV, ↓wOrV, ↓wNotV, ↓wIf, ↓wChain, ↓osN, ↓osC, getAll, ↓appN, ↓wCB, ↓appM, ↓wBM, ↓wBM0, ↓wN, ↓wCs, ↓wTup, ↓wLst, ↓wDic0, ↓wDicT, ↓aN, ↓aC, ↓aW, ↓wCall_eq, ↓wCallK_eq, perm, List.filterMap_cons, List.filterMap_nil, ↓wApp, ↓wExt, ↓wPop, ↓wPopAt, ↓wListA, ↓wRpl, ↓iX, ↓iL, ↓iT, ↓iS, ↓iR1, ↓iR2, ↓iScr, ↓iZD, ↓iE, ↓wComp_eq, ↓ttY, ↓wSl, ↓wPart, ↓plN, ↓wRev, ↓wListO, ↓wRep, ↓wLenSet, ↓wLenScr, ↓wWelI, ↓wWelPop, ↓wWelApp, ↓tWelNE, ↓wDisp, ↓psC, ↓psN, ↓wDIn, ↓wDNotIn, ↓askD, ↓fAdd, ↓fSub, ↓fII, ↓fII0, ↓fDiv, ↓fMod, ↓fPow, ↓fLt, ↓fGt, ↓fLe, ↓fGe, ↓fGtD, ↓fLtD, ↓fLeD, ↓fGeD, ↓fNeg, ↓fMul, ↓fEq, ↓fNe, ↓eqQ, ↓fIsN, ↓fNotN, isNone_1, isNone_2, isNone_3, isNone_4, isNone_5, isNone_6, isNone_7, ↓fInC, ↓fNotInC, ↓fSub_, ↓fIx, ↓fSl, ↓fLen, ↓fTuple, ↓fMin1, ↓fMax1, ↓fSum, ↓fAll, ↓fAny, ↓fSorted, ↓fSortS, ↓fAbs, ↓fInt, ↓fRepr, ↓fCnt, ↓fIdx, ↓fJoin, isStr,
 endsG, mem0, toEnt, Mem.set, Mem.view, Mem.kill, Mem.frz, Mem.ro, Ent.ro', Opd.get,
 List.set_cons_zero, List.set_cons_succ, List.getElem?_cons_zero, List.getElem?_cons_succ, List.map_cons, List.map_nil, List.length_cons, List.length_nil, List.cons_append, List.nil_append, List.replicate_succ, List.replicate_zero, Option.map_some, Option.map_none, List.cons.injEq, and_true, true_and, Arg.x.injEq, exists_eq_left, exists_eq_right, Option.some.injEq, Ent.ow.injEq, Ent.im.injEq, PyData.int.injEq, PyData.list.injEq, PyData.dict.injEq, PyData.tuple.injEq, PyData.str.injEq, exists_eq', exists_eq, decide_eq_true_eq, Bool.not_eq_true', ite_true, ite_false, decide_true, decide_false, decide_eq_false_iff_not, not_true_eq_false, not_false_eq_true, reduceCtorEq, eq_self, S_cps]; exact hP)
  · simp -dsimp only [↓uSeq, ↓uNext, ↓uKill, ↓uFrz, ↓uDrop, ↓uRet, ↓uIf, ↓uAsg, ↓uAsgO, ↓uPar2, ↓uPut, ↓uDPut, ↓uFor_eq, ↓uWhile_eq, ↓uSeqM_eq, ↓uBrk, ↓uCnt, ↓uWelD, ↓gSet, ↓gN, ↓gC, ↓gT, ↓zE, ↓zF, ↓oE, ↓oV, ↓wV, ↓wC, ↓wOp, ↓wUn, ↓app2, ↓app1, ↓wTst, ↓tAndD, ↓tOrD, ↓tNotD, ↓wAndV, ↓wOrV, ↓wNotV, ↓wIf, ↓wChain, ↓osN, ↓osC, getAll, ↓appN, ↓wCB, ↓appM, ↓wBM, ↓wBM0, ↓wN, ↓wCs, ↓wTup, ↓wLst, ↓wDic0, ↓wDicT, ↓aN, ↓aC, ↓aW, ↓wCall_eq, ↓wCallK_eq, perm, List.filterMap_cons, List.filterMap_nil, ↓wApp, ↓wExt, ↓wPop, ↓wPopAt, ↓wListA, ↓wRpl, ↓iX, ↓iL, ↓iT, ↓iS, ↓iR1, ↓iR2, ↓iScr, ↓iZD, ↓iE, ↓wComp_eq, ↓ttY, ↓wSl, ↓wPart, ↓plN, ↓wRev, ↓wListO, ↓wRep, ↓wLenSet, ↓wLenScr, ↓wWelI, ↓wWelPop, ↓wWelApp, ↓tWelNE, ↓wDisp, ↓psC, ↓psN, ↓wDIn, ↓wDNotIn, ↓askD, ↓fAdd, ↓fSub, ↓fII, ↓fII0, ↓fDiv, ↓fMod, ↓fPow, ↓fLt, ↓fGt, ↓fLe, ↓fGe, ↓fGtD, ↓fLtD, ↓fLeD, ↓fGeD, ↓fNeg, ↓fMul, ↓fEq, ↓fNe, ↓eqQ, ↓fIsN, ↓fNotN, isNone_1, isNone_2, isNone_3, isNone_4, isNone_5, isNone_6, isNone_7, ↓fInC, ↓fNotInC, ↓fSub_, ↓fIx, ↓fSl, ↓fLen, ↓fTuple, ↓fMin1, ↓fMax1, ↓fSum, ↓fAll, ↓fAny, ↓fSorted, ↓fSortS, ↓fAbs, ↓fInt, ↓fRepr, ↓fCnt, ↓fIdx, ↓fJoin, isStr,
 endsG, mem0, toEnt, Mem.set, Mem.view, Mem.kill, Mem.frz, Mem.ro, Ent.ro', Opd.get,
 List.set_cons_zero, List.set_cons_succ, List.getElem?_cons_zero, List.getElem?_cons_succ, List.map_cons, List.map_nil, List.length_cons, List.length_nil, List.cons_append, List.nil_append, List.replicate_succ, List.replicate_zero, Option.map_some, Option.map_none, List.cons.injEq, and_true, true_and, Arg.x.injEq, exists_eq_left, exists_eq_right, Option.some.injEq, Ent.ow.injEq, Ent.im.injEq, PyData.int.injEq, PyData.list.injEq, PyData.dict.injEq, PyData.tuple.injEq, PyData.str.injEq, exists_eq', exists_eq, decide_eq_true_eq, Bool.not_eq_true', ite_true, ite_false, decide_true, decide_false, decide_eq_false_iff_not, not_true_eq_false, not_false_eq_true, reduceCtorEq, eq_self]
    exact q
/-! the numbers of a -/
def acs (l : List Nat) (n : Nat) : List Int := (wins l n).map fun x => ((x.count 97 : Nat) : Int)
theorem lmin_some {l : List Int} (h : l ≠ []) : ∃ m, lmin l = some m := by
  cases l with
  | nil => exact absurd rfl h
  | cons a r => exact ⟨_, rfl⟩
theorem lmax_some {l : List Int} (h : l ≠ []) : ∃ m, lmax l = some m := by
  cases l with
  | nil => exact absurd rfl h
  | cons a r => exact ⟨_, rfl⟩
theorem lmin_eq {l k : List Int} (h : ∀ x, x ∈ l ↔ x ∈ k) : lmin l = lmin k := by
  cases e : lmin l with
  | none => cases l with
    | nil => cases k with
      | nil => rfl
      | cons a r => have := (h a).mpr List.mem_cons_self; simp at this
    | cons a r => cases e
  | some m =>
    obtain ⟨h1, h2⟩ := lmin_spec e
    obtain ⟨m', e'⟩ := lmin_some (l := k) fun z => by have := (h m).mp h1; rw [z] at this; simp at this
    obtain ⟨h3, h4⟩ := lmin_spec e'
    have a1 := h2 m' ((h m').mpr h3)
    have a2 := h4 m ((h m).mp h1)
    rw [e', show m = m' by omega]
theorem lmax_eq {l k : List Int} (h : ∀ x, x ∈ l ↔ x ∈ k) : lmax l = lmax k := by
  cases e : lmax l with
  | none => cases l with
    | nil => cases k with
      | nil => rfl
      | cons a r => have := (h a).mpr List.mem_cons_self; simp at this
    | cons a r => cases e
  | some m =>
    obtain ⟨h1, h2⟩ := lmax_spec e
    obtain ⟨m', e'⟩ := lmax_some (l := k) fun z => by have := (h m).mp h1; rw [z] at this; simp at this
    obtain ⟨h3, h4⟩ := lmax_spec e'
    have a1 := h2 m' ((h m').mpr h3)
    have a2 := h4 m ((h m).mp h1)
    rw [e', show m = m' by omega]
theorem mem_map_iff {α β : Type} {f : α → β} {l k : List α} (h : ∀ x, x ∈ l ↔ x ∈ k) (y : β) : y ∈ l.map f ↔ y ∈ k.map f := by
  rw [List.mem_map, List.mem_map]
  exact ⟨fun ⟨x, a, b⟩ => ⟨x, (h x).mp a, b⟩, fun ⟨x, a, b⟩ => ⟨x, (h x).mpr a, b⟩⟩
theorem wins_ne (l : List Nat) (n : Nat) : wins l n ≠ [] := by unfold wins; simp
def g_spread : GSpec := fun args wl Q => ∃ (l : List Nat) (n : Nat), args = [.x (sD l), .x (.int (n : Nat))] ∧ n ≤ l.length ∧ l.length ≤ 62 ∧ (∀ c ∈ l, c < 1000) ∧ ∀ a b, lmin (acs l n) = some a → lmax (acs l n) = some b → Q (.tuple [.int a, .int b]) wl
theorem spread_i {l : List Nat} {n : Nat} {wl : Option Wel} {Q : PyData → Option Wel → Prop} {lk : Lock Q} (h : n ≤ l.length) (h2 : l.length ≤ 62) (h3 : ∀ c ∈ l, c < 1000) (q : ∀ a b, lmin (acs l n) = some a → lmax (acs l n) = some b → Q (.tuple [.int a, .int b]) wl) :
    callG g_spread [.x (sD l), .x (.int (n : Nat))] wl Q lk := ⟨l, n, rfl, h, h2, h3, q⟩
def u_spread : WS :=
  (uSeq (uAsgO (wComp [3] (iX (wCall g_pieces_of (aC (wV 0) (aC (wV 1) aN)))) (gSet 3) ttY (wBM isStr fCnt (oV 3) (osC (oE (wC (.str "a"))) osN))) 2)
  (uRet (wTup (wCs (wCB fMin1 (osC (oV 2) osN)) (wCs (wCB fMax1 (osC (oV 2) osN)) wN)))))
theorem wins_len (l : List Nat) (n : Nat) : (wins l n).length = l.length - n + 1 := by unfold wins; simp
theorem es_len {es ws : List (List Nat)} (h1 : es.Pairwise (· < ·)) (h2 : ∀ x, x ∈ es ↔ x ∈ ws) : es.length ≤ ws.length :=
  sub_len es ws (h1.imp fun h e => by subst e; exact List.lt_irrefl _ h) fun x hx => (h2 x).mp hx
theorem pf_spread (args : List Arg) (wl : Option Wel) (Q : PyData → Option Wel → Prop) (h : g_spread args wl Q) : u_spread noX (endsG Q) (mem0 4 args wl) := by
  obtain ⟨l, n, rfl, hn, hl, hc, q⟩ := h
  simp -dsimp only [u_spread, ↓uSeq, ↓uNext, ↓uKill, ↓uFrz, ↓uDrop, ↓uRet, ↓uIf, ↓uAsg, ↓uAsgO, ↓uPar2, ↓uPut, ↓uDPut, ↓uFor_eq, ↓uWhile_eq, ↓uSeqM_eq, ↓uBrk, ↓uCnt, ↓uWelD, ↓gSet, ↓gN, ↓gC, ↓gT, ↓zE, ↓zF, ↓oE, ↓oV, ↓wV, ↓wC, ↓wOp, ↓wUn, ↓app2, ↓app1, ↓wTst, ↓tAndD, ↓tOrD, ↓tNotD, ↓wAndV, ↓wOrV, ↓wNotV, ↓wIf, ↓wChain, ↓osN, ↓osC, getAll, ↓appN, ↓wCB, ↓appM, ↓wBM, ↓wBM0, ↓wN, ↓wCs, ↓wTup, ↓wLst, ↓wDic0, ↓wDicT, ↓aN, ↓aC, ↓aW, ↓wCall_eq, ↓wCallK_eq, perm, List.filterMap_cons, List.filterMap_nil, ↓wApp, ↓wExt, ↓wPop, ↓wPopAt, ↓wListA, ↓wRpl, ↓iX, ↓iL, ↓iT, ↓iS, ↓iR1, ↓iR2, ↓iScr, ↓iZD, ↓iE, ↓wComp_eq, ↓ttY, ↓wSl, ↓wPart, ↓plN, ↓wRev, ↓wListO, ↓wRep, ↓wLenSet, ↓wLenScr, ↓wWelI, ↓wWelPop, ↓wWelApp, ↓tWelNE, ↓wDisp, ↓psC, ↓psN, ↓wDIn, ↓wDNotIn, ↓askD, ↓fAdd, ↓fSub, ↓fII, ↓fII0, ↓fDiv, ↓fMod, ↓fPow, ↓fLt, ↓fGt, ↓fLe, ↓fGe, ↓fGtD, ↓fLtD, ↓fLeD, ↓fGeD, ↓fNeg, ↓fMul, ↓fEq, ↓fNe, ↓eqQ, ↓fIsN, ↓fNotN, isNone_1, isNone_2, isNone_3, isNone_4, isNone_5, isNone_6, isNone_7, ↓fInC, ↓fNotInC, ↓fSub_, ↓fIx, ↓fSl, ↓fLen, ↓fTuple, ↓fMin1, ↓fMax1, ↓fSum, ↓fAll, ↓fAny, ↓fSorted, ↓fSortS, ↓fAbs, ↓fInt, ↓fRepr, ↓fCnt, ↓fIdx, ↓fJoin, isStr,
 endsG, mem0, toEnt, Mem.set, Mem.view, Mem.kill, Mem.frz, Mem.ro, Ent.ro', Opd.get,
 List.set_cons_zero, List.set_cons_succ, List.getElem?_cons_zero, List.getElem?_cons_succ, List.map_cons, List.map_nil, List.length_cons, List.length_nil, List.cons_append, List.nil_append, List.replicate_succ, List.replicate_zero, Option.map_some, Option.map_none, List.cons.injEq, and_true, true_and, Arg.x.injEq, exists_eq_left, exists_eq_right, Option.some.injEq, Ent.ow.injEq, Ent.im.injEq, PyData.int.injEq, PyData.list.injEq, PyData.dict.injEq, PyData.tuple.injEq, PyData.str.injEq, exists_eq', exists_eq, decide_eq_true_eq, Bool.not_eq_true', ite_true, ite_false, decide_true, decide_false, decide_eq_false_iff_not, not_true_eq_false, not_false_eq_true, reduceCtorEq, eq_self]
  refine pieces_i hn hl hc fun es h1 h2 => ?_
  have hlen := es_len h1 h2
  rw [wins_len] at hlen
  simp -dsimp only [↓uSeq, ↓uNext, ↓uKill, ↓uFrz, ↓uDrop, ↓uRet, ↓uIf, ↓uAsg, ↓uAsgO, ↓uPar2, ↓uPut, ↓uDPut, ↓uFor_eq, ↓uWhile_eq, ↓uSeqM_eq, ↓uBrk, ↓uCnt, ↓uWelD, ↓gSet, ↓gN, ↓gC, ↓gT, ↓zE, ↓zF, ↓oE, ↓oV, ↓wV, ↓wC, ↓wOp, ↓wUn, ↓app2, ↓app1, ↓wTst, ↓tAndD, ↓tOrD, ↓tNotD, ↓wAndV, ↓wOrV, ↓wNotV, ↓wIf, ↓wChain, ↓osN, ↓osC, getAll, ↓appN, ↓wCB, ↓appM, ↓wBM, ↓wBM0, ↓wN, ↓wCs, ↓wTup, ↓wLst, ↓wDic0, ↓wDicT, ↓aN, ↓aC, ↓aW, ↓wCall_eq, ↓wCallK_eq, perm, List.filterMap_cons, List.filterMap_nil, ↓wApp, ↓wExt, ↓wPop, ↓wPopAt, ↓wListA, ↓wRpl, ↓iX, ↓iL, ↓iT, ↓iS, ↓iR1, ↓iR2, ↓iScr, ↓iZD, ↓iE, ↓wComp_eq, ↓ttY, ↓wSl, ↓wPart, ↓plN, ↓wRev, ↓wListO, ↓wRep, ↓wLenSet, ↓wLenScr, ↓wWelI, ↓wWelPop, ↓wWelApp, ↓tWelNE, ↓wDisp, ↓psC, ↓psN, ↓wDIn, ↓wDNotIn, ↓askD, ↓fAdd, ↓fSub, ↓fII, ↓fII0, ↓fDiv, ↓fMod, ↓fPow, ↓fLt, ↓fGt, ↓fLe, ↓fGe, ↓fGtD, ↓fLtD, ↓fLeD, ↓fGeD, ↓fNeg, ↓fMul, ↓fEq, ↓fNe, ↓eqQ, ↓fIsN, ↓fNotN, isNone_1, isNone_2, isNone_3, isNone_4, isNone_5, isNone_6, isNone_7, ↓fInC, ↓fNotInC, ↓fSub_, ↓fIx, ↓fSl, ↓fLen, ↓fTuple, ↓fMin1, ↓fMax1, ↓fSum, ↓fAll, ↓fAny, ↓fSorted, ↓fSortS, ↓fAbs, ↓fInt, ↓fRepr, ↓fCnt, ↓fIdx, ↓fJoin, isStr,
 endsG, mem0, toEnt, Mem.set, Mem.view, Mem.kill, Mem.frz, Mem.ro, Ent.ro', Opd.get,
 List.set_cons_zero, List.set_cons_succ, List.getElem?_cons_zero, List.getElem?_cons_succ, List.map_cons, List.map_nil, List.length_cons, List.length_nil, List.cons_append, List.nil_append, List.replicate_succ, List.replicate_zero, Option.map_some, Option.map_none, List.cons.injEq, and_true, true_and, Arg.x.injEq, exists_eq_left, exists_eq_right, Option.some.injEq, Ent.ow.injEq, Ent.im.injEq, PyData.int.injEq, PyData.list.injEq, PyData.dict.injEq, PyData.tuple.injEq, PyData.str.injEq, exists_eq', exists_eq, decide_eq_true_eq, Bool.not_eq_true', ite_true, ite_false, decide_true, decide_false, decide_eq_false_iff_not, not_true_eq_false, not_false_eq_true, reduceCtorEq, eq_self]
  refine ⟨by rw [List.length_map]; exact zl _ (by omega), comp_map (fun d => match d with
    | .str x => .int ((x.cps.toList.count 97 : Nat))
    | _ => .none) (fun d hd P hP => ?_) ?_⟩
  · obtain ⟨x, hx, rfl⟩ := List.mem_map.mp hd
    simp -dsimp only [↓uSeq, ↓uNext, ↓uKill, ↓uFrz, ↓uDrop, ↓uRet, ↓uIf, ↓uAsg, ↓uAsgO, ↓uPar2, ↓uPut, ↓uDPut, ↓uFor_eq, ↓uWhile_eq, ↓uSeqM_eq, ↓uBrk, ↓uCnt, ↓uWelD, ↓gSet, ↓gN, ↓gC, ↓gT, ↓zE, ↓zF, ↓oE, ↓oV, ↓wV, ↓wC, ↓wOp, ↓wUn, ↓app2, ↓app1, ↓wTst, ↓tAndD, ↓tOrD, ↓tNotD, ↓wAndV, ↓wOrV, ↓wNotV, ↓wIf, ↓wChain, ↓osN, ↓osC, getAll, ↓appN, ↓wCB, ↓appM, ↓wBM, ↓wBM0, ↓wN, ↓wCs, ↓wTup, ↓wLst, ↓wDic0, ↓wDicT, ↓aN, ↓aC, ↓aW, ↓wCall_eq, ↓wCallK_eq, perm, List.filterMap_cons, List.filterMap_nil, ↓wApp, ↓wExt, ↓wPop, ↓wPopAt, ↓wListA, ↓wRpl, ↓iX, ↓iL, ↓iT, ↓iS, ↓iR1, ↓iR2, ↓iScr, ↓iZD, ↓iE, ↓wComp_eq, ↓ttY, ↓wSl, ↓wPart, ↓plN, ↓wRev, ↓wListO, ↓wRep, ↓wLenSet, ↓wLenScr, ↓wWelI, ↓wWelPop, ↓wWelApp, ↓tWelNE, ↓wDisp, ↓psC, ↓psN, ↓wDIn, ↓wDNotIn, ↓askD, ↓fAdd, ↓fSub, ↓fII, ↓fII0, ↓fDiv, ↓fMod, ↓fPow, ↓fLt, ↓fGt, ↓fLe, ↓fGe, ↓fGtD, ↓fLtD, ↓fLeD, ↓fGeD, ↓fNeg, ↓fMul, ↓fEq, ↓fNe, ↓eqQ, ↓fIsN, ↓fNotN, isNone_1, isNone_2, isNone_3, isNone_4, isNone_5, isNone_6, isNone_7, ↓fInC, ↓fNotInC, ↓fSub_, ↓fIx, ↓fSl, ↓fLen, ↓fTuple, ↓fMin1, ↓fMax1, ↓fSum, ↓fAll, ↓fAny, ↓fSorted, ↓fSortS, ↓fAbs, ↓fInt, ↓fRepr, ↓fCnt, ↓fIdx, ↓fJoin, isStr,
 endsG, mem0, toEnt, Mem.set, Mem.view, Mem.kill, Mem.frz, Mem.ro, Ent.ro', Opd.get,
 List.set_cons_zero, List.set_cons_succ, List.getElem?_cons_zero, List.getElem?_cons_succ, List.map_cons, List.map_nil, List.length_cons, List.length_nil, List.cons_append, List.nil_append, List.replicate_succ, List.replicate_zero, Option.map_some, Option.map_none, List.cons.injEq, and_true, true_and, Arg.x.injEq, exists_eq_left, exists_eq_right, Option.some.injEq, Ent.ow.injEq, Ent.im.injEq, PyData.int.injEq, PyData.list.injEq, PyData.dict.injEq, PyData.tuple.injEq, PyData.str.injEq, exists_eq', exists_eq, decide_eq_true_eq, Bool.not_eq_true', ite_true, ite_false, decide_true, decide_false, decide_eq_false_iff_not, not_true_eq_false, not_false_eq_true, reduceCtorEq, eq_self, k_a, S_cps]
    exact hP
  · rw [List.map_map]
    have e : intsOf (es.map ((fun d => match d with
      | .str x => .int ((x.cps.toList.count 97 : Nat))
      | _ => .none) ∘ sD)) = some (es.map fun x => ((x.count 97 : Nat) : Int)) := intsOf_f _ es
    have m1 : lmin (es.map fun x => ((x.count 97 : Nat) : Int)) = lmin (acs l n) := lmin_eq (mem_map_iff h2)
    have m2 : lmax (es.map fun x => ((x.count 97 : Nat) : Int)) = lmax (acs l n) := lmax_eq (mem_map_iff h2)
    obtain ⟨a, ha⟩ := lmin_some (l := acs l n) (by unfold acs; simp [wins_ne])
    obtain ⟨b, hb⟩ := lmax_some (l := acs l n) (by unfold acs; simp [wins_ne])
    simp -dsimp only [↓uSeq, ↓uNext, ↓uKill, ↓uFrz, ↓uDrop, ↓uRet, ↓uIf, ↓uAsg, ↓uAsgO, ↓uPar2, ↓uPut, ↓uDPut, ↓uFor_eq, ↓uWhile_eq, ↓uSeqM_eq, ↓uBrk, ↓uCnt, ↓uWelD, ↓gSet, ↓gN, ↓gC, ↓gT, ↓zE, ↓zF, ↓oE, ↓oV, ↓wV, ↓wC, ↓wOp, ↓wUn, ↓app2, ↓app1, ↓wTst, ↓tAndD, ↓tOrD, ↓tNotD, ↓wAndV, ↓wOrV, ↓wNotV, ↓wIf, ↓wChain, ↓osN, ↓osC, getAll, ↓appN, ↓wCB, ↓appM, ↓wBM, ↓wBM0, ↓wN, ↓wCs, ↓wTup, ↓wLst, ↓wDic0, ↓wDicT, ↓aN, ↓aC, ↓aW, ↓wCall_eq, ↓wCallK_eq, perm, List.filterMap_cons, List.filterMap_nil, ↓wApp, ↓wExt, ↓wPop, ↓wPopAt, ↓wListA, ↓wRpl, ↓iX, ↓iL, ↓iT, ↓iS, ↓iR1, ↓iR2, ↓iScr, ↓iZD, ↓iE, ↓wComp_eq, ↓ttY, ↓wSl, ↓wPart, ↓plN, ↓wRev, ↓wListO, ↓wRep, ↓wLenSet, ↓wLenScr, ↓wWelI, ↓wWelPop, ↓wWelApp, ↓tWelNE, ↓wDisp, ↓psC, ↓psN, ↓wDIn, ↓wDNotIn, ↓askD, ↓fAdd, ↓fSub, ↓fII, ↓fII0, ↓fDiv, ↓fMod, ↓fPow, ↓fLt, ↓fGt, ↓fLe, ↓fGe, ↓fGtD, ↓fLtD, ↓fLeD, ↓fGeD, ↓fNeg, ↓fMul, ↓fEq, ↓fNe, ↓eqQ, ↓fIsN, ↓fNotN, isNone_1, isNone_2, isNone_3, isNone_4, isNone_5, isNone_6, isNone_7, ↓fInC, ↓fNotInC, ↓fSub_, ↓fIx, ↓fSl, ↓fLen, ↓fTuple, ↓fMin1, ↓fMax1, ↓fSum, ↓fAll, ↓fAny, ↓fSorted, ↓fSortS, ↓fAbs, ↓fInt, ↓fRepr, ↓fCnt, ↓fIdx, ↓fJoin, isStr,
 endsG, mem0, toEnt, Mem.set, Mem.view, Mem.kill, Mem.frz, Mem.ro, Ent.ro', Opd.get,
 List.set_cons_zero, List.set_cons_succ, List.getElem?_cons_zero, List.getElem?_cons_succ, List.map_cons, List.map_nil, List.length_cons, List.length_nil, List.cons_append, List.nil_append, List.replicate_succ, List.replicate_zero, Option.map_some, Option.map_none, List.cons.injEq, and_true, true_and, Arg.x.injEq, exists_eq_left, exists_eq_right, Option.some.injEq, Ent.ow.injEq, Ent.im.injEq, PyData.int.injEq, PyData.list.injEq, PyData.dict.injEq, PyData.tuple.injEq, PyData.str.injEq, exists_eq', exists_eq, decide_eq_true_eq, Bool.not_eq_true', ite_true, ite_false, decide_true, decide_false, decide_eq_false_iff_not, not_true_eq_false, not_false_eq_true, reduceCtorEq, eq_self, e, m1, m2, ha, hb]
    exact ⟨by decide, q a b ha hb⟩
/-! count_row -/
def dcount (l : List Nat) (n : Nat) : Nat := (distinct ((wins l n).map cts)).length
def crow (l : List Nat) : List Int := (List.range (l.length + 1)).map fun n => ((dcount l n : Nat) : Int)
def g_count_row : GSpec := fun args wl Q => ∃ (l : List Nat), args = [.x (sD l)] ∧ l.length ≤ 62 ∧ (∀ c ∈ l, c < 1000) ∧ Q (.tuple ((crow l).map .int)) wl
theorem crow_i {l : List Nat} {wl : Option Wel} {Q : PyData → Option Wel → Prop} {lk : Lock Q} (h2 : l.length ≤ 62) (h3 : ∀ c ∈ l, c < 1000) (q : Q (.tuple ((crow l).map .int)) wl) : callG g_count_row [.x (sD l)] wl Q lk := ⟨l, rfl, h2, h3, q⟩
def u_count_row : WS :=
  (uSeq (uAsgO (wLst wN) 1)
  (uSeq (uFor [2] (iR1 (osC (oE (wOp fAdd (oE (wCB fLen (osC (oV 0) osN))) (oE (wC (.int 1))))) osN)) (gSet 2)
  (uDrop (wApp 1 (wLenSet (oE (wComp [3] (iX (wCall g_pieces_of (aC (wV 0) (aC (wV 2) aN)))) (gSet 3) ttY (wCall g_counts_of (aC (wV 3) aN))))))))
  (uRet (wCB fTuple (osC (oV 1) osN)))))
theorem distinct_len {α : Type} [DecidableEq α] {l k : List α} (h : ∀ x, x ∈ l ↔ x ∈ k) : (distinct l).length = (distinct k).length :=
  Nat.le_antisymm (sub_len _ _ (nodup_distinct l) fun x hx => mem_distinct.mpr ((h x).mp (mem_distinct.mp hx))) (sub_len _ _ (nodup_distinct k) fun x hx => mem_distinct.mpr ((h x).mpr (mem_distinct.mp hx)))
theorem pf_count_row (args : List Arg) (wl : Option Wel) (Q : PyData → Option Wel → Prop) (h : g_count_row args wl Q) : u_count_row noX (endsG Q) (mem0 4 args wl) := by
  obtain ⟨l, rfl, hl, hc, q⟩ := h
  simp -dsimp only [u_count_row, ↓uSeq, ↓uNext, ↓uKill, ↓uFrz, ↓uDrop, ↓uRet, ↓uIf, ↓uAsg, ↓uAsgO, ↓uPar2, ↓uPut, ↓uDPut, ↓uFor_eq, ↓uWhile_eq, ↓uSeqM_eq, ↓uBrk, ↓uCnt, ↓uWelD, ↓gSet, ↓gN, ↓gC, ↓gT, ↓zE, ↓zF, ↓oE, ↓oV, ↓wV, ↓wC, ↓wOp, ↓wUn, ↓app2, ↓app1, ↓wTst, ↓tAndD, ↓tOrD, ↓tNotD, ↓wAndV, ↓wOrV, ↓wNotV, ↓wIf, ↓wChain, ↓osN, ↓osC, getAll, ↓appN, ↓wCB, ↓appM, ↓wBM, ↓wBM0, ↓wN, ↓wCs, ↓wTup, ↓wLst, ↓wDic0, ↓wDicT, ↓aN, ↓aC, ↓aW, ↓wCall_eq, ↓wCallK_eq, perm, List.filterMap_cons, List.filterMap_nil, ↓wApp, ↓wExt, ↓wPop, ↓wPopAt, ↓wListA, ↓wRpl, ↓iX, ↓iL, ↓iT, ↓iS, ↓iR1, ↓iR2, ↓iScr, ↓iZD, ↓iE, ↓wComp_eq, ↓ttY, ↓wSl, ↓wPart, ↓plN, ↓wRev, ↓wListO, ↓wRep, ↓wLenSet, ↓wLenScr, ↓wWelI, ↓wWelPop, ↓wWelApp, ↓tWelNE, ↓wDisp, ↓psC, ↓psN, ↓wDIn, ↓wDNotIn, ↓askD, ↓fAdd, ↓fSub, ↓fII, ↓fII0, ↓fDiv, ↓fMod, ↓fPow, ↓fLt, ↓fGt, ↓fLe, ↓fGe, ↓fGtD, ↓fLtD, ↓fLeD, ↓fGeD, ↓fNeg, ↓fMul, ↓fEq, ↓fNe, ↓eqQ, ↓fIsN, ↓fNotN, isNone_1, isNone_2, isNone_3, isNone_4, isNone_5, isNone_6, isNone_7, ↓fInC, ↓fNotInC, ↓fSub_, ↓fIx, ↓fSl, ↓fLen, ↓fTuple, ↓fMin1, ↓fMax1, ↓fSum, ↓fAll, ↓fAny, ↓fSorted, ↓fSortS, ↓fAbs, ↓fInt, ↓fRepr, ↓fCnt, ↓fIdx, ↓fJoin, isStr,
 endsG, mem0, toEnt, Mem.set, Mem.view, Mem.kill, Mem.frz, Mem.ro, Ent.ro', Opd.get,
 List.set_cons_zero, List.set_cons_succ, List.getElem?_cons_zero, List.getElem?_cons_succ, List.map_cons, List.map_nil, List.length_cons, List.length_nil, List.cons_append, List.nil_append, List.replicate_succ, List.replicate_zero, Option.map_some, Option.map_none, List.cons.injEq, and_true, true_and, Arg.x.injEq, exists_eq_left, exists_eq_right, Option.some.injEq, Ent.ow.injEq, Ent.im.injEq, PyData.int.injEq, PyData.list.injEq, PyData.dict.injEq, PyData.tuple.injEq, PyData.str.injEq, exists_eq', exists_eq, decide_eq_true_eq, Bool.not_eq_true', ite_true, ite_false, decide_true, decide_false, decide_eq_false_iff_not, not_true_eq_false, not_false_eq_true, reduceCtorEq, eq_self, S_cps]
  have e1 : ((l.length : Int) + 1).toNat = l.length + 1 := by omega
  rw [e1]
  refine ⟨by decide, zl _ (by omega), ⟨by omega, by omega⟩, ?_⟩
  refine for_i (fun i M => ∃ e2 : Option Ent, M = ⟨[some (.im (sD l)), some (.ow (.list (((List.range i).map fun n => ((dcount l n : Nat) : Int)).map .int))), e2, none], wl⟩) ⟨none, rfl⟩ ?_ ?_
  · rintro i d M' hd ⟨e2, rfl⟩
    obtain ⟨n, hn, rfl⟩ := mem_rng (List.mem_of_getElem? hd)
    have hni : n = i := by
      unfold rng at hd
      rw [List.getElem?_map] at hd
      obtain ⟨z, hz, e⟩ := Option.map_eq_some_iff.mp hd
      have := (List.getElem?_eq_some_iff.mp hz).2
      simp at this e
      omega
    subst hni
    simp -dsimp only [↓uSeq, ↓uNext, ↓uKill, ↓uFrz, ↓uDrop, ↓uRet, ↓uIf, ↓uAsg, ↓uAsgO, ↓uPar2, ↓uPut, ↓uDPut, ↓uFor_eq, ↓uWhile_eq, ↓uSeqM_eq, ↓uBrk, ↓uCnt, ↓uWelD, ↓gSet, ↓gN, ↓gC, ↓gT, ↓zE, ↓zF, ↓oE, ↓oV, ↓wV, ↓wC, ↓wOp, ↓wUn, ↓app2, ↓app1, ↓wTst, ↓tAndD, ↓tOrD, ↓tNotD, ↓wAndV, ↓wOrV, ↓wNotV, ↓wIf, ↓wChain, ↓osN, ↓osC, getAll, ↓appN, ↓wCB, ↓appM, ↓wBM, ↓wBM0, ↓wN, ↓wCs, ↓wTup, ↓wLst, ↓wDic0, ↓wDicT, ↓aN, ↓aC, ↓aW, ↓wCall_eq, ↓wCallK_eq, perm, List.filterMap_cons, List.filterMap_nil, ↓wApp, ↓wExt, ↓wPop, ↓wPopAt, ↓wListA, ↓wRpl, ↓iX, ↓iL, ↓iT, ↓iS, ↓iR1, ↓iR2, ↓iScr, ↓iZD, ↓iE, ↓wComp_eq, ↓ttY, ↓wSl, ↓wPart, ↓plN, ↓wRev, ↓wListO, ↓wRep, ↓wLenSet, ↓wLenScr, ↓wWelI, ↓wWelPop, ↓wWelApp, ↓tWelNE, ↓wDisp, ↓psC, ↓psN, ↓wDIn, ↓wDNotIn, ↓askD, ↓fAdd, ↓fSub, ↓fII, ↓fII0, ↓fDiv, ↓fMod, ↓fPow, ↓fLt, ↓fGt, ↓fLe, ↓fGe, ↓fGtD, ↓fLtD, ↓fLeD, ↓fGeD, ↓fNeg, ↓fMul, ↓fEq, ↓fNe, ↓eqQ, ↓fIsN, ↓fNotN, isNone_1, isNone_2, isNone_3, isNone_4, isNone_5, isNone_6, isNone_7, ↓fInC, ↓fNotInC, ↓fSub_, ↓fIx, ↓fSl, ↓fLen, ↓fTuple, ↓fMin1, ↓fMax1, ↓fSum, ↓fAll, ↓fAny, ↓fSorted, ↓fSortS, ↓fAbs, ↓fInt, ↓fRepr, ↓fCnt, ↓fIdx, ↓fJoin, isStr,
 endsG, mem0, toEnt, Mem.set, Mem.view, Mem.kill, Mem.frz, Mem.ro, Ent.ro', Opd.get,
 List.set_cons_zero, List.set_cons_succ, List.getElem?_cons_zero, List.getElem?_cons_succ, List.map_cons, List.map_nil, List.length_cons, List.length_nil, List.cons_append, List.nil_append, List.replicate_succ, List.replicate_zero, Option.map_some, Option.map_none, List.cons.injEq, and_true, true_and, Arg.x.injEq, exists_eq_left, exists_eq_right, Option.some.injEq, Ent.ow.injEq, Ent.im.injEq, PyData.int.injEq, PyData.list.injEq, PyData.dict.injEq, PyData.tuple.injEq, PyData.str.injEq, exists_eq', exists_eq, decide_eq_true_eq, Bool.not_eq_true', ite_true, ite_false, decide_true, decide_false, decide_eq_false_iff_not, not_true_eq_false, not_false_eq_true, reduceCtorEq, eq_self]
    refine pieces_i (by omega) hl hc fun es h1 h2 => ?_
    have hlen := es_len h1 h2
    rw [wins_len] at hlen
    simp -dsimp only [↓uSeq, ↓uNext, ↓uKill, ↓uFrz, ↓uDrop, ↓uRet, ↓uIf, ↓uAsg, ↓uAsgO, ↓uPar2, ↓uPut, ↓uDPut, ↓uFor_eq, ↓uWhile_eq, ↓uSeqM_eq, ↓uBrk, ↓uCnt, ↓uWelD, ↓gSet, ↓gN, ↓gC, ↓gT, ↓zE, ↓zF, ↓oE, ↓oV, ↓wV, ↓wC, ↓wOp, ↓wUn, ↓app2, ↓app1, ↓wTst, ↓tAndD, ↓tOrD, ↓tNotD, ↓wAndV, ↓wOrV, ↓wNotV, ↓wIf, ↓wChain, ↓osN, ↓osC, getAll, ↓appN, ↓wCB, ↓appM, ↓wBM, ↓wBM0, ↓wN, ↓wCs, ↓wTup, ↓wLst, ↓wDic0, ↓wDicT, ↓aN, ↓aC, ↓aW, ↓wCall_eq, ↓wCallK_eq, perm, List.filterMap_cons, List.filterMap_nil, ↓wApp, ↓wExt, ↓wPop, ↓wPopAt, ↓wListA, ↓wRpl, ↓iX, ↓iL, ↓iT, ↓iS, ↓iR1, ↓iR2, ↓iScr, ↓iZD, ↓iE, ↓wComp_eq, ↓ttY, ↓wSl, ↓wPart, ↓plN, ↓wRev, ↓wListO, ↓wRep, ↓wLenSet, ↓wLenScr, ↓wWelI, ↓wWelPop, ↓wWelApp, ↓tWelNE, ↓wDisp, ↓psC, ↓psN, ↓wDIn, ↓wDNotIn, ↓askD, ↓fAdd, ↓fSub, ↓fII, ↓fII0, ↓fDiv, ↓fMod, ↓fPow, ↓fLt, ↓fGt, ↓fLe, ↓fGe, ↓fGtD, ↓fLtD, ↓fLeD, ↓fGeD, ↓fNeg, ↓fMul, ↓fEq, ↓fNe, ↓eqQ, ↓fIsN, ↓fNotN, isNone_1, isNone_2, isNone_3, isNone_4, isNone_5, isNone_6, isNone_7, ↓fInC, ↓fNotInC, ↓fSub_, ↓fIx, ↓fSl, ↓fLen, ↓fTuple, ↓fMin1, ↓fMax1, ↓fSum, ↓fAll, ↓fAny, ↓fSorted, ↓fSortS, ↓fAbs, ↓fInt, ↓fRepr, ↓fCnt, ↓fIdx, ↓fJoin, isStr,
 endsG, mem0, toEnt, Mem.set, Mem.view, Mem.kill, Mem.frz, Mem.ro, Ent.ro', Opd.get,
 List.set_cons_zero, List.set_cons_succ, List.getElem?_cons_zero, List.getElem?_cons_succ, List.map_cons, List.map_nil, List.length_cons, List.length_nil, List.cons_append, List.nil_append, List.replicate_succ, List.replicate_zero, Option.map_some, Option.map_none, List.cons.injEq, and_true, true_and, Arg.x.injEq, exists_eq_left, exists_eq_right, Option.some.injEq, Ent.ow.injEq, Ent.im.injEq, PyData.int.injEq, PyData.list.injEq, PyData.dict.injEq, PyData.tuple.injEq, PyData.str.injEq, exists_eq', exists_eq, decide_eq_true_eq, Bool.not_eq_true', ite_true, ite_false, decide_true, decide_false, decide_eq_false_iff_not, not_true_eq_false, not_false_eq_true, reduceCtorEq, eq_self]
    refine ⟨by rw [List.length_map]; exact zl _ (by omega), comp_map (fun d => match d with
      | .str x => .tuple ((cts x.cps.toList).map .int)
      | _ => .none) (fun d hd P hP => ?_) ?_⟩
    · obtain ⟨x, hx, rfl⟩ := List.mem_map.mp hd
      simp -dsimp only [↓uSeq, ↓uNext, ↓uKill, ↓uFrz, ↓uDrop, ↓uRet, ↓uIf, ↓uAsg, ↓uAsgO, ↓uPar2, ↓uPut, ↓uDPut, ↓uFor_eq, ↓uWhile_eq, ↓uSeqM_eq, ↓uBrk, ↓uCnt, ↓uWelD, ↓gSet, ↓gN, ↓gC, ↓gT, ↓zE, ↓zF, ↓oE, ↓oV, ↓wV, ↓wC, ↓wOp, ↓wUn, ↓app2, ↓app1, ↓wTst, ↓tAndD, ↓tOrD, ↓tNotD, ↓wAndV, ↓wOrV, ↓wNotV, ↓wIf, ↓wChain, ↓osN, ↓osC, getAll, ↓appN, ↓wCB, ↓appM, ↓wBM, ↓wBM0, ↓wN, ↓wCs, ↓wTup, ↓wLst, ↓wDic0, ↓wDicT, ↓aN, ↓aC, ↓aW, ↓wCall_eq, ↓wCallK_eq, perm, List.filterMap_cons, List.filterMap_nil, ↓wApp, ↓wExt, ↓wPop, ↓wPopAt, ↓wListA, ↓wRpl, ↓iX, ↓iL, ↓iT, ↓iS, ↓iR1, ↓iR2, ↓iScr, ↓iZD, ↓iE, ↓wComp_eq, ↓ttY, ↓wSl, ↓wPart, ↓plN, ↓wRev, ↓wListO, ↓wRep, ↓wLenSet, ↓wLenScr, ↓wWelI, ↓wWelPop, ↓wWelApp, ↓tWelNE, ↓wDisp, ↓psC, ↓psN, ↓wDIn, ↓wDNotIn, ↓askD, ↓fAdd, ↓fSub, ↓fII, ↓fII0, ↓fDiv, ↓fMod, ↓fPow, ↓fLt, ↓fGt, ↓fLe, ↓fGe, ↓fGtD, ↓fLtD, ↓fLeD, ↓fGeD, ↓fNeg, ↓fMul, ↓fEq, ↓fNe, ↓eqQ, ↓fIsN, ↓fNotN, isNone_1, isNone_2, isNone_3, isNone_4, isNone_5, isNone_6, isNone_7, ↓fInC, ↓fNotInC, ↓fSub_, ↓fIx, ↓fSl, ↓fLen, ↓fTuple, ↓fMin1, ↓fMax1, ↓fSum, ↓fAll, ↓fAny, ↓fSorted, ↓fSortS, ↓fAbs, ↓fInt, ↓fRepr, ↓fCnt, ↓fIdx, ↓fJoin, isStr,
 endsG, mem0, toEnt, Mem.set, Mem.view, Mem.kill, Mem.frz, Mem.ro, Ent.ro', Opd.get,
 List.set_cons_zero, List.set_cons_succ, List.getElem?_cons_zero, List.getElem?_cons_succ, List.map_cons, List.map_nil, List.length_cons, List.length_nil, List.cons_append, List.nil_append, List.replicate_succ, List.replicate_zero, Option.map_some, Option.map_none, List.cons.injEq, and_true, true_and, Arg.x.injEq, exists_eq_left, exists_eq_right, Option.some.injEq, Ent.ow.injEq, Ent.im.injEq, PyData.int.injEq, PyData.list.injEq, PyData.dict.injEq, PyData.tuple.injEq, PyData.str.injEq, exists_eq', exists_eq, decide_eq_true_eq, Bool.not_eq_true', ite_true, ite_false, decide_true, decide_false, decide_eq_false_iff_not, not_true_eq_false, not_false_eq_true, reduceCtorEq, eq_self]
      exact counts_i hP
    · have e : tupsOf ((es.map sD).map (fun d => match d with
        | .str x => .tuple ((cts x.cps.toList).map .int)
        | _ => .none)) = some (es.map cts) := by
        have := tupsOf_map (es.map cts)
        rw [List.map_map] at this ⊢
        exact this
      simp -dsimp only [↓uSeq, ↓uNext, ↓uKill, ↓uFrz, ↓uDrop, ↓uRet, ↓uIf, ↓uAsg, ↓uAsgO, ↓uPar2, ↓uPut, ↓uDPut, ↓uFor_eq, ↓uWhile_eq, ↓uSeqM_eq, ↓uBrk, ↓uCnt, ↓uWelD, ↓gSet, ↓gN, ↓gC, ↓gT, ↓zE, ↓zF, ↓oE, ↓oV, ↓wV, ↓wC, ↓wOp, ↓wUn, ↓app2, ↓app1, ↓wTst, ↓tAndD, ↓tOrD, ↓tNotD, ↓wAndV, ↓wOrV, ↓wNotV, ↓wIf, ↓wChain, ↓osN, ↓osC, getAll, ↓appN, ↓wCB, ↓appM, ↓wBM, ↓wBM0, ↓wN, ↓wCs, ↓wTup, ↓wLst, ↓wDic0, ↓wDicT, ↓aN, ↓aC, ↓aW, ↓wCall_eq, ↓wCallK_eq, perm, List.filterMap_cons, List.filterMap_nil, ↓wApp, ↓wExt, ↓wPop, ↓wPopAt, ↓wListA, ↓wRpl, ↓iX, ↓iL, ↓iT, ↓iS, ↓iR1, ↓iR2, ↓iScr, ↓iZD, ↓iE, ↓wComp_eq, ↓ttY, ↓wSl, ↓wPart, ↓plN, ↓wRev, ↓wListO, ↓wRep, ↓wLenSet, ↓wLenScr, ↓wWelI, ↓wWelPop, ↓wWelApp, ↓tWelNE, ↓wDisp, ↓psC, ↓psN, ↓wDIn, ↓wDNotIn, ↓askD, ↓fAdd, ↓fSub, ↓fII, ↓fII0, ↓fDiv, ↓fMod, ↓fPow, ↓fLt, ↓fGt, ↓fLe, ↓fGe, ↓fGtD, ↓fLtD, ↓fLeD, ↓fGeD, ↓fNeg, ↓fMul, ↓fEq, ↓fNe, ↓eqQ, ↓fIsN, ↓fNotN, isNone_1, isNone_2, isNone_3, isNone_4, isNone_5, isNone_6, isNone_7, ↓fInC, ↓fNotInC, ↓fSub_, ↓fIx, ↓fSl, ↓fLen, ↓fTuple, ↓fMin1, ↓fMax1, ↓fSum, ↓fAll, ↓fAny, ↓fSorted, ↓fSortS, ↓fAbs, ↓fInt, ↓fRepr, ↓fCnt, ↓fIdx, ↓fJoin, isStr,
 endsG, mem0, toEnt, Mem.set, Mem.view, Mem.kill, Mem.frz, Mem.ro, Ent.ro', Opd.get,
 List.set_cons_zero, List.set_cons_succ, List.getElem?_cons_zero, List.getElem?_cons_succ, List.map_cons, List.map_nil, List.length_cons, List.length_nil, List.cons_append, List.nil_append, List.replicate_succ, List.replicate_zero, Option.map_some, Option.map_none, List.cons.injEq, and_true, true_and, Arg.x.injEq, exists_eq_left, exists_eq_right, Option.some.injEq, Ent.ow.injEq, Ent.im.injEq, PyData.int.injEq, PyData.list.injEq, PyData.dict.injEq, PyData.tuple.injEq, PyData.str.injEq, exists_eq', exists_eq, decide_eq_true_eq, Bool.not_eq_true', ite_true, ite_false, decide_true, decide_false, decide_eq_false_iff_not, not_true_eq_false, not_false_eq_true, reduceCtorEq, eq_self, e, List.length_map]
      have e3 : (distinct (es.map cts)).length = dcount l n := distinct_len (mem_map_iff h2)
      rw [e3]
      refine ⟨by omega, by simp; exact small1000 (by omega), some (.im (.int (n : Nat))), ?_⟩
      rw [List.range_succ, List.map_append, List.map_append]
      rfl
  · rintro M' ⟨e2, rfl⟩
    rw [rng_len]
    simp -dsimp only [↓uSeq, ↓uNext, ↓uKill, ↓uFrz, ↓uDrop, ↓uRet, ↓uIf, ↓uAsg, ↓uAsgO, ↓uPar2, ↓uPut, ↓uDPut, ↓uFor_eq, ↓uWhile_eq, ↓uSeqM_eq, ↓uBrk, ↓uCnt, ↓uWelD, ↓gSet, ↓gN, ↓gC, ↓gT, ↓zE, ↓zF, ↓oE, ↓oV, ↓wV, ↓wC, ↓wOp, ↓wUn, ↓app2, ↓app1, ↓wTst, ↓tAndD, ↓tOrD, ↓tNotD, ↓wAndV, ↓wOrV, ↓wNotV, ↓wIf, ↓wChain, ↓osN, ↓osC, getAll, ↓appN, ↓wCB, ↓appM, ↓wBM, ↓wBM0, ↓wN, ↓wCs, ↓wTup, ↓wLst, ↓wDic0, ↓wDicT, ↓aN, ↓aC, ↓aW, ↓wCall_eq, ↓wCallK_eq, perm, List.filterMap_cons, List.filterMap_nil, ↓wApp, ↓wExt, ↓wPop, ↓wPopAt, ↓wListA, ↓wRpl, ↓iX, ↓iL, ↓iT, ↓iS, ↓iR1, ↓iR2, ↓iScr, ↓iZD, ↓iE, ↓wComp_eq, ↓ttY, ↓wSl, ↓wPart, ↓plN, ↓wRev, ↓wListO, ↓wRep, ↓wLenSet, ↓wLenScr, ↓wWelI, ↓wWelPop, ↓wWelApp, ↓tWelNE, ↓wDisp, ↓psC, ↓psN, ↓wDIn, ↓wDNotIn, ↓askD, ↓fAdd, ↓fSub, ↓fII, ↓fII0, ↓fDiv, ↓fMod, ↓fPow, ↓fLt, ↓fGt, ↓fLe, ↓fGe, ↓fGtD, ↓fLtD, ↓fLeD, ↓fGeD, ↓fNeg, ↓fMul, ↓fEq, ↓fNe, ↓eqQ, ↓fIsN, ↓fNotN, isNone_1, isNone_2, isNone_3, isNone_4, isNone_5, isNone_6, isNone_7, ↓fInC, ↓fNotInC, ↓fSub_, ↓fIx, ↓fSl, ↓fLen, ↓fTuple, ↓fMin1, ↓fMax1, ↓fSum, ↓fAll, ↓fAny, ↓fSorted, ↓fSortS, ↓fAbs, ↓fInt, ↓fRepr, ↓fCnt, ↓fIdx, ↓fJoin, isStr,
 endsG, mem0, toEnt, Mem.set, Mem.view, Mem.kill, Mem.frz, Mem.ro, Ent.ro', Opd.get,
 List.set_cons_zero, List.set_cons_succ, List.getElem?_cons_zero, List.getElem?_cons_succ, List.map_cons, List.map_nil, List.length_cons, List.length_nil, List.cons_append, List.nil_append, List.replicate_succ, List.replicate_zero, Option.map_some, Option.map_none, List.cons.injEq, and_true, true_and, Arg.x.injEq, exists_eq_left, exists_eq_right, Option.some.injEq, Ent.ow.injEq, Ent.im.injEq, PyData.int.injEq, PyData.list.injEq, PyData.dict.injEq, PyData.tuple.injEq, PyData.str.injEq, exists_eq', exists_eq, decide_eq_true_eq, Bool.not_eq_true', ite_true, ite_false, decide_true, decide_false, decide_eq_false_iff_not, not_true_eq_false, not_false_eq_true, reduceCtorEq, eq_self]
    exact q
/-! place_with -/
def pw (l : List Nat) (n : Nat) (x : Int) : PyData := match (List.range (l.length - n + 1)).find? fun p => decide (((((l.drop p).take n).count 97 : Nat) : Int) = x) with
  | some p => .int (p : Nat)
  | none => .none
def g_place_with : GSpec := fun args wl Q => ∃ (l : List Nat) (n : Nat) (x : Int), args = [.x (sD l), .x (.int (n : Nat)), .x (.int x)] ∧ n ≤ l.length ∧ l.length ≤ 62 ∧ Q (pw l n x) wl
theorem place_i {l : List Nat} {n : Nat} {x : Int} {wl : Option Wel} {Q : PyData → Option Wel → Prop} {lk : Lock Q} (h : n ≤ l.length) (h2 : l.length ≤ 62) (q : Q (pw l n x) wl) : callG g_place_with [.x (sD l), .x (.int (n : Nat)), .x (.int x)] wl Q lk := ⟨l, n, x, rfl, h, h2, q⟩
def u_place_with : WS :=
  (uSeq (uFor [3] (iR1 (osC (oE (wOp fAdd (oE (wOp fSub (oE (wCB fLen (osC (oV 0) osN))) (oV 1))) (oE (wC (.int 1))))) osN)) (gSet 3)
  (uIf (wTst (wOp fEq (oE (wBM isStr fCnt (oV 0) (osC (oE (wC (.str "a"))) (osC (oV 3) (osC (oE (wOp fAdd (oV 3) (oV 1))) osN))))) (oV 2)))
  (uRet (wV 3))
  uNext))
  (uRet (wC .none)))
theorem rng_at {d : PyData} {n i : Nat} (h : (rng 0 n)[i]? = some d) : i < n ∧ d = .int (i : Nat) := by
  unfold rng at h
  rw [List.getElem?_map] at h
  obtain ⟨z, hz, e⟩ := Option.map_eq_some_iff.mp h
  have h1 := (List.getElem?_eq_some_iff.mp hz).1
  have h2 := (List.getElem?_eq_some_iff.mp hz).2
  simp at h1 h2
  subst h2
  exact ⟨h1, by rw [← e, Int.zero_add]⟩
theorem find_range_none {p : Nat → Bool} {n i : Nat} (hi : i < n) (h : ∀ j, j < i → p j = false) (hp : p i = true) : (List.range n).find? p = some i := by
  rw [List.find?_range_eq_some]
  exact ⟨hp, by simpa using hi, fun j hj => by simp [h j hj]⟩
theorem pf_place_with (args : List Arg) (wl : Option Wel) (Q : PyData → Option Wel → Prop) (h : g_place_with args wl Q) : u_place_with noX (endsG Q) (mem0 4 args wl) := by
  obtain ⟨l, n, x, rfl, hn, hl, q⟩ := h
  simp -dsimp only [u_place_with, ↓uSeq, ↓uNext, ↓uKill, ↓uFrz, ↓uDrop, ↓uRet, ↓uIf, ↓uAsg, ↓uAsgO, ↓uPar2, ↓uPut, ↓uDPut, ↓uFor_eq, ↓uWhile_eq, ↓uSeqM_eq, ↓uBrk, ↓uCnt, ↓uWelD, ↓gSet, ↓gN, ↓gC, ↓gT, ↓zE, ↓zF, ↓oE, ↓oV, ↓wV, ↓wC, ↓wOp, ↓wUn, ↓app2, ↓app1, ↓wTst, ↓tAndD, ↓tOrD, ↓tNotD, ↓wAndV, ↓wOrV, ↓wNotV, ↓wIf, ↓wChain, ↓osN, ↓osC, getAll, ↓appN, ↓wCB, ↓appM, ↓wBM, ↓wBM0, ↓wN, ↓wCs, ↓wTup, ↓wLst, ↓wDic0, ↓wDicT, ↓aN, ↓aC, ↓aW, ↓wCall_eq, ↓wCallK_eq, perm, List.filterMap_cons, List.filterMap_nil, ↓wApp, ↓wExt, ↓wPop, ↓wPopAt, ↓wListA, ↓wRpl, ↓iX, ↓iL, ↓iT, ↓iS, ↓iR1, ↓iR2, ↓iScr, ↓iZD, ↓iE, ↓wComp_eq, ↓ttY, ↓wSl, ↓wPart, ↓plN, ↓wRev, ↓wListO, ↓wRep, ↓wLenSet, ↓wLenScr, ↓wWelI, ↓wWelPop, ↓wWelApp, ↓tWelNE, ↓wDisp, ↓psC, ↓psN, ↓wDIn, ↓wDNotIn, ↓askD, ↓fAdd, ↓fSub, ↓fII, ↓fII0, ↓fDiv, ↓fMod, ↓fPow, ↓fLt, ↓fGt, ↓fLe, ↓fGe, ↓fGtD, ↓fLtD, ↓fLeD, ↓fGeD, ↓fNeg, ↓fMul, ↓fEq, ↓fNe, ↓eqQ, ↓fIsN, ↓fNotN, isNone_1, isNone_2, isNone_3, isNone_4, isNone_5, isNone_6, isNone_7, ↓fInC, ↓fNotInC, ↓fSub_, ↓fIx, ↓fSl, ↓fLen, ↓fTuple, ↓fMin1, ↓fMax1, ↓fSum, ↓fAll, ↓fAny, ↓fSorted, ↓fSortS, ↓fAbs, ↓fInt, ↓fRepr, ↓fCnt, ↓fIdx, ↓fJoin, isStr,
 endsG, mem0, toEnt, Mem.set, Mem.view, Mem.kill, Mem.frz, Mem.ro, Ent.ro', Opd.get,
 List.set_cons_zero, List.set_cons_succ, List.getElem?_cons_zero, List.getElem?_cons_succ, List.map_cons, List.map_nil, List.length_cons, List.length_nil, List.cons_append, List.nil_append, List.replicate_succ, List.replicate_zero, Option.map_some, Option.map_none, List.cons.injEq, and_true, true_and, Arg.x.injEq, exists_eq_left, exists_eq_right, Option.some.injEq, Ent.ow.injEq, Ent.im.injEq, PyData.int.injEq, PyData.list.injEq, PyData.dict.injEq, PyData.tuple.injEq, PyData.str.injEq, exists_eq', exists_eq, decide_eq_true_eq, Bool.not_eq_true', ite_true, ite_false, decide_true, decide_false, decide_eq_false_iff_not, not_true_eq_false, not_false_eq_true, reduceCtorEq, eq_self, S_cps]
  have e1 : ((l.length : Int) - n + 1).toNat = l.length - n + 1 := by omega
  rw [e1]
  refine ⟨zl _ (by omega), ⟨by omega, by omega⟩, ?_⟩
  refine for_i (fun i M => (∃ e : Option Ent, M = ⟨[some (.im (sD l)), some (.im (.int (n : Nat))), some (.im (.int x)), e], wl⟩) ∧ ∀ j, j < i → decide (((((l.drop j).take n).count 97 : Nat) : Int) = x) = false) ⟨⟨none, rfl⟩, fun j hj => absurd hj (Nat.not_lt_zero j)⟩ ?_ ?_
  · rintro i d M' hd ⟨⟨e, rfl⟩, hj⟩
    obtain ⟨hi, rfl⟩ := rng_at hd
    have e2 : within l (i : Int) ((i : Int) + n) = (l.drop i).take n := by
      have := within_nat l i (i + n)
      push_cast at this
      rw [this]
      congr 1
      omega
    simp -dsimp only [↓uSeq, ↓uNext, ↓uKill, ↓uFrz, ↓uDrop, ↓uRet, ↓uIf, ↓uAsg, ↓uAsgO, ↓uPar2, ↓uPut, ↓uDPut, ↓uFor_eq, ↓uWhile_eq, ↓uSeqM_eq, ↓uBrk, ↓uCnt, ↓uWelD, ↓gSet, ↓gN, ↓gC, ↓gT, ↓zE, ↓zF, ↓oE, ↓oV, ↓wV, ↓wC, ↓wOp, ↓wUn, ↓app2, ↓app1, ↓wTst, ↓tAndD, ↓tOrD, ↓tNotD, ↓wAndV, ↓wOrV, ↓wNotV, ↓wIf, ↓wChain, ↓osN, ↓osC, getAll, ↓appN, ↓wCB, ↓appM, ↓wBM, ↓wBM0, ↓wN, ↓wCs, ↓wTup, ↓wLst, ↓wDic0, ↓wDicT, ↓aN, ↓aC, ↓aW, ↓wCall_eq, ↓wCallK_eq, perm, List.filterMap_cons, List.filterMap_nil, ↓wApp, ↓wExt, ↓wPop, ↓wPopAt, ↓wListA, ↓wRpl, ↓iX, ↓iL, ↓iT, ↓iS, ↓iR1, ↓iR2, ↓iScr, ↓iZD, ↓iE, ↓wComp_eq, ↓ttY, ↓wSl, ↓wPart, ↓plN, ↓wRev, ↓wListO, ↓wRep, ↓wLenSet, ↓wLenScr, ↓wWelI, ↓wWelPop, ↓wWelApp, ↓tWelNE, ↓wDisp, ↓psC, ↓psN, ↓wDIn, ↓wDNotIn, ↓askD, ↓fAdd, ↓fSub, ↓fII, ↓fII0, ↓fDiv, ↓fMod, ↓fPow, ↓fLt, ↓fGt, ↓fLe, ↓fGe, ↓fGtD, ↓fLtD, ↓fLeD, ↓fGeD, ↓fNeg, ↓fMul, ↓fEq, ↓fNe, ↓eqQ, ↓fIsN, ↓fNotN, isNone_1, isNone_2, isNone_3, isNone_4, isNone_5, isNone_6, isNone_7, ↓fInC, ↓fNotInC, ↓fSub_, ↓fIx, ↓fSl, ↓fLen, ↓fTuple, ↓fMin1, ↓fMax1, ↓fSum, ↓fAll, ↓fAny, ↓fSorted, ↓fSortS, ↓fAbs, ↓fInt, ↓fRepr, ↓fCnt, ↓fIdx, ↓fJoin, isStr,
 endsG, mem0, toEnt, Mem.set, Mem.view, Mem.kill, Mem.frz, Mem.ro, Ent.ro', Opd.get,
 List.set_cons_zero, List.set_cons_succ, List.getElem?_cons_zero, List.getElem?_cons_succ, List.map_cons, List.map_nil, List.length_cons, List.length_nil, List.cons_append, List.nil_append, List.replicate_succ, List.replicate_zero, Option.map_some, Option.map_none, List.cons.injEq, and_true, true_and, Arg.x.injEq, exists_eq_left, exists_eq_right, Option.some.injEq, Ent.ow.injEq, Ent.im.injEq, PyData.int.injEq, PyData.list.injEq, PyData.dict.injEq, PyData.tuple.injEq, PyData.str.injEq, exists_eq', exists_eq, decide_eq_true_eq, Bool.not_eq_true', ite_true, ite_false, decide_true, decide_false, decide_eq_false_iff_not, not_true_eq_false, not_false_eq_true, reduceCtorEq, eq_self, k_a, S_cps, e2]
    refine ite_i (fun hc => ?_) (fun hc => ?_)
    · have : pw l n x = .int (i : Nat) := by
        unfold pw
        rw [find_range_none hi hj (decide_eq_true hc)]
      rw [← this]
      exact q
    · refine ⟨⟨_, rfl⟩, fun j hj2 => ?_⟩
      rcases Nat.lt_succ_iff_lt_or_eq.mp hj2 with h | rfl
      · exact of_decide_eq_false (hj j h)
      · exact hc
  · rintro M' ⟨⟨e, rfl⟩, hj⟩
    rw [rng_len] at hj
    simp -dsimp only [↓uSeq, ↓uNext, ↓uKill, ↓uFrz, ↓uDrop, ↓uRet, ↓uIf, ↓uAsg, ↓uAsgO, ↓uPar2, ↓uPut, ↓uDPut, ↓uFor_eq, ↓uWhile_eq, ↓uSeqM_eq, ↓uBrk, ↓uCnt, ↓uWelD, ↓gSet, ↓gN, ↓gC, ↓gT, ↓zE, ↓zF, ↓oE, ↓oV, ↓wV, ↓wC, ↓wOp, ↓wUn, ↓app2, ↓app1, ↓wTst, ↓tAndD, ↓tOrD, ↓tNotD, ↓wAndV, ↓wOrV, ↓wNotV, ↓wIf, ↓wChain, ↓osN, ↓osC, getAll, ↓appN, ↓wCB, ↓appM, ↓wBM, ↓wBM0, ↓wN, ↓wCs, ↓wTup, ↓wLst, ↓wDic0, ↓wDicT, ↓aN, ↓aC, ↓aW, ↓wCall_eq, ↓wCallK_eq, perm, List.filterMap_cons, List.filterMap_nil, ↓wApp, ↓wExt, ↓wPop, ↓wPopAt, ↓wListA, ↓wRpl, ↓iX, ↓iL, ↓iT, ↓iS, ↓iR1, ↓iR2, ↓iScr, ↓iZD, ↓iE, ↓wComp_eq, ↓ttY, ↓wSl, ↓wPart, ↓plN, ↓wRev, ↓wListO, ↓wRep, ↓wLenSet, ↓wLenScr, ↓wWelI, ↓wWelPop, ↓wWelApp, ↓tWelNE, ↓wDisp, ↓psC, ↓psN, ↓wDIn, ↓wDNotIn, ↓askD, ↓fAdd, ↓fSub, ↓fII, ↓fII0, ↓fDiv, ↓fMod, ↓fPow, ↓fLt, ↓fGt, ↓fLe, ↓fGe, ↓fGtD, ↓fLtD, ↓fLeD, ↓fGeD, ↓fNeg, ↓fMul, ↓fEq, ↓fNe, ↓eqQ, ↓fIsN, ↓fNotN, isNone_1, isNone_2, isNone_3, isNone_4, isNone_5, isNone_6, isNone_7, ↓fInC, ↓fNotInC, ↓fSub_, ↓fIx, ↓fSl, ↓fLen, ↓fTuple, ↓fMin1, ↓fMax1, ↓fSum, ↓fAll, ↓fAny, ↓fSorted, ↓fSortS, ↓fAbs, ↓fInt, ↓fRepr, ↓fCnt, ↓fIdx, ↓fJoin, isStr,
 endsG, mem0, toEnt, Mem.set, Mem.view, Mem.kill, Mem.frz, Mem.ro, Ent.ro', Opd.get,
 List.set_cons_zero, List.set_cons_succ, List.getElem?_cons_zero, List.getElem?_cons_succ, List.map_cons, List.map_nil, List.length_cons, List.length_nil, List.cons_append, List.nil_append, List.replicate_succ, List.replicate_zero, Option.map_some, Option.map_none, List.cons.injEq, and_true, true_and, Arg.x.injEq, exists_eq_left, exists_eq_right, Option.some.injEq, Ent.ow.injEq, Ent.im.injEq, PyData.int.injEq, PyData.list.injEq, PyData.dict.injEq, PyData.tuple.injEq, PyData.str.injEq, exists_eq', exists_eq, decide_eq_true_eq, Bool.not_eq_true', ite_true, ite_false, decide_true, decide_false, decide_eq_false_iff_not, not_true_eq_false, not_false_eq_true, reduceCtorEq, eq_self]
    have : pw l n x = .none := by
      unfold pw
      have : (List.range (l.length - n + 1)).find? (fun p => decide (((((l.drop p).take n).count 97 : Nat) : Int) = x)) = none := List.find?_eq_none.mpr fun j hj2 => by rw [hj j (List.mem_range.mp hj2)]; exact Bool.false_ne_true
      rw [this]
    rw [← this]
    exact q
/-! _law_sums -/
def sumsTo (ws : List Int) (l : List Nat) (i : Nat) : Int := ((l.take i).map fun c => ws.getD (c - 97) 0).sum
def g__law_sums : GSpec := fun args wl Q => ∃ (l : List Nat) (ws : List Int) (d : PyData), args = [.x (sD l), .x d] ∧ itemsOf d = some (ws.map .int) ∧ ws.length = 4 ∧ LetK 4 l ∧ l.length ≤ 64 ∧ Q (.list (((List.range (l.length + 1)).map (sumsTo ws l)).map .int)) wl
theorem sums_i {l : List Nat} {ws : List Int} {d : PyData} {wl : Option Wel} {Q : PyData → Option Wel → Prop} {lk : Lock Q} (h1 : itemsOf d = some (ws.map .int)) (h2 : ws.length = 4) (h3 : LetK 4 l) (h4 : l.length ≤ 64) (q : Q (.list (((List.range (l.length + 1)).map (sumsTo ws l)).map .int)) wl) :
    callG g__law_sums [.x (sD l), .x d] wl Q lk := ⟨l, ws, d, rfl, h1, h2, h3, h4, q⟩
def u__law_sums : WS :=
  (uSeq (uAsgO (wLst (wCs (wC (.int 0)) wN)) 2)
  (uSeq (uFor [3] (iX (wV 0)) (gSet 3)
  (uDrop (wApp 2 (wOp fAdd (oE (wOp fSub_ (oV 2) (oE (wUn fNeg (oE (wC (.int 1))))))) (oE (wOp fSub_ (oV 1) (oE (wBM isStr fIdx (oE (wC (.str "abcd"))) (osC (oV 3) osN)))))))))
  (uFrz 2 (uRet (wV 2)))))
theorem idx_abcd {c : Nat} (h : 97 ≤ c ∧ (c : Int) < 97 + 4) : c ∈ [97, 98, 99, 100] ∧ [97, 98, 99, 100].idxOf c = c - 97 := by
  have : c = 97 ∨ c = 98 ∨ c = 99 ∨ c = 100 := by omega
  rcases this with rfl | rfl | rfl | rfl <;> decide
theorem atI_int {ws : List Int} {i : Nat} (h : i < ws.length) : atI (ws.map PyData.int) (i : Int) = some (.int (ws.getD i 0)) := by
  unfold L2.atI ixN
  rw [if_pos (by omega), if_pos (by simpa using h)]
  simp [h]
theorem pf__law_sums (args : List Arg) (wl : Option Wel) (Q : PyData → Option Wel → Prop) (h : g__law_sums args wl Q) : u__law_sums noX (endsG Q) (mem0 4 args wl) := by
  obtain ⟨l, ws, d, rfl, hd, hw, hl, hn, q⟩ := h
  simp -dsimp only [u__law_sums, ↓uSeq, ↓uNext, ↓uKill, ↓uFrz, ↓uDrop, ↓uRet, ↓uIf, ↓uAsg, ↓uAsgO, ↓uPar2, ↓uPut, ↓uDPut, ↓uFor_eq, ↓uWhile_eq, ↓uSeqM_eq, ↓uBrk, ↓uCnt, ↓uWelD, ↓gSet, ↓gN, ↓gC, ↓gT, ↓zE, ↓zF, ↓oE, ↓oV, ↓wV, ↓wC, ↓wOp, ↓wUn, ↓app2, ↓app1, ↓wTst, ↓tAndD, ↓tOrD, ↓tNotD, ↓wAndV, ↓wOrV, ↓wNotV, ↓wIf, ↓wChain, ↓osN, ↓osC, getAll, ↓appN, ↓wCB, ↓appM, ↓wBM, ↓wBM0, ↓wN, ↓wCs, ↓wTup, ↓wLst, ↓wDic0, ↓wDicT, ↓aN, ↓aC, ↓aW, ↓wCall_eq, ↓wCallK_eq, perm, List.filterMap_cons, List.filterMap_nil, ↓wApp, ↓wExt, ↓wPop, ↓wPopAt, ↓wListA, ↓wRpl, ↓iX, ↓iL, ↓iT, ↓iS, ↓iR1, ↓iR2, ↓iScr, ↓iZD, ↓iE, ↓wComp_eq, ↓ttY, ↓wSl, ↓wPart, ↓plN, ↓wRev, ↓wListO, ↓wRep, ↓wLenSet, ↓wLenScr, ↓wWelI, ↓wWelPop, ↓wWelApp, ↓tWelNE, ↓wDisp, ↓psC, ↓psN, ↓wDIn, ↓wDNotIn, ↓askD, ↓fAdd, ↓fSub, ↓fII, ↓fII0, ↓fDiv, ↓fMod, ↓fPow, ↓fLt, ↓fGt, ↓fLe, ↓fGe, ↓fGtD, ↓fLtD, ↓fLeD, ↓fGeD, ↓fNeg, ↓fMul, ↓fEq, ↓fNe, ↓eqQ, ↓fIsN, ↓fNotN, isNone_1, isNone_2, isNone_3, isNone_4, isNone_5, isNone_6, isNone_7, ↓fInC, ↓fNotInC, ↓fSub_, ↓fIx, ↓fSl, ↓fLen, ↓fTuple, ↓fMin1, ↓fMax1, ↓fSum, ↓fAll, ↓fAny, ↓fSorted, ↓fSortS, ↓fAbs, ↓fInt, ↓fRepr, ↓fCnt, ↓fIdx, ↓fJoin, isStr,
 endsG, mem0, toEnt, Mem.set, Mem.view, Mem.kill, Mem.frz, Mem.ro, Ent.ro', Opd.get,
 List.set_cons_zero, List.set_cons_succ, List.getElem?_cons_zero, List.getElem?_cons_succ, List.map_cons, List.map_nil, List.length_cons, List.length_nil, List.cons_append, List.nil_append, List.replicate_succ, List.replicate_zero, Option.map_some, Option.map_none, List.cons.injEq, and_true, true_and, Arg.x.injEq, exists_eq_left, exists_eq_right, Option.some.injEq, Ent.ow.injEq, Ent.im.injEq, PyData.int.injEq, PyData.list.injEq, PyData.dict.injEq, PyData.tuple.injEq, PyData.str.injEq, exists_eq', exists_eq, decide_eq_true_eq, Bool.not_eq_true', ite_true, ite_false, decide_true, decide_false, decide_eq_false_iff_not, not_true_eq_false, not_false_eq_true, reduceCtorEq, eq_self, S_cps]
  refine ⟨by decide, ?_⟩
  refine for_i (fun i M => ∃ e : Option Ent, M = ⟨[some (.im (sD l)), some (.im d), some (.ow (.list (((List.range (i + 1)).map (sumsTo ws l)).map .int))), e], wl⟩) ⟨none, rfl⟩ ?_ ?_
  · rintro i x M' hx ⟨e, rfl⟩
    rw [List.getElem?_map] at hx
    obtain ⟨c, hc, rfl⟩ := Option.map_eq_some_iff.mp hx
    obtain ⟨a1, a2⟩ := idx_abcd (hl c (List.mem_of_getElem? hc))
    have hlast : (((List.range (i + 1)).map (sumsTo ws l)).map PyData.int).getLast? = some (.int (sumsTo ws l i)) := by
      rw [List.range_succ, List.map_append, List.map_append]
      exact List.getLast?_concat
    have hi : i < l.length := (List.getElem?_eq_some_iff.mp hc).1
    have hc4 : c - 97 < ws.length := by have := hl c (List.mem_of_getElem? hc); omega
    have fin : (⟨[some (.im (sD l)), some (.im d), some (.ow (.list (((List.range (i + 1)).map (sumsTo ws l)).map .int ++ [.int (sumsTo ws l i + ws.getD (c - 97) 0)]))), some (.im (.str (S [c])))], wl⟩ : Mem) = ⟨[some (.im (sD l)), some (.im d), some (.ow (.list (((List.range (i + 1 + 1)).map (sumsTo ws l)).map .int))), some (.im (.str (S [c])))], wl⟩ := by
      have : sumsTo ws l (i + 1) = sumsTo ws l i + ws.getD (c - 97) 0 := by
        unfold sumsTo
        rw [List.take_add_one, hc, List.map_append, List.sum_append]
        simp
      rw [List.range_succ (n := i + 1), List.map_append, List.map_append, ← this]
      rfl
    cases d with
    | list t =>
      cases hd
      simp -dsimp only [↓uSeq, ↓uNext, ↓uKill, ↓uFrz, ↓uDrop, ↓uRet, ↓uIf, ↓uAsg, ↓uAsgO, ↓uPar2, ↓uPut, ↓uDPut, ↓uFor_eq, ↓uWhile_eq, ↓uSeqM_eq, ↓uBrk, ↓uCnt, ↓uWelD, ↓gSet, ↓gN, ↓gC, ↓gT, ↓zE, ↓zF, ↓oE, ↓oV, ↓wV, ↓wC, ↓wOp, ↓wUn, ↓app2, ↓app1, ↓wTst, ↓tAndD, ↓tOrD, ↓tNotD, ↓wAndV, ↓wOrV, ↓wNotV, ↓wIf, ↓wChain, ↓osN, ↓osC, getAll, ↓appN, ↓wCB, ↓appM, ↓wBM, ↓wBM0, ↓wN, ↓wCs, ↓wTup, ↓wLst, ↓wDic0, ↓wDicT, ↓aN, ↓aC, ↓aW, ↓wCall_eq, ↓wCallK_eq, perm, List.filterMap_cons, List.filterMap_nil, ↓wApp, ↓wExt, ↓wPop, ↓wPopAt, ↓wListA, ↓wRpl, ↓iX, ↓iL, ↓iT, ↓iS, ↓iR1, ↓iR2, ↓iScr, ↓iZD, ↓iE, ↓wComp_eq, ↓ttY, ↓wSl, ↓wPart, ↓plN, ↓wRev, ↓wListO, ↓wRep, ↓wLenSet, ↓wLenScr, ↓wWelI, ↓wWelPop, ↓wWelApp, ↓tWelNE, ↓wDisp, ↓psC, ↓psN, ↓wDIn, ↓wDNotIn, ↓askD, ↓fAdd, ↓fSub, ↓fII, ↓fII0, ↓fDiv, ↓fMod, ↓fPow, ↓fLt, ↓fGt, ↓fLe, ↓fGe, ↓fGtD, ↓fLtD, ↓fLeD, ↓fGeD, ↓fNeg, ↓fMul, ↓fEq, ↓fNe, ↓eqQ, ↓fIsN, ↓fNotN, isNone_1, isNone_2, isNone_3, isNone_4, isNone_5, isNone_6, isNone_7, ↓fInC, ↓fNotInC, ↓fSub_, ↓fIx, ↓fSl, ↓fLen, ↓fTuple, ↓fMin1, ↓fMax1, ↓fSum, ↓fAll, ↓fAny, ↓fSorted, ↓fSortS, ↓fAbs, ↓fInt, ↓fRepr, ↓fCnt, ↓fIdx, ↓fJoin, isStr,
 endsG, mem0, toEnt, Mem.set, Mem.view, Mem.kill, Mem.frz, Mem.ro, Ent.ro', Opd.get,
 List.set_cons_zero, List.set_cons_succ, List.getElem?_cons_zero, List.getElem?_cons_succ, List.map_cons, List.map_nil, List.length_cons, List.length_nil, List.cons_append, List.nil_append, List.replicate_succ, List.replicate_zero, Option.map_some, Option.map_none, List.cons.injEq, and_true, true_and, Arg.x.injEq, exists_eq_left, exists_eq_right, Option.some.injEq, Ent.ow.injEq, Ent.im.injEq, PyData.int.injEq, PyData.list.injEq, PyData.dict.injEq, PyData.tuple.injEq, PyData.str.injEq, exists_eq', exists_eq, decide_eq_true_eq, Bool.not_eq_true', ite_true, ite_false, decide_true, decide_false, decide_eq_false_iff_not, not_true_eq_false, not_false_eq_true, reduceCtorEq, eq_self, atI_last hlast, k_abcd, S_cps, a2, atI_int hc4]
      exact ⟨a1, by simp; exact small1000 (by omega), _, fin⟩
    | tuple t =>
      cases hd
      simp -dsimp only [↓uSeq, ↓uNext, ↓uKill, ↓uFrz, ↓uDrop, ↓uRet, ↓uIf, ↓uAsg, ↓uAsgO, ↓uPar2, ↓uPut, ↓uDPut, ↓uFor_eq, ↓uWhile_eq, ↓uSeqM_eq, ↓uBrk, ↓uCnt, ↓uWelD, ↓gSet, ↓gN, ↓gC, ↓gT, ↓zE, ↓zF, ↓oE, ↓oV, ↓wV, ↓wC, ↓wOp, ↓wUn, ↓app2, ↓app1, ↓wTst, ↓tAndD, ↓tOrD, ↓tNotD, ↓wAndV, ↓wOrV, ↓wNotV, ↓wIf, ↓wChain, ↓osN, ↓osC, getAll, ↓appN, ↓wCB, ↓appM, ↓wBM, ↓wBM0, ↓wN, ↓wCs, ↓wTup, ↓wLst, ↓wDic0, ↓wDicT, ↓aN, ↓aC, ↓aW, ↓wCall_eq, ↓wCallK_eq, perm, List.filterMap_cons, List.filterMap_nil, ↓wApp, ↓wExt, ↓wPop, ↓wPopAt, ↓wListA, ↓wRpl, ↓iX, ↓iL, ↓iT, ↓iS, ↓iR1, ↓iR2, ↓iScr, ↓iZD, ↓iE, ↓wComp_eq, ↓ttY, ↓wSl, ↓wPart, ↓plN, ↓wRev, ↓wListO, ↓wRep, ↓wLenSet, ↓wLenScr, ↓wWelI, ↓wWelPop, ↓wWelApp, ↓tWelNE, ↓wDisp, ↓psC, ↓psN, ↓wDIn, ↓wDNotIn, ↓askD, ↓fAdd, ↓fSub, ↓fII, ↓fII0, ↓fDiv, ↓fMod, ↓fPow, ↓fLt, ↓fGt, ↓fLe, ↓fGe, ↓fGtD, ↓fLtD, ↓fLeD, ↓fGeD, ↓fNeg, ↓fMul, ↓fEq, ↓fNe, ↓eqQ, ↓fIsN, ↓fNotN, isNone_1, isNone_2, isNone_3, isNone_4, isNone_5, isNone_6, isNone_7, ↓fInC, ↓fNotInC, ↓fSub_, ↓fIx, ↓fSl, ↓fLen, ↓fTuple, ↓fMin1, ↓fMax1, ↓fSum, ↓fAll, ↓fAny, ↓fSorted, ↓fSortS, ↓fAbs, ↓fInt, ↓fRepr, ↓fCnt, ↓fIdx, ↓fJoin, isStr,
 endsG, mem0, toEnt, Mem.set, Mem.view, Mem.kill, Mem.frz, Mem.ro, Ent.ro', Opd.get,
 List.set_cons_zero, List.set_cons_succ, List.getElem?_cons_zero, List.getElem?_cons_succ, List.map_cons, List.map_nil, List.length_cons, List.length_nil, List.cons_append, List.nil_append, List.replicate_succ, List.replicate_zero, Option.map_some, Option.map_none, List.cons.injEq, and_true, true_and, Arg.x.injEq, exists_eq_left, exists_eq_right, Option.some.injEq, Ent.ow.injEq, Ent.im.injEq, PyData.int.injEq, PyData.list.injEq, PyData.dict.injEq, PyData.tuple.injEq, PyData.str.injEq, exists_eq', exists_eq, decide_eq_true_eq, Bool.not_eq_true', ite_true, ite_false, decide_true, decide_false, decide_eq_false_iff_not, not_true_eq_false, not_false_eq_true, reduceCtorEq, eq_self, atI_last hlast, k_abcd, S_cps, a2, atI_int hc4]
      exact ⟨a1, by simp; exact small1000 (by omega), _, fin⟩
    | _ => cases hd
  · rintro M' ⟨e, rfl⟩
    rw [List.length_map]
    simp -dsimp only [↓uSeq, ↓uNext, ↓uKill, ↓uFrz, ↓uDrop, ↓uRet, ↓uIf, ↓uAsg, ↓uAsgO, ↓uPar2, ↓uPut, ↓uDPut, ↓uFor_eq, ↓uWhile_eq, ↓uSeqM_eq, ↓uBrk, ↓uCnt, ↓uWelD, ↓gSet, ↓gN, ↓gC, ↓gT, ↓zE, ↓zF, ↓oE, ↓oV, ↓wV, ↓wC, ↓wOp, ↓wUn, ↓app2, ↓app1, ↓wTst, ↓tAndD, ↓tOrD, ↓tNotD, ↓wAndV, ↓wOrV, ↓wNotV, ↓wIf, ↓wChain, ↓osN, ↓osC, getAll, ↓appN, ↓wCB, ↓appM, ↓wBM, ↓wBM0, ↓wN, ↓wCs, ↓wTup, ↓wLst, ↓wDic0, ↓wDicT, ↓aN, ↓aC, ↓aW, ↓wCall_eq, ↓wCallK_eq, perm, List.filterMap_cons, List.filterMap_nil, ↓wApp, ↓wExt, ↓wPop, ↓wPopAt, ↓wListA, ↓wRpl, ↓iX, ↓iL, ↓iT, ↓iS, ↓iR1, ↓iR2, ↓iScr, ↓iZD, ↓iE, ↓wComp_eq, ↓ttY, ↓wSl, ↓wPart, ↓plN, ↓wRev, ↓wListO, ↓wRep, ↓wLenSet, ↓wLenScr, ↓wWelI, ↓wWelPop, ↓wWelApp, ↓tWelNE, ↓wDisp, ↓psC, ↓psN, ↓wDIn, ↓wDNotIn, ↓askD, ↓fAdd, ↓fSub, ↓fII, ↓fII0, ↓fDiv, ↓fMod, ↓fPow, ↓fLt, ↓fGt, ↓fLe, ↓fGe, ↓fGtD, ↓fLtD, ↓fLeD, ↓fGeD, ↓fNeg, ↓fMul, ↓fEq, ↓fNe, ↓eqQ, ↓fIsN, ↓fNotN, isNone_1, isNone_2, isNone_3, isNone_4, isNone_5, isNone_6, isNone_7, ↓fInC, ↓fNotInC, ↓fSub_, ↓fIx, ↓fSl, ↓fLen, ↓fTuple, ↓fMin1, ↓fMax1, ↓fSum, ↓fAll, ↓fAny, ↓fSorted, ↓fSortS, ↓fAbs, ↓fInt, ↓fRepr, ↓fCnt, ↓fIdx, ↓fJoin, isStr,
 endsG, mem0, toEnt, Mem.set, Mem.view, Mem.kill, Mem.frz, Mem.ro, Ent.ro', Opd.get,
 List.set_cons_zero, List.set_cons_succ, List.getElem?_cons_zero, List.getElem?_cons_succ, List.map_cons, List.map_nil, List.length_cons, List.length_nil, List.cons_append, List.nil_append, List.replicate_succ, List.replicate_zero, Option.map_some, Option.map_none, List.cons.injEq, and_true, true_and, Arg.x.injEq, exists_eq_left, exists_eq_right, Option.some.injEq, Ent.ow.injEq, Ent.im.injEq, PyData.int.injEq, PyData.list.injEq, PyData.dict.injEq, PyData.tuple.injEq, PyData.str.injEq, exists_eq', exists_eq, decide_eq_true_eq, Bool.not_eq_true', ite_true, ite_false, decide_true, decide_false, decide_eq_false_iff_not, not_true_eq_false, not_false_eq_true, reduceCtorEq, eq_self]
    exact q
/-! _law_a_rows -/
def mn (l : List Nat) (n : Nat) : Int := (lmin (acs l n)).getD 0
def mx (l : List Nat) (n : Nat) : Int := (lmax (acs l n)).getD 0
theorem acs_ne (l : List Nat) (n : Nat) : acs l n ≠ [] := by unfold acs; simp [wins_ne]
theorem mn_spec (l : List Nat) (n : Nat) : lmin (acs l n) = some (mn l n) := by
  obtain ⟨a, ha⟩ := lmin_some (acs_ne l n)
  unfold mn; rw [ha]; rfl
theorem mx_spec (l : List Nat) (n : Nat) : lmax (acs l n) = some (mx l n) := by
  obtain ⟨a, ha⟩ := lmax_some (acs_ne l n)
  unfold mx; rw [ha]; rfl
theorem sums_win (ws : List Int) (l : List Nat) (p n : Nat) : sumsTo ws l (p + n) - sumsTo ws l p = (((l.drop p).take n).map fun c => ws.getD (c - 97) 0).sum := by
  unfold sumsTo
  have : l.take (p + n) = l.take p ++ (l.drop p).take n := by rw [List.take_add]
  rw [this, List.map_append, List.sum_append]
  omega
theorem sum_unit (k : Nat) (ws : List Int) (h : ∀ c : Nat, 97 ≤ c ∧ (c : Int) < 97 + 4 → ws.getD (c - 97) 0 = if c = 97 + k then 1 else 0) : ∀ l : List Nat, LetK 4 l → (l.map fun c => ws.getD (c - 97) 0).sum = ((l.count (97 + k) : Nat) : Int)
  | [], _ => rfl
  | c :: r, hl => by
    have h1 := h c (hl c List.mem_cons_self)
    have h2 := sum_unit k ws h r fun x hx => hl x (List.mem_cons_of_mem _ hx)
    rw [List.map_cons, List.sum_cons, h1, h2, List.count_cons]
    by_cases e : c = 97 + k
    · simp [e]; omega
    · simp [e]
theorem win_let {l : List Nat} {K : Int} (h : LetK K l) (p n : Nat) : LetK K ((l.drop p).take n) := fun c hc => h c (List.mem_of_mem_drop (List.mem_of_mem_take hc))
theorem unit0 (c : Nat) (h : 97 ≤ c ∧ (c : Int) < 97 + 4) : ([1, 0, 0, 0] : List Int).getD (c - 97) 0 = if c = 97 + 0 then 1 else 0 := by
  have : c = 97 ∨ c = 98 ∨ c = 99 ∨ c = 100 := by omega
  rcases this with rfl | rfl | rfl | rfl <;> decide
def arows (l : List Nat) : List PyData := (List.range (l.length + 1)).map fun n => .tuple [.int (mn l n), .int (mx l n)]
def g__law_a_rows : GSpec := fun args wl Q => ∃ (l : List Nat), args = [.x (sD l)] ∧ LetK 4 l ∧ l.length ≤ 64 ∧ Q (.list (arows l)) wl
theorem arows_i {l : List Nat} {wl : Option Wel} {Q : PyData → Option Wel → Prop} {lk : Lock Q} (h3 : LetK 4 l) (h4 : l.length ≤ 64) (q : Q (.list (arows l)) wl) : callG g__law_a_rows [.x (sD l)] wl Q lk := ⟨l, rfl, h3, h4, q⟩
def u__law_a_rows : WS :=
  (uSeq (uAsg (wCall g__law_sums (aC (wV 0) (aC (wTup (wCs (wC (.int 1)) (wCs (wC (.int 0)) (wCs (wC (.int 0)) (wCs (wC (.int 0)) wN))))) aN))) (gSet 1))
  (uSeq (uAsgO (wLst wN) 2)
  (uSeq (uFor [3, 4] (iR1 (osC (oE (wOp fAdd (oE (wCB fLen (osC (oV 0) osN))) (oE (wC (.int 1))))) osN)) (gSet 3)
  (uSeq (uAsgO (wComp [5] (iR1 (osC (oE (wOp fAdd (oE (wOp fSub (oE (wCB fLen (osC (oV 0) osN))) (oV 3))) (oE (wC (.int 1))))) osN)) (gSet 5) ttY (wOp fSub (oE (wOp fSub_ (oV 1) (oE (wOp fAdd (oV 5) (oV 3))))) (oE (wOp fSub_ (oV 1) (oV 5))))) 4)
  (uDrop (wApp 2 (wTup (wCs (wCB fMin1 (osC (oV 4) osN)) (wCs (wCB fMax1 (osC (oV 4) osN)) wN)))))))
  (uFrz 2 (uRet (wV 2))))))
theorem atI_sums {ws : List Int} {l : List Nat} {i : Int} (h0 : 0 ≤ i) (h : i ≤ l.length) : atI (((List.range (l.length + 1)).map (sumsTo ws l)).map PyData.int) i = some (.int (sumsTo ws l i.toNat)) := by
  unfold L2.atI ixN
  rw [if_pos h0, if_pos (by simp; omega)]
  show (((List.range (l.length + 1)).map (sumsTo ws l)).map PyData.int)[i.toNat]? = _
  rw [List.getElem?_map, List.getElem?_map, List.getElem?_range (by omega)]
  rfl
theorem acs_range (l : List Nat) (n : Nat) : acs l n = (List.range (l.length - n + 1)).map fun p => ((((l.drop p).take n).count 97 : Nat) : Int) := by
  unfold acs wins
  rw [List.map_map]
  rfl
theorem pf__law_a_rows (args : List Arg) (wl : Option Wel) (Q : PyData → Option Wel → Prop) (h : g__law_a_rows args wl Q) : u__law_a_rows noX (endsG Q) (mem0 6 args wl) := by
  obtain ⟨l, rfl, hl, hn, q⟩ := h
  simp -dsimp only [u__law_a_rows, ↓uSeq, ↓uNext, ↓uKill, ↓uFrz, ↓uDrop, ↓uRet, ↓uIf, ↓uAsg, ↓uAsgO, ↓uPar2, ↓uPut, ↓uDPut, ↓uFor_eq, ↓uWhile_eq, ↓uSeqM_eq, ↓uBrk, ↓uCnt, ↓uWelD, ↓gSet, ↓gN, ↓gC, ↓gT, ↓zE, ↓zF, ↓oE, ↓oV, ↓wV, ↓wC, ↓wOp, ↓wUn, ↓app2, ↓app1, ↓wTst, ↓tAndD, ↓tOrD, ↓tNotD, ↓wAndV, ↓wOrV, ↓wNotV, ↓wIf, ↓wChain, ↓osN, ↓osC, getAll, ↓appN, ↓wCB, ↓appM, ↓wBM, ↓wBM0, ↓wN, ↓wCs, ↓wTup, ↓wLst, ↓wDic0, ↓wDicT, ↓aN, ↓aC, ↓aW, ↓wCall_eq, ↓wCallK_eq, perm, List.filterMap_cons, List.filterMap_nil, ↓wApp, ↓wExt, ↓wPop, ↓wPopAt, ↓wListA, ↓wRpl, ↓iX, ↓iL, ↓iT, ↓iS, ↓iR1, ↓iR2, ↓iScr, ↓iZD, ↓iE, ↓wComp_eq, ↓ttY, ↓wSl, ↓wPart, ↓plN, ↓wRev, ↓wListO, ↓wRep, ↓wLenSet, ↓wLenScr, ↓wWelI, ↓wWelPop, ↓wWelApp, ↓tWelNE, ↓wDisp, ↓psC, ↓psN, ↓wDIn, ↓wDNotIn, ↓askD, ↓fAdd, ↓fSub, ↓fII, ↓fII0, ↓fDiv, ↓fMod, ↓fPow, ↓fLt, ↓fGt, ↓fLe, ↓fGe, ↓fGtD, ↓fLtD, ↓fLeD, ↓fGeD, ↓fNeg, ↓fMul, ↓fEq, ↓fNe, ↓eqQ, ↓fIsN, ↓fNotN, isNone_1, isNone_2, isNone_3, isNone_4, isNone_5, isNone_6, isNone_7, ↓fInC, ↓fNotInC, ↓fSub_, ↓fIx, ↓fSl, ↓fLen, ↓fTuple, ↓fMin1, ↓fMax1, ↓fSum, ↓fAll, ↓fAny, ↓fSorted, ↓fSortS, ↓fAbs, ↓fInt, ↓fRepr, ↓fCnt, ↓fIdx, ↓fJoin, isStr,
 endsG, mem0, toEnt, Mem.set, Mem.view, Mem.kill, Mem.frz, Mem.ro, Ent.ro', Opd.get,
 List.set_cons_zero, List.set_cons_succ, List.getElem?_cons_zero, List.getElem?_cons_succ, List.map_cons, List.map_nil, List.length_cons, List.length_nil, List.cons_append, List.nil_append, List.replicate_succ, List.replicate_zero, Option.map_some, Option.map_none, List.cons.injEq, and_true, true_and, Arg.x.injEq, exists_eq_left, exists_eq_right, Option.some.injEq, Ent.ow.injEq, Ent.im.injEq, PyData.int.injEq, PyData.list.injEq, PyData.dict.injEq, PyData.tuple.injEq, PyData.str.injEq, exists_eq', exists_eq, decide_eq_true_eq, Bool.not_eq_true', ite_true, ite_false, decide_true, decide_false, decide_eq_false_iff_not, not_true_eq_false, not_false_eq_true, reduceCtorEq, eq_self]
  refine ⟨by decide, sums_i (ws := [1, 0, 0, 0]) rfl rfl hl hn ?_⟩
  simp -dsimp only [↓uSeq, ↓uNext, ↓uKill, ↓uFrz, ↓uDrop, ↓uRet, ↓uIf, ↓uAsg, ↓uAsgO, ↓uPar2, ↓uPut, ↓uDPut, ↓uFor_eq, ↓uWhile_eq, ↓uSeqM_eq, ↓uBrk, ↓uCnt, ↓uWelD, ↓gSet, ↓gN, ↓gC, ↓gT, ↓zE, ↓zF, ↓oE, ↓oV, ↓wV, ↓wC, ↓wOp, ↓wUn, ↓app2, ↓app1, ↓wTst, ↓tAndD, ↓tOrD, ↓tNotD, ↓wAndV, ↓wOrV, ↓wNotV, ↓wIf, ↓wChain, ↓osN, ↓osC, getAll, ↓appN, ↓wCB, ↓appM, ↓wBM, ↓wBM0, ↓wN, ↓wCs, ↓wTup, ↓wLst, ↓wDic0, ↓wDicT, ↓aN, ↓aC, ↓aW, ↓wCall_eq, ↓wCallK_eq, perm, List.filterMap_cons, List.filterMap_nil, ↓wApp, ↓wExt, ↓wPop, ↓wPopAt, ↓wListA, ↓wRpl, ↓iX, ↓iL, ↓iT, ↓iS, ↓iR1, ↓iR2, ↓iScr, ↓iZD, ↓iE, ↓wComp_eq, ↓ttY, ↓wSl, ↓wPart, ↓plN, ↓wRev, ↓wListO, ↓wRep, ↓wLenSet, ↓wLenScr, ↓wWelI, ↓wWelPop, ↓wWelApp, ↓tWelNE, ↓wDisp, ↓psC, ↓psN, ↓wDIn, ↓wDNotIn, ↓askD, ↓fAdd, ↓fSub, ↓fII, ↓fII0, ↓fDiv, ↓fMod, ↓fPow, ↓fLt, ↓fGt, ↓fLe, ↓fGe, ↓fGtD, ↓fLtD, ↓fLeD, ↓fGeD, ↓fNeg, ↓fMul, ↓fEq, ↓fNe, ↓eqQ, ↓fIsN, ↓fNotN, isNone_1, isNone_2, isNone_3, isNone_4, isNone_5, isNone_6, isNone_7, ↓fInC, ↓fNotInC, ↓fSub_, ↓fIx, ↓fSl, ↓fLen, ↓fTuple, ↓fMin1, ↓fMax1, ↓fSum, ↓fAll, ↓fAny, ↓fSorted, ↓fSortS, ↓fAbs, ↓fInt, ↓fRepr, ↓fCnt, ↓fIdx, ↓fJoin, isStr,
 endsG, mem0, toEnt, Mem.set, Mem.view, Mem.kill, Mem.frz, Mem.ro, Ent.ro', Opd.get,
 List.set_cons_zero, List.set_cons_succ, List.getElem?_cons_zero, List.getElem?_cons_succ, List.map_cons, List.map_nil, List.length_cons, List.length_nil, List.cons_append, List.nil_append, List.replicate_succ, List.replicate_zero, Option.map_some, Option.map_none, List.cons.injEq, and_true, true_and, Arg.x.injEq, exists_eq_left, exists_eq_right, Option.some.injEq, Ent.ow.injEq, Ent.im.injEq, PyData.int.injEq, PyData.list.injEq, PyData.dict.injEq, PyData.tuple.injEq, PyData.str.injEq, exists_eq', exists_eq, decide_eq_true_eq, Bool.not_eq_true', ite_true, ite_false, decide_true, decide_false, decide_eq_false_iff_not, not_true_eq_false, not_false_eq_true, reduceCtorEq, eq_self, S_cps]
  have e1 : ((l.length : Int) + 1).toNat = l.length + 1 := by omega
  rw [e1]
  refine ⟨by decide, zl _ (by omega), ⟨by omega, by omega⟩, ?_⟩
  refine for_i (fun i M => ∃ e3 e4 : Option Ent, M = ⟨[some (.im (sD l)), some (.im (.list (((List.range (l.length + 1)).map (sumsTo [1, 0, 0, 0] l)).map .int))), some (.ow (.list ((List.range i).map fun n => .tuple [.int (mn l n), .int (mx l n)]))), e3, e4, none], wl⟩) ⟨none, none, rfl⟩ ?_ ?_
  · rintro i d M' hd ⟨e3, e4, rfl⟩
    obtain ⟨hi, rfl⟩ := rng_at hd
    simp -dsimp only [↓uSeq, ↓uNext, ↓uKill, ↓uFrz, ↓uDrop, ↓uRet, ↓uIf, ↓uAsg, ↓uAsgO, ↓uPar2, ↓uPut, ↓uDPut, ↓uFor_eq, ↓uWhile_eq, ↓uSeqM_eq, ↓uBrk, ↓uCnt, ↓uWelD, ↓gSet, ↓gN, ↓gC, ↓gT, ↓zE, ↓zF, ↓oE, ↓oV, ↓wV, ↓wC, ↓wOp, ↓wUn, ↓app2, ↓app1, ↓wTst, ↓tAndD, ↓tOrD, ↓tNotD, ↓wAndV, ↓wOrV, ↓wNotV, ↓wIf, ↓wChain, ↓osN, ↓osC, getAll, ↓appN, ↓wCB, ↓appM, ↓wBM, ↓wBM0, ↓wN, ↓wCs, ↓wTup, ↓wLst, ↓wDic0, ↓wDicT, ↓aN, ↓aC, ↓aW, ↓wCall_eq, ↓wCallK_eq, perm, List.filterMap_cons, List.filterMap_nil, ↓wApp, ↓wExt, ↓wPop, ↓wPopAt, ↓wListA, ↓wRpl, ↓iX, ↓iL, ↓iT, ↓iS, ↓iR1, ↓iR2, ↓iScr, ↓iZD, ↓iE, ↓wComp_eq, ↓ttY, ↓wSl, ↓wPart, ↓plN, ↓wRev, ↓wListO, ↓wRep, ↓wLenSet, ↓wLenScr, ↓wWelI, ↓wWelPop, ↓wWelApp, ↓tWelNE, ↓wDisp, ↓psC, ↓psN, ↓wDIn, ↓wDNotIn, ↓askD, ↓fAdd, ↓fSub, ↓fII, ↓fII0, ↓fDiv, ↓fMod, ↓fPow, ↓fLt, ↓fGt, ↓fLe, ↓fGe, ↓fGtD, ↓fLtD, ↓fLeD, ↓fGeD, ↓fNeg, ↓fMul, ↓fEq, ↓fNe, ↓eqQ, ↓fIsN, ↓fNotN, isNone_1, isNone_2, isNone_3, isNone_4, isNone_5, isNone_6, isNone_7, ↓fInC, ↓fNotInC, ↓fSub_, ↓fIx, ↓fSl, ↓fLen, ↓fTuple, ↓fMin1, ↓fMax1, ↓fSum, ↓fAll, ↓fAny, ↓fSorted, ↓fSortS, ↓fAbs, ↓fInt, ↓fRepr, ↓fCnt, ↓fIdx, ↓fJoin, isStr,
 endsG, mem0, toEnt, Mem.set, Mem.view, Mem.kill, Mem.frz, Mem.ro, Ent.ro', Opd.get,
 List.set_cons_zero, List.set_cons_succ, List.getElem?_cons_zero, List.getElem?_cons_succ, List.map_cons, List.map_nil, List.length_cons, List.length_nil, List.cons_append, List.nil_append, List.replicate_succ, List.replicate_zero, Option.map_some, Option.map_none, List.cons.injEq, and_true, true_and, Arg.x.injEq, exists_eq_left, exists_eq_right, Option.some.injEq, Ent.ow.injEq, Ent.im.injEq, PyData.int.injEq, PyData.list.injEq, PyData.dict.injEq, PyData.tuple.injEq, PyData.str.injEq, exists_eq', exists_eq, decide_eq_true_eq, Bool.not_eq_true', ite_true, ite_false, decide_true, decide_false, decide_eq_false_iff_not, not_true_eq_false, not_false_eq_true, reduceCtorEq, eq_self, S_cps]
    have e2 : ((l.length : Int) - i + 1).toNat = l.length - i + 1 := by omega
    rw [e2, rng_len]
    refine ⟨zl _ (by omega), ⟨by omega, by omega⟩, zl _ (by omega), comp_map (fun d => match d with
      | .int p => .int ((((l.drop p.toNat).take i).count 97 : Nat))
      | _ => .none) (fun d hd P hP => ?_) ?_⟩
    · obtain ⟨p, hp, rfl⟩ := mem_rng hd
      simp -dsimp only [↓uSeq, ↓uNext, ↓uKill, ↓uFrz, ↓uDrop, ↓uRet, ↓uIf, ↓uAsg, ↓uAsgO, ↓uPar2, ↓uPut, ↓uDPut, ↓uFor_eq, ↓uWhile_eq, ↓uSeqM_eq, ↓uBrk, ↓uCnt, ↓uWelD, ↓gSet, ↓gN, ↓gC, ↓gT, ↓zE, ↓zF, ↓oE, ↓oV, ↓wV, ↓wC, ↓wOp, ↓wUn, ↓app2, ↓app1, ↓wTst, ↓tAndD, ↓tOrD, ↓tNotD, ↓wAndV, ↓wOrV, ↓wNotV, ↓wIf, ↓wChain, ↓osN, ↓osC, getAll, ↓appN, ↓wCB, ↓appM, ↓wBM, ↓wBM0, ↓wN, ↓wCs, ↓wTup, ↓wLst, ↓wDic0, ↓wDicT, ↓aN, ↓aC, ↓aW, ↓wCall_eq, ↓wCallK_eq, perm, List.filterMap_cons, List.filterMap_nil, ↓wApp, ↓wExt, ↓wPop, ↓wPopAt, ↓wListA, ↓wRpl, ↓iX, ↓iL, ↓iT, ↓iS, ↓iR1, ↓iR2, ↓iScr, ↓iZD, ↓iE, ↓wComp_eq, ↓ttY, ↓wSl, ↓wPart, ↓plN, ↓wRev, ↓wListO, ↓wRep, ↓wLenSet, ↓wLenScr, ↓wWelI, ↓wWelPop, ↓wWelApp, ↓tWelNE, ↓wDisp, ↓psC, ↓psN, ↓wDIn, ↓wDNotIn, ↓askD, ↓fAdd, ↓fSub, ↓fII, ↓fII0, ↓fDiv, ↓fMod, ↓fPow, ↓fLt, ↓fGt, ↓fLe, ↓fGe, ↓fGtD, ↓fLtD, ↓fLeD, ↓fGeD, ↓fNeg, ↓fMul, ↓fEq, ↓fNe, ↓eqQ, ↓fIsN, ↓fNotN, isNone_1, isNone_2, isNone_3, isNone_4, isNone_5, isNone_6, isNone_7, ↓fInC, ↓fNotInC, ↓fSub_, ↓fIx, ↓fSl, ↓fLen, ↓fTuple, ↓fMin1, ↓fMax1, ↓fSum, ↓fAll, ↓fAny, ↓fSorted, ↓fSortS, ↓fAbs, ↓fInt, ↓fRepr, ↓fCnt, ↓fIdx, ↓fJoin, isStr,
 endsG, mem0, toEnt, Mem.set, Mem.view, Mem.kill, Mem.frz, Mem.ro, Ent.ro', Opd.get,
 List.set_cons_zero, List.set_cons_succ, List.getElem?_cons_zero, List.getElem?_cons_succ, List.map_cons, List.map_nil, List.length_cons, List.length_nil, List.cons_append, List.nil_append, List.replicate_succ, List.replicate_zero, Option.map_some, Option.map_none, List.cons.injEq, and_true, true_and, Arg.x.injEq, exists_eq_left, exists_eq_right, Option.some.injEq, Ent.ow.injEq, Ent.im.injEq, PyData.int.injEq, PyData.list.injEq, PyData.dict.injEq, PyData.tuple.injEq, PyData.str.injEq, exists_eq', exists_eq, decide_eq_true_eq, Bool.not_eq_true', ite_true, ite_false, decide_true, decide_false, decide_eq_false_iff_not, not_true_eq_false, not_false_eq_true, reduceCtorEq, eq_self, atI_sums (ws := [1, 0, 0, 0]) (l := l) (i := (p : Int) + i) (by omega) (by omega), atI_sums (ws := [1, 0, 0, 0]) (l := l) (i := (p : Int)) (by omega) (by omega)]
      have e5 : ((p : Int) + i).toNat = p + i := by omega
      rw [e5, Int.toNat_natCast, sums_win, sum_unit 0 _ unit0 _ (win_let hl p i)]
      exact hP
    · rw [rng_map _ (fun p => .int ((((l.drop p).take i).count 97 : Nat) : Int)) _ fun p _ => rfl]
      have e6 : intsOf ((List.range (l.length - i + 1)).map fun p => PyData.int ((((l.drop p).take i).count 97 : Nat) : Int)) = some (acs l i) := by
        rw [acs_range]; exact intsOf_f _ _
      simp -dsimp only [↓uSeq, ↓uNext, ↓uKill, ↓uFrz, ↓uDrop, ↓uRet, ↓uIf, ↓uAsg, ↓uAsgO, ↓uPar2, ↓uPut, ↓uDPut, ↓uFor_eq, ↓uWhile_eq, ↓uSeqM_eq, ↓uBrk, ↓uCnt, ↓uWelD, ↓gSet, ↓gN, ↓gC, ↓gT, ↓zE, ↓zF, ↓oE, ↓oV, ↓wV, ↓wC, ↓wOp, ↓wUn, ↓app2, ↓app1, ↓wTst, ↓tAndD, ↓tOrD, ↓tNotD, ↓wAndV, ↓wOrV, ↓wNotV, ↓wIf, ↓wChain, ↓osN, ↓osC, getAll, ↓appN, ↓wCB, ↓appM, ↓wBM, ↓wBM0, ↓wN, ↓wCs, ↓wTup, ↓wLst, ↓wDic0, ↓wDicT, ↓aN, ↓aC, ↓aW, ↓wCall_eq, ↓wCallK_eq, perm, List.filterMap_cons, List.filterMap_nil, ↓wApp, ↓wExt, ↓wPop, ↓wPopAt, ↓wListA, ↓wRpl, ↓iX, ↓iL, ↓iT, ↓iS, ↓iR1, ↓iR2, ↓iScr, ↓iZD, ↓iE, ↓wComp_eq, ↓ttY, ↓wSl, ↓wPart, ↓plN, ↓wRev, ↓wListO, ↓wRep, ↓wLenSet, ↓wLenScr, ↓wWelI, ↓wWelPop, ↓wWelApp, ↓tWelNE, ↓wDisp, ↓psC, ↓psN, ↓wDIn, ↓wDNotIn, ↓askD, ↓fAdd, ↓fSub, ↓fII, ↓fII0, ↓fDiv, ↓fMod, ↓fPow, ↓fLt, ↓fGt, ↓fLe, ↓fGe, ↓fGtD, ↓fLtD, ↓fLeD, ↓fGeD, ↓fNeg, ↓fMul, ↓fEq, ↓fNe, ↓eqQ, ↓fIsN, ↓fNotN, isNone_1, isNone_2, isNone_3, isNone_4, isNone_5, isNone_6, isNone_7, ↓fInC, ↓fNotInC, ↓fSub_, ↓fIx, ↓fSl, ↓fLen, ↓fTuple, ↓fMin1, ↓fMax1, ↓fSum, ↓fAll, ↓fAny, ↓fSorted, ↓fSortS, ↓fAbs, ↓fInt, ↓fRepr, ↓fCnt, ↓fIdx, ↓fJoin, isStr,
 endsG, mem0, toEnt, Mem.set, Mem.view, Mem.kill, Mem.frz, Mem.ro, Ent.ro', Opd.get,
 List.set_cons_zero, List.set_cons_succ, List.getElem?_cons_zero, List.getElem?_cons_succ, List.map_cons, List.map_nil, List.length_cons, List.length_nil, List.cons_append, List.nil_append, List.replicate_succ, List.replicate_zero, Option.map_some, Option.map_none, List.cons.injEq, and_true, true_and, Arg.x.injEq, exists_eq_left, exists_eq_right, Option.some.injEq, Ent.ow.injEq, Ent.im.injEq, PyData.int.injEq, PyData.list.injEq, PyData.dict.injEq, PyData.tuple.injEq, PyData.str.injEq, exists_eq', exists_eq, decide_eq_true_eq, Bool.not_eq_true', ite_true, ite_false, decide_true, decide_false, decide_eq_false_iff_not, not_true_eq_false, not_false_eq_true, reduceCtorEq, eq_self, e6, mn_spec, mx_spec]
      refine ⟨by decide, by simp; exact small1000 (by omega), some (.im (.int (i : Nat))), some (.ow (.list ((List.range (l.length - i + 1)).map fun p => PyData.int ((((l.drop p).take i).count 97 : Nat) : Int)))), ?_⟩
      rw [List.range_succ (n := i), List.map_append]
      rfl
  · rintro M' ⟨e3, e4, rfl⟩
    rw [rng_len]
    simp -dsimp only [↓uSeq, ↓uNext, ↓uKill, ↓uFrz, ↓uDrop, ↓uRet, ↓uIf, ↓uAsg, ↓uAsgO, ↓uPar2, ↓uPut, ↓uDPut, ↓uFor_eq, ↓uWhile_eq, ↓uSeqM_eq, ↓uBrk, ↓uCnt, ↓uWelD, ↓gSet, ↓gN, ↓gC, ↓gT, ↓zE, ↓zF, ↓oE, ↓oV, ↓wV, ↓wC, ↓wOp, ↓wUn, ↓app2, ↓app1, ↓wTst, ↓tAndD, ↓tOrD, ↓tNotD, ↓wAndV, ↓wOrV, ↓wNotV, ↓wIf, ↓wChain, ↓osN, ↓osC, getAll, ↓appN, ↓wCB, ↓appM, ↓wBM, ↓wBM0, ↓wN, ↓wCs, ↓wTup, ↓wLst, ↓wDic0, ↓wDicT, ↓aN, ↓aC, ↓aW, ↓wCall_eq, ↓wCallK_eq, perm, List.filterMap_cons, List.filterMap_nil, ↓wApp, ↓wExt, ↓wPop, ↓wPopAt, ↓wListA, ↓wRpl, ↓iX, ↓iL, ↓iT, ↓iS, ↓iR1, ↓iR2, ↓iScr, ↓iZD, ↓iE, ↓wComp_eq, ↓ttY, ↓wSl, ↓wPart, ↓plN, ↓wRev, ↓wListO, ↓wRep, ↓wLenSet, ↓wLenScr, ↓wWelI, ↓wWelPop, ↓wWelApp, ↓tWelNE, ↓wDisp, ↓psC, ↓psN, ↓wDIn, ↓wDNotIn, ↓askD, ↓fAdd, ↓fSub, ↓fII, ↓fII0, ↓fDiv, ↓fMod, ↓fPow, ↓fLt, ↓fGt, ↓fLe, ↓fGe, ↓fGtD, ↓fLtD, ↓fLeD, ↓fGeD, ↓fNeg, ↓fMul, ↓fEq, ↓fNe, ↓eqQ, ↓fIsN, ↓fNotN, isNone_1, isNone_2, isNone_3, isNone_4, isNone_5, isNone_6, isNone_7, ↓fInC, ↓fNotInC, ↓fSub_, ↓fIx, ↓fSl, ↓fLen, ↓fTuple, ↓fMin1, ↓fMax1, ↓fSum, ↓fAll, ↓fAny, ↓fSorted, ↓fSortS, ↓fAbs, ↓fInt, ↓fRepr, ↓fCnt, ↓fIdx, ↓fJoin, isStr,
 endsG, mem0, toEnt, Mem.set, Mem.view, Mem.kill, Mem.frz, Mem.ro, Ent.ro', Opd.get,
 List.set_cons_zero, List.set_cons_succ, List.getElem?_cons_zero, List.getElem?_cons_succ, List.map_cons, List.map_nil, List.length_cons, List.length_nil, List.cons_append, List.nil_append, List.replicate_succ, List.replicate_zero, Option.map_some, Option.map_none, List.cons.injEq, and_true, true_and, Arg.x.injEq, exists_eq_left, exists_eq_right, Option.some.injEq, Ent.ow.injEq, Ent.im.injEq, PyData.int.injEq, PyData.list.injEq, PyData.dict.injEq, PyData.tuple.injEq, PyData.str.injEq, exists_eq', exists_eq, decide_eq_true_eq, Bool.not_eq_true', ite_true, ite_false, decide_true, decide_false, decide_eq_false_iff_not, not_true_eq_false, not_false_eq_true, reduceCtorEq, eq_self]
    exact q
/-! _law_count_row -/
def g__law_count_row : GSpec := fun args wl Q => ∃ (l : List Nat), args = [.x (sD l)] ∧ LetK 4 l ∧ l.length ≤ 62 ∧ Q (.tuple ((crow l).map .int)) wl
theorem lcrow_i {l : List Nat} {wl : Option Wel} {Q : PyData → Option Wel → Prop} {lk : Lock Q} (h3 : LetK 4 l) (h4 : l.length ≤ 62) (q : Q (.tuple ((crow l).map .int)) wl) : callG g__law_count_row [.x (sD l)] wl Q lk := ⟨l, rfl, h3, h4, q⟩
def u__law_count_row : WS :=
  (uSeq (uPar2 1 2 (zF (wLst wN)) (zF (wLst wN)))
  (uSeq (uFor [3, 4] (iR1 (osC (oE (wC (.int 4))) osN)) (gSet 3)
  (uSeq (uAsgO (wRep (oE (wLst (wCs (wC (.int 0)) wN))) (oE (wC (.int 4)))) 4)
  (uSeq (uPut 4 (wC (.int 1)) (oV 3))
  (uFrz 4 (uDrop (wApp 1 (wCall g__law_sums (aC (wV 0) (aC (wV 4) aN)))))))))
  (uSeq (uFrz 1 (uFor [5, 6, 7] (iR1 (osC (oE (wOp fAdd (oE (wCB fLen (osC (oV 0) osN))) (oE (wC (.int 1))))) osN)) (gSet 5)
  (uSeq (uAsgO wDicT 6)
  (uSeq (uFrz 1 (uFor [7] (iR1 (osC (oE (wOp fAdd (oE (wOp fSub (oE (wCB fLen (osC (oV 0) osN))) (oV 5))) (oE (wC (.int 1))))) osN)) (gSet 7)
  (uFrz 1 (uDPut 6 (wC (.bool true)) (oE (wCB fTuple (osC (oE (wComp [8] (iX (wV 1)) (gSet 8) ttY (wOp fSub (oE (wOp fSub_ (oV 8) (oE (wOp fAdd (oV 7) (oV 5))))) (oE (wOp fSub_ (oV 8) (oV 7)))))) osN)))))))
  (uDrop (wApp 2 (wCB fLen (osC (oV 6) osN))))))))
  (uRet (wCB fTuple (osC (oV 2) osN))))))
theorem kEq_ints (a b : List Int) : kEq (.tuple (a.map .int)) (.tuple (b.map .int)) = decide (a = b) := by
  have := kEq_tD (a.map Sum.inl) (b.map Sum.inl)
  rw [List.map_map, List.map_map] at this
  refine Eq.trans (this : kEq (.tuple (a.map .int)) (.tuple (b.map .int)) = _) ?_
  by_cases h : a = b
  · subst h; simp
  · rw [decide_eq_false h, decide_eq_false]
    intro e
    exact h (List.map_inj_right (fun x y => Sum.inl.inj) |>.mp e)
def kv (t : List Int) : PyData × PyData := (.tuple (t.map .int), .bool true)
theorem dput_kv (ts : List (List Int)) (t : List Int) : dput (ts.map kv) (.tuple (t.map .int)) (.bool true) = (if t ∈ ts then ts else ts ++ [t]).map kv := by
  have ea : ((ts.map kv).any fun kv => kEq kv.1 (.tuple (t.map .int))) = decide (t ∈ ts) := by
    induction ts with
    | nil => rfl
    | cons a r ih =>
      rw [List.map_cons, List.any_cons, ih]
      show (kEq (.tuple (a.map .int)) (.tuple (t.map .int)) || _) = _
      rw [kEq_ints]
      by_cases h : a = t
      · subst h; simp
      · have h' : ¬ t = a := fun e => h e.symm
        simp [h, h']
  unfold dput
  rw [ea]
  by_cases h : t ∈ ts
  · rw [if_pos (decide_eq_true h), if_pos h, List.map_map]
    refine List.map_congr_left fun x _ => ?_
    show (if kEq (.tuple (x.map .int)) (.tuple (t.map .int)) = true then (PyData.tuple (x.map .int), PyData.bool true) else kv x) = kv x
    split <;> rfl
  · rw [if_neg (by simp [h]), if_neg h, List.map_append]
    rfl
def unit (k : Nat) : List Int := (List.replicate 4 0).set k 1
def tab (l : List Nat) (k : Nat) : PyData := .list (((List.range (l.length + 1)).map (sumsTo (unit k) l)).map .int)
theorem unit_at {k : Nat} (hk : k < 4) (c : Nat) (h : 97 ≤ c ∧ (c : Int) < 97 + 4) : (unit k).getD (c - 97) 0 = if c = 97 + k then 1 else 0 := by
  have h1 : c = 97 ∨ c = 98 ∨ c = 99 ∨ c = 100 := by omega
  have h2 : k = 0 ∨ k = 1 ∨ k = 2 ∨ k = 3 := by omega
  rcases h1 with rfl | rfl | rfl | rfl <;> rcases h2 with rfl | rfl | rfl | rfl <;> decide
theorem ixN_nat {n i : Nat} (h : i < n) : ixN n (i : Int) = some i := by
  unfold ixN
  rw [if_pos (by omega), if_pos (by omega)]
  simp
theorem pf__law_count_row (args : List Arg) (wl : Option Wel) (Q : PyData → Option Wel → Prop) (h : g__law_count_row args wl Q) : u__law_count_row noX (endsG Q) (mem0 9 args wl) := by
  obtain ⟨l, rfl, hl, hn, q⟩ := h
  simp -dsimp only [u__law_count_row, ↓uSeq, ↓uNext, ↓uKill, ↓uFrz, ↓uDrop, ↓uRet, ↓uIf, ↓uAsg, ↓uAsgO, ↓uPar2, ↓uPut, ↓uDPut, ↓uFor_eq, ↓uWhile_eq, ↓uSeqM_eq, ↓uBrk, ↓uCnt, ↓uWelD, ↓gSet, ↓gN, ↓gC, ↓gT, ↓zE, ↓zF, ↓oE, ↓oV, ↓wV, ↓wC, ↓wOp, ↓wUn, ↓app2, ↓app1, ↓wTst, ↓tAndD, ↓tOrD, ↓tNotD, ↓wAndV, ↓wOrV, ↓wNotV, ↓wIf, ↓wChain, ↓osN, ↓osC, getAll, ↓appN, ↓wCB, ↓appM, ↓wBM, ↓wBM0, ↓wN, ↓wCs, ↓wTup, ↓wLst, ↓wDic0, ↓wDicT, ↓aN, ↓aC, ↓aW, ↓wCall_eq, ↓wCallK_eq, perm, List.filterMap_cons, List.filterMap_nil, ↓wApp, ↓wExt, ↓wPop, ↓wPopAt, ↓wListA, ↓wRpl, ↓iX, ↓iL, ↓iT, ↓iS, ↓iR1, ↓iR2, ↓iScr, ↓iZD, ↓iE, ↓wComp_eq, ↓ttY, ↓wSl, ↓wPart, ↓plN, ↓wRev, ↓wListO, ↓wRep, ↓wLenSet, ↓wLenScr, ↓wWelI, ↓wWelPop, ↓wWelApp, ↓tWelNE, ↓wDisp, ↓psC, ↓psN, ↓wDIn, ↓wDNotIn, ↓askD, ↓fAdd, ↓fSub, ↓fII, ↓fII0, ↓fDiv, ↓fMod, ↓fPow, ↓fLt, ↓fGt, ↓fLe, ↓fGe, ↓fGtD, ↓fLtD, ↓fLeD, ↓fGeD, ↓fNeg, ↓fMul, ↓fEq, ↓fNe, ↓eqQ, ↓fIsN, ↓fNotN, isNone_1, isNone_2, isNone_3, isNone_4, isNone_5, isNone_6, isNone_7, ↓fInC, ↓fNotInC, ↓fSub_, ↓fIx, ↓fSl, ↓fLen, ↓fTuple, ↓fMin1, ↓fMax1, ↓fSum, ↓fAll, ↓fAny, ↓fSorted, ↓fSortS, ↓fAbs, ↓fInt, ↓fRepr, ↓fCnt, ↓fIdx, ↓fJoin, isStr,
 endsG, mem0, toEnt, Mem.set, Mem.view, Mem.kill, Mem.frz, Mem.ro, Ent.ro', Opd.get,
 List.set_cons_zero, List.set_cons_succ, List.getElem?_cons_zero, List.getElem?_cons_succ, List.map_cons, List.map_nil, List.length_cons, List.length_nil, List.cons_append, List.nil_append, List.replicate_succ, List.replicate_zero, Option.map_some, Option.map_none, List.cons.injEq, and_true, true_and, Arg.x.injEq, exists_eq_left, exists_eq_right, Option.some.injEq, Ent.ow.injEq, Ent.im.injEq, PyData.int.injEq, PyData.list.injEq, PyData.dict.injEq, PyData.tuple.injEq, PyData.str.injEq, exists_eq', exists_eq, decide_eq_true_eq, Bool.not_eq_true', ite_true, ite_false, decide_true, decide_false, decide_eq_false_iff_not, not_true_eq_false, not_false_eq_true, reduceCtorEq, eq_self]
  refine ⟨by decide, by decide, ⟨by decide, by decide⟩, ?_⟩
  refine for_i (fun i M => ∃ e3 e4 : Option Ent, M = ⟨[some (.im (sD l)), some (.ow (.list ((List.range i).map (tab l)))), some (.ow (.list [])), e3, e4, none, none, none, none], wl⟩) ⟨none, none, rfl⟩ ?_ ?_
  · rintro k d M' hd ⟨e3, e4, rfl⟩
    obtain ⟨hk, rfl⟩ := rng_at hd
    have hk : k < 4 := hk
    have e0 : repL (Int.toNat 4) [PyData.int 0] = [.int 0, .int 0, .int 0, .int 0] := rfl
    simp -dsimp only [↓uSeq, ↓uNext, ↓uKill, ↓uFrz, ↓uDrop, ↓uRet, ↓uIf, ↓uAsg, ↓uAsgO, ↓uPar2, ↓uPut, ↓uDPut, ↓uFor_eq, ↓uWhile_eq, ↓uSeqM_eq, ↓uBrk, ↓uCnt, ↓uWelD, ↓gSet, ↓gN, ↓gC, ↓gT, ↓zE, ↓zF, ↓oE, ↓oV, ↓wV, ↓wC, ↓wOp, ↓wUn, ↓app2, ↓app1, ↓wTst, ↓tAndD, ↓tOrD, ↓tNotD, ↓wAndV, ↓wOrV, ↓wNotV, ↓wIf, ↓wChain, ↓osN, ↓osC, getAll, ↓appN, ↓wCB, ↓appM, ↓wBM, ↓wBM0, ↓wN, ↓wCs, ↓wTup, ↓wLst, ↓wDic0, ↓wDicT, ↓aN, ↓aC, ↓aW, ↓wCall_eq, ↓wCallK_eq, perm, List.filterMap_cons, List.filterMap_nil, ↓wApp, ↓wExt, ↓wPop, ↓wPopAt, ↓wListA, ↓wRpl, ↓iX, ↓iL, ↓iT, ↓iS, ↓iR1, ↓iR2, ↓iScr, ↓iZD, ↓iE, ↓wComp_eq, ↓ttY, ↓wSl, ↓wPart, ↓plN, ↓wRev, ↓wListO, ↓wRep, ↓wLenSet, ↓wLenScr, ↓wWelI, ↓wWelPop, ↓wWelApp, ↓tWelNE, ↓wDisp, ↓psC, ↓psN, ↓wDIn, ↓wDNotIn, ↓askD, ↓fAdd, ↓fSub, ↓fII, ↓fII0, ↓fDiv, ↓fMod, ↓fPow, ↓fLt, ↓fGt, ↓fLe, ↓fGe, ↓fGtD, ↓fLtD, ↓fLeD, ↓fGeD, ↓fNeg, ↓fMul, ↓fEq, ↓fNe, ↓eqQ, ↓fIsN, ↓fNotN, isNone_1, isNone_2, isNone_3, isNone_4, isNone_5, isNone_6, isNone_7, ↓fInC, ↓fNotInC, ↓fSub_, ↓fIx, ↓fSl, ↓fLen, ↓fTuple, ↓fMin1, ↓fMax1, ↓fSum, ↓fAll, ↓fAny, ↓fSorted, ↓fSortS, ↓fAbs, ↓fInt, ↓fRepr, ↓fCnt, ↓fIdx, ↓fJoin, isStr,
 endsG, mem0, toEnt, Mem.set, Mem.view, Mem.kill, Mem.frz, Mem.ro, Ent.ro', Opd.get,
 List.set_cons_zero, List.set_cons_succ, List.getElem?_cons_zero, List.getElem?_cons_succ, List.map_cons, List.map_nil, List.length_cons, List.length_nil, List.cons_append, List.nil_append, List.replicate_succ, List.replicate_zero, Option.map_some, Option.map_none, List.cons.injEq, and_true, true_and, Arg.x.injEq, exists_eq_left, exists_eq_right, Option.some.injEq, Ent.ow.injEq, Ent.im.injEq, PyData.int.injEq, PyData.list.injEq, PyData.dict.injEq, PyData.tuple.injEq, PyData.str.injEq, exists_eq', exists_eq, decide_eq_true_eq, Bool.not_eq_true', ite_true, ite_false, decide_true, decide_false, decide_eq_false_iff_not, not_true_eq_false, not_false_eq_true, reduceCtorEq, eq_self, e0, ixN_nat hk]
    refine ⟨by decide, ⟨by decide, by decide, by decide⟩, sums_i (ws := unit k) ?_ (by simp [unit]) hl (by omega) ?_⟩
    · show some (([PyData.int 0, .int 0, .int 0, .int 0] : List PyData).set k (.int 1)) = some ((unit k).map .int)
      rw [unit, List.map_set]
      rfl
    · simp -dsimp only [↓uSeq, ↓uNext, ↓uKill, ↓uFrz, ↓uDrop, ↓uRet, ↓uIf, ↓uAsg, ↓uAsgO, ↓uPar2, ↓uPut, ↓uDPut, ↓uFor_eq, ↓uWhile_eq, ↓uSeqM_eq, ↓uBrk, ↓uCnt, ↓uWelD, ↓gSet, ↓gN, ↓gC, ↓gT, ↓zE, ↓zF, ↓oE, ↓oV, ↓wV, ↓wC, ↓wOp, ↓wUn, ↓app2, ↓app1, ↓wTst, ↓tAndD, ↓tOrD, ↓tNotD, ↓wAndV, ↓wOrV, ↓wNotV, ↓wIf, ↓wChain, ↓osN, ↓osC, getAll, ↓appN, ↓wCB, ↓appM, ↓wBM, ↓wBM0, ↓wN, ↓wCs, ↓wTup, ↓wLst, ↓wDic0, ↓wDicT, ↓aN, ↓aC, ↓aW, ↓wCall_eq, ↓wCallK_eq, perm, List.filterMap_cons, List.filterMap_nil, ↓wApp, ↓wExt, ↓wPop, ↓wPopAt, ↓wListA, ↓wRpl, ↓iX, ↓iL, ↓iT, ↓iS, ↓iR1, ↓iR2, ↓iScr, ↓iZD, ↓iE, ↓wComp_eq, ↓ttY, ↓wSl, ↓wPart, ↓plN, ↓wRev, ↓wListO, ↓wRep, ↓wLenSet, ↓wLenScr, ↓wWelI, ↓wWelPop, ↓wWelApp, ↓tWelNE, ↓wDisp, ↓psC, ↓psN, ↓wDIn, ↓wDNotIn, ↓askD, ↓fAdd, ↓fSub, ↓fII, ↓fII0, ↓fDiv, ↓fMod, ↓fPow, ↓fLt, ↓fGt, ↓fLe, ↓fGe, ↓fGtD, ↓fLtD, ↓fLeD, ↓fGeD, ↓fNeg, ↓fMul, ↓fEq, ↓fNe, ↓eqQ, ↓fIsN, ↓fNotN, isNone_1, isNone_2, isNone_3, isNone_4, isNone_5, isNone_6, isNone_7, ↓fInC, ↓fNotInC, ↓fSub_, ↓fIx, ↓fSl, ↓fLen, ↓fTuple, ↓fMin1, ↓fMax1, ↓fSum, ↓fAll, ↓fAny, ↓fSorted, ↓fSortS, ↓fAbs, ↓fInt, ↓fRepr, ↓fCnt, ↓fIdx, ↓fJoin, isStr,
 endsG, mem0, toEnt, Mem.set, Mem.view, Mem.kill, Mem.frz, Mem.ro, Ent.ro', Opd.get,
 List.set_cons_zero, List.set_cons_succ, List.getElem?_cons_zero, List.getElem?_cons_succ, List.map_cons, List.map_nil, List.length_cons, List.length_nil, List.cons_append, List.nil_append, List.replicate_succ, List.replicate_zero, Option.map_some, Option.map_none, List.cons.injEq, and_true, true_and, Arg.x.injEq, exists_eq_left, exists_eq_right, Option.some.injEq, Ent.ow.injEq, Ent.im.injEq, PyData.int.injEq, PyData.list.injEq, PyData.dict.injEq, PyData.tuple.injEq, PyData.str.injEq, exists_eq', exists_eq, decide_eq_true_eq, Bool.not_eq_true', ite_true, ite_false, decide_true, decide_false, decide_eq_false_iff_not, not_true_eq_false, not_false_eq_true, reduceCtorEq, eq_self]
      refine ⟨by simp; exact small1000 (by omega), some (.im (.int (k : Nat))), some (.im (.list ([PyData.int 0, .int 0, .int 0, .int 0].set k (.int 1)))), ?_⟩
      rw [List.range_succ (n := k), List.map_append]
      rfl
  · rintro M' ⟨e3, e4, rfl⟩
    have e0 : (rng 0 (Int.toNat 4)).length = 4 := rfl
    rw [e0]
    simp -dsimp only [↓uSeq, ↓uNext, ↓uKill, ↓uFrz, ↓uDrop, ↓uRet, ↓uIf, ↓uAsg, ↓uAsgO, ↓uPar2, ↓uPut, ↓uDPut, ↓uFor_eq, ↓uWhile_eq, ↓uSeqM_eq, ↓uBrk, ↓uCnt, ↓uWelD, ↓gSet, ↓gN, ↓gC, ↓gT, ↓zE, ↓zF, ↓oE, ↓oV, ↓wV, ↓wC, ↓wOp, ↓wUn, ↓app2, ↓app1, ↓wTst, ↓tAndD, ↓tOrD, ↓tNotD, ↓wAndV, ↓wOrV, ↓wNotV, ↓wIf, ↓wChain, ↓osN, ↓osC, getAll, ↓appN, ↓wCB, ↓appM, ↓wBM, ↓wBM0, ↓wN, ↓wCs, ↓wTup, ↓wLst, ↓wDic0, ↓wDicT, ↓aN, ↓aC, ↓aW, ↓wCall_eq, ↓wCallK_eq, perm, List.filterMap_cons, List.filterMap_nil, ↓wApp, ↓wExt, ↓wPop, ↓wPopAt, ↓wListA, ↓wRpl, ↓iX, ↓iL, ↓iT, ↓iS, ↓iR1, ↓iR2, ↓iScr, ↓iZD, ↓iE, ↓wComp_eq, ↓ttY, ↓wSl, ↓wPart, ↓plN, ↓wRev, ↓wListO, ↓wRep, ↓wLenSet, ↓wLenScr, ↓wWelI, ↓wWelPop, ↓wWelApp, ↓tWelNE, ↓wDisp, ↓psC, ↓psN, ↓wDIn, ↓wDNotIn, ↓askD, ↓fAdd, ↓fSub, ↓fII, ↓fII0, ↓fDiv, ↓fMod, ↓fPow, ↓fLt, ↓fGt, ↓fLe, ↓fGe, ↓fGtD, ↓fLtD, ↓fLeD, ↓fGeD, ↓fNeg, ↓fMul, ↓fEq, ↓fNe, ↓eqQ, ↓fIsN, ↓fNotN, isNone_1, isNone_2, isNone_3, isNone_4, isNone_5, isNone_6, isNone_7, ↓fInC, ↓fNotInC, ↓fSub_, ↓fIx, ↓fSl, ↓fLen, ↓fTuple, ↓fMin1, ↓fMax1, ↓fSum, ↓fAll, ↓fAny, ↓fSorted, ↓fSortS, ↓fAbs, ↓fInt, ↓fRepr, ↓fCnt, ↓fIdx, ↓fJoin, isStr,
 endsG, mem0, toEnt, Mem.set, Mem.view, Mem.kill, Mem.frz, Mem.ro, Ent.ro', Opd.get,
 List.set_cons_zero, List.set_cons_succ, List.getElem?_cons_zero, List.getElem?_cons_succ, List.map_cons, List.map_nil, List.length_cons, List.length_nil, List.cons_append, List.nil_append, List.replicate_succ, List.replicate_zero, Option.map_some, Option.map_none, List.cons.injEq, and_true, true_and, Arg.x.injEq, exists_eq_left, exists_eq_right, Option.some.injEq, Ent.ow.injEq, Ent.im.injEq, PyData.int.injEq, PyData.list.injEq, PyData.dict.injEq, PyData.tuple.injEq, PyData.str.injEq, exists_eq', exists_eq, decide_eq_true_eq, Bool.not_eq_true', ite_true, ite_false, decide_true, decide_false, decide_eq_false_iff_not, not_true_eq_false, not_false_eq_true, reduceCtorEq, eq_self, S_cps]
    have e1 : ((l.length : Int) + 1).toNat = l.length + 1 := by omega
    rw [e1]
    refine ⟨zl _ (by omega), ⟨by omega, by omega⟩, ?_⟩
    refine for_i (fun i M => ∃ e5 e6 e7 : Option Ent, M = ⟨[some (.im (sD l)), some (.im (.list ((List.range 4).map (tab l)))), some (.ow (.list (((List.range i).map fun n => ((dcount l n : Nat) : Int)).map .int))), none, none, e5, e6, e7, none], wl⟩) ⟨none, none, none, rfl⟩ ?_ ?_
    · rintro n d M' hd ⟨e5, e6, e7, rfl⟩
      obtain ⟨hi, rfl⟩ := rng_at hd
      simp -dsimp only [↓uSeq, ↓uNext, ↓uKill, ↓uFrz, ↓uDrop, ↓uRet, ↓uIf, ↓uAsg, ↓uAsgO, ↓uPar2, ↓uPut, ↓uDPut, ↓uFor_eq, ↓uWhile_eq, ↓uSeqM_eq, ↓uBrk, ↓uCnt, ↓uWelD, ↓gSet, ↓gN, ↓gC, ↓gT, ↓zE, ↓zF, ↓oE, ↓oV, ↓wV, ↓wC, ↓wOp, ↓wUn, ↓app2, ↓app1, ↓wTst, ↓tAndD, ↓tOrD, ↓tNotD, ↓wAndV, ↓wOrV, ↓wNotV, ↓wIf, ↓wChain, ↓osN, ↓osC, getAll, ↓appN, ↓wCB, ↓appM, ↓wBM, ↓wBM0, ↓wN, ↓wCs, ↓wTup, ↓wLst, ↓wDic0, ↓wDicT, ↓aN, ↓aC, ↓aW, ↓wCall_eq, ↓wCallK_eq, perm, List.filterMap_cons, List.filterMap_nil, ↓wApp, ↓wExt, ↓wPop, ↓wPopAt, ↓wListA, ↓wRpl, ↓iX, ↓iL, ↓iT, ↓iS, ↓iR1, ↓iR2, ↓iScr, ↓iZD, ↓iE, ↓wComp_eq, ↓ttY, ↓wSl, ↓wPart, ↓plN, ↓wRev, ↓wListO, ↓wRep, ↓wLenSet, ↓wLenScr, ↓wWelI, ↓wWelPop, ↓wWelApp, ↓tWelNE, ↓wDisp, ↓psC, ↓psN, ↓wDIn, ↓wDNotIn, ↓askD, ↓fAdd, ↓fSub, ↓fII, ↓fII0, ↓fDiv, ↓fMod, ↓fPow, ↓fLt, ↓fGt, ↓fLe, ↓fGe, ↓fGtD, ↓fLtD, ↓fLeD, ↓fGeD, ↓fNeg, ↓fMul, ↓fEq, ↓fNe, ↓eqQ, ↓fIsN, ↓fNotN, isNone_1, isNone_2, isNone_3, isNone_4, isNone_5, isNone_6, isNone_7, ↓fInC, ↓fNotInC, ↓fSub_, ↓fIx, ↓fSl, ↓fLen, ↓fTuple, ↓fMin1, ↓fMax1, ↓fSum, ↓fAll, ↓fAny, ↓fSorted, ↓fSortS, ↓fAbs, ↓fInt, ↓fRepr, ↓fCnt, ↓fIdx, ↓fJoin, isStr,
 endsG, mem0, toEnt, Mem.set, Mem.view, Mem.kill, Mem.frz, Mem.ro, Ent.ro', Opd.get,
 List.set_cons_zero, List.set_cons_succ, List.getElem?_cons_zero, List.getElem?_cons_succ, List.map_cons, List.map_nil, List.length_cons, List.length_nil, List.cons_append, List.nil_append, List.replicate_succ, List.replicate_zero, Option.map_some, Option.map_none, List.cons.injEq, and_true, true_and, Arg.x.injEq, exists_eq_left, exists_eq_right, Option.some.injEq, Ent.ow.injEq, Ent.im.injEq, PyData.int.injEq, PyData.list.injEq, PyData.dict.injEq, PyData.tuple.injEq, PyData.str.injEq, exists_eq', exists_eq, decide_eq_true_eq, Bool.not_eq_true', ite_true, ite_false, decide_true, decide_false, decide_eq_false_iff_not, not_true_eq_false, not_false_eq_true, reduceCtorEq, eq_self, S_cps]
      have e2 : ((l.length : Int) - n + 1).toNat = l.length - n + 1 := by omega
      rw [e2]
      refine ⟨zl _ (by omega), ⟨by omega, by omega⟩, ?_⟩
      refine for_i (fun p M => ∃ (ts : List (List Int)) (e7 : Option Ent), M = ⟨[some (.im (sD l)), some (.im (.list ((List.range 4).map (tab l)))), some (.ow (.list (((List.range n).map fun n => ((dcount l n : Nat) : Int)).map .int))), none, none, some (.im (.int (n : Nat))), some (.ow (.dict ((.none, .none) :: ts.map kv))), e7, none], wl⟩ ∧ ts.Nodup ∧ ∀ x, x ∈ ts ↔ x ∈ ((wins l n).take p).map cts) ⟨[], none, rfl, .nil, by simp⟩ ?_ ?_
      · rintro p d M' hd ⟨ts, e7, rfl, nd, mem⟩
        obtain ⟨hp, rfl⟩ := rng_at hd
        simp -dsimp only [↓uSeq, ↓uNext, ↓uKill, ↓uFrz, ↓uDrop, ↓uRet, ↓uIf, ↓uAsg, ↓uAsgO, ↓uPar2, ↓uPut, ↓uDPut, ↓uFor_eq, ↓uWhile_eq, ↓uSeqM_eq, ↓uBrk, ↓uCnt, ↓uWelD, ↓gSet, ↓gN, ↓gC, ↓gT, ↓zE, ↓zF, ↓oE, ↓oV, ↓wV, ↓wC, ↓wOp, ↓wUn, ↓app2, ↓app1, ↓wTst, ↓tAndD, ↓tOrD, ↓tNotD, ↓wAndV, ↓wOrV, ↓wNotV, ↓wIf, ↓wChain, ↓osN, ↓osC, getAll, ↓appN, ↓wCB, ↓appM, ↓wBM, ↓wBM0, ↓wN, ↓wCs, ↓wTup, ↓wLst, ↓wDic0, ↓wDicT, ↓aN, ↓aC, ↓aW, ↓wCall_eq, ↓wCallK_eq, perm, List.filterMap_cons, List.filterMap_nil, ↓wApp, ↓wExt, ↓wPop, ↓wPopAt, ↓wListA, ↓wRpl, ↓iX, ↓iL, ↓iT, ↓iS, ↓iR1, ↓iR2, ↓iScr, ↓iZD, ↓iE, ↓wComp_eq, ↓ttY, ↓wSl, ↓wPart, ↓plN, ↓wRev, ↓wListO, ↓wRep, ↓wLenSet, ↓wLenScr, ↓wWelI, ↓wWelPop, ↓wWelApp, ↓tWelNE, ↓wDisp, ↓psC, ↓psN, ↓wDIn, ↓wDNotIn, ↓askD, ↓fAdd, ↓fSub, ↓fII, ↓fII0, ↓fDiv, ↓fMod, ↓fPow, ↓fLt, ↓fGt, ↓fLe, ↓fGe, ↓fGtD, ↓fLtD, ↓fLeD, ↓fGeD, ↓fNeg, ↓fMul, ↓fEq, ↓fNe, ↓eqQ, ↓fIsN, ↓fNotN, isNone_1, isNone_2, isNone_3, isNone_4, isNone_5, isNone_6, isNone_7, ↓fInC, ↓fNotInC, ↓fSub_, ↓fIx, ↓fSl, ↓fLen, ↓fTuple, ↓fMin1, ↓fMax1, ↓fSum, ↓fAll, ↓fAny, ↓fSorted, ↓fSortS, ↓fAbs, ↓fInt, ↓fRepr, ↓fCnt, ↓fIdx, ↓fJoin, isStr,
 endsG, mem0, toEnt, Mem.set, Mem.view, Mem.kill, Mem.frz, Mem.ro, Ent.ro', Opd.get,
 List.set_cons_zero, List.set_cons_succ, List.getElem?_cons_zero, List.getElem?_cons_succ, List.map_cons, List.map_nil, List.length_cons, List.length_nil, List.cons_append, List.nil_append, List.replicate_succ, List.replicate_zero, Option.map_some, Option.map_none, List.cons.injEq, and_true, true_and, Arg.x.injEq, exists_eq_left, exists_eq_right, Option.some.injEq, Ent.ow.injEq, Ent.im.injEq, PyData.int.injEq, PyData.list.injEq, PyData.dict.injEq, PyData.tuple.injEq, PyData.str.injEq, exists_eq', exists_eq, decide_eq_true_eq, Bool.not_eq_true', ite_true, ite_false, decide_true, decide_false, decide_eq_false_iff_not, not_true_eq_false, not_false_eq_true, reduceCtorEq, eq_self]
        refine ⟨by simp; exact zl _ (by omega), comp_map (fun d => match d with
          | .list L => match atI L ((p : Int) + n), atI L (p : Int) with
            | some (.int a), some (.int b) => .int (a - b)
            | _, _ => .none
          | _ => .none) (fun d hd P hP => ?_) ?_⟩
        · obtain ⟨k, hk, rfl⟩ := List.mem_map.mp hd
          have a1 := atI_sums (ws := unit k) (l := l) (i := (p : Int) + n) (by omega) (by omega)
          have a2 := atI_sums (ws := unit k) (l := l) (i := (p : Int)) (by omega) (by omega)
          simp -dsimp only [↓uSeq, ↓uNext, ↓uKill, ↓uFrz, ↓uDrop, ↓uRet, ↓uIf, ↓uAsg, ↓uAsgO, ↓uPar2, ↓uPut, ↓uDPut, ↓uFor_eq, ↓uWhile_eq, ↓uSeqM_eq, ↓uBrk, ↓uCnt, ↓uWelD, ↓gSet, ↓gN, ↓gC, ↓gT, ↓zE, ↓zF, ↓oE, ↓oV, ↓wV, ↓wC, ↓wOp, ↓wUn, ↓app2, ↓app1, ↓wTst, ↓tAndD, ↓tOrD, ↓tNotD, ↓wAndV, ↓wOrV, ↓wNotV, ↓wIf, ↓wChain, ↓osN, ↓osC, getAll, ↓appN, ↓wCB, ↓appM, ↓wBM, ↓wBM0, ↓wN, ↓wCs, ↓wTup, ↓wLst, ↓wDic0, ↓wDicT, ↓aN, ↓aC, ↓aW, ↓wCall_eq, ↓wCallK_eq, perm, List.filterMap_cons, List.filterMap_nil, ↓wApp, ↓wExt, ↓wPop, ↓wPopAt, ↓wListA, ↓wRpl, ↓iX, ↓iL, ↓iT, ↓iS, ↓iR1, ↓iR2, ↓iScr, ↓iZD, ↓iE, ↓wComp_eq, ↓ttY, ↓wSl, ↓wPart, ↓plN, ↓wRev, ↓wListO, ↓wRep, ↓wLenSet, ↓wLenScr, ↓wWelI, ↓wWelPop, ↓wWelApp, ↓tWelNE, ↓wDisp, ↓psC, ↓psN, ↓wDIn, ↓wDNotIn, ↓askD, ↓fAdd, ↓fSub, ↓fII, ↓fII0, ↓fDiv, ↓fMod, ↓fPow, ↓fLt, ↓fGt, ↓fLe, ↓fGe, ↓fGtD, ↓fLtD, ↓fLeD, ↓fGeD, ↓fNeg, ↓fMul, ↓fEq, ↓fNe, ↓eqQ, ↓fIsN, ↓fNotN, isNone_1, isNone_2, isNone_3, isNone_4, isNone_5, isNone_6, isNone_7, ↓fInC, ↓fNotInC, ↓fSub_, ↓fIx, ↓fSl, ↓fLen, ↓fTuple, ↓fMin1, ↓fMax1, ↓fSum, ↓fAll, ↓fAny, ↓fSorted, ↓fSortS, ↓fAbs, ↓fInt, ↓fRepr, ↓fCnt, ↓fIdx, ↓fJoin, isStr,
 endsG, mem0, toEnt, Mem.set, Mem.view, Mem.kill, Mem.frz, Mem.ro, Ent.ro', Opd.get,
 List.set_cons_zero, List.set_cons_succ, List.getElem?_cons_zero, List.getElem?_cons_succ, List.map_cons, List.map_nil, List.length_cons, List.length_nil, List.cons_append, List.nil_append, List.replicate_succ, List.replicate_zero, Option.map_some, Option.map_none, List.cons.injEq, and_true, true_and, Arg.x.injEq, exists_eq_left, exists_eq_right, Option.some.injEq, Ent.ow.injEq, Ent.im.injEq, PyData.int.injEq, PyData.list.injEq, PyData.dict.injEq, PyData.tuple.injEq, PyData.str.injEq, exists_eq', exists_eq, decide_eq_true_eq, Bool.not_eq_true', ite_true, ite_false, decide_true, decide_false, decide_eq_false_iff_not, not_true_eq_false, not_false_eq_true, reduceCtorEq, eq_self, tab, a1, a2] at hP ⊢
          exact hP
        · have key : ∀ k, k < 4 → (match tab l k with
            | .list L => match atI L ((p : Int) + n), atI L (p : Int) with
              | some (.int a), some (.int b) => PyData.int (a - b)
              | _, _ => .none
            | _ => .none) = .int ((((l.drop p).take n).count (97 + k) : Nat)) := fun k hk => by
            have a1 := atI_sums (ws := unit k) (l := l) (i := (p : Int) + n) (by omega) (by omega)
            have a2 := atI_sums (ws := unit k) (l := l) (i := (p : Int)) (by omega) (by omega)
            have e5 : ((p : Int) + n).toNat = p + n := by omega
            simp -dsimp only [tab, a1, a2]
            rw [e5, Int.toNat_natCast, sums_win, sum_unit k _ (unit_at hk) _ (win_let hl p n)]
          have eL : (List.range 4).map (tab l) = [tab l 0, tab l 1, tab l 2, tab l 3] := rfl
          rw [eL, List.map_cons, List.map_cons, List.map_cons, List.map_cons, List.map_nil, key 0 (by omega), key 1 (by omega), key 2 (by omega), key 3 (by omega)]
          have eT : [PyData.int ((((l.drop p).take n).count (97 + 0) : Nat)), .int ((((l.drop p).take n).count (97 + 1) : Nat)), .int ((((l.drop p).take n).count (97 + 2) : Nat)), .int ((((l.drop p).take n).count (97 + 3) : Nat))] = (cts ((l.drop p).take n)).map .int := rfl
          rw [eT]
          have ed : dputM ((.none, .none) :: ts.map kv) (.tuple ((cts ((l.drop p).take n)).map .int)) (.bool true) = (.none, .none) :: (if cts ((l.drop p).take n) ∈ ts then ts else ts ++ [cts ((l.drop p).take n)]).map kv := by
            rw [← dput_kv]; rfl
          have ek : keyFits ((.none, .none) :: ts.map kv) (.tuple ((cts ((l.drop p).take n)).map .int)) = true := rfl
          have wp : (wins l n).take (p + 1) = (wins l n).take p ++ [(l.drop p).take n] := by
            rw [List.take_add_one]
            have : (wins l n)[p]? = some ((l.drop p).take n) := by
              unfold wins
              rw [List.getElem?_map, List.getElem?_range hp]
              rfl
            rw [this]; rfl
          have tl : ts.length ≤ 64 := by
            have h1 := sub_len ts (((wins l n).take p).map cts) nd fun x hx => (mem x).mp hx
            rw [List.length_map, List.length_take, wins_len] at h1
            omega
          simp -dsimp only [↓uSeq, ↓uNext, ↓uKill, ↓uFrz, ↓uDrop, ↓uRet, ↓uIf, ↓uAsg, ↓uAsgO, ↓uPar2, ↓uPut, ↓uDPut, ↓uFor_eq, ↓uWhile_eq, ↓uSeqM_eq, ↓uBrk, ↓uCnt, ↓uWelD, ↓gSet, ↓gN, ↓gC, ↓gT, ↓zE, ↓zF, ↓oE, ↓oV, ↓wV, ↓wC, ↓wOp, ↓wUn, ↓app2, ↓app1, ↓wTst, ↓tAndD, ↓tOrD, ↓tNotD, ↓wAndV, ↓wOrV, ↓wNotV, ↓wIf, ↓wChain, ↓osN, ↓osC, getAll, ↓appN, ↓wCB, ↓appM, ↓wBM, ↓wBM0, ↓wN, ↓wCs, ↓wTup, ↓wLst, ↓wDic0, ↓wDicT, ↓aN, ↓aC, ↓aW, ↓wCall_eq, ↓wCallK_eq, perm, List.filterMap_cons, List.filterMap_nil, ↓wApp, ↓wExt, ↓wPop, ↓wPopAt, ↓wListA, ↓wRpl, ↓iX, ↓iL, ↓iT, ↓iS, ↓iR1, ↓iR2, ↓iScr, ↓iZD, ↓iE, ↓wComp_eq, ↓ttY, ↓wSl, ↓wPart, ↓plN, ↓wRev, ↓wListO, ↓wRep, ↓wLenSet, ↓wLenScr, ↓wWelI, ↓wWelPop, ↓wWelApp, ↓tWelNE, ↓wDisp, ↓psC, ↓psN, ↓wDIn, ↓wDNotIn, ↓askD, ↓fAdd, ↓fSub, ↓fII, ↓fII0, ↓fDiv, ↓fMod, ↓fPow, ↓fLt, ↓fGt, ↓fLe, ↓fGe, ↓fGtD, ↓fLtD, ↓fLeD, ↓fGeD, ↓fNeg, ↓fMul, ↓fEq, ↓fNe, ↓eqQ, ↓fIsN, ↓fNotN, isNone_1, isNone_2, isNone_3, isNone_4, isNone_5, isNone_6, isNone_7, ↓fInC, ↓fNotInC, ↓fSub_, ↓fIx, ↓fSl, ↓fLen, ↓fTuple, ↓fMin1, ↓fMax1, ↓fSum, ↓fAll, ↓fAny, ↓fSorted, ↓fSortS, ↓fAbs, ↓fInt, ↓fRepr, ↓fCnt, ↓fIdx, ↓fJoin, isStr,
 endsG, mem0, toEnt, Mem.set, Mem.view, Mem.kill, Mem.frz, Mem.ro, Ent.ro', Opd.get,
 List.set_cons_zero, List.set_cons_succ, List.getElem?_cons_zero, List.getElem?_cons_succ, List.map_cons, List.map_nil, List.length_cons, List.length_nil, List.cons_append, List.nil_append, List.replicate_succ, List.replicate_zero, Option.map_some, Option.map_none, List.cons.injEq, and_true, true_and, Arg.x.injEq, exists_eq_left, exists_eq_right, Option.some.injEq, Ent.ow.injEq, Ent.im.injEq, PyData.int.injEq, PyData.list.injEq, PyData.dict.injEq, PyData.tuple.injEq, PyData.str.injEq, exists_eq', exists_eq, decide_eq_true_eq, Bool.not_eq_true', ite_true, ite_false, decide_true, decide_false, decide_eq_false_iff_not, not_true_eq_false, not_false_eq_true, reduceCtorEq, eq_self, ek, ed]
          refine ⟨by rw [List.length_map]; exact small1000 (by omega), _, some (.im (.int (p : Nat))), rfl, ?_, fun x => ?_⟩
          · split
            · exact nd
            · rename_i h
              exact List.nodup_append.mpr ⟨nd, List.nodup_cons.mpr ⟨List.not_mem_nil, List.nodup_nil⟩, fun a ha b hb e => h (by rw [← List.mem_singleton.mp hb, ← e]; exact ha)⟩
          · rw [wp, List.map_append, List.mem_append, ← mem x, List.map_singleton, List.mem_singleton]
            split
            · rename_i h
              exact ⟨.inl, fun z => z.elim id fun e => by rw [e]; exact h⟩
            · rw [List.mem_append, List.mem_singleton]
      · rintro M' ⟨ts, e7, rfl, nd, mem⟩
        rw [rng_len] at mem
        have ew : (wins l n).take (l.length - n + 1) = wins l n := List.take_of_length_le (by rw [wins_len]; exact Nat.le_refl _)
        rw [ew] at mem
        have el : ts.length = dcount l n := Nat.le_antisymm (sub_len _ _ nd fun x hx => mem_distinct.mpr ((mem x).mp hx)) (sub_len _ _ (nodup_distinct _) fun x hx => (mem x).mpr (mem_distinct.mp hx))
        simp -dsimp only [↓uSeq, ↓uNext, ↓uKill, ↓uFrz, ↓uDrop, ↓uRet, ↓uIf, ↓uAsg, ↓uAsgO, ↓uPar2, ↓uPut, ↓uDPut, ↓uFor_eq, ↓uWhile_eq, ↓uSeqM_eq, ↓uBrk, ↓uCnt, ↓uWelD, ↓gSet, ↓gN, ↓gC, ↓gT, ↓zE, ↓zF, ↓oE, ↓oV, ↓wV, ↓wC, ↓wOp, ↓wUn, ↓app2, ↓app1, ↓wTst, ↓tAndD, ↓tOrD, ↓tNotD, ↓wAndV, ↓wOrV, ↓wNotV, ↓wIf, ↓wChain, ↓osN, ↓osC, getAll, ↓appN, ↓wCB, ↓appM, ↓wBM, ↓wBM0, ↓wN, ↓wCs, ↓wTup, ↓wLst, ↓wDic0, ↓wDicT, ↓aN, ↓aC, ↓aW, ↓wCall_eq, ↓wCallK_eq, perm, List.filterMap_cons, List.filterMap_nil, ↓wApp, ↓wExt, ↓wPop, ↓wPopAt, ↓wListA, ↓wRpl, ↓iX, ↓iL, ↓iT, ↓iS, ↓iR1, ↓iR2, ↓iScr, ↓iZD, ↓iE, ↓wComp_eq, ↓ttY, ↓wSl, ↓wPart, ↓plN, ↓wRev, ↓wListO, ↓wRep, ↓wLenSet, ↓wLenScr, ↓wWelI, ↓wWelPop, ↓wWelApp, ↓tWelNE, ↓wDisp, ↓psC, ↓psN, ↓wDIn, ↓wDNotIn, ↓askD, ↓fAdd, ↓fSub, ↓fII, ↓fII0, ↓fDiv, ↓fMod, ↓fPow, ↓fLt, ↓fGt, ↓fLe, ↓fGe, ↓fGtD, ↓fLtD, ↓fLeD, ↓fGeD, ↓fNeg, ↓fMul, ↓fEq, ↓fNe, ↓eqQ, ↓fIsN, ↓fNotN, isNone_1, isNone_2, isNone_3, isNone_4, isNone_5, isNone_6, isNone_7, ↓fInC, ↓fNotInC, ↓fSub_, ↓fIx, ↓fSl, ↓fLen, ↓fTuple, ↓fMin1, ↓fMax1, ↓fSum, ↓fAll, ↓fAny, ↓fSorted, ↓fSortS, ↓fAbs, ↓fInt, ↓fRepr, ↓fCnt, ↓fIdx, ↓fJoin, isStr,
 endsG, mem0, toEnt, Mem.set, Mem.view, Mem.kill, Mem.frz, Mem.ro, Ent.ro', Opd.get,
 List.set_cons_zero, List.set_cons_succ, List.getElem?_cons_zero, List.getElem?_cons_succ, List.map_cons, List.map_nil, List.length_cons, List.length_nil, List.cons_append, List.nil_append, List.replicate_succ, List.replicate_zero, Option.map_some, Option.map_none, List.cons.injEq, and_true, true_and, Arg.x.injEq, exists_eq_left, exists_eq_right, Option.some.injEq, Ent.ow.injEq, Ent.im.injEq, PyData.int.injEq, PyData.list.injEq, PyData.dict.injEq, PyData.tuple.injEq, PyData.str.injEq, exists_eq', exists_eq, decide_eq_true_eq, Bool.not_eq_true', ite_true, ite_false, decide_true, decide_false, decide_eq_false_iff_not, not_true_eq_false, not_false_eq_true, reduceCtorEq, eq_self, dpairs, List.length_map, el]
        refine ⟨by simp; exact small1000 (by omega), some (.im (.int (n : Nat))), some (.ow (.dict ((.none, .none) :: ts.map kv))), none, ?_⟩
        rw [List.range_succ (n := n), List.map_append, List.map_append]
        rfl
    · rintro M' ⟨e5, e6, e7, rfl⟩
      rw [rng_len]
      simp -dsimp only [↓uSeq, ↓uNext, ↓uKill, ↓uFrz, ↓uDrop, ↓uRet, ↓uIf, ↓uAsg, ↓uAsgO, ↓uPar2, ↓uPut, ↓uDPut, ↓uFor_eq, ↓uWhile_eq, ↓uSeqM_eq, ↓uBrk, ↓uCnt, ↓uWelD, ↓gSet, ↓gN, ↓gC, ↓gT, ↓zE, ↓zF, ↓oE, ↓oV, ↓wV, ↓wC, ↓wOp, ↓wUn, ↓app2, ↓app1, ↓wTst, ↓tAndD, ↓tOrD, ↓tNotD, ↓wAndV, ↓wOrV, ↓wNotV, ↓wIf, ↓wChain, ↓osN, ↓osC, getAll, ↓appN, ↓wCB, ↓appM, ↓wBM, ↓wBM0, ↓wN, ↓wCs, ↓wTup, ↓wLst, ↓wDic0, ↓wDicT, ↓aN, ↓aC, ↓aW, ↓wCall_eq, ↓wCallK_eq, perm, List.filterMap_cons, List.filterMap_nil, ↓wApp, ↓wExt, ↓wPop, ↓wPopAt, ↓wListA, ↓wRpl, ↓iX, ↓iL, ↓iT, ↓iS, ↓iR1, ↓iR2, ↓iScr, ↓iZD, ↓iE, ↓wComp_eq, ↓ttY, ↓wSl, ↓wPart, ↓plN, ↓wRev, ↓wListO, ↓wRep, ↓wLenSet, ↓wLenScr, ↓wWelI, ↓wWelPop, ↓wWelApp, ↓tWelNE, ↓wDisp, ↓psC, ↓psN, ↓wDIn, ↓wDNotIn, ↓askD, ↓fAdd, ↓fSub, ↓fII, ↓fII0, ↓fDiv, ↓fMod, ↓fPow, ↓fLt, ↓fGt, ↓fLe, ↓fGe, ↓fGtD, ↓fLtD, ↓fLeD, ↓fGeD, ↓fNeg, ↓fMul, ↓fEq, ↓fNe, ↓eqQ, ↓fIsN, ↓fNotN, isNone_1, isNone_2, isNone_3, isNone_4, isNone_5, isNone_6, isNone_7, ↓fInC, ↓fNotInC, ↓fSub_, ↓fIx, ↓fSl, ↓fLen, ↓fTuple, ↓fMin1, ↓fMax1, ↓fSum, ↓fAll, ↓fAny, ↓fSorted, ↓fSortS, ↓fAbs, ↓fInt, ↓fRepr, ↓fCnt, ↓fIdx, ↓fJoin, isStr,
 endsG, mem0, toEnt, Mem.set, Mem.view, Mem.kill, Mem.frz, Mem.ro, Ent.ro', Opd.get,
 List.set_cons_zero, List.set_cons_succ, List.getElem?_cons_zero, List.getElem?_cons_succ, List.map_cons, List.map_nil, List.length_cons, List.length_nil, List.cons_append, List.nil_append, List.replicate_succ, List.replicate_zero, Option.map_some, Option.map_none, List.cons.injEq, and_true, true_and, Arg.x.injEq, exists_eq_left, exists_eq_right, Option.some.injEq, Ent.ow.injEq, Ent.im.injEq, PyData.int.injEq, PyData.list.injEq, PyData.dict.injEq, PyData.tuple.injEq, PyData.str.injEq, exists_eq', exists_eq, decide_eq_true_eq, Bool.not_eq_true', ite_true, ite_false, decide_true, decide_false, decide_eq_false_iff_not, not_true_eq_false, not_false_eq_true, reduceCtorEq, eq_self]
      exact q
end DL

/-! M4: k82 -/
namespace DL
open PySem PySem.Spec L2 PyProof.Rows
def seg (l : List Nat) (p s : Nat) : List Nat := (l.drop p).take s
def Vl (l : List Nat) (o p s : Nat) : Prop := p < l.length ∧ 1 ≤ s ∧ p + o * s ≤ l.length
def IsFirst (V P : Nat → Nat → Prop) (r : PyData) : Prop := (r = .none ∧ ∀ p s, V p s → ¬ P p s) ∨ ∃ p s : Nat, r = .tuple [.int (p : Nat), .int (s : Nat)] ∧ V p s ∧ P p s ∧ ∀ p' s', V p' s' → (p' < p ∨ (p' = p ∧ s' < s)) → ¬ P p' s'
theorem IsFirst.one {V P : Nat → Nat → Prop} {r r' : PyData} (h : IsFirst V P r) (h' : IsFirst V P r') : r = r' := by
  rcases h with ⟨rfl, h⟩ | ⟨p, s, rfl, v, q, m⟩
  · rcases h' with ⟨rfl, _⟩ | ⟨p, s, rfl, v, q, m⟩
    · rfl
    · exact absurd q (h p s v)
  · rcases h' with ⟨rfl, h⟩ | ⟨p', s', rfl, v', q', m'⟩
    · exact absurd q (h p s v)
    · have h1 : ¬ (p < p' ∨ (p = p' ∧ s < s')) := fun z => m' p s v z q
      have h2 : ¬ (p' < p ∨ (p' = p ∧ s' < s)) := fun z => m p' s' v' z q'
      have e1 : p = p' := by omega
      have e2 : s = s' := by omega
      rw [e1, e2]
theorem IsFirst.iff {V P P' : Nat → Nat → Prop} {r : PyData} (h : IsFirst V P r) (hp : ∀ p s, V p s → (P p s ↔ P' p s)) : IsFirst V P' r := by
  rcases h with ⟨rfl, h⟩ | ⟨p, s, rfl, v, q, m⟩
  · exact .inl ⟨rfl, fun p s v z => h p s v ((hp p s v).mpr z)⟩
  · exact .inr ⟨p, s, rfl, v, (hp p s v).mp q, fun p' s' v' z w => m p' s' v' z ((hp p' s' v').mpr w)⟩
theorem IsFirst.sm {l : List Nat} {o : Nat} {P : Nat → Nat → Prop} {r : PyData} (h : IsFirst (Vl l o) P r) (ho : 1 ≤ o) (hl : l.length ≤ 100) : Sm 1 49 r := by
  rcases h with ⟨rfl, h⟩ | ⟨p, s, rfl, ⟨v1, v2, v3⟩, q, m⟩
  · exact Sm.none.mono (by omega) (by omega)
  · have : s ≤ o * s := Nat.le_mul_of_pos_left s ho
    refine Sm.tup (m := 2) (k := 21) (fun x hx => ?_) (Nat.le_refl _)
    simp at hx
    rcases hx with rfl | rfl
    · exact Sm.int (m := 20) (by decide) (by decide) (by omega)
    · exact Sm.int (m := 20) (by decide) (by decide) (by omega)
theorem rng_atL {d : PyData} {lo : Int} {n i : Nat} (h : (rng lo n)[i]? = some d) : i < n ∧ d = .int (lo + (i : Nat)) := by
  unfold rng at h
  rw [List.getElem?_map] at h
  obtain ⟨z, hz, e⟩ := Option.map_eq_some_iff.mp h
  have h1 := (List.getElem?_eq_some_iff.mp hz).1
  have h2 := (List.getElem?_eq_some_iff.mp hz).2
  simp at h1 h2
  subst h2
  exact ⟨h1, e.symm⟩
theorem eqv_ints : ∀ a b : List Int, PyData.eqvAll (a.map .int) (b.map .int) = decide (a = b)
  | [], [] => by simp [PyData.eqvAll]
  | [], _ :: _ => by simp [PyData.eqvAll]
  | _ :: _, [] => by simp [PyData.eqvAll]
  | a :: l, b :: m => by
    rw [List.map_cons, List.map_cons, PyData.eqvAll, eqv_ints l m, PyData.eqv, Bool.eq_iff_iff]
    simp
theorem eqv_tup (a b : List Int) : PyData.eqv (.tuple (a.map .int)) (.tuple (b.map .int)) = decide (a = b) := by rw [PyData.eqv, eqv_ints]
theorem seg_len (l : List Nat) (p s : Nat) : (seg l p s).length ≤ s := by unfold seg; rw [List.length_take]; omega
theorem seg_len2 (l : List Nat) (p s : Nat) : (seg l p s).length ≤ l.length := by unfold seg; rw [List.length_take, List.length_drop]; omega
theorem cts_sm {l : List Nat} (h : l.length ≤ 1000) : Sm 1 (4 * 23 + 3) (.tuple ((cts l).map .int)) := Sm.tup (k := 21) (fun x hx => by
  have c1 := List.count_le_length (a := 97) (l := l)
  have c2 := List.count_le_length (a := 98) (l := l)
  have c3 := List.count_le_length (a := 99) (l := l)
  have c4 := List.count_le_length (a := 100) (l := l)
  obtain ⟨y, hy, rfl⟩ := List.mem_map.mp hx
  unfold cts at hy
  simp only [List.mem_cons, List.not_mem_nil, or_false] at hy
  refine Sm.int (m := 20) (by decide) (by decide) ?_
  rcases hy with rfl | rfl | rfl | rfl <;> omega) (by simp [cts])
theorem boolsOf_f {α : Type} (f : α → Bool) (l : List α) : boolsOf (l.map fun c => PyData.bool (f c)) = some (l.map f) := by
  have := boolsOf_map (l.map f)
  rw [List.map_map] at this
  exact this
theorem cut_seg {l : List Nat} {p s : Nat} {i j : Int} (hi : i = (p : Nat)) (hj : j = (p : Nat) + (s : Nat)) : cut l (some i) (some j) = seg l p s := by
  subst hi hj
  rw [cut_lh (by omega) (by omega)]
  unfold seg
  congr 1
  omega
/-! are_pieces_like, _law_like -/
def PLike (l : List Nat) (o p s : Nat) : Prop := ∀ k, 1 ≤ k → k < o → cts (seg l (p + k * s) s) = cts (seg l p s)
def gLike : GSpec := fun args wl Q => ∃ (l : List Nat) (p s o : Nat), args = [.x (sD l), .x (.int (p : Nat)), .x (.int (s : Nat)), .x (.int (o : Nat))] ∧ l.length ≤ 100 ∧ 1 ≤ o ∧ o ≤ 20 ∧ Vl l o p s ∧ ∀ b : Bool, (b = true ↔ PLike l o p s) → Q (.bool b) wl
def g_are_pieces_like : GSpec := gLike
def g__law_like : GSpec := gLike
def g__law_counts : GSpec := g_counts_of
theorem like_i {l : List Nat} {p s o : Nat} {wl : Option Wel} {Q : PyData → Option Wel → Prop} {lk : Lock Q} (h1 : l.length ≤ 100) (h2 : 1 ≤ o) (h3 : o ≤ 20) (h4 : Vl l o p s) (q : ∀ b : Bool, (b = true ↔ PLike l o p s) → Q (.bool b) wl) :
    callG g_are_pieces_like [.x (sD l), .x (.int (p : Nat)), .x (.int (s : Nat)), .x (.int (o : Nat))] wl Q lk := ⟨l, p, s, o, rfl, h1, h2, h3, h4, q⟩
theorem llike_i {l : List Nat} {p s o : Nat} {wl : Option Wel} {Q : PyData → Option Wel → Prop} {lk : Lock Q} (h1 : l.length ≤ 100) (h2 : 1 ≤ o) (h3 : o ≤ 20) (h4 : Vl l o p s) (q : ∀ b : Bool, (b = true ↔ PLike l o p s) → Q (.bool b) wl) :
    callG g__law_like [.x (sD l), .x (.int (p : Nat)), .x (.int (s : Nat)), .x (.int (o : Nat))] wl Q lk := ⟨l, p, s, o, rfl, h1, h2, h3, h4, q⟩
theorem lcounts_i {l : List Nat} {wl : Option Wel} {Q : PyData → Option Wel → Prop} {lk : Lock Q} (q : Q (.tuple ((cts l).map .int)) wl) : callG g__law_counts [.x (sD l)] wl Q lk := ⟨l, rfl, q⟩
def u__law_counts : WS :=
  (uRet (wCB fTuple (osC (oE (wComp [1] (iX (wC (.str "abcd"))) (gSet 1) ttY (wBM isStr fCnt (oV 0) (osC (oV 1) osN)))) osN)))
theorem pf__law_counts (args : List Arg) (wl : Option Wel) (Q : PyData → Option Wel → Prop) (h : g__law_counts args wl Q) : u__law_counts noX (endsG Q) (mem0 2 args wl) := pf_counts_of args wl Q h
def u_are_pieces_like : WS :=
  (uSeq (uIf (tOrD (wTst (wOp fLt (oV 1) (oE (wC (.int 0))))) (wTst (wOp fGt (oE (wOp fAdd (oV 1) (oE (wOp fMul (oV 3) (oV 2))))) (oE (wCB fLen (osC (oV 0) osN))))))
  (uRet (wC (.bool false)))
  uNext)
  (uSeq (uAsg (wCall g_counts_of (aC (wSl (oV 0) (wPart (oV 1)) (wPart (oE (wOp fAdd (oV 1) (oV 2))))) aN)) (gSet 4))
  (uRet (wCB fAll (osC (oE (wComp [5] (iR2 (osC (oE (wC (.int 1))) (osC (oV 3) osN))) (gSet 5) ttY (wOp fEq (oE (wCall g_counts_of (aC (wSl (oV 0) (wPart (oE (wOp fAdd (oV 1) (oE (wOp fMul (oV 5) (oV 2)))))) (wPart (oE (wOp fAdd (oE (wOp fAdd (oV 1) (oE (wOp fMul (oV 5) (oV 2))))) (oV 2))))) aN))) (oV 4)))) osN)))))
theorem pf_are_pieces_like (args : List Arg) (wl : Option Wel) (Q : PyData → Option Wel → Prop) (h : g_are_pieces_like args wl Q) : u_are_pieces_like noX (endsG Q) (mem0 6 args wl) := by
  obtain ⟨l, p, s, o, rfl, hl, h1, h2, ⟨v1, v2, v3⟩, q⟩ := h
  have e3 : ((o : Int) * (s : Nat)) = ((o * s : Nat) : Int) := by push_cast; rfl
  have hs : s ≤ o * s := Nat.le_mul_of_pos_left s h1
  simp -dsimp only [u_are_pieces_like, ↓uSeq, ↓uNext, ↓uKill, ↓uFrz, ↓uDrop, ↓uRet, ↓uIf, ↓uAsg, ↓uAsgO, ↓uPar2, ↓uPut, ↓uDPut, ↓uFor_eq, ↓uWhile_eq, ↓uSeqM_eq, ↓uBrk, ↓uCnt, ↓uWelD, ↓gSet, ↓gN, ↓gC, ↓gT, ↓zE, ↓zF, ↓oE, ↓oV, ↓wV, ↓wC, ↓wOp, ↓wUn, ↓app2, ↓app1, ↓wTst, ↓tAndD, ↓tOrD, ↓tNotD, ↓wAndV, ↓wOrV, ↓wNotV, ↓wIf, ↓wChain, ↓osN, ↓osC, getAll, ↓appN, ↓wCB, ↓appM, ↓wBM, ↓wBM0, ↓wN, ↓wCs, ↓wTup, ↓wLst, ↓wDic0, ↓wDicT, ↓aN, ↓aC, ↓aW, ↓wCall_eq, ↓wCallK_eq, perm, List.filterMap_cons, List.filterMap_nil, ↓wApp, ↓wExt, ↓wPop, ↓wPopAt, ↓wListA, ↓wRpl, ↓iX, ↓iL, ↓iT, ↓iS, ↓iR1, ↓iR2, ↓iScr, ↓iZD, ↓iE, ↓wComp_eq, ↓ttY, ↓wSl, ↓wPart, ↓plN, ↓wRev, ↓wListO, ↓wRep, ↓wLenSet, ↓wLenScr, ↓wWelI, ↓wWelPop, ↓wWelApp, ↓tWelNE, ↓wDisp, ↓psC, ↓psN, ↓wDIn, ↓wDNotIn, ↓askD, ↓fAdd, ↓fSub, ↓fII, ↓fII0, ↓fDiv, ↓fMod, ↓fPow, ↓fLt, ↓fGt, ↓fLe, ↓fGe, ↓fGtD, ↓fLtD, ↓fLeD, ↓fGeD, ↓fNeg, ↓fMul, ↓fEq, ↓fNe, ↓eqQ, ↓fIsN, ↓fNotN, isNone_1, isNone_2, isNone_3, isNone_4, isNone_5, isNone_6, isNone_7, ↓fInC, ↓fNotInC, ↓fSub_, ↓fIx, ↓fSl, ↓fLen, ↓fTuple, ↓fMin1, ↓fMax1, ↓fSum, ↓fAll, ↓fAny, ↓fSorted, ↓fSortS, ↓fAbs, ↓fInt, ↓fRepr, ↓fCnt, ↓fIdx, ↓fJoin, isStr,
 endsG, mem0, toEnt, Mem.set, Mem.view, Mem.kill, Mem.frz, Mem.ro, Ent.ro', Opd.get,
 List.set_cons_zero, List.set_cons_succ, List.getElem?_cons_zero, List.getElem?_cons_succ, List.map_cons, List.map_nil, List.length_cons, List.length_nil, List.cons_append, List.nil_append, List.replicate_succ, List.replicate_zero, Option.map_some, Option.map_none, List.cons.injEq, and_true, true_and, Arg.x.injEq, exists_eq_left, exists_eq_right, Option.some.injEq, Ent.ow.injEq, Ent.im.injEq, PyData.int.injEq, PyData.list.injEq, PyData.dict.injEq, PyData.tuple.injEq, PyData.str.injEq, exists_eq', exists_eq, decide_eq_true_eq, Bool.not_eq_true', ite_true, ite_false, decide_true, decide_false, decide_eq_false_iff_not, not_true_eq_false, not_false_eq_true, reduceCtorEq, eq_self, S_cps]
  refine ite_i (fun h => absurd h (by omega)) (fun _ => ⟨.inl ⟨by omega, by omega⟩, zl _ (by omega), ite_i (fun h => absurd h (by rw [e3]; omega)) (fun _ => ⟨zl _ (by omega), ?_⟩)⟩)
  rw [cut_seg (p := p) (s := s) rfl rfl]
  refine counts_i ?_
  simp -dsimp only [↓uSeq, ↓uNext, ↓uKill, ↓uFrz, ↓uDrop, ↓uRet, ↓uIf, ↓uAsg, ↓uAsgO, ↓uPar2, ↓uPut, ↓uDPut, ↓uFor_eq, ↓uWhile_eq, ↓uSeqM_eq, ↓uBrk, ↓uCnt, ↓uWelD, ↓gSet, ↓gN, ↓gC, ↓gT, ↓zE, ↓zF, ↓oE, ↓oV, ↓wV, ↓wC, ↓wOp, ↓wUn, ↓app2, ↓app1, ↓wTst, ↓tAndD, ↓tOrD, ↓tNotD, ↓wAndV, ↓wOrV, ↓wNotV, ↓wIf, ↓wChain, ↓osN, ↓osC, getAll, ↓appN, ↓wCB, ↓appM, ↓wBM, ↓wBM0, ↓wN, ↓wCs, ↓wTup, ↓wLst, ↓wDic0, ↓wDicT, ↓aN, ↓aC, ↓aW, ↓wCall_eq, ↓wCallK_eq, perm, List.filterMap_cons, List.filterMap_nil, ↓wApp, ↓wExt, ↓wPop, ↓wPopAt, ↓wListA, ↓wRpl, ↓iX, ↓iL, ↓iT, ↓iS, ↓iR1, ↓iR2, ↓iScr, ↓iZD, ↓iE, ↓wComp_eq, ↓ttY, ↓wSl, ↓wPart, ↓plN, ↓wRev, ↓wListO, ↓wRep, ↓wLenSet, ↓wLenScr, ↓wWelI, ↓wWelPop, ↓wWelApp, ↓tWelNE, ↓wDisp, ↓psC, ↓psN, ↓wDIn, ↓wDNotIn, ↓askD, ↓fAdd, ↓fSub, ↓fII, ↓fII0, ↓fDiv, ↓fMod, ↓fPow, ↓fLt, ↓fGt, ↓fLe, ↓fGe, ↓fGtD, ↓fLtD, ↓fLeD, ↓fGeD, ↓fNeg, ↓fMul, ↓fEq, ↓fNe, ↓eqQ, ↓fIsN, ↓fNotN, isNone_1, isNone_2, isNone_3, isNone_4, isNone_5, isNone_6, isNone_7, ↓fInC, ↓fNotInC, ↓fSub_, ↓fIx, ↓fSl, ↓fLen, ↓fTuple, ↓fMin1, ↓fMax1, ↓fSum, ↓fAll, ↓fAny, ↓fSorted, ↓fSortS, ↓fAbs, ↓fInt, ↓fRepr, ↓fCnt, ↓fIdx, ↓fJoin, isStr,
 endsG, mem0, toEnt, Mem.set, Mem.view, Mem.kill, Mem.frz, Mem.ro, Ent.ro', Opd.get,
 List.set_cons_zero, List.set_cons_succ, List.getElem?_cons_zero, List.getElem?_cons_succ, List.map_cons, List.map_nil, List.length_cons, List.length_nil, List.cons_append, List.nil_append, List.replicate_succ, List.replicate_zero, Option.map_some, Option.map_none, List.cons.injEq, and_true, true_and, Arg.x.injEq, exists_eq_left, exists_eq_right, Option.some.injEq, Ent.ow.injEq, Ent.im.injEq, PyData.int.injEq, PyData.list.injEq, PyData.dict.injEq, PyData.tuple.injEq, PyData.str.injEq, exists_eq', exists_eq, decide_eq_true_eq, Bool.not_eq_true', ite_true, ite_false, decide_true, decide_false, decide_eq_false_iff_not, not_true_eq_false, not_false_eq_true, reduceCtorEq, eq_self]
  have e4 : ((o : Int) - 1).toNat = o - 1 := by omega
  rw [e4, rng_len]
  refine ⟨⟨by decide, by decide, by omega, by omega⟩, zl _ (by omega), comp_map (fun d => match d with
    | .int k => .bool (decide (cts (seg l (p + k.toNat * s) s) = cts (seg l p s)))
    | _ => .none) (fun d hd P hP => ?_) ?_⟩
  · obtain ⟨k, hk⟩ := List.getElem?_of_mem hd
    obtain ⟨hk, rfl⟩ := rng_atL hk
    have ek : ((1 : Int) + (k : Nat)) * (s : Nat) = (((1 + k) * s : Nat) : Int) := by push_cast; rfl
    have ek2 : (1 + (k : Int)).toNat = 1 + k := by omega
    simp -dsimp only [↓uSeq, ↓uNext, ↓uKill, ↓uFrz, ↓uDrop, ↓uRet, ↓uIf, ↓uAsg, ↓uAsgO, ↓uPar2, ↓uPut, ↓uDPut, ↓uFor_eq, ↓uWhile_eq, ↓uSeqM_eq, ↓uBrk, ↓uCnt, ↓uWelD, ↓gSet, ↓gN, ↓gC, ↓gT, ↓zE, ↓zF, ↓oE, ↓oV, ↓wV, ↓wC, ↓wOp, ↓wUn, ↓app2, ↓app1, ↓wTst, ↓tAndD, ↓tOrD, ↓tNotD, ↓wAndV, ↓wOrV, ↓wNotV, ↓wIf, ↓wChain, ↓osN, ↓osC, getAll, ↓appN, ↓wCB, ↓appM, ↓wBM, ↓wBM0, ↓wN, ↓wCs, ↓wTup, ↓wLst, ↓wDic0, ↓wDicT, ↓aN, ↓aC, ↓aW, ↓wCall_eq, ↓wCallK_eq, perm, List.filterMap_cons, List.filterMap_nil, ↓wApp, ↓wExt, ↓wPop, ↓wPopAt, ↓wListA, ↓wRpl, ↓iX, ↓iL, ↓iT, ↓iS, ↓iR1, ↓iR2, ↓iScr, ↓iZD, ↓iE, ↓wComp_eq, ↓ttY, ↓wSl, ↓wPart, ↓plN, ↓wRev, ↓wListO, ↓wRep, ↓wLenSet, ↓wLenScr, ↓wWelI, ↓wWelPop, ↓wWelApp, ↓tWelNE, ↓wDisp, ↓psC, ↓psN, ↓wDIn, ↓wDNotIn, ↓askD, ↓fAdd, ↓fSub, ↓fII, ↓fII0, ↓fDiv, ↓fMod, ↓fPow, ↓fLt, ↓fGt, ↓fLe, ↓fGe, ↓fGtD, ↓fLtD, ↓fLeD, ↓fGeD, ↓fNeg, ↓fMul, ↓fEq, ↓fNe, ↓eqQ, ↓fIsN, ↓fNotN, isNone_1, isNone_2, isNone_3, isNone_4, isNone_5, isNone_6, isNone_7, ↓fInC, ↓fNotInC, ↓fSub_, ↓fIx, ↓fSl, ↓fLen, ↓fTuple, ↓fMin1, ↓fMax1, ↓fSum, ↓fAll, ↓fAny, ↓fSorted, ↓fSortS, ↓fAbs, ↓fInt, ↓fRepr, ↓fCnt, ↓fIdx, ↓fJoin, isStr,
 endsG, mem0, toEnt, Mem.set, Mem.view, Mem.kill, Mem.frz, Mem.ro, Ent.ro', Opd.get,
 List.set_cons_zero, List.set_cons_succ, List.getElem?_cons_zero, List.getElem?_cons_succ, List.map_cons, List.map_nil, List.length_cons, List.length_nil, List.cons_append, List.nil_append, List.replicate_succ, List.replicate_zero, Option.map_some, Option.map_none, List.cons.injEq, and_true, true_and, Arg.x.injEq, exists_eq_left, exists_eq_right, Option.some.injEq, Ent.ow.injEq, Ent.im.injEq, PyData.int.injEq, PyData.list.injEq, PyData.dict.injEq, PyData.tuple.injEq, PyData.str.injEq, exists_eq', exists_eq, decide_eq_true_eq, Bool.not_eq_true', ite_true, ite_false, decide_true, decide_false, decide_eq_false_iff_not, not_true_eq_false, not_false_eq_true, reduceCtorEq, eq_self, S_cps]
    refine ⟨.inl ⟨by omega, by omega⟩, .inl ⟨by omega, by omega⟩, zl _ (by omega), ?_⟩
    rw [cut_seg (p := p + (1 + k) * s) (s := s) (by rw [ek]; push_cast; rfl) (by rw [ek]; push_cast; rfl)]
    refine counts_i ?_
    simp -dsimp only [↓uSeq, ↓uNext, ↓uKill, ↓uFrz, ↓uDrop, ↓uRet, ↓uIf, ↓uAsg, ↓uAsgO, ↓uPar2, ↓uPut, ↓uDPut, ↓uFor_eq, ↓uWhile_eq, ↓uSeqM_eq, ↓uBrk, ↓uCnt, ↓uWelD, ↓gSet, ↓gN, ↓gC, ↓gT, ↓zE, ↓zF, ↓oE, ↓oV, ↓wV, ↓wC, ↓wOp, ↓wUn, ↓app2, ↓app1, ↓wTst, ↓tAndD, ↓tOrD, ↓tNotD, ↓wAndV, ↓wOrV, ↓wNotV, ↓wIf, ↓wChain, ↓osN, ↓osC, getAll, ↓appN, ↓wCB, ↓appM, ↓wBM, ↓wBM0, ↓wN, ↓wCs, ↓wTup, ↓wLst, ↓wDic0, ↓wDicT, ↓aN, ↓aC, ↓aW, ↓wCall_eq, ↓wCallK_eq, perm, List.filterMap_cons, List.filterMap_nil, ↓wApp, ↓wExt, ↓wPop, ↓wPopAt, ↓wListA, ↓wRpl, ↓iX, ↓iL, ↓iT, ↓iS, ↓iR1, ↓iR2, ↓iScr, ↓iZD, ↓iE, ↓wComp_eq, ↓ttY, ↓wSl, ↓wPart, ↓plN, ↓wRev, ↓wListO, ↓wRep, ↓wLenSet, ↓wLenScr, ↓wWelI, ↓wWelPop, ↓wWelApp, ↓tWelNE, ↓wDisp, ↓psC, ↓psN, ↓wDIn, ↓wDNotIn, ↓askD, ↓fAdd, ↓fSub, ↓fII, ↓fII0, ↓fDiv, ↓fMod, ↓fPow, ↓fLt, ↓fGt, ↓fLe, ↓fGe, ↓fGtD, ↓fLtD, ↓fLeD, ↓fGeD, ↓fNeg, ↓fMul, ↓fEq, ↓fNe, ↓eqQ, ↓fIsN, ↓fNotN, isNone_1, isNone_2, isNone_3, isNone_4, isNone_5, isNone_6, isNone_7, ↓fInC, ↓fNotInC, ↓fSub_, ↓fIx, ↓fSl, ↓fLen, ↓fTuple, ↓fMin1, ↓fMax1, ↓fSum, ↓fAll, ↓fAny, ↓fSorted, ↓fSortS, ↓fAbs, ↓fInt, ↓fRepr, ↓fCnt, ↓fIdx, ↓fJoin, isStr,
 endsG, mem0, toEnt, Mem.set, Mem.view, Mem.kill, Mem.frz, Mem.ro, Ent.ro', Opd.get,
 List.set_cons_zero, List.set_cons_succ, List.getElem?_cons_zero, List.getElem?_cons_succ, List.map_cons, List.map_nil, List.length_cons, List.length_nil, List.cons_append, List.nil_append, List.replicate_succ, List.replicate_zero, Option.map_some, Option.map_none, List.cons.injEq, and_true, true_and, Arg.x.injEq, exists_eq_left, exists_eq_right, Option.some.injEq, Ent.ow.injEq, Ent.im.injEq, PyData.int.injEq, PyData.list.injEq, PyData.dict.injEq, PyData.tuple.injEq, PyData.str.injEq, exists_eq', exists_eq, decide_eq_true_eq, Bool.not_eq_true', ite_true, ite_false, decide_true, decide_false, decide_eq_false_iff_not, not_true_eq_false, not_false_eq_true, reduceCtorEq, eq_self, eqv_tup]
    refine ⟨(cts_sm (Nat.le_trans (seg_len2 _ _ _) (by omega))).eq (cts_sm (Nat.le_trans (seg_len2 _ _ _) (by omega))) (by omega) (by omega), ?_⟩
    simp only [ek2] at hP
    exact hP
  · have e5 : boolsOf ((rng 1 (o - 1)).map (fun d => match d with
      | .int k => PyData.bool (decide (cts (seg l (p + k.toNat * s) s) = cts (seg l p s)))
      | _ => PyData.none)) = some ((List.range (o - 1)).map fun k => decide (cts (seg l (p + (1 + k) * s) s) = cts (seg l p s))) := by
      rw [← boolsOf_f]
      unfold rng
      rw [List.map_map]
      refine congrArg boolsOf (List.map_congr_left fun k _ => ?_)
      have ek2 : (1 + (k : Int)).toNat = 1 + k := by omega
      show PyData.bool (decide (cts (seg l (p + (1 + (k : Int)).toNat * s) s) = cts (seg l p s))) = _
      rw [ek2]
    simp -dsimp only [↓uSeq, ↓uNext, ↓uKill, ↓uFrz, ↓uDrop, ↓uRet, ↓uIf, ↓uAsg, ↓uAsgO, ↓uPar2, ↓uPut, ↓uDPut, ↓uFor_eq, ↓uWhile_eq, ↓uSeqM_eq, ↓uBrk, ↓uCnt, ↓uWelD, ↓gSet, ↓gN, ↓gC, ↓gT, ↓zE, ↓zF, ↓oE, ↓oV, ↓wV, ↓wC, ↓wOp, ↓wUn, ↓app2, ↓app1, ↓wTst, ↓tAndD, ↓tOrD, ↓tNotD, ↓wAndV, ↓wOrV, ↓wNotV, ↓wIf, ↓wChain, ↓osN, ↓osC, getAll, ↓appN, ↓wCB, ↓appM, ↓wBM, ↓wBM0, ↓wN, ↓wCs, ↓wTup, ↓wLst, ↓wDic0, ↓wDicT, ↓aN, ↓aC, ↓aW, ↓wCall_eq, ↓wCallK_eq, perm, List.filterMap_cons, List.filterMap_nil, ↓wApp, ↓wExt, ↓wPop, ↓wPopAt, ↓wListA, ↓wRpl, ↓iX, ↓iL, ↓iT, ↓iS, ↓iR1, ↓iR2, ↓iScr, ↓iZD, ↓iE, ↓wComp_eq, ↓ttY, ↓wSl, ↓wPart, ↓plN, ↓wRev, ↓wListO, ↓wRep, ↓wLenSet, ↓wLenScr, ↓wWelI, ↓wWelPop, ↓wWelApp, ↓tWelNE, ↓wDisp, ↓psC, ↓psN, ↓wDIn, ↓wDNotIn, ↓askD, ↓fAdd, ↓fSub, ↓fII, ↓fII0, ↓fDiv, ↓fMod, ↓fPow, ↓fLt, ↓fGt, ↓fLe, ↓fGe, ↓fGtD, ↓fLtD, ↓fLeD, ↓fGeD, ↓fNeg, ↓fMul, ↓fEq, ↓fNe, ↓eqQ, ↓fIsN, ↓fNotN, isNone_1, isNone_2, isNone_3, isNone_4, isNone_5, isNone_6, isNone_7, ↓fInC, ↓fNotInC, ↓fSub_, ↓fIx, ↓fSl, ↓fLen, ↓fTuple, ↓fMin1, ↓fMax1, ↓fSum, ↓fAll, ↓fAny, ↓fSorted, ↓fSortS, ↓fAbs, ↓fInt, ↓fRepr, ↓fCnt, ↓fIdx, ↓fJoin, isStr,
 endsG, mem0, toEnt, Mem.set, Mem.view, Mem.kill, Mem.frz, Mem.ro, Ent.ro', Opd.get,
 List.set_cons_zero, List.set_cons_succ, List.getElem?_cons_zero, List.getElem?_cons_succ, List.map_cons, List.map_nil, List.length_cons, List.length_nil, List.cons_append, List.nil_append, List.replicate_succ, List.replicate_zero, Option.map_some, Option.map_none, List.cons.injEq, and_true, true_and, Arg.x.injEq, exists_eq_left, exists_eq_right, Option.some.injEq, Ent.ow.injEq, Ent.im.injEq, PyData.int.injEq, PyData.list.injEq, PyData.dict.injEq, PyData.tuple.injEq, PyData.str.injEq, exists_eq', exists_eq, decide_eq_true_eq, Bool.not_eq_true', ite_true, ite_false, decide_true, decide_false, decide_eq_false_iff_not, not_true_eq_false, not_false_eq_true, reduceCtorEq, eq_self, e5]
    refine q _ ?_
    rw [List.all_eq_true]
    constructor
    · intro h k hk1 hk2
      have := h _ (List.mem_map.mpr ⟨k - 1, List.mem_range.mpr (by omega), rfl⟩)
      have e6 : 1 + (k - 1) = k := by omega
      rw [e6] at this
      exact of_decide_eq_true this
    · intro h b hb
      obtain ⟨k, hk, rfl⟩ := List.mem_map.mp hb
      have := List.mem_range.mp hk
      exact decide_eq_true (h (1 + k) (by omega) (by omega))
def u__law_like : WS :=
  (uSeq (uAsg (wCall g__law_counts (aC (wSl (oV 0) (wPart (oV 1)) (wPart (oE (wOp fAdd (oV 1) (oV 2))))) aN)) (gSet 4))
  (uSeq (uFor [5] (iR2 (osC (oE (wC (.int 1))) (osC (oV 3) osN))) (gSet 5)
  (uIf (wTst (wOp fNe (oE (wCall g__law_counts (aC (wSl (oV 0) (wPart (oE (wOp fAdd (oV 1) (oE (wOp fMul (oV 5) (oV 2)))))) (wPart (oE (wOp fAdd (oE (wOp fAdd (oV 1) (oE (wOp fMul (oV 5) (oV 2))))) (oV 2))))) aN))) (oV 4)))
  (uRet (wC (.bool false)))
  uNext))
  (uRet (wC (.bool true)))))
theorem pf__law_like (args : List Arg) (wl : Option Wel) (Q : PyData → Option Wel → Prop) (h : g__law_like args wl Q) : u__law_like noX (endsG Q) (mem0 6 args wl) := by
  obtain ⟨l, p, s, o, rfl, hl, h1, h2, ⟨v1, v2, v3⟩, q⟩ := h
  have hs : s ≤ o * s := Nat.le_mul_of_pos_left s h1
  simp -dsimp only [u__law_like, ↓uSeq, ↓uNext, ↓uKill, ↓uFrz, ↓uDrop, ↓uRet, ↓uIf, ↓uAsg, ↓uAsgO, ↓uPar2, ↓uPut, ↓uDPut, ↓uFor_eq, ↓uWhile_eq, ↓uSeqM_eq, ↓uBrk, ↓uCnt, ↓uWelD, ↓gSet, ↓gN, ↓gC, ↓gT, ↓zE, ↓zF, ↓oE, ↓oV, ↓wV, ↓wC, ↓wOp, ↓wUn, ↓app2, ↓app1, ↓wTst, ↓tAndD, ↓tOrD, ↓tNotD, ↓wAndV, ↓wOrV, ↓wNotV, ↓wIf, ↓wChain, ↓osN, ↓osC, getAll, ↓appN, ↓wCB, ↓appM, ↓wBM, ↓wBM0, ↓wN, ↓wCs, ↓wTup, ↓wLst, ↓wDic0, ↓wDicT, ↓aN, ↓aC, ↓aW, ↓wCall_eq, ↓wCallK_eq, perm, List.filterMap_cons, List.filterMap_nil, ↓wApp, ↓wExt, ↓wPop, ↓wPopAt, ↓wListA, ↓wRpl, ↓iX, ↓iL, ↓iT, ↓iS, ↓iR1, ↓iR2, ↓iScr, ↓iZD, ↓iE, ↓wComp_eq, ↓ttY, ↓wSl, ↓wPart, ↓plN, ↓wRev, ↓wListO, ↓wRep, ↓wLenSet, ↓wLenScr, ↓wWelI, ↓wWelPop, ↓wWelApp, ↓tWelNE, ↓wDisp, ↓psC, ↓psN, ↓wDIn, ↓wDNotIn, ↓askD, ↓fAdd, ↓fSub, ↓fII, ↓fII0, ↓fDiv, ↓fMod, ↓fPow, ↓fLt, ↓fGt, ↓fLe, ↓fGe, ↓fGtD, ↓fLtD, ↓fLeD, ↓fGeD, ↓fNeg, ↓fMul, ↓fEq, ↓fNe, ↓eqQ, ↓fIsN, ↓fNotN, isNone_1, isNone_2, isNone_3, isNone_4, isNone_5, isNone_6, isNone_7, ↓fInC, ↓fNotInC, ↓fSub_, ↓fIx, ↓fSl, ↓fLen, ↓fTuple, ↓fMin1, ↓fMax1, ↓fSum, ↓fAll, ↓fAny, ↓fSorted, ↓fSortS, ↓fAbs, ↓fInt, ↓fRepr, ↓fCnt, ↓fIdx, ↓fJoin, isStr,
 endsG, mem0, toEnt, Mem.set, Mem.view, Mem.kill, Mem.frz, Mem.ro, Ent.ro', Opd.get,
 List.set_cons_zero, List.set_cons_succ, List.getElem?_cons_zero, List.getElem?_cons_succ, List.map_cons, List.map_nil, List.length_cons, List.length_nil, List.cons_append, List.nil_append, List.replicate_succ, List.replicate_zero, Option.map_some, Option.map_none, List.cons.injEq, and_true, true_and, Arg.x.injEq, exists_eq_left, exists_eq_right, Option.some.injEq, Ent.ow.injEq, Ent.im.injEq, PyData.int.injEq, PyData.list.injEq, PyData.dict.injEq, PyData.tuple.injEq, PyData.str.injEq, exists_eq', exists_eq, decide_eq_true_eq, Bool.not_eq_true', ite_true, ite_false, decide_true, decide_false, decide_eq_false_iff_not, not_true_eq_false, not_false_eq_true, reduceCtorEq, eq_self, S_cps]
  refine ⟨zl _ (by omega), ?_⟩
  rw [cut_seg (p := p) (s := s) rfl rfl]
  refine lcounts_i ?_
  simp -dsimp only [↓uSeq, ↓uNext, ↓uKill, ↓uFrz, ↓uDrop, ↓uRet, ↓uIf, ↓uAsg, ↓uAsgO, ↓uPar2, ↓uPut, ↓uDPut, ↓uFor_eq, ↓uWhile_eq, ↓uSeqM_eq, ↓uBrk, ↓uCnt, ↓uWelD, ↓gSet, ↓gN, ↓gC, ↓gT, ↓zE, ↓zF, ↓oE, ↓oV, ↓wV, ↓wC, ↓wOp, ↓wUn, ↓app2, ↓app1, ↓wTst, ↓tAndD, ↓tOrD, ↓tNotD, ↓wAndV, ↓wOrV, ↓wNotV, ↓wIf, ↓wChain, ↓osN, ↓osC, getAll, ↓appN, ↓wCB, ↓appM, ↓wBM, ↓wBM0, ↓wN, ↓wCs, ↓wTup, ↓wLst, ↓wDic0, ↓wDicT, ↓aN, ↓aC, ↓aW, ↓wCall_eq, ↓wCallK_eq, perm, List.filterMap_cons, List.filterMap_nil, ↓wApp, ↓wExt, ↓wPop, ↓wPopAt, ↓wListA, ↓wRpl, ↓iX, ↓iL, ↓iT, ↓iS, ↓iR1, ↓iR2, ↓iScr, ↓iZD, ↓iE, ↓wComp_eq, ↓ttY, ↓wSl, ↓wPart, ↓plN, ↓wRev, ↓wListO, ↓wRep, ↓wLenSet, ↓wLenScr, ↓wWelI, ↓wWelPop, ↓wWelApp, ↓tWelNE, ↓wDisp, ↓psC, ↓psN, ↓wDIn, ↓wDNotIn, ↓askD, ↓fAdd, ↓fSub, ↓fII, ↓fII0, ↓fDiv, ↓fMod, ↓fPow, ↓fLt, ↓fGt, ↓fLe, ↓fGe, ↓fGtD, ↓fLtD, ↓fLeD, ↓fGeD, ↓fNeg, ↓fMul, ↓fEq, ↓fNe, ↓eqQ, ↓fIsN, ↓fNotN, isNone_1, isNone_2, isNone_3, isNone_4, isNone_5, isNone_6, isNone_7, ↓fInC, ↓fNotInC, ↓fSub_, ↓fIx, ↓fSl, ↓fLen, ↓fTuple, ↓fMin1, ↓fMax1, ↓fSum, ↓fAll, ↓fAny, ↓fSorted, ↓fSortS, ↓fAbs, ↓fInt, ↓fRepr, ↓fCnt, ↓fIdx, ↓fJoin, isStr,
 endsG, mem0, toEnt, Mem.set, Mem.view, Mem.kill, Mem.frz, Mem.ro, Ent.ro', Opd.get,
 List.set_cons_zero, List.set_cons_succ, List.getElem?_cons_zero, List.getElem?_cons_succ, List.map_cons, List.map_nil, List.length_cons, List.length_nil, List.cons_append, List.nil_append, List.replicate_succ, List.replicate_zero, Option.map_some, Option.map_none, List.cons.injEq, and_true, true_and, Arg.x.injEq, exists_eq_left, exists_eq_right, Option.some.injEq, Ent.ow.injEq, Ent.im.injEq, PyData.int.injEq, PyData.list.injEq, PyData.dict.injEq, PyData.tuple.injEq, PyData.str.injEq, exists_eq', exists_eq, decide_eq_true_eq, Bool.not_eq_true', ite_true, ite_false, decide_true, decide_false, decide_eq_false_iff_not, not_true_eq_false, not_false_eq_true, reduceCtorEq, eq_self]
  have e4 : ((o : Int) - 1).toNat = o - 1 := by omega
  rw [e4]
  refine ⟨⟨by decide, by decide, by omega, by omega⟩, ?_⟩
  refine for_i (fun i M => (∃ e5 : Option Ent, M = ⟨[some (.im (sD l)), some (.im (.int (p : Nat))), some (.im (.int (s : Nat))), some (.im (.int (o : Nat))), some (.im (.tuple ((cts (seg l p s)).map .int))), e5], wl⟩) ∧ ∀ k, 1 ≤ k → k < 1 + i → cts (seg l (p + k * s) s) = cts (seg l p s)) ⟨⟨none, rfl⟩, fun k a b => absurd b (by omega)⟩ ?_ ?_
  · rintro k d M' hd ⟨⟨e5, rfl⟩, hk0⟩
    obtain ⟨hk, rfl⟩ := rng_atL hd
    have ek : ((1 : Int) + (k : Nat)) * (s : Nat) = (((1 + k) * s : Nat) : Int) := by push_cast; rfl
    simp -dsimp only [↓uSeq, ↓uNext, ↓uKill, ↓uFrz, ↓uDrop, ↓uRet, ↓uIf, ↓uAsg, ↓uAsgO, ↓uPar2, ↓uPut, ↓uDPut, ↓uFor_eq, ↓uWhile_eq, ↓uSeqM_eq, ↓uBrk, ↓uCnt, ↓uWelD, ↓gSet, ↓gN, ↓gC, ↓gT, ↓zE, ↓zF, ↓oE, ↓oV, ↓wV, ↓wC, ↓wOp, ↓wUn, ↓app2, ↓app1, ↓wTst, ↓tAndD, ↓tOrD, ↓tNotD, ↓wAndV, ↓wOrV, ↓wNotV, ↓wIf, ↓wChain, ↓osN, ↓osC, getAll, ↓appN, ↓wCB, ↓appM, ↓wBM, ↓wBM0, ↓wN, ↓wCs, ↓wTup, ↓wLst, ↓wDic0, ↓wDicT, ↓aN, ↓aC, ↓aW, ↓wCall_eq, ↓wCallK_eq, perm, List.filterMap_cons, List.filterMap_nil, ↓wApp, ↓wExt, ↓wPop, ↓wPopAt, ↓wListA, ↓wRpl, ↓iX, ↓iL, ↓iT, ↓iS, ↓iR1, ↓iR2, ↓iScr, ↓iZD, ↓iE, ↓wComp_eq, ↓ttY, ↓wSl, ↓wPart, ↓plN, ↓wRev, ↓wListO, ↓wRep, ↓wLenSet, ↓wLenScr, ↓wWelI, ↓wWelPop, ↓wWelApp, ↓tWelNE, ↓wDisp, ↓psC, ↓psN, ↓wDIn, ↓wDNotIn, ↓askD, ↓fAdd, ↓fSub, ↓fII, ↓fII0, ↓fDiv, ↓fMod, ↓fPow, ↓fLt, ↓fGt, ↓fLe, ↓fGe, ↓fGtD, ↓fLtD, ↓fLeD, ↓fGeD, ↓fNeg, ↓fMul, ↓fEq, ↓fNe, ↓eqQ, ↓fIsN, ↓fNotN, isNone_1, isNone_2, isNone_3, isNone_4, isNone_5, isNone_6, isNone_7, ↓fInC, ↓fNotInC, ↓fSub_, ↓fIx, ↓fSl, ↓fLen, ↓fTuple, ↓fMin1, ↓fMax1, ↓fSum, ↓fAll, ↓fAny, ↓fSorted, ↓fSortS, ↓fAbs, ↓fInt, ↓fRepr, ↓fCnt, ↓fIdx, ↓fJoin, isStr,
 endsG, mem0, toEnt, Mem.set, Mem.view, Mem.kill, Mem.frz, Mem.ro, Ent.ro', Opd.get,
 List.set_cons_zero, List.set_cons_succ, List.getElem?_cons_zero, List.getElem?_cons_succ, List.map_cons, List.map_nil, List.length_cons, List.length_nil, List.cons_append, List.nil_append, List.replicate_succ, List.replicate_zero, Option.map_some, Option.map_none, List.cons.injEq, and_true, true_and, Arg.x.injEq, exists_eq_left, exists_eq_right, Option.some.injEq, Ent.ow.injEq, Ent.im.injEq, PyData.int.injEq, PyData.list.injEq, PyData.dict.injEq, PyData.tuple.injEq, PyData.str.injEq, exists_eq', exists_eq, decide_eq_true_eq, Bool.not_eq_true', ite_true, ite_false, decide_true, decide_false, decide_eq_false_iff_not, not_true_eq_false, not_false_eq_true, reduceCtorEq, eq_self, S_cps]
    refine ⟨.inl ⟨by omega, by omega⟩, .inl ⟨by omega, by omega⟩, zl _ (by omega), ?_⟩
    rw [cut_seg (p := p + (1 + k) * s) (s := s) (by rw [ek]; push_cast; rfl) (by rw [ek]; push_cast; rfl)]
    refine lcounts_i ?_
    simp -dsimp only [↓uSeq, ↓uNext, ↓uKill, ↓uFrz, ↓uDrop, ↓uRet, ↓uIf, ↓uAsg, ↓uAsgO, ↓uPar2, ↓uPut, ↓uDPut, ↓uFor_eq, ↓uWhile_eq, ↓uSeqM_eq, ↓uBrk, ↓uCnt, ↓uWelD, ↓gSet, ↓gN, ↓gC, ↓gT, ↓zE, ↓zF, ↓oE, ↓oV, ↓wV, ↓wC, ↓wOp, ↓wUn, ↓app2, ↓app1, ↓wTst, ↓tAndD, ↓tOrD, ↓tNotD, ↓wAndV, ↓wOrV, ↓wNotV, ↓wIf, ↓wChain, ↓osN, ↓osC, getAll, ↓appN, ↓wCB, ↓appM, ↓wBM, ↓wBM0, ↓wN, ↓wCs, ↓wTup, ↓wLst, ↓wDic0, ↓wDicT, ↓aN, ↓aC, ↓aW, ↓wCall_eq, ↓wCallK_eq, perm, List.filterMap_cons, List.filterMap_nil, ↓wApp, ↓wExt, ↓wPop, ↓wPopAt, ↓wListA, ↓wRpl, ↓iX, ↓iL, ↓iT, ↓iS, ↓iR1, ↓iR2, ↓iScr, ↓iZD, ↓iE, ↓wComp_eq, ↓ttY, ↓wSl, ↓wPart, ↓plN, ↓wRev, ↓wListO, ↓wRep, ↓wLenSet, ↓wLenScr, ↓wWelI, ↓wWelPop, ↓wWelApp, ↓tWelNE, ↓wDisp, ↓psC, ↓psN, ↓wDIn, ↓wDNotIn, ↓askD, ↓fAdd, ↓fSub, ↓fII, ↓fII0, ↓fDiv, ↓fMod, ↓fPow, ↓fLt, ↓fGt, ↓fLe, ↓fGe, ↓fGtD, ↓fLtD, ↓fLeD, ↓fGeD, ↓fNeg, ↓fMul, ↓fEq, ↓fNe, ↓eqQ, ↓fIsN, ↓fNotN, isNone_1, isNone_2, isNone_3, isNone_4, isNone_5, isNone_6, isNone_7, ↓fInC, ↓fNotInC, ↓fSub_, ↓fIx, ↓fSl, ↓fLen, ↓fTuple, ↓fMin1, ↓fMax1, ↓fSum, ↓fAll, ↓fAny, ↓fSorted, ↓fSortS, ↓fAbs, ↓fInt, ↓fRepr, ↓fCnt, ↓fIdx, ↓fJoin, isStr,
 endsG, mem0, toEnt, Mem.set, Mem.view, Mem.kill, Mem.frz, Mem.ro, Ent.ro', Opd.get,
 List.set_cons_zero, List.set_cons_succ, List.getElem?_cons_zero, List.getElem?_cons_succ, List.map_cons, List.map_nil, List.length_cons, List.length_nil, List.cons_append, List.nil_append, List.replicate_succ, List.replicate_zero, Option.map_some, Option.map_none, List.cons.injEq, and_true, true_and, Arg.x.injEq, exists_eq_left, exists_eq_right, Option.some.injEq, Ent.ow.injEq, Ent.im.injEq, PyData.int.injEq, PyData.list.injEq, PyData.dict.injEq, PyData.tuple.injEq, PyData.str.injEq, exists_eq', exists_eq, decide_eq_true_eq, Bool.not_eq_true', ite_true, ite_false, decide_true, decide_false, decide_eq_false_iff_not, not_true_eq_false, not_false_eq_true, reduceCtorEq, eq_self, eqv_tup]
    refine ⟨(cts_sm (Nat.le_trans (seg_len2 _ _ _) (by omega))).eq (cts_sm (Nat.le_trans (seg_len2 _ _ _) (by omega))) (by omega) (by omega), ite_i (fun hc => ?_) (fun hc => ?_)⟩
    · exact q false ⟨fun z => (nomatch z), fun z => absurd (z (1 + k) (by omega) (by omega)) hc⟩
    · refine ⟨⟨_, rfl⟩, fun k' a b => ?_⟩
      by_cases e : k' = 1 + k
      · subst e
        exact Decidable.byContradiction hc
      · exact hk0 k' a (by omega)
  · rintro M' ⟨⟨e5, rfl⟩, hk0⟩
    rw [rng_len] at hk0
    simp -dsimp only [↓uSeq, ↓uNext, ↓uKill, ↓uFrz, ↓uDrop, ↓uRet, ↓uIf, ↓uAsg, ↓uAsgO, ↓uPar2, ↓uPut, ↓uDPut, ↓uFor_eq, ↓uWhile_eq, ↓uSeqM_eq, ↓uBrk, ↓uCnt, ↓uWelD, ↓gSet, ↓gN, ↓gC, ↓gT, ↓zE, ↓zF, ↓oE, ↓oV, ↓wV, ↓wC, ↓wOp, ↓wUn, ↓app2, ↓app1, ↓wTst, ↓tAndD, ↓tOrD, ↓tNotD, ↓wAndV, ↓wOrV, ↓wNotV, ↓wIf, ↓wChain, ↓osN, ↓osC, getAll, ↓appN, ↓wCB, ↓appM, ↓wBM, ↓wBM0, ↓wN, ↓wCs, ↓wTup, ↓wLst, ↓wDic0, ↓wDicT, ↓aN, ↓aC, ↓aW, ↓wCall_eq, ↓wCallK_eq, perm, List.filterMap_cons, List.filterMap_nil, ↓wApp, ↓wExt, ↓wPop, ↓wPopAt, ↓wListA, ↓wRpl, ↓iX, ↓iL, ↓iT, ↓iS, ↓iR1, ↓iR2, ↓iScr, ↓iZD, ↓iE, ↓wComp_eq, ↓ttY, ↓wSl, ↓wPart, ↓plN, ↓wRev, ↓wListO, ↓wRep, ↓wLenSet, ↓wLenScr, ↓wWelI, ↓wWelPop, ↓wWelApp, ↓tWelNE, ↓wDisp, ↓psC, ↓psN, ↓wDIn, ↓wDNotIn, ↓askD, ↓fAdd, ↓fSub, ↓fII, ↓fII0, ↓fDiv, ↓fMod, ↓fPow, ↓fLt, ↓fGt, ↓fLe, ↓fGe, ↓fGtD, ↓fLtD, ↓fLeD, ↓fGeD, ↓fNeg, ↓fMul, ↓fEq, ↓fNe, ↓eqQ, ↓fIsN, ↓fNotN, isNone_1, isNone_2, isNone_3, isNone_4, isNone_5, isNone_6, isNone_7, ↓fInC, ↓fNotInC, ↓fSub_, ↓fIx, ↓fSl, ↓fLen, ↓fTuple, ↓fMin1, ↓fMax1, ↓fSum, ↓fAll, ↓fAny, ↓fSorted, ↓fSortS, ↓fAbs, ↓fInt, ↓fRepr, ↓fCnt, ↓fIdx, ↓fJoin, isStr,
 endsG, mem0, toEnt, Mem.set, Mem.view, Mem.kill, Mem.frz, Mem.ro, Ent.ro', Opd.get,
 List.set_cons_zero, List.set_cons_succ, List.getElem?_cons_zero, List.getElem?_cons_succ, List.map_cons, List.map_nil, List.length_cons, List.length_nil, List.cons_append, List.nil_append, List.replicate_succ, List.replicate_zero, Option.map_some, Option.map_none, List.cons.injEq, and_true, true_and, Arg.x.injEq, exists_eq_left, exists_eq_right, Option.some.injEq, Ent.ow.injEq, Ent.im.injEq, PyData.int.injEq, PyData.list.injEq, PyData.dict.injEq, PyData.tuple.injEq, PyData.str.injEq, exists_eq', exists_eq, decide_eq_true_eq, Bool.not_eq_true', ite_true, ite_false, decide_true, decide_false, decide_eq_false_iff_not, not_true_eq_false, not_false_eq_true, reduceCtorEq, eq_self]
    exact q true ⟨fun _ k a b => hk0 k a (by omega), fun _ => rfl⟩
/-! count_power, _law_power -/
def gPow : GSpec := fun args wl Q => ∃ (l : List Nat) (o : Nat), args = [.x (sD l), .x (.int (o : Nat))] ∧ l.length ≤ 100 ∧ 1 ≤ o ∧ o ≤ 20 ∧ ∀ r, IsFirst (Vl l o) (PLike l o) r → Q r wl
theorem size_ok {l : List Nat} {o p j : Nat} (ho : 1 ≤ o) (hp : p < l.length) (hj : j < (l.length - p) / o) : Vl l o p (1 + j) := by
  refine ⟨hp, by omega, ?_⟩
  have : 1 + j ≤ (l.length - p) / o := by omega
  have := (Nat.le_div_iff_mul_le ho).mp this
  rw [Nat.mul_comm] at this
  omega
theorem size_all {l : List Nat} {o p s : Nat} (ho : 1 ≤ o) (h : Vl l o p s) : s < 1 + (l.length - p) / o := by
  have : s ≤ (l.length - p) / o := (Nat.le_div_iff_mul_le ho).mpr (by rw [Nat.mul_comm]; have := h.2.2; omega)
  omega
theorem div_int {l : List Nat} {o p : Nat} (hp : p < l.length) : (((l.length : Int) - p) / (o : Nat) + 1 - 1).toNat = (l.length - p) / o := by
  have e : ((l.length : Int) - p) = ((l.length - p : Nat) : Int) := by omega
  rw [e]
  have : (((l.length - p : Nat) : Int) / (o : Nat)) = (((l.length - p) / o : Nat) : Int) := by simp
  rw [this]
  generalize (l.length - p) / o = q
  omega
theorem div_bnd {l : List Nat} {o p : Nat} (hl : l.length ≤ 100) (hp : p < l.length) : ((l.length : Int) - p) / (o : Nat) + 1 ≤ 101 ∧ 0 ≤ ((l.length : Int) - p) / (o : Nat) := by
  have e : ((l.length : Int) - p) = ((l.length - p : Nat) : Int) := by omega
  have : (((l.length - p : Nat) : Int) / (o : Nat)) = (((l.length - p) / o : Nat) : Int) := by simp
  rw [e, this]
  have h3 := Nat.div_le_self (l.length - p) o
  generalize (l.length - p) / o = q at h3
  omega
def g_count_power : GSpec := gPow
theorem pow_i {l : List Nat} {o : Nat} {wl : Option Wel} {Q : PyData → Option Wel → Prop} {lk : Lock Q} (h1 : l.length ≤ 100) (h2 : 1 ≤ o) (h3 : o ≤ 20) (q : ∀ r, IsFirst (Vl l o) (PLike l o) r → Q r wl) : callG g_count_power [.x (sD l), .x (.int (o : Nat))] wl Q lk := ⟨l, o, rfl, h1, h2, h3, q⟩
def u_count_power : WS :=
  (uSeq (uFor [2, 3] (iR1 (osC (oE (wCB fLen (osC (oV 0) osN))) osN)) (gSet 2)
  (uFor [3] (iR2 (osC (oE (wC (.int 1))) (osC (oE (wOp fAdd (oE (wOp fDiv (oE (wOp fSub (oE (wCB fLen (osC (oV 0) osN))) (oV 2))) (oV 1))) (oE (wC (.int 1))))) osN))) (gSet 3)
  (uIf (wTst (wCall g_are_pieces_like (aC (wV 0) (aC (wV 2) (aC (wV 3) (aC (wV 1) aN))))))
  (uRet (wTup (wCs (wV 2) (wCs (wV 3) wN))))
  uNext)))
  (uRet (wC .none)))
theorem pf_count_power (args : List Arg) (wl : Option Wel) (Q : PyData → Option Wel → Prop) (h : g_count_power args wl Q) : u_count_power noX (endsG Q) (mem0 4 args wl) := by
  obtain ⟨l, o, rfl, hl, h1, h2, q⟩ := h
  simp -dsimp only [u_count_power, ↓uSeq, ↓uNext, ↓uKill, ↓uFrz, ↓uDrop, ↓uRet, ↓uIf, ↓uAsg, ↓uAsgO, ↓uPar2, ↓uPut, ↓uDPut, ↓uFor_eq, ↓uWhile_eq, ↓uSeqM_eq, ↓uBrk, ↓uCnt, ↓uWelD, ↓gSet, ↓gN, ↓gC, ↓gT, ↓zE, ↓zF, ↓oE, ↓oV, ↓wV, ↓wC, ↓wOp, ↓wUn, ↓app2, ↓app1, ↓wTst, ↓tAndD, ↓tOrD, ↓tNotD, ↓wAndV, ↓wOrV, ↓wNotV, ↓wIf, ↓wChain, ↓osN, ↓osC, getAll, ↓appN, ↓wCB, ↓appM, ↓wBM, ↓wBM0, ↓wN, ↓wCs, ↓wTup, ↓wLst, ↓wDic0, ↓wDicT, ↓aN, ↓aC, ↓aW, ↓wCall_eq, ↓wCallK_eq, perm, List.filterMap_cons, List.filterMap_nil, ↓wApp, ↓wExt, ↓wPop, ↓wPopAt, ↓wListA, ↓wRpl, ↓iX, ↓iL, ↓iT, ↓iS, ↓iR1, ↓iR2, ↓iScr, ↓iZD, ↓iE, ↓wComp_eq, ↓ttY, ↓wSl, ↓wPart, ↓plN, ↓wRev, ↓wListO, ↓wRep, ↓wLenSet, ↓wLenScr, ↓wWelI, ↓wWelPop, ↓wWelApp, ↓tWelNE, ↓wDisp, ↓psC, ↓psN, ↓wDIn, ↓wDNotIn, ↓askD, ↓fAdd, ↓fSub, ↓fII, ↓fII0, ↓fDiv, ↓fMod, ↓fPow, ↓fLt, ↓fGt, ↓fLe, ↓fGe, ↓fGtD, ↓fLtD, ↓fLeD, ↓fGeD, ↓fNeg, ↓fMul, ↓fEq, ↓fNe, ↓eqQ, ↓fIsN, ↓fNotN, isNone_1, isNone_2, isNone_3, isNone_4, isNone_5, isNone_6, isNone_7, ↓fInC, ↓fNotInC, ↓fSub_, ↓fIx, ↓fSl, ↓fLen, ↓fTuple, ↓fMin1, ↓fMax1, ↓fSum, ↓fAll, ↓fAny, ↓fSorted, ↓fSortS, ↓fAbs, ↓fInt, ↓fRepr, ↓fCnt, ↓fIdx, ↓fJoin, isStr,
 endsG, mem0, toEnt, Mem.set, Mem.view, Mem.kill, Mem.frz, Mem.ro, Ent.ro', Opd.get,
 List.set_cons_zero, List.set_cons_succ, List.getElem?_cons_zero, List.getElem?_cons_succ, List.map_cons, List.map_nil, List.length_cons, List.length_nil, List.cons_append, List.nil_append, List.replicate_succ, List.replicate_zero, Option.map_some, Option.map_none, List.cons.injEq, and_true, true_and, Arg.x.injEq, exists_eq_left, exists_eq_right, Option.some.injEq, Ent.ow.injEq, Ent.im.injEq, PyData.int.injEq, PyData.list.injEq, PyData.dict.injEq, PyData.tuple.injEq, PyData.str.injEq, exists_eq', exists_eq, decide_eq_true_eq, Bool.not_eq_true', ite_true, ite_false, decide_true, decide_false, decide_eq_false_iff_not, not_true_eq_false, not_false_eq_true, reduceCtorEq, eq_self, S_cps]
  rw [Int.toNat_natCast]
  refine ⟨zl _ (by omega), ⟨by omega, by omega⟩, ?_⟩
  refine for_i (fun i M => (∃ e2 e3 : Option Ent, M = ⟨[some (.im (sD l)), some (.im (.int (o : Nat))), e2, e3], wl⟩) ∧ ∀ p s, p < i → Vl l o p s → ¬ PLike l o p s) ⟨⟨none, none, rfl⟩, fun p s a b => absurd a (by omega)⟩ ?_ ?_
  · rintro p d M' hd ⟨⟨e2, e3, rfl⟩, h0⟩
    obtain ⟨hp, rfl⟩ := rng_at hd
    obtain ⟨b1, b2⟩ := div_bnd (o := o) hl hp
    simp -dsimp only [↓uSeq, ↓uNext, ↓uKill, ↓uFrz, ↓uDrop, ↓uRet, ↓uIf, ↓uAsg, ↓uAsgO, ↓uPar2, ↓uPut, ↓uDPut, ↓uFor_eq, ↓uWhile_eq, ↓uSeqM_eq, ↓uBrk, ↓uCnt, ↓uWelD, ↓gSet, ↓gN, ↓gC, ↓gT, ↓zE, ↓zF, ↓oE, ↓oV, ↓wV, ↓wC, ↓wOp, ↓wUn, ↓app2, ↓app1, ↓wTst, ↓tAndD, ↓tOrD, ↓tNotD, ↓wAndV, ↓wOrV, ↓wNotV, ↓wIf, ↓wChain, ↓osN, ↓osC, getAll, ↓appN, ↓wCB, ↓appM, ↓wBM, ↓wBM0, ↓wN, ↓wCs, ↓wTup, ↓wLst, ↓wDic0, ↓wDicT, ↓aN, ↓aC, ↓aW, ↓wCall_eq, ↓wCallK_eq, perm, List.filterMap_cons, List.filterMap_nil, ↓wApp, ↓wExt, ↓wPop, ↓wPopAt, ↓wListA, ↓wRpl, ↓iX, ↓iL, ↓iT, ↓iS, ↓iR1, ↓iR2, ↓iScr, ↓iZD, ↓iE, ↓wComp_eq, ↓ttY, ↓wSl, ↓wPart, ↓plN, ↓wRev, ↓wListO, ↓wRep, ↓wLenSet, ↓wLenScr, ↓wWelI, ↓wWelPop, ↓wWelApp, ↓tWelNE, ↓wDisp, ↓psC, ↓psN, ↓wDIn, ↓wDNotIn, ↓askD, ↓fAdd, ↓fSub, ↓fII, ↓fII0, ↓fDiv, ↓fMod, ↓fPow, ↓fLt, ↓fGt, ↓fLe, ↓fGe, ↓fGtD, ↓fLtD, ↓fLeD, ↓fGeD, ↓fNeg, ↓fMul, ↓fEq, ↓fNe, ↓eqQ, ↓fIsN, ↓fNotN, isNone_1, isNone_2, isNone_3, isNone_4, isNone_5, isNone_6, isNone_7, ↓fInC, ↓fNotInC, ↓fSub_, ↓fIx, ↓fSl, ↓fLen, ↓fTuple, ↓fMin1, ↓fMax1, ↓fSum, ↓fAll, ↓fAny, ↓fSorted, ↓fSortS, ↓fAbs, ↓fInt, ↓fRepr, ↓fCnt, ↓fIdx, ↓fJoin, isStr,
 endsG, mem0, toEnt, Mem.set, Mem.view, Mem.kill, Mem.frz, Mem.ro, Ent.ro', Opd.get,
 List.set_cons_zero, List.set_cons_succ, List.getElem?_cons_zero, List.getElem?_cons_succ, List.map_cons, List.map_nil, List.length_cons, List.length_nil, List.cons_append, List.nil_append, List.replicate_succ, List.replicate_zero, Option.map_some, Option.map_none, List.cons.injEq, and_true, true_and, Arg.x.injEq, exists_eq_left, exists_eq_right, Option.some.injEq, Ent.ow.injEq, Ent.im.injEq, PyData.int.injEq, PyData.list.injEq, PyData.dict.injEq, PyData.tuple.injEq, PyData.str.injEq, exists_eq', exists_eq, decide_eq_true_eq, Bool.not_eq_true', ite_true, ite_false, decide_true, decide_false, decide_eq_false_iff_not, not_true_eq_false, not_false_eq_true, reduceCtorEq, eq_self, S_cps]
    rw [div_int hp]
    refine ⟨zl _ (by omega), divW (by omega) (by omega), ⟨by decide, by decide, by omega, by omega⟩, ?_⟩
    refine for_i (fun j M => (∃ e3 : Option Ent, M = ⟨[some (.im (sD l)), some (.im (.int (o : Nat))), some (.im (.int (p : Nat))), e3], wl⟩) ∧ ∀ s, s < 1 + j → Vl l o p s → ¬ PLike l o p s) ⟨⟨none, rfl⟩, fun s a b => absurd b.2.1 (by omega)⟩ ?_ ?_
    · rintro j d M' hd ⟨⟨e3, rfl⟩, h3⟩
      obtain ⟨hj, rfl⟩ := rng_atL hd
      have v := size_ok h1 hp hj
      have ec : (1 : Int) + (j : Nat) = ((1 + j : Nat) : Int) := by push_cast; rfl
      simp -dsimp only [↓uSeq, ↓uNext, ↓uKill, ↓uFrz, ↓uDrop, ↓uRet, ↓uIf, ↓uAsg, ↓uAsgO, ↓uPar2, ↓uPut, ↓uDPut, ↓uFor_eq, ↓uWhile_eq, ↓uSeqM_eq, ↓uBrk, ↓uCnt, ↓uWelD, ↓gSet, ↓gN, ↓gC, ↓gT, ↓zE, ↓zF, ↓oE, ↓oV, ↓wV, ↓wC, ↓wOp, ↓wUn, ↓app2, ↓app1, ↓wTst, ↓tAndD, ↓tOrD, ↓tNotD, ↓wAndV, ↓wOrV, ↓wNotV, ↓wIf, ↓wChain, ↓osN, ↓osC, getAll, ↓appN, ↓wCB, ↓appM, ↓wBM, ↓wBM0, ↓wN, ↓wCs, ↓wTup, ↓wLst, ↓wDic0, ↓wDicT, ↓aN, ↓aC, ↓aW, ↓wCall_eq, ↓wCallK_eq, perm, List.filterMap_cons, List.filterMap_nil, ↓wApp, ↓wExt, ↓wPop, ↓wPopAt, ↓wListA, ↓wRpl, ↓iX, ↓iL, ↓iT, ↓iS, ↓iR1, ↓iR2, ↓iScr, ↓iZD, ↓iE, ↓wComp_eq, ↓ttY, ↓wSl, ↓wPart, ↓plN, ↓wRev, ↓wListO, ↓wRep, ↓wLenSet, ↓wLenScr, ↓wWelI, ↓wWelPop, ↓wWelApp, ↓tWelNE, ↓wDisp, ↓psC, ↓psN, ↓wDIn, ↓wDNotIn, ↓askD, ↓fAdd, ↓fSub, ↓fII, ↓fII0, ↓fDiv, ↓fMod, ↓fPow, ↓fLt, ↓fGt, ↓fLe, ↓fGe, ↓fGtD, ↓fLtD, ↓fLeD, ↓fGeD, ↓fNeg, ↓fMul, ↓fEq, ↓fNe, ↓eqQ, ↓fIsN, ↓fNotN, isNone_1, isNone_2, isNone_3, isNone_4, isNone_5, isNone_6, isNone_7, ↓fInC, ↓fNotInC, ↓fSub_, ↓fIx, ↓fSl, ↓fLen, ↓fTuple, ↓fMin1, ↓fMax1, ↓fSum, ↓fAll, ↓fAny, ↓fSorted, ↓fSortS, ↓fAbs, ↓fInt, ↓fRepr, ↓fCnt, ↓fIdx, ↓fJoin, isStr,
 endsG, mem0, toEnt, Mem.set, Mem.view, Mem.kill, Mem.frz, Mem.ro, Ent.ro', Opd.get,
 List.set_cons_zero, List.set_cons_succ, List.getElem?_cons_zero, List.getElem?_cons_succ, List.map_cons, List.map_nil, List.length_cons, List.length_nil, List.cons_append, List.nil_append, List.replicate_succ, List.replicate_zero, Option.map_some, Option.map_none, List.cons.injEq, and_true, true_and, Arg.x.injEq, exists_eq_left, exists_eq_right, Option.some.injEq, Ent.ow.injEq, Ent.im.injEq, PyData.int.injEq, PyData.list.injEq, PyData.dict.injEq, PyData.tuple.injEq, PyData.str.injEq, exists_eq', exists_eq, decide_eq_true_eq, Bool.not_eq_true', ite_true, ite_false, decide_true, decide_false, decide_eq_false_iff_not, not_true_eq_false, not_false_eq_true, reduceCtorEq, eq_self, ec]
      refine like_i hl h1 h2 v fun b hb => ?_
      simp -dsimp only [↓uSeq, ↓uNext, ↓uKill, ↓uFrz, ↓uDrop, ↓uRet, ↓uIf, ↓uAsg, ↓uAsgO, ↓uPar2, ↓uPut, ↓uDPut, ↓uFor_eq, ↓uWhile_eq, ↓uSeqM_eq, ↓uBrk, ↓uCnt, ↓uWelD, ↓gSet, ↓gN, ↓gC, ↓gT, ↓zE, ↓zF, ↓oE, ↓oV, ↓wV, ↓wC, ↓wOp, ↓wUn, ↓app2, ↓app1, ↓wTst, ↓tAndD, ↓tOrD, ↓tNotD, ↓wAndV, ↓wOrV, ↓wNotV, ↓wIf, ↓wChain, ↓osN, ↓osC, getAll, ↓appN, ↓wCB, ↓appM, ↓wBM, ↓wBM0, ↓wN, ↓wCs, ↓wTup, ↓wLst, ↓wDic0, ↓wDicT, ↓aN, ↓aC, ↓aW, ↓wCall_eq, ↓wCallK_eq, perm, List.filterMap_cons, List.filterMap_nil, ↓wApp, ↓wExt, ↓wPop, ↓wPopAt, ↓wListA, ↓wRpl, ↓iX, ↓iL, ↓iT, ↓iS, ↓iR1, ↓iR2, ↓iScr, ↓iZD, ↓iE, ↓wComp_eq, ↓ttY, ↓wSl, ↓wPart, ↓plN, ↓wRev, ↓wListO, ↓wRep, ↓wLenSet, ↓wLenScr, ↓wWelI, ↓wWelPop, ↓wWelApp, ↓tWelNE, ↓wDisp, ↓psC, ↓psN, ↓wDIn, ↓wDNotIn, ↓askD, ↓fAdd, ↓fSub, ↓fII, ↓fII0, ↓fDiv, ↓fMod, ↓fPow, ↓fLt, ↓fGt, ↓fLe, ↓fGe, ↓fGtD, ↓fLtD, ↓fLeD, ↓fGeD, ↓fNeg, ↓fMul, ↓fEq, ↓fNe, ↓eqQ, ↓fIsN, ↓fNotN, isNone_1, isNone_2, isNone_3, isNone_4, isNone_5, isNone_6, isNone_7, ↓fInC, ↓fNotInC, ↓fSub_, ↓fIx, ↓fSl, ↓fLen, ↓fTuple, ↓fMin1, ↓fMax1, ↓fSum, ↓fAll, ↓fAny, ↓fSorted, ↓fSortS, ↓fAbs, ↓fInt, ↓fRepr, ↓fCnt, ↓fIdx, ↓fJoin, isStr,
 endsG, mem0, toEnt, Mem.set, Mem.view, Mem.kill, Mem.frz, Mem.ro, Ent.ro', Opd.get,
 List.set_cons_zero, List.set_cons_succ, List.getElem?_cons_zero, List.getElem?_cons_succ, List.map_cons, List.map_nil, List.length_cons, List.length_nil, List.cons_append, List.nil_append, List.replicate_succ, List.replicate_zero, Option.map_some, Option.map_none, List.cons.injEq, and_true, true_and, Arg.x.injEq, exists_eq_left, exists_eq_right, Option.some.injEq, Ent.ow.injEq, Ent.im.injEq, PyData.int.injEq, PyData.list.injEq, PyData.dict.injEq, PyData.tuple.injEq, PyData.str.injEq, exists_eq', exists_eq, decide_eq_true_eq, Bool.not_eq_true', ite_true, ite_false, decide_true, decide_false, decide_eq_false_iff_not, not_true_eq_false, not_false_eq_true, reduceCtorEq, eq_self]
      refine ite_i (fun hc => ?_) (fun hc => ?_)
      · refine ⟨by decide, q _ (.inr ⟨p, 1 + j, rfl, v, hb.mp hc, fun p' s' v' z => ?_⟩)⟩
        rcases z with z | ⟨rfl, z⟩
        · exact h0 p' s' z v'
        · exact h3 s' z v'
      · refine ⟨⟨_, rfl⟩, fun s a vs => ?_⟩
        by_cases e : s = 1 + j
        · subst e
          exact fun z => hc (hb.mpr z)
        · exact h3 s (by omega) vs
    · rintro M' ⟨⟨e3, rfl⟩, h3⟩
      rw [rng_len] at h3
      simp -dsimp only [↓uSeq, ↓uNext, ↓uKill, ↓uFrz, ↓uDrop, ↓uRet, ↓uIf, ↓uAsg, ↓uAsgO, ↓uPar2, ↓uPut, ↓uDPut, ↓uFor_eq, ↓uWhile_eq, ↓uSeqM_eq, ↓uBrk, ↓uCnt, ↓uWelD, ↓gSet, ↓gN, ↓gC, ↓gT, ↓zE, ↓zF, ↓oE, ↓oV, ↓wV, ↓wC, ↓wOp, ↓wUn, ↓app2, ↓app1, ↓wTst, ↓tAndD, ↓tOrD, ↓tNotD, ↓wAndV, ↓wOrV, ↓wNotV, ↓wIf, ↓wChain, ↓osN, ↓osC, getAll, ↓appN, ↓wCB, ↓appM, ↓wBM, ↓wBM0, ↓wN, ↓wCs, ↓wTup, ↓wLst, ↓wDic0, ↓wDicT, ↓aN, ↓aC, ↓aW, ↓wCall_eq, ↓wCallK_eq, perm, List.filterMap_cons, List.filterMap_nil, ↓wApp, ↓wExt, ↓wPop, ↓wPopAt, ↓wListA, ↓wRpl, ↓iX, ↓iL, ↓iT, ↓iS, ↓iR1, ↓iR2, ↓iScr, ↓iZD, ↓iE, ↓wComp_eq, ↓ttY, ↓wSl, ↓wPart, ↓plN, ↓wRev, ↓wListO, ↓wRep, ↓wLenSet, ↓wLenScr, ↓wWelI, ↓wWelPop, ↓wWelApp, ↓tWelNE, ↓wDisp, ↓psC, ↓psN, ↓wDIn, ↓wDNotIn, ↓askD, ↓fAdd, ↓fSub, ↓fII, ↓fII0, ↓fDiv, ↓fMod, ↓fPow, ↓fLt, ↓fGt, ↓fLe, ↓fGe, ↓fGtD, ↓fLtD, ↓fLeD, ↓fGeD, ↓fNeg, ↓fMul, ↓fEq, ↓fNe, ↓eqQ, ↓fIsN, ↓fNotN, isNone_1, isNone_2, isNone_3, isNone_4, isNone_5, isNone_6, isNone_7, ↓fInC, ↓fNotInC, ↓fSub_, ↓fIx, ↓fSl, ↓fLen, ↓fTuple, ↓fMin1, ↓fMax1, ↓fSum, ↓fAll, ↓fAny, ↓fSorted, ↓fSortS, ↓fAbs, ↓fInt, ↓fRepr, ↓fCnt, ↓fIdx, ↓fJoin, isStr,
 endsG, mem0, toEnt, Mem.set, Mem.view, Mem.kill, Mem.frz, Mem.ro, Ent.ro', Opd.get,
 List.set_cons_zero, List.set_cons_succ, List.getElem?_cons_zero, List.getElem?_cons_succ, List.map_cons, List.map_nil, List.length_cons, List.length_nil, List.cons_append, List.nil_append, List.replicate_succ, List.replicate_zero, Option.map_some, Option.map_none, List.cons.injEq, and_true, true_and, Arg.x.injEq, exists_eq_left, exists_eq_right, Option.some.injEq, Ent.ow.injEq, Ent.im.injEq, PyData.int.injEq, PyData.list.injEq, PyData.dict.injEq, PyData.tuple.injEq, PyData.str.injEq, exists_eq', exists_eq, decide_eq_true_eq, Bool.not_eq_true', ite_true, ite_false, decide_true, decide_false, decide_eq_false_iff_not, not_true_eq_false, not_false_eq_true, reduceCtorEq, eq_self]
      refine ⟨⟨_, _, rfl⟩, fun p' s a vs => ?_⟩
      by_cases e : p' = p
      · subst e
        exact h3 s (size_all h1 vs) vs
      · exact h0 p' s (by omega) vs
  · rintro M' ⟨⟨e2, e3, rfl⟩, h0⟩
    rw [rng_len] at h0
    simp -dsimp only [↓uSeq, ↓uNext, ↓uKill, ↓uFrz, ↓uDrop, ↓uRet, ↓uIf, ↓uAsg, ↓uAsgO, ↓uPar2, ↓uPut, ↓uDPut, ↓uFor_eq, ↓uWhile_eq, ↓uSeqM_eq, ↓uBrk, ↓uCnt, ↓uWelD, ↓gSet, ↓gN, ↓gC, ↓gT, ↓zE, ↓zF, ↓oE, ↓oV, ↓wV, ↓wC, ↓wOp, ↓wUn, ↓app2, ↓app1, ↓wTst, ↓tAndD, ↓tOrD, ↓tNotD, ↓wAndV, ↓wOrV, ↓wNotV, ↓wIf, ↓wChain, ↓osN, ↓osC, getAll, ↓appN, ↓wCB, ↓appM, ↓wBM, ↓wBM0, ↓wN, ↓wCs, ↓wTup, ↓wLst, ↓wDic0, ↓wDicT, ↓aN, ↓aC, ↓aW, ↓wCall_eq, ↓wCallK_eq, perm, List.filterMap_cons, List.filterMap_nil, ↓wApp, ↓wExt, ↓wPop, ↓wPopAt, ↓wListA, ↓wRpl, ↓iX, ↓iL, ↓iT, ↓iS, ↓iR1, ↓iR2, ↓iScr, ↓iZD, ↓iE, ↓wComp_eq, ↓ttY, ↓wSl, ↓wPart, ↓plN, ↓wRev, ↓wListO, ↓wRep, ↓wLenSet, ↓wLenScr, ↓wWelI, ↓wWelPop, ↓wWelApp, ↓tWelNE, ↓wDisp, ↓psC, ↓psN, ↓wDIn, ↓wDNotIn, ↓askD, ↓fAdd, ↓fSub, ↓fII, ↓fII0, ↓fDiv, ↓fMod, ↓fPow, ↓fLt, ↓fGt, ↓fLe, ↓fGe, ↓fGtD, ↓fLtD, ↓fLeD, ↓fGeD, ↓fNeg, ↓fMul, ↓fEq, ↓fNe, ↓eqQ, ↓fIsN, ↓fNotN, isNone_1, isNone_2, isNone_3, isNone_4, isNone_5, isNone_6, isNone_7, ↓fInC, ↓fNotInC, ↓fSub_, ↓fIx, ↓fSl, ↓fLen, ↓fTuple, ↓fMin1, ↓fMax1, ↓fSum, ↓fAll, ↓fAny, ↓fSorted, ↓fSortS, ↓fAbs, ↓fInt, ↓fRepr, ↓fCnt, ↓fIdx, ↓fJoin, isStr,
 endsG, mem0, toEnt, Mem.set, Mem.view, Mem.kill, Mem.frz, Mem.ro, Ent.ro', Opd.get,
 List.set_cons_zero, List.set_cons_succ, List.getElem?_cons_zero, List.getElem?_cons_succ, List.map_cons, List.map_nil, List.length_cons, List.length_nil, List.cons_append, List.nil_append, List.replicate_succ, List.replicate_zero, Option.map_some, Option.map_none, List.cons.injEq, and_true, true_and, Arg.x.injEq, exists_eq_left, exists_eq_right, Option.some.injEq, Ent.ow.injEq, Ent.im.injEq, PyData.int.injEq, PyData.list.injEq, PyData.dict.injEq, PyData.tuple.injEq, PyData.str.injEq, exists_eq', exists_eq, decide_eq_true_eq, Bool.not_eq_true', ite_true, ite_false, decide_true, decide_false, decide_eq_false_iff_not, not_true_eq_false, not_false_eq_true, reduceCtorEq, eq_self]
    exact q _ (.inl ⟨rfl, fun p s v => h0 p s v.1 v⟩)
def g__law_power : GSpec := gPow
theorem lpow_i {l : List Nat} {o : Nat} {wl : Option Wel} {Q : PyData → Option Wel → Prop} {lk : Lock Q} (h1 : l.length ≤ 100) (h2 : 1 ≤ o) (h3 : o ≤ 20) (q : ∀ r, IsFirst (Vl l o) (PLike l o) r → Q r wl) : callG g__law_power [.x (sD l), .x (.int (o : Nat))] wl Q lk := ⟨l, o, rfl, h1, h2, h3, q⟩
def u__law_power : WS :=
  (uSeq (uFor [2, 3] (iR1 (osC (oE (wCB fLen (osC (oV 0) osN))) osN)) (gSet 2)
  (uFor [3] (iR2 (osC (oE (wC (.int 1))) (osC (oE (wOp fAdd (oE (wOp fDiv (oE (wOp fSub (oE (wCB fLen (osC (oV 0) osN))) (oV 2))) (oV 1))) (oE (wC (.int 1))))) osN))) (gSet 3)
  (uIf (wTst (wCall g__law_like (aC (wV 0) (aC (wV 2) (aC (wV 3) (aC (wV 1) aN))))))
  (uRet (wTup (wCs (wV 2) (wCs (wV 3) wN))))
  uNext)))
  (uRet (wC .none)))
theorem pf__law_power (args : List Arg) (wl : Option Wel) (Q : PyData → Option Wel → Prop) (h : g__law_power args wl Q) : u__law_power noX (endsG Q) (mem0 4 args wl) := by
  obtain ⟨l, o, rfl, hl, h1, h2, q⟩ := h
  simp -dsimp only [u__law_power, ↓uSeq, ↓uNext, ↓uKill, ↓uFrz, ↓uDrop, ↓uRet, ↓uIf, ↓uAsg, ↓uAsgO, ↓uPar2, ↓uPut, ↓uDPut, ↓uFor_eq, ↓uWhile_eq, ↓uSeqM_eq, ↓uBrk, ↓uCnt, ↓uWelD, ↓gSet, ↓gN, ↓gC, ↓gT, ↓zE, ↓zF, ↓oE, ↓oV, ↓wV, ↓wC, ↓wOp, ↓wUn, ↓app2, ↓app1, ↓wTst, ↓tAndD, ↓tOrD, ↓tNotD, ↓wAndV, ↓wOrV, ↓wNotV, ↓wIf, ↓wChain, ↓osN, ↓osC, getAll, ↓appN, ↓wCB, ↓appM, ↓wBM, ↓wBM0, ↓wN, ↓wCs, ↓wTup, ↓wLst, ↓wDic0, ↓wDicT, ↓aN, ↓aC, ↓aW, ↓wCall_eq, ↓wCallK_eq, perm, List.filterMap_cons, List.filterMap_nil, ↓wApp, ↓wExt, ↓wPop, ↓wPopAt, ↓wListA, ↓wRpl, ↓iX, ↓iL, ↓iT, ↓iS, ↓iR1, ↓iR2, ↓iScr, ↓iZD, ↓iE, ↓wComp_eq, ↓ttY, ↓wSl, ↓wPart, ↓plN, ↓wRev, ↓wListO, ↓wRep, ↓wLenSet, ↓wLenScr, ↓wWelI, ↓wWelPop, ↓wWelApp, ↓tWelNE, ↓wDisp, ↓psC, ↓psN, ↓wDIn, ↓wDNotIn, ↓askD, ↓fAdd, ↓fSub, ↓fII, ↓fII0, ↓fDiv, ↓fMod, ↓fPow, ↓fLt, ↓fGt, ↓fLe, ↓fGe, ↓fGtD, ↓fLtD, ↓fLeD, ↓fGeD, ↓fNeg, ↓fMul, ↓fEq, ↓fNe, ↓eqQ, ↓fIsN, ↓fNotN, isNone_1, isNone_2, isNone_3, isNone_4, isNone_5, isNone_6, isNone_7, ↓fInC, ↓fNotInC, ↓fSub_, ↓fIx, ↓fSl, ↓fLen, ↓fTuple, ↓fMin1, ↓fMax1, ↓fSum, ↓fAll, ↓fAny, ↓fSorted, ↓fSortS, ↓fAbs, ↓fInt, ↓fRepr, ↓fCnt, ↓fIdx, ↓fJoin, isStr,
 endsG, mem0, toEnt, Mem.set, Mem.view, Mem.kill, Mem.frz, Mem.ro, Ent.ro', Opd.get,
 List.set_cons_zero, List.set_cons_succ, List.getElem?_cons_zero, List.getElem?_cons_succ, List.map_cons, List.map_nil, List.length_cons, List.length_nil, List.cons_append, List.nil_append, List.replicate_succ, List.replicate_zero, Option.map_some, Option.map_none, List.cons.injEq, and_true, true_and, Arg.x.injEq, exists_eq_left, exists_eq_right, Option.some.injEq, Ent.ow.injEq, Ent.im.injEq, PyData.int.injEq, PyData.list.injEq, PyData.dict.injEq, PyData.tuple.injEq, PyData.str.injEq, exists_eq', exists_eq, decide_eq_true_eq, Bool.not_eq_true', ite_true, ite_false, decide_true, decide_false, decide_eq_false_iff_not, not_true_eq_false, not_false_eq_true, reduceCtorEq, eq_self, S_cps]
  rw [Int.toNat_natCast]
  refine ⟨zl _ (by omega), ⟨by omega, by omega⟩, ?_⟩
  refine for_i (fun i M => (∃ e2 e3 : Option Ent, M = ⟨[some (.im (sD l)), some (.im (.int (o : Nat))), e2, e3], wl⟩) ∧ ∀ p s, p < i → Vl l o p s → ¬ PLike l o p s) ⟨⟨none, none, rfl⟩, fun p s a b => absurd a (by omega)⟩ ?_ ?_
  · rintro p d M' hd ⟨⟨e2, e3, rfl⟩, h0⟩
    obtain ⟨hp, rfl⟩ := rng_at hd
    obtain ⟨b1, b2⟩ := div_bnd (o := o) hl hp
    simp -dsimp only [↓uSeq, ↓uNext, ↓uKill, ↓uFrz, ↓uDrop, ↓uRet, ↓uIf, ↓uAsg, ↓uAsgO, ↓uPar2, ↓uPut, ↓uDPut, ↓uFor_eq, ↓uWhile_eq, ↓uSeqM_eq, ↓uBrk, ↓uCnt, ↓uWelD, ↓gSet, ↓gN, ↓gC, ↓gT, ↓zE, ↓zF, ↓oE, ↓oV, ↓wV, ↓wC, ↓wOp, ↓wUn, ↓app2, ↓app1, ↓wTst, ↓tAndD, ↓tOrD, ↓tNotD, ↓wAndV, ↓wOrV, ↓wNotV, ↓wIf, ↓wChain, ↓osN, ↓osC, getAll, ↓appN, ↓wCB, ↓appM, ↓wBM, ↓wBM0, ↓wN, ↓wCs, ↓wTup, ↓wLst, ↓wDic0, ↓wDicT, ↓aN, ↓aC, ↓aW, ↓wCall_eq, ↓wCallK_eq, perm, List.filterMap_cons, List.filterMap_nil, ↓wApp, ↓wExt, ↓wPop, ↓wPopAt, ↓wListA, ↓wRpl, ↓iX, ↓iL, ↓iT, ↓iS, ↓iR1, ↓iR2, ↓iScr, ↓iZD, ↓iE, ↓wComp_eq, ↓ttY, ↓wSl, ↓wPart, ↓plN, ↓wRev, ↓wListO, ↓wRep, ↓wLenSet, ↓wLenScr, ↓wWelI, ↓wWelPop, ↓wWelApp, ↓tWelNE, ↓wDisp, ↓psC, ↓psN, ↓wDIn, ↓wDNotIn, ↓askD, ↓fAdd, ↓fSub, ↓fII, ↓fII0, ↓fDiv, ↓fMod, ↓fPow, ↓fLt, ↓fGt, ↓fLe, ↓fGe, ↓fGtD, ↓fLtD, ↓fLeD, ↓fGeD, ↓fNeg, ↓fMul, ↓fEq, ↓fNe, ↓eqQ, ↓fIsN, ↓fNotN, isNone_1, isNone_2, isNone_3, isNone_4, isNone_5, isNone_6, isNone_7, ↓fInC, ↓fNotInC, ↓fSub_, ↓fIx, ↓fSl, ↓fLen, ↓fTuple, ↓fMin1, ↓fMax1, ↓fSum, ↓fAll, ↓fAny, ↓fSorted, ↓fSortS, ↓fAbs, ↓fInt, ↓fRepr, ↓fCnt, ↓fIdx, ↓fJoin, isStr,
 endsG, mem0, toEnt, Mem.set, Mem.view, Mem.kill, Mem.frz, Mem.ro, Ent.ro', Opd.get,
 List.set_cons_zero, List.set_cons_succ, List.getElem?_cons_zero, List.getElem?_cons_succ, List.map_cons, List.map_nil, List.length_cons, List.length_nil, List.cons_append, List.nil_append, List.replicate_succ, List.replicate_zero, Option.map_some, Option.map_none, List.cons.injEq, and_true, true_and, Arg.x.injEq, exists_eq_left, exists_eq_right, Option.some.injEq, Ent.ow.injEq, Ent.im.injEq, PyData.int.injEq, PyData.list.injEq, PyData.dict.injEq, PyData.tuple.injEq, PyData.str.injEq, exists_eq', exists_eq, decide_eq_true_eq, Bool.not_eq_true', ite_true, ite_false, decide_true, decide_false, decide_eq_false_iff_not, not_true_eq_false, not_false_eq_true, reduceCtorEq, eq_self, S_cps]
    rw [div_int hp]
    refine ⟨zl _ (by omega), divW (by omega) (by omega), ⟨by decide, by decide, by omega, by omega⟩, ?_⟩
    refine for_i (fun j M => (∃ e3 : Option Ent, M = ⟨[some (.im (sD l)), some (.im (.int (o : Nat))), some (.im (.int (p : Nat))), e3], wl⟩) ∧ ∀ s, s < 1 + j → Vl l o p s → ¬ PLike l o p s) ⟨⟨none, rfl⟩, fun s a b => absurd b.2.1 (by omega)⟩ ?_ ?_
    · rintro j d M' hd ⟨⟨e3, rfl⟩, h3⟩
      obtain ⟨hj, rfl⟩ := rng_atL hd
      have v := size_ok h1 hp hj
      have ec : (1 : Int) + (j : Nat) = ((1 + j : Nat) : Int) := by push_cast; rfl
      simp -dsimp only [↓uSeq, ↓uNext, ↓uKill, ↓uFrz, ↓uDrop, ↓uRet, ↓uIf, ↓uAsg, ↓uAsgO, ↓uPar2, ↓uPut, ↓uDPut, ↓uFor_eq, ↓uWhile_eq, ↓uSeqM_eq, ↓uBrk, ↓uCnt, ↓uWelD, ↓gSet, ↓gN, ↓gC, ↓gT, ↓zE, ↓zF, ↓oE, ↓oV, ↓wV, ↓wC, ↓wOp, ↓wUn, ↓app2, ↓app1, ↓wTst, ↓tAndD, ↓tOrD, ↓tNotD, ↓wAndV, ↓wOrV, ↓wNotV, ↓wIf, ↓wChain, ↓osN, ↓osC, getAll, ↓appN, ↓wCB, ↓appM, ↓wBM, ↓wBM0, ↓wN, ↓wCs, ↓wTup, ↓wLst, ↓wDic0, ↓wDicT, ↓aN, ↓aC, ↓aW, ↓wCall_eq, ↓wCallK_eq, perm, List.filterMap_cons, List.filterMap_nil, ↓wApp, ↓wExt, ↓wPop, ↓wPopAt, ↓wListA, ↓wRpl, ↓iX, ↓iL, ↓iT, ↓iS, ↓iR1, ↓iR2, ↓iScr, ↓iZD, ↓iE, ↓wComp_eq, ↓ttY, ↓wSl, ↓wPart, ↓plN, ↓wRev, ↓wListO, ↓wRep, ↓wLenSet, ↓wLenScr, ↓wWelI, ↓wWelPop, ↓wWelApp, ↓tWelNE, ↓wDisp, ↓psC, ↓psN, ↓wDIn, ↓wDNotIn, ↓askD, ↓fAdd, ↓fSub, ↓fII, ↓fII0, ↓fDiv, ↓fMod, ↓fPow, ↓fLt, ↓fGt, ↓fLe, ↓fGe, ↓fGtD, ↓fLtD, ↓fLeD, ↓fGeD, ↓fNeg, ↓fMul, ↓fEq, ↓fNe, ↓eqQ, ↓fIsN, ↓fNotN, isNone_1, isNone_2, isNone_3, isNone_4, isNone_5, isNone_6, isNone_7, ↓fInC, ↓fNotInC, ↓fSub_, ↓fIx, ↓fSl, ↓fLen, ↓fTuple, ↓fMin1, ↓fMax1, ↓fSum, ↓fAll, ↓fAny, ↓fSorted, ↓fSortS, ↓fAbs, ↓fInt, ↓fRepr, ↓fCnt, ↓fIdx, ↓fJoin, isStr,
 endsG, mem0, toEnt, Mem.set, Mem.view, Mem.kill, Mem.frz, Mem.ro, Ent.ro', Opd.get,
 List.set_cons_zero, List.set_cons_succ, List.getElem?_cons_zero, List.getElem?_cons_succ, List.map_cons, List.map_nil, List.length_cons, List.length_nil, List.cons_append, List.nil_append, List.replicate_succ, List.replicate_zero, Option.map_some, Option.map_none, List.cons.injEq, and_true, true_and, Arg.x.injEq, exists_eq_left, exists_eq_right, Option.some.injEq, Ent.ow.injEq, Ent.im.injEq, PyData.int.injEq, PyData.list.injEq, PyData.dict.injEq, PyData.tuple.injEq, PyData.str.injEq, exists_eq', exists_eq, decide_eq_true_eq, Bool.not_eq_true', ite_true, ite_false, decide_true, decide_false, decide_eq_false_iff_not, not_true_eq_false, not_false_eq_true, reduceCtorEq, eq_self, ec]
      refine llike_i hl h1 h2 v fun b hb => ?_
      simp -dsimp only [↓uSeq, ↓uNext, ↓uKill, ↓uFrz, ↓uDrop, ↓uRet, ↓uIf, ↓uAsg, ↓uAsgO, ↓uPar2, ↓uPut, ↓uDPut, ↓uFor_eq, ↓uWhile_eq, ↓uSeqM_eq, ↓uBrk, ↓uCnt, ↓uWelD, ↓gSet, ↓gN, ↓gC, ↓gT, ↓zE, ↓zF, ↓oE, ↓oV, ↓wV, ↓wC, ↓wOp, ↓wUn, ↓app2, ↓app1, ↓wTst, ↓tAndD, ↓tOrD, ↓tNotD, ↓wAndV, ↓wOrV, ↓wNotV, ↓wIf, ↓wChain, ↓osN, ↓osC, getAll, ↓appN, ↓wCB, ↓appM, ↓wBM, ↓wBM0, ↓wN, ↓wCs, ↓wTup, ↓wLst, ↓wDic0, ↓wDicT, ↓aN, ↓aC, ↓aW, ↓wCall_eq, ↓wCallK_eq, perm, List.filterMap_cons, List.filterMap_nil, ↓wApp, ↓wExt, ↓wPop, ↓wPopAt, ↓wListA, ↓wRpl, ↓iX, ↓iL, ↓iT, ↓iS, ↓iR1, ↓iR2, ↓iScr, ↓iZD, ↓iE, ↓wComp_eq, ↓ttY, ↓wSl, ↓wPart, ↓plN, ↓wRev, ↓wListO, ↓wRep, ↓wLenSet, ↓wLenScr, ↓wWelI, ↓wWelPop, ↓wWelApp, ↓tWelNE, ↓wDisp, ↓psC, ↓psN, ↓wDIn, ↓wDNotIn, ↓askD, ↓fAdd, ↓fSub, ↓fII, ↓fII0, ↓fDiv, ↓fMod, ↓fPow, ↓fLt, ↓fGt, ↓fLe, ↓fGe, ↓fGtD, ↓fLtD, ↓fLeD, ↓fGeD, ↓fNeg, ↓fMul, ↓fEq, ↓fNe, ↓eqQ, ↓fIsN, ↓fNotN, isNone_1, isNone_2, isNone_3, isNone_4, isNone_5, isNone_6, isNone_7, ↓fInC, ↓fNotInC, ↓fSub_, ↓fIx, ↓fSl, ↓fLen, ↓fTuple, ↓fMin1, ↓fMax1, ↓fSum, ↓fAll, ↓fAny, ↓fSorted, ↓fSortS, ↓fAbs, ↓fInt, ↓fRepr, ↓fCnt, ↓fIdx, ↓fJoin, isStr,
 endsG, mem0, toEnt, Mem.set, Mem.view, Mem.kill, Mem.frz, Mem.ro, Ent.ro', Opd.get,
 List.set_cons_zero, List.set_cons_succ, List.getElem?_cons_zero, List.getElem?_cons_succ, List.map_cons, List.map_nil, List.length_cons, List.length_nil, List.cons_append, List.nil_append, List.replicate_succ, List.replicate_zero, Option.map_some, Option.map_none, List.cons.injEq, and_true, true_and, Arg.x.injEq, exists_eq_left, exists_eq_right, Option.some.injEq, Ent.ow.injEq, Ent.im.injEq, PyData.int.injEq, PyData.list.injEq, PyData.dict.injEq, PyData.tuple.injEq, PyData.str.injEq, exists_eq', exists_eq, decide_eq_true_eq, Bool.not_eq_true', ite_true, ite_false, decide_true, decide_false, decide_eq_false_iff_not, not_true_eq_false, not_false_eq_true, reduceCtorEq, eq_self]
      refine ite_i (fun hc => ?_) (fun hc => ?_)
      · refine ⟨by decide, q _ (.inr ⟨p, 1 + j, rfl, v, hb.mp hc, fun p' s' v' z => ?_⟩)⟩
        rcases z with z | ⟨rfl, z⟩
        · exact h0 p' s' z v'
        · exact h3 s' z v'
      · refine ⟨⟨_, rfl⟩, fun s a vs => ?_⟩
        by_cases e : s = 1 + j
        · subst e
          exact fun z => hc (hb.mpr z)
        · exact h3 s (by omega) vs
    · rintro M' ⟨⟨e3, rfl⟩, h3⟩
      rw [rng_len] at h3
      simp -dsimp only [↓uSeq, ↓uNext, ↓uKill, ↓uFrz, ↓uDrop, ↓uRet, ↓uIf, ↓uAsg, ↓uAsgO, ↓uPar2, ↓uPut, ↓uDPut, ↓uFor_eq, ↓uWhile_eq, ↓uSeqM_eq, ↓uBrk, ↓uCnt, ↓uWelD, ↓gSet, ↓gN, ↓gC, ↓gT, ↓zE, ↓zF, ↓oE, ↓oV, ↓wV, ↓wC, ↓wOp, ↓wUn, ↓app2, ↓app1, ↓wTst, ↓tAndD, ↓tOrD, ↓tNotD, ↓wAndV, ↓wOrV, ↓wNotV, ↓wIf, ↓wChain, ↓osN, ↓osC, getAll, ↓appN, ↓wCB, ↓appM, ↓wBM, ↓wBM0, ↓wN, ↓wCs, ↓wTup, ↓wLst, ↓wDic0, ↓wDicT, ↓aN, ↓aC, ↓aW, ↓wCall_eq, ↓wCallK_eq, perm, List.filterMap_cons, List.filterMap_nil, ↓wApp, ↓wExt, ↓wPop, ↓wPopAt, ↓wListA, ↓wRpl, ↓iX, ↓iL, ↓iT, ↓iS, ↓iR1, ↓iR2, ↓iScr, ↓iZD, ↓iE, ↓wComp_eq, ↓ttY, ↓wSl, ↓wPart, ↓plN, ↓wRev, ↓wListO, ↓wRep, ↓wLenSet, ↓wLenScr, ↓wWelI, ↓wWelPop, ↓wWelApp, ↓tWelNE, ↓wDisp, ↓psC, ↓psN, ↓wDIn, ↓wDNotIn, ↓askD, ↓fAdd, ↓fSub, ↓fII, ↓fII0, ↓fDiv, ↓fMod, ↓fPow, ↓fLt, ↓fGt, ↓fLe, ↓fGe, ↓fGtD, ↓fLtD, ↓fLeD, ↓fGeD, ↓fNeg, ↓fMul, ↓fEq, ↓fNe, ↓eqQ, ↓fIsN, ↓fNotN, isNone_1, isNone_2, isNone_3, isNone_4, isNone_5, isNone_6, isNone_7, ↓fInC, ↓fNotInC, ↓fSub_, ↓fIx, ↓fSl, ↓fLen, ↓fTuple, ↓fMin1, ↓fMax1, ↓fSum, ↓fAll, ↓fAny, ↓fSorted, ↓fSortS, ↓fAbs, ↓fInt, ↓fRepr, ↓fCnt, ↓fIdx, ↓fJoin, isStr,
 endsG, mem0, toEnt, Mem.set, Mem.view, Mem.kill, Mem.frz, Mem.ro, Ent.ro', Opd.get,
 List.set_cons_zero, List.set_cons_succ, List.getElem?_cons_zero, List.getElem?_cons_succ, List.map_cons, List.map_nil, List.length_cons, List.length_nil, List.cons_append, List.nil_append, List.replicate_succ, List.replicate_zero, Option.map_some, Option.map_none, List.cons.injEq, and_true, true_and, Arg.x.injEq, exists_eq_left, exists_eq_right, Option.some.injEq, Ent.ow.injEq, Ent.im.injEq, PyData.int.injEq, PyData.list.injEq, PyData.dict.injEq, PyData.tuple.injEq, PyData.str.injEq, exists_eq', exists_eq, decide_eq_true_eq, Bool.not_eq_true', ite_true, ite_false, decide_true, decide_false, decide_eq_false_iff_not, not_true_eq_false, not_false_eq_true, reduceCtorEq, eq_self]
      refine ⟨⟨_, _, rfl⟩, fun p' s a vs => ?_⟩
      by_cases e : p' = p
      · subst e
        exact h3 s (size_all h1 vs) vs
      · exact h0 p' s (by omega) vs
  · rintro M' ⟨⟨e2, e3, rfl⟩, h0⟩
    rw [rng_len] at h0
    simp -dsimp only [↓uSeq, ↓uNext, ↓uKill, ↓uFrz, ↓uDrop, ↓uRet, ↓uIf, ↓uAsg, ↓uAsgO, ↓uPar2, ↓uPut, ↓uDPut, ↓uFor_eq, ↓uWhile_eq, ↓uSeqM_eq, ↓uBrk, ↓uCnt, ↓uWelD, ↓gSet, ↓gN, ↓gC, ↓gT, ↓zE, ↓zF, ↓oE, ↓oV, ↓wV, ↓wC, ↓wOp, ↓wUn, ↓app2, ↓app1, ↓wTst, ↓tAndD, ↓tOrD, ↓tNotD, ↓wAndV, ↓wOrV, ↓wNotV, ↓wIf, ↓wChain, ↓osN, ↓osC, getAll, ↓appN, ↓wCB, ↓appM, ↓wBM, ↓wBM0, ↓wN, ↓wCs, ↓wTup, ↓wLst, ↓wDic0, ↓wDicT, ↓aN, ↓aC, ↓aW, ↓wCall_eq, ↓wCallK_eq, perm, List.filterMap_cons, List.filterMap_nil, ↓wApp, ↓wExt, ↓wPop, ↓wPopAt, ↓wListA, ↓wRpl, ↓iX, ↓iL, ↓iT, ↓iS, ↓iR1, ↓iR2, ↓iScr, ↓iZD, ↓iE, ↓wComp_eq, ↓ttY, ↓wSl, ↓wPart, ↓plN, ↓wRev, ↓wListO, ↓wRep, ↓wLenSet, ↓wLenScr, ↓wWelI, ↓wWelPop, ↓wWelApp, ↓tWelNE, ↓wDisp, ↓psC, ↓psN, ↓wDIn, ↓wDNotIn, ↓askD, ↓fAdd, ↓fSub, ↓fII, ↓fII0, ↓fDiv, ↓fMod, ↓fPow, ↓fLt, ↓fGt, ↓fLe, ↓fGe, ↓fGtD, ↓fLtD, ↓fLeD, ↓fGeD, ↓fNeg, ↓fMul, ↓fEq, ↓fNe, ↓eqQ, ↓fIsN, ↓fNotN, isNone_1, isNone_2, isNone_3, isNone_4, isNone_5, isNone_6, isNone_7, ↓fInC, ↓fNotInC, ↓fSub_, ↓fIx, ↓fSl, ↓fLen, ↓fTuple, ↓fMin1, ↓fMax1, ↓fSum, ↓fAll, ↓fAny, ↓fSorted, ↓fSortS, ↓fAbs, ↓fInt, ↓fRepr, ↓fCnt, ↓fIdx, ↓fJoin, isStr,
 endsG, mem0, toEnt, Mem.set, Mem.view, Mem.kill, Mem.frz, Mem.ro, Ent.ro', Opd.get,
 List.set_cons_zero, List.set_cons_succ, List.getElem?_cons_zero, List.getElem?_cons_succ, List.map_cons, List.map_nil, List.length_cons, List.length_nil, List.cons_append, List.nil_append, List.replicate_succ, List.replicate_zero, Option.map_some, Option.map_none, List.cons.injEq, and_true, true_and, Arg.x.injEq, exists_eq_left, exists_eq_right, Option.some.injEq, Ent.ow.injEq, Ent.im.injEq, PyData.int.injEq, PyData.list.injEq, PyData.dict.injEq, PyData.tuple.injEq, PyData.str.injEq, exists_eq', exists_eq, decide_eq_true_eq, Bool.not_eq_true', ite_true, ite_false, decide_true, decide_false, decide_eq_false_iff_not, not_true_eq_false, not_false_eq_true, reduceCtorEq, eq_self]
    exact q _ (.inl ⟨rfl, fun p s v => h0 p s v.1 v⟩)
/-! weight_of -/
def dot (l : List Nat) (ws : List Int) : Int := ((l.count 97 : Nat) : Int) * ws.getD 0 0 + ((l.count 98 : Nat) : Int) * ws.getD 1 0 + ((l.count 99 : Nat) : Int) * ws.getD 2 0 + ((l.count 100 : Nat) : Int) * ws.getD 3 0
theorem dot_sum (ws : List Int) : ∀ l : List Nat, LetK 4 l → (l.map fun c => ws.getD (c - 97) 0).sum = dot l ws
  | [], _ => by simp [dot]
  | c :: r, h => by
    have ih := dot_sum ws r fun x hx => h x (List.mem_cons_of_mem _ hx)
    have hc := h c List.mem_cons_self
    rw [List.map_cons, List.sum_cons, ih]
    unfold dot
    have : c = 97 ∨ c = 98 ∨ c = 99 ∨ c = 100 := by omega
    rcases this with rfl | rfl | rfl | rfl <;> simp [List.count_cons] <;> rw [Int.add_mul] <;> omega
def g_weight_of : GSpec := fun args wl Q => ∃ (l : List Nat) (ws : List Int), args = [.x (sD l), .x (.tuple (ws.map .int))] ∧ ws.length = 4 ∧ l.length ≤ 100 ∧ Q (.int (dot l ws)) wl
theorem weight_i {l : List Nat} {ws : List Int} {wl : Option Wel} {Q : PyData → Option Wel → Prop} {lk : Lock Q} (h : ws.length = 4) (h2 : l.length ≤ 100) (q : Q (.int (dot l ws)) wl) : callG g_weight_of [.x (sD l), .x (.tuple (ws.map .int))] wl Q lk := ⟨l, ws, rfl, h, h2, q⟩
def u_weight_of : WS :=
  (uRet (wCB fSum (osC (oE (wComp [2, 3] (iZD (wCs (wCall g_counts_of (aC (wV 0) aN)) (wCs (wV 1) wN))) (gT 2 (gC (gSet 2) (gC (gSet 3) gN))) ttY (wOp fMul (oV 2) (oV 3)))) osN)))
theorem pf_weight_of (args : List Arg) (wl : Option Wel) (Q : PyData → Option Wel → Prop) (h : g_weight_of args wl Q) : u_weight_of noX (endsG Q) (mem0 4 args wl) := by
  obtain ⟨l, ws, rfl, h4, hl, q⟩ := h
  obtain ⟨a, b, c, d, rfl⟩ : ∃ a b c d, ws = [a, b, c, d] := by
    match ws, h4 with
    | [a, b, c, d], _ => exact ⟨a, b, c, d, rfl⟩
  simp -dsimp only [u_weight_of, ↓uSeq, ↓uNext, ↓uKill, ↓uFrz, ↓uDrop, ↓uRet, ↓uIf, ↓uAsg, ↓uAsgO, ↓uPar2, ↓uPut, ↓uDPut, ↓uFor_eq, ↓uWhile_eq, ↓uSeqM_eq, ↓uBrk, ↓uCnt, ↓uWelD, ↓gSet, ↓gN, ↓gC, ↓gT, ↓zE, ↓zF, ↓oE, ↓oV, ↓wV, ↓wC, ↓wOp, ↓wUn, ↓app2, ↓app1, ↓wTst, ↓tAndD, ↓tOrD, ↓tNotD, ↓wAndV, ↓wOrV, ↓wNotV, ↓wIf, ↓wChain, ↓osN, ↓osC, getAll, ↓appN, ↓wCB, ↓appM, ↓wBM, ↓wBM0, ↓wN, ↓wCs, ↓wTup, ↓wLst, ↓wDic0, ↓wDicT, ↓aN, ↓aC, ↓aW, ↓wCall_eq, ↓wCallK_eq, perm, List.filterMap_cons, List.filterMap_nil, ↓wApp, ↓wExt, ↓wPop, ↓wPopAt, ↓wListA, ↓wRpl, ↓iX, ↓iL, ↓iT, ↓iS, ↓iR1, ↓iR2, ↓iScr, ↓iZD, ↓iE, ↓wComp_eq, ↓ttY, ↓wSl, ↓wPart, ↓plN, ↓wRev, ↓wListO, ↓wRep, ↓wLenSet, ↓wLenScr, ↓wWelI, ↓wWelPop, ↓wWelApp, ↓tWelNE, ↓wDisp, ↓psC, ↓psN, ↓wDIn, ↓wDNotIn, ↓askD, ↓fAdd, ↓fSub, ↓fII, ↓fII0, ↓fDiv, ↓fMod, ↓fPow, ↓fLt, ↓fGt, ↓fLe, ↓fGe, ↓fGtD, ↓fLtD, ↓fLeD, ↓fGeD, ↓fNeg, ↓fMul, ↓fEq, ↓fNe, ↓eqQ, ↓fIsN, ↓fNotN, isNone_1, isNone_2, isNone_3, isNone_4, isNone_5, isNone_6, isNone_7, ↓fInC, ↓fNotInC, ↓fSub_, ↓fIx, ↓fSl, ↓fLen, ↓fTuple, ↓fMin1, ↓fMax1, ↓fSum, ↓fAll, ↓fAny, ↓fSorted, ↓fSortS, ↓fAbs, ↓fInt, ↓fRepr, ↓fCnt, ↓fIdx, ↓fJoin, isStr,
 endsG, mem0, toEnt, Mem.set, Mem.view, Mem.kill, Mem.frz, Mem.ro, Ent.ro', Opd.get,
 List.set_cons_zero, List.set_cons_succ, List.getElem?_cons_zero, List.getElem?_cons_succ, List.map_cons, List.map_nil, List.length_cons, List.length_nil, List.cons_append, List.nil_append, List.replicate_succ, List.replicate_zero, Option.map_some, Option.map_none, List.cons.injEq, and_true, true_and, Arg.x.injEq, exists_eq_left, exists_eq_right, Option.some.injEq, Ent.ow.injEq, Ent.im.injEq, PyData.int.injEq, PyData.list.injEq, PyData.dict.injEq, PyData.tuple.injEq, PyData.str.injEq, exists_eq', exists_eq, decide_eq_true_eq, Bool.not_eq_true', ite_true, ite_false, decide_true, decide_false, decide_eq_false_iff_not, not_true_eq_false, not_false_eq_true, reduceCtorEq, eq_self]
  refine counts_i ?_
  simp -dsimp only [↓uSeq, ↓uNext, ↓uKill, ↓uFrz, ↓uDrop, ↓uRet, ↓uIf, ↓uAsg, ↓uAsgO, ↓uPar2, ↓uPut, ↓uDPut, ↓uFor_eq, ↓uWhile_eq, ↓uSeqM_eq, ↓uBrk, ↓uCnt, ↓uWelD, ↓gSet, ↓gN, ↓gC, ↓gT, ↓zE, ↓zF, ↓oE, ↓oV, ↓wV, ↓wC, ↓wOp, ↓wUn, ↓app2, ↓app1, ↓wTst, ↓tAndD, ↓tOrD, ↓tNotD, ↓wAndV, ↓wOrV, ↓wNotV, ↓wIf, ↓wChain, ↓osN, ↓osC, getAll, ↓appN, ↓wCB, ↓appM, ↓wBM, ↓wBM0, ↓wN, ↓wCs, ↓wTup, ↓wLst, ↓wDic0, ↓wDicT, ↓aN, ↓aC, ↓aW, ↓wCall_eq, ↓wCallK_eq, perm, List.filterMap_cons, List.filterMap_nil, ↓wApp, ↓wExt, ↓wPop, ↓wPopAt, ↓wListA, ↓wRpl, ↓iX, ↓iL, ↓iT, ↓iS, ↓iR1, ↓iR2, ↓iScr, ↓iZD, ↓iE, ↓wComp_eq, ↓ttY, ↓wSl, ↓wPart, ↓plN, ↓wRev, ↓wListO, ↓wRep, ↓wLenSet, ↓wLenScr, ↓wWelI, ↓wWelPop, ↓wWelApp, ↓tWelNE, ↓wDisp, ↓psC, ↓psN, ↓wDIn, ↓wDNotIn, ↓askD, ↓fAdd, ↓fSub, ↓fII, ↓fII0, ↓fDiv, ↓fMod, ↓fPow, ↓fLt, ↓fGt, ↓fLe, ↓fGe, ↓fGtD, ↓fLtD, ↓fLeD, ↓fGeD, ↓fNeg, ↓fMul, ↓fEq, ↓fNe, ↓eqQ, ↓fIsN, ↓fNotN, isNone_1, isNone_2, isNone_3, isNone_4, isNone_5, isNone_6, isNone_7, ↓fInC, ↓fNotInC, ↓fSub_, ↓fIx, ↓fSl, ↓fLen, ↓fTuple, ↓fMin1, ↓fMax1, ↓fSum, ↓fAll, ↓fAny, ↓fSorted, ↓fSortS, ↓fAbs, ↓fInt, ↓fRepr, ↓fCnt, ↓fIdx, ↓fJoin, isStr,
 endsG, mem0, toEnt, Mem.set, Mem.view, Mem.kill, Mem.frz, Mem.ro, Ent.ro', Opd.get,
 List.set_cons_zero, List.set_cons_succ, List.getElem?_cons_zero, List.getElem?_cons_succ, List.map_cons, List.map_nil, List.length_cons, List.length_nil, List.cons_append, List.nil_append, List.replicate_succ, List.replicate_zero, Option.map_some, Option.map_none, List.cons.injEq, and_true, true_and, Arg.x.injEq, exists_eq_left, exists_eq_right, Option.some.injEq, Ent.ow.injEq, Ent.im.injEq, PyData.int.injEq, PyData.list.injEq, PyData.dict.injEq, PyData.tuple.injEq, PyData.str.injEq, exists_eq', exists_eq, decide_eq_true_eq, Bool.not_eq_true', ite_true, ite_false, decide_true, decide_false, decide_eq_false_iff_not, not_true_eq_false, not_false_eq_true, reduceCtorEq, eq_self, cts, zipD]
  have c1 := List.count_le_length (a := 97) (l := l)
  have c2 := List.count_le_length (a := 98) (l := l)
  have c3 := List.count_le_length (a := 99) (l := l)
  have c4 := List.count_le_length (a := 100) (l := l)
  refine ⟨by decide, comp_map (fun d => match d with
    | .tuple [.int x, .int y] => .int (x * y)
    | _ => .none) (fun d hd P hP => ?_) ?_⟩
  · simp only [List.mem_cons, List.not_mem_nil, or_false] at hd
    rcases hd with rfl | rfl | rfl | rfl <;> (simp -dsimp only [↓uSeq, ↓uNext, ↓uKill, ↓uFrz, ↓uDrop, ↓uRet, ↓uIf, ↓uAsg, ↓uAsgO, ↓uPar2, ↓uPut, ↓uDPut, ↓uFor_eq, ↓uWhile_eq, ↓uSeqM_eq, ↓uBrk, ↓uCnt, ↓uWelD, ↓gSet, ↓gN, ↓gC, ↓gT, ↓zE, ↓zF, ↓oE, ↓oV, ↓wV, ↓wC, ↓wOp, ↓wUn, ↓app2, ↓app1, ↓wTst, ↓tAndD, ↓tOrD, ↓tNotD, ↓wAndV, ↓wOrV, ↓wNotV, ↓wIf, ↓wChain, ↓osN, ↓osC, getAll, ↓appN, ↓wCB, ↓appM, ↓wBM, ↓wBM0, ↓wN, ↓wCs, ↓wTup, ↓wLst, ↓wDic0, ↓wDicT, ↓aN, ↓aC, ↓aW, ↓wCall_eq, ↓wCallK_eq, perm, List.filterMap_cons, List.filterMap_nil, ↓wApp, ↓wExt, ↓wPop, ↓wPopAt, ↓wListA, ↓wRpl, ↓iX, ↓iL, ↓iT, ↓iS, ↓iR1, ↓iR2, ↓iScr, ↓iZD, ↓iE, ↓wComp_eq, ↓ttY, ↓wSl, ↓wPart, ↓plN, ↓wRev, ↓wListO, ↓wRep, ↓wLenSet, ↓wLenScr, ↓wWelI, ↓wWelPop, ↓wWelApp, ↓tWelNE, ↓wDisp, ↓psC, ↓psN, ↓wDIn, ↓wDNotIn, ↓askD, ↓fAdd, ↓fSub, ↓fII, ↓fII0, ↓fDiv, ↓fMod, ↓fPow, ↓fLt, ↓fGt, ↓fLe, ↓fGe, ↓fGtD, ↓fLtD, ↓fLeD, ↓fGeD, ↓fNeg, ↓fMul, ↓fEq, ↓fNe, ↓eqQ, ↓fIsN, ↓fNotN, isNone_1, isNone_2, isNone_3, isNone_4, isNone_5, isNone_6, isNone_7, ↓fInC, ↓fNotInC, ↓fSub_, ↓fIx, ↓fSl, ↓fLen, ↓fTuple, ↓fMin1, ↓fMax1, ↓fSum, ↓fAll, ↓fAny, ↓fSorted, ↓fSortS, ↓fAbs, ↓fInt, ↓fRepr, ↓fCnt, ↓fIdx, ↓fJoin, isStr,
 endsG, mem0, toEnt, Mem.set, Mem.view, Mem.kill, Mem.frz, Mem.ro, Ent.ro', Opd.get,
 List.set_cons_zero, List.set_cons_succ, List.getElem?_cons_zero, List.getElem?_cons_succ, List.map_cons, List.map_nil, List.length_cons, List.length_nil, List.cons_append, List.nil_append, List.replicate_succ, List.replicate_zero, Option.map_some, Option.map_none, List.cons.injEq, and_true, true_and, Arg.x.injEq, exists_eq_left, exists_eq_right, Option.some.injEq, Ent.ow.injEq, Ent.im.injEq, PyData.int.injEq, PyData.list.injEq, PyData.dict.injEq, PyData.tuple.injEq, PyData.str.injEq, exists_eq', exists_eq, decide_eq_true_eq, Bool.not_eq_true', ite_true, ite_false, decide_true, decide_false, decide_eq_false_iff_not, not_true_eq_false, not_false_eq_true, reduceCtorEq, eq_self]; exact ⟨.inl ⟨by omega, by omega⟩, hP⟩)
  · simp -dsimp only [↓uSeq, ↓uNext, ↓uKill, ↓uFrz, ↓uDrop, ↓uRet, ↓uIf, ↓uAsg, ↓uAsgO, ↓uPar2, ↓uPut, ↓uDPut, ↓uFor_eq, ↓uWhile_eq, ↓uSeqM_eq, ↓uBrk, ↓uCnt, ↓uWelD, ↓gSet, ↓gN, ↓gC, ↓gT, ↓zE, ↓zF, ↓oE, ↓oV, ↓wV, ↓wC, ↓wOp, ↓wUn, ↓app2, ↓app1, ↓wTst, ↓tAndD, ↓tOrD, ↓tNotD, ↓wAndV, ↓wOrV, ↓wNotV, ↓wIf, ↓wChain, ↓osN, ↓osC, getAll, ↓appN, ↓wCB, ↓appM, ↓wBM, ↓wBM0, ↓wN, ↓wCs, ↓wTup, ↓wLst, ↓wDic0, ↓wDicT, ↓aN, ↓aC, ↓aW, ↓wCall_eq, ↓wCallK_eq, perm, List.filterMap_cons, List.filterMap_nil, ↓wApp, ↓wExt, ↓wPop, ↓wPopAt, ↓wListA, ↓wRpl, ↓iX, ↓iL, ↓iT, ↓iS, ↓iR1, ↓iR2, ↓iScr, ↓iZD, ↓iE, ↓wComp_eq, ↓ttY, ↓wSl, ↓wPart, ↓plN, ↓wRev, ↓wListO, ↓wRep, ↓wLenSet, ↓wLenScr, ↓wWelI, ↓wWelPop, ↓wWelApp, ↓tWelNE, ↓wDisp, ↓psC, ↓psN, ↓wDIn, ↓wDNotIn, ↓askD, ↓fAdd, ↓fSub, ↓fII, ↓fII0, ↓fDiv, ↓fMod, ↓fPow, ↓fLt, ↓fGt, ↓fLe, ↓fGe, ↓fGtD, ↓fLtD, ↓fLeD, ↓fGeD, ↓fNeg, ↓fMul, ↓fEq, ↓fNe, ↓eqQ, ↓fIsN, ↓fNotN, isNone_1, isNone_2, isNone_3, isNone_4, isNone_5, isNone_6, isNone_7, ↓fInC, ↓fNotInC, ↓fSub_, ↓fIx, ↓fSl, ↓fLen, ↓fTuple, ↓fMin1, ↓fMax1, ↓fSum, ↓fAll, ↓fAny, ↓fSorted, ↓fSortS, ↓fAbs, ↓fInt, ↓fRepr, ↓fCnt, ↓fIdx, ↓fJoin, isStr,
 endsG, mem0, toEnt, Mem.set, Mem.view, Mem.kill, Mem.frz, Mem.ro, Ent.ro', Opd.get,
 List.set_cons_zero, List.set_cons_succ, List.getElem?_cons_zero, List.getElem?_cons_succ, List.map_cons, List.map_nil, List.length_cons, List.length_nil, List.cons_append, List.nil_append, List.replicate_succ, List.replicate_zero, Option.map_some, Option.map_none, List.cons.injEq, and_true, true_and, Arg.x.injEq, exists_eq_left, exists_eq_right, Option.some.injEq, Ent.ow.injEq, Ent.im.injEq, PyData.int.injEq, PyData.list.injEq, PyData.dict.injEq, PyData.tuple.injEq, PyData.str.injEq, exists_eq', exists_eq, decide_eq_true_eq, Bool.not_eq_true', ite_true, ite_false, decide_true, decide_false, decide_eq_false_iff_not, not_true_eq_false, not_false_eq_true, reduceCtorEq, eq_self, intsOf, Option.map_some, List.sum_cons, List.sum_nil]
    have : dot l [a, b, c, d] = ((l.count 97 : Nat) : Int) * a + (((l.count 98 : Nat) : Int) * b + (((l.count 99 : Nat) : Int) * c + (((l.count 100 : Nat) : Int) * d + 0))) := by
      unfold dot
      simp
      omega
    rw [← this]
    exact q
/-! sum_power, _law_least_sum -/
def PSum (ws : List Int) (l : List Nat) (o p s : Nat) : Prop := ∀ k, k < o → dot (seg l (p + k * s) s) ws = dot (seg l p s) ws
def gSum : GSpec := fun args wl Q => ∃ (l : List Nat) (ws : List Int) (o : Nat), args = [.x (sD l), .x (.tuple (ws.map .int)), .x (.int (o : Nat))] ∧ ws.length = 4 ∧ LetK 4 l ∧ l.length ≤ 60 ∧ 1 ≤ o ∧ o ≤ 20 ∧ ∀ r, IsFirst (Vl l o) (PSum ws l o) r → Q r wl
def g_sum_power : GSpec := gSum
def g__law_least_sum : GSpec := gSum
theorem sump_i {l : List Nat} {ws : List Int} {o : Nat} {wl : Option Wel} {Q : PyData → Option Wel → Prop} {lk : Lock Q} (h0 : ws.length = 4) (hl : LetK 4 l) (h1 : l.length ≤ 60) (h2 : 1 ≤ o) (h3 : o ≤ 20) (q : ∀ r, IsFirst (Vl l o) (PSum ws l o) r → Q r wl) : callG g_sum_power [.x (sD l), .x (.tuple (ws.map .int)), .x (.int (o : Nat))] wl Q lk := ⟨l, ws, o, rfl, h0, hl, h1, h2, h3, q⟩
theorem lsum_i {l : List Nat} {ws : List Int} {o : Nat} {wl : Option Wel} {Q : PyData → Option Wel → Prop} {lk : Lock Q} (h0 : ws.length = 4) (hl : LetK 4 l) (h1 : l.length ≤ 60) (h2 : 1 ≤ o) (h3 : o ≤ 20) (q : ∀ r, IsFirst (Vl l o) (PSum ws l o) r → Q r wl) : callG g__law_least_sum [.x (sD l), .x (.tuple (ws.map .int)), .x (.int (o : Nat))] wl Q lk := ⟨l, ws, o, rfl, h0, hl, h1, h2, h3, q⟩
theorem atI_zero {α : Type} {l : List α} {x : α} (h : l[0]? = some x) : atI l 0 = some x := by
  unfold L2.atI
  rw [show (0 : Int) = ((0 : Nat) : Int) from rfl, ixN_nat (List.getElem?_eq_some_iff.mp h).1]
  exact h
theorem atI_at {α : Type} {l : List α} {x : α} {i : Int} {n : Nat} (hi : i = (n : Nat)) (h : l[n]? = some x) : atI l i = some x := by
  subst hi
  unfold L2.atI
  rw [ixN_nat (List.getElem?_eq_some_iff.mp h).1]
  exact h
theorem all_sums {ws : List Int} {l : List Nat} {o p s : Nat} (ho : 1 ≤ o) : (((List.range o).map fun k => dot (seg l (p + k * s) s) ws).map fun x => decide (x = dot (seg l p s) ws)).all id = true ↔ PSum ws l o p s := by
  rw [List.all_eq_true]
  constructor
  · intro h k hk
    have := h _ (List.mem_map.mpr ⟨_, List.mem_map.mpr ⟨k, List.mem_range.mpr hk, rfl⟩, rfl⟩)
    exact of_decide_eq_true this
  · intro h b hb
    obtain ⟨x, hx, rfl⟩ := List.mem_map.mp hb
    obtain ⟨k, hk, rfl⟩ := List.mem_map.mp hx
    exact decide_eq_true (h k (List.mem_range.mp hk))
def u_sum_power : WS :=
  (uSeq (uFor [3, 4, 5, 6] (iR1 (osC (oE (wCB fLen (osC (oV 0) osN))) osN)) (gSet 3)
  (uFor [4, 5, 6] (iR2 (osC (oE (wC (.int 1))) (osC (oE (wOp fAdd (oE (wOp fDiv (oE (wOp fSub (oE (wCB fLen (osC (oV 0) osN))) (oV 3))) (oV 2))) (oE (wC (.int 1))))) osN))) (gSet 4)
  (uSeq (uAsgO (wComp [7] (iR1 (osC (oV 2) osN)) (gSet 7) ttY (wOp fAdd (oV 3) (oE (wOp fMul (oV 7) (oV 4))))) 5)
  (uSeq (uFrz 5 (uAsg (wComp [8] (iX (wV 5)) (gSet 8) ttY (wCall g_weight_of (aC (wSl (oV 0) (wPart (oV 8)) (wPart (oE (wOp fAdd (oV 8) (oV 4))))) (aC (wV 1) aN)))) (gSet 6)))
  (uIf (wTst (wCB fAll (osC (oE (wComp [9] (iX (wV 6)) (gSet 9) ttY (wOp fEq (oV 9) (oE (wOp fSub_ (oV 6) (oE (wC (.int 0)))))))) osN)))
  (uRet (wTup (wCs (wV 3) (wCs (wV 4) wN))))
  uNext)))))
  (uRet (wC .none)))
theorem pf_sum_power (args : List Arg) (wl : Option Wel) (Q : PyData → Option Wel → Prop) (h : g_sum_power args wl Q) : u_sum_power noX (endsG Q) (mem0 10 args wl) := by
  obtain ⟨l, ws, o, rfl, hw, hlet, hl, h1, h2, q⟩ := h
  simp -dsimp only [u_sum_power, ↓uSeq, ↓uNext, ↓uKill, ↓uFrz, ↓uDrop, ↓uRet, ↓uIf, ↓uAsg, ↓uAsgO, ↓uPar2, ↓uPut, ↓uDPut, ↓uFor_eq, ↓uWhile_eq, ↓uSeqM_eq, ↓uBrk, ↓uCnt, ↓uWelD, ↓gSet, ↓gN, ↓gC, ↓gT, ↓zE, ↓zF, ↓oE, ↓oV, ↓wV, ↓wC, ↓wOp, ↓wUn, ↓app2, ↓app1, ↓wTst, ↓tAndD, ↓tOrD, ↓tNotD, ↓wAndV, ↓wOrV, ↓wNotV, ↓wIf, ↓wChain, ↓osN, ↓osC, getAll, ↓appN, ↓wCB, ↓appM, ↓wBM, ↓wBM0, ↓wN, ↓wCs, ↓wTup, ↓wLst, ↓wDic0, ↓wDicT, ↓aN, ↓aC, ↓aW, ↓wCall_eq, ↓wCallK_eq, perm, List.filterMap_cons, List.filterMap_nil, ↓wApp, ↓wExt, ↓wPop, ↓wPopAt, ↓wListA, ↓wRpl, ↓iX, ↓iL, ↓iT, ↓iS, ↓iR1, ↓iR2, ↓iScr, ↓iZD, ↓iE, ↓wComp_eq, ↓ttY, ↓wSl, ↓wPart, ↓plN, ↓wRev, ↓wListO, ↓wRep, ↓wLenSet, ↓wLenScr, ↓wWelI, ↓wWelPop, ↓wWelApp, ↓tWelNE, ↓wDisp, ↓psC, ↓psN, ↓wDIn, ↓wDNotIn, ↓askD, ↓fAdd, ↓fSub, ↓fII, ↓fII0, ↓fDiv, ↓fMod, ↓fPow, ↓fLt, ↓fGt, ↓fLe, ↓fGe, ↓fGtD, ↓fLtD, ↓fLeD, ↓fGeD, ↓fNeg, ↓fMul, ↓fEq, ↓fNe, ↓eqQ, ↓fIsN, ↓fNotN, isNone_1, isNone_2, isNone_3, isNone_4, isNone_5, isNone_6, isNone_7, ↓fInC, ↓fNotInC, ↓fSub_, ↓fIx, ↓fSl, ↓fLen, ↓fTuple, ↓fMin1, ↓fMax1, ↓fSum, ↓fAll, ↓fAny, ↓fSorted, ↓fSortS, ↓fAbs, ↓fInt, ↓fRepr, ↓fCnt, ↓fIdx, ↓fJoin, isStr,
 endsG, mem0, toEnt, Mem.set, Mem.view, Mem.kill, Mem.frz, Mem.ro, Ent.ro', Opd.get,
 List.set_cons_zero, List.set_cons_succ, List.getElem?_cons_zero, List.getElem?_cons_succ, List.map_cons, List.map_nil, List.length_cons, List.length_nil, List.cons_append, List.nil_append, List.replicate_succ, List.replicate_zero, Option.map_some, Option.map_none, List.cons.injEq, and_true, true_and, Arg.x.injEq, exists_eq_left, exists_eq_right, Option.some.injEq, Ent.ow.injEq, Ent.im.injEq, PyData.int.injEq, PyData.list.injEq, PyData.dict.injEq, PyData.tuple.injEq, PyData.str.injEq, exists_eq', exists_eq, decide_eq_true_eq, Bool.not_eq_true', ite_true, ite_false, decide_true, decide_false, decide_eq_false_iff_not, not_true_eq_false, not_false_eq_true, reduceCtorEq, eq_self, S_cps]
  rw [Int.toNat_natCast]
  refine ⟨zl _ (by omega), ⟨by omega, by omega⟩, ?_⟩
  refine for_i (fun i M => (∃ e3 e4 e5 e6 : Option Ent, M = ⟨[some (.im (sD l)), some (.im (.tuple (ws.map .int))), some (.im (.int (o : Nat))), e3, e4, e5, e6, none, none, none], wl⟩) ∧ ∀ p s, p < i → Vl l o p s → ¬ PSum ws l o p s) ⟨⟨none, none, none, none, rfl⟩, fun p s a b => absurd a (by omega)⟩ ?_ ?_
  · rintro p d M' hd ⟨⟨e3, e4, e5, e6, rfl⟩, h0⟩
    obtain ⟨hp, rfl⟩ := rng_at hd
    obtain ⟨b1, b2⟩ := div_bnd (o := o) (by omega : l.length ≤ 100) hp
    simp -dsimp only [↓uSeq, ↓uNext, ↓uKill, ↓uFrz, ↓uDrop, ↓uRet, ↓uIf, ↓uAsg, ↓uAsgO, ↓uPar2, ↓uPut, ↓uDPut, ↓uFor_eq, ↓uWhile_eq, ↓uSeqM_eq, ↓uBrk, ↓uCnt, ↓uWelD, ↓gSet, ↓gN, ↓gC, ↓gT, ↓zE, ↓zF, ↓oE, ↓oV, ↓wV, ↓wC, ↓wOp, ↓wUn, ↓app2, ↓app1, ↓wTst, ↓tAndD, ↓tOrD, ↓tNotD, ↓wAndV, ↓wOrV, ↓wNotV, ↓wIf, ↓wChain, ↓osN, ↓osC, getAll, ↓appN, ↓wCB, ↓appM, ↓wBM, ↓wBM0, ↓wN, ↓wCs, ↓wTup, ↓wLst, ↓wDic0, ↓wDicT, ↓aN, ↓aC, ↓aW, ↓wCall_eq, ↓wCallK_eq, perm, List.filterMap_cons, List.filterMap_nil, ↓wApp, ↓wExt, ↓wPop, ↓wPopAt, ↓wListA, ↓wRpl, ↓iX, ↓iL, ↓iT, ↓iS, ↓iR1, ↓iR2, ↓iScr, ↓iZD, ↓iE, ↓wComp_eq, ↓ttY, ↓wSl, ↓wPart, ↓plN, ↓wRev, ↓wListO, ↓wRep, ↓wLenSet, ↓wLenScr, ↓wWelI, ↓wWelPop, ↓wWelApp, ↓tWelNE, ↓wDisp, ↓psC, ↓psN, ↓wDIn, ↓wDNotIn, ↓askD, ↓fAdd, ↓fSub, ↓fII, ↓fII0, ↓fDiv, ↓fMod, ↓fPow, ↓fLt, ↓fGt, ↓fLe, ↓fGe, ↓fGtD, ↓fLtD, ↓fLeD, ↓fGeD, ↓fNeg, ↓fMul, ↓fEq, ↓fNe, ↓eqQ, ↓fIsN, ↓fNotN, isNone_1, isNone_2, isNone_3, isNone_4, isNone_5, isNone_6, isNone_7, ↓fInC, ↓fNotInC, ↓fSub_, ↓fIx, ↓fSl, ↓fLen, ↓fTuple, ↓fMin1, ↓fMax1, ↓fSum, ↓fAll, ↓fAny, ↓fSorted, ↓fSortS, ↓fAbs, ↓fInt, ↓fRepr, ↓fCnt, ↓fIdx, ↓fJoin, isStr,
 endsG, mem0, toEnt, Mem.set, Mem.view, Mem.kill, Mem.frz, Mem.ro, Ent.ro', Opd.get,
 List.set_cons_zero, List.set_cons_succ, List.getElem?_cons_zero, List.getElem?_cons_succ, List.map_cons, List.map_nil, List.length_cons, List.length_nil, List.cons_append, List.nil_append, List.replicate_succ, List.replicate_zero, Option.map_some, Option.map_none, List.cons.injEq, and_true, true_and, Arg.x.injEq, exists_eq_left, exists_eq_right, Option.some.injEq, Ent.ow.injEq, Ent.im.injEq, PyData.int.injEq, PyData.list.injEq, PyData.dict.injEq, PyData.tuple.injEq, PyData.str.injEq, exists_eq', exists_eq, decide_eq_true_eq, Bool.not_eq_true', ite_true, ite_false, decide_true, decide_false, decide_eq_false_iff_not, not_true_eq_false, not_false_eq_true, reduceCtorEq, eq_self, S_cps]
    rw [div_int hp]
    refine ⟨zl _ (by omega), divW (by omega) (by omega), ⟨by decide, by decide, by omega, by omega⟩, ?_⟩
    refine for_i (fun j M => (∃ e4 e5 e6 : Option Ent, M = ⟨[some (.im (sD l)), some (.im (.tuple (ws.map .int))), some (.im (.int (o : Nat))), some (.im (.int (p : Nat))), e4, e5, e6, none, none, none], wl⟩) ∧ ∀ s, s < 1 + j → Vl l o p s → ¬ PSum ws l o p s) ⟨⟨none, none, none, rfl⟩, fun s a b => absurd b.2.1 (by omega)⟩ ?_ ?_
    · rintro j d M' hd ⟨⟨e4, e5, e6, rfl⟩, h3⟩
      obtain ⟨hj, rfl⟩ := rng_atL hd
      have v := size_ok h1 hp hj
      obtain ⟨s, hs⟩ : ∃ s, s = 1 + j := ⟨_, rfl⟩
      have ec : (1 : Int) + (j : Nat) = (s : Nat) := by omega
      rw [← hs] at v
      have vs3 := v.2.2
      have hso : s ≤ o * s := Nat.le_mul_of_pos_left s h1
      rw [ec]
      simp -dsimp only [↓uSeq, ↓uNext, ↓uKill, ↓uFrz, ↓uDrop, ↓uRet, ↓uIf, ↓uAsg, ↓uAsgO, ↓uPar2, ↓uPut, ↓uDPut, ↓uFor_eq, ↓uWhile_eq, ↓uSeqM_eq, ↓uBrk, ↓uCnt, ↓uWelD, ↓gSet, ↓gN, ↓gC, ↓gT, ↓zE, ↓zF, ↓oE, ↓oV, ↓wV, ↓wC, ↓wOp, ↓wUn, ↓app2, ↓app1, ↓wTst, ↓tAndD, ↓tOrD, ↓tNotD, ↓wAndV, ↓wOrV, ↓wNotV, ↓wIf, ↓wChain, ↓osN, ↓osC, getAll, ↓appN, ↓wCB, ↓appM, ↓wBM, ↓wBM0, ↓wN, ↓wCs, ↓wTup, ↓wLst, ↓wDic0, ↓wDicT, ↓aN, ↓aC, ↓aW, ↓wCall_eq, ↓wCallK_eq, perm, List.filterMap_cons, List.filterMap_nil, ↓wApp, ↓wExt, ↓wPop, ↓wPopAt, ↓wListA, ↓wRpl, ↓iX, ↓iL, ↓iT, ↓iS, ↓iR1, ↓iR2, ↓iScr, ↓iZD, ↓iE, ↓wComp_eq, ↓ttY, ↓wSl, ↓wPart, ↓plN, ↓wRev, ↓wListO, ↓wRep, ↓wLenSet, ↓wLenScr, ↓wWelI, ↓wWelPop, ↓wWelApp, ↓tWelNE, ↓wDisp, ↓psC, ↓psN, ↓wDIn, ↓wDNotIn, ↓askD, ↓fAdd, ↓fSub, ↓fII, ↓fII0, ↓fDiv, ↓fMod, ↓fPow, ↓fLt, ↓fGt, ↓fLe, ↓fGe, ↓fGtD, ↓fLtD, ↓fLeD, ↓fGeD, ↓fNeg, ↓fMul, ↓fEq, ↓fNe, ↓eqQ, ↓fIsN, ↓fNotN, isNone_1, isNone_2, isNone_3, isNone_4, isNone_5, isNone_6, isNone_7, ↓fInC, ↓fNotInC, ↓fSub_, ↓fIx, ↓fSl, ↓fLen, ↓fTuple, ↓fMin1, ↓fMax1, ↓fSum, ↓fAll, ↓fAny, ↓fSorted, ↓fSortS, ↓fAbs, ↓fInt, ↓fRepr, ↓fCnt, ↓fIdx, ↓fJoin, isStr,
 endsG, mem0, toEnt, Mem.set, Mem.view, Mem.kill, Mem.frz, Mem.ro, Ent.ro', Opd.get,
 List.set_cons_zero, List.set_cons_succ, List.getElem?_cons_zero, List.getElem?_cons_succ, List.map_cons, List.map_nil, List.length_cons, List.length_nil, List.cons_append, List.nil_append, List.replicate_succ, List.replicate_zero, Option.map_some, Option.map_none, List.cons.injEq, and_true, true_and, Arg.x.injEq, exists_eq_left, exists_eq_right, Option.some.injEq, Ent.ow.injEq, Ent.im.injEq, PyData.int.injEq, PyData.list.injEq, PyData.dict.injEq, PyData.tuple.injEq, PyData.str.injEq, exists_eq', exists_eq, decide_eq_true_eq, Bool.not_eq_true', ite_true, ite_false, decide_true, decide_false, decide_eq_false_iff_not, not_true_eq_false, not_false_eq_true, reduceCtorEq, eq_self]
      rw [Int.toNat_natCast, rng_len]
      refine ⟨⟨by omega, by omega⟩, zl _ (by omega), comp_map (fun d => match d with
        | .int k => .int ((p + k.toNat * s : Nat) : Int)
        | _ => .none) (fun d hd P hP => ?_) ?_⟩
      · obtain ⟨k, hk, rfl⟩ := mem_rng hd
        simp -dsimp only [↓uSeq, ↓uNext, ↓uKill, ↓uFrz, ↓uDrop, ↓uRet, ↓uIf, ↓uAsg, ↓uAsgO, ↓uPar2, ↓uPut, ↓uDPut, ↓uFor_eq, ↓uWhile_eq, ↓uSeqM_eq, ↓uBrk, ↓uCnt, ↓uWelD, ↓gSet, ↓gN, ↓gC, ↓gT, ↓zE, ↓zF, ↓oE, ↓oV, ↓wV, ↓wC, ↓wOp, ↓wUn, ↓app2, ↓app1, ↓wTst, ↓tAndD, ↓tOrD, ↓tNotD, ↓wAndV, ↓wOrV, ↓wNotV, ↓wIf, ↓wChain, ↓osN, ↓osC, getAll, ↓appN, ↓wCB, ↓appM, ↓wBM, ↓wBM0, ↓wN, ↓wCs, ↓wTup, ↓wLst, ↓wDic0, ↓wDicT, ↓aN, ↓aC, ↓aW, ↓wCall_eq, ↓wCallK_eq, perm, List.filterMap_cons, List.filterMap_nil, ↓wApp, ↓wExt, ↓wPop, ↓wPopAt, ↓wListA, ↓wRpl, ↓iX, ↓iL, ↓iT, ↓iS, ↓iR1, ↓iR2, ↓iScr, ↓iZD, ↓iE, ↓wComp_eq, ↓ttY, ↓wSl, ↓wPart, ↓plN, ↓wRev, ↓wListO, ↓wRep, ↓wLenSet, ↓wLenScr, ↓wWelI, ↓wWelPop, ↓wWelApp, ↓tWelNE, ↓wDisp, ↓psC, ↓psN, ↓wDIn, ↓wDNotIn, ↓askD, ↓fAdd, ↓fSub, ↓fII, ↓fII0, ↓fDiv, ↓fMod, ↓fPow, ↓fLt, ↓fGt, ↓fLe, ↓fGe, ↓fGtD, ↓fLtD, ↓fLeD, ↓fGeD, ↓fNeg, ↓fMul, ↓fEq, ↓fNe, ↓eqQ, ↓fIsN, ↓fNotN, isNone_1, isNone_2, isNone_3, isNone_4, isNone_5, isNone_6, isNone_7, ↓fInC, ↓fNotInC, ↓fSub_, ↓fIx, ↓fSl, ↓fLen, ↓fTuple, ↓fMin1, ↓fMax1, ↓fSum, ↓fAll, ↓fAny, ↓fSorted, ↓fSortS, ↓fAbs, ↓fInt, ↓fRepr, ↓fCnt, ↓fIdx, ↓fJoin, isStr,
 endsG, mem0, toEnt, Mem.set, Mem.view, Mem.kill, Mem.frz, Mem.ro, Ent.ro', Opd.get,
 List.set_cons_zero, List.set_cons_succ, List.getElem?_cons_zero, List.getElem?_cons_succ, List.map_cons, List.map_nil, List.length_cons, List.length_nil, List.cons_append, List.nil_append, List.replicate_succ, List.replicate_zero, Option.map_some, Option.map_none, List.cons.injEq, and_true, true_and, Arg.x.injEq, exists_eq_left, exists_eq_right, Option.some.injEq, Ent.ow.injEq, Ent.im.injEq, PyData.int.injEq, PyData.list.injEq, PyData.dict.injEq, PyData.tuple.injEq, PyData.str.injEq, exists_eq', exists_eq, decide_eq_true_eq, Bool.not_eq_true', ite_true, ite_false, decide_true, decide_false, decide_eq_false_iff_not, not_true_eq_false, not_false_eq_true, reduceCtorEq, eq_self]
        refine ⟨.inl ⟨by omega, by omega⟩, ?_⟩
        have e7 : (p : Int) + (k : Nat) * (s : Nat) = ((p + k * s : Nat) : Int) := by push_cast; rfl
        rw [e7]
        exact hP
      · rw [rng_map _ (fun k => .int ((p + k * s : Nat) : Int)) _ fun k _ => rfl]
        simp -dsimp only [↓uSeq, ↓uNext, ↓uKill, ↓uFrz, ↓uDrop, ↓uRet, ↓uIf, ↓uAsg, ↓uAsgO, ↓uPar2, ↓uPut, ↓uDPut, ↓uFor_eq, ↓uWhile_eq, ↓uSeqM_eq, ↓uBrk, ↓uCnt, ↓uWelD, ↓gSet, ↓gN, ↓gC, ↓gT, ↓zE, ↓zF, ↓oE, ↓oV, ↓wV, ↓wC, ↓wOp, ↓wUn, ↓app2, ↓app1, ↓wTst, ↓tAndD, ↓tOrD, ↓tNotD, ↓wAndV, ↓wOrV, ↓wNotV, ↓wIf, ↓wChain, ↓osN, ↓osC, getAll, ↓appN, ↓wCB, ↓appM, ↓wBM, ↓wBM0, ↓wN, ↓wCs, ↓wTup, ↓wLst, ↓wDic0, ↓wDicT, ↓aN, ↓aC, ↓aW, ↓wCall_eq, ↓wCallK_eq, perm, List.filterMap_cons, List.filterMap_nil, ↓wApp, ↓wExt, ↓wPop, ↓wPopAt, ↓wListA, ↓wRpl, ↓iX, ↓iL, ↓iT, ↓iS, ↓iR1, ↓iR2, ↓iScr, ↓iZD, ↓iE, ↓wComp_eq, ↓ttY, ↓wSl, ↓wPart, ↓plN, ↓wRev, ↓wListO, ↓wRep, ↓wLenSet, ↓wLenScr, ↓wWelI, ↓wWelPop, ↓wWelApp, ↓tWelNE, ↓wDisp, ↓psC, ↓psN, ↓wDIn, ↓wDNotIn, ↓askD, ↓fAdd, ↓fSub, ↓fII, ↓fII0, ↓fDiv, ↓fMod, ↓fPow, ↓fLt, ↓fGt, ↓fLe, ↓fGe, ↓fGtD, ↓fLtD, ↓fLeD, ↓fGeD, ↓fNeg, ↓fMul, ↓fEq, ↓fNe, ↓eqQ, ↓fIsN, ↓fNotN, isNone_1, isNone_2, isNone_3, isNone_4, isNone_5, isNone_6, isNone_7, ↓fInC, ↓fNotInC, ↓fSub_, ↓fIx, ↓fSl, ↓fLen, ↓fTuple, ↓fMin1, ↓fMax1, ↓fSum, ↓fAll, ↓fAny, ↓fSorted, ↓fSortS, ↓fAbs, ↓fInt, ↓fRepr, ↓fCnt, ↓fIdx, ↓fJoin, isStr,
 endsG, mem0, toEnt, Mem.set, Mem.view, Mem.kill, Mem.frz, Mem.ro, Ent.ro', Opd.get,
 List.set_cons_zero, List.set_cons_succ, List.getElem?_cons_zero, List.getElem?_cons_succ, List.map_cons, List.map_nil, List.length_cons, List.length_nil, List.cons_append, List.nil_append, List.replicate_succ, List.replicate_zero, Option.map_some, Option.map_none, List.cons.injEq, and_true, true_and, Arg.x.injEq, exists_eq_left, exists_eq_right, Option.some.injEq, Ent.ow.injEq, Ent.im.injEq, PyData.int.injEq, PyData.list.injEq, PyData.dict.injEq, PyData.tuple.injEq, PyData.str.injEq, exists_eq', exists_eq, decide_eq_true_eq, Bool.not_eq_true', ite_true, ite_false, decide_true, decide_false, decide_eq_false_iff_not, not_true_eq_false, not_false_eq_true, reduceCtorEq, eq_self]
        refine ⟨by simp; exact zl _ (by omega), comp_map (fun d => match d with
          | .int k => .int (dot (seg l k.toNat s) ws)
          | _ => .none) (fun d hd P hP => ?_) ?_⟩
        · obtain ⟨k, hk, rfl⟩ := List.mem_map.mp hd
          simp -dsimp only [↓uSeq, ↓uNext, ↓uKill, ↓uFrz, ↓uDrop, ↓uRet, ↓uIf, ↓uAsg, ↓uAsgO, ↓uPar2, ↓uPut, ↓uDPut, ↓uFor_eq, ↓uWhile_eq, ↓uSeqM_eq, ↓uBrk, ↓uCnt, ↓uWelD, ↓gSet, ↓gN, ↓gC, ↓gT, ↓zE, ↓zF, ↓oE, ↓oV, ↓wV, ↓wC, ↓wOp, ↓wUn, ↓app2, ↓app1, ↓wTst, ↓tAndD, ↓tOrD, ↓tNotD, ↓wAndV, ↓wOrV, ↓wNotV, ↓wIf, ↓wChain, ↓osN, ↓osC, getAll, ↓appN, ↓wCB, ↓appM, ↓wBM, ↓wBM0, ↓wN, ↓wCs, ↓wTup, ↓wLst, ↓wDic0, ↓wDicT, ↓aN, ↓aC, ↓aW, ↓wCall_eq, ↓wCallK_eq, perm, List.filterMap_cons, List.filterMap_nil, ↓wApp, ↓wExt, ↓wPop, ↓wPopAt, ↓wListA, ↓wRpl, ↓iX, ↓iL, ↓iT, ↓iS, ↓iR1, ↓iR2, ↓iScr, ↓iZD, ↓iE, ↓wComp_eq, ↓ttY, ↓wSl, ↓wPart, ↓plN, ↓wRev, ↓wListO, ↓wRep, ↓wLenSet, ↓wLenScr, ↓wWelI, ↓wWelPop, ↓wWelApp, ↓tWelNE, ↓wDisp, ↓psC, ↓psN, ↓wDIn, ↓wDNotIn, ↓askD, ↓fAdd, ↓fSub, ↓fII, ↓fII0, ↓fDiv, ↓fMod, ↓fPow, ↓fLt, ↓fGt, ↓fLe, ↓fGe, ↓fGtD, ↓fLtD, ↓fLeD, ↓fGeD, ↓fNeg, ↓fMul, ↓fEq, ↓fNe, ↓eqQ, ↓fIsN, ↓fNotN, isNone_1, isNone_2, isNone_3, isNone_4, isNone_5, isNone_6, isNone_7, ↓fInC, ↓fNotInC, ↓fSub_, ↓fIx, ↓fSl, ↓fLen, ↓fTuple, ↓fMin1, ↓fMax1, ↓fSum, ↓fAll, ↓fAny, ↓fSorted, ↓fSortS, ↓fAbs, ↓fInt, ↓fRepr, ↓fCnt, ↓fIdx, ↓fJoin, isStr,
 endsG, mem0, toEnt, Mem.set, Mem.view, Mem.kill, Mem.frz, Mem.ro, Ent.ro', Opd.get,
 List.set_cons_zero, List.set_cons_succ, List.getElem?_cons_zero, List.getElem?_cons_succ, List.map_cons, List.map_nil, List.length_cons, List.length_nil, List.cons_append, List.nil_append, List.replicate_succ, List.replicate_zero, Option.map_some, Option.map_none, List.cons.injEq, and_true, true_and, Arg.x.injEq, exists_eq_left, exists_eq_right, Option.some.injEq, Ent.ow.injEq, Ent.im.injEq, PyData.int.injEq, PyData.list.injEq, PyData.dict.injEq, PyData.tuple.injEq, PyData.str.injEq, exists_eq', exists_eq, decide_eq_true_eq, Bool.not_eq_true', ite_true, ite_false, decide_true, decide_false, decide_eq_false_iff_not, not_true_eq_false, not_false_eq_true, reduceCtorEq, eq_self, S_cps]
          refine ⟨zl _ (by omega), ?_⟩
          rw [cut_seg (p := p + k * s) (s := s) rfl rfl]
          refine weight_i hw (Nat.le_trans (seg_len2 _ _ _) (by omega)) ?_
          simp -dsimp only [↓uSeq, ↓uNext, ↓uKill, ↓uFrz, ↓uDrop, ↓uRet, ↓uIf, ↓uAsg, ↓uAsgO, ↓uPar2, ↓uPut, ↓uDPut, ↓uFor_eq, ↓uWhile_eq, ↓uSeqM_eq, ↓uBrk, ↓uCnt, ↓uWelD, ↓gSet, ↓gN, ↓gC, ↓gT, ↓zE, ↓zF, ↓oE, ↓oV, ↓wV, ↓wC, ↓wOp, ↓wUn, ↓app2, ↓app1, ↓wTst, ↓tAndD, ↓tOrD, ↓tNotD, ↓wAndV, ↓wOrV, ↓wNotV, ↓wIf, ↓wChain, ↓osN, ↓osC, getAll, ↓appN, ↓wCB, ↓appM, ↓wBM, ↓wBM0, ↓wN, ↓wCs, ↓wTup, ↓wLst, ↓wDic0, ↓wDicT, ↓aN, ↓aC, ↓aW, ↓wCall_eq, ↓wCallK_eq, perm, List.filterMap_cons, List.filterMap_nil, ↓wApp, ↓wExt, ↓wPop, ↓wPopAt, ↓wListA, ↓wRpl, ↓iX, ↓iL, ↓iT, ↓iS, ↓iR1, ↓iR2, ↓iScr, ↓iZD, ↓iE, ↓wComp_eq, ↓ttY, ↓wSl, ↓wPart, ↓plN, ↓wRev, ↓wListO, ↓wRep, ↓wLenSet, ↓wLenScr, ↓wWelI, ↓wWelPop, ↓wWelApp, ↓tWelNE, ↓wDisp, ↓psC, ↓psN, ↓wDIn, ↓wDNotIn, ↓askD, ↓fAdd, ↓fSub, ↓fII, ↓fII0, ↓fDiv, ↓fMod, ↓fPow, ↓fLt, ↓fGt, ↓fLe, ↓fGe, ↓fGtD, ↓fLtD, ↓fLeD, ↓fGeD, ↓fNeg, ↓fMul, ↓fEq, ↓fNe, ↓eqQ, ↓fIsN, ↓fNotN, isNone_1, isNone_2, isNone_3, isNone_4, isNone_5, isNone_6, isNone_7, ↓fInC, ↓fNotInC, ↓fSub_, ↓fIx, ↓fSl, ↓fLen, ↓fTuple, ↓fMin1, ↓fMax1, ↓fSum, ↓fAll, ↓fAny, ↓fSorted, ↓fSortS, ↓fAbs, ↓fInt, ↓fRepr, ↓fCnt, ↓fIdx, ↓fJoin, isStr,
 endsG, mem0, toEnt, Mem.set, Mem.view, Mem.kill, Mem.frz, Mem.ro, Ent.ro', Opd.get,
 List.set_cons_zero, List.set_cons_succ, List.getElem?_cons_zero, List.getElem?_cons_succ, List.map_cons, List.map_nil, List.length_cons, List.length_nil, List.cons_append, List.nil_append, List.replicate_succ, List.replicate_zero, Option.map_some, Option.map_none, List.cons.injEq, and_true, true_and, Arg.x.injEq, exists_eq_left, exists_eq_right, Option.some.injEq, Ent.ow.injEq, Ent.im.injEq, PyData.int.injEq, PyData.list.injEq, PyData.dict.injEq, PyData.tuple.injEq, PyData.str.injEq, exists_eq', exists_eq, decide_eq_true_eq, Bool.not_eq_true', ite_true, ite_false, decide_true, decide_false, decide_eq_false_iff_not, not_true_eq_false, not_false_eq_true, reduceCtorEq, eq_self]
          exact hP
        · have e8 : ((List.range o).map fun k => PyData.int ((p + k * s : Nat) : Int)).map (fun d => match d with
            | .int k => PyData.int (dot (seg l k.toNat s) ws)
            | _ => PyData.none) = ((List.range o).map fun k => dot (seg l (p + k * s) s) ws).map .int := by
            rw [List.map_map, List.map_map]
            rfl
          rw [e8]
          have hz : atI (((List.range o).map fun k => dot (seg l (p + k * s) s) ws).map PyData.int) 0 = some (.int (dot (seg l p s) ws)) := atI_zero (by
            rw [List.getElem?_map, List.getElem?_map, List.getElem?_range (by omega)]
            simp)
          simp -dsimp only [↓uSeq, ↓uNext, ↓uKill, ↓uFrz, ↓uDrop, ↓uRet, ↓uIf, ↓uAsg, ↓uAsgO, ↓uPar2, ↓uPut, ↓uDPut, ↓uFor_eq, ↓uWhile_eq, ↓uSeqM_eq, ↓uBrk, ↓uCnt, ↓uWelD, ↓gSet, ↓gN, ↓gC, ↓gT, ↓zE, ↓zF, ↓oE, ↓oV, ↓wV, ↓wC, ↓wOp, ↓wUn, ↓app2, ↓app1, ↓wTst, ↓tAndD, ↓tOrD, ↓tNotD, ↓wAndV, ↓wOrV, ↓wNotV, ↓wIf, ↓wChain, ↓osN, ↓osC, getAll, ↓appN, ↓wCB, ↓appM, ↓wBM, ↓wBM0, ↓wN, ↓wCs, ↓wTup, ↓wLst, ↓wDic0, ↓wDicT, ↓aN, ↓aC, ↓aW, ↓wCall_eq, ↓wCallK_eq, perm, List.filterMap_cons, List.filterMap_nil, ↓wApp, ↓wExt, ↓wPop, ↓wPopAt, ↓wListA, ↓wRpl, ↓iX, ↓iL, ↓iT, ↓iS, ↓iR1, ↓iR2, ↓iScr, ↓iZD, ↓iE, ↓wComp_eq, ↓ttY, ↓wSl, ↓wPart, ↓plN, ↓wRev, ↓wListO, ↓wRep, ↓wLenSet, ↓wLenScr, ↓wWelI, ↓wWelPop, ↓wWelApp, ↓tWelNE, ↓wDisp, ↓psC, ↓psN, ↓wDIn, ↓wDNotIn, ↓askD, ↓fAdd, ↓fSub, ↓fII, ↓fII0, ↓fDiv, ↓fMod, ↓fPow, ↓fLt, ↓fGt, ↓fLe, ↓fGe, ↓fGtD, ↓fLtD, ↓fLeD, ↓fGeD, ↓fNeg, ↓fMul, ↓fEq, ↓fNe, ↓eqQ, ↓fIsN, ↓fNotN, isNone_1, isNone_2, isNone_3, isNone_4, isNone_5, isNone_6, isNone_7, ↓fInC, ↓fNotInC, ↓fSub_, ↓fIx, ↓fSl, ↓fLen, ↓fTuple, ↓fMin1, ↓fMax1, ↓fSum, ↓fAll, ↓fAny, ↓fSorted, ↓fSortS, ↓fAbs, ↓fInt, ↓fRepr, ↓fCnt, ↓fIdx, ↓fJoin, isStr,
 endsG, mem0, toEnt, Mem.set, Mem.view, Mem.kill, Mem.frz, Mem.ro, Ent.ro', Opd.get,
 List.set_cons_zero, List.set_cons_succ, List.getElem?_cons_zero, List.getElem?_cons_succ, List.map_cons, List.map_nil, List.length_cons, List.length_nil, List.cons_append, List.nil_append, List.replicate_succ, List.replicate_zero, Option.map_some, Option.map_none, List.cons.injEq, and_true, true_and, Arg.x.injEq, exists_eq_left, exists_eq_right, Option.some.injEq, Ent.ow.injEq, Ent.im.injEq, PyData.int.injEq, PyData.list.injEq, PyData.dict.injEq, PyData.tuple.injEq, PyData.str.injEq, exists_eq', exists_eq, decide_eq_true_eq, Bool.not_eq_true', ite_true, ite_false, decide_true, decide_false, decide_eq_false_iff_not, not_true_eq_false, not_false_eq_true, reduceCtorEq, eq_self]
          refine ⟨by simp; exact zl _ (by omega), comp_map (fun d => match d with
            | .int x => .bool (decide (x = dot (seg l p s) ws))
            | _ => .none) (fun d hd P hP => ?_) ?_⟩
          · obtain ⟨x, hx, rfl⟩ := List.mem_map.mp hd
            simp -dsimp only [↓uSeq, ↓uNext, ↓uKill, ↓uFrz, ↓uDrop, ↓uRet, ↓uIf, ↓uAsg, ↓uAsgO, ↓uPar2, ↓uPut, ↓uDPut, ↓uFor_eq, ↓uWhile_eq, ↓uSeqM_eq, ↓uBrk, ↓uCnt, ↓uWelD, ↓gSet, ↓gN, ↓gC, ↓gT, ↓zE, ↓zF, ↓oE, ↓oV, ↓wV, ↓wC, ↓wOp, ↓wUn, ↓app2, ↓app1, ↓wTst, ↓tAndD, ↓tOrD, ↓tNotD, ↓wAndV, ↓wOrV, ↓wNotV, ↓wIf, ↓wChain, ↓osN, ↓osC, getAll, ↓appN, ↓wCB, ↓appM, ↓wBM, ↓wBM0, ↓wN, ↓wCs, ↓wTup, ↓wLst, ↓wDic0, ↓wDicT, ↓aN, ↓aC, ↓aW, ↓wCall_eq, ↓wCallK_eq, perm, List.filterMap_cons, List.filterMap_nil, ↓wApp, ↓wExt, ↓wPop, ↓wPopAt, ↓wListA, ↓wRpl, ↓iX, ↓iL, ↓iT, ↓iS, ↓iR1, ↓iR2, ↓iScr, ↓iZD, ↓iE, ↓wComp_eq, ↓ttY, ↓wSl, ↓wPart, ↓plN, ↓wRev, ↓wListO, ↓wRep, ↓wLenSet, ↓wLenScr, ↓wWelI, ↓wWelPop, ↓wWelApp, ↓tWelNE, ↓wDisp, ↓psC, ↓psN, ↓wDIn, ↓wDNotIn, ↓askD, ↓fAdd, ↓fSub, ↓fII, ↓fII0, ↓fDiv, ↓fMod, ↓fPow, ↓fLt, ↓fGt, ↓fLe, ↓fGe, ↓fGtD, ↓fLtD, ↓fLeD, ↓fGeD, ↓fNeg, ↓fMul, ↓fEq, ↓fNe, ↓eqQ, ↓fIsN, ↓fNotN, isNone_1, isNone_2, isNone_3, isNone_4, isNone_5, isNone_6, isNone_7, ↓fInC, ↓fNotInC, ↓fSub_, ↓fIx, ↓fSl, ↓fLen, ↓fTuple, ↓fMin1, ↓fMax1, ↓fSum, ↓fAll, ↓fAny, ↓fSorted, ↓fSortS, ↓fAbs, ↓fInt, ↓fRepr, ↓fCnt, ↓fIdx, ↓fJoin, isStr,
 endsG, mem0, toEnt, Mem.set, Mem.view, Mem.kill, Mem.frz, Mem.ro, Ent.ro', Opd.get,
 List.set_cons_zero, List.set_cons_succ, List.getElem?_cons_zero, List.getElem?_cons_succ, List.map_cons, List.map_nil, List.length_cons, List.length_nil, List.cons_append, List.nil_append, List.replicate_succ, List.replicate_zero, Option.map_some, Option.map_none, List.cons.injEq, and_true, true_and, Arg.x.injEq, exists_eq_left, exists_eq_right, Option.some.injEq, Ent.ow.injEq, Ent.im.injEq, PyData.int.injEq, PyData.list.injEq, PyData.dict.injEq, PyData.tuple.injEq, PyData.str.injEq, exists_eq', exists_eq, decide_eq_true_eq, Bool.not_eq_true', ite_true, ite_false, decide_true, decide_false, decide_eq_false_iff_not, not_true_eq_false, not_false_eq_true, reduceCtorEq, eq_self, hz]
            exact hP
          · have e9 : boolsOf ((((List.range o).map fun k => dot (seg l (p + k * s) s) ws).map PyData.int).map (fun d => match d with
              | .int x => PyData.bool (decide (x = dot (seg l p s) ws))
              | _ => PyData.none)) = some (((List.range o).map fun k => dot (seg l (p + k * s) s) ws).map fun x => decide (x = dot (seg l p s) ws)) := by
              rw [← boolsOf_f, List.map_map]
              rfl
            simp -dsimp only [↓uSeq, ↓uNext, ↓uKill, ↓uFrz, ↓uDrop, ↓uRet, ↓uIf, ↓uAsg, ↓uAsgO, ↓uPar2, ↓uPut, ↓uDPut, ↓uFor_eq, ↓uWhile_eq, ↓uSeqM_eq, ↓uBrk, ↓uCnt, ↓uWelD, ↓gSet, ↓gN, ↓gC, ↓gT, ↓zE, ↓zF, ↓oE, ↓oV, ↓wV, ↓wC, ↓wOp, ↓wUn, ↓app2, ↓app1, ↓wTst, ↓tAndD, ↓tOrD, ↓tNotD, ↓wAndV, ↓wOrV, ↓wNotV, ↓wIf, ↓wChain, ↓osN, ↓osC, getAll, ↓appN, ↓wCB, ↓appM, ↓wBM, ↓wBM0, ↓wN, ↓wCs, ↓wTup, ↓wLst, ↓wDic0, ↓wDicT, ↓aN, ↓aC, ↓aW, ↓wCall_eq, ↓wCallK_eq, perm, List.filterMap_cons, List.filterMap_nil, ↓wApp, ↓wExt, ↓wPop, ↓wPopAt, ↓wListA, ↓wRpl, ↓iX, ↓iL, ↓iT, ↓iS, ↓iR1, ↓iR2, ↓iScr, ↓iZD, ↓iE, ↓wComp_eq, ↓ttY, ↓wSl, ↓wPart, ↓plN, ↓wRev, ↓wListO, ↓wRep, ↓wLenSet, ↓wLenScr, ↓wWelI, ↓wWelPop, ↓wWelApp, ↓tWelNE, ↓wDisp, ↓psC, ↓psN, ↓wDIn, ↓wDNotIn, ↓askD, ↓fAdd, ↓fSub, ↓fII, ↓fII0, ↓fDiv, ↓fMod, ↓fPow, ↓fLt, ↓fGt, ↓fLe, ↓fGe, ↓fGtD, ↓fLtD, ↓fLeD, ↓fGeD, ↓fNeg, ↓fMul, ↓fEq, ↓fNe, ↓eqQ, ↓fIsN, ↓fNotN, isNone_1, isNone_2, isNone_3, isNone_4, isNone_5, isNone_6, isNone_7, ↓fInC, ↓fNotInC, ↓fSub_, ↓fIx, ↓fSl, ↓fLen, ↓fTuple, ↓fMin1, ↓fMax1, ↓fSum, ↓fAll, ↓fAny, ↓fSorted, ↓fSortS, ↓fAbs, ↓fInt, ↓fRepr, ↓fCnt, ↓fIdx, ↓fJoin, isStr,
 endsG, mem0, toEnt, Mem.set, Mem.view, Mem.kill, Mem.frz, Mem.ro, Ent.ro', Opd.get,
 List.set_cons_zero, List.set_cons_succ, List.getElem?_cons_zero, List.getElem?_cons_succ, List.map_cons, List.map_nil, List.length_cons, List.length_nil, List.cons_append, List.nil_append, List.replicate_succ, List.replicate_zero, Option.map_some, Option.map_none, List.cons.injEq, and_true, true_and, Arg.x.injEq, exists_eq_left, exists_eq_right, Option.some.injEq, Ent.ow.injEq, Ent.im.injEq, PyData.int.injEq, PyData.list.injEq, PyData.dict.injEq, PyData.tuple.injEq, PyData.str.injEq, exists_eq', exists_eq, decide_eq_true_eq, Bool.not_eq_true', ite_true, ite_false, decide_true, decide_false, decide_eq_false_iff_not, not_true_eq_false, not_false_eq_true, reduceCtorEq, eq_self, e9]
            refine ite_i (fun hc => ?_) (fun hc => ?_)
            · rw [all_sums h1] at hc
              refine ⟨by decide, q _ (.inr ⟨p, s, rfl, v, hc, fun p' s' v' z => ?_⟩)⟩
              rcases z with z | ⟨rfl, z⟩
              · exact h0 p' s' z v'
              · exact h3 s' (by omega) v'
            · rw [all_sums h1] at hc
              refine ⟨⟨_, _, _, rfl⟩, fun s2 a vs => ?_⟩
              by_cases e : s2 = s
              · subst e
                exact hc
              · exact h3 s2 (by omega) vs
    · rintro M' ⟨⟨e4, e5, e6, rfl⟩, h3⟩
      rw [rng_len] at h3
      simp -dsimp only [↓uSeq, ↓uNext, ↓uKill, ↓uFrz, ↓uDrop, ↓uRet, ↓uIf, ↓uAsg, ↓uAsgO, ↓uPar2, ↓uPut, ↓uDPut, ↓uFor_eq, ↓uWhile_eq, ↓uSeqM_eq, ↓uBrk, ↓uCnt, ↓uWelD, ↓gSet, ↓gN, ↓gC, ↓gT, ↓zE, ↓zF, ↓oE, ↓oV, ↓wV, ↓wC, ↓wOp, ↓wUn, ↓app2, ↓app1, ↓wTst, ↓tAndD, ↓tOrD, ↓tNotD, ↓wAndV, ↓wOrV, ↓wNotV, ↓wIf, ↓wChain, ↓osN, ↓osC, getAll, ↓appN, ↓wCB, ↓appM, ↓wBM, ↓wBM0, ↓wN, ↓wCs, ↓wTup, ↓wLst, ↓wDic0, ↓wDicT, ↓aN, ↓aC, ↓aW, ↓wCall_eq, ↓wCallK_eq, perm, List.filterMap_cons, List.filterMap_nil, ↓wApp, ↓wExt, ↓wPop, ↓wPopAt, ↓wListA, ↓wRpl, ↓iX, ↓iL, ↓iT, ↓iS, ↓iR1, ↓iR2, ↓iScr, ↓iZD, ↓iE, ↓wComp_eq, ↓ttY, ↓wSl, ↓wPart, ↓plN, ↓wRev, ↓wListO, ↓wRep, ↓wLenSet, ↓wLenScr, ↓wWelI, ↓wWelPop, ↓wWelApp, ↓tWelNE, ↓wDisp, ↓psC, ↓psN, ↓wDIn, ↓wDNotIn, ↓askD, ↓fAdd, ↓fSub, ↓fII, ↓fII0, ↓fDiv, ↓fMod, ↓fPow, ↓fLt, ↓fGt, ↓fLe, ↓fGe, ↓fGtD, ↓fLtD, ↓fLeD, ↓fGeD, ↓fNeg, ↓fMul, ↓fEq, ↓fNe, ↓eqQ, ↓fIsN, ↓fNotN, isNone_1, isNone_2, isNone_3, isNone_4, isNone_5, isNone_6, isNone_7, ↓fInC, ↓fNotInC, ↓fSub_, ↓fIx, ↓fSl, ↓fLen, ↓fTuple, ↓fMin1, ↓fMax1, ↓fSum, ↓fAll, ↓fAny, ↓fSorted, ↓fSortS, ↓fAbs, ↓fInt, ↓fRepr, ↓fCnt, ↓fIdx, ↓fJoin, isStr,
 endsG, mem0, toEnt, Mem.set, Mem.view, Mem.kill, Mem.frz, Mem.ro, Ent.ro', Opd.get,
 List.set_cons_zero, List.set_cons_succ, List.getElem?_cons_zero, List.getElem?_cons_succ, List.map_cons, List.map_nil, List.length_cons, List.length_nil, List.cons_append, List.nil_append, List.replicate_succ, List.replicate_zero, Option.map_some, Option.map_none, List.cons.injEq, and_true, true_and, Arg.x.injEq, exists_eq_left, exists_eq_right, Option.some.injEq, Ent.ow.injEq, Ent.im.injEq, PyData.int.injEq, PyData.list.injEq, PyData.dict.injEq, PyData.tuple.injEq, PyData.str.injEq, exists_eq', exists_eq, decide_eq_true_eq, Bool.not_eq_true', ite_true, ite_false, decide_true, decide_false, decide_eq_false_iff_not, not_true_eq_false, not_false_eq_true, reduceCtorEq, eq_self]
      refine ⟨⟨_, _, _, _, rfl⟩, fun p' s a vs => ?_⟩
      by_cases e : p' = p
      · subst e
        exact h3 s (size_all h1 vs) vs
      · exact h0 p' s (by omega) vs
  · rintro M' ⟨⟨e3, e4, e5, e6, rfl⟩, h0⟩
    rw [rng_len] at h0
    simp -dsimp only [↓uSeq, ↓uNext, ↓uKill, ↓uFrz, ↓uDrop, ↓uRet, ↓uIf, ↓uAsg, ↓uAsgO, ↓uPar2, ↓uPut, ↓uDPut, ↓uFor_eq, ↓uWhile_eq, ↓uSeqM_eq, ↓uBrk, ↓uCnt, ↓uWelD, ↓gSet, ↓gN, ↓gC, ↓gT, ↓zE, ↓zF, ↓oE, ↓oV, ↓wV, ↓wC, ↓wOp, ↓wUn, ↓app2, ↓app1, ↓wTst, ↓tAndD, ↓tOrD, ↓tNotD, ↓wAndV, ↓wOrV, ↓wNotV, ↓wIf, ↓wChain, ↓osN, ↓osC, getAll, ↓appN, ↓wCB, ↓appM, ↓wBM, ↓wBM0, ↓wN, ↓wCs, ↓wTup, ↓wLst, ↓wDic0, ↓wDicT, ↓aN, ↓aC, ↓aW, ↓wCall_eq, ↓wCallK_eq, perm, List.filterMap_cons, List.filterMap_nil, ↓wApp, ↓wExt, ↓wPop, ↓wPopAt, ↓wListA, ↓wRpl, ↓iX, ↓iL, ↓iT, ↓iS, ↓iR1, ↓iR2, ↓iScr, ↓iZD, ↓iE, ↓wComp_eq, ↓ttY, ↓wSl, ↓wPart, ↓plN, ↓wRev, ↓wListO, ↓wRep, ↓wLenSet, ↓wLenScr, ↓wWelI, ↓wWelPop, ↓wWelApp, ↓tWelNE, ↓wDisp, ↓psC, ↓psN, ↓wDIn, ↓wDNotIn, ↓askD, ↓fAdd, ↓fSub, ↓fII, ↓fII0, ↓fDiv, ↓fMod, ↓fPow, ↓fLt, ↓fGt, ↓fLe, ↓fGe, ↓fGtD, ↓fLtD, ↓fLeD, ↓fGeD, ↓fNeg, ↓fMul, ↓fEq, ↓fNe, ↓eqQ, ↓fIsN, ↓fNotN, isNone_1, isNone_2, isNone_3, isNone_4, isNone_5, isNone_6, isNone_7, ↓fInC, ↓fNotInC, ↓fSub_, ↓fIx, ↓fSl, ↓fLen, ↓fTuple, ↓fMin1, ↓fMax1, ↓fSum, ↓fAll, ↓fAny, ↓fSorted, ↓fSortS, ↓fAbs, ↓fInt, ↓fRepr, ↓fCnt, ↓fIdx, ↓fJoin, isStr,
 endsG, mem0, toEnt, Mem.set, Mem.view, Mem.kill, Mem.frz, Mem.ro, Ent.ro', Opd.get,
 List.set_cons_zero, List.set_cons_succ, List.getElem?_cons_zero, List.getElem?_cons_succ, List.map_cons, List.map_nil, List.length_cons, List.length_nil, List.cons_append, List.nil_append, List.replicate_succ, List.replicate_zero, Option.map_some, Option.map_none, List.cons.injEq, and_true, true_and, Arg.x.injEq, exists_eq_left, exists_eq_right, Option.some.injEq, Ent.ow.injEq, Ent.im.injEq, PyData.int.injEq, PyData.list.injEq, PyData.dict.injEq, PyData.tuple.injEq, PyData.str.injEq, exists_eq', exists_eq, decide_eq_true_eq, Bool.not_eq_true', ite_true, ite_false, decide_true, decide_false, decide_eq_false_iff_not, not_true_eq_false, not_false_eq_true, reduceCtorEq, eq_self]
    exact q _ (.inl ⟨rfl, fun p s v => h0 p s v.1 v⟩)
theorem sums_dot {ws : List Int} {l : List Nat} (hl : LetK 4 l) (p s : Nat) : sumsTo ws l (p + s) - sumsTo ws l p = dot (seg l p s) ws := by
  rw [sums_win, dot_sum ws _ (win_let hl p s)]
  rfl
def u__law_least_sum : WS :=
  (uSeq (uAsg (wCall g__law_sums (aC (wV 0) (aC (wV 1) aN))) (gSet 3))
  (uSeq (uFor [4, 5, 6] (iR1 (osC (oE (wCB fLen (osC (oV 0) osN))) osN)) (gSet 4)
  (uFor [5, 6] (iR2 (osC (oE (wC (.int 1))) (osC (oE (wOp fAdd (oE (wOp fDiv (oE (wOp fSub (oE (wCB fLen (osC (oV 0) osN))) (oV 4))) (oV 2))) (oE (wC (.int 1))))) osN))) (gSet 5)
  (uSeq (uAsg (wComp [7] (iR1 (osC (oE (wOp fAdd (oV 2) (oE (wC (.int 1))))) osN)) (gSet 7) ttY (wOp fSub_ (oV 3) (oE (wOp fAdd (oV 4) (oE (wOp fMul (oV 7) (oV 5))))))) (gSet 6))
  (uIf (wTst (wOp fEq (oE (wCB fLen (osC (oE (wComp [7] (iR1 (osC (oV 2) osN)) (gSet 7) (wTst (wOp fNe (oE (wOp fSub (oE (wOp fSub_ (oV 6) (oE (wOp fAdd (oV 7) (oE (wC (.int 1))))))) (oE (wOp fSub_ (oV 6) (oV 7))))) (oE (wOp fSub (oE (wOp fSub_ (oV 6) (oE (wC (.int 1))))) (oE (wOp fSub_ (oV 6) (oE (wC (.int 0))))))))) (wC (.int 1)))) osN))) (oE (wC (.int 0)))))
  (uRet (wTup (wCs (wV 4) (wCs (wV 5) wN))))
  uNext))))
  (uRet (wC .none))))
theorem pf__law_least_sum (args : List Arg) (wl : Option Wel) (Q : PyData → Option Wel → Prop) (h : g__law_least_sum args wl Q) : u__law_least_sum noX (endsG Q) (mem0 8 args wl) := by
  obtain ⟨l, ws, o, rfl, hw, hlet, hl, h1, h2, q⟩ := h
  simp -dsimp only [u__law_least_sum, ↓uSeq, ↓uNext, ↓uKill, ↓uFrz, ↓uDrop, ↓uRet, ↓uIf, ↓uAsg, ↓uAsgO, ↓uPar2, ↓uPut, ↓uDPut, ↓uFor_eq, ↓uWhile_eq, ↓uSeqM_eq, ↓uBrk, ↓uCnt, ↓uWelD, ↓gSet, ↓gN, ↓gC, ↓gT, ↓zE, ↓zF, ↓oE, ↓oV, ↓wV, ↓wC, ↓wOp, ↓wUn, ↓app2, ↓app1, ↓wTst, ↓tAndD, ↓tOrD, ↓tNotD, ↓wAndV, ↓wOrV, ↓wNotV, ↓wIf, ↓wChain, ↓osN, ↓osC, getAll, ↓appN, ↓wCB, ↓appM, ↓wBM, ↓wBM0, ↓wN, ↓wCs, ↓wTup, ↓wLst, ↓wDic0, ↓wDicT, ↓aN, ↓aC, ↓aW, ↓wCall_eq, ↓wCallK_eq, perm, List.filterMap_cons, List.filterMap_nil, ↓wApp, ↓wExt, ↓wPop, ↓wPopAt, ↓wListA, ↓wRpl, ↓iX, ↓iL, ↓iT, ↓iS, ↓iR1, ↓iR2, ↓iScr, ↓iZD, ↓iE, ↓wComp_eq, ↓ttY, ↓wSl, ↓wPart, ↓plN, ↓wRev, ↓wListO, ↓wRep, ↓wLenSet, ↓wLenScr, ↓wWelI, ↓wWelPop, ↓wWelApp, ↓tWelNE, ↓wDisp, ↓psC, ↓psN, ↓wDIn, ↓wDNotIn, ↓askD, ↓fAdd, ↓fSub, ↓fII, ↓fII0, ↓fDiv, ↓fMod, ↓fPow, ↓fLt, ↓fGt, ↓fLe, ↓fGe, ↓fGtD, ↓fLtD, ↓fLeD, ↓fGeD, ↓fNeg, ↓fMul, ↓fEq, ↓fNe, ↓eqQ, ↓fIsN, ↓fNotN, isNone_1, isNone_2, isNone_3, isNone_4, isNone_5, isNone_6, isNone_7, ↓fInC, ↓fNotInC, ↓fSub_, ↓fIx, ↓fSl, ↓fLen, ↓fTuple, ↓fMin1, ↓fMax1, ↓fSum, ↓fAll, ↓fAny, ↓fSorted, ↓fSortS, ↓fAbs, ↓fInt, ↓fRepr, ↓fCnt, ↓fIdx, ↓fJoin, isStr,
 endsG, mem0, toEnt, Mem.set, Mem.view, Mem.kill, Mem.frz, Mem.ro, Ent.ro', Opd.get,
 List.set_cons_zero, List.set_cons_succ, List.getElem?_cons_zero, List.getElem?_cons_succ, List.map_cons, List.map_nil, List.length_cons, List.length_nil, List.cons_append, List.nil_append, List.replicate_succ, List.replicate_zero, Option.map_some, Option.map_none, List.cons.injEq, and_true, true_and, Arg.x.injEq, exists_eq_left, exists_eq_right, Option.some.injEq, Ent.ow.injEq, Ent.im.injEq, PyData.int.injEq, PyData.list.injEq, PyData.dict.injEq, PyData.tuple.injEq, PyData.str.injEq, exists_eq', exists_eq, decide_eq_true_eq, Bool.not_eq_true', ite_true, ite_false, decide_true, decide_false, decide_eq_false_iff_not, not_true_eq_false, not_false_eq_true, reduceCtorEq, eq_self]
  refine sums_i (ws := ws) rfl hw hlet (by omega) ?_
  simp -dsimp only [↓uSeq, ↓uNext, ↓uKill, ↓uFrz, ↓uDrop, ↓uRet, ↓uIf, ↓uAsg, ↓uAsgO, ↓uPar2, ↓uPut, ↓uDPut, ↓uFor_eq, ↓uWhile_eq, ↓uSeqM_eq, ↓uBrk, ↓uCnt, ↓uWelD, ↓gSet, ↓gN, ↓gC, ↓gT, ↓zE, ↓zF, ↓oE, ↓oV, ↓wV, ↓wC, ↓wOp, ↓wUn, ↓app2, ↓app1, ↓wTst, ↓tAndD, ↓tOrD, ↓tNotD, ↓wAndV, ↓wOrV, ↓wNotV, ↓wIf, ↓wChain, ↓osN, ↓osC, getAll, ↓appN, ↓wCB, ↓appM, ↓wBM, ↓wBM0, ↓wN, ↓wCs, ↓wTup, ↓wLst, ↓wDic0, ↓wDicT, ↓aN, ↓aC, ↓aW, ↓wCall_eq, ↓wCallK_eq, perm, List.filterMap_cons, List.filterMap_nil, ↓wApp, ↓wExt, ↓wPop, ↓wPopAt, ↓wListA, ↓wRpl, ↓iX, ↓iL, ↓iT, ↓iS, ↓iR1, ↓iR2, ↓iScr, ↓iZD, ↓iE, ↓wComp_eq, ↓ttY, ↓wSl, ↓wPart, ↓plN, ↓wRev, ↓wListO, ↓wRep, ↓wLenSet, ↓wLenScr, ↓wWelI, ↓wWelPop, ↓wWelApp, ↓tWelNE, ↓wDisp, ↓psC, ↓psN, ↓wDIn, ↓wDNotIn, ↓askD, ↓fAdd, ↓fSub, ↓fII, ↓fII0, ↓fDiv, ↓fMod, ↓fPow, ↓fLt, ↓fGt, ↓fLe, ↓fGe, ↓fGtD, ↓fLtD, ↓fLeD, ↓fGeD, ↓fNeg, ↓fMul, ↓fEq, ↓fNe, ↓eqQ, ↓fIsN, ↓fNotN, isNone_1, isNone_2, isNone_3, isNone_4, isNone_5, isNone_6, isNone_7, ↓fInC, ↓fNotInC, ↓fSub_, ↓fIx, ↓fSl, ↓fLen, ↓fTuple, ↓fMin1, ↓fMax1, ↓fSum, ↓fAll, ↓fAny, ↓fSorted, ↓fSortS, ↓fAbs, ↓fInt, ↓fRepr, ↓fCnt, ↓fIdx, ↓fJoin, isStr,
 endsG, mem0, toEnt, Mem.set, Mem.view, Mem.kill, Mem.frz, Mem.ro, Ent.ro', Opd.get,
 List.set_cons_zero, List.set_cons_succ, List.getElem?_cons_zero, List.getElem?_cons_succ, List.map_cons, List.map_nil, List.length_cons, List.length_nil, List.cons_append, List.nil_append, List.replicate_succ, List.replicate_zero, Option.map_some, Option.map_none, List.cons.injEq, and_true, true_and, Arg.x.injEq, exists_eq_left, exists_eq_right, Option.some.injEq, Ent.ow.injEq, Ent.im.injEq, PyData.int.injEq, PyData.list.injEq, PyData.dict.injEq, PyData.tuple.injEq, PyData.str.injEq, exists_eq', exists_eq, decide_eq_true_eq, Bool.not_eq_true', ite_true, ite_false, decide_true, decide_false, decide_eq_false_iff_not, not_true_eq_false, not_false_eq_true, reduceCtorEq, eq_self, S_cps]
  rw [Int.toNat_natCast]
  refine ⟨zl _ (by omega), ⟨by omega, by omega⟩, ?_⟩
  refine for_i (fun i M => (∃ e3 e4 e5 : Option Ent, M = ⟨[some (.im (sD l)), some (.im (.tuple (ws.map .int))), some (.im (.int (o : Nat))), some (.im (.list (((List.range (l.length + 1)).map (sumsTo ws l)).map .int))), e3, e4, e5, none], wl⟩) ∧ ∀ p s, p < i → Vl l o p s → ¬ PSum ws l o p s) ⟨⟨none, none, none, rfl⟩, fun p s a b => absurd a (by omega)⟩ ?_ ?_
  · rintro p d M' hd ⟨⟨e3, e4, e5, rfl⟩, h0⟩
    obtain ⟨hp, rfl⟩ := rng_at hd
    obtain ⟨b1, b2⟩ := div_bnd (o := o) (by omega : l.length ≤ 100) hp
    simp -dsimp only [↓uSeq, ↓uNext, ↓uKill, ↓uFrz, ↓uDrop, ↓uRet, ↓uIf, ↓uAsg, ↓uAsgO, ↓uPar2, ↓uPut, ↓uDPut, ↓uFor_eq, ↓uWhile_eq, ↓uSeqM_eq, ↓uBrk, ↓uCnt, ↓uWelD, ↓gSet, ↓gN, ↓gC, ↓gT, ↓zE, ↓zF, ↓oE, ↓oV, ↓wV, ↓wC, ↓wOp, ↓wUn, ↓app2, ↓app1, ↓wTst, ↓tAndD, ↓tOrD, ↓tNotD, ↓wAndV, ↓wOrV, ↓wNotV, ↓wIf, ↓wChain, ↓osN, ↓osC, getAll, ↓appN, ↓wCB, ↓appM, ↓wBM, ↓wBM0, ↓wN, ↓wCs, ↓wTup, ↓wLst, ↓wDic0, ↓wDicT, ↓aN, ↓aC, ↓aW, ↓wCall_eq, ↓wCallK_eq, perm, List.filterMap_cons, List.filterMap_nil, ↓wApp, ↓wExt, ↓wPop, ↓wPopAt, ↓wListA, ↓wRpl, ↓iX, ↓iL, ↓iT, ↓iS, ↓iR1, ↓iR2, ↓iScr, ↓iZD, ↓iE, ↓wComp_eq, ↓ttY, ↓wSl, ↓wPart, ↓plN, ↓wRev, ↓wListO, ↓wRep, ↓wLenSet, ↓wLenScr, ↓wWelI, ↓wWelPop, ↓wWelApp, ↓tWelNE, ↓wDisp, ↓psC, ↓psN, ↓wDIn, ↓wDNotIn, ↓askD, ↓fAdd, ↓fSub, ↓fII, ↓fII0, ↓fDiv, ↓fMod, ↓fPow, ↓fLt, ↓fGt, ↓fLe, ↓fGe, ↓fGtD, ↓fLtD, ↓fLeD, ↓fGeD, ↓fNeg, ↓fMul, ↓fEq, ↓fNe, ↓eqQ, ↓fIsN, ↓fNotN, isNone_1, isNone_2, isNone_3, isNone_4, isNone_5, isNone_6, isNone_7, ↓fInC, ↓fNotInC, ↓fSub_, ↓fIx, ↓fSl, ↓fLen, ↓fTuple, ↓fMin1, ↓fMax1, ↓fSum, ↓fAll, ↓fAny, ↓fSorted, ↓fSortS, ↓fAbs, ↓fInt, ↓fRepr, ↓fCnt, ↓fIdx, ↓fJoin, isStr,
 endsG, mem0, toEnt, Mem.set, Mem.view, Mem.kill, Mem.frz, Mem.ro, Ent.ro', Opd.get,
 List.set_cons_zero, List.set_cons_succ, List.getElem?_cons_zero, List.getElem?_cons_succ, List.map_cons, List.map_nil, List.length_cons, List.length_nil, List.cons_append, List.nil_append, List.replicate_succ, List.replicate_zero, Option.map_some, Option.map_none, List.cons.injEq, and_true, true_and, Arg.x.injEq, exists_eq_left, exists_eq_right, Option.some.injEq, Ent.ow.injEq, Ent.im.injEq, PyData.int.injEq, PyData.list.injEq, PyData.dict.injEq, PyData.tuple.injEq, PyData.str.injEq, exists_eq', exists_eq, decide_eq_true_eq, Bool.not_eq_true', ite_true, ite_false, decide_true, decide_false, decide_eq_false_iff_not, not_true_eq_false, not_false_eq_true, reduceCtorEq, eq_self, S_cps]
    rw [div_int hp]
    refine ⟨zl _ (by omega), divW (by omega) (by omega), ⟨by decide, by decide, by omega, by omega⟩, ?_⟩
    refine for_i (fun j M => (∃ e4 e5 : Option Ent, M = ⟨[some (.im (sD l)), some (.im (.tuple (ws.map .int))), some (.im (.int (o : Nat))), some (.im (.list (((List.range (l.length + 1)).map (sumsTo ws l)).map .int))), some (.im (.int (p : Nat))), e4, e5, none], wl⟩) ∧ ∀ s, s < 1 + j → Vl l o p s → ¬ PSum ws l o p s) ⟨⟨none, none, rfl⟩, fun s a b => absurd b.2.1 (by omega)⟩ ?_ ?_
    · rintro j d M' hd ⟨⟨e4, e5, rfl⟩, h3⟩
      obtain ⟨hj, rfl⟩ := rng_atL hd
      have v := size_ok h1 hp hj
      obtain ⟨s, hs⟩ : ∃ s, s = 1 + j := ⟨_, rfl⟩
      have ec : (1 : Int) + (j : Nat) = (s : Nat) := by omega
      rw [← hs] at v
      have vs3 := v.2.2
      have hso : s ≤ o * s := Nat.le_mul_of_pos_left s h1
      rw [ec]
      simp -dsimp only [↓uSeq, ↓uNext, ↓uKill, ↓uFrz, ↓uDrop, ↓uRet, ↓uIf, ↓uAsg, ↓uAsgO, ↓uPar2, ↓uPut, ↓uDPut, ↓uFor_eq, ↓uWhile_eq, ↓uSeqM_eq, ↓uBrk, ↓uCnt, ↓uWelD, ↓gSet, ↓gN, ↓gC, ↓gT, ↓zE, ↓zF, ↓oE, ↓oV, ↓wV, ↓wC, ↓wOp, ↓wUn, ↓app2, ↓app1, ↓wTst, ↓tAndD, ↓tOrD, ↓tNotD, ↓wAndV, ↓wOrV, ↓wNotV, ↓wIf, ↓wChain, ↓osN, ↓osC, getAll, ↓appN, ↓wCB, ↓appM, ↓wBM, ↓wBM0, ↓wN, ↓wCs, ↓wTup, ↓wLst, ↓wDic0, ↓wDicT, ↓aN, ↓aC, ↓aW, ↓wCall_eq, ↓wCallK_eq, perm, List.filterMap_cons, List.filterMap_nil, ↓wApp, ↓wExt, ↓wPop, ↓wPopAt, ↓wListA, ↓wRpl, ↓iX, ↓iL, ↓iT, ↓iS, ↓iR1, ↓iR2, ↓iScr, ↓iZD, ↓iE, ↓wComp_eq, ↓ttY, ↓wSl, ↓wPart, ↓plN, ↓wRev, ↓wListO, ↓wRep, ↓wLenSet, ↓wLenScr, ↓wWelI, ↓wWelPop, ↓wWelApp, ↓tWelNE, ↓wDisp, ↓psC, ↓psN, ↓wDIn, ↓wDNotIn, ↓askD, ↓fAdd, ↓fSub, ↓fII, ↓fII0, ↓fDiv, ↓fMod, ↓fPow, ↓fLt, ↓fGt, ↓fLe, ↓fGe, ↓fGtD, ↓fLtD, ↓fLeD, ↓fGeD, ↓fNeg, ↓fMul, ↓fEq, ↓fNe, ↓eqQ, ↓fIsN, ↓fNotN, isNone_1, isNone_2, isNone_3, isNone_4, isNone_5, isNone_6, isNone_7, ↓fInC, ↓fNotInC, ↓fSub_, ↓fIx, ↓fSl, ↓fLen, ↓fTuple, ↓fMin1, ↓fMax1, ↓fSum, ↓fAll, ↓fAny, ↓fSorted, ↓fSortS, ↓fAbs, ↓fInt, ↓fRepr, ↓fCnt, ↓fIdx, ↓fJoin, isStr,
 endsG, mem0, toEnt, Mem.set, Mem.view, Mem.kill, Mem.frz, Mem.ro, Ent.ro', Opd.get,
 List.set_cons_zero, List.set_cons_succ, List.getElem?_cons_zero, List.getElem?_cons_succ, List.map_cons, List.map_nil, List.length_cons, List.length_nil, List.cons_append, List.nil_append, List.replicate_succ, List.replicate_zero, Option.map_some, Option.map_none, List.cons.injEq, and_true, true_and, Arg.x.injEq, exists_eq_left, exists_eq_right, Option.some.injEq, Ent.ow.injEq, Ent.im.injEq, PyData.int.injEq, PyData.list.injEq, PyData.dict.injEq, PyData.tuple.injEq, PyData.str.injEq, exists_eq', exists_eq, decide_eq_true_eq, Bool.not_eq_true', ite_true, ite_false, decide_true, decide_false, decide_eq_false_iff_not, not_true_eq_false, not_false_eq_true, reduceCtorEq, eq_self]
      have e6 : ((o : Int) + 1).toNat = o + 1 := by omega
      rw [e6, rng_len]
      refine ⟨⟨by omega, by omega⟩, zl _ (by omega), comp_map (fun d => match d with
        | .int k => .int (sumsTo ws l (p + k.toNat * s))
        | _ => .none) (fun d hd P hP => ?_) ?_⟩
      · obtain ⟨k, hk, rfl⟩ := mem_rng hd
        have e7 : (p : Int) + (k : Nat) * (s : Nat) = ((p + k * s : Nat) : Int) := by push_cast; rfl
        have hks : k * s ≤ o * s := Nat.mul_le_mul_right s (by omega)
        have a1 := atI_sums (ws := ws) (l := l) (i := ((p + k * s : Nat) : Int)) (by omega) (by omega)
        simp -dsimp only [↓uSeq, ↓uNext, ↓uKill, ↓uFrz, ↓uDrop, ↓uRet, ↓uIf, ↓uAsg, ↓uAsgO, ↓uPar2, ↓uPut, ↓uDPut, ↓uFor_eq, ↓uWhile_eq, ↓uSeqM_eq, ↓uBrk, ↓uCnt, ↓uWelD, ↓gSet, ↓gN, ↓gC, ↓gT, ↓zE, ↓zF, ↓oE, ↓oV, ↓wV, ↓wC, ↓wOp, ↓wUn, ↓app2, ↓app1, ↓wTst, ↓tAndD, ↓tOrD, ↓tNotD, ↓wAndV, ↓wOrV, ↓wNotV, ↓wIf, ↓wChain, ↓osN, ↓osC, getAll, ↓appN, ↓wCB, ↓appM, ↓wBM, ↓wBM0, ↓wN, ↓wCs, ↓wTup, ↓wLst, ↓wDic0, ↓wDicT, ↓aN, ↓aC, ↓aW, ↓wCall_eq, ↓wCallK_eq, perm, List.filterMap_cons, List.filterMap_nil, ↓wApp, ↓wExt, ↓wPop, ↓wPopAt, ↓wListA, ↓wRpl, ↓iX, ↓iL, ↓iT, ↓iS, ↓iR1, ↓iR2, ↓iScr, ↓iZD, ↓iE, ↓wComp_eq, ↓ttY, ↓wSl, ↓wPart, ↓plN, ↓wRev, ↓wListO, ↓wRep, ↓wLenSet, ↓wLenScr, ↓wWelI, ↓wWelPop, ↓wWelApp, ↓tWelNE, ↓wDisp, ↓psC, ↓psN, ↓wDIn, ↓wDNotIn, ↓askD, ↓fAdd, ↓fSub, ↓fII, ↓fII0, ↓fDiv, ↓fMod, ↓fPow, ↓fLt, ↓fGt, ↓fLe, ↓fGe, ↓fGtD, ↓fLtD, ↓fLeD, ↓fGeD, ↓fNeg, ↓fMul, ↓fEq, ↓fNe, ↓eqQ, ↓fIsN, ↓fNotN, isNone_1, isNone_2, isNone_3, isNone_4, isNone_5, isNone_6, isNone_7, ↓fInC, ↓fNotInC, ↓fSub_, ↓fIx, ↓fSl, ↓fLen, ↓fTuple, ↓fMin1, ↓fMax1, ↓fSum, ↓fAll, ↓fAny, ↓fSorted, ↓fSortS, ↓fAbs, ↓fInt, ↓fRepr, ↓fCnt, ↓fIdx, ↓fJoin, isStr,
 endsG, mem0, toEnt, Mem.set, Mem.view, Mem.kill, Mem.frz, Mem.ro, Ent.ro', Opd.get,
 List.set_cons_zero, List.set_cons_succ, List.getElem?_cons_zero, List.getElem?_cons_succ, List.map_cons, List.map_nil, List.length_cons, List.length_nil, List.cons_append, List.nil_append, List.replicate_succ, List.replicate_zero, Option.map_some, Option.map_none, List.cons.injEq, and_true, true_and, Arg.x.injEq, exists_eq_left, exists_eq_right, Option.some.injEq, Ent.ow.injEq, Ent.im.injEq, PyData.int.injEq, PyData.list.injEq, PyData.dict.injEq, PyData.tuple.injEq, PyData.str.injEq, exists_eq', exists_eq, decide_eq_true_eq, Bool.not_eq_true', ite_true, ite_false, decide_true, decide_false, decide_eq_false_iff_not, not_true_eq_false, not_false_eq_true, reduceCtorEq, eq_self, e7, a1]
        exact ⟨.inl ⟨by omega, by omega⟩, hP⟩
      · rw [rng_map _ (fun k => .int (sumsTo ws l (p + k * s))) _ fun k _ => rfl]
        have at_ : ∀ k : Nat, k ≤ o → ∀ i : Int, i = (k : Nat) → atI ((List.range (o + 1)).map fun k => PyData.int (sumsTo ws l (p + k * s))) i = some (.int (sumsTo ws l (p + k * s))) := fun k hk i hi => atI_at hi (by rw [List.getElem?_map, List.getElem?_range (by omega)]; rfl)
        have dk : ∀ k, k < o → sumsTo ws l (p + (k + 1) * s) - sumsTo ws l (p + k * s) = dot (seg l (p + k * s) s) ws := fun k hk => by
          rw [← sums_dot hlet, Nat.add_mul, Nat.one_mul, Nat.add_assoc]
        simp -dsimp only [↓uSeq, ↓uNext, ↓uKill, ↓uFrz, ↓uDrop, ↓uRet, ↓uIf, ↓uAsg, ↓uAsgO, ↓uPar2, ↓uPut, ↓uDPut, ↓uFor_eq, ↓uWhile_eq, ↓uSeqM_eq, ↓uBrk, ↓uCnt, ↓uWelD, ↓gSet, ↓gN, ↓gC, ↓gT, ↓zE, ↓zF, ↓oE, ↓oV, ↓wV, ↓wC, ↓wOp, ↓wUn, ↓app2, ↓app1, ↓wTst, ↓tAndD, ↓tOrD, ↓tNotD, ↓wAndV, ↓wOrV, ↓wNotV, ↓wIf, ↓wChain, ↓osN, ↓osC, getAll, ↓appN, ↓wCB, ↓appM, ↓wBM, ↓wBM0, ↓wN, ↓wCs, ↓wTup, ↓wLst, ↓wDic0, ↓wDicT, ↓aN, ↓aC, ↓aW, ↓wCall_eq, ↓wCallK_eq, perm, List.filterMap_cons, List.filterMap_nil, ↓wApp, ↓wExt, ↓wPop, ↓wPopAt, ↓wListA, ↓wRpl, ↓iX, ↓iL, ↓iT, ↓iS, ↓iR1, ↓iR2, ↓iScr, ↓iZD, ↓iE, ↓wComp_eq, ↓ttY, ↓wSl, ↓wPart, ↓plN, ↓wRev, ↓wListO, ↓wRep, ↓wLenSet, ↓wLenScr, ↓wWelI, ↓wWelPop, ↓wWelApp, ↓tWelNE, ↓wDisp, ↓psC, ↓psN, ↓wDIn, ↓wDNotIn, ↓askD, ↓fAdd, ↓fSub, ↓fII, ↓fII0, ↓fDiv, ↓fMod, ↓fPow, ↓fLt, ↓fGt, ↓fLe, ↓fGe, ↓fGtD, ↓fLtD, ↓fLeD, ↓fGeD, ↓fNeg, ↓fMul, ↓fEq, ↓fNe, ↓eqQ, ↓fIsN, ↓fNotN, isNone_1, isNone_2, isNone_3, isNone_4, isNone_5, isNone_6, isNone_7, ↓fInC, ↓fNotInC, ↓fSub_, ↓fIx, ↓fSl, ↓fLen, ↓fTuple, ↓fMin1, ↓fMax1, ↓fSum, ↓fAll, ↓fAny, ↓fSorted, ↓fSortS, ↓fAbs, ↓fInt, ↓fRepr, ↓fCnt, ↓fIdx, ↓fJoin, isStr,
 endsG, mem0, toEnt, Mem.set, Mem.view, Mem.kill, Mem.frz, Mem.ro, Ent.ro', Opd.get,
 List.set_cons_zero, List.set_cons_succ, List.getElem?_cons_zero, List.getElem?_cons_succ, List.map_cons, List.map_nil, List.length_cons, List.length_nil, List.cons_append, List.nil_append, List.replicate_succ, List.replicate_zero, Option.map_some, Option.map_none, List.cons.injEq, and_true, true_and, Arg.x.injEq, exists_eq_left, exists_eq_right, Option.some.injEq, Ent.ow.injEq, Ent.im.injEq, PyData.int.injEq, PyData.list.injEq, PyData.dict.injEq, PyData.tuple.injEq, PyData.str.injEq, exists_eq', exists_eq, decide_eq_true_eq, Bool.not_eq_true', ite_true, ite_false, decide_true, decide_false, decide_eq_false_iff_not, not_true_eq_false, not_false_eq_true, reduceCtorEq, eq_self]
        rw [Int.toNat_natCast, rng_len]
        refine ⟨⟨by omega, by omega⟩, zl _ (by omega), comp_filter (fun _ => .int 1) (fun d => match d with
          | .int k => !decide (dot (seg l (p + k.toNat * s) s) ws = dot (seg l p s) ws)
          | _ => false) (fun d hd P P2 hP hP2 => ?_) ?_⟩
        · obtain ⟨k, hk, rfl⟩ := mem_rng hd
          simp -dsimp only [↓uSeq, ↓uNext, ↓uKill, ↓uFrz, ↓uDrop, ↓uRet, ↓uIf, ↓uAsg, ↓uAsgO, ↓uPar2, ↓uPut, ↓uDPut, ↓uFor_eq, ↓uWhile_eq, ↓uSeqM_eq, ↓uBrk, ↓uCnt, ↓uWelD, ↓gSet, ↓gN, ↓gC, ↓gT, ↓zE, ↓zF, ↓oE, ↓oV, ↓wV, ↓wC, ↓wOp, ↓wUn, ↓app2, ↓app1, ↓wTst, ↓tAndD, ↓tOrD, ↓tNotD, ↓wAndV, ↓wOrV, ↓wNotV, ↓wIf, ↓wChain, ↓osN, ↓osC, getAll, ↓appN, ↓wCB, ↓appM, ↓wBM, ↓wBM0, ↓wN, ↓wCs, ↓wTup, ↓wLst, ↓wDic0, ↓wDicT, ↓aN, ↓aC, ↓aW, ↓wCall_eq, ↓wCallK_eq, perm, List.filterMap_cons, List.filterMap_nil, ↓wApp, ↓wExt, ↓wPop, ↓wPopAt, ↓wListA, ↓wRpl, ↓iX, ↓iL, ↓iT, ↓iS, ↓iR1, ↓iR2, ↓iScr, ↓iZD, ↓iE, ↓wComp_eq, ↓ttY, ↓wSl, ↓wPart, ↓plN, ↓wRev, ↓wListO, ↓wRep, ↓wLenSet, ↓wLenScr, ↓wWelI, ↓wWelPop, ↓wWelApp, ↓tWelNE, ↓wDisp, ↓psC, ↓psN, ↓wDIn, ↓wDNotIn, ↓askD, ↓fAdd, ↓fSub, ↓fII, ↓fII0, ↓fDiv, ↓fMod, ↓fPow, ↓fLt, ↓fGt, ↓fLe, ↓fGe, ↓fGtD, ↓fLtD, ↓fLeD, ↓fGeD, ↓fNeg, ↓fMul, ↓fEq, ↓fNe, ↓eqQ, ↓fIsN, ↓fNotN, isNone_1, isNone_2, isNone_3, isNone_4, isNone_5, isNone_6, isNone_7, ↓fInC, ↓fNotInC, ↓fSub_, ↓fIx, ↓fSl, ↓fLen, ↓fTuple, ↓fMin1, ↓fMax1, ↓fSum, ↓fAll, ↓fAny, ↓fSorted, ↓fSortS, ↓fAbs, ↓fInt, ↓fRepr, ↓fCnt, ↓fIdx, ↓fJoin, isStr,
 endsG, mem0, toEnt, Mem.set, Mem.view, Mem.kill, Mem.frz, Mem.ro, Ent.ro', Opd.get,
 List.set_cons_zero, List.set_cons_succ, List.getElem?_cons_zero, List.getElem?_cons_succ, List.map_cons, List.map_nil, List.length_cons, List.length_nil, List.cons_append, List.nil_append, List.replicate_succ, List.replicate_zero, Option.map_some, Option.map_none, List.cons.injEq, and_true, true_and, Arg.x.injEq, exists_eq_left, exists_eq_right, Option.some.injEq, Ent.ow.injEq, Ent.im.injEq, PyData.int.injEq, PyData.list.injEq, PyData.dict.injEq, PyData.tuple.injEq, PyData.str.injEq, exists_eq', exists_eq, decide_eq_true_eq, Bool.not_eq_true', ite_true, ite_false, decide_true, decide_false, decide_eq_false_iff_not, not_true_eq_false, not_false_eq_true, reduceCtorEq, eq_self, at_ (k + 1) (by omega) ((k : Int) + 1) (by omega), at_ k (by omega) (k : Int) rfl, at_ 1 h1 1 rfl, at_ 0 (by omega) 0 rfl]
          have d0 := dk 0 (by omega)
          rw [Nat.zero_add, Nat.zero_mul, Nat.add_zero] at d0
          have z0 : p + 0 * s = p := by omega
          rw [z0, dk k hk, d0]
          refine ite_i (fun h => hP ?_) (fun h => hP2 ?_)
          · simp only [Int.toNat_natCast, h, decide_false, Bool.not_false]
          · simp only [Int.toNat_natCast, Decidable.not_not.mp h, decide_true, Bool.not_true]
        · have key : ((rng 0 o).filter (fun d => match d with
            | .int k => !decide (dot (seg l (p + k.toNat * s) s) ws = dot (seg l p s) ws)
            | _ => false)).length = 0 ↔ PSum ws l o p s := by
            rw [List.length_eq_zero_iff, List.filter_eq_nil_iff]
            constructor
            · intro h k hk
              have := h (.int (k : Nat)) (by unfold rng; exact List.mem_map.mpr ⟨k, List.mem_range.mpr hk, by rw [Int.zero_add]⟩)
              simp at this
              exact this
            · intro h d hd
              obtain ⟨k, hk, rfl⟩ := mem_rng hd
              simp [h k hk]
          simp -dsimp only [↓uSeq, ↓uNext, ↓uKill, ↓uFrz, ↓uDrop, ↓uRet, ↓uIf, ↓uAsg, ↓uAsgO, ↓uPar2, ↓uPut, ↓uDPut, ↓uFor_eq, ↓uWhile_eq, ↓uSeqM_eq, ↓uBrk, ↓uCnt, ↓uWelD, ↓gSet, ↓gN, ↓gC, ↓gT, ↓zE, ↓zF, ↓oE, ↓oV, ↓wV, ↓wC, ↓wOp, ↓wUn, ↓app2, ↓app1, ↓wTst, ↓tAndD, ↓tOrD, ↓tNotD, ↓wAndV, ↓wOrV, ↓wNotV, ↓wIf, ↓wChain, ↓osN, ↓osC, getAll, ↓appN, ↓wCB, ↓appM, ↓wBM, ↓wBM0, ↓wN, ↓wCs, ↓wTup, ↓wLst, ↓wDic0, ↓wDicT, ↓aN, ↓aC, ↓aW, ↓wCall_eq, ↓wCallK_eq, perm, List.filterMap_cons, List.filterMap_nil, ↓wApp, ↓wExt, ↓wPop, ↓wPopAt, ↓wListA, ↓wRpl, ↓iX, ↓iL, ↓iT, ↓iS, ↓iR1, ↓iR2, ↓iScr, ↓iZD, ↓iE, ↓wComp_eq, ↓ttY, ↓wSl, ↓wPart, ↓plN, ↓wRev, ↓wListO, ↓wRep, ↓wLenSet, ↓wLenScr, ↓wWelI, ↓wWelPop, ↓wWelApp, ↓tWelNE, ↓wDisp, ↓psC, ↓psN, ↓wDIn, ↓wDNotIn, ↓askD, ↓fAdd, ↓fSub, ↓fII, ↓fII0, ↓fDiv, ↓fMod, ↓fPow, ↓fLt, ↓fGt, ↓fLe, ↓fGe, ↓fGtD, ↓fLtD, ↓fLeD, ↓fGeD, ↓fNeg, ↓fMul, ↓fEq, ↓fNe, ↓eqQ, ↓fIsN, ↓fNotN, isNone_1, isNone_2, isNone_3, isNone_4, isNone_5, isNone_6, isNone_7, ↓fInC, ↓fNotInC, ↓fSub_, ↓fIx, ↓fSl, ↓fLen, ↓fTuple, ↓fMin1, ↓fMax1, ↓fSum, ↓fAll, ↓fAny, ↓fSorted, ↓fSortS, ↓fAbs, ↓fInt, ↓fRepr, ↓fCnt, ↓fIdx, ↓fJoin, isStr,
 endsG, mem0, toEnt, Mem.set, Mem.view, Mem.kill, Mem.frz, Mem.ro, Ent.ro', Opd.get,
 List.set_cons_zero, List.set_cons_succ, List.getElem?_cons_zero, List.getElem?_cons_succ, List.map_cons, List.map_nil, List.length_cons, List.length_nil, List.cons_append, List.nil_append, List.replicate_succ, List.replicate_zero, Option.map_some, Option.map_none, List.cons.injEq, and_true, true_and, Arg.x.injEq, exists_eq_left, exists_eq_right, Option.some.injEq, Ent.ow.injEq, Ent.im.injEq, PyData.int.injEq, PyData.list.injEq, PyData.dict.injEq, PyData.tuple.injEq, PyData.str.injEq, exists_eq', exists_eq, decide_eq_true_eq, Bool.not_eq_true', ite_true, ite_false, decide_true, decide_false, decide_eq_false_iff_not, not_true_eq_false, not_false_eq_true, reduceCtorEq, eq_self, List.length_map]
          refine ite_i (fun hc => ?_) (fun hc => ?_)
          · have hc := key.mp (by exact_mod_cast hc)
            refine ⟨by decide, q _ (.inr ⟨p, s, rfl, v, hc, fun p' s' v' z => ?_⟩)⟩
            rcases z with z | ⟨rfl, z⟩
            · exact h0 p' s' z v'
            · exact h3 s' (by omega) v'
          · have hc : ¬ PSum ws l o p s := fun z => hc (by exact_mod_cast key.mpr z)
            refine ⟨⟨_, _, rfl⟩, fun s2 a vs => ?_⟩
            by_cases e : s2 = s
            · subst e
              exact hc
            · exact h3 s2 (by omega) vs
    · rintro M' ⟨⟨e4, e5, rfl⟩, h3⟩
      rw [rng_len] at h3
      simp -dsimp only [↓uSeq, ↓uNext, ↓uKill, ↓uFrz, ↓uDrop, ↓uRet, ↓uIf, ↓uAsg, ↓uAsgO, ↓uPar2, ↓uPut, ↓uDPut, ↓uFor_eq, ↓uWhile_eq, ↓uSeqM_eq, ↓uBrk, ↓uCnt, ↓uWelD, ↓gSet, ↓gN, ↓gC, ↓gT, ↓zE, ↓zF, ↓oE, ↓oV, ↓wV, ↓wC, ↓wOp, ↓wUn, ↓app2, ↓app1, ↓wTst, ↓tAndD, ↓tOrD, ↓tNotD, ↓wAndV, ↓wOrV, ↓wNotV, ↓wIf, ↓wChain, ↓osN, ↓osC, getAll, ↓appN, ↓wCB, ↓appM, ↓wBM, ↓wBM0, ↓wN, ↓wCs, ↓wTup, ↓wLst, ↓wDic0, ↓wDicT, ↓aN, ↓aC, ↓aW, ↓wCall_eq, ↓wCallK_eq, perm, List.filterMap_cons, List.filterMap_nil, ↓wApp, ↓wExt, ↓wPop, ↓wPopAt, ↓wListA, ↓wRpl, ↓iX, ↓iL, ↓iT, ↓iS, ↓iR1, ↓iR2, ↓iScr, ↓iZD, ↓iE, ↓wComp_eq, ↓ttY, ↓wSl, ↓wPart, ↓plN, ↓wRev, ↓wListO, ↓wRep, ↓wLenSet, ↓wLenScr, ↓wWelI, ↓wWelPop, ↓wWelApp, ↓tWelNE, ↓wDisp, ↓psC, ↓psN, ↓wDIn, ↓wDNotIn, ↓askD, ↓fAdd, ↓fSub, ↓fII, ↓fII0, ↓fDiv, ↓fMod, ↓fPow, ↓fLt, ↓fGt, ↓fLe, ↓fGe, ↓fGtD, ↓fLtD, ↓fLeD, ↓fGeD, ↓fNeg, ↓fMul, ↓fEq, ↓fNe, ↓eqQ, ↓fIsN, ↓fNotN, isNone_1, isNone_2, isNone_3, isNone_4, isNone_5, isNone_6, isNone_7, ↓fInC, ↓fNotInC, ↓fSub_, ↓fIx, ↓fSl, ↓fLen, ↓fTuple, ↓fMin1, ↓fMax1, ↓fSum, ↓fAll, ↓fAny, ↓fSorted, ↓fSortS, ↓fAbs, ↓fInt, ↓fRepr, ↓fCnt, ↓fIdx, ↓fJoin, isStr,
 endsG, mem0, toEnt, Mem.set, Mem.view, Mem.kill, Mem.frz, Mem.ro, Ent.ro', Opd.get,
 List.set_cons_zero, List.set_cons_succ, List.getElem?_cons_zero, List.getElem?_cons_succ, List.map_cons, List.map_nil, List.length_cons, List.length_nil, List.cons_append, List.nil_append, List.replicate_succ, List.replicate_zero, Option.map_some, Option.map_none, List.cons.injEq, and_true, true_and, Arg.x.injEq, exists_eq_left, exists_eq_right, Option.some.injEq, Ent.ow.injEq, Ent.im.injEq, PyData.int.injEq, PyData.list.injEq, PyData.dict.injEq, PyData.tuple.injEq, PyData.str.injEq, exists_eq', exists_eq, decide_eq_true_eq, Bool.not_eq_true', ite_true, ite_false, decide_true, decide_false, decide_eq_false_iff_not, not_true_eq_false, not_false_eq_true, reduceCtorEq, eq_self]
      refine ⟨⟨_, _, _, rfl⟩, fun p' s a vs => ?_⟩
      by_cases e : p' = p
      · subst e
        exact h3 s (size_all h1 vs) vs
      · exact h0 p' s (by omega) vs
  · rintro M' ⟨⟨e3, e4, e5, rfl⟩, h0⟩
    rw [rng_len] at h0
    simp -dsimp only [↓uSeq, ↓uNext, ↓uKill, ↓uFrz, ↓uDrop, ↓uRet, ↓uIf, ↓uAsg, ↓uAsgO, ↓uPar2, ↓uPut, ↓uDPut, ↓uFor_eq, ↓uWhile_eq, ↓uSeqM_eq, ↓uBrk, ↓uCnt, ↓uWelD, ↓gSet, ↓gN, ↓gC, ↓gT, ↓zE, ↓zF, ↓oE, ↓oV, ↓wV, ↓wC, ↓wOp, ↓wUn, ↓app2, ↓app1, ↓wTst, ↓tAndD, ↓tOrD, ↓tNotD, ↓wAndV, ↓wOrV, ↓wNotV, ↓wIf, ↓wChain, ↓osN, ↓osC, getAll, ↓appN, ↓wCB, ↓appM, ↓wBM, ↓wBM0, ↓wN, ↓wCs, ↓wTup, ↓wLst, ↓wDic0, ↓wDicT, ↓aN, ↓aC, ↓aW, ↓wCall_eq, ↓wCallK_eq, perm, List.filterMap_cons, List.filterMap_nil, ↓wApp, ↓wExt, ↓wPop, ↓wPopAt, ↓wListA, ↓wRpl, ↓iX, ↓iL, ↓iT, ↓iS, ↓iR1, ↓iR2, ↓iScr, ↓iZD, ↓iE, ↓wComp_eq, ↓ttY, ↓wSl, ↓wPart, ↓plN, ↓wRev, ↓wListO, ↓wRep, ↓wLenSet, ↓wLenScr, ↓wWelI, ↓wWelPop, ↓wWelApp, ↓tWelNE, ↓wDisp, ↓psC, ↓psN, ↓wDIn, ↓wDNotIn, ↓askD, ↓fAdd, ↓fSub, ↓fII, ↓fII0, ↓fDiv, ↓fMod, ↓fPow, ↓fLt, ↓fGt, ↓fLe, ↓fGe, ↓fGtD, ↓fLtD, ↓fLeD, ↓fGeD, ↓fNeg, ↓fMul, ↓fEq, ↓fNe, ↓eqQ, ↓fIsN, ↓fNotN, isNone_1, isNone_2, isNone_3, isNone_4, isNone_5, isNone_6, isNone_7, ↓fInC, ↓fNotInC, ↓fSub_, ↓fIx, ↓fSl, ↓fLen, ↓fTuple, ↓fMin1, ↓fMax1, ↓fSum, ↓fAll, ↓fAny, ↓fSorted, ↓fSortS, ↓fAbs, ↓fInt, ↓fRepr, ↓fCnt, ↓fIdx, ↓fJoin, isStr,
 endsG, mem0, toEnt, Mem.set, Mem.view, Mem.kill, Mem.frz, Mem.ro, Ent.ro', Opd.get,
 List.set_cons_zero, List.set_cons_succ, List.getElem?_cons_zero, List.getElem?_cons_succ, List.map_cons, List.map_nil, List.length_cons, List.length_nil, List.cons_append, List.nil_append, List.replicate_succ, List.replicate_zero, Option.map_some, Option.map_none, List.cons.injEq, and_true, true_and, Arg.x.injEq, exists_eq_left, exists_eq_right, Option.some.injEq, Ent.ow.injEq, Ent.im.injEq, PyData.int.injEq, PyData.list.injEq, PyData.dict.injEq, PyData.tuple.injEq, PyData.str.injEq, exists_eq', exists_eq, decide_eq_true_eq, Bool.not_eq_true', ite_true, ite_false, decide_true, decide_false, decide_eq_false_iff_not, not_true_eq_false, not_false_eq_true, reduceCtorEq, eq_self]
    exact q _ (.inl ⟨rfl, fun p s v => h0 p s v.1 v⟩)
/-! _law_mixed_word -/
def g__law_mixed_word : GSpec := fun args wl Q => ∃ w : Wel, args = [.wel] ∧ wl = some w ∧ WelOk w ∧ ∀ (l : List Nat) w', LetK 4 l → l.length ≤ 40 → WelOk w' → Q (sD l) (some w')
theorem mixed_i {w : Wel} {Q : PyData → Option Wel → Prop} {lk : Lock Q} (ok : WelOk w) (q : ∀ (l : List Nat) w', LetK 4 l → l.length ≤ 40 → WelOk w' → Q (sD l) (some w')) : callG g__law_mixed_word [.wel] (some w) Q lk := ⟨w, rfl, rfl, ok, q⟩
theorem word_j {w : Wel} {most kinds : Int} {Q : PyData → Option Wel → Prop} {lk : Lock Q} (ok : WelOk w) (m0 : 0 ≤ most) (m1 : most ≤ 64) (k0 : 1 ≤ kinds) (k1 : kinds ≤ 4)
    (q : ∀ (l : List Nat) w', LetK kinds l → l.length ≤ most.toNat → WelOk w' → Q (sD l) (some w')) : callG g__law_word [.wel, .x (.int most), .x (.int kinds)] (some w) Q lk := ⟨w, most, kinds, rfl, rfl, ok, m0, m1, k0, k1, q⟩
theorem take_j {w : Wel} {l : List PyData} {Q : PyData → Option Wel → Prop} {lk : Lock Q} (ok : WelOk w) (h0 : 0 < l.length) (h1 : l.length ≤ 1000) (q : ∀ x w', x ∈ l → WelOk w' → Q x (some w')) : callG g__law_take [.wel, .x (.list l)] (some w) Q lk := ⟨w, _, l, rfl, rfl, ok, rfl, h0, h1, q⟩
theorem map_erase {α β : Type} (f : α → β) : ∀ (l : List α) (n : Nat), (l.map f).eraseIdx n = (l.eraseIdx n).map f
  | [], n => by simp
  | a :: l, 0 => by simp
  | a :: l, n + 1 => by simp [map_erase f l n]
theorem LetK.mono' {a b : Int} {l : List Nat} (h : LetK a l) (h2 : a ≤ b) : LetK b l := fun c hc => by have := h c hc; omega
def u__law_mixed_word : WS :=
  (uSeqM (uAsg (wIf (wTst (wOp fGt (oE (wCall g__law_dip (aW 0 (aC (wC (.int 9)) aN)))) (oE (wC (.int 0))))) (wCall g__law_take (aW 0 (aC (wLst (wCs (wC (.int 8)) (wCs (wC (.int 14)) (wCs (wC (.int 20)) wN)))) aN))) (wC (.int 40))) (gSet 1))
  (uSeq (uAsg (wCall g__law_word (aW 0 (aC (wV 1) (aC (wCall g__law_take (aW 0 (aC (wLst (wCs (wC (.int 1)) (wCs (wC (.int 2)) (wCs (wC (.int 3)) (wCs (wC (.int 4)) wN))))) aN))) aN)))) (gSet 2))
  (uSeqM (uIf (tAndD (wTst (wOp fEq (oE (wCall g__law_dip (aW 0 (aC (wC (.int 2)) aN)))) (oE (wC (.int 0))))) (wTst (wOp fNe (oV 2) (oE (wC (.str ""))))))
  (uSeq (uAsg (wCall g__law_dip (aW 0 (aC (wCB fLen (osC (oV 2) osN)) aN))) (gSet 3))
  (uSeq (uPar2 4 5 (zF (wListA (osC (oE (wSl (oV 2) (wPart (oV 3)) (wPart (oE (wOp fAdd (oE (wOp fAdd (oV 3) (oE (wC (.int 1))))) (oE (wCall g__law_dip (aW 0 (aC (wC (.int 6)) aN))))))))) osN))) (zE (wC (.str ""))))
  (uSeq (uWhile [] (wTst (wOp fNe (oV 4) (oE (wLst wN))))
  (uAsg (wOp fAdd (oV 5) (oE (wPopAt 4 (oE (wCall g__law_dip (aW 0 (aC (wCB fLen (osC (oV 4) osN)) aN))))))) (gSet 5)))
  (uAsg (wSl (oE (wOp fAdd (oE (wOp fAdd (oE (wSl (oV 2) plN (wPart (oE (wOp fAdd (oV 3) (oE (wCB fLen (osC (oV 5) osN)))))))) (oV 5))) (oE (wSl (oV 2) (wPart (oE (wOp fAdd (oV 3) (oE (wCB fLen (osC (oV 5) osN)))))) plN)))) plN (wPart (oE (wC (.int 40))))) (gSet 2)))))
  uNext)
  (uRet (wV 2)))))
theorem pf__law_mixed_word (args : List Arg) (wl : Option Wel) (Q : PyData → Option Wel → Prop) (h : g__law_mixed_word args wl Q) : u__law_mixed_word noX (endsG Q) (mem0 6 args wl) := by
  obtain ⟨w, rfl, rfl, ok, q⟩ := h
  simp -dsimp only [u__law_mixed_word, ↓uSeq, ↓uNext, ↓uKill, ↓uFrz, ↓uDrop, ↓uRet, ↓uIf, ↓uAsg, ↓uAsgO, ↓uPar2, ↓uPut, ↓uDPut, ↓uFor_eq, ↓uWhile_eq, ↓uSeqM_eq, ↓uBrk, ↓uCnt, ↓uWelD, ↓gSet, ↓gN, ↓gC, ↓gT, ↓zE, ↓zF, ↓oE, ↓oV, ↓wV, ↓wC, ↓wOp, ↓wUn, ↓app2, ↓app1, ↓wTst, ↓tAndD, ↓tOrD, ↓tNotD, ↓wAndV, ↓wOrV, ↓wNotV, ↓wIf, ↓wChain, ↓osN, ↓osC, getAll, ↓appN, ↓wCB, ↓appM, ↓wBM, ↓wBM0, ↓wN, ↓wCs, ↓wTup, ↓wLst, ↓wDic0, ↓wDicT, ↓aN, ↓aC, ↓aW, ↓wCall_eq, ↓wCallK_eq, perm, List.filterMap_cons, List.filterMap_nil, ↓wApp, ↓wExt, ↓wPop, ↓wPopAt, ↓wListA, ↓wRpl, ↓iX, ↓iL, ↓iT, ↓iS, ↓iR1, ↓iR2, ↓iScr, ↓iZD, ↓iE, ↓wComp_eq, ↓ttY, ↓wSl, ↓wPart, ↓plN, ↓wRev, ↓wListO, ↓wRep, ↓wLenSet, ↓wLenScr, ↓wWelI, ↓wWelPop, ↓wWelApp, ↓tWelNE, ↓wDisp, ↓psC, ↓psN, ↓wDIn, ↓wDNotIn, ↓askD, ↓fAdd, ↓fSub, ↓fII, ↓fII0, ↓fDiv, ↓fMod, ↓fPow, ↓fLt, ↓fGt, ↓fLe, ↓fGe, ↓fGtD, ↓fLtD, ↓fLeD, ↓fGeD, ↓fNeg, ↓fMul, ↓fEq, ↓fNe, ↓eqQ, ↓fIsN, ↓fNotN, isNone_1, isNone_2, isNone_3, isNone_4, isNone_5, isNone_6, isNone_7, ↓fInC, ↓fNotInC, ↓fSub_, ↓fIx, ↓fSl, ↓fLen, ↓fTuple, ↓fMin1, ↓fMax1, ↓fSum, ↓fAll, ↓fAny, ↓fSorted, ↓fSortS, ↓fAbs, ↓fInt, ↓fRepr, ↓fCnt, ↓fIdx, ↓fJoin, isStr,
 endsG, mem0, toEnt, Mem.set, Mem.view, Mem.kill, Mem.frz, Mem.ro, Ent.ro', Opd.get,
 List.set_cons_zero, List.set_cons_succ, List.getElem?_cons_zero, List.getElem?_cons_succ, List.map_cons, List.map_nil, List.length_cons, List.length_nil, List.cons_append, List.nil_append, List.replicate_succ, List.replicate_zero, Option.map_some, Option.map_none, List.cons.injEq, and_true, true_and, Arg.x.injEq, exists_eq_left, exists_eq_right, Option.some.injEq, Ent.ow.injEq, Ent.im.injEq, PyData.int.injEq, PyData.list.injEq, PyData.dict.injEq, PyData.tuple.injEq, PyData.str.injEq, exists_eq', exists_eq, decide_eq_true_eq, Bool.not_eq_true', ite_true, ite_false, decide_true, decide_false, decide_eq_false_iff_not, not_true_eq_false, not_false_eq_true, reduceCtorEq, eq_self]
  refine seq_i (fun M => ∃ (most : Int) (w : Wel), 0 ≤ most ∧ most ≤ 40 ∧ WelOk w ∧ M = ⟨[some .wel, some (.im (.int most)), none, none, none, none], some w⟩) ?_ ?_
  · simp -dsimp only [↓uSeq, ↓uNext, ↓uKill, ↓uFrz, ↓uDrop, ↓uRet, ↓uIf, ↓uAsg, ↓uAsgO, ↓uPar2, ↓uPut, ↓uDPut, ↓uFor_eq, ↓uWhile_eq, ↓uSeqM_eq, ↓uBrk, ↓uCnt, ↓uWelD, ↓gSet, ↓gN, ↓gC, ↓gT, ↓zE, ↓zF, ↓oE, ↓oV, ↓wV, ↓wC, ↓wOp, ↓wUn, ↓app2, ↓app1, ↓wTst, ↓tAndD, ↓tOrD, ↓tNotD, ↓wAndV, ↓wOrV, ↓wNotV, ↓wIf, ↓wChain, ↓osN, ↓osC, getAll, ↓appN, ↓wCB, ↓appM, ↓wBM, ↓wBM0, ↓wN, ↓wCs, ↓wTup, ↓wLst, ↓wDic0, ↓wDicT, ↓aN, ↓aC, ↓aW, ↓wCall_eq, ↓wCallK_eq, perm, List.filterMap_cons, List.filterMap_nil, ↓wApp, ↓wExt, ↓wPop, ↓wPopAt, ↓wListA, ↓wRpl, ↓iX, ↓iL, ↓iT, ↓iS, ↓iR1, ↓iR2, ↓iScr, ↓iZD, ↓iE, ↓wComp_eq, ↓ttY, ↓wSl, ↓wPart, ↓plN, ↓wRev, ↓wListO, ↓wRep, ↓wLenSet, ↓wLenScr, ↓wWelI, ↓wWelPop, ↓wWelApp, ↓tWelNE, ↓wDisp, ↓psC, ↓psN, ↓wDIn, ↓wDNotIn, ↓askD, ↓fAdd, ↓fSub, ↓fII, ↓fII0, ↓fDiv, ↓fMod, ↓fPow, ↓fLt, ↓fGt, ↓fLe, ↓fGe, ↓fGtD, ↓fLtD, ↓fLeD, ↓fGeD, ↓fNeg, ↓fMul, ↓fEq, ↓fNe, ↓eqQ, ↓fIsN, ↓fNotN, isNone_1, isNone_2, isNone_3, isNone_4, isNone_5, isNone_6, isNone_7, ↓fInC, ↓fNotInC, ↓fSub_, ↓fIx, ↓fSl, ↓fLen, ↓fTuple, ↓fMin1, ↓fMax1, ↓fSum, ↓fAll, ↓fAny, ↓fSorted, ↓fSortS, ↓fAbs, ↓fInt, ↓fRepr, ↓fCnt, ↓fIdx, ↓fJoin, isStr,
 endsG, mem0, toEnt, Mem.set, Mem.view, Mem.kill, Mem.frz, Mem.ro, Ent.ro', Opd.get,
 List.set_cons_zero, List.set_cons_succ, List.getElem?_cons_zero, List.getElem?_cons_succ, List.map_cons, List.map_nil, List.length_cons, List.length_nil, List.cons_append, List.nil_append, List.replicate_succ, List.replicate_zero, Option.map_some, Option.map_none, List.cons.injEq, and_true, true_and, Arg.x.injEq, exists_eq_left, exists_eq_right, Option.some.injEq, Ent.ow.injEq, Ent.im.injEq, PyData.int.injEq, PyData.list.injEq, PyData.dict.injEq, PyData.tuple.injEq, PyData.str.injEq, exists_eq', exists_eq, decide_eq_true_eq, Bool.not_eq_true', ite_true, ite_false, decide_true, decide_false, decide_eq_false_iff_not, not_true_eq_false, not_false_eq_true, reduceCtorEq, eq_self]
    refine dip_i ok (by decide) fun r w1 _ _ ok1 => ?_
    simp -dsimp only [↓uSeq, ↓uNext, ↓uKill, ↓uFrz, ↓uDrop, ↓uRet, ↓uIf, ↓uAsg, ↓uAsgO, ↓uPar2, ↓uPut, ↓uDPut, ↓uFor_eq, ↓uWhile_eq, ↓uSeqM_eq, ↓uBrk, ↓uCnt, ↓uWelD, ↓gSet, ↓gN, ↓gC, ↓gT, ↓zE, ↓zF, ↓oE, ↓oV, ↓wV, ↓wC, ↓wOp, ↓wUn, ↓app2, ↓app1, ↓wTst, ↓tAndD, ↓tOrD, ↓tNotD, ↓wAndV, ↓wOrV, ↓wNotV, ↓wIf, ↓wChain, ↓osN, ↓osC, getAll, ↓appN, ↓wCB, ↓appM, ↓wBM, ↓wBM0, ↓wN, ↓wCs, ↓wTup, ↓wLst, ↓wDic0, ↓wDicT, ↓aN, ↓aC, ↓aW, ↓wCall_eq, ↓wCallK_eq, perm, List.filterMap_cons, List.filterMap_nil, ↓wApp, ↓wExt, ↓wPop, ↓wPopAt, ↓wListA, ↓wRpl, ↓iX, ↓iL, ↓iT, ↓iS, ↓iR1, ↓iR2, ↓iScr, ↓iZD, ↓iE, ↓wComp_eq, ↓ttY, ↓wSl, ↓wPart, ↓plN, ↓wRev, ↓wListO, ↓wRep, ↓wLenSet, ↓wLenScr, ↓wWelI, ↓wWelPop, ↓wWelApp, ↓tWelNE, ↓wDisp, ↓psC, ↓psN, ↓wDIn, ↓wDNotIn, ↓askD, ↓fAdd, ↓fSub, ↓fII, ↓fII0, ↓fDiv, ↓fMod, ↓fPow, ↓fLt, ↓fGt, ↓fLe, ↓fGe, ↓fGtD, ↓fLtD, ↓fLeD, ↓fGeD, ↓fNeg, ↓fMul, ↓fEq, ↓fNe, ↓eqQ, ↓fIsN, ↓fNotN, isNone_1, isNone_2, isNone_3, isNone_4, isNone_5, isNone_6, isNone_7, ↓fInC, ↓fNotInC, ↓fSub_, ↓fIx, ↓fSl, ↓fLen, ↓fTuple, ↓fMin1, ↓fMax1, ↓fSum, ↓fAll, ↓fAny, ↓fSorted, ↓fSortS, ↓fAbs, ↓fInt, ↓fRepr, ↓fCnt, ↓fIdx, ↓fJoin, isStr,
 endsG, mem0, toEnt, Mem.set, Mem.view, Mem.kill, Mem.frz, Mem.ro, Ent.ro', Opd.get,
 List.set_cons_zero, List.set_cons_succ, List.getElem?_cons_zero, List.getElem?_cons_succ, List.map_cons, List.map_nil, List.length_cons, List.length_nil, List.cons_append, List.nil_append, List.replicate_succ, List.replicate_zero, Option.map_some, Option.map_none, List.cons.injEq, and_true, true_and, Arg.x.injEq, exists_eq_left, exists_eq_right, Option.some.injEq, Ent.ow.injEq, Ent.im.injEq, PyData.int.injEq, PyData.list.injEq, PyData.dict.injEq, PyData.tuple.injEq, PyData.str.injEq, exists_eq', exists_eq, decide_eq_true_eq, Bool.not_eq_true', ite_true, ite_false, decide_true, decide_false, decide_eq_false_iff_not, not_true_eq_false, not_false_eq_true, reduceCtorEq, eq_self]
    refine ite_i (fun _ => ⟨by decide, take_j ok1 (by decide) (by decide) fun x w2 hx ok2 => ?_⟩) (fun _ => ⟨40, w1, by decide, by decide, ok1, rfl⟩)
    simp only [List.mem_cons, List.not_mem_nil, or_false] at hx
    rcases hx with rfl | rfl | rfl
    · exact ⟨8, w2, by decide, by decide, ok2, rfl⟩
    · exact ⟨14, w2, by decide, by decide, ok2, rfl⟩
    · exact ⟨20, w2, by decide, by decide, ok2, rfl⟩
  · rintro M' ⟨most, w, m0, m1, ok, rfl⟩
    simp -dsimp only [↓uSeq, ↓uNext, ↓uKill, ↓uFrz, ↓uDrop, ↓uRet, ↓uIf, ↓uAsg, ↓uAsgO, ↓uPar2, ↓uPut, ↓uDPut, ↓uFor_eq, ↓uWhile_eq, ↓uSeqM_eq, ↓uBrk, ↓uCnt, ↓uWelD, ↓gSet, ↓gN, ↓gC, ↓gT, ↓zE, ↓zF, ↓oE, ↓oV, ↓wV, ↓wC, ↓wOp, ↓wUn, ↓app2, ↓app1, ↓wTst, ↓tAndD, ↓tOrD, ↓tNotD, ↓wAndV, ↓wOrV, ↓wNotV, ↓wIf, ↓wChain, ↓osN, ↓osC, getAll, ↓appN, ↓wCB, ↓appM, ↓wBM, ↓wBM0, ↓wN, ↓wCs, ↓wTup, ↓wLst, ↓wDic0, ↓wDicT, ↓aN, ↓aC, ↓aW, ↓wCall_eq, ↓wCallK_eq, perm, List.filterMap_cons, List.filterMap_nil, ↓wApp, ↓wExt, ↓wPop, ↓wPopAt, ↓wListA, ↓wRpl, ↓iX, ↓iL, ↓iT, ↓iS, ↓iR1, ↓iR2, ↓iScr, ↓iZD, ↓iE, ↓wComp_eq, ↓ttY, ↓wSl, ↓wPart, ↓plN, ↓wRev, ↓wListO, ↓wRep, ↓wLenSet, ↓wLenScr, ↓wWelI, ↓wWelPop, ↓wWelApp, ↓tWelNE, ↓wDisp, ↓psC, ↓psN, ↓wDIn, ↓wDNotIn, ↓askD, ↓fAdd, ↓fSub, ↓fII, ↓fII0, ↓fDiv, ↓fMod, ↓fPow, ↓fLt, ↓fGt, ↓fLe, ↓fGe, ↓fGtD, ↓fLtD, ↓fLeD, ↓fGeD, ↓fNeg, ↓fMul, ↓fEq, ↓fNe, ↓eqQ, ↓fIsN, ↓fNotN, isNone_1, isNone_2, isNone_3, isNone_4, isNone_5, isNone_6, isNone_7, ↓fInC, ↓fNotInC, ↓fSub_, ↓fIx, ↓fSl, ↓fLen, ↓fTuple, ↓fMin1, ↓fMax1, ↓fSum, ↓fAll, ↓fAny, ↓fSorted, ↓fSortS, ↓fAbs, ↓fInt, ↓fRepr, ↓fCnt, ↓fIdx, ↓fJoin, isStr,
 endsG, mem0, toEnt, Mem.set, Mem.view, Mem.kill, Mem.frz, Mem.ro, Ent.ro', Opd.get,
 List.set_cons_zero, List.set_cons_succ, List.getElem?_cons_zero, List.getElem?_cons_succ, List.map_cons, List.map_nil, List.length_cons, List.length_nil, List.cons_append, List.nil_append, List.replicate_succ, List.replicate_zero, Option.map_some, Option.map_none, List.cons.injEq, and_true, true_and, Arg.x.injEq, exists_eq_left, exists_eq_right, Option.some.injEq, Ent.ow.injEq, Ent.im.injEq, PyData.int.injEq, PyData.list.injEq, PyData.dict.injEq, PyData.tuple.injEq, PyData.str.injEq, exists_eq', exists_eq, decide_eq_true_eq, Bool.not_eq_true', ite_true, ite_false, decide_true, decide_false, decide_eq_false_iff_not, not_true_eq_false, not_false_eq_true, reduceCtorEq, eq_self]
    refine ⟨by decide, take_j ok (by decide) (by decide) fun x w2 hx ok2 => ?_⟩
    obtain ⟨kd, rfl, kd1, kd2⟩ : ∃ kd : Int, x = .int kd ∧ 1 ≤ kd ∧ kd ≤ 4 := by
      simp only [List.mem_cons, List.not_mem_nil, or_false] at hx
      rcases hx with rfl | rfl | rfl | rfl
      · exact ⟨1, rfl, by decide, by decide⟩
      · exact ⟨2, rfl, by decide, by decide⟩
      · exact ⟨3, rfl, by decide, by decide⟩
      · exact ⟨4, rfl, by decide, by decide⟩
    simp -dsimp only [↓uSeq, ↓uNext, ↓uKill, ↓uFrz, ↓uDrop, ↓uRet, ↓uIf, ↓uAsg, ↓uAsgO, ↓uPar2, ↓uPut, ↓uDPut, ↓uFor_eq, ↓uWhile_eq, ↓uSeqM_eq, ↓uBrk, ↓uCnt, ↓uWelD, ↓gSet, ↓gN, ↓gC, ↓gT, ↓zE, ↓zF, ↓oE, ↓oV, ↓wV, ↓wC, ↓wOp, ↓wUn, ↓app2, ↓app1, ↓wTst, ↓tAndD, ↓tOrD, ↓tNotD, ↓wAndV, ↓wOrV, ↓wNotV, ↓wIf, ↓wChain, ↓osN, ↓osC, getAll, ↓appN, ↓wCB, ↓appM, ↓wBM, ↓wBM0, ↓wN, ↓wCs, ↓wTup, ↓wLst, ↓wDic0, ↓wDicT, ↓aN, ↓aC, ↓aW, ↓wCall_eq, ↓wCallK_eq, perm, List.filterMap_cons, List.filterMap_nil, ↓wApp, ↓wExt, ↓wPop, ↓wPopAt, ↓wListA, ↓wRpl, ↓iX, ↓iL, ↓iT, ↓iS, ↓iR1, ↓iR2, ↓iScr, ↓iZD, ↓iE, ↓wComp_eq, ↓ttY, ↓wSl, ↓wPart, ↓plN, ↓wRev, ↓wListO, ↓wRep, ↓wLenSet, ↓wLenScr, ↓wWelI, ↓wWelPop, ↓wWelApp, ↓tWelNE, ↓wDisp, ↓psC, ↓psN, ↓wDIn, ↓wDNotIn, ↓askD, ↓fAdd, ↓fSub, ↓fII, ↓fII0, ↓fDiv, ↓fMod, ↓fPow, ↓fLt, ↓fGt, ↓fLe, ↓fGe, ↓fGtD, ↓fLtD, ↓fLeD, ↓fGeD, ↓fNeg, ↓fMul, ↓fEq, ↓fNe, ↓eqQ, ↓fIsN, ↓fNotN, isNone_1, isNone_2, isNone_3, isNone_4, isNone_5, isNone_6, isNone_7, ↓fInC, ↓fNotInC, ↓fSub_, ↓fIx, ↓fSl, ↓fLen, ↓fTuple, ↓fMin1, ↓fMax1, ↓fSum, ↓fAll, ↓fAny, ↓fSorted, ↓fSortS, ↓fAbs, ↓fInt, ↓fRepr, ↓fCnt, ↓fIdx, ↓fJoin, isStr,
 endsG, mem0, toEnt, Mem.set, Mem.view, Mem.kill, Mem.frz, Mem.ro, Ent.ro', Opd.get,
 List.set_cons_zero, List.set_cons_succ, List.getElem?_cons_zero, List.getElem?_cons_succ, List.map_cons, List.map_nil, List.length_cons, List.length_nil, List.cons_append, List.nil_append, List.replicate_succ, List.replicate_zero, Option.map_some, Option.map_none, List.cons.injEq, and_true, true_and, Arg.x.injEq, exists_eq_left, exists_eq_right, Option.some.injEq, Ent.ow.injEq, Ent.im.injEq, PyData.int.injEq, PyData.list.injEq, PyData.dict.injEq, PyData.tuple.injEq, PyData.str.injEq, exists_eq', exists_eq, decide_eq_true_eq, Bool.not_eq_true', ite_true, ite_false, decide_true, decide_false, decide_eq_false_iff_not, not_true_eq_false, not_false_eq_true, reduceCtorEq, eq_self]
    refine word_j ok2 m0 (by omega) kd1 kd2 fun l w3 hlet hl ok3 => ?_
    have hlet := hlet.mono' kd2
    have hl : l.length ≤ 40 := by omega
    simp -dsimp only [↓uSeq, ↓uNext, ↓uKill, ↓uFrz, ↓uDrop, ↓uRet, ↓uIf, ↓uAsg, ↓uAsgO, ↓uPar2, ↓uPut, ↓uDPut, ↓uFor_eq, ↓uWhile_eq, ↓uSeqM_eq, ↓uBrk, ↓uCnt, ↓uWelD, ↓gSet, ↓gN, ↓gC, ↓gT, ↓zE, ↓zF, ↓oE, ↓oV, ↓wV, ↓wC, ↓wOp, ↓wUn, ↓app2, ↓app1, ↓wTst, ↓tAndD, ↓tOrD, ↓tNotD, ↓wAndV, ↓wOrV, ↓wNotV, ↓wIf, ↓wChain, ↓osN, ↓osC, getAll, ↓appN, ↓wCB, ↓appM, ↓wBM, ↓wBM0, ↓wN, ↓wCs, ↓wTup, ↓wLst, ↓wDic0, ↓wDicT, ↓aN, ↓aC, ↓aW, ↓wCall_eq, ↓wCallK_eq, perm, List.filterMap_cons, List.filterMap_nil, ↓wApp, ↓wExt, ↓wPop, ↓wPopAt, ↓wListA, ↓wRpl, ↓iX, ↓iL, ↓iT, ↓iS, ↓iR1, ↓iR2, ↓iScr, ↓iZD, ↓iE, ↓wComp_eq, ↓ttY, ↓wSl, ↓wPart, ↓plN, ↓wRev, ↓wListO, ↓wRep, ↓wLenSet, ↓wLenScr, ↓wWelI, ↓wWelPop, ↓wWelApp, ↓tWelNE, ↓wDisp, ↓psC, ↓psN, ↓wDIn, ↓wDNotIn, ↓askD, ↓fAdd, ↓fSub, ↓fII, ↓fII0, ↓fDiv, ↓fMod, ↓fPow, ↓fLt, ↓fGt, ↓fLe, ↓fGe, ↓fGtD, ↓fLtD, ↓fLeD, ↓fGeD, ↓fNeg, ↓fMul, ↓fEq, ↓fNe, ↓eqQ, ↓fIsN, ↓fNotN, isNone_1, isNone_2, isNone_3, isNone_4, isNone_5, isNone_6, isNone_7, ↓fInC, ↓fNotInC, ↓fSub_, ↓fIx, ↓fSl, ↓fLen, ↓fTuple, ↓fMin1, ↓fMax1, ↓fSum, ↓fAll, ↓fAny, ↓fSorted, ↓fSortS, ↓fAbs, ↓fInt, ↓fRepr, ↓fCnt, ↓fIdx, ↓fJoin, isStr,
 endsG, mem0, toEnt, Mem.set, Mem.view, Mem.kill, Mem.frz, Mem.ro, Ent.ro', Opd.get,
 List.set_cons_zero, List.set_cons_succ, List.getElem?_cons_zero, List.getElem?_cons_succ, List.map_cons, List.map_nil, List.length_cons, List.length_nil, List.cons_append, List.nil_append, List.replicate_succ, List.replicate_zero, Option.map_some, Option.map_none, List.cons.injEq, and_true, true_and, Arg.x.injEq, exists_eq_left, exists_eq_right, Option.some.injEq, Ent.ow.injEq, Ent.im.injEq, PyData.int.injEq, PyData.list.injEq, PyData.dict.injEq, PyData.tuple.injEq, PyData.str.injEq, exists_eq', exists_eq, decide_eq_true_eq, Bool.not_eq_true', ite_true, ite_false, decide_true, decide_false, decide_eq_false_iff_not, not_true_eq_false, not_false_eq_true, reduceCtorEq, eq_self]
    refine seq_i (fun M => ∃ (l : List Nat) (w : Wel) (e3 e4 e5 : Option Ent), LetK 4 l ∧ l.length ≤ 40 ∧ WelOk w ∧ M = ⟨[some .wel, some (.im (.int most)), some (.im (sD l)), e3, e4, e5], some w⟩) ?_ ?_
    · simp -dsimp only [↓uSeq, ↓uNext, ↓uKill, ↓uFrz, ↓uDrop, ↓uRet, ↓uIf, ↓uAsg, ↓uAsgO, ↓uPar2, ↓uPut, ↓uDPut, ↓uFor_eq, ↓uWhile_eq, ↓uSeqM_eq, ↓uBrk, ↓uCnt, ↓uWelD, ↓gSet, ↓gN, ↓gC, ↓gT, ↓zE, ↓zF, ↓oE, ↓oV, ↓wV, ↓wC, ↓wOp, ↓wUn, ↓app2, ↓app1, ↓wTst, ↓tAndD, ↓tOrD, ↓tNotD, ↓wAndV, ↓wOrV, ↓wNotV, ↓wIf, ↓wChain, ↓osN, ↓osC, getAll, ↓appN, ↓wCB, ↓appM, ↓wBM, ↓wBM0, ↓wN, ↓wCs, ↓wTup, ↓wLst, ↓wDic0, ↓wDicT, ↓aN, ↓aC, ↓aW, ↓wCall_eq, ↓wCallK_eq, perm, List.filterMap_cons, List.filterMap_nil, ↓wApp, ↓wExt, ↓wPop, ↓wPopAt, ↓wListA, ↓wRpl, ↓iX, ↓iL, ↓iT, ↓iS, ↓iR1, ↓iR2, ↓iScr, ↓iZD, ↓iE, ↓wComp_eq, ↓ttY, ↓wSl, ↓wPart, ↓plN, ↓wRev, ↓wListO, ↓wRep, ↓wLenSet, ↓wLenScr, ↓wWelI, ↓wWelPop, ↓wWelApp, ↓tWelNE, ↓wDisp, ↓psC, ↓psN, ↓wDIn, ↓wDNotIn, ↓askD, ↓fAdd, ↓fSub, ↓fII, ↓fII0, ↓fDiv, ↓fMod, ↓fPow, ↓fLt, ↓fGt, ↓fLe, ↓fGe, ↓fGtD, ↓fLtD, ↓fLeD, ↓fGeD, ↓fNeg, ↓fMul, ↓fEq, ↓fNe, ↓eqQ, ↓fIsN, ↓fNotN, isNone_1, isNone_2, isNone_3, isNone_4, isNone_5, isNone_6, isNone_7, ↓fInC, ↓fNotInC, ↓fSub_, ↓fIx, ↓fSl, ↓fLen, ↓fTuple, ↓fMin1, ↓fMax1, ↓fSum, ↓fAll, ↓fAny, ↓fSorted, ↓fSortS, ↓fAbs, ↓fInt, ↓fRepr, ↓fCnt, ↓fIdx, ↓fJoin, isStr,
 endsG, mem0, toEnt, Mem.set, Mem.view, Mem.kill, Mem.frz, Mem.ro, Ent.ro', Opd.get,
 List.set_cons_zero, List.set_cons_succ, List.getElem?_cons_zero, List.getElem?_cons_succ, List.map_cons, List.map_nil, List.length_cons, List.length_nil, List.cons_append, List.nil_append, List.replicate_succ, List.replicate_zero, Option.map_some, Option.map_none, List.cons.injEq, and_true, true_and, Arg.x.injEq, exists_eq_left, exists_eq_right, Option.some.injEq, Ent.ow.injEq, Ent.im.injEq, PyData.int.injEq, PyData.list.injEq, PyData.dict.injEq, PyData.tuple.injEq, PyData.str.injEq, exists_eq', exists_eq, decide_eq_true_eq, Bool.not_eq_true', ite_true, ite_false, decide_true, decide_false, decide_eq_false_iff_not, not_true_eq_false, not_false_eq_true, reduceCtorEq, eq_self]
      refine dip_i ok3 (by decide) fun r w4 _ _ ok4 => ?_
      simp -dsimp only [↓uSeq, ↓uNext, ↓uKill, ↓uFrz, ↓uDrop, ↓uRet, ↓uIf, ↓uAsg, ↓uAsgO, ↓uPar2, ↓uPut, ↓uDPut, ↓uFor_eq, ↓uWhile_eq, ↓uSeqM_eq, ↓uBrk, ↓uCnt, ↓uWelD, ↓gSet, ↓gN, ↓gC, ↓gT, ↓zE, ↓zF, ↓oE, ↓oV, ↓wV, ↓wC, ↓wOp, ↓wUn, ↓app2, ↓app1, ↓wTst, ↓tAndD, ↓tOrD, ↓tNotD, ↓wAndV, ↓wOrV, ↓wNotV, ↓wIf, ↓wChain, ↓osN, ↓osC, getAll, ↓appN, ↓wCB, ↓appM, ↓wBM, ↓wBM0, ↓wN, ↓wCs, ↓wTup, ↓wLst, ↓wDic0, ↓wDicT, ↓aN, ↓aC, ↓aW, ↓wCall_eq, ↓wCallK_eq, perm, List.filterMap_cons, List.filterMap_nil, ↓wApp, ↓wExt, ↓wPop, ↓wPopAt, ↓wListA, ↓wRpl, ↓iX, ↓iL, ↓iT, ↓iS, ↓iR1, ↓iR2, ↓iScr, ↓iZD, ↓iE, ↓wComp_eq, ↓ttY, ↓wSl, ↓wPart, ↓plN, ↓wRev, ↓wListO, ↓wRep, ↓wLenSet, ↓wLenScr, ↓wWelI, ↓wWelPop, ↓wWelApp, ↓tWelNE, ↓wDisp, ↓psC, ↓psN, ↓wDIn, ↓wDNotIn, ↓askD, ↓fAdd, ↓fSub, ↓fII, ↓fII0, ↓fDiv, ↓fMod, ↓fPow, ↓fLt, ↓fGt, ↓fLe, ↓fGe, ↓fGtD, ↓fLtD, ↓fLeD, ↓fGeD, ↓fNeg, ↓fMul, ↓fEq, ↓fNe, ↓eqQ, ↓fIsN, ↓fNotN, isNone_1, isNone_2, isNone_3, isNone_4, isNone_5, isNone_6, isNone_7, ↓fInC, ↓fNotInC, ↓fSub_, ↓fIx, ↓fSl, ↓fLen, ↓fTuple, ↓fMin1, ↓fMax1, ↓fSum, ↓fAll, ↓fAny, ↓fSorted, ↓fSortS, ↓fAbs, ↓fInt, ↓fRepr, ↓fCnt, ↓fIdx, ↓fJoin, isStr,
 endsG, mem0, toEnt, Mem.set, Mem.view, Mem.kill, Mem.frz, Mem.ro, Ent.ro', Opd.get,
 List.set_cons_zero, List.set_cons_succ, List.getElem?_cons_zero, List.getElem?_cons_succ, List.map_cons, List.map_nil, List.length_cons, List.length_nil, List.cons_append, List.nil_append, List.replicate_succ, List.replicate_zero, Option.map_some, Option.map_none, List.cons.injEq, and_true, true_and, Arg.x.injEq, exists_eq_left, exists_eq_right, Option.some.injEq, Ent.ow.injEq, Ent.im.injEq, PyData.int.injEq, PyData.list.injEq, PyData.dict.injEq, PyData.tuple.injEq, PyData.str.injEq, exists_eq', exists_eq, decide_eq_true_eq, Bool.not_eq_true', ite_true, ite_false, decide_true, decide_false, decide_eq_false_iff_not, not_true_eq_false, not_false_eq_true, reduceCtorEq, eq_self, S_cps, k_]
      refine ite_i (fun hr => ite_i (fun hne => ?_) (fun _ => ⟨l, w4, none, none, none, hlet, hl, ok4, rfl⟩)) (fun _ => ⟨l, w4, none, none, none, hlet, hl, ok4, rfl⟩)
      have hpos : 0 < l.length := by
        cases l with
        | nil => exact absurd rfl hne
        | cons a t => simp
      refine ⟨zl _ (by omega), dip_i ok4 (by omega) fun p w5 p1 p2 ok5 => ?_⟩
      simp -dsimp only [↓uSeq, ↓uNext, ↓uKill, ↓uFrz, ↓uDrop, ↓uRet, ↓uIf, ↓uAsg, ↓uAsgO, ↓uPar2, ↓uPut, ↓uDPut, ↓uFor_eq, ↓uWhile_eq, ↓uSeqM_eq, ↓uBrk, ↓uCnt, ↓uWelD, ↓gSet, ↓gN, ↓gC, ↓gT, ↓zE, ↓zF, ↓oE, ↓oV, ↓wV, ↓wC, ↓wOp, ↓wUn, ↓app2, ↓app1, ↓wTst, ↓tAndD, ↓tOrD, ↓tNotD, ↓wAndV, ↓wOrV, ↓wNotV, ↓wIf, ↓wChain, ↓osN, ↓osC, getAll, ↓appN, ↓wCB, ↓appM, ↓wBM, ↓wBM0, ↓wN, ↓wCs, ↓wTup, ↓wLst, ↓wDic0, ↓wDicT, ↓aN, ↓aC, ↓aW, ↓wCall_eq, ↓wCallK_eq, perm, List.filterMap_cons, List.filterMap_nil, ↓wApp, ↓wExt, ↓wPop, ↓wPopAt, ↓wListA, ↓wRpl, ↓iX, ↓iL, ↓iT, ↓iS, ↓iR1, ↓iR2, ↓iScr, ↓iZD, ↓iE, ↓wComp_eq, ↓ttY, ↓wSl, ↓wPart, ↓plN, ↓wRev, ↓wListO, ↓wRep, ↓wLenSet, ↓wLenScr, ↓wWelI, ↓wWelPop, ↓wWelApp, ↓tWelNE, ↓wDisp, ↓psC, ↓psN, ↓wDIn, ↓wDNotIn, ↓askD, ↓fAdd, ↓fSub, ↓fII, ↓fII0, ↓fDiv, ↓fMod, ↓fPow, ↓fLt, ↓fGt, ↓fLe, ↓fGe, ↓fGtD, ↓fLtD, ↓fLeD, ↓fGeD, ↓fNeg, ↓fMul, ↓fEq, ↓fNe, ↓eqQ, ↓fIsN, ↓fNotN, isNone_1, isNone_2, isNone_3, isNone_4, isNone_5, isNone_6, isNone_7, ↓fInC, ↓fNotInC, ↓fSub_, ↓fIx, ↓fSl, ↓fLen, ↓fTuple, ↓fMin1, ↓fMax1, ↓fSum, ↓fAll, ↓fAny, ↓fSorted, ↓fSortS, ↓fAbs, ↓fInt, ↓fRepr, ↓fCnt, ↓fIdx, ↓fJoin, isStr,
 endsG, mem0, toEnt, Mem.set, Mem.view, Mem.kill, Mem.frz, Mem.ro, Ent.ro', Opd.get,
 List.set_cons_zero, List.set_cons_succ, List.getElem?_cons_zero, List.getElem?_cons_succ, List.map_cons, List.map_nil, List.length_cons, List.length_nil, List.cons_append, List.nil_append, List.replicate_succ, List.replicate_zero, Option.map_some, Option.map_none, List.cons.injEq, and_true, true_and, Arg.x.injEq, exists_eq_left, exists_eq_right, Option.some.injEq, Ent.ow.injEq, Ent.im.injEq, PyData.int.injEq, PyData.list.injEq, PyData.dict.injEq, PyData.tuple.injEq, PyData.str.injEq, exists_eq', exists_eq, decide_eq_true_eq, Bool.not_eq_true', ite_true, ite_false, decide_true, decide_false, decide_eq_false_iff_not, not_true_eq_false, not_false_eq_true, reduceCtorEq, eq_self, S_cps]
      refine dip_i ok5 (by decide) fun c w6 c1 c2 ok6 => ?_
      simp -dsimp only [↓uSeq, ↓uNext, ↓uKill, ↓uFrz, ↓uDrop, ↓uRet, ↓uIf, ↓uAsg, ↓uAsgO, ↓uPar2, ↓uPut, ↓uDPut, ↓uFor_eq, ↓uWhile_eq, ↓uSeqM_eq, ↓uBrk, ↓uCnt, ↓uWelD, ↓gSet, ↓gN, ↓gC, ↓gT, ↓zE, ↓zF, ↓oE, ↓oV, ↓wV, ↓wC, ↓wOp, ↓wUn, ↓app2, ↓app1, ↓wTst, ↓tAndD, ↓tOrD, ↓tNotD, ↓wAndV, ↓wOrV, ↓wNotV, ↓wIf, ↓wChain, ↓osN, ↓osC, getAll, ↓appN, ↓wCB, ↓appM, ↓wBM, ↓wBM0, ↓wN, ↓wCs, ↓wTup, ↓wLst, ↓wDic0, ↓wDicT, ↓aN, ↓aC, ↓aW, ↓wCall_eq, ↓wCallK_eq, perm, List.filterMap_cons, List.filterMap_nil, ↓wApp, ↓wExt, ↓wPop, ↓wPopAt, ↓wListA, ↓wRpl, ↓iX, ↓iL, ↓iT, ↓iS, ↓iR1, ↓iR2, ↓iScr, ↓iZD, ↓iE, ↓wComp_eq, ↓ttY, ↓wSl, ↓wPart, ↓plN, ↓wRev, ↓wListO, ↓wRep, ↓wLenSet, ↓wLenScr, ↓wWelI, ↓wWelPop, ↓wWelApp, ↓tWelNE, ↓wDisp, ↓psC, ↓psN, ↓wDIn, ↓wDNotIn, ↓askD, ↓fAdd, ↓fSub, ↓fII, ↓fII0, ↓fDiv, ↓fMod, ↓fPow, ↓fLt, ↓fGt, ↓fLe, ↓fGe, ↓fGtD, ↓fLtD, ↓fLeD, ↓fGeD, ↓fNeg, ↓fMul, ↓fEq, ↓fNe, ↓eqQ, ↓fIsN, ↓fNotN, isNone_1, isNone_2, isNone_3, isNone_4, isNone_5, isNone_6, isNone_7, ↓fInC, ↓fNotInC, ↓fSub_, ↓fIx, ↓fSl, ↓fLen, ↓fTuple, ↓fMin1, ↓fMax1, ↓fSum, ↓fAll, ↓fAny, ↓fSorted, ↓fSortS, ↓fAbs, ↓fInt, ↓fRepr, ↓fCnt, ↓fIdx, ↓fJoin, isStr,
 endsG, mem0, toEnt, Mem.set, Mem.view, Mem.kill, Mem.frz, Mem.ro, Ent.ro', Opd.get,
 List.set_cons_zero, List.set_cons_succ, List.getElem?_cons_zero, List.getElem?_cons_succ, List.map_cons, List.map_nil, List.length_cons, List.length_nil, List.cons_append, List.nil_append, List.replicate_succ, List.replicate_zero, Option.map_some, Option.map_none, List.cons.injEq, and_true, true_and, Arg.x.injEq, exists_eq_left, exists_eq_right, Option.some.injEq, Ent.ow.injEq, Ent.im.injEq, PyData.int.injEq, PyData.list.injEq, PyData.dict.injEq, PyData.tuple.injEq, PyData.str.injEq, exists_eq', exists_eq, decide_eq_true_eq, Bool.not_eq_true', ite_true, ite_false, decide_true, decide_false, decide_eq_false_iff_not, not_true_eq_false, not_false_eq_true, reduceCtorEq, eq_self, S_cps]
      rw [cut_lh p1 (by omega)]
      obtain ⟨row, hrow⟩ : ∃ row, row = (l.drop p.toNat).take ((p + 1 + c).toNat - p.toNat) := ⟨_, rfl⟩
      rw [← hrow]
      have rl : LetK 4 row := fun x hx => hlet x (by rw [hrow] at hx; exact List.mem_of_mem_drop (List.mem_of_mem_take hx))
      have rn : row.length ≤ 40 := by rw [hrow, List.length_take, List.length_drop]; omega
      refine ⟨zl _ (by omega), zl _ (by omega), ?_⟩
      refine while_i (fun m M => ∃ (row piece : List Nat) (w : Wel), LetK 4 row ∧ LetK 4 piece ∧ row.length + piece.length ≤ 40 ∧ m = row.length ∧ WelOk w ∧ M = ⟨[some .wel, some (.im (.int most)), some (.im (sD l)), some (.im (.int p)), some (.ow (.list (row.map fun c => .str (S [c])))), some (.im (sD piece))], some w⟩) row.length ⟨row, [], w6, rl, (fun _ h => absurd h List.not_mem_nil), by simpa using rn, rfl, ok6, rfl⟩ ?_
      rintro m M ⟨row, piece, w, rl, pl, rn, rfl, ok, rfl⟩
      have smr : Sm 1 (40 * 14 + 3) (.list (row.map fun c => .str (S [c]))) := Sm.list (k := 12) (fun y hy => by
        obtain ⟨c, hc, rfl⟩ := List.mem_map.mp hy
        exact Sm.str (m := 1) (fun x hx => by have := rl c hc; rw [List.mem_singleton.mp hx]; omega) (Nat.le_refl _)) (by rw [List.length_map]; omega)
      simp -dsimp only [↓uSeq, ↓uNext, ↓uKill, ↓uFrz, ↓uDrop, ↓uRet, ↓uIf, ↓uAsg, ↓uAsgO, ↓uPar2, ↓uPut, ↓uDPut, ↓uFor_eq, ↓uWhile_eq, ↓uSeqM_eq, ↓uBrk, ↓uCnt, ↓uWelD, ↓gSet, ↓gN, ↓gC, ↓gT, ↓zE, ↓zF, ↓oE, ↓oV, ↓wV, ↓wC, ↓wOp, ↓wUn, ↓app2, ↓app1, ↓wTst, ↓tAndD, ↓tOrD, ↓tNotD, ↓wAndV, ↓wOrV, ↓wNotV, ↓wIf, ↓wChain, ↓osN, ↓osC, getAll, ↓appN, ↓wCB, ↓appM, ↓wBM, ↓wBM0, ↓wN, ↓wCs, ↓wTup, ↓wLst, ↓wDic0, ↓wDicT, ↓aN, ↓aC, ↓aW, ↓wCall_eq, ↓wCallK_eq, perm, List.filterMap_cons, List.filterMap_nil, ↓wApp, ↓wExt, ↓wPop, ↓wPopAt, ↓wListA, ↓wRpl, ↓iX, ↓iL, ↓iT, ↓iS, ↓iR1, ↓iR2, ↓iScr, ↓iZD, ↓iE, ↓wComp_eq, ↓ttY, ↓wSl, ↓wPart, ↓plN, ↓wRev, ↓wListO, ↓wRep, ↓wLenSet, ↓wLenScr, ↓wWelI, ↓wWelPop, ↓wWelApp, ↓tWelNE, ↓wDisp, ↓psC, ↓psN, ↓wDIn, ↓wDNotIn, ↓askD, ↓fAdd, ↓fSub, ↓fII, ↓fII0, ↓fDiv, ↓fMod, ↓fPow, ↓fLt, ↓fGt, ↓fLe, ↓fGe, ↓fGtD, ↓fLtD, ↓fLeD, ↓fGeD, ↓fNeg, ↓fMul, ↓fEq, ↓fNe, ↓eqQ, ↓fIsN, ↓fNotN, isNone_1, isNone_2, isNone_3, isNone_4, isNone_5, isNone_6, isNone_7, ↓fInC, ↓fNotInC, ↓fSub_, ↓fIx, ↓fSl, ↓fLen, ↓fTuple, ↓fMin1, ↓fMax1, ↓fSum, ↓fAll, ↓fAny, ↓fSorted, ↓fSortS, ↓fAbs, ↓fInt, ↓fRepr, ↓fCnt, ↓fIdx, ↓fJoin, isStr,
 endsG, mem0, toEnt, Mem.set, Mem.view, Mem.kill, Mem.frz, Mem.ro, Ent.ro', Opd.get,
 List.set_cons_zero, List.set_cons_succ, List.getElem?_cons_zero, List.getElem?_cons_succ, List.map_cons, List.map_nil, List.length_cons, List.length_nil, List.cons_append, List.nil_append, List.replicate_succ, List.replicate_zero, Option.map_some, Option.map_none, List.cons.injEq, and_true, true_and, Arg.x.injEq, exists_eq_left, exists_eq_right, Option.some.injEq, Ent.ow.injEq, Ent.im.injEq, PyData.int.injEq, PyData.list.injEq, PyData.dict.injEq, PyData.tuple.injEq, PyData.str.injEq, exists_eq', exists_eq, decide_eq_true_eq, Bool.not_eq_true', ite_true, ite_false, decide_true, decide_false, decide_eq_false_iff_not, not_true_eq_false, not_false_eq_true, reduceCtorEq, eq_self, eqv_nil]
      refine ⟨by decide, smr.eq Sm.nil (by omega) (by omega), ite_i (fun hc => ?_) (fun hc => ?_)⟩
      · have hrp : 0 < row.length := by
          cases row with
          | nil => simp at hc
          | cons a t => simp
        refine dip_i ok (by rw [List.length_map]; omega) fun j w7 j1 j2 ok7 => ?_
        rw [List.length_map] at j2
        obtain ⟨n, rfl⟩ := Int.eq_ofNat_of_zero_le j1
        have hn : n < row.length := by omega
        have ei : ixN (row.map fun c => PyData.str (S [c])).length (n : Int) = some n := ixN_nat (by rw [List.length_map]; exact hn)
        have eg : (row.map fun c => PyData.str (S [c]))[n]? = some (.str (S [row[n]])) := by rw [List.getElem?_map, List.getElem?_eq_getElem hn]; rfl
        simp -dsimp only [↓uSeq, ↓uNext, ↓uKill, ↓uFrz, ↓uDrop, ↓uRet, ↓uIf, ↓uAsg, ↓uAsgO, ↓uPar2, ↓uPut, ↓uDPut, ↓uFor_eq, ↓uWhile_eq, ↓uSeqM_eq, ↓uBrk, ↓uCnt, ↓uWelD, ↓gSet, ↓gN, ↓gC, ↓gT, ↓zE, ↓zF, ↓oE, ↓oV, ↓wV, ↓wC, ↓wOp, ↓wUn, ↓app2, ↓app1, ↓wTst, ↓tAndD, ↓tOrD, ↓tNotD, ↓wAndV, ↓wOrV, ↓wNotV, ↓wIf, ↓wChain, ↓osN, ↓osC, getAll, ↓appN, ↓wCB, ↓appM, ↓wBM, ↓wBM0, ↓wN, ↓wCs, ↓wTup, ↓wLst, ↓wDic0, ↓wDicT, ↓aN, ↓aC, ↓aW, ↓wCall_eq, ↓wCallK_eq, perm, List.filterMap_cons, List.filterMap_nil, ↓wApp, ↓wExt, ↓wPop, ↓wPopAt, ↓wListA, ↓wRpl, ↓iX, ↓iL, ↓iT, ↓iS, ↓iR1, ↓iR2, ↓iScr, ↓iZD, ↓iE, ↓wComp_eq, ↓ttY, ↓wSl, ↓wPart, ↓plN, ↓wRev, ↓wListO, ↓wRep, ↓wLenSet, ↓wLenScr, ↓wWelI, ↓wWelPop, ↓wWelApp, ↓tWelNE, ↓wDisp, ↓psC, ↓psN, ↓wDIn, ↓wDNotIn, ↓askD, ↓fAdd, ↓fSub, ↓fII, ↓fII0, ↓fDiv, ↓fMod, ↓fPow, ↓fLt, ↓fGt, ↓fLe, ↓fGe, ↓fGtD, ↓fLtD, ↓fLeD, ↓fGeD, ↓fNeg, ↓fMul, ↓fEq, ↓fNe, ↓eqQ, ↓fIsN, ↓fNotN, isNone_1, isNone_2, isNone_3, isNone_4, isNone_5, isNone_6, isNone_7, ↓fInC, ↓fNotInC, ↓fSub_, ↓fIx, ↓fSl, ↓fLen, ↓fTuple, ↓fMin1, ↓fMax1, ↓fSum, ↓fAll, ↓fAny, ↓fSorted, ↓fSortS, ↓fAbs, ↓fInt, ↓fRepr, ↓fCnt, ↓fIdx, ↓fJoin, isStr,
 endsG, mem0, toEnt, Mem.set, Mem.view, Mem.kill, Mem.frz, Mem.ro, Ent.ro', Opd.get,
 List.set_cons_zero, List.set_cons_succ, List.getElem?_cons_zero, List.getElem?_cons_succ, List.map_cons, List.map_nil, List.length_cons, List.length_nil, List.cons_append, List.nil_append, List.replicate_succ, List.replicate_zero, Option.map_some, Option.map_none, List.cons.injEq, and_true, true_and, Arg.x.injEq, exists_eq_left, exists_eq_right, Option.some.injEq, Ent.ow.injEq, Ent.im.injEq, PyData.int.injEq, PyData.list.injEq, PyData.dict.injEq, PyData.tuple.injEq, PyData.str.injEq, exists_eq', exists_eq, decide_eq_true_eq, Bool.not_eq_true', ite_true, ite_false, decide_true, decide_false, decide_eq_false_iff_not, not_true_eq_false, not_false_eq_true, reduceCtorEq, eq_self, ei, eg, S_cps]
        refine ⟨⟨by omega, by omega⟩, by simp; exact zl _ (by omega), (row.eraseIdx n).length, by rw [List.length_eraseIdx_of_lt hn]; omega, row.eraseIdx n, piece ++ [row[n]], w7, fun x hx => rl x (List.mem_of_mem_eraseIdx hx), fun x hx => ?_, by rw [List.length_eraseIdx_of_lt hn, List.length_append]; simp; omega, rfl, ok7, by rw [map_erase]⟩
        rcases List.mem_append.mp hx with hx | hx
        · exact pl x hx
        · rw [List.mem_singleton.mp hx]
          exact rl _ (List.getElem_mem hn)
      · rw [cut_hi (by omega), cut_lo (by omega), cut_hi (by decide)]
        have hl1 : (l.take (p + (piece.length : Int)).toNat).length ≤ 40 := by rw [List.length_take]; omega
        have hl2 : (l.drop (p + (piece.length : Int)).toNat).length ≤ 40 := by rw [List.length_drop]; omega
        refine ⟨zl _ (by omega), zl _ (by omega), zl _ (by omega), zl _ (by omega), zl _ (by omega), zl _ (by simp only [List.length_append]; omega), zl _ (by simp only [List.length_append]; omega), _, w, _, _, _, fun x hx => ?_, by rw [List.length_take]; have : Int.toNat 40 = 40 := rfl; omega, ok, rfl⟩
        rcases List.mem_append.mp (List.mem_of_mem_take hx) with hx | hx
        · rcases List.mem_append.mp hx with hx | hx
          · exact hlet x (List.mem_of_mem_take hx)
          · exact pl x hx
        · exact hlet x (List.mem_of_mem_drop hx)
    · rintro M' ⟨l, w, e3, e4, e5, hlet, hl, ok, rfl⟩
      simp -dsimp only [↓uSeq, ↓uNext, ↓uKill, ↓uFrz, ↓uDrop, ↓uRet, ↓uIf, ↓uAsg, ↓uAsgO, ↓uPar2, ↓uPut, ↓uDPut, ↓uFor_eq, ↓uWhile_eq, ↓uSeqM_eq, ↓uBrk, ↓uCnt, ↓uWelD, ↓gSet, ↓gN, ↓gC, ↓gT, ↓zE, ↓zF, ↓oE, ↓oV, ↓wV, ↓wC, ↓wOp, ↓wUn, ↓app2, ↓app1, ↓wTst, ↓tAndD, ↓tOrD, ↓tNotD, ↓wAndV, ↓wOrV, ↓wNotV, ↓wIf, ↓wChain, ↓osN, ↓osC, getAll, ↓appN, ↓wCB, ↓appM, ↓wBM, ↓wBM0, ↓wN, ↓wCs, ↓wTup, ↓wLst, ↓wDic0, ↓wDicT, ↓aN, ↓aC, ↓aW, ↓wCall_eq, ↓wCallK_eq, perm, List.filterMap_cons, List.filterMap_nil, ↓wApp, ↓wExt, ↓wPop, ↓wPopAt, ↓wListA, ↓wRpl, ↓iX, ↓iL, ↓iT, ↓iS, ↓iR1, ↓iR2, ↓iScr, ↓iZD, ↓iE, ↓wComp_eq, ↓ttY, ↓wSl, ↓wPart, ↓plN, ↓wRev, ↓wListO, ↓wRep, ↓wLenSet, ↓wLenScr, ↓wWelI, ↓wWelPop, ↓wWelApp, ↓tWelNE, ↓wDisp, ↓psC, ↓psN, ↓wDIn, ↓wDNotIn, ↓askD, ↓fAdd, ↓fSub, ↓fII, ↓fII0, ↓fDiv, ↓fMod, ↓fPow, ↓fLt, ↓fGt, ↓fLe, ↓fGe, ↓fGtD, ↓fLtD, ↓fLeD, ↓fGeD, ↓fNeg, ↓fMul, ↓fEq, ↓fNe, ↓eqQ, ↓fIsN, ↓fNotN, isNone_1, isNone_2, isNone_3, isNone_4, isNone_5, isNone_6, isNone_7, ↓fInC, ↓fNotInC, ↓fSub_, ↓fIx, ↓fSl, ↓fLen, ↓fTuple, ↓fMin1, ↓fMax1, ↓fSum, ↓fAll, ↓fAny, ↓fSorted, ↓fSortS, ↓fAbs, ↓fInt, ↓fRepr, ↓fCnt, ↓fIdx, ↓fJoin, isStr,
 endsG, mem0, toEnt, Mem.set, Mem.view, Mem.kill, Mem.frz, Mem.ro, Ent.ro', Opd.get,
 List.set_cons_zero, List.set_cons_succ, List.getElem?_cons_zero, List.getElem?_cons_succ, List.map_cons, List.map_nil, List.length_cons, List.length_nil, List.cons_append, List.nil_append, List.replicate_succ, List.replicate_zero, Option.map_some, Option.map_none, List.cons.injEq, and_true, true_and, Arg.x.injEq, exists_eq_left, exists_eq_right, Option.some.injEq, Ent.ow.injEq, Ent.im.injEq, PyData.int.injEq, PyData.list.injEq, PyData.dict.injEq, PyData.tuple.injEq, PyData.str.injEq, exists_eq', exists_eq, decide_eq_true_eq, Bool.not_eq_true', ite_true, ite_false, decide_true, decide_false, decide_eq_false_iff_not, not_true_eq_false, not_false_eq_true, reduceCtorEq, eq_self]
      exact q l w hlet hl ok
end DL

/-! M5: k82, the law -/
namespace DL
open PySem PySem.Spec L2 PyProof.Rows
theorem k_e : ("e" : Str) = S [101] := by decide +kernel
theorem k_d : ("d" : Str) = S [100] := by decide +kernel
theorem repl_one (c d : Nat) : ∀ l : List Nat, StrLaws.replL [c] [d] l = l.map fun x => if x = c then d else x
  | [] => by unfold StrLaws.replL; rw [StrLaws.replS]; rfl
  | x :: r => by
    have ih := repl_one c d r
    unfold StrLaws.replL at ih ⊢
    rw [StrLaws.replS, List.map_cons]
    by_cases h : x = c
    · subst h
      simp only [List.length_cons, List.length_nil, List.take_succ_cons, List.take_zero, if_true]
      rw [show 0 + 1 - 1 = 0 from rfl, ih]
      rfl
    · rw [if_neg (by simpa using h), if_neg h, ih]
theorem repl_sign (l : List Nat) (c d : Nat) : Txt.replace (S l) (S [c]) (S [d]) = S (l.map fun x => if x = c then d else x) := by
  have := StrLaws.replace_list (x := S l) (y := S [c]) (z := S [d]) (by show 1 ≤ 1; omega)
  rw [S_cps, S_cps, S_cps, repl_one] at this
  rw [← this]
def sw (x : Nat) : Nat := if x = 97 then 100 else if x = 100 then 97 else x
theorem sw_eq {l : List Nat} (h : LetK 4 l) : ((l.map fun x => if x = 97 then 101 else x).map fun x => if x = 100 then 97 else x).map (fun x => if x = 101 then 100 else x) = l.map sw := by
  rw [List.map_map, List.map_map]
  refine List.map_congr_left fun x hx => ?_
  have := h x hx
  have hx : x = 97 ∨ x = 98 ∨ x = 99 ∨ x = 100 := by omega
  rcases hx with rfl | rfl | rfl | rfl <;> rfl
theorem sw_inj : ∀ a b, sw a = sw b → a = b := fun a b h => by
  unfold sw at h
  split at h <;> split at h <;> (try split at h) <;> (try split at h) <;> omega
theorem count_sw : ∀ (l : List Nat) (c : Nat), (l.map sw).count (sw c) = l.count c
  | [], c => rfl
  | x :: r, c => by
    rw [List.map_cons, List.count_cons, List.count_cons, count_sw r c]
    by_cases h : x = c
    · subst h; simp
    · have : ¬ sw x = sw c := fun e => h (sw_inj _ _ e)
      simp [h, this]
theorem cts_sw (l : List Nat) : cts (l.map sw) = [((l.count 100 : Nat) : Int), (l.count 98 : Nat), (l.count 99 : Nat), (l.count 97 : Nat)] := by
  have h1 := count_sw l 100
  have h2 := count_sw l 98
  have h3 := count_sw l 99
  have h4 := count_sw l 97
  unfold cts
  rw [← h1, ← h2, ← h3, ← h4]
  rfl
theorem cts_sw_iff (a b : List Nat) : cts (a.map sw) = cts (b.map sw) ↔ cts a = cts b := by
  rw [cts_sw, cts_sw]
  unfold cts
  simp only [List.cons.injEq, and_true]
  constructor
  · rintro ⟨h1, h2, h3, h4⟩
    exact ⟨h4, h2, h3, h1⟩
  · rintro ⟨h1, h2, h3, h4⟩
    exact ⟨h4, h2, h3, h1⟩
theorem like_sw (l : List Nat) (o p s : Nat) : PLike (l.map sw) o p s ↔ PLike l o p s := by
  unfold PLike seg
  constructor
  · intro h k h1 h2
    have := h k h1 h2
    rw [← List.map_drop, ← List.map_take, ← List.map_drop, ← List.map_take, cts_sw_iff] at this
    exact this
  · intro h k h1 h2
    rw [← List.map_drop, ← List.map_take, ← List.map_drop, ← List.map_take, cts_sw_iff]
    exact h k h1 h2
theorem lt_pair (a b c d : Int) : PySem.W.dataLt (.tuple [.int a, .int b]) (.tuple [.int c, .int d]) = decide (a < c ∨ (a = c ∧ b < d)) := by
  unfold PySem.W.dataLt
  simp only [PySem.W.keyToks, PySem.W.keyToksAll]
  simp only [List.cons_append, List.nil_append, List.append_nil, PyProof.Rows.lexLt, PyProof.Rows.itemLt]
  rw [Bool.eq_iff_iff]
  simp
  omega
theorem dot_cts {a b : List Nat} {ws : List Int} (h : cts a = cts b) : dot a ws = dot b ws := by
  unfold cts at h
  simp only [List.cons.injEq, and_true] at h
  unfold dot
  rw [h.1, h.2.1, h.2.2.1, h.2.2.2]
theorem like_sum {l : List Nat} {o p s : Nat} {ws : List Int} (h : PLike l o p s) : PSum ws l o p s := fun k hk => by
  by_cases h0 : k = 0
  · subst h0
    rw [Nat.zero_mul, Nat.add_zero]
  · exact dot_cts (h k (by omega) hk)
/-- the first of a wider search stands no later -/
theorem no_later {V V' P P' : Nat → Nat → Prop} {r r' : PyData} {p s : Nat} (h : IsFirst V P r) (e : r = .tuple [.int (p : Nat), .int (s : Nat)]) (h' : IsFirst V' P' r') (hv : ∀ p s, V p s → V' p s) (hp : ∀ p s, V p s → P p s → P' p s) :
    ∃ p' s' : Nat, r' = .tuple [.int (p' : Nat), .int (s' : Nat)] ∧ ¬ (p < p' ∨ (p = p' ∧ s < s')) := by
  rcases h with ⟨rfl, _⟩ | ⟨p1, s1, rfl, v, q, m⟩
  · cases e
  · cases e
    rcases h' with ⟨rfl, n⟩ | ⟨p', s', rfl, v', q', m'⟩
    · exact absurd (hp _ _ v q) (n _ _ (hv _ _ v))
    · exact ⟨p', s', rfl, fun z => m' _ _ (hv _ _ v) z (hp _ _ v q)⟩
theorem alk_pair (a b c d : Int) : Alk (.tuple [.int a, .int b]) (.tuple [.int c, .int d]) := ⟨rfl, rfl, rfl, (fun z => nomatch z), by simp [PyData.depth, PyData.depthAll]⟩
def u_law : WS :=
  (uSeq (uFor [2, 3, 4, 5, 6, 7, 8, 9, 10, 11, 12] (iR1 (osC (oE (wC (.int 4))) osN)) (gSet 2)
  (uSeq (uAsg (wCall g__law_mixed_word (aW 1 aN)) (gSet 3))
  (uSeq (uAsg (wCall g__law_take (aW 1 (aC (wLst (wCs (wC (.int 2)) (wCs (wC (.int 2)) (wCs (wC (.int 3)) (wCs (wC (.int 3)) (wCs (wC (.int 4)) (wCs (wOp fAdd (oE (wC (.int 2))) (oE (wCall g__law_dip (aW 1 (aC (wC (.int 7)) aN))))) (wCs (wC (.int 8)) wN)))))))) aN))) (gSet 4))
  (uSeq (uAsg (wCall g__law_power (aC (wV 3) (aC (wV 4) aN))) (gSet 5))
  (uSeq (uAsg (wLst (wCs (wCall g_count_power (aC (wV 3) (aC (wV 4) aN))) (wCs (wCallK g_count_power [0, 1] (aC (wV 3) (aC (wV 4) aN))) wN))) (gSet 6))
  (uSeq (uIf (wTst (wOp fNe (oE (wCB fRepr (osC (oV 6) osN))) (oE (wCB fRepr (osC (oE (wLst (wCs (wV 5) (wCs (wV 5) wN)))) osN)))))
  (uRet (wC (.bool false)))
  uNext)
  (uSeqM (uIf (tAndD (wTst (wOp fNotN (oV 5) (oE (wC .none)))) (wTst (wOp fGt (oV 4) (oE (wC (.int 2))))))
  (uSeq (uAsg (wCall g_count_power (aC (wV 3) (aC (wOp fSub (oV 4) (oE (wC (.int 1)))) aN))) (gSet 7))
  (uIf (tOrD (wTst (wOp fIsN (oV 7) (oE (wC .none)))) (wTst (wOp fGtD (oV 7) (oV 5))))
  (uRet (wC (.bool false)))
  uNext))
  uNext)
  (uSeq (uAsg (wRpl (wRpl (wRpl (wV 3) "a" "e") "d" "a") "e" "d") (gSet 8))
  (uSeqM (uIf (wTst (wOp fNe (oE (wCall g_count_power (aC (wV 8) (aC (wV 4) aN)))) (oV 5)))
  (uRet (wC (.bool false)))
  uNext)
  (uFor [6, 9, 10, 11, 12] (iR1 (osC (oE (wC (.int 2))) osN)) (gSet 9)
  (uSeq (uAsg (wCall g__law_take (aW 1 (aC (wLst (wCs (wC (.int 2)) (wCs (wC (.int 4)) (wCs (wC (.int 100)) wN)))) aN))) (gSet 10))
  (uSeq (uAsg (wCB fTuple (osC (oE (wComp [13] (iX (wC (.str "abcd"))) (gSet 13) ttY (wOp fSub (oE (wCall g__law_dip (aW 1 (aC (wOp fAdd (oE (wOp fMul (oE (wC (.int 2))) (oV 10))) (oE (wC (.int 1)))) aN)))) (oV 10)))) osN)) (gSet 11))
  (uSeq (uAsg (wCall g__law_least_sum (aC (wV 3) (aC (wV 11) (aC (wV 4) aN)))) (gSet 12))
  (uSeq (uAsg (wCall g_sum_power (aC (wV 3) (aC (wV 11) (aC (wV 4) aN)))) (gSet 6))
  (uSeqM (uIf (wTst (wOp fEq (oV 9) (oE (wC (.int 1)))))
  (uAsg (wCallK g_sum_power [2, 1, 0] (aC (wV 4) (aC (wV 11) (aC (wV 3) aN)))) (gSet 6))
  uNext)
  (uSeq (uIf (wTst (wOp fNe (oE (wCB fRepr (osC (oV 6) osN))) (oE (wCB fRepr (osC (oV 12) osN)))))
  (uRet (wC (.bool false)))
  uNext)
  (uIf (tAndD (wTst (wOp fNotN (oV 5) (oE (wC .none)))) (tOrD (wTst (wOp fIsN (oV 12) (oE (wC .none)))) (wTst (wOp fGtD (oV 12) (oV 5)))))
  (uRet (wC (.bool false)))
  uNext)))))))))))))))))
  (uRet (wC (.bool true))))
theorem pow_sm {l : List Nat} {o : Nat} {r : PyData} (h : IsFirst (Vl l o) (PLike l o) r) (ho : 1 ≤ o) (hl : l.length ≤ 40) : Sm 1 49 r := h.sm ho (by omega)
theorem first_cases {V P : Nat → Nat → Prop} {r : PyData} (h : IsFirst V P r) : r = .none ∨ ∃ p s : Nat, r = .tuple [.int (p : Nat), .int (s : Nat)] := by
  rcases h with ⟨h, _⟩ | ⟨p, s, h, _⟩
  · exact .inl h
  · exact .inr ⟨p, s, h⟩
theorem pf_law (w : Wel) (ok : WelOk w) : u_law noX { nx := fun _ => False, rt := fun d _ => d = .bool true } ⟨(List.replicate 14 none).set 1 (some .wel), some w⟩ := by
  simp -dsimp only [u_law, ↓uSeq, ↓uNext, ↓uKill, ↓uFrz, ↓uDrop, ↓uRet, ↓uIf, ↓uAsg, ↓uAsgO, ↓uPar2, ↓uPut, ↓uDPut, ↓uFor_eq, ↓uWhile_eq, ↓uSeqM_eq, ↓uBrk, ↓uCnt, ↓uWelD, ↓gSet, ↓gN, ↓gC, ↓gT, ↓zE, ↓zF, ↓oE, ↓oV, ↓wV, ↓wC, ↓wOp, ↓wUn, ↓app2, ↓app1, ↓wTst, ↓tAndD, ↓tOrD, ↓tNotD, ↓wAndV, ↓wOrV, ↓wNotV, ↓wIf, ↓wChain, ↓osN, ↓osC, getAll, ↓appN, ↓wCB, ↓appM, ↓wBM, ↓wBM0, ↓wN, ↓wCs, ↓wTup, ↓wLst, ↓wDic0, ↓wDicT, ↓aN, ↓aC, ↓aW, ↓wCall_eq, ↓wCallK_eq, perm, List.filterMap_cons, List.filterMap_nil, ↓wApp, ↓wExt, ↓wPop, ↓wPopAt, ↓wListA, ↓wRpl, ↓iX, ↓iL, ↓iT, ↓iS, ↓iR1, ↓iR2, ↓iScr, ↓iZD, ↓iE, ↓wComp_eq, ↓ttY, ↓wSl, ↓wPart, ↓plN, ↓wRev, ↓wListO, ↓wRep, ↓wLenSet, ↓wLenScr, ↓wWelI, ↓wWelPop, ↓wWelApp, ↓tWelNE, ↓wDisp, ↓psC, ↓psN, ↓wDIn, ↓wDNotIn, ↓askD, ↓fAdd, ↓fSub, ↓fII, ↓fII0, ↓fDiv, ↓fMod, ↓fPow, ↓fLt, ↓fGt, ↓fLe, ↓fGe, ↓fGtD, ↓fLtD, ↓fLeD, ↓fGeD, ↓fNeg, ↓fMul, ↓fEq, ↓fNe, ↓eqQ, ↓fIsN, ↓fNotN, isNone_1, isNone_2, isNone_3, isNone_4, isNone_5, isNone_6, isNone_7, ↓fInC, ↓fNotInC, ↓fSub_, ↓fIx, ↓fSl, ↓fLen, ↓fTuple, ↓fMin1, ↓fMax1, ↓fSum, ↓fAll, ↓fAny, ↓fSorted, ↓fSortS, ↓fAbs, ↓fInt, ↓fRepr, ↓fCnt, ↓fIdx, ↓fJoin, isStr,
 endsG, mem0, toEnt, Mem.set, Mem.view, Mem.kill, Mem.frz, Mem.ro, Ent.ro', Opd.get,
 List.set_cons_zero, List.set_cons_succ, List.getElem?_cons_zero, List.getElem?_cons_succ, List.map_cons, List.map_nil, List.length_cons, List.length_nil, List.cons_append, List.nil_append, List.replicate_succ, List.replicate_zero, Option.map_some, Option.map_none, List.cons.injEq, and_true, true_and, Arg.x.injEq, exists_eq_left, exists_eq_right, Option.some.injEq, Ent.ow.injEq, Ent.im.injEq, PyData.int.injEq, PyData.list.injEq, PyData.dict.injEq, PyData.tuple.injEq, PyData.str.injEq, exists_eq', exists_eq, decide_eq_true_eq, Bool.not_eq_true', ite_true, ite_false, decide_true, decide_false, decide_eq_false_iff_not, not_true_eq_false, not_false_eq_true, reduceCtorEq, eq_self]
  refine ⟨⟨by decide, by decide⟩, ?_⟩
  refine for_i (fun i M => ∃ w : Wel, WelOk w ∧ ∃ e2 e3 e4 e5 e6 e7 e8 e9 e10 e11 e12 : Option Ent, M = ⟨[none, some .wel, e2, e3, e4, e5, e6, e7, e8, e9, e10, e11, e12, none], some w⟩) ⟨w, ok, none, none, none, none, none, none, none, none, none, none, none, rfl⟩ ?_ ?_
  · rintro t d M' hd ⟨w, ok, e2, e3, e4, e5, e6, e7, e8, e9, e10, e11, e12, rfl⟩
    obtain ⟨ht, rfl⟩ := rng_at hd
    simp -dsimp only [↓uSeq, ↓uNext, ↓uKill, ↓uFrz, ↓uDrop, ↓uRet, ↓uIf, ↓uAsg, ↓uAsgO, ↓uPar2, ↓uPut, ↓uDPut, ↓uFor_eq, ↓uWhile_eq, ↓uSeqM_eq, ↓uBrk, ↓uCnt, ↓uWelD, ↓gSet, ↓gN, ↓gC, ↓gT, ↓zE, ↓zF, ↓oE, ↓oV, ↓wV, ↓wC, ↓wOp, ↓wUn, ↓app2, ↓app1, ↓wTst, ↓tAndD, ↓tOrD, ↓tNotD, ↓wAndV, ↓wOrV, ↓wNotV, ↓wIf, ↓wChain, ↓osN, ↓osC, getAll, ↓appN, ↓wCB, ↓appM, ↓wBM, ↓wBM0, ↓wN, ↓wCs, ↓wTup, ↓wLst, ↓wDic0, ↓wDicT, ↓aN, ↓aC, ↓aW, ↓wCall_eq, ↓wCallK_eq, perm, List.filterMap_cons, List.filterMap_nil, ↓wApp, ↓wExt, ↓wPop, ↓wPopAt, ↓wListA, ↓wRpl, ↓iX, ↓iL, ↓iT, ↓iS, ↓iR1, ↓iR2, ↓iScr, ↓iZD, ↓iE, ↓wComp_eq, ↓ttY, ↓wSl, ↓wPart, ↓plN, ↓wRev, ↓wListO, ↓wRep, ↓wLenSet, ↓wLenScr, ↓wWelI, ↓wWelPop, ↓wWelApp, ↓tWelNE, ↓wDisp, ↓psC, ↓psN, ↓wDIn, ↓wDNotIn, ↓askD, ↓fAdd, ↓fSub, ↓fII, ↓fII0, ↓fDiv, ↓fMod, ↓fPow, ↓fLt, ↓fGt, ↓fLe, ↓fGe, ↓fGtD, ↓fLtD, ↓fLeD, ↓fGeD, ↓fNeg, ↓fMul, ↓fEq, ↓fNe, ↓eqQ, ↓fIsN, ↓fNotN, isNone_1, isNone_2, isNone_3, isNone_4, isNone_5, isNone_6, isNone_7, ↓fInC, ↓fNotInC, ↓fSub_, ↓fIx, ↓fSl, ↓fLen, ↓fTuple, ↓fMin1, ↓fMax1, ↓fSum, ↓fAll, ↓fAny, ↓fSorted, ↓fSortS, ↓fAbs, ↓fInt, ↓fRepr, ↓fCnt, ↓fIdx, ↓fJoin, isStr,
 endsG, mem0, toEnt, Mem.set, Mem.view, Mem.kill, Mem.frz, Mem.ro, Ent.ro', Opd.get,
 List.set_cons_zero, List.set_cons_succ, List.getElem?_cons_zero, List.getElem?_cons_succ, List.map_cons, List.map_nil, List.length_cons, List.length_nil, List.cons_append, List.nil_append, List.replicate_succ, List.replicate_zero, Option.map_some, Option.map_none, List.cons.injEq, and_true, true_and, Arg.x.injEq, exists_eq_left, exists_eq_right, Option.some.injEq, Ent.ow.injEq, Ent.im.injEq, PyData.int.injEq, PyData.list.injEq, PyData.dict.injEq, PyData.tuple.injEq, PyData.str.injEq, exists_eq', exists_eq, decide_eq_true_eq, Bool.not_eq_true', ite_true, ite_false, decide_true, decide_false, decide_eq_false_iff_not, not_true_eq_false, not_false_eq_true, reduceCtorEq, eq_self]
    refine mixed_i ok fun l w1 hlet hl ok1 => ?_
    simp -dsimp only [↓uSeq, ↓uNext, ↓uKill, ↓uFrz, ↓uDrop, ↓uRet, ↓uIf, ↓uAsg, ↓uAsgO, ↓uPar2, ↓uPut, ↓uDPut, ↓uFor_eq, ↓uWhile_eq, ↓uSeqM_eq, ↓uBrk, ↓uCnt, ↓uWelD, ↓gSet, ↓gN, ↓gC, ↓gT, ↓zE, ↓zF, ↓oE, ↓oV, ↓wV, ↓wC, ↓wOp, ↓wUn, ↓app2, ↓app1, ↓wTst, ↓tAndD, ↓tOrD, ↓tNotD, ↓wAndV, ↓wOrV, ↓wNotV, ↓wIf, ↓wChain, ↓osN, ↓osC, getAll, ↓appN, ↓wCB, ↓appM, ↓wBM, ↓wBM0, ↓wN, ↓wCs, ↓wTup, ↓wLst, ↓wDic0, ↓wDicT, ↓aN, ↓aC, ↓aW, ↓wCall_eq, ↓wCallK_eq, perm, List.filterMap_cons, List.filterMap_nil, ↓wApp, ↓wExt, ↓wPop, ↓wPopAt, ↓wListA, ↓wRpl, ↓iX, ↓iL, ↓iT, ↓iS, ↓iR1, ↓iR2, ↓iScr, ↓iZD, ↓iE, ↓wComp_eq, ↓ttY, ↓wSl, ↓wPart, ↓plN, ↓wRev, ↓wListO, ↓wRep, ↓wLenSet, ↓wLenScr, ↓wWelI, ↓wWelPop, ↓wWelApp, ↓tWelNE, ↓wDisp, ↓psC, ↓psN, ↓wDIn, ↓wDNotIn, ↓askD, ↓fAdd, ↓fSub, ↓fII, ↓fII0, ↓fDiv, ↓fMod, ↓fPow, ↓fLt, ↓fGt, ↓fLe, ↓fGe, ↓fGtD, ↓fLtD, ↓fLeD, ↓fGeD, ↓fNeg, ↓fMul, ↓fEq, ↓fNe, ↓eqQ, ↓fIsN, ↓fNotN, isNone_1, isNone_2, isNone_3, isNone_4, isNone_5, isNone_6, isNone_7, ↓fInC, ↓fNotInC, ↓fSub_, ↓fIx, ↓fSl, ↓fLen, ↓fTuple, ↓fMin1, ↓fMax1, ↓fSum, ↓fAll, ↓fAny, ↓fSorted, ↓fSortS, ↓fAbs, ↓fInt, ↓fRepr, ↓fCnt, ↓fIdx, ↓fJoin, isStr,
 endsG, mem0, toEnt, Mem.set, Mem.view, Mem.kill, Mem.frz, Mem.ro, Ent.ro', Opd.get,
 List.set_cons_zero, List.set_cons_succ, List.getElem?_cons_zero, List.getElem?_cons_succ, List.map_cons, List.map_nil, List.length_cons, List.length_nil, List.cons_append, List.nil_append, List.replicate_succ, List.replicate_zero, Option.map_some, Option.map_none, List.cons.injEq, and_true, true_and, Arg.x.injEq, exists_eq_left, exists_eq_right, Option.some.injEq, Ent.ow.injEq, Ent.im.injEq, PyData.int.injEq, PyData.list.injEq, PyData.dict.injEq, PyData.tuple.injEq, PyData.str.injEq, exists_eq', exists_eq, decide_eq_true_eq, Bool.not_eq_true', ite_true, ite_false, decide_true, decide_false, decide_eq_false_iff_not, not_true_eq_false, not_false_eq_true, reduceCtorEq, eq_self]
    refine dip_i ok1 (by decide) fun r w2 r1 r2 ok2 => ?_
    simp -dsimp only [↓uSeq, ↓uNext, ↓uKill, ↓uFrz, ↓uDrop, ↓uRet, ↓uIf, ↓uAsg, ↓uAsgO, ↓uPar2, ↓uPut, ↓uDPut, ↓uFor_eq, ↓uWhile_eq, ↓uSeqM_eq, ↓uBrk, ↓uCnt, ↓uWelD, ↓gSet, ↓gN, ↓gC, ↓gT, ↓zE, ↓zF, ↓oE, ↓oV, ↓wV, ↓wC, ↓wOp, ↓wUn, ↓app2, ↓app1, ↓wTst, ↓tAndD, ↓tOrD, ↓tNotD, ↓wAndV, ↓wOrV, ↓wNotV, ↓wIf, ↓wChain, ↓osN, ↓osC, getAll, ↓appN, ↓wCB, ↓appM, ↓wBM, ↓wBM0, ↓wN, ↓wCs, ↓wTup, ↓wLst, ↓wDic0, ↓wDicT, ↓aN, ↓aC, ↓aW, ↓wCall_eq, ↓wCallK_eq, perm, List.filterMap_cons, List.filterMap_nil, ↓wApp, ↓wExt, ↓wPop, ↓wPopAt, ↓wListA, ↓wRpl, ↓iX, ↓iL, ↓iT, ↓iS, ↓iR1, ↓iR2, ↓iScr, ↓iZD, ↓iE, ↓wComp_eq, ↓ttY, ↓wSl, ↓wPart, ↓plN, ↓wRev, ↓wListO, ↓wRep, ↓wLenSet, ↓wLenScr, ↓wWelI, ↓wWelPop, ↓wWelApp, ↓tWelNE, ↓wDisp, ↓psC, ↓psN, ↓wDIn, ↓wDNotIn, ↓askD, ↓fAdd, ↓fSub, ↓fII, ↓fII0, ↓fDiv, ↓fMod, ↓fPow, ↓fLt, ↓fGt, ↓fLe, ↓fGe, ↓fGtD, ↓fLtD, ↓fLeD, ↓fGeD, ↓fNeg, ↓fMul, ↓fEq, ↓fNe, ↓eqQ, ↓fIsN, ↓fNotN, isNone_1, isNone_2, isNone_3, isNone_4, isNone_5, isNone_6, isNone_7, ↓fInC, ↓fNotInC, ↓fSub_, ↓fIx, ↓fSl, ↓fLen, ↓fTuple, ↓fMin1, ↓fMax1, ↓fSum, ↓fAll, ↓fAny, ↓fSorted, ↓fSortS, ↓fAbs, ↓fInt, ↓fRepr, ↓fCnt, ↓fIdx, ↓fJoin, isStr,
 endsG, mem0, toEnt, Mem.set, Mem.view, Mem.kill, Mem.frz, Mem.ro, Ent.ro', Opd.get,
 List.set_cons_zero, List.set_cons_succ, List.getElem?_cons_zero, List.getElem?_cons_succ, List.map_cons, List.map_nil, List.length_cons, List.length_nil, List.cons_append, List.nil_append, List.replicate_succ, List.replicate_zero, Option.map_some, Option.map_none, List.cons.injEq, and_true, true_and, Arg.x.injEq, exists_eq_left, exists_eq_right, Option.some.injEq, Ent.ow.injEq, Ent.im.injEq, PyData.int.injEq, PyData.list.injEq, PyData.dict.injEq, PyData.tuple.injEq, PyData.str.injEq, exists_eq', exists_eq, decide_eq_true_eq, Bool.not_eq_true', ite_true, ite_false, decide_true, decide_false, decide_eq_false_iff_not, not_true_eq_false, not_false_eq_true, reduceCtorEq, eq_self]
    refine ⟨by decide, take_j ok2 (by simp) (by simp) fun x w3 hx ok3 => ?_⟩
    obtain ⟨o, rfl, o1, o2⟩ : ∃ o : Nat, x = .int (o : Nat) ∧ 2 ≤ o ∧ o ≤ 20 := by
      simp only [List.mem_cons, List.not_mem_nil, or_false] at hx
      rcases hx with rfl | rfl | rfl | rfl | rfl | rfl | rfl
      · exact ⟨2, rfl, by decide, by decide⟩
      · exact ⟨2, rfl, by decide, by decide⟩
      · exact ⟨3, rfl, by decide, by decide⟩
      · exact ⟨3, rfl, by decide, by decide⟩
      · exact ⟨4, rfl, by decide, by decide⟩
      · exact ⟨(2 + r).toNat, by congr 1; omega, by omega, by omega⟩
      · exact ⟨8, rfl, by decide, by decide⟩
    simp -dsimp only [↓uSeq, ↓uNext, ↓uKill, ↓uFrz, ↓uDrop, ↓uRet, ↓uIf, ↓uAsg, ↓uAsgO, ↓uPar2, ↓uPut, ↓uDPut, ↓uFor_eq, ↓uWhile_eq, ↓uSeqM_eq, ↓uBrk, ↓uCnt, ↓uWelD, ↓gSet, ↓gN, ↓gC, ↓gT, ↓zE, ↓zF, ↓oE, ↓oV, ↓wV, ↓wC, ↓wOp, ↓wUn, ↓app2, ↓app1, ↓wTst, ↓tAndD, ↓tOrD, ↓tNotD, ↓wAndV, ↓wOrV, ↓wNotV, ↓wIf, ↓wChain, ↓osN, ↓osC, getAll, ↓appN, ↓wCB, ↓appM, ↓wBM, ↓wBM0, ↓wN, ↓wCs, ↓wTup, ↓wLst, ↓wDic0, ↓wDicT, ↓aN, ↓aC, ↓aW, ↓wCall_eq, ↓wCallK_eq, perm, List.filterMap_cons, List.filterMap_nil, ↓wApp, ↓wExt, ↓wPop, ↓wPopAt, ↓wListA, ↓wRpl, ↓iX, ↓iL, ↓iT, ↓iS, ↓iR1, ↓iR2, ↓iScr, ↓iZD, ↓iE, ↓wComp_eq, ↓ttY, ↓wSl, ↓wPart, ↓plN, ↓wRev, ↓wListO, ↓wRep, ↓wLenSet, ↓wLenScr, ↓wWelI, ↓wWelPop, ↓wWelApp, ↓tWelNE, ↓wDisp, ↓psC, ↓psN, ↓wDIn, ↓wDNotIn, ↓askD, ↓fAdd, ↓fSub, ↓fII, ↓fII0, ↓fDiv, ↓fMod, ↓fPow, ↓fLt, ↓fGt, ↓fLe, ↓fGe, ↓fGtD, ↓fLtD, ↓fLeD, ↓fGeD, ↓fNeg, ↓fMul, ↓fEq, ↓fNe, ↓eqQ, ↓fIsN, ↓fNotN, isNone_1, isNone_2, isNone_3, isNone_4, isNone_5, isNone_6, isNone_7, ↓fInC, ↓fNotInC, ↓fSub_, ↓fIx, ↓fSl, ↓fLen, ↓fTuple, ↓fMin1, ↓fMax1, ↓fSum, ↓fAll, ↓fAny, ↓fSorted, ↓fSortS, ↓fAbs, ↓fInt, ↓fRepr, ↓fCnt, ↓fIdx, ↓fJoin, isStr,
 endsG, mem0, toEnt, Mem.set, Mem.view, Mem.kill, Mem.frz, Mem.ro, Ent.ro', Opd.get,
 List.set_cons_zero, List.set_cons_succ, List.getElem?_cons_zero, List.getElem?_cons_succ, List.map_cons, List.map_nil, List.length_cons, List.length_nil, List.cons_append, List.nil_append, List.replicate_succ, List.replicate_zero, Option.map_some, Option.map_none, List.cons.injEq, and_true, true_and, Arg.x.injEq, exists_eq_left, exists_eq_right, Option.some.injEq, Ent.ow.injEq, Ent.im.injEq, PyData.int.injEq, PyData.list.injEq, PyData.dict.injEq, PyData.tuple.injEq, PyData.str.injEq, exists_eq', exists_eq, decide_eq_true_eq, Bool.not_eq_true', ite_true, ite_false, decide_true, decide_false, decide_eq_false_iff_not, not_true_eq_false, not_false_eq_true, reduceCtorEq, eq_self]
    refine lpow_i (by omega) (by omega) (by omega) fun due hdue => ?_
    simp -dsimp only [↓uSeq, ↓uNext, ↓uKill, ↓uFrz, ↓uDrop, ↓uRet, ↓uIf, ↓uAsg, ↓uAsgO, ↓uPar2, ↓uPut, ↓uDPut, ↓uFor_eq, ↓uWhile_eq, ↓uSeqM_eq, ↓uBrk, ↓uCnt, ↓uWelD, ↓gSet, ↓gN, ↓gC, ↓gT, ↓zE, ↓zF, ↓oE, ↓oV, ↓wV, ↓wC, ↓wOp, ↓wUn, ↓app2, ↓app1, ↓wTst, ↓tAndD, ↓tOrD, ↓tNotD, ↓wAndV, ↓wOrV, ↓wNotV, ↓wIf, ↓wChain, ↓osN, ↓osC, getAll, ↓appN, ↓wCB, ↓appM, ↓wBM, ↓wBM0, ↓wN, ↓wCs, ↓wTup, ↓wLst, ↓wDic0, ↓wDicT, ↓aN, ↓aC, ↓aW, ↓wCall_eq, ↓wCallK_eq, perm, List.filterMap_cons, List.filterMap_nil, ↓wApp, ↓wExt, ↓wPop, ↓wPopAt, ↓wListA, ↓wRpl, ↓iX, ↓iL, ↓iT, ↓iS, ↓iR1, ↓iR2, ↓iScr, ↓iZD, ↓iE, ↓wComp_eq, ↓ttY, ↓wSl, ↓wPart, ↓plN, ↓wRev, ↓wListO, ↓wRep, ↓wLenSet, ↓wLenScr, ↓wWelI, ↓wWelPop, ↓wWelApp, ↓tWelNE, ↓wDisp, ↓psC, ↓psN, ↓wDIn, ↓wDNotIn, ↓askD, ↓fAdd, ↓fSub, ↓fII, ↓fII0, ↓fDiv, ↓fMod, ↓fPow, ↓fLt, ↓fGt, ↓fLe, ↓fGe, ↓fGtD, ↓fLtD, ↓fLeD, ↓fGeD, ↓fNeg, ↓fMul, ↓fEq, ↓fNe, ↓eqQ, ↓fIsN, ↓fNotN, isNone_1, isNone_2, isNone_3, isNone_4, isNone_5, isNone_6, isNone_7, ↓fInC, ↓fNotInC, ↓fSub_, ↓fIx, ↓fSl, ↓fLen, ↓fTuple, ↓fMin1, ↓fMax1, ↓fSum, ↓fAll, ↓fAny, ↓fSorted, ↓fSortS, ↓fAbs, ↓fInt, ↓fRepr, ↓fCnt, ↓fIdx, ↓fJoin, isStr,
 endsG, mem0, toEnt, Mem.set, Mem.view, Mem.kill, Mem.frz, Mem.ro, Ent.ro', Opd.get,
 List.set_cons_zero, List.set_cons_succ, List.getElem?_cons_zero, List.getElem?_cons_succ, List.map_cons, List.map_nil, List.length_cons, List.length_nil, List.cons_append, List.nil_append, List.replicate_succ, List.replicate_zero, Option.map_some, Option.map_none, List.cons.injEq, and_true, true_and, Arg.x.injEq, exists_eq_left, exists_eq_right, Option.some.injEq, Ent.ow.injEq, Ent.im.injEq, PyData.int.injEq, PyData.list.injEq, PyData.dict.injEq, PyData.tuple.injEq, PyData.str.injEq, exists_eq', exists_eq, decide_eq_true_eq, Bool.not_eq_true', ite_true, ite_false, decide_true, decide_false, decide_eq_false_iff_not, not_true_eq_false, not_false_eq_true, reduceCtorEq, eq_self]
    refine pow_i (by omega) (by omega) (by omega) fun t1 h1 => ?_
    simp -dsimp only [↓uSeq, ↓uNext, ↓uKill, ↓uFrz, ↓uDrop, ↓uRet, ↓uIf, ↓uAsg, ↓uAsgO, ↓uPar2, ↓uPut, ↓uDPut, ↓uFor_eq, ↓uWhile_eq, ↓uSeqM_eq, ↓uBrk, ↓uCnt, ↓uWelD, ↓gSet, ↓gN, ↓gC, ↓gT, ↓zE, ↓zF, ↓oE, ↓oV, ↓wV, ↓wC, ↓wOp, ↓wUn, ↓app2, ↓app1, ↓wTst, ↓tAndD, ↓tOrD, ↓tNotD, ↓wAndV, ↓wOrV, ↓wNotV, ↓wIf, ↓wChain, ↓osN, ↓osC, getAll, ↓appN, ↓wCB, ↓appM, ↓wBM, ↓wBM0, ↓wN, ↓wCs, ↓wTup, ↓wLst, ↓wDic0, ↓wDicT, ↓aN, ↓aC, ↓aW, ↓wCall_eq, ↓wCallK_eq, perm, List.filterMap_cons, List.filterMap_nil, ↓wApp, ↓wExt, ↓wPop, ↓wPopAt, ↓wListA, ↓wRpl, ↓iX, ↓iL, ↓iT, ↓iS, ↓iR1, ↓iR2, ↓iScr, ↓iZD, ↓iE, ↓wComp_eq, ↓ttY, ↓wSl, ↓wPart, ↓plN, ↓wRev, ↓wListO, ↓wRep, ↓wLenSet, ↓wLenScr, ↓wWelI, ↓wWelPop, ↓wWelApp, ↓tWelNE, ↓wDisp, ↓psC, ↓psN, ↓wDIn, ↓wDNotIn, ↓askD, ↓fAdd, ↓fSub, ↓fII, ↓fII0, ↓fDiv, ↓fMod, ↓fPow, ↓fLt, ↓fGt, ↓fLe, ↓fGe, ↓fGtD, ↓fLtD, ↓fLeD, ↓fGeD, ↓fNeg, ↓fMul, ↓fEq, ↓fNe, ↓eqQ, ↓fIsN, ↓fNotN, isNone_1, isNone_2, isNone_3, isNone_4, isNone_5, isNone_6, isNone_7, ↓fInC, ↓fNotInC, ↓fSub_, ↓fIx, ↓fSl, ↓fLen, ↓fTuple, ↓fMin1, ↓fMax1, ↓fSum, ↓fAll, ↓fAny, ↓fSorted, ↓fSortS, ↓fAbs, ↓fInt, ↓fRepr, ↓fCnt, ↓fIdx, ↓fJoin, isStr,
 endsG, mem0, toEnt, Mem.set, Mem.view, Mem.kill, Mem.frz, Mem.ro, Ent.ro', Opd.get,
 List.set_cons_zero, List.set_cons_succ, List.getElem?_cons_zero, List.getElem?_cons_succ, List.map_cons, List.map_nil, List.length_cons, List.length_nil, List.cons_append, List.nil_append, List.replicate_succ, List.replicate_zero, Option.map_some, Option.map_none, List.cons.injEq, and_true, true_and, Arg.x.injEq, exists_eq_left, exists_eq_right, Option.some.injEq, Ent.ow.injEq, Ent.im.injEq, PyData.int.injEq, PyData.list.injEq, PyData.dict.injEq, PyData.tuple.injEq, PyData.str.injEq, exists_eq', exists_eq, decide_eq_true_eq, Bool.not_eq_true', ite_true, ite_false, decide_true, decide_false, decide_eq_false_iff_not, not_true_eq_false, not_false_eq_true, reduceCtorEq, eq_self]
    refine pow_i (by omega) (by omega) (by omega) fun t2 h2 => ?_
    rw [h1.one hdue, h2.one hdue]
    have smd := pow_sm hdue (by omega) hl
    have sm2 : Sm 2 105 (.list [due, due]) := Sm.list (m := 2) (k := 49) (fun x hx => by simp at hx; subst hx; exact smd) (Nat.le_refl _)
    simp -dsimp only [↓uSeq, ↓uNext, ↓uKill, ↓uFrz, ↓uDrop, ↓uRet, ↓uIf, ↓uAsg, ↓uAsgO, ↓uPar2, ↓uPut, ↓uDPut, ↓uFor_eq, ↓uWhile_eq, ↓uSeqM_eq, ↓uBrk, ↓uCnt, ↓uWelD, ↓gSet, ↓gN, ↓gC, ↓gT, ↓zE, ↓zF, ↓oE, ↓oV, ↓wV, ↓wC, ↓wOp, ↓wUn, ↓app2, ↓app1, ↓wTst, ↓tAndD, ↓tOrD, ↓tNotD, ↓wAndV, ↓wOrV, ↓wNotV, ↓wIf, ↓wChain, ↓osN, ↓osC, getAll, ↓appN, ↓wCB, ↓appM, ↓wBM, ↓wBM0, ↓wN, ↓wCs, ↓wTup, ↓wLst, ↓wDic0, ↓wDicT, ↓aN, ↓aC, ↓aW, ↓wCall_eq, ↓wCallK_eq, perm, List.filterMap_cons, List.filterMap_nil, ↓wApp, ↓wExt, ↓wPop, ↓wPopAt, ↓wListA, ↓wRpl, ↓iX, ↓iL, ↓iT, ↓iS, ↓iR1, ↓iR2, ↓iScr, ↓iZD, ↓iE, ↓wComp_eq, ↓ttY, ↓wSl, ↓wPart, ↓plN, ↓wRev, ↓wListO, ↓wRep, ↓wLenSet, ↓wLenScr, ↓wWelI, ↓wWelPop, ↓wWelApp, ↓tWelNE, ↓wDisp, ↓psC, ↓psN, ↓wDIn, ↓wDNotIn, ↓askD, ↓fAdd, ↓fSub, ↓fII, ↓fII0, ↓fDiv, ↓fMod, ↓fPow, ↓fLt, ↓fGt, ↓fLe, ↓fGe, ↓fGtD, ↓fLtD, ↓fLeD, ↓fGeD, ↓fNeg, ↓fMul, ↓fEq, ↓fNe, ↓eqQ, ↓fIsN, ↓fNotN, isNone_1, isNone_2, isNone_3, isNone_4, isNone_5, isNone_6, isNone_7, ↓fInC, ↓fNotInC, ↓fSub_, ↓fIx, ↓fSl, ↓fLen, ↓fTuple, ↓fMin1, ↓fMax1, ↓fSum, ↓fAll, ↓fAny, ↓fSorted, ↓fSortS, ↓fAbs, ↓fInt, ↓fRepr, ↓fCnt, ↓fIdx, ↓fJoin, isStr,
 endsG, mem0, toEnt, Mem.set, Mem.view, Mem.kill, Mem.frz, Mem.ro, Ent.ro', Opd.get,
 List.set_cons_zero, List.set_cons_succ, List.getElem?_cons_zero, List.getElem?_cons_succ, List.map_cons, List.map_nil, List.length_cons, List.length_nil, List.cons_append, List.nil_append, List.replicate_succ, List.replicate_zero, Option.map_some, Option.map_none, List.cons.injEq, and_true, true_and, Arg.x.injEq, exists_eq_left, exists_eq_right, Option.some.injEq, Ent.ow.injEq, Ent.im.injEq, PyData.int.injEq, PyData.list.injEq, PyData.dict.injEq, PyData.tuple.injEq, PyData.str.injEq, exists_eq', exists_eq, decide_eq_true_eq, Bool.not_eq_true', ite_true, ite_false, decide_true, decide_false, decide_eq_false_iff_not, not_true_eq_false, not_false_eq_true, reduceCtorEq, eq_self]
    refine ⟨by decide, sm2.repr (by omega) (by omega), by decide, sm2.repr (by omega) (by omega), ?_⟩
    refine seq_i (fun M => ∃ e7 : Option Ent, M = ⟨[none, some .wel, some (.im (.int (t : Nat))), some (.im (sD l)), some (.im (.int (o : Nat))), some (.im due), some (.im (.list [due, due])), e7, none, none, none, none, none, none], some w3⟩) ?_ ?_
    · simp -dsimp only [↓uSeq, ↓uNext, ↓uKill, ↓uFrz, ↓uDrop, ↓uRet, ↓uIf, ↓uAsg, ↓uAsgO, ↓uPar2, ↓uPut, ↓uDPut, ↓uFor_eq, ↓uWhile_eq, ↓uSeqM_eq, ↓uBrk, ↓uCnt, ↓uWelD, ↓gSet, ↓gN, ↓gC, ↓gT, ↓zE, ↓zF, ↓oE, ↓oV, ↓wV, ↓wC, ↓wOp, ↓wUn, ↓app2, ↓app1, ↓wTst, ↓tAndD, ↓tOrD, ↓tNotD, ↓wAndV, ↓wOrV, ↓wNotV, ↓wIf, ↓wChain, ↓osN, ↓osC, getAll, ↓appN, ↓wCB, ↓appM, ↓wBM, ↓wBM0, ↓wN, ↓wCs, ↓wTup, ↓wLst, ↓wDic0, ↓wDicT, ↓aN, ↓aC, ↓aW, ↓wCall_eq, ↓wCallK_eq, perm, List.filterMap_cons, List.filterMap_nil, ↓wApp, ↓wExt, ↓wPop, ↓wPopAt, ↓wListA, ↓wRpl, ↓iX, ↓iL, ↓iT, ↓iS, ↓iR1, ↓iR2, ↓iScr, ↓iZD, ↓iE, ↓wComp_eq, ↓ttY, ↓wSl, ↓wPart, ↓plN, ↓wRev, ↓wListO, ↓wRep, ↓wLenSet, ↓wLenScr, ↓wWelI, ↓wWelPop, ↓wWelApp, ↓tWelNE, ↓wDisp, ↓psC, ↓psN, ↓wDIn, ↓wDNotIn, ↓askD, ↓fAdd, ↓fSub, ↓fII, ↓fII0, ↓fDiv, ↓fMod, ↓fPow, ↓fLt, ↓fGt, ↓fLe, ↓fGe, ↓fGtD, ↓fLtD, ↓fLeD, ↓fGeD, ↓fNeg, ↓fMul, ↓fEq, ↓fNe, ↓eqQ, ↓fIsN, ↓fNotN, isNone_1, isNone_2, isNone_3, isNone_4, isNone_5, isNone_6, isNone_7, ↓fInC, ↓fNotInC, ↓fSub_, ↓fIx, ↓fSl, ↓fLen, ↓fTuple, ↓fMin1, ↓fMax1, ↓fSum, ↓fAll, ↓fAny, ↓fSorted, ↓fSortS, ↓fAbs, ↓fInt, ↓fRepr, ↓fCnt, ↓fIdx, ↓fJoin, isStr,
 endsG, mem0, toEnt, Mem.set, Mem.view, Mem.kill, Mem.frz, Mem.ro, Ent.ro', Opd.get,
 List.set_cons_zero, List.set_cons_succ, List.getElem?_cons_zero, List.getElem?_cons_succ, List.map_cons, List.map_nil, List.length_cons, List.length_nil, List.cons_append, List.nil_append, List.replicate_succ, List.replicate_zero, Option.map_some, Option.map_none, List.cons.injEq, and_true, true_and, Arg.x.injEq, exists_eq_left, exists_eq_right, Option.some.injEq, Ent.ow.injEq, Ent.im.injEq, PyData.int.injEq, PyData.list.injEq, PyData.dict.injEq, PyData.tuple.injEq, PyData.str.injEq, exists_eq', exists_eq, decide_eq_true_eq, Bool.not_eq_true', ite_true, ite_false, decide_true, decide_false, decide_eq_false_iff_not, not_true_eq_false, not_false_eq_true, reduceCtorEq, eq_self]
      refine ite_i (fun hn => ite_i (fun ho => ?_) (fun _ => ⟨_, rfl⟩)) (fun _ => ⟨_, rfl⟩)
      rcases first_cases hdue with rfl | ⟨p, s, e⟩
      · simp [isNone] at hn
      · have eo : ((o : Int) - 1) = ((o - 1 : Nat) : Int) := by omega
        rw [eo]
        refine pow_i (by omega) (by omega) (by omega) fun less hless => ?_
        obtain ⟨p2, s2, rfl, hle⟩ := no_later hdue e hless (fun p s v => ⟨v.1, v.2.1, by have := v.2.2; have h5 : (o - 1) * s ≤ o * s := Nat.mul_le_mul_right s (by omega); omega⟩) (fun p s v h k h1 h2 => h k h1 (by omega))
        subst e
        simp -dsimp only [↓uSeq, ↓uNext, ↓uKill, ↓uFrz, ↓uDrop, ↓uRet, ↓uIf, ↓uAsg, ↓uAsgO, ↓uPar2, ↓uPut, ↓uDPut, ↓uFor_eq, ↓uWhile_eq, ↓uSeqM_eq, ↓uBrk, ↓uCnt, ↓uWelD, ↓gSet, ↓gN, ↓gC, ↓gT, ↓zE, ↓zF, ↓oE, ↓oV, ↓wV, ↓wC, ↓wOp, ↓wUn, ↓app2, ↓app1, ↓wTst, ↓tAndD, ↓tOrD, ↓tNotD, ↓wAndV, ↓wOrV, ↓wNotV, ↓wIf, ↓wChain, ↓osN, ↓osC, getAll, ↓appN, ↓wCB, ↓appM, ↓wBM, ↓wBM0, ↓wN, ↓wCs, ↓wTup, ↓wLst, ↓wDic0, ↓wDicT, ↓aN, ↓aC, ↓aW, ↓wCall_eq, ↓wCallK_eq, perm, List.filterMap_cons, List.filterMap_nil, ↓wApp, ↓wExt, ↓wPop, ↓wPopAt, ↓wListA, ↓wRpl, ↓iX, ↓iL, ↓iT, ↓iS, ↓iR1, ↓iR2, ↓iScr, ↓iZD, ↓iE, ↓wComp_eq, ↓ttY, ↓wSl, ↓wPart, ↓plN, ↓wRev, ↓wListO, ↓wRep, ↓wLenSet, ↓wLenScr, ↓wWelI, ↓wWelPop, ↓wWelApp, ↓tWelNE, ↓wDisp, ↓psC, ↓psN, ↓wDIn, ↓wDNotIn, ↓askD, ↓fAdd, ↓fSub, ↓fII, ↓fII0, ↓fDiv, ↓fMod, ↓fPow, ↓fLt, ↓fGt, ↓fLe, ↓fGe, ↓fGtD, ↓fLtD, ↓fLeD, ↓fGeD, ↓fNeg, ↓fMul, ↓fEq, ↓fNe, ↓eqQ, ↓fIsN, ↓fNotN, isNone_1, isNone_2, isNone_3, isNone_4, isNone_5, isNone_6, isNone_7, ↓fInC, ↓fNotInC, ↓fSub_, ↓fIx, ↓fSl, ↓fLen, ↓fTuple, ↓fMin1, ↓fMax1, ↓fSum, ↓fAll, ↓fAny, ↓fSorted, ↓fSortS, ↓fAbs, ↓fInt, ↓fRepr, ↓fCnt, ↓fIdx, ↓fJoin, isStr,
 endsG, mem0, toEnt, Mem.set, Mem.view, Mem.kill, Mem.frz, Mem.ro, Ent.ro', Opd.get,
 List.set_cons_zero, List.set_cons_succ, List.getElem?_cons_zero, List.getElem?_cons_succ, List.map_cons, List.map_nil, List.length_cons, List.length_nil, List.cons_append, List.nil_append, List.replicate_succ, List.replicate_zero, Option.map_some, Option.map_none, List.cons.injEq, and_true, true_and, Arg.x.injEq, exists_eq_left, exists_eq_right, Option.some.injEq, Ent.ow.injEq, Ent.im.injEq, PyData.int.injEq, PyData.list.injEq, PyData.dict.injEq, PyData.tuple.injEq, PyData.str.injEq, exists_eq', exists_eq, decide_eq_true_eq, Bool.not_eq_true', ite_true, ite_false, decide_true, decide_false, decide_eq_false_iff_not, not_true_eq_false, not_false_eq_true, reduceCtorEq, eq_self, lt_pair]
        exact ⟨alk_pair _ _ _ _, by rw [if_neg (by omega)]; exact ⟨_, rfl⟩⟩
    · rintro M' ⟨e7, rfl⟩
      have ne1 : S [97] ≠ S [101] := fun h => by have := S_inj h; simp at this
      have ne2 : S [100] ≠ S [97] := fun h => by have := S_inj h; simp at this
      have ne3 : S [101] ≠ S [100] := fun h => by have := S_inj h; simp at this
      simp -dsimp only [↓uSeq, ↓uNext, ↓uKill, ↓uFrz, ↓uDrop, ↓uRet, ↓uIf, ↓uAsg, ↓uAsgO, ↓uPar2, ↓uPut, ↓uDPut, ↓uFor_eq, ↓uWhile_eq, ↓uSeqM_eq, ↓uBrk, ↓uCnt, ↓uWelD, ↓gSet, ↓gN, ↓gC, ↓gT, ↓zE, ↓zF, ↓oE, ↓oV, ↓wV, ↓wC, ↓wOp, ↓wUn, ↓app2, ↓app1, ↓wTst, ↓tAndD, ↓tOrD, ↓tNotD, ↓wAndV, ↓wOrV, ↓wNotV, ↓wIf, ↓wChain, ↓osN, ↓osC, getAll, ↓appN, ↓wCB, ↓appM, ↓wBM, ↓wBM0, ↓wN, ↓wCs, ↓wTup, ↓wLst, ↓wDic0, ↓wDicT, ↓aN, ↓aC, ↓aW, ↓wCall_eq, ↓wCallK_eq, perm, List.filterMap_cons, List.filterMap_nil, ↓wApp, ↓wExt, ↓wPop, ↓wPopAt, ↓wListA, ↓wRpl, ↓iX, ↓iL, ↓iT, ↓iS, ↓iR1, ↓iR2, ↓iScr, ↓iZD, ↓iE, ↓wComp_eq, ↓ttY, ↓wSl, ↓wPart, ↓plN, ↓wRev, ↓wListO, ↓wRep, ↓wLenSet, ↓wLenScr, ↓wWelI, ↓wWelPop, ↓wWelApp, ↓tWelNE, ↓wDisp, ↓psC, ↓psN, ↓wDIn, ↓wDNotIn, ↓askD, ↓fAdd, ↓fSub, ↓fII, ↓fII0, ↓fDiv, ↓fMod, ↓fPow, ↓fLt, ↓fGt, ↓fLe, ↓fGe, ↓fGtD, ↓fLtD, ↓fLeD, ↓fGeD, ↓fNeg, ↓fMul, ↓fEq, ↓fNe, ↓eqQ, ↓fIsN, ↓fNotN, isNone_1, isNone_2, isNone_3, isNone_4, isNone_5, isNone_6, isNone_7, ↓fInC, ↓fNotInC, ↓fSub_, ↓fIx, ↓fSl, ↓fLen, ↓fTuple, ↓fMin1, ↓fMax1, ↓fSum, ↓fAll, ↓fAny, ↓fSorted, ↓fSortS, ↓fAbs, ↓fInt, ↓fRepr, ↓fCnt, ↓fIdx, ↓fJoin, isStr,
 endsG, mem0, toEnt, Mem.set, Mem.view, Mem.kill, Mem.frz, Mem.ro, Ent.ro', Opd.get,
 List.set_cons_zero, List.set_cons_succ, List.getElem?_cons_zero, List.getElem?_cons_succ, List.map_cons, List.map_nil, List.length_cons, List.length_nil, List.cons_append, List.nil_append, List.replicate_succ, List.replicate_zero, Option.map_some, Option.map_none, List.cons.injEq, and_true, true_and, Arg.x.injEq, exists_eq_left, exists_eq_right, Option.some.injEq, Ent.ow.injEq, Ent.im.injEq, PyData.int.injEq, PyData.list.injEq, PyData.dict.injEq, PyData.tuple.injEq, PyData.str.injEq, exists_eq', exists_eq, decide_eq_true_eq, Bool.not_eq_true', ite_true, ite_false, decide_true, decide_false, decide_eq_false_iff_not, not_true_eq_false, not_false_eq_true, reduceCtorEq, eq_self, k_a, k_e, k_d, repl_sign, S_cps, List.length_map]
      refine ⟨⟨ne1, by omega⟩, ⟨ne2, by omega⟩, ⟨ne3, by omega⟩, ?_⟩
      rw [sw_eq hlet]
      refine seq_i (fun M => ∃ e7 e8 : Option Ent, M = ⟨[none, some .wel, some (.im (.int (t : Nat))), some (.im (sD l)), some (.im (.int (o : Nat))), some (.im due), some (.im (.list [due, due])), e7, e8, none, none, none, none, none], some w3⟩) ?_ ?_
      · simp -dsimp only [↓uSeq, ↓uNext, ↓uKill, ↓uFrz, ↓uDrop, ↓uRet, ↓uIf, ↓uAsg, ↓uAsgO, ↓uPar2, ↓uPut, ↓uDPut, ↓uFor_eq, ↓uWhile_eq, ↓uSeqM_eq, ↓uBrk, ↓uCnt, ↓uWelD, ↓gSet, ↓gN, ↓gC, ↓gT, ↓zE, ↓zF, ↓oE, ↓oV, ↓wV, ↓wC, ↓wOp, ↓wUn, ↓app2, ↓app1, ↓wTst, ↓tAndD, ↓tOrD, ↓tNotD, ↓wAndV, ↓wOrV, ↓wNotV, ↓wIf, ↓wChain, ↓osN, ↓osC, getAll, ↓appN, ↓wCB, ↓appM, ↓wBM, ↓wBM0, ↓wN, ↓wCs, ↓wTup, ↓wLst, ↓wDic0, ↓wDicT, ↓aN, ↓aC, ↓aW, ↓wCall_eq, ↓wCallK_eq, perm, List.filterMap_cons, List.filterMap_nil, ↓wApp, ↓wExt, ↓wPop, ↓wPopAt, ↓wListA, ↓wRpl, ↓iX, ↓iL, ↓iT, ↓iS, ↓iR1, ↓iR2, ↓iScr, ↓iZD, ↓iE, ↓wComp_eq, ↓ttY, ↓wSl, ↓wPart, ↓plN, ↓wRev, ↓wListO, ↓wRep, ↓wLenSet, ↓wLenScr, ↓wWelI, ↓wWelPop, ↓wWelApp, ↓tWelNE, ↓wDisp, ↓psC, ↓psN, ↓wDIn, ↓wDNotIn, ↓askD, ↓fAdd, ↓fSub, ↓fII, ↓fII0, ↓fDiv, ↓fMod, ↓fPow, ↓fLt, ↓fGt, ↓fLe, ↓fGe, ↓fGtD, ↓fLtD, ↓fLeD, ↓fGeD, ↓fNeg, ↓fMul, ↓fEq, ↓fNe, ↓eqQ, ↓fIsN, ↓fNotN, isNone_1, isNone_2, isNone_3, isNone_4, isNone_5, isNone_6, isNone_7, ↓fInC, ↓fNotInC, ↓fSub_, ↓fIx, ↓fSl, ↓fLen, ↓fTuple, ↓fMin1, ↓fMax1, ↓fSum, ↓fAll, ↓fAny, ↓fSorted, ↓fSortS, ↓fAbs, ↓fInt, ↓fRepr, ↓fCnt, ↓fIdx, ↓fJoin, isStr,
 endsG, mem0, toEnt, Mem.set, Mem.view, Mem.kill, Mem.frz, Mem.ro, Ent.ro', Opd.get,
 List.set_cons_zero, List.set_cons_succ, List.getElem?_cons_zero, List.getElem?_cons_succ, List.map_cons, List.map_nil, List.length_cons, List.length_nil, List.cons_append, List.nil_append, List.replicate_succ, List.replicate_zero, Option.map_some, Option.map_none, List.cons.injEq, and_true, true_and, Arg.x.injEq, exists_eq_left, exists_eq_right, Option.some.injEq, Ent.ow.injEq, Ent.im.injEq, PyData.int.injEq, PyData.list.injEq, PyData.dict.injEq, PyData.tuple.injEq, PyData.str.injEq, exists_eq', exists_eq, decide_eq_true_eq, Bool.not_eq_true', ite_true, ite_false, decide_true, decide_false, decide_eq_false_iff_not, not_true_eq_false, not_false_eq_true, reduceCtorEq, eq_self]
        refine pow_i (by simp; omega) (by omega) (by omega) fun r hr => ?_
        have hr2 : IsFirst (Vl l o) (PLike l o) r := by
          have : Vl (l.map sw) o = Vl l o := by unfold Vl; rw [List.length_map]
          rw [this] at hr
          exact hr.iff fun p s _ => like_sw l o p s
        rw [hr2.one hdue]
        rcases first_cases hdue with rfl | ⟨p, s, rfl⟩
        · simp -dsimp only [↓uSeq, ↓uNext, ↓uKill, ↓uFrz, ↓uDrop, ↓uRet, ↓uIf, ↓uAsg, ↓uAsgO, ↓uPar2, ↓uPut, ↓uDPut, ↓uFor_eq, ↓uWhile_eq, ↓uSeqM_eq, ↓uBrk, ↓uCnt, ↓uWelD, ↓gSet, ↓gN, ↓gC, ↓gT, ↓zE, ↓zF, ↓oE, ↓oV, ↓wV, ↓wC, ↓wOp, ↓wUn, ↓app2, ↓app1, ↓wTst, ↓tAndD, ↓tOrD, ↓tNotD, ↓wAndV, ↓wOrV, ↓wNotV, ↓wIf, ↓wChain, ↓osN, ↓osC, getAll, ↓appN, ↓wCB, ↓appM, ↓wBM, ↓wBM0, ↓wN, ↓wCs, ↓wTup, ↓wLst, ↓wDic0, ↓wDicT, ↓aN, ↓aC, ↓aW, ↓wCall_eq, ↓wCallK_eq, perm, List.filterMap_cons, List.filterMap_nil, ↓wApp, ↓wExt, ↓wPop, ↓wPopAt, ↓wListA, ↓wRpl, ↓iX, ↓iL, ↓iT, ↓iS, ↓iR1, ↓iR2, ↓iScr, ↓iZD, ↓iE, ↓wComp_eq, ↓ttY, ↓wSl, ↓wPart, ↓plN, ↓wRev, ↓wListO, ↓wRep, ↓wLenSet, ↓wLenScr, ↓wWelI, ↓wWelPop, ↓wWelApp, ↓tWelNE, ↓wDisp, ↓psC, ↓psN, ↓wDIn, ↓wDNotIn, ↓askD, ↓fAdd, ↓fSub, ↓fII, ↓fII0, ↓fDiv, ↓fMod, ↓fPow, ↓fLt, ↓fGt, ↓fLe, ↓fGe, ↓fGtD, ↓fLtD, ↓fLeD, ↓fGeD, ↓fNeg, ↓fMul, ↓fEq, ↓fNe, ↓eqQ, ↓fIsN, ↓fNotN, isNone_1, isNone_2, isNone_3, isNone_4, isNone_5, isNone_6, isNone_7, ↓fInC, ↓fNotInC, ↓fSub_, ↓fIx, ↓fSl, ↓fLen, ↓fTuple, ↓fMin1, ↓fMax1, ↓fSum, ↓fAll, ↓fAny, ↓fSorted, ↓fSortS, ↓fAbs, ↓fInt, ↓fRepr, ↓fCnt, ↓fIdx, ↓fJoin, isStr,
 endsG, mem0, toEnt, Mem.set, Mem.view, Mem.kill, Mem.frz, Mem.ro, Ent.ro', Opd.get,
 List.set_cons_zero, List.set_cons_succ, List.getElem?_cons_zero, List.getElem?_cons_succ, List.map_cons, List.map_nil, List.length_cons, List.length_nil, List.cons_append, List.nil_append, List.replicate_succ, List.replicate_zero, Option.map_some, Option.map_none, List.cons.injEq, and_true, true_and, Arg.x.injEq, exists_eq_left, exists_eq_right, Option.some.injEq, Ent.ow.injEq, Ent.im.injEq, PyData.int.injEq, PyData.list.injEq, PyData.dict.injEq, PyData.tuple.injEq, PyData.str.injEq, exists_eq', exists_eq, decide_eq_true_eq, Bool.not_eq_true', ite_true, ite_false, decide_true, decide_false, decide_eq_false_iff_not, not_true_eq_false, not_false_eq_true, reduceCtorEq, eq_self]
          exact ⟨_, _, rfl⟩
        · have ee := eqv_tup [(p : Int), (s : Int)] [(p : Int), (s : Int)]
          simp only [List.map_cons, List.map_nil, decide_true] at ee
          simp -dsimp only [↓uSeq, ↓uNext, ↓uKill, ↓uFrz, ↓uDrop, ↓uRet, ↓uIf, ↓uAsg, ↓uAsgO, ↓uPar2, ↓uPut, ↓uDPut, ↓uFor_eq, ↓uWhile_eq, ↓uSeqM_eq, ↓uBrk, ↓uCnt, ↓uWelD, ↓gSet, ↓gN, ↓gC, ↓gT, ↓zE, ↓zF, ↓oE, ↓oV, ↓wV, ↓wC, ↓wOp, ↓wUn, ↓app2, ↓app1, ↓wTst, ↓tAndD, ↓tOrD, ↓tNotD, ↓wAndV, ↓wOrV, ↓wNotV, ↓wIf, ↓wChain, ↓osN, ↓osC, getAll, ↓appN, ↓wCB, ↓appM, ↓wBM, ↓wBM0, ↓wN, ↓wCs, ↓wTup, ↓wLst, ↓wDic0, ↓wDicT, ↓aN, ↓aC, ↓aW, ↓wCall_eq, ↓wCallK_eq, perm, List.filterMap_cons, List.filterMap_nil, ↓wApp, ↓wExt, ↓wPop, ↓wPopAt, ↓wListA, ↓wRpl, ↓iX, ↓iL, ↓iT, ↓iS, ↓iR1, ↓iR2, ↓iScr, ↓iZD, ↓iE, ↓wComp_eq, ↓ttY, ↓wSl, ↓wPart, ↓plN, ↓wRev, ↓wListO, ↓wRep, ↓wLenSet, ↓wLenScr, ↓wWelI, ↓wWelPop, ↓wWelApp, ↓tWelNE, ↓wDisp, ↓psC, ↓psN, ↓wDIn, ↓wDNotIn, ↓askD, ↓fAdd, ↓fSub, ↓fII, ↓fII0, ↓fDiv, ↓fMod, ↓fPow, ↓fLt, ↓fGt, ↓fLe, ↓fGe, ↓fGtD, ↓fLtD, ↓fLeD, ↓fGeD, ↓fNeg, ↓fMul, ↓fEq, ↓fNe, ↓eqQ, ↓fIsN, ↓fNotN, isNone_1, isNone_2, isNone_3, isNone_4, isNone_5, isNone_6, isNone_7, ↓fInC, ↓fNotInC, ↓fSub_, ↓fIx, ↓fSl, ↓fLen, ↓fTuple, ↓fMin1, ↓fMax1, ↓fSum, ↓fAll, ↓fAny, ↓fSorted, ↓fSortS, ↓fAbs, ↓fInt, ↓fRepr, ↓fCnt, ↓fIdx, ↓fJoin, isStr,
 endsG, mem0, toEnt, Mem.set, Mem.view, Mem.kill, Mem.frz, Mem.ro, Ent.ro', Opd.get,
 List.set_cons_zero, List.set_cons_succ, List.getElem?_cons_zero, List.getElem?_cons_succ, List.map_cons, List.map_nil, List.length_cons, List.length_nil, List.cons_append, List.nil_append, List.replicate_succ, List.replicate_zero, Option.map_some, Option.map_none, List.cons.injEq, and_true, true_and, Arg.x.injEq, exists_eq_left, exists_eq_right, Option.some.injEq, Ent.ow.injEq, Ent.im.injEq, PyData.int.injEq, PyData.list.injEq, PyData.dict.injEq, PyData.tuple.injEq, PyData.str.injEq, exists_eq', exists_eq, decide_eq_true_eq, Bool.not_eq_true', ite_true, ite_false, decide_true, decide_false, decide_eq_false_iff_not, not_true_eq_false, not_false_eq_true, reduceCtorEq, eq_self, ee]
          exact ⟨smd.eq smd (by omega) (by omega), _, _, rfl⟩
      · rintro M' ⟨e7, e8, rfl⟩
        simp -dsimp only [↓uSeq, ↓uNext, ↓uKill, ↓uFrz, ↓uDrop, ↓uRet, ↓uIf, ↓uAsg, ↓uAsgO, ↓uPar2, ↓uPut, ↓uDPut, ↓uFor_eq, ↓uWhile_eq, ↓uSeqM_eq, ↓uBrk, ↓uCnt, ↓uWelD, ↓gSet, ↓gN, ↓gC, ↓gT, ↓zE, ↓zF, ↓oE, ↓oV, ↓wV, ↓wC, ↓wOp, ↓wUn, ↓app2, ↓app1, ↓wTst, ↓tAndD, ↓tOrD, ↓tNotD, ↓wAndV, ↓wOrV, ↓wNotV, ↓wIf, ↓wChain, ↓osN, ↓osC, getAll, ↓appN, ↓wCB, ↓appM, ↓wBM, ↓wBM0, ↓wN, ↓wCs, ↓wTup, ↓wLst, ↓wDic0, ↓wDicT, ↓aN, ↓aC, ↓aW, ↓wCall_eq, ↓wCallK_eq, perm, List.filterMap_cons, List.filterMap_nil, ↓wApp, ↓wExt, ↓wPop, ↓wPopAt, ↓wListA, ↓wRpl, ↓iX, ↓iL, ↓iT, ↓iS, ↓iR1, ↓iR2, ↓iScr, ↓iZD, ↓iE, ↓wComp_eq, ↓ttY, ↓wSl, ↓wPart, ↓plN, ↓wRev, ↓wListO, ↓wRep, ↓wLenSet, ↓wLenScr, ↓wWelI, ↓wWelPop, ↓wWelApp, ↓tWelNE, ↓wDisp, ↓psC, ↓psN, ↓wDIn, ↓wDNotIn, ↓askD, ↓fAdd, ↓fSub, ↓fII, ↓fII0, ↓fDiv, ↓fMod, ↓fPow, ↓fLt, ↓fGt, ↓fLe, ↓fGe, ↓fGtD, ↓fLtD, ↓fLeD, ↓fGeD, ↓fNeg, ↓fMul, ↓fEq, ↓fNe, ↓eqQ, ↓fIsN, ↓fNotN, isNone_1, isNone_2, isNone_3, isNone_4, isNone_5, isNone_6, isNone_7, ↓fInC, ↓fNotInC, ↓fSub_, ↓fIx, ↓fSl, ↓fLen, ↓fTuple, ↓fMin1, ↓fMax1, ↓fSum, ↓fAll, ↓fAny, ↓fSorted, ↓fSortS, ↓fAbs, ↓fInt, ↓fRepr, ↓fCnt, ↓fIdx, ↓fJoin, isStr,
 endsG, mem0, toEnt, Mem.set, Mem.view, Mem.kill, Mem.frz, Mem.ro, Ent.ro', Opd.get,
 List.set_cons_zero, List.set_cons_succ, List.getElem?_cons_zero, List.getElem?_cons_succ, List.map_cons, List.map_nil, List.length_cons, List.length_nil, List.cons_append, List.nil_append, List.replicate_succ, List.replicate_zero, Option.map_some, Option.map_none, List.cons.injEq, and_true, true_and, Arg.x.injEq, exists_eq_left, exists_eq_right, Option.some.injEq, Ent.ow.injEq, Ent.im.injEq, PyData.int.injEq, PyData.list.injEq, PyData.dict.injEq, PyData.tuple.injEq, PyData.str.injEq, exists_eq', exists_eq, decide_eq_true_eq, Bool.not_eq_true', ite_true, ite_false, decide_true, decide_false, decide_eq_false_iff_not, not_true_eq_false, not_false_eq_true, reduceCtorEq, eq_self]
        refine ⟨⟨by decide, by decide⟩, ?_⟩
        refine for_i (fun i M => ∃ w : Wel, WelOk w ∧ ∃ e6 e7 e8 e9 e10 e11 e12 : Option Ent, M = ⟨[none, some .wel, some (.im (.int (t : Nat))), some (.im (sD l)), some (.im (.int (o : Nat))), some (.im due), e6, e7, e8, e9, e10, e11, e12, none], some w⟩) ⟨w3, ok3, _, _, _, _, _, _, _, rfl⟩ ?_ ?_
        · rintro k d M' hd ⟨w, ok, e6, e7, e8, e9, e10, e11, e12, rfl⟩
          obtain ⟨hk, rfl⟩ := rng_at hd
          simp -dsimp only [↓uSeq, ↓uNext, ↓uKill, ↓uFrz, ↓uDrop, ↓uRet, ↓uIf, ↓uAsg, ↓uAsgO, ↓uPar2, ↓uPut, ↓uDPut, ↓uFor_eq, ↓uWhile_eq, ↓uSeqM_eq, ↓uBrk, ↓uCnt, ↓uWelD, ↓gSet, ↓gN, ↓gC, ↓gT, ↓zE, ↓zF, ↓oE, ↓oV, ↓wV, ↓wC, ↓wOp, ↓wUn, ↓app2, ↓app1, ↓wTst, ↓tAndD, ↓tOrD, ↓tNotD, ↓wAndV, ↓wOrV, ↓wNotV, ↓wIf, ↓wChain, ↓osN, ↓osC, getAll, ↓appN, ↓wCB, ↓appM, ↓wBM, ↓wBM0, ↓wN, ↓wCs, ↓wTup, ↓wLst, ↓wDic0, ↓wDicT, ↓aN, ↓aC, ↓aW, ↓wCall_eq, ↓wCallK_eq, perm, List.filterMap_cons, List.filterMap_nil, ↓wApp, ↓wExt, ↓wPop, ↓wPopAt, ↓wListA, ↓wRpl, ↓iX, ↓iL, ↓iT, ↓iS, ↓iR1, ↓iR2, ↓iScr, ↓iZD, ↓iE, ↓wComp_eq, ↓ttY, ↓wSl, ↓wPart, ↓plN, ↓wRev, ↓wListO, ↓wRep, ↓wLenSet, ↓wLenScr, ↓wWelI, ↓wWelPop, ↓wWelApp, ↓tWelNE, ↓wDisp, ↓psC, ↓psN, ↓wDIn, ↓wDNotIn, ↓askD, ↓fAdd, ↓fSub, ↓fII, ↓fII0, ↓fDiv, ↓fMod, ↓fPow, ↓fLt, ↓fGt, ↓fLe, ↓fGe, ↓fGtD, ↓fLtD, ↓fLeD, ↓fGeD, ↓fNeg, ↓fMul, ↓fEq, ↓fNe, ↓eqQ, ↓fIsN, ↓fNotN, isNone_1, isNone_2, isNone_3, isNone_4, isNone_5, isNone_6, isNone_7, ↓fInC, ↓fNotInC, ↓fSub_, ↓fIx, ↓fSl, ↓fLen, ↓fTuple, ↓fMin1, ↓fMax1, ↓fSum, ↓fAll, ↓fAny, ↓fSorted, ↓fSortS, ↓fAbs, ↓fInt, ↓fRepr, ↓fCnt, ↓fIdx, ↓fJoin, isStr,
 endsG, mem0, toEnt, Mem.set, Mem.view, Mem.kill, Mem.frz, Mem.ro, Ent.ro', Opd.get,
 List.set_cons_zero, List.set_cons_succ, List.getElem?_cons_zero, List.getElem?_cons_succ, List.map_cons, List.map_nil, List.length_cons, List.length_nil, List.cons_append, List.nil_append, List.replicate_succ, List.replicate_zero, Option.map_some, Option.map_none, List.cons.injEq, and_true, true_and, Arg.x.injEq, exists_eq_left, exists_eq_right, Option.some.injEq, Ent.ow.injEq, Ent.im.injEq, PyData.int.injEq, PyData.list.injEq, PyData.dict.injEq, PyData.tuple.injEq, PyData.str.injEq, exists_eq', exists_eq, decide_eq_true_eq, Bool.not_eq_true', ite_true, ite_false, decide_true, decide_false, decide_eq_false_iff_not, not_true_eq_false, not_false_eq_true, reduceCtorEq, eq_self]
          refine ⟨by decide, take_j ok (by decide) (by decide) fun x w2 hx ok2 => ?_⟩
          obtain ⟨m, rfl, m0, m1⟩ : ∃ m : Int, x = .int m ∧ 0 ≤ m ∧ m ≤ 100 := by
            simp only [List.mem_cons, List.not_mem_nil, or_false] at hx
            rcases hx with rfl | rfl | rfl
            · exact ⟨2, rfl, by decide, by decide⟩
            · exact ⟨4, rfl, by decide, by decide⟩
            · exact ⟨100, rfl, by decide, by decide⟩
          simp -dsimp only [↓uSeq, ↓uNext, ↓uKill, ↓uFrz, ↓uDrop, ↓uRet, ↓uIf, ↓uAsg, ↓uAsgO, ↓uPar2, ↓uPut, ↓uDPut, ↓uFor_eq, ↓uWhile_eq, ↓uSeqM_eq, ↓uBrk, ↓uCnt, ↓uWelD, ↓gSet, ↓gN, ↓gC, ↓gT, ↓zE, ↓zF, ↓oE, ↓oV, ↓wV, ↓wC, ↓wOp, ↓wUn, ↓app2, ↓app1, ↓wTst, ↓tAndD, ↓tOrD, ↓tNotD, ↓wAndV, ↓wOrV, ↓wNotV, ↓wIf, ↓wChain, ↓osN, ↓osC, getAll, ↓appN, ↓wCB, ↓appM, ↓wBM, ↓wBM0, ↓wN, ↓wCs, ↓wTup, ↓wLst, ↓wDic0, ↓wDicT, ↓aN, ↓aC, ↓aW, ↓wCall_eq, ↓wCallK_eq, perm, List.filterMap_cons, List.filterMap_nil, ↓wApp, ↓wExt, ↓wPop, ↓wPopAt, ↓wListA, ↓wRpl, ↓iX, ↓iL, ↓iT, ↓iS, ↓iR1, ↓iR2, ↓iScr, ↓iZD, ↓iE, ↓wComp_eq, ↓ttY, ↓wSl, ↓wPart, ↓plN, ↓wRev, ↓wListO, ↓wRep, ↓wLenSet, ↓wLenScr, ↓wWelI, ↓wWelPop, ↓wWelApp, ↓tWelNE, ↓wDisp, ↓psC, ↓psN, ↓wDIn, ↓wDNotIn, ↓askD, ↓fAdd, ↓fSub, ↓fII, ↓fII0, ↓fDiv, ↓fMod, ↓fPow, ↓fLt, ↓fGt, ↓fLe, ↓fGe, ↓fGtD, ↓fLtD, ↓fLeD, ↓fGeD, ↓fNeg, ↓fMul, ↓fEq, ↓fNe, ↓eqQ, ↓fIsN, ↓fNotN, isNone_1, isNone_2, isNone_3, isNone_4, isNone_5, isNone_6, isNone_7, ↓fInC, ↓fNotInC, ↓fSub_, ↓fIx, ↓fSl, ↓fLen, ↓fTuple, ↓fMin1, ↓fMax1, ↓fSum, ↓fAll, ↓fAny, ↓fSorted, ↓fSortS, ↓fAbs, ↓fInt, ↓fRepr, ↓fCnt, ↓fIdx, ↓fJoin, isStr,
 endsG, mem0, toEnt, Mem.set, Mem.view, Mem.kill, Mem.frz, Mem.ro, Ent.ro', Opd.get,
 List.set_cons_zero, List.set_cons_succ, List.getElem?_cons_zero, List.getElem?_cons_succ, List.map_cons, List.map_nil, List.length_cons, List.length_nil, List.cons_append, List.nil_append, List.replicate_succ, List.replicate_zero, Option.map_some, Option.map_none, List.cons.injEq, and_true, true_and, Arg.x.injEq, exists_eq_left, exists_eq_right, Option.some.injEq, Ent.ow.injEq, Ent.im.injEq, PyData.int.injEq, PyData.list.injEq, PyData.dict.injEq, PyData.tuple.injEq, PyData.str.injEq, exists_eq', exists_eq, decide_eq_true_eq, Bool.not_eq_true', ite_true, ite_false, decide_true, decide_false, decide_eq_false_iff_not, not_true_eq_false, not_false_eq_true, reduceCtorEq, eq_self, k_abcd, S_cps]
          refine ⟨by decide, comp_i (fun i ys wl => ∃ (ns : List Int) (w : Wel), ys = ns.map .int ∧ ns.length = i ∧ wl = some w ∧ WelOk w) ⟨[], w2, rfl, rfl, rfl, ok2⟩ ?_ ?_⟩
          · rintro i d ys wl hd2 ⟨ns, w4, rfl, rfl, rfl, ok4⟩
            simp -dsimp only [↓uSeq, ↓uNext, ↓uKill, ↓uFrz, ↓uDrop, ↓uRet, ↓uIf, ↓uAsg, ↓uAsgO, ↓uPar2, ↓uPut, ↓uDPut, ↓uFor_eq, ↓uWhile_eq, ↓uSeqM_eq, ↓uBrk, ↓uCnt, ↓uWelD, ↓gSet, ↓gN, ↓gC, ↓gT, ↓zE, ↓zF, ↓oE, ↓oV, ↓wV, ↓wC, ↓wOp, ↓wUn, ↓app2, ↓app1, ↓wTst, ↓tAndD, ↓tOrD, ↓tNotD, ↓wAndV, ↓wOrV, ↓wNotV, ↓wIf, ↓wChain, ↓osN, ↓osC, getAll, ↓appN, ↓wCB, ↓appM, ↓wBM, ↓wBM0, ↓wN, ↓wCs, ↓wTup, ↓wLst, ↓wDic0, ↓wDicT, ↓aN, ↓aC, ↓aW, ↓wCall_eq, ↓wCallK_eq, perm, List.filterMap_cons, List.filterMap_nil, ↓wApp, ↓wExt, ↓wPop, ↓wPopAt, ↓wListA, ↓wRpl, ↓iX, ↓iL, ↓iT, ↓iS, ↓iR1, ↓iR2, ↓iScr, ↓iZD, ↓iE, ↓wComp_eq, ↓ttY, ↓wSl, ↓wPart, ↓plN, ↓wRev, ↓wListO, ↓wRep, ↓wLenSet, ↓wLenScr, ↓wWelI, ↓wWelPop, ↓wWelApp, ↓tWelNE, ↓wDisp, ↓psC, ↓psN, ↓wDIn, ↓wDNotIn, ↓askD, ↓fAdd, ↓fSub, ↓fII, ↓fII0, ↓fDiv, ↓fMod, ↓fPow, ↓fLt, ↓fGt, ↓fLe, ↓fGe, ↓fGtD, ↓fLtD, ↓fLeD, ↓fGeD, ↓fNeg, ↓fMul, ↓fEq, ↓fNe, ↓eqQ, ↓fIsN, ↓fNotN, isNone_1, isNone_2, isNone_3, isNone_4, isNone_5, isNone_6, isNone_7, ↓fInC, ↓fNotInC, ↓fSub_, ↓fIx, ↓fSl, ↓fLen, ↓fTuple, ↓fMin1, ↓fMax1, ↓fSum, ↓fAll, ↓fAny, ↓fSorted, ↓fSortS, ↓fAbs, ↓fInt, ↓fRepr, ↓fCnt, ↓fIdx, ↓fJoin, isStr,
 endsG, mem0, toEnt, Mem.set, Mem.view, Mem.kill, Mem.frz, Mem.ro, Ent.ro', Opd.get,
 List.set_cons_zero, List.set_cons_succ, List.getElem?_cons_zero, List.getElem?_cons_succ, List.map_cons, List.map_nil, List.length_cons, List.length_nil, List.cons_append, List.nil_append, List.replicate_succ, List.replicate_zero, Option.map_some, Option.map_none, List.cons.injEq, and_true, true_and, Arg.x.injEq, exists_eq_left, exists_eq_right, Option.some.injEq, Ent.ow.injEq, Ent.im.injEq, PyData.int.injEq, PyData.list.injEq, PyData.dict.injEq, PyData.tuple.injEq, PyData.str.injEq, exists_eq', exists_eq, decide_eq_true_eq, Bool.not_eq_true', ite_true, ite_false, decide_true, decide_false, decide_eq_false_iff_not, not_true_eq_false, not_false_eq_true, reduceCtorEq, eq_self]
            refine ⟨.inl ⟨by decide, by decide⟩, dip_i ok4 (by omega) fun r w5 r1 r2 ok5 => ?_⟩
            simp -dsimp only [↓uSeq, ↓uNext, ↓uKill, ↓uFrz, ↓uDrop, ↓uRet, ↓uIf, ↓uAsg, ↓uAsgO, ↓uPar2, ↓uPut, ↓uDPut, ↓uFor_eq, ↓uWhile_eq, ↓uSeqM_eq, ↓uBrk, ↓uCnt, ↓uWelD, ↓gSet, ↓gN, ↓gC, ↓gT, ↓zE, ↓zF, ↓oE, ↓oV, ↓wV, ↓wC, ↓wOp, ↓wUn, ↓app2, ↓app1, ↓wTst, ↓tAndD, ↓tOrD, ↓tNotD, ↓wAndV, ↓wOrV, ↓wNotV, ↓wIf, ↓wChain, ↓osN, ↓osC, getAll, ↓appN, ↓wCB, ↓appM, ↓wBM, ↓wBM0, ↓wN, ↓wCs, ↓wTup, ↓wLst, ↓wDic0, ↓wDicT, ↓aN, ↓aC, ↓aW, ↓wCall_eq, ↓wCallK_eq, perm, List.filterMap_cons, List.filterMap_nil, ↓wApp, ↓wExt, ↓wPop, ↓wPopAt, ↓wListA, ↓wRpl, ↓iX, ↓iL, ↓iT, ↓iS, ↓iR1, ↓iR2, ↓iScr, ↓iZD, ↓iE, ↓wComp_eq, ↓ttY, ↓wSl, ↓wPart, ↓plN, ↓wRev, ↓wListO, ↓wRep, ↓wLenSet, ↓wLenScr, ↓wWelI, ↓wWelPop, ↓wWelApp, ↓tWelNE, ↓wDisp, ↓psC, ↓psN, ↓wDIn, ↓wDNotIn, ↓askD, ↓fAdd, ↓fSub, ↓fII, ↓fII0, ↓fDiv, ↓fMod, ↓fPow, ↓fLt, ↓fGt, ↓fLe, ↓fGe, ↓fGtD, ↓fLtD, ↓fLeD, ↓fGeD, ↓fNeg, ↓fMul, ↓fEq, ↓fNe, ↓eqQ, ↓fIsN, ↓fNotN, isNone_1, isNone_2, isNone_3, isNone_4, isNone_5, isNone_6, isNone_7, ↓fInC, ↓fNotInC, ↓fSub_, ↓fIx, ↓fSl, ↓fLen, ↓fTuple, ↓fMin1, ↓fMax1, ↓fSum, ↓fAll, ↓fAny, ↓fSorted, ↓fSortS, ↓fAbs, ↓fInt, ↓fRepr, ↓fCnt, ↓fIdx, ↓fJoin, isStr,
 endsG, mem0, toEnt, Mem.set, Mem.view, Mem.kill, Mem.frz, Mem.ro, Ent.ro', Opd.get,
 List.set_cons_zero, List.set_cons_succ, List.getElem?_cons_zero, List.getElem?_cons_succ, List.map_cons, List.map_nil, List.length_cons, List.length_nil, List.cons_append, List.nil_append, List.replicate_succ, List.replicate_zero, Option.map_some, Option.map_none, List.cons.injEq, and_true, true_and, Arg.x.injEq, exists_eq_left, exists_eq_right, Option.some.injEq, Ent.ow.injEq, Ent.im.injEq, PyData.int.injEq, PyData.list.injEq, PyData.dict.injEq, PyData.tuple.injEq, PyData.str.injEq, exists_eq', exists_eq, decide_eq_true_eq, Bool.not_eq_true', ite_true, ite_false, decide_true, decide_false, decide_eq_false_iff_not, not_true_eq_false, not_false_eq_true, reduceCtorEq, eq_self]
            exact ⟨ns ++ [r - m], w5, by rw [List.map_append]; rfl, by simp, rfl, ok5⟩
          · rintro ys wl ⟨ws, w4, rfl, hlen, rfl, ok4⟩
            have hlen : ws.length = 4 := hlen
            simp -dsimp only [↓uSeq, ↓uNext, ↓uKill, ↓uFrz, ↓uDrop, ↓uRet, ↓uIf, ↓uAsg, ↓uAsgO, ↓uPar2, ↓uPut, ↓uDPut, ↓uFor_eq, ↓uWhile_eq, ↓uSeqM_eq, ↓uBrk, ↓uCnt, ↓uWelD, ↓gSet, ↓gN, ↓gC, ↓gT, ↓zE, ↓zF, ↓oE, ↓oV, ↓wV, ↓wC, ↓wOp, ↓wUn, ↓app2, ↓app1, ↓wTst, ↓tAndD, ↓tOrD, ↓tNotD, ↓wAndV, ↓wOrV, ↓wNotV, ↓wIf, ↓wChain, ↓osN, ↓osC, getAll, ↓appN, ↓wCB, ↓appM, ↓wBM, ↓wBM0, ↓wN, ↓wCs, ↓wTup, ↓wLst, ↓wDic0, ↓wDicT, ↓aN, ↓aC, ↓aW, ↓wCall_eq, ↓wCallK_eq, perm, List.filterMap_cons, List.filterMap_nil, ↓wApp, ↓wExt, ↓wPop, ↓wPopAt, ↓wListA, ↓wRpl, ↓iX, ↓iL, ↓iT, ↓iS, ↓iR1, ↓iR2, ↓iScr, ↓iZD, ↓iE, ↓wComp_eq, ↓ttY, ↓wSl, ↓wPart, ↓plN, ↓wRev, ↓wListO, ↓wRep, ↓wLenSet, ↓wLenScr, ↓wWelI, ↓wWelPop, ↓wWelApp, ↓tWelNE, ↓wDisp, ↓psC, ↓psN, ↓wDIn, ↓wDNotIn, ↓askD, ↓fAdd, ↓fSub, ↓fII, ↓fII0, ↓fDiv, ↓fMod, ↓fPow, ↓fLt, ↓fGt, ↓fLe, ↓fGe, ↓fGtD, ↓fLtD, ↓fLeD, ↓fGeD, ↓fNeg, ↓fMul, ↓fEq, ↓fNe, ↓eqQ, ↓fIsN, ↓fNotN, isNone_1, isNone_2, isNone_3, isNone_4, isNone_5, isNone_6, isNone_7, ↓fInC, ↓fNotInC, ↓fSub_, ↓fIx, ↓fSl, ↓fLen, ↓fTuple, ↓fMin1, ↓fMax1, ↓fSum, ↓fAll, ↓fAny, ↓fSorted, ↓fSortS, ↓fAbs, ↓fInt, ↓fRepr, ↓fCnt, ↓fIdx, ↓fJoin, isStr,
 endsG, mem0, toEnt, Mem.set, Mem.view, Mem.kill, Mem.frz, Mem.ro, Ent.ro', Opd.get,
 List.set_cons_zero, List.set_cons_succ, List.getElem?_cons_zero, List.getElem?_cons_succ, List.map_cons, List.map_nil, List.length_cons, List.length_nil, List.cons_append, List.nil_append, List.replicate_succ, List.replicate_zero, Option.map_some, Option.map_none, List.cons.injEq, and_true, true_and, Arg.x.injEq, exists_eq_left, exists_eq_right, Option.some.injEq, Ent.ow.injEq, Ent.im.injEq, PyData.int.injEq, PyData.list.injEq, PyData.dict.injEq, PyData.tuple.injEq, PyData.str.injEq, exists_eq', exists_eq, decide_eq_true_eq, Bool.not_eq_true', ite_true, ite_false, decide_true, decide_false, decide_eq_false_iff_not, not_true_eq_false, not_false_eq_true, reduceCtorEq, eq_self]
            refine lsum_i hlen hlet (by omega) (by omega) (by omega) fun own hown => ?_
            simp -dsimp only [↓uSeq, ↓uNext, ↓uKill, ↓uFrz, ↓uDrop, ↓uRet, ↓uIf, ↓uAsg, ↓uAsgO, ↓uPar2, ↓uPut, ↓uDPut, ↓uFor_eq, ↓uWhile_eq, ↓uSeqM_eq, ↓uBrk, ↓uCnt, ↓uWelD, ↓gSet, ↓gN, ↓gC, ↓gT, ↓zE, ↓zF, ↓oE, ↓oV, ↓wV, ↓wC, ↓wOp, ↓wUn, ↓app2, ↓app1, ↓wTst, ↓tAndD, ↓tOrD, ↓tNotD, ↓wAndV, ↓wOrV, ↓wNotV, ↓wIf, ↓wChain, ↓osN, ↓osC, getAll, ↓appN, ↓wCB, ↓appM, ↓wBM, ↓wBM0, ↓wN, ↓wCs, ↓wTup, ↓wLst, ↓wDic0, ↓wDicT, ↓aN, ↓aC, ↓aW, ↓wCall_eq, ↓wCallK_eq, perm, List.filterMap_cons, List.filterMap_nil, ↓wApp, ↓wExt, ↓wPop, ↓wPopAt, ↓wListA, ↓wRpl, ↓iX, ↓iL, ↓iT, ↓iS, ↓iR1, ↓iR2, ↓iScr, ↓iZD, ↓iE, ↓wComp_eq, ↓ttY, ↓wSl, ↓wPart, ↓plN, ↓wRev, ↓wListO, ↓wRep, ↓wLenSet, ↓wLenScr, ↓wWelI, ↓wWelPop, ↓wWelApp, ↓tWelNE, ↓wDisp, ↓psC, ↓psN, ↓wDIn, ↓wDNotIn, ↓askD, ↓fAdd, ↓fSub, ↓fII, ↓fII0, ↓fDiv, ↓fMod, ↓fPow, ↓fLt, ↓fGt, ↓fLe, ↓fGe, ↓fGtD, ↓fLtD, ↓fLeD, ↓fGeD, ↓fNeg, ↓fMul, ↓fEq, ↓fNe, ↓eqQ, ↓fIsN, ↓fNotN, isNone_1, isNone_2, isNone_3, isNone_4, isNone_5, isNone_6, isNone_7, ↓fInC, ↓fNotInC, ↓fSub_, ↓fIx, ↓fSl, ↓fLen, ↓fTuple, ↓fMin1, ↓fMax1, ↓fSum, ↓fAll, ↓fAny, ↓fSorted, ↓fSortS, ↓fAbs, ↓fInt, ↓fRepr, ↓fCnt, ↓fIdx, ↓fJoin, isStr,
 endsG, mem0, toEnt, Mem.set, Mem.view, Mem.kill, Mem.frz, Mem.ro, Ent.ro', Opd.get,
 List.set_cons_zero, List.set_cons_succ, List.getElem?_cons_zero, List.getElem?_cons_succ, List.map_cons, List.map_nil, List.length_cons, List.length_nil, List.cons_append, List.nil_append, List.replicate_succ, List.replicate_zero, Option.map_some, Option.map_none, List.cons.injEq, and_true, true_and, Arg.x.injEq, exists_eq_left, exists_eq_right, Option.some.injEq, Ent.ow.injEq, Ent.im.injEq, PyData.int.injEq, PyData.list.injEq, PyData.dict.injEq, PyData.tuple.injEq, PyData.str.injEq, exists_eq', exists_eq, decide_eq_true_eq, Bool.not_eq_true', ite_true, ite_false, decide_true, decide_false, decide_eq_false_iff_not, not_true_eq_false, not_false_eq_true, reduceCtorEq, eq_self]
            refine sump_i hlen hlet (by omega) (by omega) (by omega) fun told htold => ?_
            rw [htold.one hown]
            have smo : Sm 1 49 own := hown.sm (by omega) (by omega)
            simp -dsimp only [↓uSeq, ↓uNext, ↓uKill, ↓uFrz, ↓uDrop, ↓uRet, ↓uIf, ↓uAsg, ↓uAsgO, ↓uPar2, ↓uPut, ↓uDPut, ↓uFor_eq, ↓uWhile_eq, ↓uSeqM_eq, ↓uBrk, ↓uCnt, ↓uWelD, ↓gSet, ↓gN, ↓gC, ↓gT, ↓zE, ↓zF, ↓oE, ↓oV, ↓wV, ↓wC, ↓wOp, ↓wUn, ↓app2, ↓app1, ↓wTst, ↓tAndD, ↓tOrD, ↓tNotD, ↓wAndV, ↓wOrV, ↓wNotV, ↓wIf, ↓wChain, ↓osN, ↓osC, getAll, ↓appN, ↓wCB, ↓appM, ↓wBM, ↓wBM0, ↓wN, ↓wCs, ↓wTup, ↓wLst, ↓wDic0, ↓wDicT, ↓aN, ↓aC, ↓aW, ↓wCall_eq, ↓wCallK_eq, perm, List.filterMap_cons, List.filterMap_nil, ↓wApp, ↓wExt, ↓wPop, ↓wPopAt, ↓wListA, ↓wRpl, ↓iX, ↓iL, ↓iT, ↓iS, ↓iR1, ↓iR2, ↓iScr, ↓iZD, ↓iE, ↓wComp_eq, ↓ttY, ↓wSl, ↓wPart, ↓plN, ↓wRev, ↓wListO, ↓wRep, ↓wLenSet, ↓wLenScr, ↓wWelI, ↓wWelPop, ↓wWelApp, ↓tWelNE, ↓wDisp, ↓psC, ↓psN, ↓wDIn, ↓wDNotIn, ↓askD, ↓fAdd, ↓fSub, ↓fII, ↓fII0, ↓fDiv, ↓fMod, ↓fPow, ↓fLt, ↓fGt, ↓fLe, ↓fGe, ↓fGtD, ↓fLtD, ↓fLeD, ↓fGeD, ↓fNeg, ↓fMul, ↓fEq, ↓fNe, ↓eqQ, ↓fIsN, ↓fNotN, isNone_1, isNone_2, isNone_3, isNone_4, isNone_5, isNone_6, isNone_7, ↓fInC, ↓fNotInC, ↓fSub_, ↓fIx, ↓fSl, ↓fLen, ↓fTuple, ↓fMin1, ↓fMax1, ↓fSum, ↓fAll, ↓fAny, ↓fSorted, ↓fSortS, ↓fAbs, ↓fInt, ↓fRepr, ↓fCnt, ↓fIdx, ↓fJoin, isStr,
 endsG, mem0, toEnt, Mem.set, Mem.view, Mem.kill, Mem.frz, Mem.ro, Ent.ro', Opd.get,
 List.set_cons_zero, List.set_cons_succ, List.getElem?_cons_zero, List.getElem?_cons_succ, List.map_cons, List.map_nil, List.length_cons, List.length_nil, List.cons_append, List.nil_append, List.replicate_succ, List.replicate_zero, Option.map_some, Option.map_none, List.cons.injEq, and_true, true_and, Arg.x.injEq, exists_eq_left, exists_eq_right, Option.some.injEq, Ent.ow.injEq, Ent.im.injEq, PyData.int.injEq, PyData.list.injEq, PyData.dict.injEq, PyData.tuple.injEq, PyData.str.injEq, exists_eq', exists_eq, decide_eq_true_eq, Bool.not_eq_true', ite_true, ite_false, decide_true, decide_false, decide_eq_false_iff_not, not_true_eq_false, not_false_eq_true, reduceCtorEq, eq_self]
            refine seq_i (fun M => M = ⟨[none, some .wel, some (.im (.int (t : Nat))), some (.im (sD l)), some (.im (.int (o : Nat))), some (.im due), some (.im own), e7, e8, some (.im (.int (k : Nat))), some (.im (.int m)), some (.im (.tuple (ws.map .int))), some (.im own), none], some w4⟩) ?_ ?_
            · simp -dsimp only [↓uSeq, ↓uNext, ↓uKill, ↓uFrz, ↓uDrop, ↓uRet, ↓uIf, ↓uAsg, ↓uAsgO, ↓uPar2, ↓uPut, ↓uDPut, ↓uFor_eq, ↓uWhile_eq, ↓uSeqM_eq, ↓uBrk, ↓uCnt, ↓uWelD, ↓gSet, ↓gN, ↓gC, ↓gT, ↓zE, ↓zF, ↓oE, ↓oV, ↓wV, ↓wC, ↓wOp, ↓wUn, ↓app2, ↓app1, ↓wTst, ↓tAndD, ↓tOrD, ↓tNotD, ↓wAndV, ↓wOrV, ↓wNotV, ↓wIf, ↓wChain, ↓osN, ↓osC, getAll, ↓appN, ↓wCB, ↓appM, ↓wBM, ↓wBM0, ↓wN, ↓wCs, ↓wTup, ↓wLst, ↓wDic0, ↓wDicT, ↓aN, ↓aC, ↓aW, ↓wCall_eq, ↓wCallK_eq, perm, List.filterMap_cons, List.filterMap_nil, ↓wApp, ↓wExt, ↓wPop, ↓wPopAt, ↓wListA, ↓wRpl, ↓iX, ↓iL, ↓iT, ↓iS, ↓iR1, ↓iR2, ↓iScr, ↓iZD, ↓iE, ↓wComp_eq, ↓ttY, ↓wSl, ↓wPart, ↓plN, ↓wRev, ↓wListO, ↓wRep, ↓wLenSet, ↓wLenScr, ↓wWelI, ↓wWelPop, ↓wWelApp, ↓tWelNE, ↓wDisp, ↓psC, ↓psN, ↓wDIn, ↓wDNotIn, ↓askD, ↓fAdd, ↓fSub, ↓fII, ↓fII0, ↓fDiv, ↓fMod, ↓fPow, ↓fLt, ↓fGt, ↓fLe, ↓fGe, ↓fGtD, ↓fLtD, ↓fLeD, ↓fGeD, ↓fNeg, ↓fMul, ↓fEq, ↓fNe, ↓eqQ, ↓fIsN, ↓fNotN, isNone_1, isNone_2, isNone_3, isNone_4, isNone_5, isNone_6, isNone_7, ↓fInC, ↓fNotInC, ↓fSub_, ↓fIx, ↓fSl, ↓fLen, ↓fTuple, ↓fMin1, ↓fMax1, ↓fSum, ↓fAll, ↓fAny, ↓fSorted, ↓fSortS, ↓fAbs, ↓fInt, ↓fRepr, ↓fCnt, ↓fIdx, ↓fJoin, isStr,
 endsG, mem0, toEnt, Mem.set, Mem.view, Mem.kill, Mem.frz, Mem.ro, Ent.ro', Opd.get,
 List.set_cons_zero, List.set_cons_succ, List.getElem?_cons_zero, List.getElem?_cons_succ, List.map_cons, List.map_nil, List.length_cons, List.length_nil, List.cons_append, List.nil_append, List.replicate_succ, List.replicate_zero, Option.map_some, Option.map_none, List.cons.injEq, and_true, true_and, Arg.x.injEq, exists_eq_left, exists_eq_right, Option.some.injEq, Ent.ow.injEq, Ent.im.injEq, PyData.int.injEq, PyData.list.injEq, PyData.dict.injEq, PyData.tuple.injEq, PyData.str.injEq, exists_eq', exists_eq, decide_eq_true_eq, Bool.not_eq_true', ite_true, ite_false, decide_true, decide_false, decide_eq_false_iff_not, not_true_eq_false, not_false_eq_true, reduceCtorEq, eq_self]
              refine ite_i (fun _ => ?_) (fun _ => trivial)
              refine sump_i hlen hlet (by omega) (by omega) (by omega) fun told htold => ?_
              rw [htold.one hown]
              simp -dsimp only [↓uSeq, ↓uNext, ↓uKill, ↓uFrz, ↓uDrop, ↓uRet, ↓uIf, ↓uAsg, ↓uAsgO, ↓uPar2, ↓uPut, ↓uDPut, ↓uFor_eq, ↓uWhile_eq, ↓uSeqM_eq, ↓uBrk, ↓uCnt, ↓uWelD, ↓gSet, ↓gN, ↓gC, ↓gT, ↓zE, ↓zF, ↓oE, ↓oV, ↓wV, ↓wC, ↓wOp, ↓wUn, ↓app2, ↓app1, ↓wTst, ↓tAndD, ↓tOrD, ↓tNotD, ↓wAndV, ↓wOrV, ↓wNotV, ↓wIf, ↓wChain, ↓osN, ↓osC, getAll, ↓appN, ↓wCB, ↓appM, ↓wBM, ↓wBM0, ↓wN, ↓wCs, ↓wTup, ↓wLst, ↓wDic0, ↓wDicT, ↓aN, ↓aC, ↓aW, ↓wCall_eq, ↓wCallK_eq, perm, List.filterMap_cons, List.filterMap_nil, ↓wApp, ↓wExt, ↓wPop, ↓wPopAt, ↓wListA, ↓wRpl, ↓iX, ↓iL, ↓iT, ↓iS, ↓iR1, ↓iR2, ↓iScr, ↓iZD, ↓iE, ↓wComp_eq, ↓ttY, ↓wSl, ↓wPart, ↓plN, ↓wRev, ↓wListO, ↓wRep, ↓wLenSet, ↓wLenScr, ↓wWelI, ↓wWelPop, ↓wWelApp, ↓tWelNE, ↓wDisp, ↓psC, ↓psN, ↓wDIn, ↓wDNotIn, ↓askD, ↓fAdd, ↓fSub, ↓fII, ↓fII0, ↓fDiv, ↓fMod, ↓fPow, ↓fLt, ↓fGt, ↓fLe, ↓fGe, ↓fGtD, ↓fLtD, ↓fLeD, ↓fGeD, ↓fNeg, ↓fMul, ↓fEq, ↓fNe, ↓eqQ, ↓fIsN, ↓fNotN, isNone_1, isNone_2, isNone_3, isNone_4, isNone_5, isNone_6, isNone_7, ↓fInC, ↓fNotInC, ↓fSub_, ↓fIx, ↓fSl, ↓fLen, ↓fTuple, ↓fMin1, ↓fMax1, ↓fSum, ↓fAll, ↓fAny, ↓fSorted, ↓fSortS, ↓fAbs, ↓fInt, ↓fRepr, ↓fCnt, ↓fIdx, ↓fJoin, isStr,
 endsG, mem0, toEnt, Mem.set, Mem.view, Mem.kill, Mem.frz, Mem.ro, Ent.ro', Opd.get,
 List.set_cons_zero, List.set_cons_succ, List.getElem?_cons_zero, List.getElem?_cons_succ, List.map_cons, List.map_nil, List.length_cons, List.length_nil, List.cons_append, List.nil_append, List.replicate_succ, List.replicate_zero, Option.map_some, Option.map_none, List.cons.injEq, and_true, true_and, Arg.x.injEq, exists_eq_left, exists_eq_right, Option.some.injEq, Ent.ow.injEq, Ent.im.injEq, PyData.int.injEq, PyData.list.injEq, PyData.dict.injEq, PyData.tuple.injEq, PyData.str.injEq, exists_eq', exists_eq, decide_eq_true_eq, Bool.not_eq_true', ite_true, ite_false, decide_true, decide_false, decide_eq_false_iff_not, not_true_eq_false, not_false_eq_true, reduceCtorEq, eq_self]
            · rintro M' rfl
              simp -dsimp only [↓uSeq, ↓uNext, ↓uKill, ↓uFrz, ↓uDrop, ↓uRet, ↓uIf, ↓uAsg, ↓uAsgO, ↓uPar2, ↓uPut, ↓uDPut, ↓uFor_eq, ↓uWhile_eq, ↓uSeqM_eq, ↓uBrk, ↓uCnt, ↓uWelD, ↓gSet, ↓gN, ↓gC, ↓gT, ↓zE, ↓zF, ↓oE, ↓oV, ↓wV, ↓wC, ↓wOp, ↓wUn, ↓app2, ↓app1, ↓wTst, ↓tAndD, ↓tOrD, ↓tNotD, ↓wAndV, ↓wOrV, ↓wNotV, ↓wIf, ↓wChain, ↓osN, ↓osC, getAll, ↓appN, ↓wCB, ↓appM, ↓wBM, ↓wBM0, ↓wN, ↓wCs, ↓wTup, ↓wLst, ↓wDic0, ↓wDicT, ↓aN, ↓aC, ↓aW, ↓wCall_eq, ↓wCallK_eq, perm, List.filterMap_cons, List.filterMap_nil, ↓wApp, ↓wExt, ↓wPop, ↓wPopAt, ↓wListA, ↓wRpl, ↓iX, ↓iL, ↓iT, ↓iS, ↓iR1, ↓iR2, ↓iScr, ↓iZD, ↓iE, ↓wComp_eq, ↓ttY, ↓wSl, ↓wPart, ↓plN, ↓wRev, ↓wListO, ↓wRep, ↓wLenSet, ↓wLenScr, ↓wWelI, ↓wWelPop, ↓wWelApp, ↓tWelNE, ↓wDisp, ↓psC, ↓psN, ↓wDIn, ↓wDNotIn, ↓askD, ↓fAdd, ↓fSub, ↓fII, ↓fII0, ↓fDiv, ↓fMod, ↓fPow, ↓fLt, ↓fGt, ↓fLe, ↓fGe, ↓fGtD, ↓fLtD, ↓fLeD, ↓fGeD, ↓fNeg, ↓fMul, ↓fEq, ↓fNe, ↓eqQ, ↓fIsN, ↓fNotN, isNone_1, isNone_2, isNone_3, isNone_4, isNone_5, isNone_6, isNone_7, ↓fInC, ↓fNotInC, ↓fSub_, ↓fIx, ↓fSl, ↓fLen, ↓fTuple, ↓fMin1, ↓fMax1, ↓fSum, ↓fAll, ↓fAny, ↓fSorted, ↓fSortS, ↓fAbs, ↓fInt, ↓fRepr, ↓fCnt, ↓fIdx, ↓fJoin, isStr,
 endsG, mem0, toEnt, Mem.set, Mem.view, Mem.kill, Mem.frz, Mem.ro, Ent.ro', Opd.get,
 List.set_cons_zero, List.set_cons_succ, List.getElem?_cons_zero, List.getElem?_cons_succ, List.map_cons, List.map_nil, List.length_cons, List.length_nil, List.cons_append, List.nil_append, List.replicate_succ, List.replicate_zero, Option.map_some, Option.map_none, List.cons.injEq, and_true, true_and, Arg.x.injEq, exists_eq_left, exists_eq_right, Option.some.injEq, Ent.ow.injEq, Ent.im.injEq, PyData.int.injEq, PyData.list.injEq, PyData.dict.injEq, PyData.tuple.injEq, PyData.str.injEq, exists_eq', exists_eq, decide_eq_true_eq, Bool.not_eq_true', ite_true, ite_false, decide_true, decide_false, decide_eq_false_iff_not, not_true_eq_false, not_false_eq_true, reduceCtorEq, eq_self]
              refine ⟨smo.repr (by omega) (by omega), smo.repr (by omega) (by omega), ?_⟩
              have fin : ∃ w_1 : Wel, WelOk w_1 ∧ ∃ e6 e7_1 e8_1 e9 e10 e11 e12 : Option Ent, (⟨[none, some .wel, some (.im (.int (t : Nat))), some (.im (sD l)), some (.im (.int (o : Nat))), some (.im due), some (.im own), e7, e8, some (.im (.int (k : Nat))), some (.im (.int m)), some (.im (.tuple (ws.map .int))), some (.im own), none], some w4⟩ : Mem) = ⟨[none, some .wel, some (.im (.int (t : Nat))), some (.im (sD l)), some (.im (.int (o : Nat))), some (.im due), e6, e7_1, e8_1, e9, e10, e11, e12, none], some w_1⟩ := ⟨w4, ok4, _, _, _, _, _, _, _, rfl⟩
              refine ite_i (fun hn => ?_) (fun _ => fin)
              rcases first_cases hdue with e | ⟨p, s, e⟩
              · rw [e] at hn
                simp [isNone] at hn
              · obtain ⟨p2, s2, e2, hle⟩ := no_later hdue e hown (fun p s v => v) (fun p s v h => like_sum h)
                rw [e, e2] at fin ⊢
                simp -dsimp only [↓uSeq, ↓uNext, ↓uKill, ↓uFrz, ↓uDrop, ↓uRet, ↓uIf, ↓uAsg, ↓uAsgO, ↓uPar2, ↓uPut, ↓uDPut, ↓uFor_eq, ↓uWhile_eq, ↓uSeqM_eq, ↓uBrk, ↓uCnt, ↓uWelD, ↓gSet, ↓gN, ↓gC, ↓gT, ↓zE, ↓zF, ↓oE, ↓oV, ↓wV, ↓wC, ↓wOp, ↓wUn, ↓app2, ↓app1, ↓wTst, ↓tAndD, ↓tOrD, ↓tNotD, ↓wAndV, ↓wOrV, ↓wNotV, ↓wIf, ↓wChain, ↓osN, ↓osC, getAll, ↓appN, ↓wCB, ↓appM, ↓wBM, ↓wBM0, ↓wN, ↓wCs, ↓wTup, ↓wLst, ↓wDic0, ↓wDicT, ↓aN, ↓aC, ↓aW, ↓wCall_eq, ↓wCallK_eq, perm, List.filterMap_cons, List.filterMap_nil, ↓wApp, ↓wExt, ↓wPop, ↓wPopAt, ↓wListA, ↓wRpl, ↓iX, ↓iL, ↓iT, ↓iS, ↓iR1, ↓iR2, ↓iScr, ↓iZD, ↓iE, ↓wComp_eq, ↓ttY, ↓wSl, ↓wPart, ↓plN, ↓wRev, ↓wListO, ↓wRep, ↓wLenSet, ↓wLenScr, ↓wWelI, ↓wWelPop, ↓wWelApp, ↓tWelNE, ↓wDisp, ↓psC, ↓psN, ↓wDIn, ↓wDNotIn, ↓askD, ↓fAdd, ↓fSub, ↓fII, ↓fII0, ↓fDiv, ↓fMod, ↓fPow, ↓fLt, ↓fGt, ↓fLe, ↓fGe, ↓fGtD, ↓fLtD, ↓fLeD, ↓fGeD, ↓fNeg, ↓fMul, ↓fEq, ↓fNe, ↓eqQ, ↓fIsN, ↓fNotN, isNone_1, isNone_2, isNone_3, isNone_4, isNone_5, isNone_6, isNone_7, ↓fInC, ↓fNotInC, ↓fSub_, ↓fIx, ↓fSl, ↓fLen, ↓fTuple, ↓fMin1, ↓fMax1, ↓fSum, ↓fAll, ↓fAny, ↓fSorted, ↓fSortS, ↓fAbs, ↓fInt, ↓fRepr, ↓fCnt, ↓fIdx, ↓fJoin, isStr,
 endsG, mem0, toEnt, Mem.set, Mem.view, Mem.kill, Mem.frz, Mem.ro, Ent.ro', Opd.get,
 List.set_cons_zero, List.set_cons_succ, List.getElem?_cons_zero, List.getElem?_cons_succ, List.map_cons, List.map_nil, List.length_cons, List.length_nil, List.cons_append, List.nil_append, List.replicate_succ, List.replicate_zero, Option.map_some, Option.map_none, List.cons.injEq, and_true, true_and, Arg.x.injEq, exists_eq_left, exists_eq_right, Option.some.injEq, Ent.ow.injEq, Ent.im.injEq, PyData.int.injEq, PyData.list.injEq, PyData.dict.injEq, PyData.tuple.injEq, PyData.str.injEq, exists_eq', exists_eq, decide_eq_true_eq, Bool.not_eq_true', ite_true, ite_false, decide_true, decide_false, decide_eq_false_iff_not, not_true_eq_false, not_false_eq_true, reduceCtorEq, eq_self, lt_pair]
                exact ⟨alk_pair _ _ _ _, by rw [if_neg (by omega)]; exact fin⟩
        · rintro M' ⟨w, ok, e6, e7, e8, e9, e10, e11, e12, rfl⟩
          simp -dsimp only [↓uSeq, ↓uNext, ↓uKill, ↓uFrz, ↓uDrop, ↓uRet, ↓uIf, ↓uAsg, ↓uAsgO, ↓uPar2, ↓uPut, ↓uDPut, ↓uFor_eq, ↓uWhile_eq, ↓uSeqM_eq, ↓uBrk, ↓uCnt, ↓uWelD, ↓gSet, ↓gN, ↓gC, ↓gT, ↓zE, ↓zF, ↓oE, ↓oV, ↓wV, ↓wC, ↓wOp, ↓wUn, ↓app2, ↓app1, ↓wTst, ↓tAndD, ↓tOrD, ↓tNotD, ↓wAndV, ↓wOrV, ↓wNotV, ↓wIf, ↓wChain, ↓osN, ↓osC, getAll, ↓appN, ↓wCB, ↓appM, ↓wBM, ↓wBM0, ↓wN, ↓wCs, ↓wTup, ↓wLst, ↓wDic0, ↓wDicT, ↓aN, ↓aC, ↓aW, ↓wCall_eq, ↓wCallK_eq, perm, List.filterMap_cons, List.filterMap_nil, ↓wApp, ↓wExt, ↓wPop, ↓wPopAt, ↓wListA, ↓wRpl, ↓iX, ↓iL, ↓iT, ↓iS, ↓iR1, ↓iR2, ↓iScr, ↓iZD, ↓iE, ↓wComp_eq, ↓ttY, ↓wSl, ↓wPart, ↓plN, ↓wRev, ↓wListO, ↓wRep, ↓wLenSet, ↓wLenScr, ↓wWelI, ↓wWelPop, ↓wWelApp, ↓tWelNE, ↓wDisp, ↓psC, ↓psN, ↓wDIn, ↓wDNotIn, ↓askD, ↓fAdd, ↓fSub, ↓fII, ↓fII0, ↓fDiv, ↓fMod, ↓fPow, ↓fLt, ↓fGt, ↓fLe, ↓fGe, ↓fGtD, ↓fLtD, ↓fLeD, ↓fGeD, ↓fNeg, ↓fMul, ↓fEq, ↓fNe, ↓eqQ, ↓fIsN, ↓fNotN, isNone_1, isNone_2, isNone_3, isNone_4, isNone_5, isNone_6, isNone_7, ↓fInC, ↓fNotInC, ↓fSub_, ↓fIx, ↓fSl, ↓fLen, ↓fTuple, ↓fMin1, ↓fMax1, ↓fSum, ↓fAll, ↓fAny, ↓fSorted, ↓fSortS, ↓fAbs, ↓fInt, ↓fRepr, ↓fCnt, ↓fIdx, ↓fJoin, isStr,
 endsG, mem0, toEnt, Mem.set, Mem.view, Mem.kill, Mem.frz, Mem.ro, Ent.ro', Opd.get,
 List.set_cons_zero, List.set_cons_succ, List.getElem?_cons_zero, List.getElem?_cons_succ, List.map_cons, List.map_nil, List.length_cons, List.length_nil, List.cons_append, List.nil_append, List.replicate_succ, List.replicate_zero, Option.map_some, Option.map_none, List.cons.injEq, and_true, true_and, Arg.x.injEq, exists_eq_left, exists_eq_right, Option.some.injEq, Ent.ow.injEq, Ent.im.injEq, PyData.int.injEq, PyData.list.injEq, PyData.dict.injEq, PyData.tuple.injEq, PyData.str.injEq, exists_eq', exists_eq, decide_eq_true_eq, Bool.not_eq_true', ite_true, ite_false, decide_true, decide_false, decide_eq_false_iff_not, not_true_eq_false, not_false_eq_true, reduceCtorEq, eq_self]
          exact ⟨w, ok, _, _, _, _, _, _, _, _, _, _, _, rfl⟩
  · rintro M' ⟨w, ok, e2, e3, e4, e5, e6, e7, e8, e9, e10, e11, e12, rfl⟩
    simp -dsimp only [↓uSeq, ↓uNext, ↓uKill, ↓uFrz, ↓uDrop, ↓uRet, ↓uIf, ↓uAsg, ↓uAsgO, ↓uPar2, ↓uPut, ↓uDPut, ↓uFor_eq, ↓uWhile_eq, ↓uSeqM_eq, ↓uBrk, ↓uCnt, ↓uWelD, ↓gSet, ↓gN, ↓gC, ↓gT, ↓zE, ↓zF, ↓oE, ↓oV, ↓wV, ↓wC, ↓wOp, ↓wUn, ↓app2, ↓app1, ↓wTst, ↓tAndD, ↓tOrD, ↓tNotD, ↓wAndV, ↓wOrV, ↓wNotV, ↓wIf, ↓wChain, ↓osN, ↓osC, getAll, ↓appN, ↓wCB, ↓appM, ↓wBM, ↓wBM0, ↓wN, ↓wCs, ↓wTup, ↓wLst, ↓wDic0, ↓wDicT, ↓aN, ↓aC, ↓aW, ↓wCall_eq, ↓wCallK_eq, perm, List.filterMap_cons, List.filterMap_nil, ↓wApp, ↓wExt, ↓wPop, ↓wPopAt, ↓wListA, ↓wRpl, ↓iX, ↓iL, ↓iT, ↓iS, ↓iR1, ↓iR2, ↓iScr, ↓iZD, ↓iE, ↓wComp_eq, ↓ttY, ↓wSl, ↓wPart, ↓plN, ↓wRev, ↓wListO, ↓wRep, ↓wLenSet, ↓wLenScr, ↓wWelI, ↓wWelPop, ↓wWelApp, ↓tWelNE, ↓wDisp, ↓psC, ↓psN, ↓wDIn, ↓wDNotIn, ↓askD, ↓fAdd, ↓fSub, ↓fII, ↓fII0, ↓fDiv, ↓fMod, ↓fPow, ↓fLt, ↓fGt, ↓fLe, ↓fGe, ↓fGtD, ↓fLtD, ↓fLeD, ↓fGeD, ↓fNeg, ↓fMul, ↓fEq, ↓fNe, ↓eqQ, ↓fIsN, ↓fNotN, isNone_1, isNone_2, isNone_3, isNone_4, isNone_5, isNone_6, isNone_7, ↓fInC, ↓fNotInC, ↓fSub_, ↓fIx, ↓fSl, ↓fLen, ↓fTuple, ↓fMin1, ↓fMax1, ↓fSum, ↓fAll, ↓fAny, ↓fSorted, ↓fSortS, ↓fAbs, ↓fInt, ↓fRepr, ↓fCnt, ↓fIdx, ↓fJoin, isStr,
 endsG, mem0, toEnt, Mem.set, Mem.view, Mem.kill, Mem.frz, Mem.ro, Ent.ro', Opd.get,
 List.set_cons_zero, List.set_cons_succ, List.getElem?_cons_zero, List.getElem?_cons_succ, List.map_cons, List.map_nil, List.length_cons, List.length_nil, List.cons_append, List.nil_append, List.replicate_succ, List.replicate_zero, Option.map_some, Option.map_none, List.cons.injEq, and_true, true_and, Arg.x.injEq, exists_eq_left, exists_eq_right, Option.some.injEq, Ent.ow.injEq, Ent.im.injEq, PyData.int.injEq, PyData.list.injEq, PyData.dict.injEq, PyData.tuple.injEq, PyData.str.injEq, exists_eq', exists_eq, decide_eq_true_eq, Bool.not_eq_true', ite_true, ite_false, decide_true, decide_false, decide_eq_false_iff_not, not_true_eq_false, not_false_eq_true, reduceCtorEq, eq_self]
end DL

namespace DL
open PySem PySem.Spec L2 PyProof.Rows
def topS (i : Nat) : Stmt := PySem.Challenge.pw_wordstems_k82_whole_count_powers.main.body.getD i (.Pass ⟨0, 0, 0, 0⟩)
section
variable {P : Program} {w : World} {K : PySem.W.Frag} {mg : Str → Option Value} {base : Heap}
def s_counts_of : Stmt := topS 2
abbrev N_counts_of : List Str := ["word", "letter"]
theorem sc_counts_of : FnScope N_counts_of ["word"] (defScope s_counts_of) := ⟨rfl, rfl, rfl, by decide +kernel, rfl, by decide +kernel, by decide +kernel⟩
theorem tm_counts_of (m_tuple : mg "tuple" = none) {v_LETTERS : Value} (mc_LETTERS : mg "LETTERS" = some v_LETTERS) (rc_LETTERS : RelV (.str "abcd") v_LETTERS) (cdv : Value) (A : Around) (outer : List Env) (s : Shared) (H : Hp) (E : XK) (f : Addr) (hr : Room 0 (A.deeper (envOfC "counts_of" (defScope s_counts_of) s.heap.objs.size f cdv))) :
    DSs (cxOf CX0 P w K mg base N_counts_of "counts_of" (defScope s_counts_of) f cdv A outer s H E).nox X0 (defBody s_counts_of) u_counts_of := by
  have hu := hr.units
  exact (dSs_1 (dS_ret (dE_ct call_tuple_of dTuple (by rfl) m_tuple boot_tuple (dOs_c (dO_e (DF.toE (dF_cmp [("letter", 1)] rfl sc_counts_of.nd (dI_x (dE_glob (by rfl) mc_LETTERS rc_LETTERS (fun _ => DV.str _))) N_counts_of (defScope s_counts_of) (by decide +kernel) (fun i => (dG_n sc_counts_of.nd rfl (by first | exact .inl rfl | exact .inr rfl))) (fun i => dTs_n) (fun i => (dE_bm PySem.F.plainAttrs_str PySem.F.slot_str_count PySem.F.type_str_count mCnt tyStr dCnt (dO_v 0) (dOs_c (dO_v 1) dOs_n)))))) dOs_n))))
theorem ok_counts_of (R : Raw K mg "counts_of" s_counts_of ["word"]) (m_tuple : mg "tuple" = none) {v_LETTERS : Value} (mc_LETTERS : mg "LETTERS" = some v_LETTERS) (rc_LETTERS : RelV (.str "abcd") v_LETTERS) : Fn P w K mg base "counts_of" s_counts_of ["word"] 1 g_counts_of :=
  R.fn sc_counts_of (by decide) (fun args wl Q h => by first | (obtain ⟨rfl, _⟩ := h; rfl) | (obtain ⟨_, rfl, _⟩ := h; rfl) | (obtain ⟨_, _, rfl, _⟩ := h; rfl) | (obtain ⟨_, _, _, rfl, _⟩ := h; rfl) | (obtain ⟨_, _, _, _, rfl, _⟩ := h; rfl) | (obtain ⟨_, _, _, _, _, rfl, _⟩ := h; rfl) | (obtain ⟨_, _, _, _, _, _, rfl, _⟩ := h; rfl) | (obtain ⟨_, _, _, _, _, _, _, rfl, _⟩ := h; rfl) | (obtain ⟨_, _, _, _, _, _, _, _, rfl, _⟩ := h; rfl)) fun cdv A outer s H E f hr => ⟨u_counts_of, tm_counts_of m_tuple mc_LETTERS rc_LETTERS cdv A outer s H E f hr, pf_counts_of⟩
def s__law_dip : Stmt := topS 10
abbrev N__law_dip : List Str := ["well", "many", "cell", "blend"]
theorem sc__law_dip : FnScope N__law_dip ["well", "many"] (defScope s__law_dip) := ⟨rfl, rfl, rfl, by decide +kernel, rfl, by decide +kernel, by decide +kernel⟩
theorem tm__law_dip (m_int : mg "int" = none) (cdv : Value) (A : Around) (outer : List Env) (s : Shared) (H : Hp) (E : XK) (f : Addr) (hr : Room 0 (A.deeper (envOfC "_law_dip" (defScope s__law_dip) s.heap.objs.size f cdv))) :
    DSs (cxOf CX0 P w K mg base N__law_dip "_law_dip" (defScope s__law_dip) f cdv A outer s H E).nox X0 (defBody s__law_dip) u__law_dip := by
  have hu := hr.units
  exact (dSs_c (dS_if (dT_cmp hLt dLt (dO_v 1) (dO_e dE_int) (nomark _)) (dSs_1 (dS_ret dE_int)) dSs_n)
    (dSs_c (dS_if (dT_wne 0 hu) (dSs_c (dS_set (i := 2) sc__law_dip.nd rfl (by first | exact .inl rfl | exact .inr rfl) (dE_wpop 0 (hu_of hr)))
    (dSs_m (dS_if (dT_cmp op_ge dGe (dO_v 2) (dO_v 1) (nomark _)) (dSs_1 (dS_expr (dE_wapp 0 (hu_of hr) (dE_op op_fdivW dDiv (dO_v 2) (dO_v 1))))) dSs_n)
    (dSs_1 (dS_ret (dE_op op_modN dMod (dO_e (dE_ct call_int1 dInt (by rfl) m_int boot_int (dOs_c (dO_v 2) dOs_n))) (dO_v 1)))))) dSs_n)
    (dSs_c (dS_wdrawn 0 (hu_of hr) (dE_op hAdd dAdd (dO_e (dE_wdrawn 0 (hu_of hr))) (dO_e dE_int)))
    (dSs_c (dS_set (i := 3) sc__law_dip.nd rfl (by first | exact .inl rfl | exact .inr rfl) (dE_op op_modN dMod (dO_e (dE_ct call_int1 dInt (by rfl) m_int boot_int (dOs_c (dO_e (dE_op hAdd dAdd (dO_e (dE_wmix 0 (hu_of hr))) (dO_e (dE_op hMul dMul (dO_e dE_int) (dO_e (dE_wdrawn 0 (hu_of hr))))))) dOs_n))) (dO_e dE_int)))
    (dSs_c (dS_set (i := 3) sc__law_dip.nd rfl (by first | exact .inl rfl | exact .inr rfl) (dE_op op_modN dMod (dO_e (dE_ct call_int1 dInt (by rfl) m_int boot_int (dOs_c (dO_e (dE_op hAdd dAdd (dO_e (dE_op hAdd dAdd (dO_e (dE_op hMul dMul (dO_v 3) (dO_v 3))) (dO_e (dE_op hMul dMul (dO_e dE_int) (dO_e (dE_wdrawn 0 (hu_of hr))))))) (dO_e dE_int))) dOs_n))) (dO_e dE_int)))
    (dSs_c (dS_set (i := 3) sc__law_dip.nd rfl (by first | exact .inl rfl | exact .inr rfl) (dE_op op_modN dMod (dO_e (dE_ct call_int1 dInt (by rfl) m_int boot_int (dOs_c (dO_e (dE_op hAdd dAdd (dO_e (dE_op hMul dMul (dO_v 3) (dO_v 3))) (dO_e (dE_wmix 0 (hu_of hr))))) dOs_n))) (dO_e dE_int)))
    (dSs_1 (dS_ret (dE_op op_modN dMod (dO_e (dE_ct call_int1 dInt (by rfl) m_int boot_int (dOs_c (dO_e (dE_op op_fdivW dDiv (dO_v 3) (dO_e dE_int))) dOs_n))) (dO_v 1))))))))))
theorem ok__law_dip (R : Raw K mg "_law_dip" s__law_dip ["well", "many"]) (m_int : mg "int" = none) : Fn P w K mg base "_law_dip" s__law_dip ["well", "many"] 1 g__law_dip :=
  R.fn sc__law_dip (by decide) (fun args wl Q h => by first | (obtain ⟨rfl, _⟩ := h; rfl) | (obtain ⟨_, rfl, _⟩ := h; rfl) | (obtain ⟨_, _, rfl, _⟩ := h; rfl) | (obtain ⟨_, _, _, rfl, _⟩ := h; rfl) | (obtain ⟨_, _, _, _, rfl, _⟩ := h; rfl) | (obtain ⟨_, _, _, _, _, rfl, _⟩ := h; rfl) | (obtain ⟨_, _, _, _, _, _, rfl, _⟩ := h; rfl) | (obtain ⟨_, _, _, _, _, _, _, rfl, _⟩ := h; rfl) | (obtain ⟨_, _, _, _, _, _, _, _, rfl, _⟩ := h; rfl)) fun cdv A outer s H E f hr => ⟨u__law_dip, tm__law_dip m_int cdv A outer s H E f hr, pf__law_dip⟩
def s__law_sums : Stmt := topS 13
abbrev N__law_sums : List Str := ["word", "weights", "found", "letter"]
theorem sc__law_sums : FnScope N__law_sums ["word", "weights"] (defScope s__law_sums) := ⟨rfl, rfl, rfl, by decide +kernel, rfl, by decide +kernel, by decide +kernel⟩
theorem tm__law_sums  (cdv : Value) (A : Around) (outer : List Env) (s : Shared) (H : Hp) (E : XK) (f : Addr) (hr : Room 0 (A.deeper (envOfC "_law_sums" (defScope s__law_sums) s.heap.objs.size f cdv))) :
    DSs (cxOf CX0 P w K mg base N__law_sums "_law_sums" (defScope s__law_sums) f cdv A outer s H E).nox X0 (defBody s__law_sums) u__law_sums := by
  have hu := hr.units
  exact (dSs_c (dS_setO (i := 2) sc__law_sums.nd rfl (by first | exact .inl rfl | exact .inr rfl) (dF_lst (dL_c dE_int dL_n)))
    (dSs_c (dS_for [3] PassesOwn.never rfl (dI_x (dE_v 0)) (dG_n sc__law_sums.nd rfl (by first | exact .inl rfl | exact .inr rfl)) (dSs_1 (dS_expr (dE_app (i := 2) (dE_op hAdd dAdd (dO_e (dE_sub (hu_of hr) (dO_v 2) (dO_e (dE_un un_neg dNeg (dO_e dE_int))))) (dO_e (dE_sub (hu_of hr) (dO_v 1) (dO_e (dE_bm PySem.F.plainAttrs_str PySem.F.slot_str_index PySem.F.type_str_index mt_indexS tyStr dIdx (dO_e dE_str) (dOs_c (dO_v 3) dOs_n))))))))))
    (dSs_1 (dS_frz 2 (dS_ret (dE_v 2))))))
theorem ok__law_sums (R : Raw K mg "_law_sums" s__law_sums ["word", "weights"])  : Fn P w K mg base "_law_sums" s__law_sums ["word", "weights"] 1 g__law_sums :=
  R.fn sc__law_sums (by decide) (fun args wl Q h => by first | (obtain ⟨rfl, _⟩ := h; rfl) | (obtain ⟨_, rfl, _⟩ := h; rfl) | (obtain ⟨_, _, rfl, _⟩ := h; rfl) | (obtain ⟨_, _, _, rfl, _⟩ := h; rfl) | (obtain ⟨_, _, _, _, rfl, _⟩ := h; rfl) | (obtain ⟨_, _, _, _, _, rfl, _⟩ := h; rfl) | (obtain ⟨_, _, _, _, _, _, rfl, _⟩ := h; rfl) | (obtain ⟨_, _, _, _, _, _, _, rfl, _⟩ := h; rfl) | (obtain ⟨_, _, _, _, _, _, _, _, rfl, _⟩ := h; rfl)) fun cdv A outer s H E f hr => ⟨u__law_sums, tm__law_sums  cdv A outer s H E f hr, pf__law_sums⟩
def s__law_counts : Stmt := topS 14
abbrev N__law_counts : List Str := ["word", "letter"]
theorem sc__law_counts : FnScope N__law_counts ["word"] (defScope s__law_counts) := ⟨rfl, rfl, rfl, by decide +kernel, rfl, by decide +kernel, by decide +kernel⟩
theorem tm__law_counts (m_tuple : mg "tuple" = none) (cdv : Value) (A : Around) (outer : List Env) (s : Shared) (H : Hp) (E : XK) (f : Addr) (hr : Room 0 (A.deeper (envOfC "_law_counts" (defScope s__law_counts) s.heap.objs.size f cdv))) :
    DSs (cxOf CX0 P w K mg base N__law_counts "_law_counts" (defScope s__law_counts) f cdv A outer s H E).nox X0 (defBody s__law_counts) u__law_counts := by
  have hu := hr.units
  exact (dSs_1 (dS_ret (dE_ct call_tuple_of dTuple (by rfl) m_tuple boot_tuple (dOs_c (dO_e (DF.toE (dF_cmp [("letter", 1)] rfl sc__law_counts.nd (dI_x dE_str) N__law_counts (defScope s__law_counts) (by decide +kernel) (fun i => (dG_n sc__law_counts.nd rfl (by first | exact .inl rfl | exact .inr rfl))) (fun i => dTs_n) (fun i => (dE_bm PySem.F.plainAttrs_str PySem.F.slot_str_count PySem.F.type_str_count mCnt tyStr dCnt (dO_v 0) (dOs_c (dO_v 1) dOs_n)))))) dOs_n))))
theorem ok__law_counts (R : Raw K mg "_law_counts" s__law_counts ["word"]) (m_tuple : mg "tuple" = none) : Fn P w K mg base "_law_counts" s__law_counts ["word"] 1 g__law_counts :=
  R.fn sc__law_counts (by decide) (fun args wl Q h => by first | (obtain ⟨rfl, _⟩ := h; rfl) | (obtain ⟨_, rfl, _⟩ := h; rfl) | (obtain ⟨_, _, rfl, _⟩ := h; rfl) | (obtain ⟨_, _, _, rfl, _⟩ := h; rfl) | (obtain ⟨_, _, _, _, rfl, _⟩ := h; rfl) | (obtain ⟨_, _, _, _, _, rfl, _⟩ := h; rfl) | (obtain ⟨_, _, _, _, _, _, rfl, _⟩ := h; rfl) | (obtain ⟨_, _, _, _, _, _, _, rfl, _⟩ := h; rfl) | (obtain ⟨_, _, _, _, _, _, _, _, rfl, _⟩ := h; rfl)) fun cdv A outer s H E f hr => ⟨u__law_counts, tm__law_counts m_tuple cdv A outer s H E f hr, pf__law_counts⟩
def s_are_pieces_like : Stmt := topS 4
abbrev N_are_pieces_like : List Str := ["word", "place", "size", "order", "first", "k"]
theorem sc_are_pieces_like : FnScope N_are_pieces_like ["word", "place", "size", "order"] (defScope s_are_pieces_like) := ⟨rfl, rfl, rfl, by decide +kernel, rfl, by decide +kernel, by decide +kernel⟩
theorem tm_are_pieces_like (m_all : mg "all" = none) (m_len : mg "len" = none) (m_range : mg "range" = none) (F_counts_of : Fn P w K mg base "counts_of" s_counts_of ["word"] 1 g_counts_of) (cdv : Value) (A : Around) (outer : List Env) (s : Shared) (H : Hp) (E : XK) (f : Addr) (hr : Room 1 (A.deeper (envOfC "are_pieces_like" (defScope s_are_pieces_like) s.heap.objs.size f cdv))) :
    DSs (cxOf CX0 P w K mg base N_are_pieces_like "are_pieces_like" (defScope s_are_pieces_like) f cdv A outer s H E).nox X0 (defBody s_are_pieces_like) u_are_pieces_like := by
  have hu := hr.units
  exact (dSs_c (dS_if (DTW.t (dW_or (dT_cmp hLt dLt (dO_v 1) (dO_e dE_int) (nomark _)) (dW_or1 (dT_cmp op_gt dGt (dO_e (dE_op hAdd dAdd (dO_v 1) (dO_e (dE_op hMul dMul (dO_v 3) (dO_v 2))))) (dO_e (dE_cb hLen dLen (by rfl) m_len PySem.boot_len (dOs_c (dO_v 0) dOs_n))) (nomark _))))) (dSs_1 (dS_ret dE_bl)) dSs_n)
    (dSs_c (dS_set (i := 4) sc_are_pieces_like.nd rfl (by first | exact .inl rfl | exact .inr rfl) (dE_callF F_counts_of hr (by decide) (by rfl) (dA_c (dE_sl (dO_v 0) (dP_s (dO_v 1)) (dP_s (dO_e (dE_op hAdd dAdd (dO_v 1) (dO_v 2))))) dA_n)))
    (dSs_1 (dS_ret (dE_cb (cr_all rfl) dAll (by rfl) m_all boot_all (dOs_c (dO_e (DF.toE (dF_cmp [("k", 5)] rfl sc_are_pieces_like.nd (dI_r2 (by rfl) m_range (dOs_c (dO_e dE_int) (dOs_c (dO_v 3) dOs_n))) N_are_pieces_like (defScope s_are_pieces_like) (by decide +kernel) (fun i => (dG_n sc_are_pieces_like.nd rfl (by first | exact .inl rfl | exact .inr rfl))) (fun i => dTs_n) (fun i => (dE_cmp (hEq hu) dEq (dO_e (dE_callF F_counts_of hr (by decide) (by rfl) (dA_c (dE_sl (dO_v 0) (dP_s (dO_e (dE_op hAdd dAdd (dO_v 1) (dO_e (dE_op hMul dMul (dO_v 5) (dO_v 2)))))) (dP_s (dO_e (dE_op hAdd dAdd (dO_e (dE_op hAdd dAdd (dO_v 1) (dO_e (dE_op hMul dMul (dO_v 5) (dO_v 2))))) (dO_v 2))))) dA_n))) (dO_v 4) (nomark _)))))) dOs_n))))))
theorem ok_are_pieces_like (R : Raw K mg "are_pieces_like" s_are_pieces_like ["word", "place", "size", "order"]) (m_all : mg "all" = none) (m_len : mg "len" = none) (m_range : mg "range" = none) (F_counts_of : Fn P w K mg base "counts_of" s_counts_of ["word"] 1 g_counts_of) : Fn P w K mg base "are_pieces_like" s_are_pieces_like ["word", "place", "size", "order"] 2 g_are_pieces_like :=
  R.fn sc_are_pieces_like (by decide) (fun args wl Q h => by first | (obtain ⟨rfl, _⟩ := h; rfl) | (obtain ⟨_, rfl, _⟩ := h; rfl) | (obtain ⟨_, _, rfl, _⟩ := h; rfl) | (obtain ⟨_, _, _, rfl, _⟩ := h; rfl) | (obtain ⟨_, _, _, _, rfl, _⟩ := h; rfl) | (obtain ⟨_, _, _, _, _, rfl, _⟩ := h; rfl) | (obtain ⟨_, _, _, _, _, _, rfl, _⟩ := h; rfl) | (obtain ⟨_, _, _, _, _, _, _, rfl, _⟩ := h; rfl) | (obtain ⟨_, _, _, _, _, _, _, _, rfl, _⟩ := h; rfl)) fun cdv A outer s H E f hr => ⟨u_are_pieces_like, tm_are_pieces_like m_all m_len m_range F_counts_of cdv A outer s H E f hr, pf_are_pieces_like⟩
def s_weight_of : Stmt := topS 6
abbrev N_weight_of : List Str := ["word", "weights", "number", "weight"]
theorem sc_weight_of : FnScope N_weight_of ["word", "weights"] (defScope s_weight_of) := ⟨rfl, rfl, rfl, by decide +kernel, rfl, by decide +kernel, by decide +kernel⟩
theorem tm_weight_of (m_sum : mg "sum" = none) (m_zip : mg "zip" = none) (F_counts_of : Fn P w K mg base "counts_of" s_counts_of ["word"] 1 g_counts_of) (cdv : Value) (A : Around) (outer : List Env) (s : Shared) (H : Hp) (E : XK) (f : Addr) (hr : Room 1 (A.deeper (envOfC "weight_of" (defScope s_weight_of) s.heap.objs.size f cdv))) :
    DSs (cxOf CX0 P w K mg base N_weight_of "weight_of" (defScope s_weight_of) f cdv A outer s H E).nox X0 (defBody s_weight_of) u_weight_of := by
  have hu := hr.units
  exact (dSs_1 (dS_ret (dE_cb (cr_sum rfl) dSum (by rfl) m_sum boot_sum (dOs_c (dO_e (DF.toE (dF_cmp [("number", 2), ("weight", 3)] rfl sc_weight_of.nd (dI_zip (by rfl) m_zip (dL_c (dE_callF F_counts_of hr (by decide) (by rfl) (dA_c (dE_v 0) dA_n)) (dL_c (dE_v 1) dL_n))) N_weight_of (defScope s_weight_of) (by decide +kernel) (fun i => (dG_t rfl (dGs_c (dG_n sc_weight_of.nd rfl (by first | exact .inl rfl | exact .inr rfl)) (dGs_c (dG_n sc_weight_of.nd rfl (by first | exact .inl rfl | exact .inr rfl)) dGs_n)))) (fun i => dTs_n) (fun i => (dE_op hMul dMul (dO_v 2) (dO_v 3)))))) dOs_n))))
theorem ok_weight_of (R : Raw K mg "weight_of" s_weight_of ["word", "weights"]) (m_sum : mg "sum" = none) (m_zip : mg "zip" = none) (F_counts_of : Fn P w K mg base "counts_of" s_counts_of ["word"] 1 g_counts_of) : Fn P w K mg base "weight_of" s_weight_of ["word", "weights"] 2 g_weight_of :=
  R.fn sc_weight_of (by decide) (fun args wl Q h => by first | (obtain ⟨rfl, _⟩ := h; rfl) | (obtain ⟨_, rfl, _⟩ := h; rfl) | (obtain ⟨_, _, rfl, _⟩ := h; rfl) | (obtain ⟨_, _, _, rfl, _⟩ := h; rfl) | (obtain ⟨_, _, _, _, rfl, _⟩ := h; rfl) | (obtain ⟨_, _, _, _, _, rfl, _⟩ := h; rfl) | (obtain ⟨_, _, _, _, _, _, rfl, _⟩ := h; rfl) | (obtain ⟨_, _, _, _, _, _, _, rfl, _⟩ := h; rfl) | (obtain ⟨_, _, _, _, _, _, _, _, rfl, _⟩ := h; rfl)) fun cdv A outer s H E f hr => ⟨u_weight_of, tm_weight_of m_sum m_zip F_counts_of cdv A outer s H E f hr, pf_weight_of⟩
def s__law_take : Stmt := topS 11
abbrev N__law_take : List Str := ["well", "items"]
theorem sc__law_take : FnScope N__law_take ["well", "items"] (defScope s__law_take) := ⟨rfl, rfl, rfl, by decide +kernel, rfl, by decide +kernel, by decide +kernel⟩
theorem tm__law_take (m_len : mg "len" = none) (F__law_dip : Fn P w K mg base "_law_dip" s__law_dip ["well", "many"] 1 g__law_dip) (cdv : Value) (A : Around) (outer : List Env) (s : Shared) (H : Hp) (E : XK) (f : Addr) (hr : Room 1 (A.deeper (envOfC "_law_take" (defScope s__law_take) s.heap.objs.size f cdv))) :
    DSs (cxOf CX0 P w K mg base N__law_take "_law_take" (defScope s__law_take) f cdv A outer s H E).nox X0 (defBody s__law_take) u__law_take := by
  have hu := hr.units
  exact (dSs_1 (dS_ret (dE_sub (hu_of hr) (dO_v 1) (dO_e (dE_callF F__law_dip hr (by decide) (by rfl) (dA_w 0 (dA_c (dE_cb hLen dLen (by rfl) m_len PySem.boot_len (dOs_c (dO_v 1) dOs_n)) dA_n)))))))
theorem ok__law_take (R : Raw K mg "_law_take" s__law_take ["well", "items"]) (m_len : mg "len" = none) (F__law_dip : Fn P w K mg base "_law_dip" s__law_dip ["well", "many"] 1 g__law_dip) : Fn P w K mg base "_law_take" s__law_take ["well", "items"] 2 g__law_take :=
  R.fn sc__law_take (by decide) (fun args wl Q h => by first | (obtain ⟨rfl, _⟩ := h; rfl) | (obtain ⟨_, rfl, _⟩ := h; rfl) | (obtain ⟨_, _, rfl, _⟩ := h; rfl) | (obtain ⟨_, _, _, rfl, _⟩ := h; rfl) | (obtain ⟨_, _, _, _, rfl, _⟩ := h; rfl) | (obtain ⟨_, _, _, _, _, rfl, _⟩ := h; rfl) | (obtain ⟨_, _, _, _, _, _, rfl, _⟩ := h; rfl) | (obtain ⟨_, _, _, _, _, _, _, rfl, _⟩ := h; rfl) | (obtain ⟨_, _, _, _, _, _, _, _, rfl, _⟩ := h; rfl)) fun cdv A outer s H E f hr => ⟨u__law_take, tm__law_take m_len F__law_dip cdv A outer s H E f hr, pf__law_take⟩
def s__law_word : Stmt := topS 12
abbrev N__law_word : List Str := ["well", "most", "kinds", "size", "way", "piece", "found", "one", "other", "at", "turn"]
theorem sc__law_word : FnScope N__law_word ["well", "most", "kinds"] (defScope s__law_word) := ⟨rfl, rfl, rfl, by decide +kernel, rfl, by decide +kernel, by decide +kernel⟩
theorem tm__law_word (m_len : mg "len" = none) (m_range : mg "range" = none) (F__law_dip : Fn P w K mg base "_law_dip" s__law_dip ["well", "many"] 1 g__law_dip) (cdv : Value) (A : Around) (outer : List Env) (s : Shared) (H : Hp) (E : XK) (f : Addr) (hr : Room 1 (A.deeper (envOfC "_law_word" (defScope s__law_word) s.heap.objs.size f cdv))) :
    DSs (cxOf CX0 P w K mg base N__law_word "_law_word" (defScope s__law_word) f cdv A outer s H E).nox X0 (defBody s__law_word) u__law_word := by
  have hu := hr.units
  exact (dSs_c (dS_par2 (i := 3) (j := 4) rfl sc__law_word.nd rfl rfl (by decide) rfl rfl (dZ_e (dE_callF F__law_dip hr (by decide) (by rfl) (dA_w 0 (dA_c (dE_op hAdd dAdd (dO_v 1) (dO_e dE_int)) dA_n)))) (dZ_e (dE_callF F__law_dip hr (by decide) (by rfl) (dA_w 0 (dA_c dE_int dA_n)))))
    (dSs_c (dS_if (dT_cmp hLt dLt (dO_v 4) (dO_e dE_int) (nomark _)) (dSs_1 (dS_ret (dE_bm PySem.F.plainAttrs_str PySem.F.slot_str_join PySem.F.type_str_join mt_join tyStr dJoin (dO_e dE_str) (dOs_c (dO_e (DF.toE (dF_cmp [("turn", 10)] rfl sc__law_word.nd (dI_r1 (by rfl) m_range (dOs_c (dO_v 3) dOs_n)) N__law_word (defScope s__law_word) (by decide +kernel) (fun i => (dG_n sc__law_word.nd rfl (by first | exact .inl rfl | exact .inr rfl))) (fun i => dTs_n) (fun i => (dE_sub (hu_of hr) (dO_e dE_str) (dO_e (dE_callF F__law_dip hr (by decide) (by rfl) (dA_w 0 (dA_c (dE_v 2) dA_n))))))))) dOs_n)))) dSs_n)
    (dSs_m (dS_if (dT_cmp hLt dLt (dO_v 4) (dO_e dE_int) (nomark _)) (dSs_c (dS_set (i := 5) sc__law_word.nd rfl (by first | exact .inl rfl | exact .inr rfl) (dE_bm PySem.F.plainAttrs_str PySem.F.slot_str_join PySem.F.type_str_join mt_join tyStr dJoin (dO_e dE_str) (dOs_c (dO_e (DF.toE (dF_cmp [("turn", 10)] rfl sc__law_word.nd (dI_r1 (by rfl) m_range (dOs_c (dO_e (dE_op hAdd dAdd (dO_e dE_int) (dO_e (dE_callF F__law_dip hr (by decide) (by rfl) (dA_w 0 (dA_c dE_int dA_n)))))) dOs_n)) N__law_word (defScope s__law_word) (by decide +kernel) (fun i => (dG_n sc__law_word.nd rfl (by first | exact .inl rfl | exact .inr rfl))) (fun i => dTs_n) (fun i => (dE_sub (hu_of hr) (dO_e dE_str) (dO_e (dE_callF F__law_dip hr (by decide) (by rfl) (dA_w 0 (dA_c (dE_v 2) dA_n))))))))) dOs_n)))
    (dSs_1 (dS_set (i := 6) sc__law_word.nd rfl (by first | exact .inl rfl | exact .inr rfl) (dE_sl (dO_e (dE_op hMul dMul (dO_v 5) (dO_e (dE_op hAdd dAdd (dO_v 3) (dO_e dE_int))))) dP_no (dP_s (dO_v 3)))))) (dSs_c (dS_par2 (i := 7) (j := 8) rfl sc__law_word.nd rfl rfl (by decide) rfl rfl (dZ_e dE_str) (dZ_e (dE_if (dT_cmp op_gt dGt (dO_v 2) (dO_e dE_int) (nomark _)) dE_str dE_str)))
    (dSs_c (dS_while [] PassesOwn.never (dT_cmp hLt dLt (dO_e (dE_cb hLen dLen (by rfl) m_len PySem.boot_len (dOs_c (dO_v 8) dOs_n))) (dO_v 3) (nomark _)) (dSs_1 (dS_par2 (i := 7) (j := 8) rfl sc__law_word.nd rfl rfl (by decide) rfl rfl (dZ_e (dE_v 8)) (dZ_e (dE_op hAdd dAdd (dO_v 8) (dO_v 7))))))
    (dSs_1 (dS_set (i := 6) sc__law_word.nd rfl (by first | exact .inl rfl | exact .inr rfl) (dE_sl (dO_v 8) dP_no (dP_s (dO_v 3))))))))
    (dSs_m (dS_if (DTW.t (dW_and (dT_cmp op_gt dGt (dO_v 3) (dO_e dE_int) (nomark _)) (dW_and1 (dT_cmp (hEq hu) dEq (dO_e (dE_callF F__law_dip hr (by decide) (by rfl) (dA_w 0 (dA_c dE_int dA_n)))) (dO_e dE_int) (nomark _))))) (dSs_c (dS_set (i := 9) sc__law_word.nd rfl (by first | exact .inl rfl | exact .inr rfl) (dE_callF F__law_dip hr (by decide) (by rfl) (dA_w 0 (dA_c (dE_v 3) dA_n))))
    (dSs_1 (dS_set (i := 6) sc__law_word.nd rfl (by first | exact .inl rfl | exact .inr rfl) (dE_op hAdd dAdd (dO_e (dE_op hAdd dAdd (dO_e (dE_sl (dO_v 6) dP_no (dP_s (dO_v 9)))) (dO_e (dE_sub (hu_of hr) (dO_e dE_str) (dO_e (dE_callF F__law_dip hr (by decide) (by rfl) (dA_w 0 (dA_c (dE_v 2) dA_n)))))))) (dO_e (dE_sl (dO_v 6) (dP_s (dO_e (dE_op hAdd dAdd (dO_v 9) (dO_e dE_int)))) dP_no)))))) dSs_n)
    (dSs_1 (dS_ret (dE_v 6)))))))
theorem ok__law_word (R : Raw K mg "_law_word" s__law_word ["well", "most", "kinds"]) (m_len : mg "len" = none) (m_range : mg "range" = none) (F__law_dip : Fn P w K mg base "_law_dip" s__law_dip ["well", "many"] 1 g__law_dip) : Fn P w K mg base "_law_word" s__law_word ["well", "most", "kinds"] 2 g__law_word :=
  R.fn sc__law_word (by decide) (fun args wl Q h => by first | (obtain ⟨rfl, _⟩ := h; rfl) | (obtain ⟨_, rfl, _⟩ := h; rfl) | (obtain ⟨_, _, rfl, _⟩ := h; rfl) | (obtain ⟨_, _, _, rfl, _⟩ := h; rfl) | (obtain ⟨_, _, _, _, rfl, _⟩ := h; rfl) | (obtain ⟨_, _, _, _, _, rfl, _⟩ := h; rfl) | (obtain ⟨_, _, _, _, _, _, rfl, _⟩ := h; rfl) | (obtain ⟨_, _, _, _, _, _, _, rfl, _⟩ := h; rfl) | (obtain ⟨_, _, _, _, _, _, _, _, rfl, _⟩ := h; rfl)) fun cdv A outer s H E f hr => ⟨u__law_word, tm__law_word m_len m_range F__law_dip cdv A outer s H E f hr, pf__law_word⟩
def s__law_like : Stmt := topS 15
abbrev N__law_like : List Str := ["word", "place", "size", "order", "own", "k"]
theorem sc__law_like : FnScope N__law_like ["word", "place", "size", "order"] (defScope s__law_like) := ⟨rfl, rfl, rfl, by decide +kernel, rfl, by decide +kernel, by decide +kernel⟩
theorem tm__law_like (m_range : mg "range" = none) (F__law_counts : Fn P w K mg base "_law_counts" s__law_counts ["word"] 1 g__law_counts) (cdv : Value) (A : Around) (outer : List Env) (s : Shared) (H : Hp) (E : XK) (f : Addr) (hr : Room 1 (A.deeper (envOfC "_law_like" (defScope s__law_like) s.heap.objs.size f cdv))) :
    DSs (cxOf CX0 P w K mg base N__law_like "_law_like" (defScope s__law_like) f cdv A outer s H E).nox X0 (defBody s__law_like) u__law_like := by
  have hu := hr.units
  exact (dSs_c (dS_set (i := 4) sc__law_like.nd rfl (by first | exact .inl rfl | exact .inr rfl) (dE_callF F__law_counts hr (by decide) (by rfl) (dA_c (dE_sl (dO_v 0) (dP_s (dO_v 1)) (dP_s (dO_e (dE_op hAdd dAdd (dO_v 1) (dO_v 2))))) dA_n)))
    (dSs_c (dS_for [5] PassesOwn.never rfl (dI_r2 (by rfl) m_range (dOs_c (dO_e dE_int) (dOs_c (dO_v 3) dOs_n))) (dG_n sc__law_like.nd rfl (by first | exact .inl rfl | exact .inr rfl)) (dSs_1 (dS_if (dT_cmp (hNe hu) dNe (dO_e (dE_callF F__law_counts hr (by decide) (by rfl) (dA_c (dE_sl (dO_v 0) (dP_s (dO_e (dE_op hAdd dAdd (dO_v 1) (dO_e (dE_op hMul dMul (dO_v 5) (dO_v 2)))))) (dP_s (dO_e (dE_op hAdd dAdd (dO_e (dE_op hAdd dAdd (dO_v 1) (dO_e (dE_op hMul dMul (dO_v 5) (dO_v 2))))) (dO_v 2))))) dA_n))) (dO_v 4) (nomark _)) (dSs_1 (dS_ret dE_bl)) dSs_n)))
    (dSs_1 (dS_ret dE_bl))))
theorem ok__law_like (R : Raw K mg "_law_like" s__law_like ["word", "place", "size", "order"]) (m_range : mg "range" = none) (F__law_counts : Fn P w K mg base "_law_counts" s__law_counts ["word"] 1 g__law_counts) : Fn P w K mg base "_law_like" s__law_like ["word", "place", "size", "order"] 2 g__law_like :=
  R.fn sc__law_like (by decide) (fun args wl Q h => by first | (obtain ⟨rfl, _⟩ := h; rfl) | (obtain ⟨_, rfl, _⟩ := h; rfl) | (obtain ⟨_, _, rfl, _⟩ := h; rfl) | (obtain ⟨_, _, _, rfl, _⟩ := h; rfl) | (obtain ⟨_, _, _, _, rfl, _⟩ := h; rfl) | (obtain ⟨_, _, _, _, _, rfl, _⟩ := h; rfl) | (obtain ⟨_, _, _, _, _, _, rfl, _⟩ := h; rfl) | (obtain ⟨_, _, _, _, _, _, _, rfl, _⟩ := h; rfl) | (obtain ⟨_, _, _, _, _, _, _, _, rfl, _⟩ := h; rfl)) fun cdv A outer s H E f hr => ⟨u__law_like, tm__law_like m_range F__law_counts cdv A outer s H E f hr, pf__law_like⟩
def s__law_least_sum : Stmt := topS 17
abbrev N__law_least_sum : List Str := ["word", "weights", "order", "sums", "place", "size", "own", "k"]
theorem sc__law_least_sum : FnScope N__law_least_sum ["word", "weights", "order"] (defScope s__law_least_sum) := ⟨rfl, rfl, rfl, by decide +kernel, rfl, by decide +kernel, by decide +kernel⟩
theorem tm__law_least_sum (m_len : mg "len" = none) (m_range : mg "range" = none) (F__law_sums : Fn P w K mg base "_law_sums" s__law_sums ["word", "weights"] 1 g__law_sums) (cdv : Value) (A : Around) (outer : List Env) (s : Shared) (H : Hp) (E : XK) (f : Addr) (hr : Room 1 (A.deeper (envOfC "_law_least_sum" (defScope s__law_least_sum) s.heap.objs.size f cdv))) :
    DSs (cxOf CX0 P w K mg base N__law_least_sum "_law_least_sum" (defScope s__law_least_sum) f cdv A outer s H E).nox X0 (defBody s__law_least_sum) u__law_least_sum := by
  have hu := hr.units
  exact (dSs_c (dS_set (i := 3) sc__law_least_sum.nd rfl (by first | exact .inl rfl | exact .inr rfl) (dE_callF F__law_sums hr (by decide) (by rfl) (dA_c (dE_v 0) (dA_c (dE_v 1) dA_n))))
    (dSs_c (dS_for [4, 5, 6] PassesOwn.never rfl (dI_r1 (by rfl) m_range (dOs_c (dO_e (dE_cb hLen dLen (by rfl) m_len PySem.boot_len (dOs_c (dO_v 0) dOs_n))) dOs_n)) (dG_n sc__law_least_sum.nd rfl (by first | exact .inl rfl | exact .inr rfl)) (dSs_1 (dS_for [5, 6] PassesOwn.never rfl (dI_r2 (by rfl) m_range (dOs_c (dO_e dE_int) (dOs_c (dO_e (dE_op hAdd dAdd (dO_e (dE_op op_fdivW dDiv (dO_e (dE_op op_sub dSub (dO_e (dE_cb hLen dLen (by rfl) m_len PySem.boot_len (dOs_c (dO_v 0) dOs_n))) (dO_v 4))) (dO_v 2))) (dO_e dE_int))) dOs_n))) (dG_n sc__law_least_sum.nd rfl (by first | exact .inl rfl | exact .inr rfl)) (dSs_c (dS_set (i := 6) sc__law_least_sum.nd rfl (by first | exact .inl rfl | exact .inr rfl) (DF.toE (dF_cmp [("k", 7)] rfl sc__law_least_sum.nd (dI_r1 (by rfl) m_range (dOs_c (dO_e (dE_op hAdd dAdd (dO_v 2) (dO_e dE_int))) dOs_n)) N__law_least_sum (defScope s__law_least_sum) (by decide +kernel) (fun i => (dG_n sc__law_least_sum.nd rfl (by first | exact .inl rfl | exact .inr rfl))) (fun i => dTs_n) (fun i => (dE_sub (hu_of hr) (dO_v 3) (dO_e (dE_op hAdd dAdd (dO_v 4) (dO_e (dE_op hMul dMul (dO_v 7) (dO_v 5))))))))))
    (dSs_1 (dS_if (dT_cmp (hEq hu) dEq (dO_e (dE_cb hLen dLen (by rfl) m_len PySem.boot_len (dOs_c (dO_e (DF.toE (dF_cmp [("k", 7)] rfl sc__law_least_sum.nd (dI_r1 (by rfl) m_range (dOs_c (dO_v 2) dOs_n)) N__law_least_sum (defScope s__law_least_sum) (by decide +kernel) (fun i => (dG_n sc__law_least_sum.nd rfl (by first | exact .inl rfl | exact .inr rfl))) (fun i => (dTs_1 (dT_cmp (hNe hu) dNe (dO_e (dE_op op_sub dSub (dO_e (dE_sub (hu_of hr) (dO_v 6) (dO_e (dE_op hAdd dAdd (dO_v 7) (dO_e dE_int))))) (dO_e (dE_sub (hu_of hr) (dO_v 6) (dO_v 7))))) (dO_e (dE_op op_sub dSub (dO_e (dE_sub (hu_of hr) (dO_v 6) (dO_e dE_int))) (dO_e (dE_sub (hu_of hr) (dO_v 6) (dO_e dE_int))))) (nomark _)))) (fun i => dE_int)))) dOs_n))) (dO_e dE_int) (nomark _)) (dSs_1 (dS_ret (dE_tup (dL_c (dE_v 4) (dL_c (dE_v 5) dL_n))))) dSs_n))))))
    (dSs_1 (dS_ret dE_non))))
theorem ok__law_least_sum (R : Raw K mg "_law_least_sum" s__law_least_sum ["word", "weights", "order"]) (m_len : mg "len" = none) (m_range : mg "range" = none) (F__law_sums : Fn P w K mg base "_law_sums" s__law_sums ["word", "weights"] 1 g__law_sums) : Fn P w K mg base "_law_least_sum" s__law_least_sum ["word", "weights", "order"] 2 g__law_least_sum :=
  R.fn sc__law_least_sum (by decide) (fun args wl Q h => by first | (obtain ⟨rfl, _⟩ := h; rfl) | (obtain ⟨_, rfl, _⟩ := h; rfl) | (obtain ⟨_, _, rfl, _⟩ := h; rfl) | (obtain ⟨_, _, _, rfl, _⟩ := h; rfl) | (obtain ⟨_, _, _, _, rfl, _⟩ := h; rfl) | (obtain ⟨_, _, _, _, _, rfl, _⟩ := h; rfl) | (obtain ⟨_, _, _, _, _, _, rfl, _⟩ := h; rfl) | (obtain ⟨_, _, _, _, _, _, _, rfl, _⟩ := h; rfl) | (obtain ⟨_, _, _, _, _, _, _, _, rfl, _⟩ := h; rfl)) fun cdv A outer s H E f hr => ⟨u__law_least_sum, tm__law_least_sum m_len m_range F__law_sums cdv A outer s H E f hr, pf__law_least_sum⟩
def s_count_power : Stmt := topS 5
abbrev N_count_power : List Str := ["word", "order", "place", "size"]
theorem sc_count_power : FnScope N_count_power ["word", "order"] (defScope s_count_power) := ⟨rfl, rfl, rfl, by decide +kernel, rfl, by decide +kernel, by decide +kernel⟩
theorem tm_count_power (m_len : mg "len" = none) (m_range : mg "range" = none) (F_are_pieces_like : Fn P w K mg base "are_pieces_like" s_are_pieces_like ["word", "place", "size", "order"] 2 g_are_pieces_like) (cdv : Value) (A : Around) (outer : List Env) (s : Shared) (H : Hp) (E : XK) (f : Addr) (hr : Room 2 (A.deeper (envOfC "count_power" (defScope s_count_power) s.heap.objs.size f cdv))) :
    DSs (cxOf CX0 P w K mg base N_count_power "count_power" (defScope s_count_power) f cdv A outer s H E).nox X0 (defBody s_count_power) u_count_power := by
  have hu := hr.units
  exact (dSs_c (dS_for [2, 3] PassesOwn.never rfl (dI_r1 (by rfl) m_range (dOs_c (dO_e (dE_cb hLen dLen (by rfl) m_len PySem.boot_len (dOs_c (dO_v 0) dOs_n))) dOs_n)) (dG_n sc_count_power.nd rfl (by first | exact .inl rfl | exact .inr rfl)) (dSs_1 (dS_for [3] PassesOwn.never rfl (dI_r2 (by rfl) m_range (dOs_c (dO_e dE_int) (dOs_c (dO_e (dE_op hAdd dAdd (dO_e (dE_op op_fdivW dDiv (dO_e (dE_op op_sub dSub (dO_e (dE_cb hLen dLen (by rfl) m_len PySem.boot_len (dOs_c (dO_v 0) dOs_n))) (dO_v 2))) (dO_v 1))) (dO_e dE_int))) dOs_n))) (dG_n sc_count_power.nd rfl (by first | exact .inl rfl | exact .inr rfl)) (dSs_1 (dS_if (dT_val (dE_callF F_are_pieces_like hr (by decide) (by rfl) (dA_c (dE_v 0) (dA_c (dE_v 2) (dA_c (dE_v 3) (dA_c (dE_v 1) dA_n)))))) (dSs_1 (dS_ret (dE_tup (dL_c (dE_v 2) (dL_c (dE_v 3) dL_n))))) dSs_n)))))
    (dSs_1 (dS_ret dE_non)))
theorem ok_count_power (R : Raw K mg "count_power" s_count_power ["word", "order"]) (m_len : mg "len" = none) (m_range : mg "range" = none) (F_are_pieces_like : Fn P w K mg base "are_pieces_like" s_are_pieces_like ["word", "place", "size", "order"] 2 g_are_pieces_like) : Fn P w K mg base "count_power" s_count_power ["word", "order"] 3 g_count_power :=
  R.fn sc_count_power (by decide) (fun args wl Q h => by first | (obtain ⟨rfl, _⟩ := h; rfl) | (obtain ⟨_, rfl, _⟩ := h; rfl) | (obtain ⟨_, _, rfl, _⟩ := h; rfl) | (obtain ⟨_, _, _, rfl, _⟩ := h; rfl) | (obtain ⟨_, _, _, _, rfl, _⟩ := h; rfl) | (obtain ⟨_, _, _, _, _, rfl, _⟩ := h; rfl) | (obtain ⟨_, _, _, _, _, _, rfl, _⟩ := h; rfl) | (obtain ⟨_, _, _, _, _, _, _, rfl, _⟩ := h; rfl) | (obtain ⟨_, _, _, _, _, _, _, _, rfl, _⟩ := h; rfl)) fun cdv A outer s H E f hr => ⟨u_count_power, tm_count_power m_len m_range F_are_pieces_like cdv A outer s H E f hr, pf_count_power⟩
def s_sum_power : Stmt := topS 7
abbrev N_sum_power : List Str := ["word", "weights", "order", "place", "size", "starts", "sums", "k", "start", "own"]
theorem sc_sum_power : FnScope N_sum_power ["word", "weights", "order"] (defScope s_sum_power) := ⟨rfl, rfl, rfl, by decide +kernel, rfl, by decide +kernel, by decide +kernel⟩
theorem tm_sum_power (m_all : mg "all" = none) (m_len : mg "len" = none) (m_range : mg "range" = none) (F_weight_of : Fn P w K mg base "weight_of" s_weight_of ["word", "weights"] 2 g_weight_of) (cdv : Value) (A : Around) (outer : List Env) (s : Shared) (H : Hp) (E : XK) (f : Addr) (hr : Room 2 (A.deeper (envOfC "sum_power" (defScope s_sum_power) s.heap.objs.size f cdv))) :
    DSs (cxOf CX0 P w K mg base N_sum_power "sum_power" (defScope s_sum_power) f cdv A outer s H E).nox X0 (defBody s_sum_power) u_sum_power := by
  have hu := hr.units
  exact (dSs_c (dS_for [3, 4, 5, 6] PassesOwn.never rfl (dI_r1 (by rfl) m_range (dOs_c (dO_e (dE_cb hLen dLen (by rfl) m_len PySem.boot_len (dOs_c (dO_v 0) dOs_n))) dOs_n)) (dG_n sc_sum_power.nd rfl (by first | exact .inl rfl | exact .inr rfl)) (dSs_1 (dS_for [4, 5, 6] PassesOwn.never rfl (dI_r2 (by rfl) m_range (dOs_c (dO_e dE_int) (dOs_c (dO_e (dE_op hAdd dAdd (dO_e (dE_op op_fdivW dDiv (dO_e (dE_op op_sub dSub (dO_e (dE_cb hLen dLen (by rfl) m_len PySem.boot_len (dOs_c (dO_v 0) dOs_n))) (dO_v 3))) (dO_v 2))) (dO_e dE_int))) dOs_n))) (dG_n sc_sum_power.nd rfl (by first | exact .inl rfl | exact .inr rfl)) (dSs_c (dS_cmp (i := 5) [("k", 7)] rfl sc_sum_power.nd rfl rfl (by rfl) (dI_r1 (by rfl) m_range (dOs_c (dO_v 2) dOs_n)) N_sum_power (defScope s_sum_power) (by decide +kernel) (fun i => (dG_n sc_sum_power.nd rfl (by first | exact .inl rfl | exact .inr rfl))) (fun i => dTs_n) (fun i => (dE_op hAdd dAdd (dO_v 3) (dO_e (dE_op hMul dMul (dO_v 7) (dO_v 4))))))
    (dSs_c (dS_frz 5 (dS_set (i := 6) sc_sum_power.nd rfl (by first | exact .inl rfl | exact .inr rfl) (DF.toE (dF_cmp [("start", 8)] rfl sc_sum_power.nd (dI_x (dE_v 5)) N_sum_power (defScope s_sum_power) (by decide +kernel) (fun i => (dG_n sc_sum_power.nd rfl (by first | exact .inl rfl | exact .inr rfl))) (fun i => dTs_n) (fun i => (dE_callF F_weight_of hr (by decide) (by rfl) (dA_c (dE_sl (dO_v 0) (dP_s (dO_v 8)) (dP_s (dO_e (dE_op hAdd dAdd (dO_v 8) (dO_v 4))))) (dA_c (dE_v 1) dA_n))))))))
    (dSs_1 (dS_if (dT_val (dE_cb (cr_all rfl) dAll (by rfl) m_all boot_all (dOs_c (dO_e (DF.toE (dF_cmp [("own", 9)] rfl sc_sum_power.nd (dI_x (dE_v 6)) N_sum_power (defScope s_sum_power) (by decide +kernel) (fun i => (dG_n sc_sum_power.nd rfl (by first | exact .inl rfl | exact .inr rfl))) (fun i => dTs_n) (fun i => (dE_cmp (hEq hu) dEq (dO_v 9) (dO_e (dE_sub (hu_of hr) (dO_v 6) (dO_e dE_int))) (nomark _)))))) dOs_n))) (dSs_1 (dS_ret (dE_tup (dL_c (dE_v 3) (dL_c (dE_v 4) dL_n))))) dSs_n)))))))
    (dSs_1 (dS_ret dE_non)))
theorem ok_sum_power (R : Raw K mg "sum_power" s_sum_power ["word", "weights", "order"]) (m_all : mg "all" = none) (m_len : mg "len" = none) (m_range : mg "range" = none) (F_weight_of : Fn P w K mg base "weight_of" s_weight_of ["word", "weights"] 2 g_weight_of) : Fn P w K mg base "sum_power" s_sum_power ["word", "weights", "order"] 3 g_sum_power :=
  R.fn sc_sum_power (by decide) (fun args wl Q h => by first | (obtain ⟨rfl, _⟩ := h; rfl) | (obtain ⟨_, rfl, _⟩ := h; rfl) | (obtain ⟨_, _, rfl, _⟩ := h; rfl) | (obtain ⟨_, _, _, rfl, _⟩ := h; rfl) | (obtain ⟨_, _, _, _, rfl, _⟩ := h; rfl) | (obtain ⟨_, _, _, _, _, rfl, _⟩ := h; rfl) | (obtain ⟨_, _, _, _, _, _, rfl, _⟩ := h; rfl) | (obtain ⟨_, _, _, _, _, _, _, rfl, _⟩ := h; rfl) | (obtain ⟨_, _, _, _, _, _, _, _, rfl, _⟩ := h; rfl)) fun cdv A outer s H E f hr => ⟨u_sum_power, tm_sum_power m_all m_len m_range F_weight_of cdv A outer s H E f hr, pf_sum_power⟩
def s__law_power : Stmt := topS 16
abbrev N__law_power : List Str := ["word", "order", "place", "size"]
theorem sc__law_power : FnScope N__law_power ["word", "order"] (defScope s__law_power) := ⟨rfl, rfl, rfl, by decide +kernel, rfl, by decide +kernel, by decide +kernel⟩
theorem tm__law_power (m_len : mg "len" = none) (m_range : mg "range" = none) (F__law_like : Fn P w K mg base "_law_like" s__law_like ["word", "place", "size", "order"] 2 g__law_like) (cdv : Value) (A : Around) (outer : List Env) (s : Shared) (H : Hp) (E : XK) (f : Addr) (hr : Room 2 (A.deeper (envOfC "_law_power" (defScope s__law_power) s.heap.objs.size f cdv))) :
    DSs (cxOf CX0 P w K mg base N__law_power "_law_power" (defScope s__law_power) f cdv A outer s H E).nox X0 (defBody s__law_power) u__law_power := by
  have hu := hr.units
  exact (dSs_c (dS_for [2, 3] PassesOwn.never rfl (dI_r1 (by rfl) m_range (dOs_c (dO_e (dE_cb hLen dLen (by rfl) m_len PySem.boot_len (dOs_c (dO_v 0) dOs_n))) dOs_n)) (dG_n sc__law_power.nd rfl (by first | exact .inl rfl | exact .inr rfl)) (dSs_1 (dS_for [3] PassesOwn.never rfl (dI_r2 (by rfl) m_range (dOs_c (dO_e dE_int) (dOs_c (dO_e (dE_op hAdd dAdd (dO_e (dE_op op_fdivW dDiv (dO_e (dE_op op_sub dSub (dO_e (dE_cb hLen dLen (by rfl) m_len PySem.boot_len (dOs_c (dO_v 0) dOs_n))) (dO_v 2))) (dO_v 1))) (dO_e dE_int))) dOs_n))) (dG_n sc__law_power.nd rfl (by first | exact .inl rfl | exact .inr rfl)) (dSs_1 (dS_if (dT_val (dE_callF F__law_like hr (by decide) (by rfl) (dA_c (dE_v 0) (dA_c (dE_v 2) (dA_c (dE_v 3) (dA_c (dE_v 1) dA_n)))))) (dSs_1 (dS_ret (dE_tup (dL_c (dE_v 2) (dL_c (dE_v 3) dL_n))))) dSs_n)))))
    (dSs_1 (dS_ret dE_non)))
theorem ok__law_power (R : Raw K mg "_law_power" s__law_power ["word", "order"]) (m_len : mg "len" = none) (m_range : mg "range" = none) (F__law_like : Fn P w K mg base "_law_like" s__law_like ["word", "place", "size", "order"] 2 g__law_like) : Fn P w K mg base "_law_power" s__law_power ["word", "order"] 3 g__law_power :=
  R.fn sc__law_power (by decide) (fun args wl Q h => by first | (obtain ⟨rfl, _⟩ := h; rfl) | (obtain ⟨_, rfl, _⟩ := h; rfl) | (obtain ⟨_, _, rfl, _⟩ := h; rfl) | (obtain ⟨_, _, _, rfl, _⟩ := h; rfl) | (obtain ⟨_, _, _, _, rfl, _⟩ := h; rfl) | (obtain ⟨_, _, _, _, _, rfl, _⟩ := h; rfl) | (obtain ⟨_, _, _, _, _, _, rfl, _⟩ := h; rfl) | (obtain ⟨_, _, _, _, _, _, _, rfl, _⟩ := h; rfl) | (obtain ⟨_, _, _, _, _, _, _, _, rfl, _⟩ := h; rfl)) fun cdv A outer s H E f hr => ⟨u__law_power, tm__law_power m_len m_range F__law_like cdv A outer s H E f hr, pf__law_power⟩
def s__law_mixed_word : Stmt := topS 18
abbrev N__law_mixed_word : List Str := ["well", "most", "word", "at", "row", "piece"]
theorem sc__law_mixed_word : FnScope N__law_mixed_word ["well"] (defScope s__law_mixed_word) := ⟨rfl, rfl, rfl, by decide +kernel, rfl, by decide +kernel, by decide +kernel⟩
theorem tm__law_mixed_word (m_len : mg "len" = none) (m_list : mg "list" = none) (F__law_dip : Fn P w K mg base "_law_dip" s__law_dip ["well", "many"] 1 g__law_dip) (F__law_take : Fn P w K mg base "_law_take" s__law_take ["well", "items"] 2 g__law_take) (F__law_word : Fn P w K mg base "_law_word" s__law_word ["well", "most", "kinds"] 2 g__law_word) (cdv : Value) (A : Around) (outer : List Env) (s : Shared) (H : Hp) (E : XK) (f : Addr) (hr : Room 2 (A.deeper (envOfC "_law_mixed_word" (defScope s__law_mixed_word) s.heap.objs.size f cdv))) :
    DSs (cxOf CX0 P w K mg base N__law_mixed_word "_law_mixed_word" (defScope s__law_mixed_word) f cdv A outer s H E).nox X0 (defBody s__law_mixed_word) u__law_mixed_word := by
  have hu := hr.units
  exact (dSs_m (dS_set (i := 1) sc__law_mixed_word.nd rfl (by first | exact .inl rfl | exact .inr rfl) (dE_if (dT_cmp op_gt dGt (dO_e (dE_callF F__law_dip hr (by decide) (by rfl) (dA_w 0 (dA_c dE_int dA_n)))) (dO_e dE_int) (nomark _)) (dE_callF F__law_take hr (by decide) (by rfl) (dA_w 0 (dA_c (DF.toE (dF_lst (dL_c dE_int (dL_c dE_int (dL_c dE_int dL_n))))) dA_n))) dE_int))
    (dSs_c (dS_set (i := 2) sc__law_mixed_word.nd rfl (by first | exact .inl rfl | exact .inr rfl) (dE_callF F__law_word hr (by decide) (by rfl) (dA_w 0 (dA_c (dE_v 1) (dA_c (dE_callF F__law_take hr (by decide) (by rfl) (dA_w 0 (dA_c (DF.toE (dF_lst (dL_c dE_int (dL_c dE_int (dL_c dE_int (dL_c dE_int dL_n)))))) dA_n))) dA_n)))))
    (dSs_m (dS_if (DTW.t (dW_and (dT_cmp (hEq hu) dEq (dO_e (dE_callF F__law_dip hr (by decide) (by rfl) (dA_w 0 (dA_c dE_int dA_n)))) (dO_e dE_int) (nomark _)) (dW_and1 (dT_cmp (hNe hu) dNe (dO_v 2) (dO_e dE_str) (nomark _))))) (dSs_c (dS_set (i := 3) sc__law_mixed_word.nd rfl (by first | exact .inl rfl | exact .inr rfl) (dE_callF F__law_dip hr (by decide) (by rfl) (dA_w 0 (dA_c (dE_cb hLen dLen (by rfl) m_len PySem.boot_len (dOs_c (dO_v 2) dOs_n)) dA_n))))
    (dSs_c (dS_par2 (i := 4) (j := 5) rfl sc__law_mixed_word.nd rfl rfl (by decide) rfl rfl (dZ_f (dF_listA rfl (by rfl) m_list boot_list (dOs_c (dO_e (dE_sl (dO_v 2) (dP_s (dO_v 3)) (dP_s (dO_e (dE_op hAdd dAdd (dO_e (dE_op hAdd dAdd (dO_v 3) (dO_e dE_int))) (dO_e (dE_callF F__law_dip hr (by decide) (by rfl) (dA_w 0 (dA_c dE_int dA_n))))))))) dOs_n))) (dZ_e dE_str))
    (dSs_c (dS_while [] PassesOwn.never (dT_cmp (hNe hu) dNe (dO_v 4) (dO_e (DF.toE (dF_lst dL_n))) (nomark _)) (dSs_1 (dS_set (i := 5) sc__law_mixed_word.nd rfl (by first | exact .inl rfl | exact .inr rfl) (dE_op hAdd dAdd (dO_v 5) (dO_e (dE_popAt (i := 4) (dO_e (dE_callF F__law_dip hr (by decide) (by rfl) (dA_w 0 (dA_c (dE_cb hLen dLen (by rfl) m_len PySem.boot_len (dOs_c (dO_v 4) dOs_n)) dA_n))))))))))
    (dSs_1 (dS_set (i := 2) sc__law_mixed_word.nd rfl (by first | exact .inl rfl | exact .inr rfl) (dE_sl (dO_e (dE_op hAdd dAdd (dO_e (dE_op hAdd dAdd (dO_e (dE_sl (dO_v 2) dP_no (dP_s (dO_e (dE_op hAdd dAdd (dO_v 3) (dO_e (dE_cb hLen dLen (by rfl) m_len PySem.boot_len (dOs_c (dO_v 5) dOs_n)))))))) (dO_v 5))) (dO_e (dE_sl (dO_v 2) (dP_s (dO_e (dE_op hAdd dAdd (dO_v 3) (dO_e (dE_cb hLen dLen (by rfl) m_len PySem.boot_len (dOs_c (dO_v 5) dOs_n)))))) dP_no)))) dP_no (dP_s (dO_e dE_int)))))))) dSs_n)
    (dSs_1 (dS_ret (dE_v 2))))))
theorem ok__law_mixed_word (R : Raw K mg "_law_mixed_word" s__law_mixed_word ["well"]) (m_len : mg "len" = none) (m_list : mg "list" = none) (F__law_dip : Fn P w K mg base "_law_dip" s__law_dip ["well", "many"] 1 g__law_dip) (F__law_take : Fn P w K mg base "_law_take" s__law_take ["well", "items"] 2 g__law_take) (F__law_word : Fn P w K mg base "_law_word" s__law_word ["well", "most", "kinds"] 2 g__law_word) : Fn P w K mg base "_law_mixed_word" s__law_mixed_word ["well"] 3 g__law_mixed_word :=
  R.fn sc__law_mixed_word (by decide) (fun args wl Q h => by first | (obtain ⟨rfl, _⟩ := h; rfl) | (obtain ⟨_, rfl, _⟩ := h; rfl) | (obtain ⟨_, _, rfl, _⟩ := h; rfl) | (obtain ⟨_, _, _, rfl, _⟩ := h; rfl) | (obtain ⟨_, _, _, _, rfl, _⟩ := h; rfl) | (obtain ⟨_, _, _, _, _, rfl, _⟩ := h; rfl) | (obtain ⟨_, _, _, _, _, _, rfl, _⟩ := h; rfl) | (obtain ⟨_, _, _, _, _, _, _, rfl, _⟩ := h; rfl) | (obtain ⟨_, _, _, _, _, _, _, _, rfl, _⟩ := h; rfl)) fun cdv A outer s H E f hr => ⟨u__law_mixed_word, tm__law_mixed_word m_len m_list F__law_dip F__law_take F__law_word cdv A outer s H E f hr, pf__law_mixed_word⟩
def s__law_well : Stmt := topS 9
abbrev N__law_well : List Str := ["script", "cells", "mix", "cell", "own"]
theorem sc__law_well : FnScope N__law_well ["script"] (defScope s__law_well) := ⟨rfl, rfl, rfl, by decide +kernel, rfl, by decide +kernel, by decide +kernel⟩
theorem well_parts : ∃ (s1 s2 : Stmt) (e : Expr) (pos : Pos), defBody s__law_well = [s1, s2, .Return (some e) pos] ∧ ∀ {P : Program} {w : World} {K : PySem.W.Frag} {mg : Str → Option Value} {base : Heap} (m_abs : mg "abs" = none) (m_int : mg "int" = none) (m_len : mg "len" = none) (cdv : Value) (A : Around) (outer : List Env) (s : Shared) (H : Hp) (E : XK) (f : Addr), Room 0 (A.deeper (envOfC "_law_well" (defScope s__law_well) s.heap.objs.size f cdv)) →
    DS (cxOf CX0 P w K mg base N__law_well "_law_well" (defScope s__law_well) f cdv A outer s H E).nox X0 s1 uw1 ∧ DS (cxOf CX0 P w K mg base N__law_well "_law_well" (defScope s__law_well) f cdv A outer s H E).nox X0 s2 uw2 ∧ DF (cxOf CX0 P w K mg base N__law_well "_law_well" (defScope s__law_well) f cdv A outer s H E).nox X0 e uww := by
  refine ⟨_, _, _, _, rfl, fun m_abs m_int m_len cdv A outer s H E f hr => ?_⟩
  have hu := hr.units
  exact ⟨(dS_par2 (i := 1) (j := 2) rfl sc__law_well.nd rfl rfl (by decide) rfl rfl (dZ_e (DF.toE (dF_cmp [("own", 4)] rfl sc__law_well.nd (dI_scr 0) N__law_well (defScope s__law_well) (by decide +kernel) (fun i => (dG_n sc__law_well.nd rfl (by first | exact .inl rfl | exact .inr rfl))) (fun i => dTs_n) (fun i => (dE_op hAdd dAdd (dO_e (dE_op hMul dMul (dO_e dE_int) (dO_e (dE_cb call_abs dAbs (by rfl) m_abs boot_abs (dOs_c (dO_v 4) dOs_n))))) (dO_e (dE_ct call_int1 dInt (by rfl) m_int boot_int (dOs_c (dO_e (dE_cmp hLt dLt (dO_v 4) (dO_e dE_int) (nomark _))) dOs_n)))))))) (dZ_e (dE_op hAdd dAdd (dO_e dE_int) (dO_e (dE_op hMul dMul (dO_e dE_int) (dO_e (dE_lenscr 0 (by rfl) m_len))))))), (dS_for [3] PassesOwn.never rfl (dI_x (dE_v 1)) (dG_n sc__law_well.nd rfl (by first | exact .inl rfl | exact .inr rfl)) (dSs_1 (dS_set (i := 2) sc__law_well.nd rfl (by first | exact .inl rfl | exact .inr rfl) (dE_op op_modN dMod (dO_e (dE_ct call_int1 dInt (by rfl) m_int boot_int (dOs_c (dO_e (dE_op hAdd dAdd (dO_e (dE_op hAdd dAdd (dO_e (dE_op hMul dMul (dO_v 2) (dO_e dE_int))) (dO_v 3))) (dO_e dE_int))) dOs_n))) (dO_e dE_int))))), (dF_disp (dQ_c dE_str (DF.toE (dF_cmp [("cell", 3)] rfl sc__law_well.nd (dI_x (dE_v 1)) N__law_well (defScope s__law_well) (by decide +kernel) (fun i => (dG_n sc__law_well.nd rfl (by first | exact .inl rfl | exact .inr rfl))) (fun i => (dTs_1 (dT_cmp op_ge dGe (dO_v 3) (dO_e (dE_op op_pow dPow (dO_e dE_int) (dO_e dE_int))) (nomark _)))) (fun i => (dE_v 3)))) (dQ_c dE_str (dE_v 2) (dQ_c dE_str dE_int dQ_n))) (by rfl) (by rfl) (by simp) (by simp))⟩
theorem ok_well (R : Raw K mg "_law_well" s__law_well ["script"]) (m_abs : mg "abs" = none) (m_int : mg "int" = none) (m_len : mg "len" = none) : FnW P w K mg base "_law_well" 1 63 wellOf := by
  obtain ⟨s1, s2, e, pos, hbd, hp⟩ := well_parts
  exact R.fnW sc__law_well (by decide) hbd (fun cdv A outer s H E f hr => hp m_abs m_int m_len cdv A outer s H E f hr) pf_well
def s_law : Stmt := topS 19
abbrev N_law : List Str := ["script", "well", "turn", "word", "order", "due", "told", "less", "called", "k", "most", "weights", "own", "letter"]
theorem sc_law : FnScope N_law ["script"] (defScope s_law) := ⟨rfl, rfl, rfl, by decide +kernel, rfl, by decide +kernel, by decide +kernel⟩
theorem law_parts : ∃ (py pg pp pc spos : Pos) (rest : List Stmt), defBody s_law = .Assign [.Name "well" py] (.Call (.Name "_law_well" pg) [.Name "script" pp] [] pc) spos :: rest ∧ (∀ {P : Program} {w : World} {K : PySem.W.Frag} {mg : Str → Option Value} {base : Heap} (m_range : mg "range" = none) (m_repr : mg "repr" = none) (m_tuple : mg "tuple" = none) (F__law_dip : Fn P w K mg base "_law_dip" s__law_dip ["well", "many"] 1 g__law_dip) (F__law_least_sum : Fn P w K mg base "_law_least_sum" s__law_least_sum ["word", "weights", "order"] 2 g__law_least_sum) (F__law_mixed_word : Fn P w K mg base "_law_mixed_word" s__law_mixed_word ["well"] 3 g__law_mixed_word) (F__law_power : Fn P w K mg base "_law_power" s__law_power ["word", "order"] 3 g__law_power) (F__law_take : Fn P w K mg base "_law_take" s__law_take ["well", "items"] 2 g__law_take) (F_count_power : Fn P w K mg base "count_power" s_count_power ["word", "order"] 3 g_count_power) (F_sum_power : Fn P w K mg base "sum_power" s_sum_power ["word", "weights", "order"] 3 g_sum_power) (cdv : Value) (s : Shared) (H : Hp) (f : Addr), Room 60 (callerA.deeper (envOfC "law" (defScope s_law) s.heap.objs.size f cdv)) → (callerA.deeper (envOfC "law" (defScope s_law) s.heap.objs.size f cdv)).guards = some [] →
    DSs (cxOf CX0 P w K mg base N_law "law" (defScope s_law) f cdv callerA [] s H E0).nox X0 rest u_law) ∧ ∀ {P : Program} {w : World} {K : PySem.W.Frag} {mg : Str → Option Value} {base : Heap} (F : FnW P w K mg base "_law_well" 1 63 wellOf) (cdv : Value) (s : Shared) (H : Hp) (f : Addr), Room 60 (callerA.deeper (envOfC "law" (defScope s_law) s.heap.objs.size f cdv)) →
    ∃ t1 : TS, PS (cxOf CX0 P w K mg base N_law "law" (defScope s_law) f cdv callerA [] s H E0).nox (.Assign [.Name "well" py] (.Call (.Name "_law_well" pg) [.Name "script" pp] [] pc) spos) t1 ∧ ∀ (D : Ends) (σ : List (Option V)) (H : Hp), (∃ v, σ[0]? = some (some v) ∧ ∀ Q, (Q = fun u H2 => D.nx (σ.set 1 (some u)) H2) → spW K 63 wellOf [v] H Q E0) → t1 D σ H := by
  refine ⟨_, _, _, _, _, _, rfl, fun m_range m_repr m_tuple F__law_dip F__law_least_sum F__law_mixed_word F__law_power F__law_take F_count_power F_sum_power cdv s H f hr hg => ?_, fun F cdv s H f hr => ?_⟩
  · have hu := hr.units
    exact (dSs_c (dS_forT [2, 3, 4, 5, 6, 7, 8, 9, 10, 11, 12] PassesOwn.never rfl (by rfl) m_range (dOs_c (dO_e dE_int) dOs_n) (dG_n sc_law.nd rfl (by first | exact .inl rfl | exact .inr rfl)) (dT_c (dS_set (i := 3) sc_law.nd rfl (by first | exact .inl rfl | exact .inr rfl) (dE_callF F__law_mixed_word hr (by decide) (by rfl) (dA_w 1 dA_n)))
    (dT_c (dS_set (i := 4) sc_law.nd rfl (by first | exact .inl rfl | exact .inr rfl) (dE_callF F__law_take hr (by decide) (by rfl) (dA_w 1 (dA_c (DF.toE (dF_lst (dL_c dE_int (dL_c dE_int (dL_c dE_int (dL_c dE_int (dL_c dE_int (dL_c (dE_op hAdd dAdd (dO_e dE_int) (dO_e (dE_callF F__law_dip hr (by decide) (by rfl) (dA_w 1 (dA_c dE_int dA_n))))) (dL_c dE_int dL_n))))))))) dA_n))))
    (dT_c (dS_set (i := 5) sc_law.nd rfl (by first | exact .inl rfl | exact .inr rfl) (dE_callF F__law_power hr (by decide) (by rfl) (dA_c (dE_v 3) (dA_c (dE_v 4) dA_n))))
    (dT_c (dS_set (i := 6) sc_law.nd rfl (by first | exact .inl rfl | exact .inr rfl) (DF.toE (dF_lst (dL_c (dE_callF F_count_power hr (by decide) (by rfl) (dA_c (dE_v 3) (dA_c (dE_v 4) dA_n))) (dL_c (dE_callKF (pi := [0, 1]) (ps := ["word", "order"]) (ks := ["word", "order"]) F_count_power hr (by decide) (by rfl) (dK_c (dE_v 3) (dK_c (dE_v 4) dK_n)) (by decide) (fun _ _ _ _ _ _ ws hl => match ws, hl with | [], hl => absurd hl (by simp [perm]) | [a0], hl => absurd hl (by simp [perm]) | _ :: _ :: _, _ => rfl)) dL_n)))))
    (dT_c (dS_if (dT_cmp (hNe hu) dNe (dO_e (dE_cb (call_repr hg hu) dRepr (by rfl) m_repr boot_repr (dOs_c (dO_v 6) dOs_n))) (dO_e (dE_cb (call_repr hg hu) dRepr (by rfl) m_repr boot_repr (dOs_c (dO_e (DF.toE (dF_lst (dL_c (dE_v 5) (dL_c (dE_v 5) dL_n))))) dOs_n))) (nomark _)) (dSs_1 (dS_ret dE_bl)) dSs_n)
    (dT_m (dS_if (DTW.t (dW_and (dT_cmp op_notN dNotN (dO_v 5) (dO_e dE_non) (nomark _)) (dW_and1 (dT_cmp op_gt dGt (dO_v 4) (dO_e dE_int) (nomark _))))) (dSs_c (dS_set (i := 7) sc_law.nd rfl (by first | exact .inl rfl | exact .inr rfl) (dE_callF F_count_power hr (by decide) (by rfl) (dA_c (dE_v 3) (dA_c (dE_op op_sub dSub (dO_v 4) (dO_e dE_int)) dA_n))))
    (dSs_1 (dS_if (DTW.t (dW_or (dT_cmp op_isN dIsN (dO_v 7) (dO_e dE_non) (nomark _)) (dW_or1 (dT_cmp (hGtD hu) dGtD (dO_v 7) (dO_v 5) (nomark _))))) (dSs_1 (dS_ret dE_bl)) dSs_n))) dSs_n)
    (dT_set (i := 8) sc_law.nd rfl (by first | exact .inl rfl | exact .inr rfl) (dET_rpl (dET_rpl (dET_rpl (dET_e (dE_v 3)))))
    (dT_of (dSs_m (dS_if (dT_cmp (hNe hu) dNe (dO_e (dE_callF F_count_power hr (by decide) (by rfl) (dA_c (dE_v 8) (dA_c (dE_v 4) dA_n)))) (dO_v 5) (nomark _)) (dSs_1 (dS_ret dE_bl)) dSs_n)
    (dSs_1 (dS_for [6, 9, 10, 11, 12] PassesOwn.never rfl (dI_r1 (by rfl) m_range (dOs_c (dO_e dE_int) dOs_n)) (dG_n sc_law.nd rfl (by first | exact .inl rfl | exact .inr rfl)) (dSs_c (dS_set (i := 10) sc_law.nd rfl (by first | exact .inl rfl | exact .inr rfl) (dE_callF F__law_take hr (by decide) (by rfl) (dA_w 1 (dA_c (DF.toE (dF_lst (dL_c dE_int (dL_c dE_int (dL_c dE_int dL_n))))) dA_n))))
    (dSs_c (dS_set (i := 11) sc_law.nd rfl (by first | exact .inl rfl | exact .inr rfl) (dE_ct call_tuple_of dTuple (by rfl) m_tuple boot_tuple (dOs_c (dO_e (DF.toE (dF_cmp [("letter", 13)] rfl sc_law.nd (dI_x dE_str) N_law (defScope s_law) (by decide +kernel) (fun i => (dG_n sc_law.nd rfl (by first | exact .inl rfl | exact .inr rfl))) (fun i => dTs_n) (fun i => (dE_op op_sub dSub (dO_e (dE_callF F__law_dip hr (by decide) (by rfl) (dA_w 1 (dA_c (dE_op hAdd dAdd (dO_e (dE_op hMul dMul (dO_e dE_int) (dO_v 10))) (dO_e dE_int)) dA_n)))) (dO_v 10)))))) dOs_n)))
    (dSs_c (dS_set (i := 12) sc_law.nd rfl (by first | exact .inl rfl | exact .inr rfl) (dE_callF F__law_least_sum hr (by decide) (by rfl) (dA_c (dE_v 3) (dA_c (dE_v 11) (dA_c (dE_v 4) dA_n)))))
    (dSs_c (dS_set (i := 6) sc_law.nd rfl (by first | exact .inl rfl | exact .inr rfl) (dE_callF F_sum_power hr (by decide) (by rfl) (dA_c (dE_v 3) (dA_c (dE_v 11) (dA_c (dE_v 4) dA_n)))))
    (dSs_m (dS_if (dT_cmp (hEq hu) dEq (dO_v 9) (dO_e dE_int) (nomark _)) (dSs_1 (dS_set (i := 6) sc_law.nd rfl (by first | exact .inl rfl | exact .inr rfl) (dE_callKF (pi := [2, 1, 0]) (ps := ["word", "weights", "order"]) (ks := ["order", "weights", "word"]) F_sum_power hr (by decide) (by rfl) (dK_c (dE_v 4) (dK_c (dE_v 11) (dK_c (dE_v 3) dK_n))) (by decide) (fun _ _ _ _ _ _ ws hl => match ws, hl with | [], hl => absurd hl (by simp [perm]) | [a0], hl => absurd hl (by simp [perm]) | [a0, a1], hl => absurd hl (by simp [perm]) | _ :: _ :: _ :: _, _ => rfl)))) dSs_n)
    (dSs_c (dS_if (dT_cmp (hNe hu) dNe (dO_e (dE_cb (call_repr hg hu) dRepr (by rfl) m_repr boot_repr (dOs_c (dO_v 6) dOs_n))) (dO_e (dE_cb (call_repr hg hu) dRepr (by rfl) m_repr boot_repr (dOs_c (dO_v 12) dOs_n))) (nomark _)) (dSs_1 (dS_ret dE_bl)) dSs_n)
    (dSs_1 (dS_if (DTW.t (dW_and (dT_cmp op_notN dNotN (dO_v 5) (dO_e dE_non) (nomark _)) (dW_and1 (DTW.t (dW_or (dT_cmp op_isN dIsN (dO_v 12) (dO_e dE_non) (nomark _)) (dW_or1 (dT_cmp (hGtD hu) dGtD (dO_v 12) (dO_v 5) (nomark _)))))))) (dSs_1 (dS_ret dE_bl)) dSs_n))))))))))))))))))))
    (dSs_1 (dS_ret dE_bl)))
  · obtain ⟨fw, fdw, ps, hm, kp, hb, ok⟩ := F.ex
    refine ⟨_, ps_set (i := 1) sc_law.nd rfl (by first | exact .inl rfl | exact .inr rfl) (pe_call ok (hr.mono (by decide)) (by rfl) hm kp hb .nil pass0 (pa_cons (pv 0) pa_nil)), fun D σ H h => ?_⟩
    obtain ⟨v, h1, h2⟩ := h
    refine ⟨v, h1, ?_⟩
    exact h2 _ rfl
theorem ok_law {fa : Addr} {fd : FuncData} (F : Fun K "law" "law" s_law fa fd) (hb : ∀ (s : Shared) (u : Value), BindsTo s fd ⟨[u], []⟩ [("script", u)]) (m_range : mg "range" = none) (m_repr : mg "repr" = none) (m_tuple : mg "tuple" = none) (F__law_dip : Fn P w K mg base "_law_dip" s__law_dip ["well", "many"] 1 g__law_dip) (F__law_least_sum : Fn P w K mg base "_law_least_sum" s__law_least_sum ["word", "weights", "order"] 2 g__law_least_sum) (F__law_mixed_word : Fn P w K mg base "_law_mixed_word" s__law_mixed_word ["well"] 3 g__law_mixed_word) (F__law_power : Fn P w K mg base "_law_power" s__law_power ["word", "order"] 3 g__law_power) (F__law_take : Fn P w K mg base "_law_take" s__law_take ["well", "items"] 2 g__law_take) (F_count_power : Fn P w K mg base "count_power" s_count_power ["word", "order"] 3 g_count_power) (F_sum_power : Fn P w K mg base "sum_power" s_sum_power ["word", "weights", "order"] 3 g_sum_power) (W : FnW P w K mg base "_law_well" 1 63 wellOf) : LawOk P w K mg base fa 63 := by
  obtain ⟨py, pg, pp, pc, spos, rest, hbd, hp, hq⟩ := law_parts
  have room : ∀ (s : Shared) (cdv : Value), Room 60 (callerA.deeper (envOfC "law" (defScope s_law) s.heap.objs.size fa cdv)) := fun s cdv => Room.deeper ⟨rfl, by decide, by decide⟩ _
  exact law_ofD F sc_law (by decide) hb hbd W (by decide) rfl (by decide) rfl (fun cdv s H => ⟨u_law, hp m_range m_repr m_tuple F__law_dip F__law_least_sum F__law_mixed_word F__law_power F__law_take F_count_power F_sum_power cdv s H fa (room s cdv) rfl, fun ns hn => pf_law _ (wellOf_ok ns)⟩) fun cdv s H => hq W cdv s H fa (room s cdv)
theorem all_mk {w : World} {K : PySem.W.Frag} {h : Heap} {mg : Str → Option Value} {fa : Addr} (X : K.In h) (G : h.Ns mainGlobals mg) (hfa : mg "law" = some (.ref fa))
    {f0 : Addr} {od0 an0 : Option Addr} {sl0 : Array (Option Value)} {oc0 kV0 dc0 pm0 cd0 ct0 : Value} (a0 : PySem.W.nsIn K mainGlobals "counts_of" = some (some (.ref f0))) (l0 : K.lookup f0 = some ⟨oc0, od0, .func (PySem.W.fnOf "counts_of" "counts_of" (defArgs s_counts_of) (defBody s_counts_of) (defScope s_counts_of) .none kV0 dc0 pm0 an0 cd0 ct0), sl0⟩) (c0 : PySem.W.codeIn K cd0 "counts_of" = true) (k0 : PySem.W.keepIn K (.ref f0) = true)
    {f1 : Addr} {od1 an1 : Option Addr} {sl1 : Array (Option Value)} {oc1 kV1 dc1 pm1 cd1 ct1 : Value} (a1 : PySem.W.nsIn K mainGlobals "_law_dip" = some (some (.ref f1))) (l1 : K.lookup f1 = some ⟨oc1, od1, .func (PySem.W.fnOf "_law_dip" "_law_dip" (defArgs s__law_dip) (defBody s__law_dip) (defScope s__law_dip) .none kV1 dc1 pm1 an1 cd1 ct1), sl1⟩) (c1 : PySem.W.codeIn K cd1 "_law_dip" = true) (k1 : PySem.W.keepIn K (.ref f1) = true)
    {f2 : Addr} {od2 an2 : Option Addr} {sl2 : Array (Option Value)} {oc2 kV2 dc2 pm2 cd2 ct2 : Value} (a2 : PySem.W.nsIn K mainGlobals "_law_sums" = some (some (.ref f2))) (l2 : K.lookup f2 = some ⟨oc2, od2, .func (PySem.W.fnOf "_law_sums" "_law_sums" (defArgs s__law_sums) (defBody s__law_sums) (defScope s__law_sums) .none kV2 dc2 pm2 an2 cd2 ct2), sl2⟩) (c2 : PySem.W.codeIn K cd2 "_law_sums" = true) (k2 : PySem.W.keepIn K (.ref f2) = true)
    {f3 : Addr} {od3 an3 : Option Addr} {sl3 : Array (Option Value)} {oc3 kV3 dc3 pm3 cd3 ct3 : Value} (a3 : PySem.W.nsIn K mainGlobals "_law_counts" = some (some (.ref f3))) (l3 : K.lookup f3 = some ⟨oc3, od3, .func (PySem.W.fnOf "_law_counts" "_law_counts" (defArgs s__law_counts) (defBody s__law_counts) (defScope s__law_counts) .none kV3 dc3 pm3 an3 cd3 ct3), sl3⟩) (c3 : PySem.W.codeIn K cd3 "_law_counts" = true) (k3 : PySem.W.keepIn K (.ref f3) = true)
    {f4 : Addr} {od4 an4 : Option Addr} {sl4 : Array (Option Value)} {oc4 kV4 dc4 pm4 cd4 ct4 : Value} (a4 : PySem.W.nsIn K mainGlobals "are_pieces_like" = some (some (.ref f4))) (l4 : K.lookup f4 = some ⟨oc4, od4, .func (PySem.W.fnOf "are_pieces_like" "are_pieces_like" (defArgs s_are_pieces_like) (defBody s_are_pieces_like) (defScope s_are_pieces_like) .none kV4 dc4 pm4 an4 cd4 ct4), sl4⟩) (c4 : PySem.W.codeIn K cd4 "are_pieces_like" = true) (k4 : PySem.W.keepIn K (.ref f4) = true)
    {f5 : Addr} {od5 an5 : Option Addr} {sl5 : Array (Option Value)} {oc5 kV5 dc5 pm5 cd5 ct5 : Value} (a5 : PySem.W.nsIn K mainGlobals "weight_of" = some (some (.ref f5))) (l5 : K.lookup f5 = some ⟨oc5, od5, .func (PySem.W.fnOf "weight_of" "weight_of" (defArgs s_weight_of) (defBody s_weight_of) (defScope s_weight_of) .none kV5 dc5 pm5 an5 cd5 ct5), sl5⟩) (c5 : PySem.W.codeIn K cd5 "weight_of" = true) (k5 : PySem.W.keepIn K (.ref f5) = true)
    {f6 : Addr} {od6 an6 : Option Addr} {sl6 : Array (Option Value)} {oc6 kV6 dc6 pm6 cd6 ct6 : Value} (a6 : PySem.W.nsIn K mainGlobals "_law_take" = some (some (.ref f6))) (l6 : K.lookup f6 = some ⟨oc6, od6, .func (PySem.W.fnOf "_law_take" "_law_take" (defArgs s__law_take) (defBody s__law_take) (defScope s__law_take) .none kV6 dc6 pm6 an6 cd6 ct6), sl6⟩) (c6 : PySem.W.codeIn K cd6 "_law_take" = true) (k6 : PySem.W.keepIn K (.ref f6) = true)
    {f7 : Addr} {od7 an7 : Option Addr} {sl7 : Array (Option Value)} {oc7 kV7 dc7 pm7 cd7 ct7 : Value} (a7 : PySem.W.nsIn K mainGlobals "_law_word" = some (some (.ref f7))) (l7 : K.lookup f7 = some ⟨oc7, od7, .func (PySem.W.fnOf "_law_word" "_law_word" (defArgs s__law_word) (defBody s__law_word) (defScope s__law_word) .none kV7 dc7 pm7 an7 cd7 ct7), sl7⟩) (c7 : PySem.W.codeIn K cd7 "_law_word" = true) (k7 : PySem.W.keepIn K (.ref f7) = true)
    {f8 : Addr} {od8 an8 : Option Addr} {sl8 : Array (Option Value)} {oc8 kV8 dc8 pm8 cd8 ct8 : Value} (a8 : PySem.W.nsIn K mainGlobals "_law_like" = some (some (.ref f8))) (l8 : K.lookup f8 = some ⟨oc8, od8, .func (PySem.W.fnOf "_law_like" "_law_like" (defArgs s__law_like) (defBody s__law_like) (defScope s__law_like) .none kV8 dc8 pm8 an8 cd8 ct8), sl8⟩) (c8 : PySem.W.codeIn K cd8 "_law_like" = true) (k8 : PySem.W.keepIn K (.ref f8) = true)
    {f9 : Addr} {od9 an9 : Option Addr} {sl9 : Array (Option Value)} {oc9 kV9 dc9 pm9 cd9 ct9 : Value} (a9 : PySem.W.nsIn K mainGlobals "_law_least_sum" = some (some (.ref f9))) (l9 : K.lookup f9 = some ⟨oc9, od9, .func (PySem.W.fnOf "_law_least_sum" "_law_least_sum" (defArgs s__law_least_sum) (defBody s__law_least_sum) (defScope s__law_least_sum) .none kV9 dc9 pm9 an9 cd9 ct9), sl9⟩) (c9 : PySem.W.codeIn K cd9 "_law_least_sum" = true) (k9 : PySem.W.keepIn K (.ref f9) = true)
    {f10 : Addr} {od10 an10 : Option Addr} {sl10 : Array (Option Value)} {oc10 kV10 dc10 pm10 cd10 ct10 : Value} (a10 : PySem.W.nsIn K mainGlobals "count_power" = some (some (.ref f10))) (l10 : K.lookup f10 = some ⟨oc10, od10, .func (PySem.W.fnOf "count_power" "count_power" (defArgs s_count_power) (defBody s_count_power) (defScope s_count_power) .none kV10 dc10 pm10 an10 cd10 ct10), sl10⟩) (c10 : PySem.W.codeIn K cd10 "count_power" = true) (k10 : PySem.W.keepIn K (.ref f10) = true)
    {f11 : Addr} {od11 an11 : Option Addr} {sl11 : Array (Option Value)} {oc11 kV11 dc11 pm11 cd11 ct11 : Value} (a11 : PySem.W.nsIn K mainGlobals "sum_power" = some (some (.ref f11))) (l11 : K.lookup f11 = some ⟨oc11, od11, .func (PySem.W.fnOf "sum_power" "sum_power" (defArgs s_sum_power) (defBody s_sum_power) (defScope s_sum_power) .none kV11 dc11 pm11 an11 cd11 ct11), sl11⟩) (c11 : PySem.W.codeIn K cd11 "sum_power" = true) (k11 : PySem.W.keepIn K (.ref f11) = true)
    {f12 : Addr} {od12 an12 : Option Addr} {sl12 : Array (Option Value)} {oc12 kV12 dc12 pm12 cd12 ct12 : Value} (a12 : PySem.W.nsIn K mainGlobals "_law_power" = some (some (.ref f12))) (l12 : K.lookup f12 = some ⟨oc12, od12, .func (PySem.W.fnOf "_law_power" "_law_power" (defArgs s__law_power) (defBody s__law_power) (defScope s__law_power) .none kV12 dc12 pm12 an12 cd12 ct12), sl12⟩) (c12 : PySem.W.codeIn K cd12 "_law_power" = true) (k12 : PySem.W.keepIn K (.ref f12) = true)
    {f13 : Addr} {od13 an13 : Option Addr} {sl13 : Array (Option Value)} {oc13 kV13 dc13 pm13 cd13 ct13 : Value} (a13 : PySem.W.nsIn K mainGlobals "_law_mixed_word" = some (some (.ref f13))) (l13 : K.lookup f13 = some ⟨oc13, od13, .func (PySem.W.fnOf "_law_mixed_word" "_law_mixed_word" (defArgs s__law_mixed_word) (defBody s__law_mixed_word) (defScope s__law_mixed_word) .none kV13 dc13 pm13 an13 cd13 ct13), sl13⟩) (c13 : PySem.W.codeIn K cd13 "_law_mixed_word" = true) (k13 : PySem.W.keepIn K (.ref f13) = true)
    {f14 : Addr} {od14 an14 : Option Addr} {sl14 : Array (Option Value)} {oc14 kV14 dc14 pm14 cd14 ct14 : Value} (a14 : PySem.W.nsIn K mainGlobals "_law_well" = some (some (.ref f14))) (l14 : K.lookup f14 = some ⟨oc14, od14, .func (PySem.W.fnOf "_law_well" "_law_well" (defArgs s__law_well) (defBody s__law_well) (defScope s__law_well) .none kV14 dc14 pm14 an14 cd14 ct14), sl14⟩) (c14 : PySem.W.codeIn K cd14 "_law_well" = true) (k14 : PySem.W.keepIn K (.ref f14) = true)
    {f15 : Addr} {od15 an15 : Option Addr} {sl15 : Array (Option Value)} {oc15 kV15 dc15 pm15 cd15 ct15 : Value} (a15 : PySem.W.nsIn K mainGlobals "law" = some (some (.ref f15))) (l15 : K.lookup f15 = some ⟨oc15, od15, .func (PySem.W.fnOf "law" "law" (defArgs s_law) (defBody s_law) (defScope s_law) .none kV15 dc15 pm15 an15 cd15 ct15), sl15⟩) (c15 : PySem.W.codeIn K cd15 "law" = true) (k15 : PySem.W.keepIn K (.ref f15) = true)
    (z_abs : PySem.W.nsIn K mainGlobals "abs" = some none)
    (z_all : PySem.W.nsIn K mainGlobals "all" = some none)
    (z_int : PySem.W.nsIn K mainGlobals "int" = some none)
    (z_len : PySem.W.nsIn K mainGlobals "len" = some none)
    (z_list : PySem.W.nsIn K mainGlobals "list" = some none)
    (z_range : PySem.W.nsIn K mainGlobals "range" = some none)
    (z_repr : PySem.W.nsIn K mainGlobals "repr" = some none)
    (z_sum : PySem.W.nsIn K mainGlobals "sum" = some none)
    (z_tuple : PySem.W.nsIn K mainGlobals "tuple" = some none)
    (z_zip : PySem.W.nsIn K mainGlobals "zip" = some none)
    {v_LETTERS : Value} (e_LETTERS : PySem.W.nsIn K mainGlobals "LETTERS" = some (some v_LETTERS)) (rc_LETTERS : L2.RelV (.str "abcd") v_LETTERS)
    : ∀ base : Heap, K.In base → base.Ns mainGlobals mg → LawOk PySem.Challenge.pw_wordstems_k82_whole_count_powers w K mg base fa 63 := by
  have e := hfa.symm.trans (PySem.W.mg_of X G a15)
  cases e
  intro base _ _
  have m_abs := PySem.W.mg_none_of X G z_abs
  have m_all := PySem.W.mg_none_of X G z_all
  have m_int := PySem.W.mg_none_of X G z_int
  have m_len := PySem.W.mg_none_of X G z_len
  have m_list := PySem.W.mg_none_of X G z_list
  have m_range := PySem.W.mg_none_of X G z_range
  have m_repr := PySem.W.mg_none_of X G z_repr
  have m_sum := PySem.W.mg_none_of X G z_sum
  have m_tuple := PySem.W.mg_none_of X G z_tuple
  have m_zip := PySem.W.mg_none_of X G z_zip
  have mc_LETTERS := PySem.W.mg_of X G e_LETTERS
  have R_counts_of : Raw K mg "counts_of" s_counts_of ["word"] := Raw.mk' (fun_mk l0 c0 k0) (PySem.W.mg_of X G a0) (fun _ _ _ _ _ _ us hl => match us, hl with | [_], _ => rfl)
  have R__law_dip : Raw K mg "_law_dip" s__law_dip ["well", "many"] := Raw.mk' (fun_mk l1 c1 k1) (PySem.W.mg_of X G a1) (fun _ _ _ _ _ _ us hl => match us, hl with | [_, _], _ => rfl)
  have R__law_sums : Raw K mg "_law_sums" s__law_sums ["word", "weights"] := Raw.mk' (fun_mk l2 c2 k2) (PySem.W.mg_of X G a2) (fun _ _ _ _ _ _ us hl => match us, hl with | [_, _], _ => rfl)
  have R__law_counts : Raw K mg "_law_counts" s__law_counts ["word"] := Raw.mk' (fun_mk l3 c3 k3) (PySem.W.mg_of X G a3) (fun _ _ _ _ _ _ us hl => match us, hl with | [_], _ => rfl)
  have R_are_pieces_like : Raw K mg "are_pieces_like" s_are_pieces_like ["word", "place", "size", "order"] := Raw.mk' (fun_mk l4 c4 k4) (PySem.W.mg_of X G a4) (fun _ _ _ _ _ _ us hl => match us, hl with | [_, _, _, _], _ => rfl)
  have R_weight_of : Raw K mg "weight_of" s_weight_of ["word", "weights"] := Raw.mk' (fun_mk l5 c5 k5) (PySem.W.mg_of X G a5) (fun _ _ _ _ _ _ us hl => match us, hl with | [_, _], _ => rfl)
  have R__law_take : Raw K mg "_law_take" s__law_take ["well", "items"] := Raw.mk' (fun_mk l6 c6 k6) (PySem.W.mg_of X G a6) (fun _ _ _ _ _ _ us hl => match us, hl with | [_, _], _ => rfl)
  have R__law_word : Raw K mg "_law_word" s__law_word ["well", "most", "kinds"] := Raw.mk' (fun_mk l7 c7 k7) (PySem.W.mg_of X G a7) (fun _ _ _ _ _ _ us hl => match us, hl with | [_, _, _], _ => rfl)
  have R__law_like : Raw K mg "_law_like" s__law_like ["word", "place", "size", "order"] := Raw.mk' (fun_mk l8 c8 k8) (PySem.W.mg_of X G a8) (fun _ _ _ _ _ _ us hl => match us, hl with | [_, _, _, _], _ => rfl)
  have R__law_least_sum : Raw K mg "_law_least_sum" s__law_least_sum ["word", "weights", "order"] := Raw.mk' (fun_mk l9 c9 k9) (PySem.W.mg_of X G a9) (fun _ _ _ _ _ _ us hl => match us, hl with | [_, _, _], _ => rfl)
  have R_count_power : Raw K mg "count_power" s_count_power ["word", "order"] := Raw.mk' (fun_mk l10 c10 k10) (PySem.W.mg_of X G a10) (fun _ _ _ _ _ _ us hl => match us, hl with | [_, _], _ => rfl)
  have R_sum_power : Raw K mg "sum_power" s_sum_power ["word", "weights", "order"] := Raw.mk' (fun_mk l11 c11 k11) (PySem.W.mg_of X G a11) (fun _ _ _ _ _ _ us hl => match us, hl with | [_, _, _], _ => rfl)
  have R__law_power : Raw K mg "_law_power" s__law_power ["word", "order"] := Raw.mk' (fun_mk l12 c12 k12) (PySem.W.mg_of X G a12) (fun _ _ _ _ _ _ us hl => match us, hl with | [_, _], _ => rfl)
  have R__law_mixed_word : Raw K mg "_law_mixed_word" s__law_mixed_word ["well"] := Raw.mk' (fun_mk l13 c13 k13) (PySem.W.mg_of X G a13) (fun _ _ _ _ _ _ us hl => match us, hl with | [_], _ => rfl)
  have R__law_well : Raw K mg "_law_well" s__law_well ["script"] := Raw.mk' (fun_mk l14 c14 k14) (PySem.W.mg_of X G a14) (fun _ _ _ _ _ _ us hl => match us, hl with | [_], _ => rfl)
  have F_counts_of := ok_counts_of (P := PySem.Challenge.pw_wordstems_k82_whole_count_powers) (w := w) (base := base) R_counts_of m_tuple mc_LETTERS rc_LETTERS
  have F__law_dip := ok__law_dip (P := PySem.Challenge.pw_wordstems_k82_whole_count_powers) (w := w) (base := base) R__law_dip m_int
  have F__law_sums := ok__law_sums (P := PySem.Challenge.pw_wordstems_k82_whole_count_powers) (w := w) (base := base) R__law_sums 
  have F__law_counts := ok__law_counts (P := PySem.Challenge.pw_wordstems_k82_whole_count_powers) (w := w) (base := base) R__law_counts m_tuple
  have F_are_pieces_like := ok_are_pieces_like (P := PySem.Challenge.pw_wordstems_k82_whole_count_powers) (w := w) (base := base) R_are_pieces_like m_all m_len m_range F_counts_of
  have F_weight_of := ok_weight_of (P := PySem.Challenge.pw_wordstems_k82_whole_count_powers) (w := w) (base := base) R_weight_of m_sum m_zip F_counts_of
  have F__law_take := ok__law_take (P := PySem.Challenge.pw_wordstems_k82_whole_count_powers) (w := w) (base := base) R__law_take m_len F__law_dip
  have F__law_word := ok__law_word (P := PySem.Challenge.pw_wordstems_k82_whole_count_powers) (w := w) (base := base) R__law_word m_len m_range F__law_dip
  have F__law_like := ok__law_like (P := PySem.Challenge.pw_wordstems_k82_whole_count_powers) (w := w) (base := base) R__law_like m_range F__law_counts
  have F__law_least_sum := ok__law_least_sum (P := PySem.Challenge.pw_wordstems_k82_whole_count_powers) (w := w) (base := base) R__law_least_sum m_len m_range F__law_sums
  have F_count_power := ok_count_power (P := PySem.Challenge.pw_wordstems_k82_whole_count_powers) (w := w) (base := base) R_count_power m_len m_range F_are_pieces_like
  have F_sum_power := ok_sum_power (P := PySem.Challenge.pw_wordstems_k82_whole_count_powers) (w := w) (base := base) R_sum_power m_all m_len m_range F_weight_of
  have F__law_power := ok__law_power (P := PySem.Challenge.pw_wordstems_k82_whole_count_powers) (w := w) (base := base) R__law_power m_len m_range F__law_like
  have F__law_mixed_word := ok__law_mixed_word (P := PySem.Challenge.pw_wordstems_k82_whole_count_powers) (w := w) (base := base) R__law_mixed_word m_len m_list F__law_dip F__law_take F__law_word
  have W := ok_well (P := PySem.Challenge.pw_wordstems_k82_whole_count_powers) (w := w) (base := base) R__law_well m_abs m_int m_len
  exact ok_law (fun_mk l15 c15 k15) (fun s u => .of_eq rfl) m_range m_repr m_tuple F__law_dip F__law_least_sum F__law_mixed_word F__law_power F__law_take F_count_power F_sum_power W
end
end DL
open PySem PySem.W PyProof.Rows
set_option maxHeartbeats 0 in
theorem PySem.Challenge.cw_wordstems_k82_whole_count_powers_holds : PySem.Challenge.rw_wordstems_k82_whole_count_powers.Holds := by
  w_on; o_law; k_head; (case hw => w_witness2)
  k_fill
  refine DL.walkG (l := PySem.Challenge.rw_wordstems_k82_whole_count_powers) (n := 63) rfl (by decide) rfl (fun w h Y => PySem.W.kIn_of Y) ?F
  case F =>
    intro w mg fa h KX G hmg
    refine' DL.all_mk KX G hmg ?a0 ?l0 ?c0 ?k0 ?a1 ?l1 ?c1 ?k1 ?a2 ?l2 ?c2 ?k2 ?a3 ?l3 ?c3 ?k3 ?a4 ?l4 ?c4 ?k4 ?a5 ?l5 ?c5 ?k5 ?a6 ?l6 ?c6 ?k6 ?a7 ?l7 ?c7 ?k7 ?a8 ?l8 ?c8 ?k8 ?a9 ?l9 ?c9 ?k9 ?a10 ?l10 ?c10 ?k10 ?a11 ?l11 ?c11 ?k11 ?a12 ?l12 ?c12 ?k12 ?a13 ?l13 ?c13 ?k13 ?a14 ?l14 ?c14 ?k14 ?a15 ?l15 ?c15 ?k15 ?z_abs ?z_all ?z_int ?z_len ?z_list ?z_range ?z_repr ?z_sum ?z_tuple ?z_zip ?e_LETTERS ?rc_LETTERS
    (case a0 => k_is); (case l0 => k_is); (case c0 => k_is); (case k0 => k_is); (case a1 => k_is); (case l1 => k_is); (case c1 => k_is); (case k1 => k_is); (case a2 => k_is); (case l2 => k_is); (case c2 => k_is); (case k2 => k_is); (case a3 => k_is); (case l3 => k_is); (case c3 => k_is); (case k3 => k_is); (case a4 => k_is); (case l4 => k_is); (case c4 => k_is); (case k4 => k_is); (case a5 => k_is); (case l5 => k_is); (case c5 => k_is); (case k5 => k_is); (case a6 => k_is); (case l6 => k_is); (case c6 => k_is); (case k6 => k_is); (case a7 => k_is); (case l7 => k_is); (case c7 => k_is); (case k7 => k_is); (case a8 => k_is); (case l8 => k_is); (case c8 => k_is); (case k8 => k_is); (case a9 => k_is); (case l9 => k_is); (case c9 => k_is); (case k9 => k_is); (case a10 => k_is); (case l10 => k_is); (case c10 => k_is); (case k10 => k_is); (case a11 => k_is); (case l11 => k_is); (case c11 => k_is); (case k11 => k_is); (case a12 => k_is); (case l12 => k_is); (case c12 => k_is); (case k12 => k_is); (case a13 => k_is); (case l13 => k_is); (case c13 => k_is); (case k13 => k_is); (case a14 => k_is); (case l14 => k_is); (case c14 => k_is); (case k14 => k_is); (case a15 => k_is); (case l15 => k_is); (case c15 => k_is); (case k15 => k_is); (case z_abs => k_is); (case z_all => k_is); (case z_int => k_is); (case z_len => k_is); (case z_list => k_is); (case z_range => k_is); (case z_repr => k_is); (case z_sum => k_is); (case z_tuple => k_is); (case z_zip => k_is); (case e_LETTERS => k_is); (case rc_LETTERS => exact ⟨_, rfl⟩)
