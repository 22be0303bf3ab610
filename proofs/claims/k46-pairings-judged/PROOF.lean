import PyProof.Rows.All
import Wide.All
import OpenK.AllK
import Wide.FinOn
import HandS.ForMost
import HandS.ForExc
import HandS.IsInst
import HandS.Zip
import HandS.TupAny
import HandS.TupMul
import HandS.Wide
import HandS.Flow
import HandS.Small
import HandS.CallSlots
import HandS.EndBits
import HandS.Conv
import HandS.OwnEq
import KE.GoesEnum
import HandS.Style
import HandS.Lambda
import HandS.Head0
import HandS.Head1
import HandS.Head2
import HandS.HeadEnd
import HandS.HeadHook1
import HandS.HeadHook2
import HandS.ExcIs
import HandS.NestedK
import HandS.HeadHook4
import HandS.HeadWalk
import HandS.Deep
import HandS.Text
import HandS.More
import PyProof.StrOps2
import PyProof.SumAny
import KE.GoesMore
import HandS.ExcValue
import HandS.ExcOwn
import KE.KRevSl
import KE.DataFind
import HandS.DictComp
import HandS.ExcInit
import KE.KExcSuper
import KE.KSuper
import KE.KExcIs
import HandS.ExcField
import HandS.SortInts
import HandS.WordsDict
import HandS.TupLen
import KE.SortData
import PySem.Challenge.RW_mapwebs_k46_whole_pairings_and_bans_judg
set_option Elab.async false
set_option linter.all false
set_option maxRecDepth 100000
set_option maxHeartbeats 4000000
set_option maxRecDepth 100000
set_option maxHeartbeats 1000000
/-! # Data (D) in the place of values and heaps -/
namespace Dl
open PySem PySem.Spec PyProof.Rows L2

/-- plain data: what a name may hold. own: a list that this frame alone holds and may change; pur: the law's source of draws; any: exactly this value -/
inductive D where
  | non | bl (b : Bool) | int (i : Int) | str (x : Str)
  | tup (xs : List D) | lst (xs : List D) | own (xs : List D)
  | obj (C : Addr) (ns : List Str) (ds : List D)
  | dck (ks : List Key) (ds : List D) | dct (ks : List (List Key)) (ds : List D)
  | pur | any (v : V) | odk (ks : List Key) (ds : List D)

/-- no table of code objects -/
def notT : HO → Bool
  | .tbl _ => false
  | _ => true
/-- all but tables stays -/
def SameK (H H' : Hp) : Prop := ∀ b o, H b = some o → notT o = true → H' b = some o
theorem SameK.at {H H' : Hp} (e : SameK H H') (b : Addr) (o : HO) (h : H b = some o) (n : notT o = true := by rfl) : H' b = some o := e b o h n
theorem SameK.refl (H : Hp) : SameK H H := fun _ _ h _ => h
theorem SameK.trans {H H1 H2 : Hp} (a : SameK H H1) (b : SameK H1 H2) : SameK H H2 := fun c o h n => b c o (a c o h n) n
/-- all stays -/
def Ext (H H' : Hp) : Prop := ∀ b o, H b = some o → H' b = some o
theorem Ext.refl (H : Hp) : Ext H H := fun _ _ h => h
theorem Ext.trans {H H1 H2 : Hp} (a : Ext H H1) (b : Ext H1 H2) : Ext H H2 := fun c o h => b c o (a c o h)
theorem Ext.k {H H' : Hp} (e : Ext H H') : SameK H H' := fun b o h _ => e b o h
def mutO : HO → Bool
  | .lst _ => true
  | .ins _ _ _ => true
  | .own _ => true
  | .dK _ => true
  | .dT _ => true
  | _ => false
def MutAt (H : Hp) (l : Addr) : Prop := ∃ o, mutO o = true ∧ H l = some o
def hide (L : List Addr) (H : Hp) : Hp := fun b => if b ∈ L then none else H b
structure Pu where
  P : V → Hp → Prop
  mono : ∀ v H H', SameK H H' → P v H → P v H'
  G : Hp → Prop := fun _ => True
  ge : ∀ H H', Ext H H' → G H → G H' := by exact fun _ _ _ z => z
  gu : ∀ (H : Hp) (l : Addr) (o : HO), MutAt H l → mutO o = true → G H → G (upd H l o) := by exact fun _ _ _ _ _ z => z
  gh : ∀ (L : List Addr) (H : Hp), (∀ l ∈ L, MutAt H l) → G H → G (hide L H) := by exact fun _ _ _ z => z
/-- what a step leaves: all but tables, and what holds of the whole heap -/
structure Same (U : Pu) (H H' : Hp) : Prop where
  k : SameK H H'
  g : U.G H → U.G H'
theorem Same.refl {U : Pu} (H : Hp) : Same U H H := ⟨SameK.refl H, fun z => z⟩
theorem Same.trans {U : Pu} {H H1 H2 : Hp} (a : Same U H H1) (b : Same U H1 H2) : Same U H H2 := ⟨a.k.trans b.k, fun z => b.g (a.g z)⟩
/-- nothing but a table of code objects stands there -/
def NoA (H : Hp) (l : Addr) : Prop := ∀ o, H l = some o → notT o = false
theorem NoA.of {H : Hp} {l : Addr} (h : H l = none) : NoA H l := fun o e => by
  rw [h] at e
  cases e
theorem NoA.ne {H : Hp} {b l : Addr} {o : HO} (h : NoA H l) (e : H b = some o) (n : notT o = true := by rfl) : b ≠ l := fun z => by
  rw [z] at e
  have := h o e
  rw [n] at this
  cases this
theorem Ext.s {U : Pu} {H H' : Hp} (e : Ext H H') : Same U H H' := ⟨e.k, U.ge _ _ e⟩
theorem Same.at {U : Pu} {H H' : Hp} (e : Same U H H') (b : Addr) (o : HO) (h : H b = some o) (n : notT o = true := by rfl) : H' b = some o := e.k b o h n
theorem Same.free {U : Pu} {H H' : Hp} (e : Same U H H') {l : Addr} (h : NoA H' l) : NoA H l := fun o q => by
  cases n : notT o with
  | false => rfl
  | true => exact absurd rfl (h.ne (e.k _ _ q n) n)
/-- a list that was not there is changed -/
theorem Same.set {U : Pu} {A H : Hp} {l : Addr} {o : HO} (s : Same U A H) (hl : MutAt H l) (hA : NoA A l) (m : mutO o = true) : Same U A (upd H l o) :=
  ⟨fun b u h n => by
    rw [upd_ne (hA.ne h n)]
    exact s.k b u h n, fun z => U.gu _ _ _ hl m (s.g z)⟩
instance {U : Pu} {H H' : Hp} : CoeOut (Same U H H') (SameK H H') := ⟨Same.k⟩

section
variable (K : PySem.W.Frag) (U : Pu) (H : Hp)
mutual
def Rep : D → V → Prop
  | .non, v => v = .non
  | .bl b, v => v = .bl b
  | .int i, v => v = .int i
  | .str x, v => v = .str x
  | .tup xs, v => ∃ a vs, v = .ref a ∧ SqT K H a vs ∧ Reps xs vs ∧ xs.length ≤ sizeLine
  | .lst xs, v => ∃ a vs, v = .ref a ∧ H a = some (.lst vs) ∧ Reps xs vs ∧ xs.length ≤ sizeLine
  | .own _, _ => False
  | .obj C ns ds, v => ∃ a dx vs, v = .ref a ∧ H a = some (.ins C dx (ns.zip vs)) ∧ H dx = some (.own a) ∧ Reps ds vs
  | .dck ks ds, v => ∃ a vs, v = .ref a ∧ H a = some (.dK (ks.zip vs)) ∧ Reps ds vs ∧ ks.length = ds.length
  | .dct ks ds, v => ∃ a vs, v = .ref a ∧ H a = some (.dT (ks.zip vs)) ∧ Reps ds vs ∧ ks.length = ds.length
  | .pur, v => U.P v H
  | .any w, v => v = w
  | .odk _ _, _ => False
def Reps : List D → List V → Prop
  | [], vs => vs = []
  | d :: ds, vs => ∃ v r, vs = v :: r ∧ Rep d v ∧ Reps ds r
end
end

theorem hide_nil (H : Hp) : hide [] H = H := by funext b; simp [hide]
theorem hide_same {L : List Addr} {H H' : Hp} (e : SameK H H') : SameK (hide L H) (hide L H') := fun b o h n => by
  unfold hide at h ⊢
  split at h
  · cases h
  · rename_i hb
    rw [if_neg hb]
    exact e b o h n
theorem hide_ext {L : List Addr} {H : Hp} : Ext (hide L H) H := fun b o h => by
  unfold hide at h
  split at h
  · cases h
  · exact h
theorem hide_at {L : List Addr} {H : Hp} {b : Addr} {o : HO} (h : hide L H b = some o) : b ∉ L ∧ H b = some o := by
  unfold hide at h
  split at h
  · cases h
  · rename_i hb
    exact ⟨hb, h⟩
theorem hide_ne {L : List Addr} {H : Hp} {b : Addr} (hb : b ∉ L) : hide L H b = H b := by
  unfold hide
  rw [if_neg hb]

section
variable {K : PySem.W.Frag} {U : Pu} {H H' : Hp}
theorem seqL_mono {a : Addr} {xs : List V} (e : SameK H H') (h : SqL K H a xs) : SqL K H' a xs := by
  rcases h with (h | ⟨o, h⟩) | h
  · exact .inl (.inl (e.at _ _ h))
  · exact .inl (.inr ⟨o, e.at _ _ h⟩)
  · exact .inr h
theorem seqT_mono {a : Addr} {xs : List V} (e : SameK H H') (h : SqT K H a xs) : SqT K H' a xs := by
  rcases h with (h | ⟨o, h⟩) | h
  · exact .inl (.inl (e.at _ _ h))
  · exact .inl (.inr ⟨o, e.at _ _ h⟩)
  · exact .inr h
mutual
theorem Rep.mono (e : SameK H H') : ∀ (d : D) (v : V), Rep K U H d v → Rep K U H' d v
  | .non, v, h => h
  | .bl b, v, h => h
  | .int i, v, h => h
  | .str x, v, h => h
  | .tup xs, v, h => by
    obtain ⟨a, vs, h1, h2, h3, h4⟩ := h
    exact ⟨a, vs, h1, seqT_mono e h2, Reps.mono e xs vs h3, h4⟩
  | .lst xs, v, h => by
    obtain ⟨a, vs, h1, h2, h3, h4⟩ := h
    exact ⟨a, vs, h1, e.at _ _ h2, Reps.mono e xs vs h3, h4⟩
  | .own _, v, h => h
  | .obj C ns ds, v, h => by
    obtain ⟨a, dx, vs, h1, h2, h3, h4⟩ := h
    exact ⟨a, dx, vs, h1, e.at _ _ h2, e.at _ _ h3, Reps.mono e ds vs h4⟩
  | .dck ks ds, v, h => by
    obtain ⟨a, vs, h1, h2, h3, h4⟩ := h
    exact ⟨a, vs, h1, e.at _ _ h2, Reps.mono e ds vs h3, h4⟩
  | .dct ks ds, v, h => by
    obtain ⟨a, vs, h1, h2, h3, h4⟩ := h
    exact ⟨a, vs, h1, e.at _ _ h2, Reps.mono e ds vs h3, h4⟩
  | .pur, v, h => U.mono _ _ _ e h
  | .any w, v, h => h
  | .odk _ _, v, h => h
theorem Reps.mono (e : SameK H H') : ∀ (ds : List D) (vs : List V), Reps K U H ds vs → Reps K U H' ds vs
  | [], vs, h => h
  | d :: ds, vs, h => by
    obtain ⟨v, r, h1, h2, h3⟩ := h
    exact ⟨v, r, h1, Rep.mono e d v h2, Reps.mono e ds r h3⟩
end
theorem Reps.len : ∀ {ds : List D} {vs : List V}, Reps K U H ds vs → ds.length = vs.length
  | [], vs, h => by
    rw [show vs = [] from h]
    rfl
  | d :: ds, vs, h => by
    obtain ⟨v, r, rfl, _, h3⟩ := h
    simp [Reps.len h3]
theorem Reps.get : ∀ {ds : List D} {vs : List V} {i : Nat} {d : D}, Reps K U H ds vs → ds[i]? = some d → ∃ v, vs[i]? = some v ∧ Rep K U H d v
  | [], vs, i, d, _, e => by simp at e
  | d :: ds, vs, 0, d', h, e => by
    obtain ⟨v, r, rfl, h2, h3⟩ := h
    simp at e
    subst e
    exact ⟨v, by simp, h2⟩
  | d :: ds, vs, i + 1, d', h, e => by
    obtain ⟨v, r, rfl, h2, h3⟩ := h
    obtain ⟨w, g1, g2⟩ := Reps.get (i := i) h3 (by simpa using e)
    exact ⟨w, by simpa using g1, g2⟩
theorem Reps.getV : ∀ {ds : List D} {vs : List V} {i : Nat} {v : V}, Reps K U H ds vs → vs[i]? = some v → ∃ d, ds[i]? = some d ∧ Rep K U H d v
  | [], vs, i, v, h, e => by rw [show vs = [] from h] at e; simp at e
  | d :: ds, vs, 0, v', h, e => by
    obtain ⟨v, r, rfl, h2, h3⟩ := h
    simp at e
    subst e
    exact ⟨d, by simp, h2⟩
  | d :: ds, vs, i + 1, v', h, e => by
    obtain ⟨v, r, rfl, h2, h3⟩ := h
    obtain ⟨w, g1, g2⟩ := Reps.getV (i := i) h3 (by simpa using e)
    exact ⟨w, by simpa using g1, g2⟩
theorem Reps.app : ∀ {ds es : List D} {vs ws : List V}, Reps K U H ds vs → Reps K U H es ws → Reps K U H (ds ++ es) (vs ++ ws)
  | [], es, vs, ws, h, g => by rw [show vs = [] from h]; exact g
  | d :: ds, es, vs, ws, h, g => by
    obtain ⟨v, r, rfl, h2, h3⟩ := h
    exact ⟨v, r ++ ws, rfl, h2, Reps.app h3 g⟩
theorem Reps.one {d : D} {v : V} (h : Rep K U H d v) : Reps K U H [d] [v] := ⟨v, [], rfl, h, rfl⟩
theorem Reps.cons {d : D} {v : V} {ds : List D} {vs : List V} (h : Rep K U H d v) (g : Reps K U H ds vs) : Reps K U H (d :: ds) (v :: vs) := ⟨v, vs, rfl, h, g⟩
theorem Reps.take : ∀ (n : Nat) {ds : List D} {vs : List V}, Reps K U H ds vs → Reps K U H (ds.take n) (vs.take n)
  | 0, _, _, _ => by simp [Reps]
  | n + 1, [], vs, h => by rw [show vs = [] from h]; simp [Reps]
  | n + 1, d :: ds, vs, h => by
    obtain ⟨v, r, rfl, h2, h3⟩ := h
    exact ⟨v, r.take n, by simp, h2, Reps.take n h3⟩
theorem Reps.drop : ∀ (n : Nat) {ds : List D} {vs : List V}, Reps K U H ds vs → Reps K U H (ds.drop n) (vs.drop n)
  | 0, _, _, h => by simpa using h
  | n + 1, [], vs, h => by rw [show vs = [] from h]; simp [Reps]
  | n + 1, d :: ds, vs, h => by
    obtain ⟨v, r, rfl, h2, h3⟩ := h
    simpa using Reps.drop n h3
theorem Reps.set : ∀ (n : Nat) {ds : List D} {vs : List V} {d : D} {v : V}, Reps K U H ds vs → Rep K U H d v → Reps K U H (ds.set n d) (vs.set n v)
  | _, [], vs, _, _, h, _ => by rw [show vs = [] from h]; simp [Reps]
  | 0, d :: ds, vs, d', v', h, g => by
    obtain ⟨v, r, rfl, h2, h3⟩ := h
    exact ⟨v', r, by simp, g, h3⟩
  | n + 1, d :: ds, vs, d', v', h, g => by
    obtain ⟨v, r, rfl, h2, h3⟩ := h
    exact ⟨v, r.set n v', by simp, h2, Reps.set n h3 g⟩
theorem Reps.rev : ∀ {ds : List D} {vs : List V}, Reps K U H ds vs → Reps K U H ds.reverse vs.reverse
  | [], vs, h => by rw [show vs = [] from h]; simp [Reps]
  | d :: ds, vs, h => by
    obtain ⟨v, r, rfl, h2, h3⟩ := h
    rw [List.reverse_cons, List.reverse_cons]
    exact Reps.app (Reps.rev h3) (Reps.one h2)
theorem Reps.rept {d : D} {v : V} (h : Rep K U H d v) : ∀ n, Reps K U H (List.replicate n d) (List.replicate n v)
  | 0 => by simp [Reps]
  | n + 1 => ⟨v, List.replicate n v, by simp [List.replicate_succ], h, Reps.rept h n⟩
theorem Reps.ints : ∀ (ns : List Int) {vs : List V}, Reps K U H (ns.map D.int) vs → vs = ns.map V.int
  | [], vs, h => h
  | n :: ns, vs, h => by
    obtain ⟨v, r, rfl, h2, h3⟩ := h
    rw [show v = .int n from h2, Reps.ints ns h3]
    rfl
theorem Reps.of_ints : ∀ (ns : List Int), Reps K U H (ns.map D.int) (ns.map V.int)
  | [] => rfl
  | n :: ns => ⟨.int n, ns.map V.int, rfl, rfl, Reps.of_ints ns⟩
theorem Reps.bls : ∀ (bs : List Bool) {vs : List V}, Reps K U H (bs.map D.bl) vs → vs = bs.map V.bl
  | [], vs, h => h
  | n :: ns, vs, h => by
    obtain ⟨v, r, rfl, h2, h3⟩ := h
    rw [show v = .bl n from h2, Reps.bls ns h3]
    rfl
theorem Reps.strs : ∀ (bs : List Str) {vs : List V}, Reps K U H (bs.map D.str) vs → vs = bs.map V.str
  | [], vs, h => h
  | n :: ns, vs, h => by
    obtain ⟨v, r, rfl, h2, h3⟩ := h
    rw [show v = .str n from h2, Reps.strs ns h3]
    rfl
end

/-- what a value is; L the lists that may change, Lb those of the callers among them -/
def RepO (K : PySem.W.Frag) (U : Pu) (Lb L : List Addr) (H : Hp) (d : D) (v : V) : Prop := match d with
  | .own xs => ∃ l vs, v = .ref l ∧ l ∈ L ∧ l ∉ Lb ∧ H l = some (.lst vs) ∧ Reps K U (hide L H) xs vs ∧ xs.length ≤ sizeLine
  | .odk ks ds => ∃ l vs, v = .ref l ∧ l ∈ L ∧ l ∉ Lb ∧ H l = some (.dK (ks.zip vs)) ∧ Reps K U (hide L H) ds vs ∧ ks.length = ds.length
  | d => Rep K U (hide L H) d v
theorem MutAt.mono {H H' : Hp} {l : Addr} (e : SameK H H') (h : MutAt H l) : MutAt H' l := let ⟨o, m, g⟩ := h; ⟨o, m, e _ _ g (by cases o <;> first | rfl | cases m)⟩
theorem MutAt.lst {H : Hp} {l : Addr} {xs : List V} (h : H l = some (.lst xs)) : MutAt H l := ⟨_, rfl, h⟩
theorem MutAt.no {H : Hp} {l : Addr} (h : MutAt H l) (e : H l = none) : False := by
  obtain ⟨o, _, g⟩ := h
  rw [e] at g
  cases g
theorem MutAt.tup {H : Hp} {l : Addr} {xs : List V} (h : MutAt H l) (e : H l = some (.tup xs)) : False := by
  obtain ⟨o, m, g⟩ := h
  rw [e] at g
  cases g
  cases m
/-- not own -/
def D.still : D → Bool
  | .own _ => false
  | .odk _ _ => false
  | _ => true
/-- own lists no longer changed -/
def D.frz : D → D
  | .own xs => .lst xs
  | .odk ks ds => .dck ks ds
  | d => d
theorem hide_le {L Lb : List Addr} {H : Hp} (h : ∀ l ∈ Lb, l ∈ L) : SameK (hide L H) (hide Lb H) := fun b o e n => by
  obtain ⟨h1, h2⟩ := hide_at e
  rw [hide_ne fun z => h1 (h b z)]
  exact h2
section
variable {K : PySem.W.Frag} {U : Pu} {Lb L : List Addr} {H H' : Hp}
theorem RepO.monoK (e : SameK H H') {d : D} {v : V} (h : RepO K U Lb L H d v) : RepO K U Lb L H' d v := by
  cases d with
  | own xs =>
    obtain ⟨l, vs, h1, h2, h2', h3, h4, h5⟩ := h
    exact ⟨l, vs, h1, h2, h2', e.at _ _ h3, Reps.mono (hide_same e) _ _ h4, h5⟩
  | odk ks ds =>
    obtain ⟨l, vs, h1, h2, h2', h3, h4, h5⟩ := h
    exact ⟨l, vs, h1, h2, h2', e.at _ _ h3, Reps.mono (hide_same e) _ _ h4, h5⟩
  | _ => exact Rep.mono (hide_same e) _ _ h
theorem RepO.mono (e : Same U H H') {d : D} {v : V} (h : RepO K U Lb L H d v) : RepO K U Lb L H' d v := h.monoK e.k
theorem RepO.of_rep {d : D} {v : V} (h : Rep K U (hide L H) d v) : RepO K U Lb L H d v := by
  cases d with
  | own xs => exact False.elim h
  | odk _ _ => exact False.elim h
  | _ => exact h
theorem RepO.rep {d : D} {v : V} (h : RepO K U Lb L H d v) (s : d.still = true) : Rep K U (hide L H) d v := by
  cases d with
  | own xs => cases s
  | odk _ _ => cases s
  | _ => exact h
theorem RepO.frz {d : D} {v : V} (hs : ∀ l ∈ Lb, l ∈ L) (h : RepO K U Lb L H d v) : Rep K U (hide Lb H) d.frz v := by
  cases d with
  | own xs =>
    obtain ⟨l, vs, h1, h2, h2', h3, h4, h5⟩ := h
    exact ⟨l, vs, h1, (hide_ne h2').trans h3, Reps.mono (hide_le hs) _ _ h4, h5⟩
  | odk ks ds =>
    obtain ⟨l, vs, h1, h2, h2', h3, h4, h5⟩ := h
    exact ⟨l, vs, h1, (hide_ne h2').trans h3, Reps.mono (hide_le hs) _ _ h4, h5⟩
  | _ => exact Rep.mono (hide_le hs) _ _ h
/-- a sequence that is read: its items -/
theorem RepO.lst {xs : List D} {v : V} (h : RepO K U Lb L H (.lst xs) v) : ∃ a vs, v = .ref a ∧ H a = some (.lst vs) ∧ Reps K U (hide L H) xs vs ∧ xs.length ≤ sizeLine := by
  obtain ⟨a, vs, h1, h2, h3⟩ := h
  exact ⟨a, vs, h1, (hide_at h2).2, h3⟩
theorem RepO.ownl {xs : List D} {v : V} (h : RepO K U Lb L H (.own xs) v) : ∃ a vs, v = .ref a ∧ H a = some (.lst vs) ∧ Reps K U (hide L H) xs vs ∧ xs.length ≤ sizeLine := by
  obtain ⟨l, vs, h1, h2, h2', h3, h4⟩ := h
  exact ⟨l, vs, h1, h3, h4⟩
theorem RepO.tup {xs : List D} {v : V} (h : RepO K U Lb L H (.tup xs) v) : ∃ a vs, v = .ref a ∧ SqT K H a vs ∧ Reps K U (hide L H) xs vs ∧ xs.length ≤ sizeLine := by
  obtain ⟨a, vs, h1, h2, h3⟩ := h
  exact ⟨a, vs, h1, seqT_mono hide_ext.k h2, h3⟩
/-- a new object behind the hidden ones -/
theorem hide_new {p : Addr} {o : HO} (hp : H p = none) (hl : p ∉ L) : hide L (upd H p o) p = some o := by
  rw [hide_ne hl, upd_same]
end
/-- a list's items; a list's or a tuple's -/
inductive IsL : D → List D → Prop
  | lst (xs : List D) : IsL (.lst xs) xs
  | own (xs : List D) : IsL (.own xs) xs
inductive Seq : D → List D → Prop
  | lst (xs : List D) : Seq (.lst xs) xs
  | own (xs : List D) : Seq (.own xs) xs
  | tup (xs : List D) : Seq (.tup xs) xs
section
variable {K : PySem.W.Frag} {U : Pu} {Lb L : List Addr} {H : Hp}
theorem IsL.rep {d : D} {xs : List D} {v : V} (s : IsL d xs) (h : RepO K U Lb L H d v) : ∃ a vs, v = .ref a ∧ H a = some (.lst vs) ∧ Reps K U (hide L H) xs vs ∧ xs.length ≤ sizeLine := by
  cases s with
  | lst xs => exact h.lst
  | own xs => exact h.ownl
theorem Seq.rep {d : D} {xs : List D} {v : V} (s : Seq d xs) (h : RepO K U Lb L H d v) : ∃ a vs, v = .ref a ∧ (SqL K H a vs ∨ SqT K H a vs) ∧ Reps K U (hide L H) xs vs ∧ xs.length ≤ sizeLine := by
  cases s with
  | lst xs =>
    obtain ⟨a, vs, h1, h2, h3⟩ := h.lst
    exact ⟨a, vs, h1, .inl (SqL.of h2), h3⟩
  | own xs =>
    obtain ⟨a, vs, h1, h2, h3⟩ := h.ownl
    exact ⟨a, vs, h1, .inl (SqL.of h2), h3⟩
  | tup xs =>
    obtain ⟨a, vs, h1, h2, h3⟩ := h.tup
    exact ⟨a, vs, h1, .inr h2, h3⟩
end
end Dl

set_option maxRecDepth 100000
set_option maxHeartbeats 1000000
/-! # What an expression comes to, told by data -/
namespace Dl
open PySem PySem.Spec PyProof.Rows L2

/-! ### the weakest readings -/
def runE (X : Cx) (e : Expr) : TE := fun σ H Q => ∀ (pins : List (Addr × Obj)) (s : Shared), Inv X pins σ H s → wpAny (model X.prog X.w) X.A (eval e X.env) (EP X pins σ Q) X.xe s
def runT (X : Cx) (e : Expr) : TT := fun σ H Q => ∀ (pins : List (Addr × Obj)) (s : Shared), Inv X pins σ H s → wpAny (model X.prog X.w) X.A (isTrue e X.env (eval e X.env)) (TP X pins σ Q) X.xe s
def runW (X : Cx) (e : Expr) : TT := fun σ H Q => ∀ (whole : Sem Value) (pins : List (Addr × Obj)) (s : Shared), Inv X pins σ H s → wpAny (model X.prog X.w) X.A (isTrue e X.env whole) (TP X pins σ Q) X.xe s
def runA (X : Cx) (es : List Expr) : TA := fun σ H Q => ∀ (pos : Pos) (pins : List (Addr × Obj)) (s : Shared), Inv X pins σ H s → wpAny (model X.prog X.w) X.A (spliced (backTo pos (starEach es X.env))) (AP X pins σ Q) X.xe s
section
variable {X : Cx} {e : Expr} {es : List Expr}
theorem pe_run : PE X e (runE X e) := ⟨fun pins s _ _ _ I h => h pins s I⟩
theorem pt_run : PT X e (runT X e) := ⟨fun pins s _ _ _ I h => h pins s I⟩
theorem pw_run : PW X e (runW X e) := ⟨fun wh pins s _ _ _ I h => h wh pins s I⟩
theorem pa_run : PA X es (runA X es) := ⟨fun pos pins s _ _ _ I h => h pos pins s I⟩
theorem runE_of {t : TE} {σ : L2.St} {H : Hp} {Q : VK} (h : PE X e t) (q : t σ H Q) : runE X e σ H Q := fun pins s I => h.run pins s σ H Q I q
theorem runT_of {t : TT} {σ : L2.St} {H : Hp} {Q : Bool → Hp → Prop} (h : PT X e t) (q : t σ H Q) : runT X e σ H Q := fun pins s I => h.run pins s σ H Q I q
theorem runW_of {t : TT} {σ : L2.St} {H : Hp} {Q : Bool → Hp → Prop} (h : PW X e t) (q : t σ H Q) : runW X e σ H Q := fun wh pins s I => h.run wh pins s σ H Q I q
theorem runA_of {t : TA} {σ : L2.St} {H : Hp} {Q : List V → Hp → Prop} (h : PA X es t) (q : t σ H Q) : runA X es σ H Q := fun pos pins s I => h.run pos pins s σ H Q I q
end
/-- by values -/
def opRun (X : Cx) (f : Value → Value → Sem Value) : R2 := fun x y H Q => ∀ (pins : List (Addr × Obj)) (s : Shared) (σ : L2.St) (v u : Value), Inv X pins σ H s → RelV x v → RelV y u → wpAny (model X.prog X.w) X.A (f v u) (EP X pins σ Q) X.xe s
def unRun (X : Cx) (f : Value → Sem Value) : V → Hp → VK → Prop := fun x H Q => ∀ (pins : List (Addr × Obj)) (s : Shared) (σ : L2.St) (v : Value), Inv X pins σ H s → RelV x v → wpAny (model X.prog X.w) X.A (f v) (EP X pins σ Q) X.xe s
def callRun (X : Cx) (f : Value) : List V → Hp → VK → Prop := fun xs H Q => ∀ (pins : List (Addr × Obj)) (s : Shared) (σ : L2.St) (us : List Value), Inv X pins σ H s → Vals xs us → wpAny (model X.prog X.w) X.A (call f us) (EP X pins σ Q) X.xe s
def mtRun (X : Cx) (id : String) : V → List V → Hp → VK → Prop := fun x xs H Q => ∀ (pins : List (Addr × Obj)) (s : Shared) (σ : L2.St) (v : Value) (us : List Value), Inv X pins σ H s → RelV x v → Vals xs us → wpAny (model X.prog X.w) X.A (call (.builtin id) (v :: us)) (EP X pins σ Q) X.xe s
def ixRun (X : Cx) : R2 := fun x y H Q => ∀ (value slice : Expr) (pins : List (Addr × Obj)) (s : Shared) (σ : L2.St) (v u : Value), Inv X pins σ H s → RelV x v → RelV y u →
  subscripted slice false v u = operate [v, u] (getItem v u) → wpAny (model X.prog X.w) X.A (subscriptTail value slice v u) (EP X pins σ Q) X.xe s
section
variable {X : Cx}
theorem opR_run {f : Value → Value → Sem Value} : OpR X f (opRun X f) := fun pins s σ _ _ _ v u _ I rx ry h => h pins s σ v u I rx ry
theorem unR_run {f : Value → Sem Value} : UnR X f (unRun X f) := fun pins s σ _ _ v _ I rx h => h pins s σ v I rx
theorem callR_run {f : Value} : CallR X f (callRun X f) := fun pins s σ _ _ us _ I r h => h pins s σ us I r
theorem mtR_run {id : String} : MtR X id (mtRun X id) := fun pins s σ _ _ _ v us _ I rx r h => h pins s σ v us I rx r
theorem ixR_run : IxR X (ixRun X) := fun value slice pins s σ _ _ _ v u _ I rx ry h hs => h value slice pins s σ v u I rx ry hs
end

/-! ### contexts -/
/-- what is wanted of an exception: its class, its own attributes -/
abbrev XD := Value → Option (List Str × List D) → Prop
def RepX (K : PySem.W.Frag) (U : Pu) (H : Hp) : Option Addr → Option (List Str × List D) → Prop
  | none, none => True
  | some d, some (ns, ds) => ∃ vs, H d = some (.xd (ns.zip vs)) ∧ Reps K U H ds vs
  | _, _ => False
theorem RepX.mono {K : PySem.W.Frag} {U : Pu} {H H' : Hp} (e : SameK H H') : ∀ {od : Option Addr} {fl : Option (List Str × List D)}, RepX K U H od fl → RepX K U H' od fl
  | none, none, h => h
  | some d, some (ns, ds), ⟨vs, h1, h2⟩ => ⟨vs, e.at _ _ h1, Reps.mono e _ _ h2⟩
  | none, some _, h => h
  | some _, none, h => h
structure Ct (X : Cx) (U : Pu) (lv : Nat) (T : XD) where
  Hb : Hp
  Lb : List Addr
  g : U.G Hb
  calm : X.calm = true
  nd : X.N.Nodup
  room : Room lv X.A
  own : PassesOwn (model X.prog X.w) X.A X.env X.xe
  tk : Takes X (fun cls od _ H => Same U Hb H ∧ ∃ fl, RepX X.K U (hide Lb H) od fl ∧ T cls fl)
/-- the heap in a context -/
structure Ok {X : Cx} {U : Pu} {lv : Nat} {T : XD} (c : Ct X U lv T) (L : List Addr) (H : Hp) : Prop where
  base : Same U c.Hb H
  lb : ∀ l ∈ c.Lb, l ∈ L
  new : ∀ l ∈ L, l ∈ c.Lb ∨ NoA c.Hb l
  lsts : ∀ l ∈ L, MutAt H l
/-- the slots -/
structure En {X : Cx} {U : Pu} {lv : Nat} {T : XD} (c : Ct X U lv T) (L : List Addr) (H : Hp) (σ : L2.St) (δ : List (Option D)) : Prop where
  ok : Ok c L H
  len : σ.length = δ.length
  rep : ∀ (i : Nat) (d : D), δ[i]? = some (some d) → ∃ v, σ[i]? = some (some v) ∧ RepO X.K U c.Lb L H d v
  sep : ∀ (i j : Nat) (x y : D) (l : Addr), δ[i]? = some (some x) → δ[j]? = some (some y) → x.still = false → y.still = false → σ[i]? = some (some (.ref l)) → σ[j]? = some (some (.ref l)) → i = j
theorem new_ext {H : Hp} {p : Addr} {o : HO} (h : H p = none) : Ext H (upd H p o) := fun a u e => by
  rw [upd_ne (ne_of_none e h)]
  exact e
theorem same_new {U : Pu} {H : Hp} {p : Addr} {o : HO} (h : H p = none) : Same U H (upd H p o) := (new_ext h).s
theorem new_k {H : Hp} {p : Addr} {o : HO} (h : H p = none) : SameK H (upd H p o) := (new_ext h).k
section
variable {X : Cx} {U : Pu} {lv : Nat} {T : XD} {c : Ct X U lv T} {L : List Addr} {H H' : Hp} {σ : L2.St} {δ : List (Option D)}
theorem Ok.mono (e : Same U H H') (k : Ok c L H) : Ok c L H' := ⟨k.base.trans e, k.lb, k.new, fun l hl => (k.lsts l hl).mono e.k⟩
theorem Ok.fresh (k : Ok c L H) {p : Addr} (h : H p = none) : p ∉ L := fun z => by
  exact (k.lsts p z).no h
theorem Ok.freshN (k : Ok c L H) {p : Addr} (h : NoA H p) : p ∉ L := fun z => by
  obtain ⟨o, m, e⟩ := k.lsts p z
  exact absurd rfl (h.ne e (by cases o <;> first | rfl | cases m))
theorem En.mono (e : Same U H H') (E : En c L H σ δ) : En c L H' σ δ := ⟨E.ok.mono e, E.len, fun i d h => let ⟨v, h1, h2⟩ := E.rep i d h; ⟨v, h1, h2.mono e⟩, E.sep⟩
theorem Ok.tupNew (k : Ok c L H) {ds : List D} {vs : List V} {p : Addr} (r : Reps X.K U (hide L H) ds vs) (hz : ds.length ≤ sizeLine) (hp : H p = none) : RepO X.K U c.Lb L (upd H p (.tup vs)) (.tup ds) (.ref p) :=
  ⟨p, vs, rfl, SqT.of (hide_new hp (k.fresh hp)), Reps.mono (hide_same (new_k hp)) _ _ r, hz⟩
theorem Ok.lstNew (k : Ok c L H) {ds : List D} {vs : List V} {p : Addr} (r : Reps X.K U (hide L H) ds vs) (hz : ds.length ≤ sizeLine) (hp : H p = none) : RepO X.K U c.Lb L (upd H p (.lst vs)) (.lst ds) (.ref p) :=
  ⟨p, vs, rfl, hide_new hp (k.fresh hp), Reps.mono (hide_same (new_k hp)) _ _ r, hz⟩
end
/-- a list of results -/
def RepOs (K : PySem.W.Frag) (U : Pu) (Lb L : List Addr) (H : Hp) : List D → List V → Prop
  | [], vs => vs = []
  | d :: ds, vs => ∃ v r, vs = v :: r ∧ RepO K U Lb L H d v ∧ RepOs K U Lb L H ds r
section
variable {K : PySem.W.Frag} {U : Pu} {Lb L : List Addr} {H H' : Hp}
theorem RepOs.mono (e : Same U H H') : ∀ {ds : List D} {vs : List V}, RepOs K U Lb L H ds vs → RepOs K U Lb L H' ds vs
  | [], vs, h => h
  | d :: ds, vs, ⟨v, r, h1, h2, h3⟩ => ⟨v, r, h1, h2.mono e, RepOs.mono e h3⟩
theorem RepOs.one {d : D} {vs : List V} (h : RepOs K U Lb L H [d] vs) : ∃ v, vs = [v] ∧ RepO K U Lb L H d v := by
  obtain ⟨v, r, rfl, h2, rfl⟩ := h
  exact ⟨v, rfl, h2⟩
theorem RepOs.two {d e : D} {vs : List V} (h : RepOs K U Lb L H [d, e] vs) : ∃ v u, vs = [v, u] ∧ RepO K U Lb L H d v ∧ RepO K U Lb L H e u := by
  obtain ⟨v, r, rfl, h2, u, r', rfl, h3, rfl⟩ := h
  exact ⟨v, u, rfl, h2, h3⟩
def stills (ds : List D) : Bool := ds.all D.still
theorem RepOs.reps : ∀ {ds : List D} {vs : List V}, RepOs K U Lb L H ds vs → stills ds = true → Reps K U (hide L H) ds vs
  | [], vs, h, _ => h
  | d :: ds, vs, ⟨v, r, h1, h2, h3⟩, s => by
    simp only [stills, List.all_cons, Bool.and_eq_true] at s
    exact ⟨v, r, h1, h2.rep s.1, RepOs.reps h3 s.2⟩
end

/-! ### judgements -/
section
variable {X : Cx} {U : Pu} {lv : Nat} {T : XD}
def WE (c : Ct X U lv T) (e : Expr) (δ : List (Option D)) (S : D → Prop) : Prop := ∀ (L : List Addr) (σ : L2.St) (H : Hp) (Q : VK), En c L H σ δ →
  (∀ v H' d, Same U H H' → RepO X.K U c.Lb L H' d v → S d → Q v H') → runE X e σ H Q
def WT (c : Ct X U lv T) (e : Expr) (δ : List (Option D)) (S : Bool → Prop) : Prop := ∀ (L : List Addr) (σ : L2.St) (H : Hp) (Q : Bool → Hp → Prop), En c L H σ δ →
  (∀ b H', Same U H H' → S b → Q b H') → runT X e σ H Q
def WW (c : Ct X U lv T) (e : Expr) (δ : List (Option D)) (S : Bool → Prop) : Prop := ∀ (L : List Addr) (σ : L2.St) (H : Hp) (Q : Bool → Hp → Prop), En c L H σ δ →
  (∀ b H', Same U H H' → S b → Q b H') → runW X e σ H Q
def WA (c : Ct X U lv T) (es : List Expr) (δ : List (Option D)) (S : List D → Prop) : Prop := ∀ (L : List Addr) (σ : L2.St) (H : Hp) (Q : List V → Hp → Prop), En c L H σ δ →
  (∀ vs H' ds, Same U H H' → RepOs X.K U c.Lb L H' ds vs → S ds → Q vs H') → runA X es σ H Q
def OD (c : Ct X U lv T) (f : Value → Value → Sem Value) (x y : D) (S : D → Prop) : Prop := ∀ (L : List Addr) (H : Hp) (vx vy : V) (Q : VK), Ok c L H → RepO X.K U c.Lb L H x vx → RepO X.K U c.Lb L H y vy →
  (∀ v H' d, Same U H H' → RepO X.K U c.Lb L H' d v → S d → Q v H') → opRun X f vx vy H Q
def UD (c : Ct X U lv T) (f : Value → Sem Value) (x : D) (S : D → Prop) : Prop := ∀ (L : List Addr) (H : Hp) (vx : V) (Q : VK), Ok c L H → RepO X.K U c.Lb L H x vx →
  (∀ v H' d, Same U H H' → RepO X.K U c.Lb L H' d v → S d → Q v H') → unRun X f vx H Q
def CD (c : Ct X U lv T) (f : Value) (ds : List D) (S : D → Prop) : Prop := ∀ (L : List Addr) (H : Hp) (vs : List V) (Q : VK), Ok c L H → RepOs X.K U c.Lb L H ds vs →
  (∀ v H' d, Same U H H' → RepO X.K U c.Lb L H' d v → S d → Q v H') → callRun X f vs H Q
def ID (c : Ct X U lv T) (x y : D) (S : D → Prop) : Prop := ∀ (L : List Addr) (H : Hp) (vx vy : V) (Q : VK), Ok c L H → RepO X.K U c.Lb L H x vx → RepO X.K U c.Lb L H y vy →
  (∀ v H' d, Same U H H' → RepO X.K U c.Lb L H' d v → S d → Q v H') → ixRun X vx vy H Q
variable {c : Ct X U lv T} {e a b : Expr} {es : List Expr} {δ : List (Option D)} {S S' : D → Prop} {pos : Pos}

theorem WE.mono (h : WE c e δ S) (k : ∀ d, S d → S' d) : WE c e δ S' := fun L σ H Q E q => h L σ H Q E fun v H' d s r z => q v H' d s r (k d z)
theorem WT.mono {S S' : Bool → Prop} (h : WT c e δ S) (k : ∀ d, S d → S' d) : WT c e δ S' := fun L σ H Q E q => h L σ H Q E fun v H' s z => q v H' s (k v z)
theorem WA.mono {S S' : List D → Prop} (h : WA c es δ S) (k : ∀ d, S d → S' d) : WA c es δ S' := fun L σ H Q E q => h L σ H Q E fun v H' d s r z => q v H' d s r (k d z)
theorem od_of {f : Value → Value → Sem Value} {r : R2} {x y : D} (ho : OpR X f r) (h : ∀ (L : List Addr) (H : Hp) (vx vy : V) (Q : VK), Ok c L H → RepO X.K U c.Lb L H x vx → RepO X.K U c.Lb L H y vy →
    (∀ v H' d, Same U H H' → RepO X.K U c.Lb L H' d v → S d → Q v H') → r vx vy H Q) : OD c f x y S := fun L H vx vy Q k rx ry q pins s σ v u I hx hy => ho pins s σ H vx vy v u Q I hx hy (h L H vx vy Q k rx ry q)
theorem cd_of {f : Value} {r : List V → Hp → VK → Prop} {ds : List D} (ho : CallR X f r) (h : ∀ (L : List Addr) (H : Hp) (vs : List V) (Q : VK), Ok c L H → RepOs X.K U c.Lb L H ds vs →
    (∀ v H' d, Same U H H' → RepO X.K U c.Lb L H' d v → S d → Q v H') → r vs H Q) : CD c f ds S := fun L H vs Q k rx q pins s σ us I hx => ho pins s σ H vs us Q I hx (h L H vs Q k rx q)
theorem id_of {r : R2} {x y : D} (ho : IxR X r) (h : ∀ (L : List Addr) (H : Hp) (vx vy : V) (Q : VK), Ok c L H → RepO X.K U c.Lb L H x vx → RepO X.K U c.Lb L H y vy →
    (∀ v H' d, Same U H H' → RepO X.K U c.Lb L H' d v → S d → Q v H') → r vx vy H Q) : ID c x y S := fun L H vx vy Q k rx ry q value slice pins s σ v u I hx hy hs => ho value slice pins s σ H vx vy v u Q I hx hy (h L H vx vy Q k rx ry q) hs
theorem ud_of {f : Value → Sem Value} {r : V → Hp → VK → Prop} {x : D} (ho : UnR X f r) (h : ∀ (L : List Addr) (H : Hp) (vx : V) (Q : VK), Ok c L H → RepO X.K U c.Lb L H x vx →
    (∀ v H' d, Same U H H' → RepO X.K U c.Lb L H' d v → S d → Q v H') → r vx H Q) : UD c f x S := fun L H vx Q k rx q pins s σ v I hx => ho pins s σ H vx v Q I hx (h L H vx Q k rx q)

/-! names, constants -/
theorem WE_var (i : Nat) {x : Str} {d : D} (hi : δ[i]? = some (some d)) (h : S d) (hN : X.N[i]? = some x) (hv : Vis X.env.scope x) (hd : (x == ("__debug__" : Str)) = false) (hcd : (x == ("__classdict__" : Str)) = false) : WE c (.Name x pos) δ S :=
  fun L σ H Q E q => runE_of (pe_var hN hv hd hcd) (let ⟨v, h1, h2⟩ := E.rep i d hi; ⟨v, h1, q v H d (Same.refl H) h2 h⟩)
theorem WE_int {i : Int} {j} (h : S (.int i)) : WE c (.Constant (.int i) j pos) δ S := fun L σ H Q E q => runE_of pe_int (q _ H (.int i) (Same.refl H) rfl h)
theorem WE_bl {b : Bool} {j} (h : S (.bl b)) : WE c (.Constant (.bool b) j pos) δ S := fun L σ H Q E q => runE_of pe_bl (q _ H (.bl b) (Same.refl H) rfl h)
theorem WE_non {j} (h : S .non) : WE c (.Constant .none j pos) δ S := fun L σ H Q E q => runE_of pe_non (q _ H .non (Same.refl H) rfl h)
theorem WE_str {x : Str} {j} (h : S (.str x)) : WE c (.Constant (.str x) j pos) δ S := fun L σ H Q E q => runE_of pe_str (q _ H (.str x) (Same.refl H) rfl h)
/-- a module's name: d, in every heap -/
def Glb (K : PySem.W.Frag) (mg : Str → Option Value) (x : Str) (d : D) : Prop := ∃ u v, mg x = some u ∧ RelV v u ∧ ∀ (U : Pu) (H : Hp), Rep K U H d v
theorem WE_glb {x : Str} {d : D} (g : Glb X.K X.mg x d) (h : S d) (hg : Gl X x) (hd : (x == ("__debug__" : Str)) = false) : WE c (.Name x pos) δ S := fun L σ H Q E q => by
  obtain ⟨u, v, h1, h2, h3⟩ := g
  exact runE_of (pe_glob hg h1 h2 hd) (q v H d (Same.refl H) (.of_rep (h3 U _)) h)
theorem WE_ty {x : Str} {T : String} (hm : X.mg x = none) (h : S (.any (.ty T))) (hv : bootBuiltins x = some (.type T)) (hg : Gl X x) (hn : x ≠ "__name__") (hd : (x == ("__debug__" : Str)) = false) : WE c (.Name x pos) δ S :=
  fun L σ H Q E q => runE_of (pe_bltn hg hm hv (show RelV (.ty T) (.type T) from rfl) hn hd) (q _ H (.any (.ty T)) (Same.refl H) rfl h)

/-! operators -/
theorem WE_bin {op : Operator} (h : WE c a δ fun x => WE c b δ fun y => OD c (binaryOp op) x y S) : WE c (.BinOp a op b pos) δ S := fun L σ H Q E q =>
  runE_of (pe_op opR_run pe_run pe_run) (h L σ H _ E fun v H1 d s1 r1 z => z L σ H1 _ (E.mono s1) fun u H2 d2 s2 r2 z2 => z2 L H2 v u Q ((E.ok.mono s1).mono s2) (r1.mono s2) r2 fun w H3 d3 s3 r3 z3 => q w H3 d3 ((s1.trans s2).trans s3) r3 z3)
theorem WE_cmp {op : CmpOp} (h : WE c a δ fun x => WE c b δ fun y => OD c (compareOp op) x y S) (hm : behindInMarks op b = false) : WE c (.Compare a [op] [b] pos) δ S := fun L σ H Q E q =>
  runE_of (pe_cmpR opR_run pe_run pe_run hm) (h L σ H _ E fun v H1 d s1 r1 z => z L σ H1 _ (E.mono s1) fun u H2 d2 s2 r2 z2 => z2 L H2 v u Q ((E.ok.mono s1).mono s2) (r1.mono s2) r2 fun w H3 d3 s3 r3 z3 => q w H3 d3 ((s1.trans s2).trans s3) r3 z3)
theorem WE_chain {b' : Expr} {op op' : CmpOp} (h : WE c a δ fun x => WE c b δ fun y => OD c (compareOp op) x y fun z => ∃ k, z = .bl k ∧ if k = true then WE c b' δ fun y' => OD c (compareOp op') y y' S else S (.bl false))
    (hm : lastMarks [op, op'] [b, b'] = false := by with_unfolding_all rfl) : WE c (.Compare a [op, op'] [b, b'] pos) δ S := fun L σ H Q E q =>
  runE_of (pe_chain opR_run opR_run pe_run pe_run pe_run hm) (h L σ H _ E fun v H1 d s1 r1 z => z L σ H1 _ (E.mono s1) fun u H2 d2 s2 r2 z2 => z2 L H2 v u _ ((E.ok.mono s1).mono s2) (r1.mono s2) r2 fun w H3 d3 s3 r3 z3 => by
    obtain ⟨k, rfl, z3⟩ := z3
    refine ⟨k, r3, ?_⟩
    have e3 := (s1.trans s2).trans s3
    cases k with
    | true =>
      rw [if_pos rfl] at z3 ⊢
      exact z3 L σ H3 _ (E.mono e3) fun u4 H4 d4 s4 r4 z4 => z4 L H4 u u4 Q ((E.ok.mono e3).mono s4) ((r2.mono s3).mono s4) r4 fun w5 H5 d5 s5 r5 z5 => q w5 H5 d5 ((e3.trans s4).trans s5) r5 z5
    | false =>
      rw [if_neg Bool.false_ne_true] at z3 ⊢
      exact q _ H3 (.bl false) e3 rfl z3)
theorem WE_un {op : UnaryOp} (h : WE c a δ fun x => UD c (unaryOp op) x S) : WE c (.UnaryOp op a pos) δ S := fun L σ H Q E q =>
  runE_of (pe_un unR_run pe_run) (h L σ H _ E fun v H1 d s1 r1 z => z L H1 v Q (E.ok.mono s1) r1 fun w H3 d3 s3 r3 z3 => q w H3 d3 (s1.trans s3) r3 z3)
/-- x is None, x is not None -/
theorem WE_isN {j p2} (h : WE c a δ fun x => ∃ k : Bool, (∀ (L : List Addr) (H : Hp) (v : V), RepO X.K U c.Lb L H x v → decide (v = .non) = k) ∧ S (.bl k)) : WE c (.Compare a [.Is] [.Constant .none j p2] pos) δ S := fun L σ H Q E q =>
  runE_of (pe_cmp (pc_isN pe_run) rfl) (h L σ H _ E fun v H1 d s1 r1 ⟨k, hk, z⟩ => by
    rw [hk L H1 v r1]
    exact q _ H1 (.bl k) s1 rfl z)
theorem WE_notN {j p2} (h : WE c a δ fun x => ∃ k : Bool, (∀ (L : List Addr) (H : Hp) (v : V), RepO X.K U c.Lb L H x v → decide (v = .non) = k) ∧ S (.bl (!k))) : WE c (.Compare a [.IsNot] [.Constant .none j p2] pos) δ S := fun L σ H Q E q =>
  runE_of (pe_cmp (pc_notN pe_run) rfl) (h L σ H _ E fun v H1 d s1 r1 ⟨k, hk, z⟩ => by
    rw [hk L H1 v r1]
    exact q _ H1 (.bl (!k)) s1 rfl z)

/-! tests -/
theorem WT_val {S : Bool → Prop} (h : WE c e δ fun z => ∃ k, z = .bl k ∧ S k) (he : ∀ whole, isTrue e X.env whole = (do let v ← whole; standAt e.pos; holding [v] (truthy v))) : WT c e δ S := fun L σ H Q E q =>
  runT_of (pt_val pe_run he) (h L σ H _ E fun v H1 d s1 r1 ⟨k, hk, z⟩ => by
    subst hk
    exact ⟨k, r1, q k H1 s1 z⟩)
/-- a comparison -/
theorem WT_cmpR {S : Bool → Prop} {op : CmpOp} (h : WE c a δ fun x => WE c b δ fun y => OD c (compareOp op) x y fun z => ∃ k, z = .bl k ∧ S k) (hm : behindInMarks op b = false) : WT c (.Compare a [op] [b] pos) δ S := fun L σ H Q E q =>
  runT_of (pt_cmpR opR_run pe_run pe_run hm) (h L σ H _ E fun v H1 d s1 r1 z => z L σ H1 _ (E.mono s1) fun u H2 d2 s2 r2 z2 => z2 L H2 v u _ ((E.ok.mono s1).mono s2) (r1.mono s2) r2 fun w H3 d3 s3 r3 z3 => by
    obtain ⟨k, rfl, z3⟩ := z3
    exact ⟨k, r3, q k H3 ((s1.trans s2).trans s3) z3⟩)
theorem WT_isN {S : Bool → Prop} {j p2} (h : WE c a δ fun x => ∃ k : Bool, (∀ (L : List Addr) (H : Hp) (v : V), RepO X.K U c.Lb L H x v → decide (v = .non) = k) ∧ S k) : WT c (.Compare a [.Is] [.Constant .none j p2] pos) δ S := fun L σ H Q E q =>
  runT_of (pt_cmp (pc_isN pe_run) rfl) (h L σ H _ E fun v H1 d s1 r1 ⟨k, hk, z⟩ => ⟨k, by rw [hk L H1 v r1], q k H1 s1 z⟩)
theorem WT_notN {S : Bool → Prop} {j p2} (h : WE c a δ fun x => ∃ k : Bool, (∀ (L : List Addr) (H : Hp) (v : V), RepO X.K U c.Lb L H x v → decide (v = .non) = k) ∧ S (!k)) : WT c (.Compare a [.IsNot] [.Constant .none j p2] pos) δ S := fun L σ H Q E q =>
  runT_of (pt_cmp (pc_notN pe_run) rfl) (h L σ H _ E fun v H1 d s1 r1 ⟨k, hk, z⟩ => ⟨!k, by rw [hk L H1 v r1], q (!k) H1 s1 z⟩)
theorem WT_not {S : Bool → Prop} (h : WT c a δ fun k => S (!k)) : WT c (.UnaryOp .Not a pos) δ S := fun L σ H Q E q =>
  runT_of (pt_not pt_run) (h L σ H _ E fun k H1 s1 z => q (!k) H1 s1 z)
theorem WT_of {S : Bool → Prop} (h : WW c a δ S) : WT c a δ S := fun L σ H Q E q => runT_of (PW.pt pw_run) (h L σ H _ E q)
theorem WW_and1 {S : Bool → Prop} (h : WT c a δ S) : WW c (.BoolOp .And [a] pos) δ S := fun L σ H Q E q => runW_of (pw_and1 pt_run) (h L σ H _ E q)
theorem WW_or1 {S : Bool → Prop} (h : WT c a δ S) : WW c (.BoolOp .Or [a] pos) δ S := fun L σ H Q E q => runW_of (pw_or1 pt_run) (h L σ H _ E q)
theorem WW_and {S : Bool → Prop} {rest : List Expr} (h : WT c a δ fun k => if k = true then WW c (.BoolOp .And (b :: rest) pos) δ S else S false) : WW c (.BoolOp .And (a :: b :: rest) pos) δ S := fun L σ H Q E q =>
  runW_of (pw_and pt_run pw_run) (h L σ H _ E fun k H1 s1 z => by
    cases k with
    | true =>
      rw [if_pos rfl] at z ⊢
      exact z L σ H1 _ (E.mono s1) fun b H2 s2 z2 => q b H2 (s1.trans s2) z2
    | false =>
      rw [if_neg Bool.false_ne_true] at z ⊢
      exact q false H1 s1 z)
theorem WW_or {S : Bool → Prop} {rest : List Expr} (h : WT c a δ fun k => if k = true then S true else WW c (.BoolOp .Or (b :: rest) pos) δ S) : WW c (.BoolOp .Or (a :: b :: rest) pos) δ S := fun L σ H Q E q =>
  runW_of (pw_or pt_run pw_run) (h L σ H _ E fun k H1 s1 z => by
    cases k with
    | true =>
      rw [if_pos rfl] at z ⊢
      exact q true H1 s1 z
    | false =>
      rw [if_neg Bool.false_ne_true] at z ⊢
      exact z L σ H1 _ (E.mono s1) fun b H2 s2 z2 => q b H2 (s1.trans s2) z2)
/-! and, or, not as values (bools) -/
theorem WE_one {op} (h : WE c a δ S) : WE c (.BoolOp op [a] pos) δ S := fun L σ H Q E q => runE_of (pe_one pe_run) (h L σ H _ E q)
theorem WE_and {rest : List Expr} (h : WE c a δ fun x => ∃ k, x = .bl k ∧ if k = true then WE c (.BoolOp .And (b :: rest) pos) δ S else S (.bl false)) : WE c (.BoolOp .And (a :: b :: rest) pos) δ S := fun L σ H Q E q =>
  runE_of (pe_and pe_run pe_run) (h L σ H _ E fun v H1 d s1 r1 ⟨k, hk, z⟩ => by
    subst hk
    refine ⟨k, r1, ?_⟩
    cases k with
    | true =>
      rw [if_pos rfl] at z ⊢
      exact z L σ H1 _ (E.mono s1) fun b H2 d2 s2 r2 z2 => q b H2 d2 (s1.trans s2) r2 z2
    | false =>
      rw [if_neg Bool.false_ne_true] at z ⊢
      exact q _ H1 (.bl false) s1 rfl z)
theorem WE_or {rest : List Expr} (h : WE c a δ fun x => ∃ k, x = .bl k ∧ if k = true then S (.bl true) else WE c (.BoolOp .Or (b :: rest) pos) δ S) : WE c (.BoolOp .Or (a :: b :: rest) pos) δ S := fun L σ H Q E q =>
  runE_of (pe_or pe_run pe_run) (h L σ H _ E fun v H1 d s1 r1 ⟨k, hk, z⟩ => by
    subst hk
    refine ⟨k, r1, ?_⟩
    cases k with
    | true =>
      rw [if_pos rfl] at z ⊢
      exact q _ H1 (.bl true) s1 rfl z
    | false =>
      rw [if_neg Bool.false_ne_true] at z ⊢
      exact z L σ H1 _ (E.mono s1) fun b H2 d2 s2 r2 z2 => q b H2 d2 (s1.trans s2) r2 z2)
theorem WE_not (h : WE c a δ fun x => ∃ k, x = .bl k ∧ S (.bl (!k))) : WE c (.UnaryOp .Not a pos) δ S := fun L σ H Q E q =>
  runE_of (pe_not pe_run) (h L σ H _ E fun v H1 d s1 r1 ⟨k, hk, z⟩ => by
    subst hk
    exact ⟨k, r1, q _ H1 (.bl (!k)) s1 rfl z⟩)
theorem WE_if {t : Expr} (h : WT c t δ fun k => if k = true then WE c a δ S else WE c b δ S) : WE c (.IfExp t a b pos) δ S := fun L σ H Q E q =>
  runE_of (pe_ifExp pt_run pe_run pe_run) (h L σ H _ E fun k H1 s1 z => by
    cases k with
    | true =>
      rw [if_pos rfl] at z ⊢
      exact z L σ H1 _ (E.mono s1) fun b H2 d2 s2 r2 z2 => q b H2 d2 (s1.trans s2) r2 z2
    | false =>
      rw [if_neg Bool.false_ne_true] at z ⊢
      exact z L σ H1 _ (E.mono s1) fun b H2 d2 s2 r2 z2 => q b H2 d2 (s1.trans s2) r2 z2)

/-! arguments, displays -/
theorem WA_nil {S : List D → Prop} (h : S []) : WA c [] δ S := fun L σ H Q E q => runA_of pa_nil (q [] H [] (Same.refl H) rfl h)
theorem WA_cons {S : List D → Prop} (h : WE c e δ fun d => WA c es δ fun ds => S (d :: ds)) (hs : starEach (e :: es) X.env = (false, eval e X.env) :: starEach es X.env := by rfl) : WA c (e :: es) δ S := fun L σ H Q E q =>
  runA_of (pa_cons pe_run pa_run hs) (h L σ H _ E fun v H1 d s1 r1 z => z L σ H1 _ (E.mono s1) fun vs H2 ds s2 r2 z2 => q (v :: vs) H2 (d :: ds) (s1.trans s2) ⟨v, vs, rfl, r1.mono s2, r2⟩ z2)
theorem WE_tup {x1} (h : WA c es δ fun ds => stills ds = true ∧ ds.length ≤ sizeLine ∧ S (.tup ds)) : WE c (.Tuple es x1 pos) δ S := fun L σ H Q E q =>
  runE_of (pe_tup pa_run) (h L σ H _ E fun vs H1 ds s1 r1 ⟨z0, z1, z⟩ => ⟨by rw [← (r1.reps z0).len]; exact z1, fun p hp => q _ _ (.tup ds) (s1.trans (same_new hp)) ((E.ok.mono s1).tupNew (r1.reps z0) z1 hp) z⟩)
theorem WE_lst (h : WA c es δ fun ds => stills ds = true ∧ ds.length ≤ sizeLine ∧ S (.lst ds)) : WE c (.List es pos) δ S := fun L σ H Q E q =>
  runE_of (pe_lst pa_run) (h L σ H _ E fun vs H1 ds s1 r1 ⟨z0, z1, z⟩ => ⟨by rw [← (r1.reps z0).len]; exact z1, fun p hp => q _ _ (.lst ds) (s1.trans (same_new hp)) ((E.ok.mono s1).lstNew (r1.reps z0) z1 hp) z⟩)

/-! subscripts, attributes -/
theorem WE_ix (h : WE c a δ fun x => WE c b δ fun y => ID c x y S) (hs : PlainIx b) : WE c (.Subscript a b pos) δ S := fun L σ H Q E q =>
  runE_of (pe_ix ixR_run pe_run pe_run hs) (h L σ H _ E fun v H1 d s1 r1 z => z L σ H1 _ (E.mono s1) fun u H2 d2 s2 r2 z2 => z2 L H2 v u Q ((E.ok.mono s1).mono s2) (r1.mono s2) r2 fun w H3 d3 s3 r3 z3 => q w H3 d3 ((s1.trans s2).trans s3) r3 z3)
theorem lookZip : ∀ (ns : List Str) (ds : List D) (vs : List V) {K : PySem.W.Frag} {H : Hp} {f : Str} {d : D}, Reps K U H ds vs → (ns.zip ds).lookup f = some d → ∃ v, (ns.zip vs).lookup f = some v ∧ Rep K U H d v
  | [], ds, vs, _, _, f, d, r, h => by simp at h
  | n :: ns, [], vs, _, _, f, d, r, h => by simp at h
  | n :: ns, d' :: ds, vs, K, H, f, d, r, h => by
    obtain ⟨v, w, rfl, r1, r2⟩ := r
    rw [List.zip_cons_cons, List.lookup_cons] at h ⊢
    by_cases e : f == n
    · rw [e] at h ⊢
      cases h
      exact ⟨v, rfl, r1⟩
    · have e' : (f == n) = false := by simpa using e
      rw [e'] at h ⊢
      exact lookZip ns ds w r2 h
theorem WE_fld {f : Str} (h : WE c e δ fun x => ∃ C ns ds d, x = .obj C ns ds ∧ Cls X.K C ∧ NoAttr X.K C f ∧ (ns.zip ds).lookup f = some d ∧ S d) (hb : attributeBase e f X.env (eval e X.env) = eval e X.env) : WE c (.Attribute e f pos) δ S := fun L σ H Q E q =>
  runE_of (pe_fld pe_run hb) (h L σ H _ E fun v H1 d s1 r1 ⟨C, ns, ds, d', hd, h1, h2, h3, z⟩ => by
    subst hd
    obtain ⟨a, dx, vs, g1, g2, g3, g4⟩ := r1
    obtain ⟨w, g5, g6⟩ := lookZip ns ds vs g4 h3
    exact ⟨a, C, dx, ns.zip vs, w, g1, (hide_at g2).2, h1, h2, g5, q w H1 d' s1 (.of_rep g6) z⟩)

/-! calls -/
theorem WE_blt {x : Str} {id : String} {p : Pos} (hm : X.mg x = none) (h : WA c (e :: es) δ fun ds => CD c (.builtin id) ds S) (hv : bootBuiltins x = some (.builtin id)) (hg : Gl X x) (hn : x ≠ "__name__") (hd : (x == ("__debug__" : Str)) = false)
    (he : starEach (e :: es) X.env = (false, eval e X.env) :: starEach es X.env) (hpl : (backTo pos (starEach es X.env)).any (·.1) = false) : WE c (.Call (.Name x p) (e :: es) [] pos) δ S := fun L σ H Q E q =>
  runE_of (pe_callB callR_run hg hm hv pa_run hn hd he hpl) (h L σ H _ E fun vs H1 ds s1 r1 z => z L H1 vs Q (E.ok.mono s1) r1 fun w H3 d3 s3 r3 z3 => q w H3 d3 (s1.trans s3) r3 z3)
theorem WE_bty {x : Str} {T : String} {p : Pos} (hm : X.mg x = none) (h : WA c (e :: es) δ fun ds => CD c (.type T) ds S) (hv : bootBuiltins x = some (.type T)) (hg : Gl X x) (hn : x ≠ "__name__") (hd : (x == ("__debug__" : Str)) = false)
    (he : starEach (e :: es) X.env = (false, eval e X.env) :: starEach es X.env) (hpl : (backTo pos (starEach es X.env)).any (·.1) = false) : WE c (.Call (.Name x p) (e :: es) [] pos) δ S := fun L σ H Q E q =>
  runE_of (pe_callTy callR_run hg hm hv pa_run hn hd he hpl) (h L σ H _ E fun vs H1 ds s1 r1 z => z L H1 vs Q (E.ok.mono s1) r1 fun w H3 d3 s3 r3 z3 => q w H3 d3 (s1.trans s3) r3 z3)
end
end Dl

set_option maxRecDepth 100000
set_option maxHeartbeats 1000000
/-! # Operators, built-in calls, subscripts by data -/
namespace Dl
open PySem PySem.Spec PyProof.Rows L2

/-! ### == -/
mutual
def D.py : D → PyData
  | .non => .none
  | .bl b => .bool b
  | .int i => .int i
  | .str x => .str x
  | .tup xs => .tuple (pys xs)
  | .lst xs => .list (pys xs)
  | .own xs => .list (pys xs)
  | .obj _ _ _ => .none
  | .pur => .none
  | .dck _ _ => .none
  | .dct _ _ => .none
  | .odk _ _ => .none
  | .any _ => .none
def pys : List D → List PyData
  | [] => []
  | d :: ds => d.py :: pys ds
end
mutual
/-- data of at most n levels -/
def fit : Nat → D → Bool
  | _, .non => true
  | _, .bl _ => true
  | _, .int _ => true
  | _, .str x => PyData.strOk x
  | n + 1, .tup xs => fits n xs
  | n + 1, .lst xs => fits n xs
  | n + 1, .own xs => fits n xs
  | _, _ => false
def fits : Nat → List D → Bool
  | _, [] => true
  | n, d :: ds => fit n d && fits n ds
end
mutual
def D.eqv : D → D → Bool
  | .non, .non => true
  | .bl a, .bl b => a == b
  | .bl a, .int j => (if a then 1 else 0) == j
  | .int i, .bl b => i == (if b then 1 else 0)
  | .int i, .int j => i == j
  | .str x, .str y => x == y
  | .lst xs, .lst ys => eqvs xs ys
  | .own xs, .lst ys => eqvs xs ys
  | .lst xs, .own ys => eqvs xs ys
  | .own xs, .own ys => eqvs xs ys
  | .tup xs, .tup ys => eqvs xs ys
  | _, _ => false
def eqvs : List D → List D → Bool
  | [], [] => true
  | x :: xs, y :: ys => x.eqv y && eqvs xs ys
  | _, _ => false
end
mutual
theorem fit_lay : ∀ (n : Nat) (d : D), fit n d = true → d.py.canLay0 = true ∧ d.py.depth ≤ n
  | n, .non, _ => ⟨rfl, Nat.zero_le _⟩
  | n, .bl _, _ => ⟨rfl, Nat.zero_le _⟩
  | n, .int _, _ => ⟨rfl, Nat.zero_le _⟩
  | n, .str x, h => ⟨(by cases n <;> exact h), Nat.zero_le _⟩
  | n + 1, .tup xs, h => let ⟨a, b⟩ := fits_lay n xs h; ⟨a, Nat.succ_le_succ b⟩
  | n + 1, .lst xs, h => let ⟨a, b⟩ := fits_lay n xs h; ⟨a, Nat.succ_le_succ b⟩
  | n + 1, .own xs, h => let ⟨a, b⟩ := fits_lay n xs h; ⟨a, Nat.succ_le_succ b⟩
  | 0, .tup xs, h => by simp [fit] at h
  | 0, .lst xs, h => by simp [fit] at h
  | 0, .own xs, h => by simp [fit] at h
  | n, .obj _ _ _, h => by cases n <;> simp [fit] at h
  | n, .pur, h => by cases n <;> simp [fit] at h
  | n, .dck _ _, h => by cases n <;> simp [fit] at h
  | n, .dct _ _, h => by cases n <;> simp [fit] at h
  | n, .odk _ _, h => by cases n <;> simp [fit] at h
  | n, .any _, h => by cases n <;> simp [fit] at h
theorem fits_lay : ∀ (n : Nat) (ds : List D), fits n ds = true → PyData.canLayAll0 (pys ds) = true ∧ PyData.depthAll (pys ds) ≤ n
  | n, [], _ => ⟨rfl, Nat.zero_le _⟩
  | n, d :: ds, h => by
    simp only [fits, Bool.and_eq_true] at h
    obtain ⟨a, b⟩ := fit_lay n d h.1
    obtain ⟨a', b'⟩ := fits_lay n ds h.2
    refine ⟨?_, Nat.max_le.mpr ⟨b, b'⟩⟩
    show (PyData.canLay0 d.py && PyData.canLayAll0 (pys ds)) = true
    rw [a, a'] <;> rfl
end
theorem fit_shaped {d : D} (h : fit 64 d = true) : SeqAt.shaped d.py = true := by
  obtain ⟨a, b⟩ := fit_lay 64 d h
  unfold SeqAt.shaped
  rw [a, decide_eq_true b] <;> rfl
mutual
theorem eqv_py : ∀ (n m : Nat) (d e : D), fit n d = true → fit m e = true → PyData.eqv d.py e.py = d.eqv e := fun n m d e h g => by
  cases d with
  | obj _ _ _ => cases n <;> simp [fit] at h
  | pur => cases n <;> simp [fit] at h
  | dck _ _ => cases n <;> simp [fit] at h
  | dct _ _ => cases n <;> simp [fit] at h
  | odk _ _ => cases n <;> simp [fit] at h
  | any _ => cases n <;> simp [fit] at h
  | tup xs =>
    cases n with
    | zero => simp [fit] at h
    | succ n =>
      cases e with
      | tup ys =>
        cases m with
        | zero => simp [fit] at g
        | succ m => exact eqvs_py n m xs ys h g
      | obj _ _ _ => cases m <;> simp [fit] at g
      | pur => cases m <;> simp [fit] at g
      | dck _ _ => cases m <;> simp [fit] at g
      | dct _ _ => cases m <;> simp [fit] at g
      | odk _ _ => cases m <;> simp [fit] at g
      | any _ => cases m <;> simp [fit] at g
      | _ => rfl
  | lst xs =>
    cases n with
    | zero => simp [fit] at h
    | succ n =>
      cases e with
      | lst ys =>
        cases m with
        | zero => simp [fit] at g
        | succ m => exact eqvs_py n m xs ys h g
      | own ys =>
        cases m with
        | zero => simp [fit] at g
        | succ m => exact eqvs_py n m xs ys h g
      | obj _ _ _ => cases m <;> simp [fit] at g
      | pur => cases m <;> simp [fit] at g
      | dck _ _ => cases m <;> simp [fit] at g
      | dct _ _ => cases m <;> simp [fit] at g
      | odk _ _ => cases m <;> simp [fit] at g
      | any _ => cases m <;> simp [fit] at g
      | _ => rfl
  | own xs =>
    cases n with
    | zero => simp [fit] at h
    | succ n =>
      cases e with
      | lst ys =>
        cases m with
        | zero => simp [fit] at g
        | succ m => exact eqvs_py n m xs ys h g
      | own ys =>
        cases m with
        | zero => simp [fit] at g
        | succ m => exact eqvs_py n m xs ys h g
      | obj _ _ _ => cases m <;> simp [fit] at g
      | pur => cases m <;> simp [fit] at g
      | dck _ _ => cases m <;> simp [fit] at g
      | dct _ _ => cases m <;> simp [fit] at g
      | odk _ _ => cases m <;> simp [fit] at g
      | any _ => cases m <;> simp [fit] at g
      | _ => rfl
  | _ =>
    cases e with
    | obj _ _ _ => cases m <;> simp [fit] at g
    | pur => cases m <;> simp [fit] at g
    | dck _ _ => cases m <;> simp [fit] at g
    | dct _ _ => cases m <;> simp [fit] at g
    | odk _ _ => cases m <;> simp [fit] at g
    | any _ => cases m <;> simp [fit] at g
    | _ => rfl
theorem eqvs_py : ∀ (n m : Nat) (ds es : List D), fits n ds = true → fits m es = true → PyData.eqvAll (pys ds) (pys es) = eqvs ds es
  | n, m, [], [], _, _ => rfl
  | n, m, [], _ :: _, _, _ => rfl
  | n, m, _ :: _, [], _, _ => rfl
  | n, m, d :: ds, e :: es, h, g => by
    simp only [fits, Bool.and_eq_true] at h g
    show (PyData.eqv d.py e.py && PyData.eqvAll (pys ds) (pys es)) = (d.eqv e && eqvs ds es)
    rw [eqv_py n m d e h.1 g.1, eqvs_py n m ds es h.2 g.2]
end
section
variable {K : PySem.W.Frag} {U : Pu} {Lb L : List Addr} {H : Hp}
mutual
theorem Rep.dp : ∀ (n : Nat) (d : D) (v : V), fit n d = true → Rep K U H d v → Dp K H v d.py
  | n, .non, v, _, h => by rw [show v = .non from h]; exact .non
  | n, .bl b, v, _, h => by rw [show v = .bl b from h]; exact .bl b
  | n, .int i, v, _, h => by rw [show v = .int i from h]; exact .int i
  | n, .str x, v, _, h => by rw [show v = .str x from h]; exact .str x
  | n + 1, .tup xs, v, g, h => by
    obtain ⟨a, vs, rfl, h2, h3, _⟩ := h
    exact .tup h2 (Reps.dps n xs vs g h3)
  | n + 1, .lst xs, v, g, h => by
    obtain ⟨a, vs, rfl, h2, h3, _⟩ := h
    exact .lst (SqL.of h2) (Reps.dps n xs vs g h3)
  | n, .own xs, v, _, h => False.elim h
  | 0, .tup xs, v, g, h => by simp [fit] at g
  | 0, .lst xs, v, g, h => by simp [fit] at g
  | n, .obj _ _ _, v, g, h => by cases n <;> simp [fit] at g
  | n, .pur, v, g, h => by cases n <;> simp [fit] at g
  | n, .dck _ _, v, g, h => by cases n <;> simp [fit] at g
  | n, .dct _ _, v, g, h => by cases n <;> simp [fit] at g
  | n, .odk _ _, v, g, h => by cases n <;> simp [fit] at g
  | n, .any _, v, g, h => by cases n <;> simp [fit] at g
theorem Reps.dps : ∀ (n : Nat) (ds : List D) (vs : List V), fits n ds = true → Reps K U H ds vs → DpAll K H vs (pys ds)
  | n, [], vs, _, h => by rw [show vs = [] from h]; exact .nil
  | n, d :: ds, vs, g, h => by
    obtain ⟨v, r, rfl, h2, h3⟩ := h
    simp only [fits, Bool.and_eq_true] at g
    exact .cons (Rep.dp n d v g.1 h2) (Reps.dps n ds r g.2 h3)
end
theorem RepO.dp {n : Nat} {d : D} {v : V} (g : fit n d = true) (h : RepO K U Lb L H d v) : Dp K H v d.py := by
  cases d with
  | own xs =>
    cases n with
    | zero => simp [fit] at g
    | succ n =>
      obtain ⟨a, vs, rfl, h2, h3, _⟩ := h.ownl
      exact .lst (SqL.of h2) (Reps.dps n xs vs g (Reps.mono hide_ext.k _ _ h3))
  | odk _ _ => cases n <;> simp [fit] at g
  | _ => exact Rep.dp (U := U) n _ v g (Rep.mono (H := hide L H) hide_ext.k _ _ h)
end
/-! what == comes to -/
theorem fits_ints (n : Nat) : ∀ ns : List Int, fits n (ns.map D.int) = true
  | [] => by cases n <;> rfl
  | a :: r => by
    have := fits_ints n r
    cases n <;> simp [fits, fit, this]
theorem fits_all (n : Nat) : ∀ ds : List D, (∀ d ∈ ds, fit n d = true) → fits n ds = true
  | [], _ => by cases n <;> rfl
  | a :: r, h => by
    have := fits_all n r fun d hd => h d (List.mem_cons_of_mem _ hd)
    simp [fits, h a List.mem_cons_self, this]
theorem eqvs_ints : ∀ ns ms : List Int, eqvs (ns.map D.int) (ms.map D.int) = decide (ns = ms)
  | [], [] => rfl
  | [], _ :: _ => rfl
  | _ :: _, [] => rfl
  | a :: r, b :: t => by
    show ((D.int a).eqv (D.int b) && eqvs (r.map D.int) (t.map D.int)) = _
    rw [eqvs_ints r t]
    show ((a == b) && decide (r = t)) = _
    by_cases e : a = b
    · subst e; simp
    · simp [e]
/-- a == b of lists, where the items' == is an equality -/
theorem eqvs_map {α : Type} [DecidableEq α] (f : α → D) (h : ∀ a b, (f a).eqv (f b) = decide (a = b)) : ∀ xs ys : List α, eqvs (xs.map f) (ys.map f) = decide (xs = ys)
  | [], [] => rfl
  | [], _ :: _ => rfl
  | _ :: _, [] => rfl
  | a :: r, b :: t => by
    show ((f a).eqv (f b) && eqvs (r.map f) (t.map f)) = _
    rw [eqvs_map f h r t, h]
    by_cases e : a = b
    · subst e; simp
    · simp [e]

/-! ### operators -/
section
variable {X : Cx} {U : Pu} {lv : Nat} {T : XD} {c : Ct X U lv T} {S : D → Prop}
theorem OD_add_int {i j : Int} (h : S (.int (i + j))) : OD c (binaryOp .Add) (.int i) (.int j) S := od_of op_add fun L H vx vy Q k rx ry q => ⟨i, j, rx, ry, q _ H (.int (i + j)) (Same.refl H) rfl h⟩
theorem OD_sub_int {i j : Int} (h : S (.int (i - j))) : OD c (binaryOp .Sub) (.int i) (.int j) S := od_of op_sub fun L H vx vy Q k rx ry q => ⟨i, j, rx, ry, q _ H (.int (i - j)) (Same.refl H) rfl h⟩
theorem OD_mul_int {i j : Int} (hc : CMul i j) (h : S (.int (i * j))) : OD c (binaryOp .Mult) (.int i) (.int j) S := od_of op_mul fun L H vx vy Q k rx ry q => ⟨i, j, rx, ry, hc, q _ H (.int (i * j)) (Same.refl H) rfl h⟩
theorem OD_div_int {i j : Int} (h0 : 0 < j) (h1 : j < 1073741824) (h : S (.int (i / j))) : OD c (binaryOp .FloorDiv) (.int i) (.int j) S := od_of op_fdiv fun L H vx vy Q k rx ry q => ⟨i, j, rx, ry, ⟨h0, h1⟩, q _ H (.int (i / j)) (Same.refl H) rfl h⟩
theorem OD_mod_int {i j : Int} (h0 : 0 < j) (h : S (.int (i % j))) : OD c (binaryOp .Mod) (.int i) (.int j) S := od_of op_mod fun L H vx vy Q k rx ry q => ⟨i, j, rx, ry, h0, q _ H (.int (i % j)) (Same.refl H) rfl h⟩
theorem OD_pow_int {i j : Int} (hc : CPow i j) (h : S (.int (i ^ j.toNat))) : OD c (binaryOp .Pow) (.int i) (.int j) S := od_of op_pow fun L H vx vy Q k rx ry q => ⟨i, j, rx, ry, hc, q _ H (.int (i ^ j.toNat)) (Same.refl H) rfl h⟩
theorem OD_lt_int {i j : Int} (h : S (.bl (decide (i < j)))) : OD c (compareOp .Lt) (.int i) (.int j) S := od_of op_lt fun L H vx vy Q k rx ry q => ⟨i, j, rx, ry, q _ H (.bl _) (Same.refl H) rfl h⟩
theorem OD_le_int {i j : Int} (h : S (.bl (decide (i ≤ j)))) : OD c (compareOp .LtE) (.int i) (.int j) S := od_of op_le fun L H vx vy Q k rx ry q => ⟨i, j, rx, ry, q _ H (.bl _) (Same.refl H) rfl h⟩
theorem OD_gt_int {i j : Int} (h : S (.bl (decide (j < i)))) : OD c (compareOp .Gt) (.int i) (.int j) S := od_of op_gt fun L H vx vy Q k rx ry q => ⟨i, j, rx, ry, q _ H (.bl _) (Same.refl H) rfl h⟩
theorem OD_ge_int {i j : Int} (h : S (.bl (decide (j ≤ i)))) : OD c (compareOp .GtE) (.int i) (.int j) S := od_of op_ge fun L H vx vy Q k rx ry q => ⟨i, j, rx, ry, q _ H (.bl _) (Same.refl H) rfl h⟩
theorem units64 (c : Ct X U lv T) : X.A.units + 64 < cLine := c.room.units
theorem OD_eq {x y : D} (hx : fit 64 x = true) (hy : fit 64 y = true) (h : S (.bl (x.eqv y))) : OD c (compareOp .Eq) x y S := od_of (op_eqD (units64 c)) fun L H vx vy Q k rx ry q =>
  ⟨_, _, rx.dp hx, ry.dp hy, fit_shaped hx, fit_shaped hy, by rw [eqv_py 64 64 x y hx hy]; exact q _ H (.bl _) (Same.refl H) rfl h⟩
theorem OD_ne {x y : D} (hx : fit 64 x = true) (hy : fit 64 y = true) (h : S (.bl (!x.eqv y))) : OD c (compareOp .NotEq) x y S := od_of (op_neD (units64 c)) fun L H vx vy Q k rx ry q =>
  ⟨_, _, rx.dp hx, ry.dp hy, fit_shaped hx, fit_shaped hy, by rw [eqv_py 64 64 x y hx hy]; exact q _ H (.bl _) (Same.refl H) rfl h⟩
theorem OD_add_str {i j : Str} (hz : i.length + j.length ≤ sizeLine) (h : S (.str (i ++ j))) : OD c (binaryOp .Add) (.str i) (.str j) S := od_of op_add_str fun L H vx vy Q k rx ry q => ⟨i, j, rx, ry, hz, q _ H (.str (i ++ j)) (Same.refl H) rfl h⟩
theorem OD_add_tup {xs ys : List D} (hz : xs.length + ys.length ≤ sizeLine) (h : S (.tup (xs ++ ys))) : OD c (binaryOp .Add) (.tup xs) (.tup ys) S := od_of op_catA fun L H vx vy Q k rx ry q => by
  obtain ⟨a, vs, rfl, ha, ra, za⟩ := rx.tup
  obtain ⟨b, ws, rfl, hb, rb, zb⟩ := ry.tup
  have e1 := ra.len
  have e2 := rb.len
  refine ⟨a, b, vs, ws, rfl, rfl, ha, hb, by omega, fun e => ?_, fun _ e => ?_, fun _ _ p hp => ?_⟩
  · have : xs = [] := List.eq_nil_of_length_eq_zero (by rw [e1, e]; rfl)
    subst this
    exact q _ H (.tup ys) (Same.refl H) ry h
  · have : ys = [] := List.eq_nil_of_length_eq_zero (by rw [e2, e]; rfl)
    subst this
    rw [List.append_nil] at h
    exact q _ H (.tup xs) (Same.refl H) rx h
  · exact q _ _ (.tup (xs ++ ys)) (same_new hp) (k.tupNew (ra.app rb) (by rw [List.length_append]; exact hz) hp) h
theorem OD_add_lst {x y : D} {xs ys : List D} (sx : IsL x xs) (sy : IsL y ys) (hz : xs.length + ys.length ≤ sizeLine) (h : S (.lst (xs ++ ys))) : OD c (binaryOp .Add) x y S := od_of op_cat fun L H vx vy Q k rx ry q => by
  obtain ⟨a, vs, rfl, ha, ra, za⟩ := sx.rep rx
  obtain ⟨b, ws, rfl, hb, rb, zb⟩ := sy.rep ry
  have e1 := ra.len
  have e2 := rb.len
  exact ⟨a, b, vs, ws, rfl, rfl, ha, hb, by omega, fun p hp => q _ _ (.lst (xs ++ ys)) (same_new hp) (k.lstNew (ra.app rb) (by rw [List.length_append]; exact hz) hp) h⟩
theorem Reps.flat {K : PySem.W.Frag} {H : Hp} {xs : List D} {vs : List V} (r : Reps K U H xs vs) : ∀ n, Reps K U H (List.replicate n xs).flatten (List.replicate n vs).flatten
  | 0 => rfl
  | n + 1 => by
    rw [List.replicate_succ, List.replicate_succ, List.flatten_cons, List.flatten_cons]
    exact r.app (Reps.flat r n)
theorem flat_len {α : Type} (xs : List α) : ∀ n, (List.replicate n xs).flatten.length = xs.length * n
  | 0 => rfl
  | n + 1 => by
    rw [List.replicate_succ, List.flatten_cons, List.length_append, flat_len xs n]
    rw [Nat.mul_succ]
    omega
theorem OD_mul_lst {x : D} {xs : List D} {n : Int} (sx : IsL x xs) (h1 : -(2 ^ 63) ≤ n) (h2 : n < 2 ^ 63) (hz : xs.length * n.toNat ≤ sizeLine) (h : S (.lst (List.replicate n.toNat xs).flatten)) : OD c (binaryOp .Mult) x (.int n) S := od_of op_rep fun L H vx vy Q k rx ry q => by
  obtain ⟨a, vs, rfl, ha, ra, za⟩ := sx.rep rx
  exact ⟨a, n, vs, rfl, ry, ha, h1, h2, by rw [← ra.len]; exact hz, fun p hp => q _ _ (.lst _) (same_new hp) (k.lstNew (ra.flat _) (by rw [flat_len]; exact hz) hp) h⟩
theorem UD_neg {i : Int} (h : S (.int (-i))) : UD c (unaryOp .USub) (.int i) S := ud_of un_neg fun L H vx Q k rx q => ⟨i, rx, q _ H (.int (-i)) (Same.refl H) rfl h⟩

/-! in, not in -/
def D.flat : D → Bool
  | .non => true
  | .bl _ => true
  | .int _ => true
  | .str _ => true
  | _ => false
theorem flat_rep {K : PySem.W.Frag} {Lb L : List Addr} {H : Hp} {d : D} {v : V} (f : d.flat = true) (h : RepO K U Lb L H d v) : flatV v = true ∧ ∀ {e : D} {u : V} {K' : PySem.W.Frag} {H' : Hp}, e.flat = true → Rep K' U H' e u → eqV u v = e.eqv d := by
  cases d with
  | non =>
    rw [show v = .non from h]
    exact ⟨rfl, fun {e u K' H'} g r => by cases e <;> first | (rw [show u = _ from r]; rfl) | cases g⟩
  | bl b =>
    rw [show v = .bl b from h]
    exact ⟨rfl, fun {e u K' H'} g r => by cases e <;> first | (rw [show u = _ from r]; rfl) | cases g⟩
  | int b =>
    rw [show v = .int b from h]
    exact ⟨rfl, fun {e u K' H'} g r => by cases e <;> first | (rw [show u = _ from r]; rfl) | cases g⟩
  | str b =>
    rw [show v = .str b from h]
    exact ⟨rfl, fun {e u K' H'} g r => by cases e <;> first | (rw [show u = _ from r]; rfl) | cases g⟩
  | _ => cases f
theorem flats_rep {K : PySem.W.Frag} {H : Hp} : ∀ {ds : List D} {vs : List V}, ds.all D.flat = true → Reps K U H ds vs → vs.all flatV = true
  | [], vs, _, h => by rw [show vs = [] from h]; rfl
  | d :: ds, vs, f, h => by
    obtain ⟨v, r, rfl, h2, h3⟩ := h
    simp only [List.all_cons, Bool.and_eq_true] at f ⊢
    refine ⟨(flat_rep (Lb := []) (L := []) f.1 (.of_rep (by rw [hide_nil]; exact h2))).1, flats_rep f.2 h3⟩
theorem inV_rep {K : PySem.W.Frag} {Lb L : List Addr} {H : Hp} {d : D} {v : V} (f : d.flat = true) (h : RepO K U Lb L H d v) : ∀ {ds : List D} {vs : List V}, ds.all D.flat = true → Reps K U (hide L H) ds vs → inV v vs = ds.any fun e => e.eqv d
  | [], vs, _, g => by rw [show vs = [] from g]; rfl
  | e :: ds, vs, fs, g => by
    obtain ⟨u, r, rfl, h2, h3⟩ := g
    simp only [List.all_cons, Bool.and_eq_true] at fs
    have ih := inV_rep f h fs.2 h3
    show (eqV u v || inV v r) = (e.eqv d || ds.any fun e => e.eqv d)
    rw [ih, (flat_rep f h).2 fs.1 h2]
theorem OD_in {x y : D} {ys : List D} (sy : Seq y ys) (fx : x.flat = true) (fy : ys.all D.flat = true) (h : S (.bl (ys.any fun e => e.eqv x))) : OD c (compareOp .In) x y S := od_of op_in_seq fun L H vx vy Q k rx ry q => by
  obtain ⟨b, ws, rfl, hb, rb, zb⟩ := sy.rep ry
  refine ⟨b, ws, rfl, hb, (flat_rep fx rx).1, flats_rep fy rb, ?_⟩
  show Q (.bl (if false = true then _ else inV vx ws)) H
  rw [if_neg Bool.false_ne_true, inV_rep fx rx fy rb]
  exact q _ H (.bl _) (Same.refl H) rfl h
theorem OD_nin {x y : D} {ys : List D} (sy : Seq y ys) (fx : x.flat = true) (fy : ys.all D.flat = true) (h : S (.bl (!ys.any fun e => e.eqv x))) : OD c (compareOp .NotIn) x y S := od_of op_notIn_seq fun L H vx vy Q k rx ry q => by
  obtain ⟨b, ws, rfl, hb, rb, zb⟩ := sy.rep ry
  refine ⟨b, ws, rfl, hb, (flat_rep fx rx).1, flats_rep fy rb, ?_⟩
  show Q (.bl (if true = true then !inV vx ws else _)) H
  rw [if_pos rfl, inV_rep fx rx fy rb]
  exact q _ H (.bl _) (Same.refl H) rfl h

/-! subscripts -/
theorem atI_rep {K : PySem.W.Frag} {H : Hp} {ds : List D} {vs : List V} {i : Int} {d : D} (r : Reps K U H ds vs) (h : atI ds i = some d) : ∃ v, atI vs i = some v ∧ Rep K U H d v := by
  unfold atI at h ⊢
  rw [← r.len]
  cases e : ixN ds.length i with
  | none => rw [e] at h; cases h
  | some j =>
    rw [e] at h
    obtain ⟨v, h1, h2⟩ := r.get (i := j) h
    exact ⟨v, h1, h2⟩
theorem ID_seq {x d : D} {xs : List D} {i : Int} (sx : Seq x xs) (hi : atI xs i = some d) (h : S d) : ID c x (.int i) S := id_of ix_seq fun L H vx vy Q k rx ry q => by
  obtain ⟨a, vs, rfl, ha, ra, za⟩ := sx.rep rx
  obtain ⟨v, h1, h2⟩ := atI_rep ra hi
  rcases ha with ha | ha
  · exact .inl ⟨a, vs, i, v, rfl, ry, ha, h1, q v H d (Same.refl H) (.of_rep h2) h⟩
  · exact .inr (.inl ⟨a, vs, i, v, rfl, ry, ha, h1, q v H d (Same.refl H) (.of_rep h2) h⟩)
theorem ID_str {z : Str} {ch : Nat} {i : Int} (hz : z.length ≤ sizeLine) (hi : atI z.cps.toList i = some ch) (h : S (.str ⟨#[ch]⟩)) : ID c (.str z) (.int i) S := id_of ix_str fun L H vx vy Q k rx ry q =>
  ⟨z, i, ch, rx, ry, hz, hi, q _ H (.str _) (Same.refl H) rfl h⟩
/-- an item by its place from ahead -/
theorem atI_of {α : Type} {xs : List α} {i : Int} {d : α} (j : Nat) (hj : i = (j : Int)) (h : xs[j]? = some d) : atI xs i = some d := by
  rw [hj]
  exact atI_nat h

/-! built-in calls -/
theorem CD_len {x : D} {xs : List D} (sx : Seq x xs) (h : S (.int xs.length)) : CD c (.builtin "len") [x] S := cd_of call_len_seq fun L H vs Q k r q => by
  obtain ⟨v, rfl, rx⟩ := r.one
  obtain ⟨a, ws, rfl, ha, ra, za⟩ := sx.rep rx
  refine ⟨a, ws, rfl, ha, ?_⟩
  rw [← ra.len]
  exact q _ H (.int _) (Same.refl H) rfl h
theorem CD_len_str {z : Str} (hz : z.length ≤ sizeLine) (h : S (.int z.length)) : CD c (.builtin "len") [.str z] S := cd_of call_len_str fun L H vs Q k r q => by
  obtain ⟨v, rfl, rx⟩ := r.one
  exact ⟨z, by rw [show v = _ from rx], hz, q _ H (.int _) (Same.refl H) rfl h⟩
theorem CD_abs {i : Int} (h : S (.int (if i < 0 then -i else i))) : CD c (.builtin "abs") [.int i] S := cd_of call_abs fun L H vs Q k r q => by
  obtain ⟨v, rfl, rx⟩ := r.one
  exact ⟨i, by rw [show v = _ from rx], q _ H (.int _) (Same.refl H) rfl h⟩
theorem CD_max2 {i j : Int} (h : S (.int (if j > i then j else i))) : CD c (.builtin "max") [.int i, .int j] S := cd_of (call_max2 c.calm) fun L H vs Q k r q => by
  obtain ⟨v, u, rfl, rx, ry⟩ := r.two
  exact ⟨i, j, by rw [show v = _ from rx, show u = _ from ry], q _ H (.int _) (Same.refl H) rfl h⟩
theorem CD_min2 {i j : Int} (h : S (.int (if j < i then j else i))) : CD c (.builtin "min") [.int i, .int j] S := cd_of (call_min2 c.calm) fun L H vs Q k r q => by
  obtain ⟨v, u, rfl, rx, ry⟩ := r.two
  exact ⟨i, j, by rw [show v = _ from rx, show u = _ from ry], q _ H (.int _) (Same.refl H) rfl h⟩
theorem CD_int {i : Int} (h : S (.int i)) : CD c (.type "int") [.int i] S := cd_of call_int1 fun L H vs Q k r q => by
  obtain ⟨v, rfl, rx⟩ := r.one
  exact .inl ⟨i, by rw [show v = _ from rx], q _ H (.int _) (Same.refl H) rfl h⟩
theorem CD_intb {b : Bool} (h : S (.int (if b then 1 else 0))) : CD c (.type "int") [.bl b] S := cd_of call_int1 fun L H vs Q k r q => by
  obtain ⟨v, rfl, rx⟩ := r.one
  exact .inr ⟨b, by rw [show v = _ from rx], q _ H (.int _) (Same.refl H) rfl h⟩
theorem CD_boolb {b : Bool} (h : S (.bl b)) : CD c (.type "bool") [.bl b] S := cd_of call_bool1 fun L H vs Q k r q => by
  obtain ⟨v, rfl, rx⟩ := r.one
  exact .inr ⟨b, by rw [show v = _ from rx], q _ H (.bl _) (Same.refl H) rfl h⟩
theorem CD_booli {i : Int} (h : S (.bl (i != 0))) : CD c (.type "bool") [.int i] S := cd_of call_bool1 fun L H vs Q k r q => by
  obtain ⟨v, rfl, rx⟩ := r.one
  exact .inl ⟨i, by rw [show v = _ from rx], q _ H (.bl _) (Same.refl H) rfl h⟩
theorem CD_tup {x : D} {xs : List D} (sx : Seq x xs) (h : S (.tup xs)) : CD c (.type "tuple") [x] S := cd_of call_tuple_of fun L H vs Q k r q => by
  obtain ⟨v, rfl, rx⟩ := r.one
  cases sx with
  | tup xs =>
    obtain ⟨a, ws, rfl, ha, ra, za⟩ := rx.tup
    exact ⟨a, ws, rfl, .inr ⟨ha, q _ H (.tup xs) (Same.refl H) rx h⟩⟩
  | lst xs =>
    obtain ⟨a, ws, rfl, ha, ra, za⟩ := rx.lst
    exact ⟨a, ws, rfl, .inl ⟨SqL.of ha, fun p hp => q _ _ (.tup xs) (same_new hp) (k.tupNew ra za hp) h⟩⟩
  | own xs =>
    obtain ⟨a, ws, rfl, ha, ra, za⟩ := rx.ownl
    exact ⟨a, ws, rfl, .inl ⟨SqL.of ha, fun p hp => q _ _ (.tup xs) (same_new hp) (k.tupNew ra za hp) h⟩⟩
theorem CD_lst {x : D} {xs : List D} (sx : Seq x xs) (h : S (.lst xs)) : CD c (.type "list") [x] S := cd_of call_list_of fun L H vs Q k r q => by
  obtain ⟨v, rfl, rx⟩ := r.one
  obtain ⟨a, ws, rfl, ha, ra, za⟩ := sx.rep rx
  exact ⟨a, ws, rfl, ha, fun p hp => q _ _ (.lst xs) (same_new hp) (k.lstNew ra za hp) h⟩
theorem CD_sum {x : D} {xs : List D} {ns : List Int} (sx : IsL x xs) (e : xs = ns.map D.int) (h : S (.int ns.sum)) : CD c (.builtin "sum") [x] S := cd_of (cr_sum c.calm) fun L H vs Q k r q => by
  obtain ⟨v, rfl, rx⟩ := r.one
  obtain ⟨a, ws, rfl, ha, ra, za⟩ := sx.rep rx
  subst e
  rw [ra.ints] at ha
  exact ⟨a, ns, rfl, SqL.of ha, q _ H (.int _) (Same.refl H) rfl h⟩
theorem CD_all {x : D} {xs : List D} {bs : List Bool} (sx : IsL x xs) (e : xs = bs.map D.bl) (h : S (.bl (bs.all id))) : CD c (.builtin "all") [x] S := cd_of (cr_all c.calm) fun L H vs Q k r q => by
  obtain ⟨v, rfl, rx⟩ := r.one
  obtain ⟨a, ws, rfl, ha, ra, za⟩ := sx.rep rx
  subst e
  rw [ra.bls] at ha
  exact ⟨a, bs, rfl, SqL.of ha, q _ H (.bl _) (Same.refl H) rfl h⟩
theorem CD_any {x : D} {xs : List D} {bs : List Bool} (sx : IsL x xs) (e : xs = bs.map D.bl) (h : S (.bl (bs.any id))) : CD c (.builtin "any") [x] S := cd_of (cr_any c.calm) fun L H vs Q k r q => by
  obtain ⟨v, rfl, rx⟩ := r.one
  obtain ⟨a, ws, rfl, ha, ra, za⟩ := sx.rep rx
  subst e
  rw [ra.bls] at ha
  exact ⟨a, bs, rfl, SqL.of ha, q _ H (.bl _) (Same.refl H) rfl h⟩
theorem CD_max {x : D} {xs : List D} {ns : List Int} (sx : IsL x xs) (e : xs = ns.map D.int) (h0 : 0 < ns.length) (h : ∀ m, m ∈ ns → (∀ y, y ∈ ns → y ≤ m) → S (.int m)) : CD c (.builtin "max") [x] S := cd_of (cr_max c.calm) fun L H vs Q k r q => by
  obtain ⟨v, rfl, rx⟩ := r.one
  obtain ⟨a, ws, rfl, ha, ra, za⟩ := sx.rep rx
  subst e
  rw [ra.ints] at ha
  exact ⟨a, ns, rfl, SqL.of ha, h0, fun m h1 h2 => q _ H (.int _) (Same.refl H) rfl (h m h1 h2)⟩
theorem CD_min {x : D} {xs : List D} {ns : List Int} (sx : IsL x xs) (e : xs = ns.map D.int) (h0 : 0 < ns.length) (h : ∀ m, m ∈ ns → (∀ y, y ∈ ns → m ≤ y) → S (.int m)) : CD c (.builtin "min") [x] S := cd_of (cr_min c.calm) fun L H vs Q k r q => by
  obtain ⟨v, rfl, rx⟩ := r.one
  obtain ⟨a, ws, rfl, ha, ra, za⟩ := sx.rep rx
  subst e
  rw [ra.ints] at ha
  exact ⟨a, ns, rfl, SqL.of ha, h0, fun m h1 h2 => q _ H (.int _) (Same.refl H) rfl (h m h1 h2)⟩

/-! isinstance -/
/-- of which built-in type data are -/
def D.ty : D → Option String
  | .non => some "NoneType"
  | .bl _ => some "bool"
  | .int _ => some "int"
  | .str _ => some "str"
  | .tup _ => some "tuple"
  | .lst _ => some "list"
  | .own _ => some "list"
  | .dck _ _ => some "dict"
  | .dct _ _ => some "dict"
  | .odk _ _ => some "dict"
  | _ => none
theorem tyx_of {K : PySem.W.Frag} {Lb L : List Addr} {H : Hp} {d : D} {v : V} {t : String} (e : d.ty = some t) (h : RepO K U Lb L H d v) : TyX K H v (.type t) := by
  cases d with
  | non => cases e; rw [show v = _ from h]; exact .base .non
  | bl b => cases e; rw [show v = _ from h]; exact .base (.bl b)
  | int b => cases e; rw [show v = _ from h]; exact .base (.int b)
  | str b => cases e; rw [show v = _ from h]; exact .base (.str b)
  | tup xs =>
    cases e
    obtain ⟨a, vs, rfl, ha, _⟩ := h.tup
    rcases ha with (ha | ⟨o, ha⟩) | ⟨o, its, n, hk, hc, _⟩
    · exact .base (.tup ha)
    · exact .fTuple ha
    · exact .kTuple hk hc
  | lst xs =>
    cases e
    obtain ⟨a, vs, rfl, ha, _⟩ := h.lst
    exact .base (.lst ha)
  | own xs =>
    cases e
    obtain ⟨a, vs, rfl, ha, _⟩ := h.ownl
    exact .base (.lst ha)
  | dck ks ds =>
    cases e
    obtain ⟨a, vs, rfl, ha, _⟩ := h
    exact .base (.dK (hide_at ha).2)
  | dct ks ds =>
    cases e
    obtain ⟨a, vs, rfl, ha, _⟩ := h
    exact .base (.dT (hide_at ha).2)
  | odk ks ds =>
    cases e
    obtain ⟨a, vs, rfl, _, _, ha, _⟩ := h
    exact .base (.dK ha)
  | _ => cases e
theorem CD_isi {x : D} {t n : String} {b : Bool} (e : x.ty = some t) (k1 : kitB t n = some b) (h : S (.bl b)) : CD c (.builtin "isinstance") [x, .any (.ty n)] S := cd_of call_isi fun L H vs Q k r q => by
  obtain ⟨v, u, rfl, rx, ry⟩ := r.two
  exact ⟨v, .ty n, .type t, .type n, b, by rw [show u = _ from ry], .ty n, tyx_of e rx, kit_ty k1, q _ H (.bl b) (Same.refl H) rfl h⟩
end
end Dl

set_option maxRecDepth 100000
set_option maxHeartbeats 1000000
/-! # What is walked; targets; comprehensions -/
namespace Dl
open PySem PySem.Spec PyProof.Rows L2

def runI (X : Cx) (tg iter : Expr) : TI := fun σ H R => ∀ (pins : List (Addr × Obj)) (s : Shared), Inv X pins σ H s →
  wpAny (model X.prog X.w) X.A (eval iter X.env) (fun v s1 => wpAny (model X.prog X.w) X.A (pyIter v) (PIE X pins σ tg R) X.xe s1) X.xe s
def runG (X : Cx) (tg : Expr) : TG := fun v σ H Q => ∀ (pins : List (Addr × Obj)) (s : Shared) (u : Value), Inv X pins σ H s → RelV v u → wpAny (model X.prog X.w) X.A (assign tg X.env u) (fun _ s' => ∃ σ' H', Inv X pins σ' H' s' ∧ Q σ' H') X.xe s
def runGs (X : Cx) (ts : List Expr) : TGs := fun vs σ H Q => ∀ (pins : List (Addr × Obj)) (s : Shared) (us : List Value), Inv X pins σ H s → Vals vs us → wpAny (model X.prog X.w) X.A (assignInOrder ((assignEach ts X.env).map (·.2)) us) (fun _ s' => ∃ σ' H', Inv X pins σ' H' s' ∧ Q σ' H') X.xe s
def runTs (X : Cx) (ifs : List Expr) : TT := fun σ H Q => ∀ (pins : List (Addr × Obj)) (s : Shared), Inv X pins σ H s →
  wpAny (model X.prog X.w) X.A (forIn ifs true fun c r => if r = true then do let ok ← isTrue c X.env (eval c X.env); pure (ForInStep.yield ok) else pure (ForInStep.yield r)) (TP X pins σ Q) X.xe s
section
variable {X : Cx} {tg iter : Expr} {ts ifs : List Expr}
theorem pi_run : PI X tg iter (runI X tg iter) := ⟨fun pins s _ _ _ I h => h pins s I⟩
theorem pg_run : PG X tg (runG X tg) := ⟨fun pins s _ _ _ u _ I r h => h pins s u I r⟩
theorem pgs_run : PGs X ts (runGs X ts) := ⟨fun pins s _ _ _ us _ I r h => h pins s us I r⟩
theorem pts_run : PTs X ifs (runTs X ifs) := ⟨fun pins s _ _ _ I h => h pins s I⟩
theorem runI_of {t : TI} {σ : L2.St} {H : Hp} {R : It → Hp → Prop} (h : PI X tg iter t) (q : t σ H R) : runI X tg iter σ H R := fun pins s I => h.run pins s σ H R I q
theorem runG_of {t : TG} {v : V} {σ : L2.St} {H : Hp} {Q : L2.St → Hp → Prop} (h : PG X tg t) (q : t v σ H Q) : runG X tg v σ H Q := fun pins s u I r => h.run pins s σ H v u Q I r q
theorem runGs_of {t : TGs} {vs : List V} {σ : L2.St} {H : Hp} {Q : L2.St → Hp → Prop} (h : PGs X ts t) (q : t vs σ H Q) : runGs X ts vs σ H Q := fun pins s us I r => h.run pins s σ H vs us Q I r q
theorem runTs_of {t : TT} {σ : L2.St} {H : Hp} {Q : Bool → Hp → Prop} (h : PTs X ifs t) (q : t σ H Q) : runTs X ifs σ H Q := fun pins s I => h.run pins s σ H Q I q
end

/-! ### heaps with lists hidden -/
theorem hide_cons {L : List Addr} {H H' : Hp} {p : Addr} (hp : NoA H p) (e : SameK H H') : SameK (hide L H) (hide (p :: L) H') := fun b o h n => by
  obtain ⟨h1, h2⟩ := hide_at h
  rw [hide_ne (fun z => (List.mem_cons.mp z).elim (fun y => absurd y (hp.ne h2 n)) h1)]
  exact e b o h2 n
theorem hide_upd {L : List Addr} {H : Hp} {p : Addr} {o : HO} (hp : p ∈ L) : hide L (upd H p o) = hide L H := by
  funext b
  unfold hide
  by_cases hb : b ∈ L
  · rw [if_pos hb, if_pos hb]
  · rw [if_neg hb, if_neg hb, upd_ne (fun z => hb (by rw [z]; exact hp))]
section
variable {K : PySem.W.Frag} {U : Pu} {Lb L : List Addr} {H H' : Hp}
theorem Rep.still : ∀ {d : D} {v : V}, Rep K U H d v → d.still = true := fun {d v} h => by
  cases d with
  | own xs => exact False.elim h
  | odk _ _ => exact False.elim h
  | _ => rfl
theorem RepO.grow {p : Addr} (hp : NoA H p) (e : SameK H H') {d : D} {v : V} (h : RepO K U Lb L H d v) : RepO K U Lb (p :: L) H' d v := by
  cases d with
  | own xs =>
    obtain ⟨l, vs, h1, h2, h2', h3, h4, h5⟩ := h
    exact ⟨l, vs, h1, List.mem_cons_of_mem _ h2, h2', e.at _ _ h3, Reps.mono (hide_cons hp e) _ _ h4, h5⟩
  | odk ks ds =>
    obtain ⟨l, vs, h1, h2, h2', h3, h4, h5⟩ := h
    exact ⟨l, vs, h1, List.mem_cons_of_mem _ h2, h2', e.at _ _ h3, Reps.mono (hide_cons hp e) _ _ h4, h5⟩
  | _ => exact Rep.mono (hide_cons hp e) _ _ h
end

/-! ### what is walked -/
structure Walk (K : PySem.W.Frag) (U : Pu) (L : List Addr) (H B : Hp) (J : It) (ds : List D) : Prop where
  size : ds.length ≤ sizeLine
  go : ∀ i H2, SameK B H2 → i < ds.length → J.go i H2
  stop : ∀ H2, SameK B H2 → J.stop ds.length H2
  yld : ∀ i x H2 H3, SameK B H2 → i < ds.length → J.yld i H2 x H3 → Ext H2 H3 ∧ ∃ d, ds[i]? = some d ∧ d.still = true ∧ ∀ L', (∀ l ∈ L', MutAt H2 l) → SameK (hide L H) (hide L' H2) → Rep K U (hide L' H3) d x
theorem Walk.base {K : PySem.W.Frag} {U : Pu} {L : List Addr} {H B B' : Hp} {J : It} {ds : List D} (w : Walk K U L H B J ds) (e : SameK B B') : Walk K U L H B' J ds :=
  ⟨w.size, fun i H2 h => w.go i H2 (e.trans h), fun H2 h => w.stop H2 (e.trans h), fun i x H2 H3 h => w.yld i x H2 H3 (e.trans h)⟩
section
variable {X : Cx} {U : Pu} {lv : Nat} {T : XD}
def WI (c : Ct X U lv T) (tg iter : Expr) (δ : List (Option D)) (S : List D → Prop) : Prop := ∀ (L : List Addr) (σ : L2.St) (H : Hp) (R : It → Hp → Prop), En c L H σ δ →
  (∀ J H' ds, Same U H H' → Walk X.K U L H' (hide L H') J ds → S ds → R J H') → runI X tg iter σ H R
def WJ (c : Ct X U lv T) (tg iter : Expr) (δ : List (Option D)) (S : List D → Prop) : Prop := ∀ (L : List Addr) (σ : L2.St) (H : Hp) (R : It → Hp → Prop), En c L H σ δ →
  (∀ J H' ds, Same U H H' → Walk X.K U L H' H' J ds → S ds → R J H') → runI X tg iter σ H R
def Dif (ts : List Nat) (σ σ' : L2.St) : Prop := σ'.length = σ.length ∧ ∀ j : Nat, j ∉ ts → σ'[j]? = σ[j]?
def AG (c : Ct X U lv T) (tg : Expr) (δ : List (Option D)) (d : D) (ts : List Nat) (K : List (Option D) → Prop) : Prop := ∀ (L : List Addr) (σ : L2.St) (H : Hp) (v : V) (Q : L2.St → Hp → Prop), En c L H σ δ → Rep X.K U (hide L H) d v →
  (∀ σ' δ', Dif ts σ σ' → En c L H σ' δ' → K δ' → Q σ' H) → runG X tg v σ H Q
def AGs (c : Ct X U lv T) (tgs : List Expr) (δ : List (Option D)) (ds : List D) (ts : List Nat) (K : List (Option D) → Prop) : Prop := ∀ (L : List Addr) (σ : L2.St) (H : Hp) (vs : List V) (Q : L2.St → Hp → Prop), En c L H σ δ → Reps X.K U (hide L H) ds vs →
  (∀ σ' δ', Dif ts σ σ' → En c L H σ' δ' → K δ' → Q σ' H) → runGs X tgs vs σ H Q
def WTs (c : Ct X U lv T) (ifs : List Expr) (δ : List (Option D)) (S : Bool → Prop) : Prop := ∀ (L : List Addr) (σ : L2.St) (H : Hp) (Q : Bool → Hp → Prop), En c L H σ δ →
  (∀ b H', Same U H H' → S b → Q b H') → runTs X ifs σ H Q
/-- a new list -/
def WF (c : Ct X U lv T) (e : Expr) (δ : List (Option D)) (S : List D → Prop) : Prop := ∀ (L : List Addr) (σ : L2.St) (H : Hp) (Q : VK), En c L H σ δ →
  (∀ l H' vs ds, Same U H H' → NoA H l → H' l = some (.lst vs) → Reps X.K U (hide (l :: L) H') ds vs → ds.length ≤ sizeLine → S ds → Q (.ref l) H') → runE X e σ H Q
variable {c : Ct X U lv T} {tg iter e : Expr} {δ : List (Option D)} {S : List D → Prop} {pos : Pos}
theorem WJ_of (h : WI c tg iter δ S) : WJ c tg iter δ S := fun L σ H R E q => h L σ H R E fun J H' ds s w z => q J H' ds s (w.base hide_ext.k) z
theorem WE_of_F {S : D → Prop} (h : WF c e δ fun ds => S (.lst ds)) : WE c e δ S := fun L σ H Q E q => h L σ H Q E fun l H' vs ds s hl hl' r z k => by
  have hL : l ∉ L := E.ok.freshN hl
  exact q _ H' (.lst ds) s ⟨l, vs, rfl, (hide_ne hL).trans hl', Reps.mono (hide_le fun b hb => List.mem_cons_of_mem _ hb) _ _ r, z⟩ k
theorem WF_lst {es : List Expr} (h : WA c es δ fun ds => stills ds = true ∧ ds.length ≤ sizeLine ∧ S ds) : WF c (.List es pos) δ S := fun L σ H Q E q =>
  runE_of (pe_lst pa_run) (h L σ H _ E fun vs H1 ds s1 r1 ⟨z0, z1, z⟩ => ⟨by rw [← (r1.reps z0).len]; exact z1, fun p hp => q p _ vs ds (s1.trans (same_new hp)) (Same.free s1 (.of hp)) upd_same (Reps.mono (hide_cons (.of hp) (new_k hp)) _ _ (r1.reps z0)) z1 z⟩)

/-! sources -/
theorem walk_l {K : PySem.W.Frag} {L : List Addr} {H B : Hp} {a : Addr} {vs : List V} {ds : List D} (hb : SameK (hide L H) B) (ha : B a = some (.lst vs)) (r : Reps K U (hide L H) ds vs) (z : ds.length ≤ sizeLine) : Walk K U L H B (Itl K a) ds :=
  ⟨z, fun i H2 e hi => ⟨vs, vs[i]'(by rw [← r.len]; exact hi), SqL.of (e.at _ _ ha), by simp⟩, fun H2 e => ⟨vs, SqL.of (e.at _ _ ha), by rw [← r.len]; exact Nat.le_refl _⟩, fun i x H2 H3 e hi y => by
    obtain ⟨rfl, y⟩ := y
    obtain ⟨d, h1, h2⟩ := r.getV (y vs (SqL.of (e.at _ _ ha)))
    exact ⟨Ext.refl _, d, h1, h2.still, fun L' _ s => Rep.mono s _ _ h2⟩⟩
theorem walk_t {K : PySem.W.Frag} {L : List Addr} {H B : Hp} {a : Addr} {vs : List V} {ds : List D} (ha : SqT K B a vs) (r : Reps K U (hide L H) ds vs) (z : ds.length ≤ sizeLine) : Walk K U L H B (Itt K a) ds :=
  ⟨z, fun i H2 e hi => ⟨vs, vs[i]'(by rw [← r.len]; exact hi), seqT_mono e ha, by simp⟩, fun H2 e => ⟨vs, seqT_mono e ha, by rw [← r.len]; exact Nat.le_refl _⟩, fun i x H2 H3 e hi y => by
    obtain ⟨rfl, y⟩ := y
    obtain ⟨d, h1, h2⟩ := r.getV (y vs (seqT_mono e ha))
    exact ⟨Ext.refl _, d, h1, h2.still, fun L' _ s => Rep.mono s _ _ h2⟩⟩
theorem WI_lst (h : WE c e δ fun x => ∃ ds, x = .lst ds ∧ S ds) : WI c tg e δ S := fun L σ H R E q =>
  runI_of (pi_list pe_run) (h L σ H _ E fun v H1 d s1 r1 ⟨ds, hd, z⟩ => by
    subst hd
    obtain ⟨a, vs, rfl, ha, ra, za⟩ := r1
    exact ⟨a, rfl, ⟨vs, SqL.of (hide_at ha).2⟩, q _ H1 ds s1 (walk_l (SameK.refl _) ha ra za) z⟩)
theorem WJ_own (h : WE c e δ fun x => ∃ ds, x = .own ds ∧ S ds) : WJ c tg e δ S := fun L σ H R E q =>
  runI_of (pi_list pe_run) (h L σ H _ E fun v H1 d s1 r1 ⟨ds, hd, z⟩ => by
    subst hd
    obtain ⟨a, vs, rfl, ha, ra, za⟩ := r1.ownl
    exact ⟨a, rfl, ⟨vs, SqL.of ha⟩, q _ H1 ds s1 (walk_l hide_ext.k ha ra za) z⟩)
theorem WI_tup (h : WE c e δ fun x => ∃ ds, x = .tup ds ∧ S ds) : WI c tg e δ S := fun L σ H R E q =>
  runI_of (pi_tup pe_run) (h L σ H _ E fun v H1 d s1 r1 ⟨ds, hd, z⟩ => by
    subst hd
    obtain ⟨a, vs, rfl, ha, ra, za⟩ := r1
    exact ⟨a, rfl, ⟨vs, seqT_mono hide_ext.k ha⟩, q _ H1 ds s1 (walk_t ha ra za) z⟩)
theorem walk_r {K : PySem.W.Frag} {L : List Addr} {H B : Hp} (lo : Int) {n : Nat} (z : n ≤ sizeLine) : Walk K U L H B (Itr lo n) ((List.range n).map fun (k : Nat) => D.int (lo + k)) := by
  have hl : ((List.range n).map fun (k : Nat) => D.int (lo + k)).length = n := by simp
  refine ⟨by rw [hl]; exact z, fun i H2 e hi => by rw [hl] at hi; exact hi, fun H2 e => by rw [hl]; exact Nat.le_refl _, fun i x H2 H3 e hi y => ?_⟩
  obtain ⟨rfl, rfl⟩ := y
  rw [hl] at hi
  exact ⟨Ext.refl _, .int (lo + i), by simp [hi], rfl, fun L' _ s => rfl⟩
theorem WI_rng1 {a : Expr} {p : Pos} (hm : X.mg "range" = none) (h : WA c [a] δ fun ds => ∃ n : Int, ds = [.int n] ∧ n ≤ 16777216 ∧ -16777216 ≤ n ∧ S ((List.range n.toNat).map fun (k : Nat) => D.int (0 + k))) (hg : Gl X "range") (hs : starEach [a] X.env = [(false, eval a X.env)] := by rfl) :
    WI c tg (.Call (.Name "range" p) [a] [] pos) δ S := fun L σ H R E q =>
  runI_of (pi_range1 hg hm pa_run hs) (h L σ H _ E fun vs H1 ds s1 r1 ⟨n, hd, z0, z1, z⟩ => by
    subst hd
    obtain ⟨v, rfl, rv⟩ := r1.one
    exact ⟨n, by rw [show v = _ from rv], by omega, by omega, q _ H1 _ s1 (walk_r 0 (by rw [sizeLine_eq]; omega)) z⟩)
theorem WI_rng2 {a b : Expr} {p : Pos} (hm : X.mg "range" = none) (h : WA c [a, b] δ fun ds => ∃ m n : Int, ds = [.int m, .int n] ∧ n ≤ 8000000 ∧ -8000000 ≤ n ∧ m ≤ 8000000 ∧ -8000000 ≤ m ∧ S ((List.range (n - m).toNat).map fun (k : Nat) => D.int (m + k))) (hg : Gl X "range")
    (hs : starEach [a, b] X.env = [(false, eval a X.env), (false, eval b X.env)] := by rfl) (hs2 : starEach [b] X.env = [(false, eval b X.env)] := by rfl) :
    WI c tg (.Call (.Name "range" p) [a, b] [] pos) δ S := fun L σ H R E q =>
  runI_of (pi_range2 hg hm pa_run hs hs2) (h L σ H _ E fun vs H1 ds s1 r1 ⟨m, n, hd, z0, z1, z2, z3, z⟩ => by
    subst hd
    obtain ⟨v, u, rfl, rv, ru⟩ := r1.two
    exact ⟨m, n, by rw [show v = _ from rv, show u = _ from ru], ⟨by omega, by omega, by omega, by omega⟩, q _ H1 _ s1 (walk_r m (by rw [sizeLine_eq]; omega)) z⟩)
/-- a new pair at each turn -/
theorem pair_rep {K : PySem.W.Frag} {L L' : List Addr} {H H2 : Hp} {T : Addr} {x y : V} {d e : D} (hT : H2 T = none) (hl : ∀ l ∈ L', MutAt H2 l) (s : SameK (hide L H) (hide L' H2)) (rx : Rep K U (hide L H) d x) (ry : Rep K U (hide L H) e y) :
    Rep K U (hide L' (upd H2 T (.tup [x, y]))) (.tup [d, e]) (.ref T) := by
  have nT : T ∉ L' := fun z => by
    exact (hl T z).no hT
  have s2 : SameK (hide L H) (hide L' (upd H2 T (.tup [x, y]))) := s.trans (hide_same (new_k hT))
  exact ⟨T, [x, y], rfl, SqT.of (by rw [hide_ne nT, upd_same]), ⟨x, [y], rfl, Rep.mono s2 _ _ rx, y, [], rfl, Rep.mono s2 _ _ ry, rfl⟩, by show 2 ≤ sizeLine; decide⟩
def pairs (xs ys : List D) : List D := List.zipWith (fun x y => D.tup [x, y]) xs ys
theorem pairs_len (xs ys : List D) : (pairs xs ys).length = min xs.length ys.length := List.length_zipWith
theorem pairs_get {xs ys : List D} {i : Nat} {x y : D} (h1 : xs[i]? = some x) (h2 : ys[i]? = some y) : (pairs xs ys)[i]? = some (.tup [x, y]) := by
  unfold pairs
  rw [List.getElem?_zipWith, h1, h2]
theorem walk_zl {K : PySem.W.Frag} {L : List Addr} {H B : Hp} {a b : Addr} {vs ws : List V} {ds es : List D} (ha : B a = some (.lst vs)) (hb : B b = some (.lst ws)) (ra : Reps K U (hide L H) ds vs) (rb : Reps K U (hide L H) es ws) (z : ds.length ≤ sizeLine) :
    Walk K U L H B (Itz K a b) (pairs ds es) := by
  have e1 := ra.len
  have e2 := rb.len
  refine ⟨by rw [pairs_len]; omega, fun i H2 e hi => ?_, fun H2 e => ?_, fun i x H2 H3 e hi y => ?_⟩
  · rw [pairs_len] at hi
    exact ⟨vs, ws, vs[i]'(by omega), ws[i]'(by omega), SqL.of (e.at _ _ ha), SqL.of (e.at _ _ hb), by simp, by simp⟩
  · refine ⟨vs, ws, SqL.of (e.at _ _ ha), SqL.of (e.at _ _ hb), ?_⟩
    rw [pairs_len]
    omega
  · obtain ⟨T, x1, x2, rfl, hT, rfl, f1, f2⟩ := y
    obtain ⟨d1, g1, r1⟩ := ra.getV (f1 vs (SqL.of (e.at _ _ ha)))
    obtain ⟨d2, g2, r2⟩ := rb.getV (f2 ws (SqL.of (e.at _ _ hb)))
    exact ⟨new_ext hT, .tup [d1, d2], pairs_get g1 g2, rfl, fun L' hl s => pair_rep hT hl s r1 r2⟩
theorem walk_zt {K : PySem.W.Frag} {L : List Addr} {H B : Hp} {a b : Addr} {vs ws : List V} {ds es : List D} (ha : SqT K B a vs) (hb : SqT K B b ws) (ra : Reps K U (hide L H) ds vs) (rb : Reps K U (hide L H) es ws) (z : ds.length ≤ sizeLine) :
    Walk K U L H B (RZ.ItzT K a b) (pairs ds es) := by
  have e1 := ra.len
  have e2 := rb.len
  refine ⟨by rw [pairs_len]; omega, fun i H2 e hi => ?_, fun H2 e => ?_, fun i x H2 H3 e hi y => ?_⟩
  · rw [pairs_len] at hi
    exact ⟨vs, ws, vs[i]'(by omega), ws[i]'(by omega), seqT_mono e ha, seqT_mono e hb, by simp, by simp⟩
  · refine ⟨vs, ws, seqT_mono e ha, seqT_mono e hb, ?_⟩
    rw [pairs_len]
    omega
  · obtain ⟨T, x1, x2, rfl, hT, rfl, f1, f2⟩ := y
    obtain ⟨d1, g1, r1⟩ := ra.getV (f1 vs (seqT_mono e ha))
    obtain ⟨d2, g2, r2⟩ := rb.getV (f2 ws (seqT_mono e hb))
    exact ⟨new_ext hT, .tup [d1, d2], pairs_get g1 g2, rfl, fun L' hl s => pair_rep hT hl s r1 r2⟩
/-- zip of two lists or of two tuples -/
theorem WI_zip {a b : Expr} {elts : List Expr} {kk : Nat} {tpos p : Pos} (hm : X.mg "zip" = none) (h : WA c [a, b] δ fun ds => ∃ xs ys, (ds = [.lst xs, .lst ys] ∨ ds = [.tup xs, .tup ys]) ∧ S (pairs xs ys)) (hg : Gl X "zip")
    (hs : starEach [a, b] X.env = (false, eval a X.env) :: starEach [b] X.env := by rfl) (hpl : (backTo pos (starEach [b] X.env)).any (·.1) = false := by rfl) :
    WI c (.Tuple elts kk tpos) (.Call (.Name "zip" p) [a, b] [] pos) δ S := fun L σ H R E q =>
  runI_of (RZ.pi_zipA hg hm pa_run hs hpl) (h L σ H _ E fun vs H1 ds s1 r1 ⟨xs, ys, hd, z⟩ => by
    rcases hd with hd | hd
    · subst hd
      obtain ⟨v, u, rfl, rv, ru⟩ := r1.two
      obtain ⟨a, vs, rfl, ha, ra, za⟩ := rv
      obtain ⟨b, ws, rfl, hb, rb, zb⟩ := ru
      exact ⟨a, b, vs, ws, rfl, .inl ⟨SqL.of (hide_at ha).2, SqL.of (hide_at hb).2, q _ H1 _ s1 (walk_zl ha hb ra rb za) z⟩⟩
    · subst hd
      obtain ⟨v, u, rfl, rv, ru⟩ := r1.two
      obtain ⟨a, vs, rfl, ha, ra, za⟩ := rv
      obtain ⟨b, ws, rfl, hb, rb, zb⟩ := ru
      exact ⟨a, b, vs, ws, rfl, .inr ⟨seqT_mono hide_ext.k ha, seqT_mono hide_ext.k hb, q _ H1 _ s1 (walk_zt ha hb ra rb za) z⟩⟩)
def numbered (xs : List D) : List D := xs.zipIdx.map fun p => D.tup [.int (p.2 : Nat), p.1]
theorem numbered_len (xs : List D) : (numbered xs).length = xs.length := by simp [numbered]
theorem numbered_get {xs : List D} {i : Nat} {x : D} (h : xs[i]? = some x) : (numbered xs)[i]? = some (.tup [.int (i : Nat), x]) := by
  simp [numbered, List.getElem?_zipIdx, h]
theorem walk_el {K : PySem.W.Frag} {L : List Addr} {H B : Hp} {a : Addr} {vs : List V} {ds : List D} (ha : B a = some (.lst vs)) (ra : Reps K U (hide L H) ds vs) (z : ds.length ≤ sizeLine) : Walk K U L H B (Ite K a) (numbered ds) := by
  have e1 := ra.len
  refine ⟨by rw [numbered_len]; exact z, fun i H2 e hi => ?_, fun H2 e => ?_, fun i x H2 H3 e hi y => ?_⟩
  · rw [numbered_len] at hi
    exact ⟨vs, vs[i]'(by omega), SqL.of (e.at _ _ ha), by simp⟩
  · refine ⟨vs, SqL.of (e.at _ _ ha), ?_⟩
    rw [numbered_len]
    omega
  · obtain ⟨T, x1, rfl, hT, rfl, f1⟩ := y
    obtain ⟨d1, g1, r1⟩ := ra.getV (f1 vs (SqL.of (e.at _ _ ha)))
    exact ⟨new_ext hT, .tup [.int (i : Nat), d1], numbered_get g1, rfl, fun L' hl s => pair_rep hT hl s (d := .int (i : Nat)) rfl r1⟩
/-- enumerate of a list -/
theorem WI_enum {a : Expr} {elts : List Expr} {kk : Nat} {tpos p : Pos} (hm : X.mg "enumerate" = none) (h : WA c [a] δ fun ds => ∃ xs, ds = [.lst xs] ∧ S (numbered xs)) (hg : Gl X "enumerate") (hs : starEach [a] X.env = [(false, eval a X.env)] := by rfl) :
    WI c (.Tuple elts kk tpos) (.Call (.Name "enumerate" p) [a] [] pos) δ S := fun L σ H R E q =>
  runI_of (pi_enum hg hm pa_run hs) (h L σ H _ E fun vs H1 ds s1 r1 ⟨xs, hd, z⟩ => by
    subst hd
    obtain ⟨v, rfl, a, vs, rfl, ha, ra, za⟩ := r1.one
    exact ⟨a, vs, rfl, SqL.of (hide_at ha).2, q _ H1 _ s1 (walk_el ha ra za) z⟩)

/-! targets -/
theorem Dif.refl (ts : List Nat) (σ : L2.St) : Dif ts σ σ := ⟨rfl, fun _ _ => rfl⟩
theorem Dif.set {ts : List Nat} {σ : L2.St} {i : Nat} {o : Option V} (h : i ∈ ts) : Dif ts σ (σ.set i o) := ⟨List.length_set, fun j hj => by
  rw [List.getElem?_set_ne (fun z => hj (by rw [← z]; exact h))]⟩
theorem Dif.trans {ts : List Nat} {σ σ1 σ2 : L2.St} (a : Dif ts σ σ1) (b : Dif ts σ1 σ2) : Dif ts σ σ2 := ⟨b.1.trans a.1, fun j hj => (b.2 j hj).trans (a.2 j hj)⟩
theorem Dif.mono {ts ts' : List Nat} {σ σ1 : L2.St} (a : Dif ts σ σ1) (h : ∀ i ∈ ts, i ∈ ts') : Dif ts' σ σ1 := ⟨a.1, fun j hj => a.2 j fun z => hj (h j z)⟩
theorem En.set {L : List Addr} {H : Hp} {σ : L2.St} {i : Nat} {d : D} {v : V} (E : En c L H σ δ) (h : Rep X.K U (hide L H) d v) : En c L H (σ.set i (some v)) (δ.set i (some d)) := by
  refine ⟨E.ok, by simp [E.len], fun j e he => ?_, fun j k xs ys l h1 h2 f1 f2 h3 h4 => ?_⟩
  · by_cases hj : i = j
    · subst hj
      by_cases hi : i < δ.length
      · rw [List.getElem?_set_self hi] at he
        cases he
        exact ⟨v, by rw [List.getElem?_set_self (by rw [E.len]; exact hi)], .of_rep h⟩
      · rw [List.getElem?_eq_none (by simpa using hi)] at he
        cases he
    · rw [List.getElem?_set_ne hj] at he ⊢
      exact E.rep j e he
  · have s := h.still
    have no : ∀ (m : Nat) (e : D), i = m → (δ.set i (some d))[m]? = some (some e) → e.still = false → False := fun m e z g f => by
      subst z
      by_cases hi : i < δ.length
      · rw [List.getElem?_set_self hi] at g
        obtain rfl : d = e := by injection g with g; injection g
        rw [f] at s
        exact absurd s (by decide)
      · rw [List.getElem?_eq_none (by simpa using hi)] at g
        cases g
    have hj : i ≠ j := fun z => no j xs z h1 f1
    have hk : i ≠ k := fun z => no k ys z h2 f2
    rw [List.getElem?_set_ne hj] at h1 h3
    rw [List.getElem?_set_ne hk] at h2 h4
    exact E.sep j k xs ys l h1 h2 f1 f2 h3 h4
theorem AG_name (i : Nat) {x : Str} {d : D} {K : List (Option D) → Prop} (h : K (δ.set i (some d))) (hi : X.N[i]? = some x) (hx : Loc X.env.scope x) (hf : X.fn x = true ∨ X.env.scope.names.lookup x = some .local) : AG c (.Name x pos) δ d [i] K := fun L σ H v Q E r q =>
  runG_of (pg_name c.nd hi hx hf) (q _ _ (Dif.set (by simp)) (E.set r) h)
theorem AGs_nil {K : List (Option D) → Prop} (h : K δ) : AGs c [] δ [] [] K := fun L σ H vs Q E r q => runGs_of pgs_nil ⟨r, q σ δ (Dif.refl _ _) E h⟩
theorem AGs_cons {tgs : List Expr} {d : D} {ds : List D} {t1 ts : List Nat} {K : List (Option D) → Prop} (h : AG c tg δ d t1 fun δ1 => AGs c tgs δ1 ds ts K) (hs : (assignEach (tg :: tgs) X.env).map (·.2) = assign tg X.env :: (assignEach tgs X.env).map (·.2) := by rfl) : AGs c (tg :: tgs) δ (d :: ds) (t1 ++ ts) K := fun L σ H vs Q E r q => by
  obtain ⟨v, w, rfl, r1, r2⟩ := r
  exact runGs_of (pgs_cons pg_run pgs_run hs) ⟨v, w, rfl, h L σ H v _ E r1 fun σ1 δ1 d1 E1 z => z L σ1 H w Q E1 r2 fun σ2 δ2 d2 E2 z2 => q σ2 δ2 ((d1.mono fun i hi => List.mem_append_left _ hi).trans (d2.mono fun i hi => List.mem_append_right _ hi)) E2 z2⟩
theorem AG_tup {es : List Expr} {k : Nat} {d : D} {ds : List D} {ts : List Nat} {K : List (Option D) → Prop} (hd : d = .tup ds) (h : AGs c es δ ds ts K) (hn : (assignEach es X.env).length = ds.length) (hst : (assignEach es X.env).findIdx? (·.1) = none := by rfl) : AG c (.Tuple es k pos) δ d ts K := fun L σ H v Q E r q => by
  subst hd
  obtain ⟨a, vs, rfl, ha, ra, za⟩ := r
  exact runG_of (pg_tup c.calm pgs_run hn hst) ⟨a, vs, rfl, seqT_mono hide_ext.k ha, ra.len.symm, h L σ H vs Q E ra q⟩

/-! tests of a comprehension -/
theorem WTs_nil {S : Bool → Prop} (h : S true) : WTs c [] δ S := fun L σ H Q E q => runTs_of pts_nil (q true H (Same.refl H) h)
theorem WTs_one {t : Expr} {S : Bool → Prop} (h : WT c t δ S) : WTs c [t] δ S := fun L σ H Q E q => runTs_of (pts_one pt_run) (h L σ H Q E q)

/-! ### list comprehensions -/
def noX : XD := fun _ _ => False
def Blk (c : Ct X U lv T) (scope : Scope) (φ : ∀ {X' : Cx}, Ct X' U lv noX → Prop) : Prop := ∀ (s : Shared) (H : Hp) (C : Addr) (cl : List (Str × Addr)) (fp : List Addr) (c' : Ct (X.blk s H scope (compEnvC scope cl C X.env) fp) U lv noX), c'.Hb = c.Hb → c'.Lb = c.Lb → φ c'
def blkCt (c : Ct X U lv T) (scope : Scope) (s : Shared) (H : Hp) (C : Addr) (cl : List (Str × Addr)) (fp : List Addr) : Ct (X.blk s H scope (compEnvC scope cl C X.env) fp) U lv noX where
  Hb := c.Hb
  Lb := c.Lb
  g := c.g
  calm := c.calm
  nd := c.nd
  room := c.room
  own := PassesOwn.never
  tk := fun u s' x => by
    obtain ⟨_, _, _, _, _, _, _, _, _, _, _, _, _, _, _, _, z⟩ := x
    obtain ⟨_, _, _, z⟩ := z
    exact z.elim
def wipeD (δ : List (Option D)) : List Nat → List (Option D)
  | [] => δ
  | v :: vs => (wipeD δ vs).set v none
theorem wipeD_len (δ : List (Option D)) : ∀ vs, (wipeD δ vs).length = δ.length
  | [] => rfl
  | v :: vs => by
    unfold wipeD
    rw [List.length_set, wipeD_len δ vs]
theorem wipeD_some {δ : List (Option D)} {i : Nat} {x : D} : ∀ {vs : List Nat}, (wipeD δ vs)[i]? = some (some x) → δ[i]? = some (some x) ∧ i ∉ vs
  | [], h => ⟨h, by simp⟩
  | v :: vs, h => by
    unfold wipeD at h
    by_cases hi : v = i
    · subst hi
      by_cases hv : v < (wipeD δ vs).length
      · rw [List.getElem?_set_self hv] at h
        cases h
      · rw [List.getElem?_eq_none (by simpa using hv)] at h
        cases h
    · rw [List.getElem?_set_ne hi] at h
      obtain ⟨h1, h2⟩ := wipeD_some h
      exact ⟨h1, fun z => (List.mem_cons.mp z).elim (fun y => hi y.symm) h2⟩
theorem En.wipe {L : List Addr} {H : Hp} {σ : L2.St} (E : En c L H σ δ) (vs : List Nat) : En c L H (wipe σ vs) (wipeD δ vs) :=
  ⟨E.ok, by rw [wipe_length, wipeD_len]; exact E.len, fun i d h => by
    obtain ⟨h1, h2⟩ := wipeD_some h
    obtain ⟨v, g1, g2⟩ := E.rep i d h1
    exact ⟨v, by rw [wipe_out h2]; exact g1, g2⟩, fun i j xs ys l h1 h2 f1 f2 h3 h4 => by
    obtain ⟨a1, b1⟩ := wipeD_some h1
    obtain ⟨a2, b2⟩ := wipeD_some h2
    rw [wipe_out b1] at h3
    rw [wipe_out b2] at h4
    exact E.sep i j xs ys l a1 a2 f1 f2 h3 h4⟩
theorem wipe_set_none : ∀ (vs : List Nat) (σ : L2.St) (j : Nat), j ∈ vs → j < σ.length → (wipe σ vs)[j]? = some none
  | [], _, _, h, _ => by simp at h
  | v :: vs, σ, j, h, hj => by
    unfold wipe
    by_cases e : v = j
    · subst e
      rw [List.getElem?_set_self (by rw [wipe_length]; exact hj)]
    · rw [List.getElem?_set_ne e]
      exact wipe_set_none vs σ j ((List.mem_cons.mp h).elim (fun z => absurd z.symm e) id) hj
theorem wipe_dif {σ σ2 : L2.St} {ts vs : List Nat} (d : Dif ts (wipe σ vs) σ2) (h : ∀ i ∈ ts, i ∈ vs) : wipe σ2 vs = wipe σ vs := by
  refine List.ext_getElem? fun j => ?_
  by_cases hj : j ∈ vs
  · by_cases hl : j < σ.length
    · rw [wipe_set_none vs σ j hj hl, wipe_set_none vs σ2 j hj (by rw [d.1, wipe_length]; exact hl)]
    · rw [List.getElem?_eq_none (by rw [wipe_length, d.1, wipe_length]; omega), List.getElem?_eq_none (by rw [wipe_length]; omega)]
  · rw [wipe_out hj, d.2 j (fun z => hj (h j z))]
/-- the context of a block, from that of the frame -/
theorem En.blk {X' : Cx} {c' : Ct X' U lv noX} {L : List Addr} {H H' : Hp} {σ : L2.St} {p : Addr} (E : En c L H σ δ) (hK : X'.K = X.K) (hb : c'.Hb = c.Hb) (hl : c'.Lb = c.Lb) (hp : H p = none) (s : Same U H H') (hp' : ∃ xs, H' p = some (.lst xs)) : En c' (p :: L) H' σ δ := by
  refine ⟨⟨by rw [hb]; exact E.ok.base.trans s, fun l h => ?_, fun l h => ?_, fun l h => ?_⟩, E.len, fun i d h => ?_, E.sep⟩
  · rw [hl] at h
    exact List.mem_cons_of_mem _ (E.ok.lb l h)
  · rw [hl, hb]
    rcases List.mem_cons.mp h with z | z
    · right
      exact E.ok.base.free (by rw [z]; exact .of hp)
    · exact E.ok.new l z
  · rcases List.mem_cons.mp h with z | z
    · rw [z]
      exact MutAt.lst hp'.choose_spec
    · exact (E.ok.lsts l z).mono s
  · obtain ⟨v, h1, h2⟩ := E.rep i d h
    rw [hK, hl]
    exact ⟨v, h1, h2.grow (.of hp) s⟩
def lcG (X : Cx) (scope : Scope) (tg : Expr) : TG := fun v σ H Q => ∀ (s : Shared) (H0 : Hp) (C : Addr) (cl : List (Str × Addr)) (fp : List Addr), runG (X.blk s H0 scope (compEnvC scope cl C X.env) fp) tg v σ H Q
def lcT (X : Cx) (scope : Scope) (ifs : List Expr) : TT := fun σ H Q => ∀ (s : Shared) (H0 : Hp) (C : Addr) (cl : List (Str × Addr)) (fp : List Addr), runTs (X.blk s H0 scope (compEnvC scope cl C X.env) fp) ifs σ H Q
def lcE (X : Cx) (scope : Scope) (elt : Expr) : TE := fun σ H Q => ∀ (s : Shared) (H0 : Hp) (C : Addr) (cl : List (Str × Addr)) (fp : List Addr), runE (X.blk s H0 scope (compEnvC scope cl C X.env) fp) elt σ H Q
/-- what a turn of a comprehension is to show -/
def LcTurn (c : Ct X U lv T) (tg : Expr) (ifs : List Expr) (elt : Expr) (scope : Scope) (δ : List (Option D)) (ts : List Nat) (S : List D → Prop) (ds : List D) : Prop :=
  ∃ Pv : Nat → List D → Prop, Pv 0 [] ∧ (∀ (i : Nat) (d : D) (ys : List D), ds[i]? = some d → ys.length ≤ i → Pv i ys → Blk c scope fun c1 => AG c1 tg δ d ts fun δ2 => Blk c scope fun c2 => WTs c2 ifs δ2 fun b =>
      if b = true then Blk c scope fun c3 => WE c3 elt δ2 fun y => y.still = true ∧ Pv (i + 1) (ys ++ [y]) else Pv (i + 1) ys) ∧ ∀ ys, ys.length ≤ ds.length → Pv ds.length ys → S ys
theorem lc_read {elt : Expr} {ifs : List Expr} {scope : Scope} {vs0 ts : List Nat} (hi : WJ c tg iter δ (LcTurn c tg ifs elt scope (wipeD δ vs0) ts S)) (hts : ∀ i ∈ ts, i ∈ vs0) {L : List Addr} {σ : L2.St} {H : Hp} {Q : VK} (E : En c L H σ δ)
    (q : ∀ l H' vs ds, Same U H H' → NoA H l → H' l = some (.lst vs) → Reps X.K U (hide (l :: L) H') ds vs → ds.length ≤ sizeLine → S ds → Q (.ref l) H') : tLc (runI X tg iter) (lcG X scope tg) (lcT X scope ifs) (lcE X scope elt) vs0 σ H Q := by
  refine hi L σ H _ E fun J H1 ds s1 w ⟨Pv, p0, step, fin⟩ => ?_
  intro Dl hD
  have E1 := E.mono s1
  have nl : Dl ∉ L := E1.ok.fresh hD
  refine ⟨fun i m H2 => m = ds.length - i ∧ i ≤ ds.length ∧ Same U H1 H2 ∧ ∃ ys vs, Pv i ys ∧ ys.length ≤ i ∧ H2 Dl = some (.lst vs) ∧ Reps X.K U (hide (Dl :: L) H2) ys vs, ⟨ds.length, by simp, Nat.zero_le _, same_new hD, [], [], p0, Nat.le_refl _, upd_same, rfl⟩, ?_⟩
  rintro i m H2 ⟨rfl, hi, s2, ys, vs, pv, hy, hd, rp⟩
  have hys := rp.len
  by_cases hlt : i < ds.length
  · refine .inr ⟨w.go i H2 s2 hlt, fun H3 => i + 1 ≤ ds.length ∧ Same U H1 H3 ∧ ∃ ys vs, Pv (i + 1) ys ∧ ys.length ≤ i + 1 ∧ H3 Dl = some (.lst vs) ∧ Reps X.K U (hide (Dl :: L) H3) ys vs, fun H3 h3 => ⟨ds.length - (i + 1), by omega, rfl, h3⟩, fun x H3 y => ?_⟩
    obtain ⟨s3, d, hd1, hst, hrep⟩ := w.yld i x H2 H3 s2 hlt y
    have hrep := hrep (Dl :: L) (fun l hl => by
      rcases List.mem_cons.mp hl with z | z
      · rw [z]; exact .lst hd
      · exact (E1.ok.lsts l z).mono s2) (hide_cons (.of hD) s2)
    intro sa Ha Ca cla fpa
    have key := step i d ys hd1 hy pv sa Ha Ca cla fpa (blkCt c scope sa Ha Ca cla fpa) rfl rfl
    have s13 := s2.trans s3.s
    refine key (Dl :: L) (wipe σ (vs0)) H3 x _ ((E1.wipe (vs0)).blk (X' := X.blk sa Ha scope (compEnvC scope cla Ca X.env) fpa) rfl rfl rfl hD s13 ⟨vs, s3 _ _ hd⟩) hrep fun σ2 δ2 df E2 k2 => ?_
    refine ⟨wipe_dif df hts, ?_⟩
    intro sb Hb Cb clb fpb
    have E2' : En (blkCt c scope sb Hb Cb clb fpb) (Dl :: L) H3 σ2 δ2 := ⟨⟨E2.ok.base, E2.ok.lb, E2.ok.new, E2.ok.lsts⟩, E2.len, E2.rep, E2.sep⟩
    refine k2 sb Hb Cb clb fpb (blkCt c scope sb Hb Cb clb fpb) rfl rfl (Dl :: L) σ2 H3 _ E2' fun b H4 s4 z => ?_
    have rp4 : Reps X.K U (hide (Dl :: L) H4) ys vs := Reps.mono (hide_same (s3.k.trans s4.k)) _ _ rp
    cases b with
    | true =>
      rw [if_pos rfl] at z ⊢
      intro sc Hc Cc clc fpc
      have E3 : En (blkCt c scope sc Hc Cc clc fpc) (Dl :: L) H4 σ2 δ2 := ⟨⟨(E2.ok.mono s4).base, E2.ok.lb, E2.ok.new, (E2.ok.mono s4).lsts⟩, E2.len, (E2.mono s4).rep, E2.sep⟩
      refine z sc Hc Cc clc fpc (blkCt c scope sc Hc Cc clc fpc) rfl rfl (Dl :: L) σ2 H4 _ E3 fun y H5 e s5 r5 ⟨st, p5⟩ => ?_
      refine ⟨vs, s5.at _ _ (s4.at _ _ (s3 _ _ hd)), by have := w.size; omega, by omega, ?_, ys ++ [e], vs ++ [y], p5, by simp; omega, upd_same, ?_⟩
      · exact ((s13.trans s4).trans s5).set (.lst (s5.at _ _ (s4.at _ _ (s3 _ _ hd)))) (.of hD) rfl
      · rw [hide_upd List.mem_cons_self]
        exact (Reps.mono (hide_same s5.k) _ _ rp4).app (Reps.one (r5.rep st))
    | false =>
      rw [if_neg Bool.false_ne_true] at z ⊢
      exact ⟨by omega, s13.trans s4, ys, vs, z, by omega, s4.at _ _ (s3 _ _ hd), rp4⟩
  · have e : i = ds.length := by omega
    subst e
    refine .inl ⟨w.stop H2 s2.k, q Dl H2 vs ys (s1.trans s2) (Same.free s1 (.of hD)) hd rp (by have := w.size; omega) (fin ys hy pv)⟩
theorem WF_lc {elt : Expr} {ifs : List Expr} {scope : Scope} (own : List (Str × Nat)) (ts : List Nat) (hi : WJ c tg iter δ (LcTurn c tg ifs elt scope (wipeD δ (own.map (·.2))) ts S))
    (ok : BlkOk X.N X.env.scope scope own) (hts : ∀ i ∈ ts, i ∈ own.map (·.2)) (hs : ∀ x, foldedSetIterable iter X.env x = pure x := by intro _; rfl) : WF c (.ListComp elt [⟨tg, iter, ifs, 0⟩] scope pos) δ S := fun L σ H Q E q =>
  runE_of (pe_lc (own := own) c.calm c.nd pi_run ok (fun s H0 C cl fp => ⟨fun pins s1 σ1 H1 v u Q1 I r h => h s H0 C cl fp pins s1 u I r⟩) (fun s H0 C cl fp => ⟨fun pins s1 σ1 H1 Q1 I h => h s H0 C cl fp pins s1 I⟩)
    (fun s H0 C cl fp => ⟨fun pins s1 σ1 H1 Q1 I h => h s H0 C cl fp pins s1 I⟩) hs) (lc_read hi hts E q)
theorem WE_lc {elt : Expr} {ifs : List Expr} {scope : Scope} {S : D → Prop} (own : List (Str × Nat)) (ts : List Nat) (hi : WJ c tg iter δ (LcTurn c tg ifs elt scope (wipeD δ (own.map (·.2))) ts fun ys => S (.lst ys)))
    (ok : BlkOk X.N X.env.scope scope own) (hts : ∀ i ∈ ts, i ∈ own.map (·.2)) (hs : ∀ x, foldedSetIterable iter X.env x = pure x := by intro _; rfl) : WE c (.ListComp elt [⟨tg, iter, ifs, 0⟩] scope pos) δ S :=
  WE_of_F (WF_lc own ts hi ok hts hs)
end
end Dl

set_option maxRecDepth 100000
set_option maxHeartbeats 1000000
/-! # Statements, defs, calls -/
namespace Dl
open PySem PySem.Spec PyProof.Rows L2

def runS (X : Cx) (st : Stmt) : TS := fun D σ H => ∀ (pins : List (Addr × Obj)) (s : Shared), Inv X pins σ H s → wpAny (model X.prog X.w) X.A (exec st X.env) (SP X pins D) X.xe s
def runSs (X : Cx) (st : List Stmt) : TS := fun D σ H => ∀ (pins : List (Addr × Obj)) (s : Shared), Inv X pins σ H s → wpAny (model X.prog X.w) X.A (execs st X.env) (SP X pins D) X.xe s
section
variable {X : Cx} {st : Stmt} {sts : List Stmt}
theorem ps_run : PS X st (runS X st) := ⟨fun pins s _ _ _ I h => h pins s I⟩
theorem pss_run : PSs X sts (runSs X sts) := ⟨fun pins s _ _ _ I h => h pins s I⟩
theorem runS_of {t : TS} {D : Ends} {σ : L2.St} {H : Hp} (h : PS X st t) (q : t D σ H) : runS X st D σ H := fun pins s I => h.run pins s σ H D I q
theorem runSs_of {t : TS} {D : Ends} {σ : L2.St} {H : Hp} (h : PSs X sts t) (q : t D σ H) : runSs X sts D σ H := fun pins s I => h.run pins s σ H D I q
end

structure SE where
  nx : List (Option D) → Prop
  rt : D → Prop
  bk : List (Option D) → Prop := fun _ => False
  ct : List (Option D) → Prop := fun _ => False
section
variable {X : Cx} {U : Pu} {lv : Nat} {T : XD}
structure Cmp (c : Ct X U lv T) (E : SE) (D : Ends) : Prop where
  nx : ∀ L' σ' H' δ', En c L' H' σ' δ' → E.nx δ' → D.nx σ' H'
  rt : ∀ v H' d, Same U c.Hb H' → Rep X.K U (hide c.Lb H') d v → E.rt d → D.rt v H'
  bk : ∀ L' σ' H' δ', En c L' H' σ' δ' → E.bk δ' → D.bk σ' H'
  ct : ∀ L' σ' H' δ', En c L' H' σ' δ' → E.ct δ' → D.ct σ' H'
def WS (c : Ct X U lv T) (st : Stmt) (δ : List (Option D)) (E : SE) : Prop := ∀ (L : List Addr) (σ : L2.St) (H : Hp) (D : Ends), En c L H σ δ → Cmp c E D → runS X st D σ H
def WSs (c : Ct X U lv T) (st : List Stmt) (δ : List (Option D)) (E : SE) : Prop := ∀ (L : List Addr) (σ : L2.St) (H : Hp) (D : Ends), En c L H σ δ → Cmp c E D → runSs X st D σ H
variable {c : Ct X U lv T} {δ : List (Option D)} {E : SE} {e : Expr} {pos : Pos} {st : Stmt} {rest : List Stmt}

theorem WSs_nil (h : E.nx δ) : WSs c [] δ E := fun L σ H D N C => runSs_of pss_nil (C.nx L σ H δ N h)
theorem WSs_cons (h : WS c st δ { E with nx := fun δ' => WSs c rest δ' E }) : WSs c (st :: rest) δ E := fun L σ H D N C =>
  runSs_of (pss_cons ps_run pss_run) (h L σ H _ N ⟨fun L' σ' H' δ' N' k => k L' σ' H' D N' C, C.rt, C.bk, C.ct⟩)
theorem WSs_mono {E' : SE} (h : WSs c rest δ E) (k1 : ∀ δ', E.nx δ' → E'.nx δ') (k2 : ∀ d, E.rt d → E'.rt d) (k3 : ∀ δ', E.bk δ' → E'.bk δ') (k4 : ∀ δ', E.ct δ' → E'.ct δ') : WSs c rest δ E' := fun L σ H D N C =>
  h L σ H D N ⟨fun L' σ' H' δ' N' k => C.nx L' σ' H' δ' N' (k1 _ k), fun v H' d s r k => C.rt v H' d s r (k2 _ k), fun L' σ' H' δ' N' k => C.bk L' σ' H' δ' N' (k3 _ k), fun L' σ' H' δ' N' k => C.ct L' σ' H' δ' N' (k4 _ k)⟩
theorem WS_pass (h : E.nx δ) : WS c (.Pass pos) δ E := fun L σ H D N C => runS_of ps_pass (C.nx L σ H δ N h)
theorem WS_break (h : E.bk δ) : WS c (.Break pos) δ E := fun L σ H D N C => runS_of ps_break (C.bk L σ H δ N h)
theorem WS_continue (h : E.ct δ) : WS c (.Continue pos) δ E := fun L σ H D N C => runS_of ps_continue (C.ct L σ H δ N h)
/-- forgetting what the names hold, or no longer changing a list -/
theorem En.frz {L : List Addr} {H : Hp} {σ : L2.St} (N : En c L H σ δ) : En c c.Lb H σ (δ.map (Option.map D.frz)) := by
  refine ⟨⟨N.ok.base, fun l h => h, fun l h => .inl h, fun l h => N.ok.lsts l (N.ok.lb l h)⟩, by simp [N.len], fun i d h => ?_, fun i j xs ys l h _ f1 => ?_⟩
  · rw [List.getElem?_map] at h
    cases g : δ[i]? with
    | none =>
      rw [g] at h
      cases h
    | some o =>
      rw [g] at h
      cases o with
      | none => cases h
      | some d' =>
        cases h
        obtain ⟨v, h1, h2⟩ := N.rep i d' g
        exact ⟨v, h1, .of_rep (h2.frz N.ok.lb)⟩
  · rw [List.getElem?_map] at h
    cases g : δ[i]? with
    | none =>
      rw [g] at h
      cases h
    | some o =>
      rw [g] at h
      cases o with
      | none => cases h
      | some d' =>
        obtain rfl : d'.frz = xs := by injection h with h; injection h
        cases d' <;> cases f1
theorem repB {K : PySem.W.Frag} {Lb : List Addr} {H : Hp} {d : D} {v : V} (h : RepO K U Lb Lb H d v) : Rep K U (hide Lb H) d v := by
  cases d with
  | own xs =>
    obtain ⟨l, vs, h1, h2, h3, _⟩ := h
    exact absurd h2 h3
  | odk ks ds =>
    obtain ⟨l, vs, h1, h2, h3, _⟩ := h
    exact absurd h2 h3
  | _ => exact h
theorem WS_ret (h : WE c e (δ.map (Option.map D.frz)) E.rt) : WS c (.Return (some e) pos) δ E := fun L σ H D N C =>
  runS_of (ps_ret pe_run) (h c.Lb σ H _ N.frz fun v H' d s r k => C.rt v H' d (N.ok.base.trans s) (repB r) k)
theorem WS_retN (h : E.rt .non) : WS c (.Return none pos) δ E := fun L σ H D N C => runS_of ps_retN (C.rt .non H .non N.ok.base rfl h)
/-- no list is changed any more -/
theorem WSs_frz (h : WSs c rest (δ.map (Option.map D.frz)) E) : WSs c rest δ E := fun L σ H D N C => h c.Lb σ H D N.frz C
theorem WS_expr (h : WE c e δ fun _ => E.nx δ) (hs : swapsWith e none pos.line X.env = pure false) : WS c (.Expr e pos) δ E := fun L σ H D N C =>
  runS_of (ps_expr pe_run hs) (h L σ H _ N fun v H' d s r k => C.nx L σ H' δ (N.mono s) k)
theorem WS_if {t : Expr} {a b : List Stmt} (h : WT c t δ fun k => if k = true then WSs c a δ E else WSs c b δ E) : WS c (.If t a b pos) δ E := fun L σ H D N C =>
  runS_of (ps_if pt_run pss_run pss_run) (h L σ H _ N fun k H1 s1 z => by
    cases k with
    | true =>
      rw [if_pos rfl] at z ⊢
      exact z L σ H1 D (N.mono s1) C
    | false =>
      rw [if_neg Bool.false_ne_true] at z ⊢
      exact z L σ H1 D (N.mono s1) C)

/-! ### what is stored: data that stay, or a new list -/
def OutO (K : PySem.W.Frag) (U : Pu) (L : List Addr) (H H' : Hp) (d : D) (v : V) : Prop := match d with
  | .own ds => ∃ l vs, v = .ref l ∧ NoA H l ∧ H' l = some (.lst vs) ∧ Reps K U (hide (l :: L) H') ds vs ∧ ds.length ≤ sizeLine
  | .odk ks ds => ∃ l vs, v = .ref l ∧ NoA H l ∧ H' l = some (.dK (ks.zip vs)) ∧ Reps K U (hide (l :: L) H') ds vs ∧ ks.length = ds.length
  | d => Rep K U (hide L H') d v
def WO (c : Ct X U lv T) (e : Expr) (δ : List (Option D)) (S : D → Prop) : Prop := ∀ (L : List Addr) (σ : L2.St) (H : Hp) (Q : VK), En c L H σ δ →
  (∀ v H' d, Same U H H' → OutO X.K U L H H' d v → S d → Q v H') → runE X e σ H Q
theorem WO_of {S : D → Prop} (h : WE c e δ fun d => d.still = true ∧ S d) : WO c e δ S := fun L σ H Q N q => h L σ H Q N fun v H' d s r ⟨z, k⟩ => q v H' d s (by
  cases d with
  | own xs => cases z
  | odk _ _ => cases z
  | _ => exact r) k
theorem WO_new {S : D → Prop} (h : WF c e δ fun ds => S (.own ds)) : WO c e δ S := fun L σ H Q N q => h L σ H Q N fun l H' vs ds s hl hl' r z k => q _ H' (.own ds) s ⟨l, vs, rfl, hl, hl', r, z⟩ k
/-- a value that may be stored -/
def Held (c : Ct X U lv T) (L : List Addr) (H : Hp) (σ : L2.St) (δ : List (Option D)) (d : D) (v : V) : Prop :=
  RepO X.K U c.Lb L H d v ∧ ∀ l, d.still = false → v = .ref l → ∀ (j : Nat) (y : D), δ[j]? = some (some y) → y.still = false → σ[j]? ≠ some (some (.ref l))
theorem En.put {L : List Addr} {H : Hp} {σ : L2.St} {i : Nat} {d : D} {v : V} (N : En c L H σ δ) (h : Held c L H σ δ d v) : En c L H (σ.set i (some v)) (δ.set i (some d)) := by
  obtain ⟨r, hn⟩ := h
  have out : ∀ (j k : Nat) (xs ys : D) (l : Addr), i = j → i ≠ k → (δ.set i (some d))[j]? = some (some xs) → (δ.set i (some d))[k]? = some (some ys) → xs.still = false → ys.still = false → (σ.set i (some v))[j]? = some (some (.ref l)) → (σ.set i (some v))[k]? = some (some (.ref l)) → False := fun j k xs ys l hj hk g1 g2 f1 f2 g3 g4 => by
    subst hj
    rw [List.getElem?_set_ne hk] at g2 g4
    have hi : i < δ.length := by
      by_cases hi : i < δ.length
      · exact hi
      · rw [List.getElem?_eq_none (by simpa using hi)] at g1
        cases g1
    rw [List.getElem?_set_self hi] at g1
    rw [List.getElem?_set_self (by rw [N.len]; exact hi)] at g3
    obtain rfl : d = xs := by injection g1 with g; injection g
    obtain rfl : v = .ref l := by injection g3 with g; injection g
    exact hn l f1 rfl k ys g2 f2 g4
  refine ⟨N.ok, by simp [N.len], fun j e he => ?_, fun j k xs ys l g1 g2 f1 f2 g3 g4 => ?_⟩
  · by_cases hj : i = j
    · subst hj
      by_cases hi : i < δ.length
      · rw [List.getElem?_set_self hi] at he
        cases he
        exact ⟨v, by rw [List.getElem?_set_self (by rw [N.len]; exact hi)], r⟩
      · rw [List.getElem?_eq_none (by simpa using hi)] at he
        cases he
    · rw [List.getElem?_set_ne hj] at he ⊢
      exact N.rep j e he
  · by_cases hj : i = j
    · by_cases hk : i = k
      · omega
      · exact (out j k xs ys l hj hk g1 g2 f1 f2 g3 g4).elim
    · by_cases hk : i = k
      · exact (out k j ys xs l hk hj g2 g1 f2 f1 g4 g3).elim
      · rw [List.getElem?_set_ne hj] at g1 g3
        rw [List.getElem?_set_ne hk] at g2 g4
        exact N.sep j k xs ys l g1 g2 f1 f2 g3 g4
theorem RepO.inL {K : PySem.W.Frag} {Lb L : List Addr} {H : Hp} {d : D} {v : V} {l : Addr} (h : RepO K U Lb L H d v) (f : d.still = false) (e : v = .ref l) : l ∈ L := by
  subst e
  cases d with
  | own xs =>
    obtain ⟨l', vs', f2, f3, _⟩ := h
    cases f2
    exact f3
  | odk ks ds =>
    obtain ⟨l', vs', f2, f3, _⟩ := h
    cases f2
    exact f3
  | _ => cases f
theorem En.hold {L : List Addr} {H H' : Hp} {σ : L2.St} {d : D} {v : V} (N : En c L H σ δ) (s : Same U H H') (r : OutO X.K U L H H' d v) : ∃ L1, En c L1 H' σ δ ∧ Held c L1 H' σ δ d v ∧ (∀ e u, RepO X.K U c.Lb L H e u → RepO X.K U c.Lb L1 H' e u) ∧ ∀ l, d.still = false → v = .ref l → l ∉ L := by
  have new : ∀ (l : Addr) (o : HO), v = .ref l → NoA H l → H' l = some o → mutO o = true → RepO X.K U c.Lb (l :: L) H' d v → ∃ L1, En c L1 H' σ δ ∧ Held c L1 H' σ δ d v ∧ (∀ e u, RepO X.K U c.Lb L H e u → RepO X.K U c.Lb L1 H' e u) ∧ ∀ l, d.still = false → v = .ref l → l ∉ L := fun l o ev h1 h2 mo rr => by
    subst ev
    have nl := N.ok.freshN h1
    have hbl : NoA c.Hb l := Same.free N.ok.base h1
    refine ⟨l :: L, ⟨⟨N.ok.base.trans s, fun b h => List.mem_cons_of_mem _ (N.ok.lb b h), fun b h => ?_, fun b h => ?_⟩, N.len, fun j e he => ?_, N.sep⟩, ⟨rr, fun l' _ e2 j y g1 g2 g3 => ?_⟩, fun e u h => h.grow h1 s, fun l' _ e2 => ?_⟩
    · rcases List.mem_cons.mp h with z | z
      · rw [z]; exact .inr hbl
      · exact N.ok.new b z
    · rcases List.mem_cons.mp h with z | z
      · rw [z]; exact ⟨o, mo, h2⟩
      · exact (N.ok.lsts b z).mono s
    · obtain ⟨u, e1, e2⟩ := N.rep j e he
      exact ⟨u, e1, e2.grow h1 s⟩
    · cases e2
      obtain ⟨u, f1, f2⟩ := N.rep j _ g1
      rw [f1] at g3
      exact nl (f2.inL g2 (by injection g3 with g; injection g))
    · cases e2
      exact nl
  cases d with
  | own ds =>
    obtain ⟨l, vs, ev, h1, h2, h3, h4⟩ := r
    exact new l _ ev h1 h2 rfl ⟨l, vs, ev, List.mem_cons_self, fun z => N.ok.freshN h1 (N.ok.lb l z), h2, h3, h4⟩
  | odk ks ds =>
    obtain ⟨l, vs, ev, h1, h2, h3, h4⟩ := r
    exact new l _ ev h1 h2 rfl ⟨l, vs, ev, List.mem_cons_self, fun z => N.ok.freshN h1 (N.ok.lb l z), h2, h3, h4⟩
  | _ => exact ⟨L, N.mono s, ⟨r, fun l e => nomatch e⟩, fun e u h => h.mono s, fun l e => nomatch e⟩
theorem En.out {L : List Addr} {H H' : Hp} {σ : L2.St} {i : Nat} {d : D} {v : V} (N : En c L H σ δ) (s : Same U H H') (r : OutO X.K U L H H' d v) : ∃ L', En c L' H' (σ.set i (some v)) (δ.set i (some d)) :=
  let ⟨L1, N1, h, _⟩ := N.hold s r; ⟨L1, N1.put h⟩
theorem WS_set (i : Nat) {x : Str} {p : Pos} (h : WO c e δ fun d => E.nx (δ.set i (some d))) (hi : X.N[i]? = some x) (hx : Loc X.env.scope x) (hs : swapsWith e (some (.Name x p)) pos.line X.env = pure false) (hf : X.fn x = true ∨ X.env.scope.names.lookup x = some .local) :
    WS c (.Assign [.Name x p] e pos) δ E := fun L σ H D N C =>
  runS_of (ps_set c.nd hi hx pe_run hs hf) (h L σ H _ N fun v H' d s r k => let ⟨L', N'⟩ := N.out (i := i) s r; C.nx L' _ H' _ N' k)
/-- y = [..] on one line -/
theorem WS_setLc (i : Nat) {y : Str} {py spos : Pos} {elt tg iter : Expr} {ifs : List Expr} {scope : Scope} (own : List (Str × Nat)) (ts : List Nat) {S : List D → Prop} (hi : WJ c tg iter δ (LcTurn c tg ifs elt scope (wipeD δ (own.map (·.2))) ts S))
    (hS : (∀ ds, S ds → E.nx (δ.set i (some (.own ds)))) ∨ ∀ ds, S ds → E.nx (δ.set i (some (.lst ds)))) (ok : BlkOk X.N X.env.scope scope own) (hts : ∀ i ∈ ts, i ∈ own.map (·.2)) (hN : X.N[i]? = some y) (hy : X.env.scope.names.lookup y = some .local)
    (hsw : swapsWith (.ListComp elt [⟨tg, iter, ifs, 0⟩] scope pos) (some (.Name y py)) spos.line X.env = pure true) (hs : ∀ x, foldedSetIterable iter X.env x = pure x := by intro _; rfl) : WS c (.Assign [.Name y py] (.ListComp elt [⟨tg, iter, ifs, 0⟩] scope pos) spos) δ E := fun L σ H D N C =>
  runS_of (ps_setLc (own := own) c.calm c.nd hN hy hsw pi_run ok (fun s H0 C cl fp => ⟨fun pins s1 σ1 H1 v u Q1 I r h => h s H0 C cl fp pins s1 u I r⟩) (fun s H0 C cl fp => ⟨fun pins s1 σ1 H1 Q1 I h => h s H0 C cl fp pins s1 I⟩)
    (fun s H0 C cl fp => ⟨fun pins s1 σ1 H1 Q1 I h => h s H0 C cl fp pins s1 I⟩) hs) (lc_read (Q := fun x H1 => gName i x σ H1 D.nx) hi hts N fun l H' vs ds s hl hl' r z k => by
    rcases hS with hS | hS
    · obtain ⟨L', N'⟩ := N.out (i := i) (d := .own ds) s ⟨l, vs, rfl, hl, hl', r, z⟩
      exact C.nx L' _ H' _ N' (hS ds k)
    · have hL : l ∉ L := N.ok.freshN hl
      obtain ⟨L', N'⟩ := N.out (i := i) (d := .lst ds) (v := .ref l) s ⟨l, vs, rfl, (hide_ne hL).trans hl', Reps.mono (hide_le fun b hb => List.mem_cons_of_mem _ hb) _ _ r, z⟩
      exact C.nx L' _ H' _ N' (hS ds k))
/-- targets of any form -/
theorem WS_asg {tg : Expr} (ts : List Nat) (h : WE c e δ fun d => d.still = true ∧ AG c tg δ d ts E.nx) (hs : swapsWithSole [tg] e pos.line X.env = pure false) (hw : swappedStores [tg] e X.env = pure none) (h1 : (assignEach [tg] X.env).map (·.2) = [assign tg X.env]) :
    WS c (.Assign [tg] e pos) δ E := fun L σ H D N C =>
  runS_of (ps_asg pe_run pg_run hs hw h1) (h L σ H _ N fun v H' d s r ⟨z, k⟩ => k L σ H' v _ (N.mono s) (r.rep z) fun σ' δ' _ N' k' => C.nx L σ' H' δ' N' k')
/-- a, b = x, y -/
theorem WS_par (i j : Nat) {x y : Str} {a b : Expr} {px py pt : Pos} {kt k2 pt2} (h : WO c a δ fun d1 => WO c b δ fun d2 => E.nx ((δ.set i (some d1)).set j (some d2))) (hi : X.N[i]? = some x) (hj : X.N[j]? = some y) (hij : i ≠ j)
    (hx : X.env.scope.names.lookup x = some .local) (hy : X.env.scope.names.lookup y = some .local) (hw : swappedStores [.Tuple [.Name x px, .Name y py] kt pt] (.Tuple [a, b] k2 pt2) X.env = pure (some [x, y]))
    (hs : swapsWithSole [.Tuple [.Name x px, .Name y py] kt pt] (.Tuple [a, b] k2 pt2) pos.line X.env = pure false) (s1 : starEach (a :: [b]) X.env = (false, eval a X.env) :: starEach [b] X.env := by rfl) (s2 : starEach (b :: []) X.env = (false, eval b X.env) :: starEach [] X.env := by rfl) :
    WS c (.Assign [.Tuple [.Name x px, .Name y py] kt pt] (.Tuple [a, b] k2 pt2) pos) δ E := fun L σ H D N C =>
  runS_of (ps_par c.calm c.nd hi hj hij hx hy (pa_cons pe_run (pa_cons pe_run pa_nil s2) s1) hw hs) (by
    refine h L σ H _ N fun v H1 d1 e1 r1 z => ?_
    obtain ⟨L1, N1, hd1, tr1, fr1⟩ := N.hold e1 r1
    refine z L1 σ H1 _ N1 fun u H2 d2 e2 r2 z2 => ?_
    obtain ⟨L2, N2, hd2, tr2, fr2⟩ := N1.hold e2 r2
    refine ⟨v, u, rfl, ?_⟩
    have hd1' : Held c L2 H2 σ δ d1 v := ⟨tr2 _ _ hd1.1, hd1.2⟩
    have N3 := N2.put (i := i) hd1'
    refine C.nx L2 _ H2 _ (N3.put (i := j) ⟨hd2.1, fun l ex el k ys g1 y1 g2 => ?_⟩) z2
    by_cases hk : i = k
    · subst hk
      have hil : i < δ.length := by
        by_cases hil : i < δ.length
        · exact hil
        · rw [List.getElem?_eq_none (by simpa using hil)] at g1
          cases g1
      rw [List.getElem?_set_self hil] at g1
      rw [List.getElem?_set_self (by rw [N.len]; exact hil)] at g2
      obtain rfl : d1 = ys := by injection g1 with g; injection g
      obtain rfl : v = .ref l := by injection g2 with g; injection g
      exact fr2 l ex el (hd1.1.inL y1 rfl)
    · rw [List.getElem?_set_ne hk] at g1 g2
      exact hd2.2 l ex el k ys g1 y1 g2)
end
end Dl

set_option maxRecDepth 100000
set_option maxHeartbeats 1000000
/-! # Own lists changed; loops; calls; defs -/
namespace Dl
open PySem PySem.Spec PyProof.Rows L2
section
variable {X : Cx} {U : Pu} {lv : Nat} {T : XD} {c : Ct X U lv T} {δ : List (Option D)} {E : SE} {e : Expr} {pos : Pos} {st : Stmt} {rest : List Stmt}

/-! ### a list of one's own is changed -/
theorem En.changeX {L : List Addr} {H : Hp} {σ : L2.St} {i : Nat} {l : Addr} {x y : D} {o : HO} (N : En c L H σ δ) (hi : δ[i]? = some (some x)) (fx : x.still = false) (hσ : σ[i]? = some (some (.ref l))) (hl : l ∈ L) (hlb : l ∉ c.Lb) (mo : mutO o = true) (r : RepO X.K U c.Lb L (upd H l o) y (.ref l)) :
    En c L (upd H l o) σ (δ.set i (some y)) := by
  have hbl : NoA c.Hb l := (N.ok.new l hl).resolve_left hlb
  have hu : hide L (upd H l o) = hide L H := hide_upd hl
  have hlen : i < δ.length := by
    by_cases q : i < δ.length
    · exact q
    · rw [List.getElem?_eq_none (by simpa using q)] at hi
      cases hi
  refine ⟨⟨?_, N.ok.lb, N.ok.new, fun b h => ?_⟩, by simp [N.len], fun j e he => ?_, fun j k as bs b g1 g2 f1 f2 g3 g4 => ?_⟩
  · exact N.ok.base.set (N.ok.lsts l hl) hbl mo
  · by_cases q : b = l
    · rw [q]; exact ⟨o, mo, upd_same⟩
    · obtain ⟨o, m, g⟩ := N.ok.lsts b h
      exact ⟨o, m, by rw [upd_ne q]; exact g⟩
  · by_cases hj : i = j
    · subst hj
      rw [List.getElem?_set_self hlen] at he
      cases he
      exact ⟨.ref l, hσ, r⟩
    · rw [List.getElem?_set_ne hj] at he
      obtain ⟨v, h1, h2⟩ := N.rep j e he
      refine ⟨v, h1, ?_⟩
      have ne : ∀ l', e.still = false → v = .ref l' → l' ≠ l := fun l' f q z => hj (N.sep i j x e l hi he fx f hσ (by rw [h1, q, z]))
      cases e with
      | own zs =>
        obtain ⟨l', vs', q1, q2, q3, q4, q5, q6⟩ := h2
        exact ⟨l', vs', q1, q2, q3, by rw [upd_ne (ne l' rfl q1)]; exact q4, by rw [hu]; exact q5, q6⟩
      | odk ks zs =>
        obtain ⟨l', vs', q1, q2, q3, q4, q5, q6⟩ := h2
        exact ⟨l', vs', q1, q2, q3, by rw [upd_ne (ne l' rfl q1)]; exact q4, by rw [hu]; exact q5, q6⟩
      | _ =>
        show Rep X.K U (hide L (upd H l o)) _ v
        rw [hu]
        exact h2
  · have own : ∀ (m : Nat) (z : D) (b : Addr), (δ.set i (some y))[m]? = some (some z) → z.still = false → ∃ z', δ[m]? = some (some z') ∧ z'.still = false := fun m z b h f => by
      by_cases hm : i = m
      · subst hm
        exact ⟨x, hi, fx⟩
      · rw [List.getElem?_set_ne hm] at h
        exact ⟨z, h, f⟩
    obtain ⟨a1, e1, e2⟩ := own j as b g1 f1
    obtain ⟨a2, e3, e4⟩ := own k bs b g2 f2
    exact N.sep j k a1 a2 b e1 e3 e2 e4 g3 g4
theorem En.change {L : List Addr} {H : Hp} {σ : L2.St} {i : Nat} {l : Addr} {xs ys : List D} {ws : List V} (N : En c L H σ δ) (hi : δ[i]? = some (some (.own xs))) (hσ : σ[i]? = some (some (.ref l))) (hl : l ∈ L) (hlb : l ∉ c.Lb) (r : Reps X.K U (hide L H) ys ws) (z : ys.length ≤ sizeLine) :
    En c L (upd H l (.lst ws)) σ (δ.set i (some (.own ys))) :=
  N.changeX hi rfl hσ hl hlb rfl ⟨l, ws, rfl, hl, hlb, upd_same, by rw [show hide L (upd H l (.lst ws)) = hide L H from hide_upd hl]; exact r, z⟩
theorem tyL {K : PySem.W.Frag} {H : Hp} {l : Addr} {xs : List V} (h : H l = some (.lst xs)) : tyV K "list" (.ref l) H := .inl ⟨rfl, _, SqL.of h⟩
/-- xs.append(e) -/
theorem WS_append (i : Nat) {x : Str} {xs : List D} {p apos cpos : Pos} (hi : δ[i]? = some (some (.own xs))) (h : WE c e δ fun d => d.still = true ∧ xs.length < sizeLine ∧ E.nx (δ.set i (some (.own (xs ++ [d]))))) (hN : X.N[i]? = some x) (hv : Vis X.env.scope x) (hd : (x == ("__debug__" : Str)) = false) (hcd : (x == ("__classdict__" : Str)) = false)
    (hs : swapsWith (.Call (.Attribute (.Name x p) "append" apos) [e] [] cpos) none pos.line X.env = pure false)
    (hbase : attributeBase (.Name x p) "append" X.env (eval (.Name x p) X.env) = eval (.Name x p) X.env := by rfl) (hfew : ((backTo cpos (starEach [e] X.env)).all (fun x => !x.1) && (backToKw cpos (keywordEach [] X.env)).all (fun x => x.1.isSome) && decide (([e] : List Expr).length + ([] : List Keyword).length + (if ([] : List Keyword).isEmpty then 0 else 1) < 30)) = true := by rfl) (hline : (apos.endLine == cpos.line) = true := by rfl) (he : starEach (e :: []) X.env = (false, eval e X.env) :: starEach [] X.env := by rfl) (hpl : (backTo cpos (starEach [] X.env)).any (·.1) = false := by rfl) :
    WS c (.Expr (.Call (.Attribute (.Name x p) "append" apos) [e] [] cpos) pos) δ E := fun L σ H D N C => by
  obtain ⟨v, hσ, l, vs, rfl, hl, hlb, hH, r, z⟩ := N.rep i _ hi
  refine runS_of (ps_expr (pe_bm PySem.F.plainAttrs_list PySem.F.slot_list_append PySem.F.type_list_append mt_append (pe_var hN hv hd hcd) (pa_cons pe_run pa_nil he) hbase hfew hline he hpl) hs) ?_
  refine ⟨.ref l, hσ, tyL hH, ?_⟩
  refine h L σ H _ N fun w H1 d s1 r1 ⟨st, zz, k⟩ => ?_
  have r' := Reps.mono (hide_same s1.k) _ _ r
  refine ⟨l, vs, w, rfl, rfl, s1.at _ _ hH, by rw [← r.len]; exact zz, ?_⟩
  exact C.nx L σ _ _ ((N.mono s1).change hi hσ hl hlb (r'.app (Reps.one (r1.rep st))) (by rw [List.length_append]; exact zz)) k
/-- xs.extend(e), e a list -/
theorem WS_extend (i : Nat) {x : Str} {xs : List D} {p apos cpos : Pos} (hi : δ[i]? = some (some (.own xs))) (h : WE c e δ fun d => ∃ ys, d = .lst ys ∧ xs.length + ys.length ≤ sizeLine ∧ E.nx (δ.set i (some (.own (xs ++ ys))))) (hN : X.N[i]? = some x) (hv : Vis X.env.scope x) (hd : (x == ("__debug__" : Str)) = false) (hcd : (x == ("__classdict__" : Str)) = false)
    (hs : swapsWith (.Call (.Attribute (.Name x p) "extend" apos) [e] [] cpos) none pos.line X.env = pure false)
    (hbase : attributeBase (.Name x p) "extend" X.env (eval (.Name x p) X.env) = eval (.Name x p) X.env := by rfl) (hfew : ((backTo cpos (starEach [e] X.env)).all (fun x => !x.1) && (backToKw cpos (keywordEach [] X.env)).all (fun x => x.1.isSome) && decide (([e] : List Expr).length + ([] : List Keyword).length + (if ([] : List Keyword).isEmpty then 0 else 1) < 30)) = true := by rfl) (hline : (apos.endLine == cpos.line) = true := by rfl) (he : starEach (e :: []) X.env = (false, eval e X.env) :: starEach [] X.env := by rfl) (hpl : (backTo cpos (starEach [] X.env)).any (·.1) = false := by rfl) :
    WS c (.Expr (.Call (.Attribute (.Name x p) "extend" apos) [e] [] cpos) pos) δ E := fun L σ H D N C => by
  obtain ⟨v, hσ, l, vs, rfl, hl, hlb, hH, r, z⟩ := N.rep i _ hi
  refine runS_of (ps_expr (pe_bm PySem.F.plainAttrs_list PySem.F.slot_list_extend PySem.F.type_list_extend mt_extend (pe_var hN hv hd hcd) (pa_cons pe_run pa_nil he) hbase hfew hline he hpl) hs) ?_
  refine ⟨.ref l, hσ, tyL hH, ?_⟩
  refine h L σ H _ N fun w H1 d s1 r1 ⟨ys, hd, zz, k⟩ => ?_
  subst hd
  obtain ⟨b, ws, rfl, hb, rb, zb⟩ := r1.lst
  have r' := Reps.mono (hide_same s1.k) _ _ r
  refine ⟨l, b, vs, ws, rfl, rfl, s1.at _ _ hH, hb, by rw [← r.len, ← rb.len]; exact zz, ?_⟩
  exact C.nx L σ _ _ ((N.mono s1).change hi hσ hl hlb (r'.app rb) (by rw [List.length_append]; exact zz)) k
/-- xs[k] = e -/
theorem WS_setItem (i : Nat) {x : Str} {xs : List D} {p spos : Pos} {ix : Expr} (hi : δ[i]? = some (some (.own xs))) (h : WE c e δ fun d => d.still = true ∧ WE c ix δ fun y => ∃ (k : Int) (j : Nat), y = .int k ∧ ixN xs.length k = some j ∧ E.nx (δ.set i (some (.own (xs.set j d))))) (hN : X.N[i]? = some x) (hv : Vis X.env.scope x) (hd : (x == ("__debug__" : Str)) = false) (hcd : (x == ("__classdict__" : Str)) = false)
    (ha : ∀ v, assign (.Subscript (.Name x p) ix spos) X.env v = (do
      let ov ← holding [v] (eval (.Name x p) X.env)
      let iv ← holding [v, ov] (eval ix X.env)
      standAt spos
      holding [v, ov, iv] (setItem ov iv v)
      release [v, ov, iv] []) := by intro _; rfl)
    (hs : swapsWithSole [.Subscript (.Name x p) ix spos] e pos.line X.env = pure false := by rfl) (hw : swappedStores [.Subscript (.Name x p) ix spos] e X.env = pure none := by rfl) (h1 : (assignEach [.Subscript (.Name x p) ix spos] X.env).map (·.2) = [assign (.Subscript (.Name x p) ix spos) X.env] := by rfl) :
    WS c (.Assign [.Subscript (.Name x p) ix spos] e pos) δ E := fun L σ H D N C => by
  obtain ⟨v, hσ, l, vs, rfl, hl, hlb, hH, r, z⟩ := N.rep i _ hi
  refine runS_of (ps_asg pe_run (pg_sub (pe_var hN hv hd hcd) pe_run set_list ha) hs hw h1) ?_
  refine h L σ H _ N fun w H1 d s1 r1 ⟨st, k⟩ => ?_
  refine ⟨.ref l, hσ, ?_⟩
  refine k L σ H1 _ (N.mono s1) fun y H2 dy s2 r2 ⟨kk, j, hy, hj, k2⟩ => ?_
  subst hy
  have r' := Reps.mono (hide_same (s1.k.trans s2.k)) _ _ r
  refine ⟨l, vs, kk, j, rfl, r2, s2.at _ _ (s1.at _ _ hH), by rw [← r.len]; exact hj, ?_⟩
  exact C.nx L σ _ _ ((N.mono (s1.trans s2)).change hi hσ hl hlb (r'.set j ((r1.mono s2).rep st)) (by rw [List.length_set]; exact z)) k2
/-- n += e, n -= e -/
theorem WS_augAdd (i : Nat) {x : Str} {n : Int} {p : Pos} (hi : δ[i]? = some (some (.int n))) (h : WE c e δ fun d => ∃ m, d = .int m ∧ E.nx (δ.set i (some (.int (n + m))))) (hN : X.N[i]? = some x) (hx : Loc X.env.scope x) (hf : X.fn x = true ∨ X.env.scope.names.lookup x = some .local) : WS c (.AugAssign (.Name x p) .Add e pos) δ E := fun L σ H D N C => by
  obtain ⟨v, hσ, rv⟩ := N.rep i _ hi
  refine runS_of (ps_aug c.nd hN hx pe_run ip_add hf) ⟨v, hσ, h L σ H _ N fun w H1 d s1 r1 ⟨m, hd, k⟩ => ?_⟩
  subst hd
  exact ⟨n, m, rv, r1, C.nx L _ H1 _ ((N.mono s1).set (d := .int (n + m)) rfl) k⟩
theorem WS_augSub (i : Nat) {x : Str} {n : Int} {p : Pos} (hi : δ[i]? = some (some (.int n))) (h : WE c e δ fun d => ∃ m, d = .int m ∧ E.nx (δ.set i (some (.int (n - m))))) (hN : X.N[i]? = some x) (hx : Loc X.env.scope x) (hf : X.fn x = true ∨ X.env.scope.names.lookup x = some .local) : WS c (.AugAssign (.Name x p) .Sub e pos) δ E := fun L σ H D N C => by
  obtain ⟨v, hσ, rv⟩ := N.rep i _ hi
  refine runS_of (ps_aug c.nd hN hx pe_run ip_sub hf) ⟨v, hσ, h L σ H _ N fun w H1 d s1 r1 ⟨m, hd, k⟩ => ?_⟩
  subst hd
  exact ⟨n, m, rv, r1, C.nx L _ H1 _ ((N.mono s1).set (d := .int (n - m)) rfl) k⟩

/-! ### loops -/
theorem WS_while {t : Expr} {body : List Stmt} (I : Nat → List (Option D) → Prop) (m0 : Nat) (h0 : I m0 δ)
    (hs : ∀ m δ', I m δ' → WT c t δ' fun b => if b = true then WSs c body δ' { E with nx := fun δ2 => ∃ m', m' < m ∧ I m' δ2, ct := fun δ2 => ∃ m', m' < m ∧ I m' δ2, bk := E.nx } else E.nx δ') : WS c (.While t body [] pos) δ E := fun L σ H D N C => by
  refine runS_of (ps_while c.own pt_run pss_run) ⟨fun m σ' H' => ∃ L' δ', En c L' H' σ' δ' ∧ I m δ', ⟨m0, L, δ, N, h0⟩, ?_⟩
  rintro m σ' H' ⟨L', δ', N', i'⟩
  refine hs m δ' i' L' σ' H' _ N' fun b H1 s1 z => ?_
  cases b with
  | true =>
    rw [if_pos rfl] at z ⊢
    refine ⟨fun σ2 H2 => ∃ m', m' < m ∧ ∃ L2 δ2, En c L2 H2 σ2 δ2 ∧ I m' δ2, fun σ2 H2 h => h, ?_⟩
    exact z L' σ' H1 _ (N'.mono s1) ⟨fun L2 σ2 H2 δ2 N2 ⟨m', h1, h2⟩ => ⟨m', h1, L2, δ2, N2, h2⟩, C.rt, C.nx, fun L2 σ2 H2 δ2 N2 ⟨m', h1, h2⟩ => ⟨m', h1, L2, δ2, N2, h2⟩⟩
  | false =>
    rw [if_neg Bool.false_ne_true] at z ⊢
    exact C.nx L' σ' H1 δ' (N'.mono s1) z
/-- the context within a loop: what stands at its start stays -/
def Ct.at_ (c : Ct X U lv T) (B : Hp) (hs : Same U c.Hb B) : Ct X U lv T where
  Hb := B
  Lb := c.Lb
  g := hs.g c.g
  calm := c.calm
  nd := c.nd
  room := c.room
  own := c.own
  tk := c.tk.imp fun cls od σ H ⟨s, fl, r, t⟩ => ⟨hs.trans s, fl, r, t⟩
def baseOf (c : Ct X U lv T) (L : List Addr) (H : Hp) : Hp := fun b => if b ∈ L ∧ b ∉ c.Lb then none else H b
theorem baseOf_hide {L : List Addr} {H : Hp} : baseOf c L H = hide (L.filter fun l => !decide (l ∈ c.Lb)) H := by
  funext b
  unfold baseOf hide
  by_cases h : b ∈ L ∧ b ∉ c.Lb
  · rw [if_pos h, if_pos (List.mem_filter.mpr ⟨h.1, by simpa using h.2⟩)]
  · rw [if_neg h, if_neg (fun z => h ⟨(List.mem_filter.mp z).1, by simpa using (List.mem_filter.mp z).2⟩)]
theorem baseOf_same {L : List Addr} {H : Hp} (k : Ok c L H) : Same U c.Hb (baseOf c L H) := by
  refine ⟨fun b o h n => ?_, fun z => ?_⟩
  · unfold baseOf
    rw [if_neg]
    · exact k.base.at b o h n
    · rintro ⟨h1, h2⟩
      rcases k.new b h1 with z | z
      · exact h2 z
      · exact absurd rfl (z.ne h n)
  · rw [baseOf_hide]
    exact U.gh _ _ (fun l hl => k.lsts l (List.mem_filter.mp hl).1) (k.base.g z)
theorem baseOf_ext {L : List Addr} {H : Hp} : Ext (baseOf c L H) H := fun b o h => by
  unfold baseOf at h
  split at h
  · cases h
  · exact h
theorem En.rebase {L : List Addr} {H : Hp} {σ : L2.St} (N : En c L H σ δ) : En (c.at_ (baseOf c L H) (baseOf_same N.ok)) L H σ δ :=
  ⟨⟨baseOf_ext.s, N.ok.lb, fun l h => by
    by_cases q : l ∈ c.Lb
    · exact .inl q
    · right
      refine .of (show baseOf c L H l = none from ?_)
      unfold baseOf
      rw [if_pos ⟨h, q⟩], N.ok.lsts⟩, N.len, N.rep, N.sep⟩
theorem En.unbase {B : Hp} {hs : Same U c.Hb B} {L : List Addr} {H : Hp} {σ : L2.St} (N : En (c.at_ B hs) L H σ δ) : En c L H σ δ :=
  ⟨⟨hs.trans N.ok.base, N.ok.lb, fun l h => by
    rcases N.ok.new l h with z | z
    · exact .inl z
    · exact .inr (Same.free hs z), N.ok.lsts⟩, N.len, N.rep, N.sep⟩
theorem base_hide {L L' : List Addr} {H H' : Hp} {hs : Same U c.Hb (baseOf c L H)} (k0 : Ok c L H) (k : Ok (c.at_ (baseOf c L H) hs) L' H') : SameK (hide L H) (hide L' H') := fun b o h n => by
  obtain ⟨h1, h2⟩ := hide_at h
  have hb : baseOf c L H b = some o := by
    unfold baseOf
    rw [if_neg (fun z => h1 z.1)]
    exact h2
  have h3 : b ∉ L' := fun z => by
    rcases k.new b z with q | q
    · exact h1 (k0.lb b q)
    · exact absurd rfl (NoA.ne (H := baseOf c L H) q hb n)
  rw [hide_ne h3]
  exact k.base.at b o hb n
theorem WS_for {tg iter : Expr} {body : List Stmt} (ts : List Nat)
    (h : WI c tg iter δ fun ds => ∃ I : Nat → List (Option D) → Prop, I 0 δ ∧ (∀ (i : Nat) (d : D) (δ' : List (Option D)), ds[i]? = some d → d.still = true → I i δ' → ∀ (B : Hp) (hs : Same U c.Hb B), AG (c.at_ B hs) tg δ' d ts fun δ2 => WSs (c.at_ B hs) body δ2 { E with nx := I (i + 1), ct := I (i + 1), bk := E.nx }) ∧ ∀ δ', I ds.length δ' → E.nx δ')
    (hs : ∀ x, foldedSetIterable iter X.env x = pure x := by intro _; rfl) : WS c (.For tg iter body [] pos) δ E := fun L σ H D N C => by
  refine runS_of (ps_for c.own c.calm pi_run pg_run pss_run hs) ?_
  refine h L σ H _ N fun J H1 ds s1 w ⟨I, i0, step, fin⟩ => ?_
  have N1 := N.mono s1
  have hB := baseOf_same N1.ok
  refine ⟨fun i m σ' H' => m = ds.length - i ∧ i ≤ ds.length ∧ ∃ L' δ', En (c.at_ (baseOf c L H1) hB) L' H' σ' δ' ∧ I i δ', ⟨ds.length, by simp, Nat.zero_le _, L, δ, N1.rebase, i0⟩, ?_⟩
  rintro i m σ' H' ⟨rfl, hi, L', δ', N', i'⟩
  have hh := base_hide N1.ok N'.ok
  have hB2 : SameK (hide L H1) H' := hh.trans hide_ext.k
  by_cases hlt : i < ds.length
  · refine .inr ⟨w.go i H' hB2 hlt, fun σ2 H2 => i + 1 ≤ ds.length ∧ ∃ L2 δ2, En (c.at_ (baseOf c L H1) hB) L2 H2 σ2 δ2 ∧ I (i + 1) δ2, fun σ2 H2 h2 => ⟨ds.length - (i + 1), by omega, rfl, h2⟩, fun x H3 y => ?_⟩
    obtain ⟨s3, d, hd1, hst, hrep⟩ := w.yld i x H' H3 hB2 hlt y
    have hrep := hrep L' N'.ok.lsts hh
    refine step i d δ' hd1 hst i' _ hB L' σ' H3 x _ (N'.mono s3.s) hrep fun σ2 δ2 _ N2 k2 => ?_
    have next : ∀ L2 σ2 H2 δ2, En (c.at_ (baseOf c L H1) hB) L2 H2 σ2 δ2 → I (i + 1) δ2 → i + 1 ≤ ds.length ∧ ∃ L2 δ2, En (c.at_ (baseOf c L H1) hB) L2 H2 σ2 δ2 ∧ I (i + 1) δ2 := fun L2 σ2 H2 δ2 N2 h2 => ⟨by omega, L2, δ2, N2, h2⟩
    exact k2 L' σ2 H3 _ N2 ⟨next, fun v H4 d s r k => C.rt v H4 d (hB.trans s) r k, fun L2 σ2 H2 δ2 N2 k => C.nx L2 σ2 H2 δ2 N2.unbase k, next⟩
  · have e : i = ds.length := by omega
    subst e
    exact .inl ⟨w.stop H' hB2, C.nx L' σ' H' δ' N'.unbase (fin δ' i')⟩

/-! ### calls of defs -/
abbrev DSpec := List D → (D → Prop) → XD → Prop
def spD (K : PySem.W.Frag) (U : Pu) (n : Nat) (sp : DSpec) : Sp := fun vs H Q E => ∃ (L : List Addr) (ds : List D) (S : D → Prop) (T : XD), (ds.length = n ∧ U.G H) ∧ (∀ l ∈ L, MutAt H l) ∧ Reps K U (hide L H) ds vs ∧ sp ds S T ∧
  (∀ v H' d, Same U H H' → Rep K U (hide L H') d v → S d → Q v H') ∧ ∀ cls od fl H', Same U H H' → RepX K U (hide L H') od fl → T cls fl → E cls od H'
structure Fn (P : Program) (w : World) (K : PySem.W.Frag) (mg : Str → Option Value) (base : Heap) (U : Pu) (k : Nat) (x : Str) (n : Nat) (sp : DSpec) : Prop where
  ex : ∃ (f : Addr) (fd : FuncData) (ps : List Str), mg x = some (.ref f) ∧ PySem.W.keepIn K (.ref f) = true ∧ Binds K fd ps [] ∧ FnOk P w K mg base (L2.CX P w) k f fd ps (spD K U n sp)
theorem Fn.mono {P : Program} {w : World} {K : PySem.W.Frag} {mg : Str → Option Value} {base : Heap} {k k' : Nat} {x : Str} {n : Nat} {sp : DSpec} (F : Fn P w K mg base U k x n sp) (h : k ≤ k') : Fn P w K mg base U k' x n sp := by
  obtain ⟨f, fd, ps, h1, h2, h3, h4⟩ := F.ex
  exact ⟨f, fd, ps, h1, h2, h3, h4.mono h⟩
theorem WE_call {x : Str} {n k : Nat} {sp : DSpec} {es : List Expr} {p : Pos} (F : Fn X.prog X.w X.K X.mg X.base U k x n sp) (h : WA c (e :: es) δ fun ds => ds.length = n ∧ stills ds = true ∧ sp ds S T) (hk : k ≤ lv) (hg : Gl X x) (hd : (x == ("__debug__" : Str)) = false)
    (he : starEach (e :: es) X.env = (false, eval e X.env) :: starEach es X.env) (hpl : (backTo pos (starEach es X.env)).any (·.1) = false) : WE c (.Call (.Name x p) (e :: es) [] pos) δ S := fun L σ H Q N q => by
  obtain ⟨f, fd, ps, h1, h2, h3, h4⟩ := F.ex
  refine runE_of (pe_callS h4 (c.room.mono hk) hg h1 h2 h3 (fun σ => passAt c.tk σ) pa_run hd he hpl) (h L σ H _ N fun vs H1 ds s1 r1 ⟨hn, st, hsp⟩ => ?_)
  refine ⟨L, ds, S, T, ⟨hn, (N.ok.base.trans s1).g c.g⟩, (N.ok.mono s1).lsts, r1.reps st, hsp, fun v H' d s r k => q v H' d (s1.trans s) (.of_rep r) k, fun cls od fl H' s r t => ⟨(N.ok.base.trans s1).trans s, fl, RepX.mono (hide_le N.ok.lb) r, t⟩⟩

/-! ### a def -/
def startD (N : List Str) (ds : List D) : List (Option D) := ds.map some ++ List.replicate (N.length - ds.length) none
theorem start_en {N : List Str} {ds : List D} {vs : List V} {L : List Addr} {H : Hp} (ok : Ok c L H) (r : Reps X.K U (hide L H) ds vs) : En c L H (L2.start N vs) (startD N ds) := by
  have hl := r.len
  refine ⟨ok, by simp [L2.start, startD, hl], fun i d h => ?_, fun i j xs ys l h _ f1 => ?_⟩
  · unfold startD at h
    by_cases hi : i < ds.length
    · rw [List.getElem?_append_left (by simpa using hi), List.getElem?_map] at h
      cases g : ds[i]? with
      | none => rw [g] at h; cases h
      | some d' =>
        rw [g] at h
        cases h
        obtain ⟨v, h1, h2⟩ := r.get g
        refine ⟨v, ?_, .of_rep h2⟩
        unfold L2.start
        rw [List.getElem?_append_left (by simp; omega), List.getElem?_map, h1]
        rfl
    · rw [List.getElem?_append_right (by simpa using hi), List.getElem?_replicate] at h
      split at h <;> cases h
  · unfold startD at h
    by_cases hi : i < ds.length
    · rw [List.getElem?_append_left (by simpa using hi), List.getElem?_map] at h
      cases g : ds[i]? with
      | none => rw [g] at h; cases h
      | some d' =>
        rw [g] at h
        cases h
        obtain ⟨v, h1, h2⟩ := r.get g
        exact absurd (f1.symm.trans h2.still) (by decide)
    · rw [List.getElem?_append_right (by simpa using hi), List.getElem?_replicate] at h
      split at h <;> cases h
end
section
variable {P : Program} {w : World} {K : PySem.W.Frag} {mg : Str → Option Value} {base : Heap} {U : Pu}
theorem fnD {x qual : Str} {st : Stmt} {f : Addr} {fd : FuncData} {N ps : List Str} {n k : Nat} {sp : DSpec} (F : Fun K x qual st f fd) (Sc : FnScope N ps (defScope st)) (hn : ps.length = n)
    (body : ∀ (cdv : Value) (A : Around) (outer : List Env) (s : Shared) (H : Hp) (E : XK) (T : XD) (c : Ct (cxOf (L2.CX P w) P w K mg base N qual (defScope st) f cdv A outer s H E) U k T) (ds : List D) (S : D → Prop), ds.length = n → sp ds S T →
      WSs c (defBody st) (startD N ds) { nx := fun _ => S .non, rt := S }) : FnOk P w K mg base (L2.CX P w) (k + 1) f fd ps (spD K U n sp) := by
  refine F.okX Sc (fun vs H Q E h => ?_) (fun cdv A outer s H vs Q E hr h => ?_)
  · obtain ⟨L, ds, S, T, ⟨h1, _⟩, _, h2, _⟩ := h
    rw [← h2.len, h1, hn]
  · obtain ⟨L, ds, S, T, ⟨h1, hG⟩, hl, h2, h3, q1, q2⟩ := h
    let c : Ct (cxOf (L2.CX P w) P w K mg base N qual (defScope st) f cdv A outer s H E) U k T :=
      { Hb := H, Lb := L, g := hG, calm := rfl, nd := Sc.nd, room := hr, own := passes_of rfl, tk := (takes_of (E := E) rfl rfl rfl rfl).imp fun cls od σ H' ⟨s1, fl, r, t⟩ => q2 cls od fl H' s1 r t }
    have ok : Ok c L H := ⟨Same.refl H, fun l h => h, fun l h => .inl h, hl⟩
    refine ⟨_, pss_run, ?_⟩
    refine body cdv A outer s H E T c ds S h1 h3 L (L2.start N vs) H _ (start_en ok h2) ⟨fun L' σ' H' δ' N' k => ?_, fun v H' d s r k => q1 v H' d s r k, fun L' σ' H' δ' N' k => k.elim, fun L' σ' H' δ' N' k => k.elim⟩
    exact q1 .non H' .non N'.ok.base rfl k
theorem fn_mk {x qual : Str} {st : Stmt} {f : Addr} {fd : FuncData} {N ps : List Str} {n k : Nat} {sp : DSpec} (F : Fun K x qual st f fd) (hg : mg x = some (.ref f)) (hb : Binds K fd ps []) (h : FnOk P w K mg base (L2.CX P w) (k + 1) f fd ps (spD K U n sp)) : Fn P w K mg base U (k + 1) x n sp :=
  ⟨f, fd, ps, hg, F.kp, hb, h⟩
end
end Dl

set_option maxRecDepth 100000
set_option maxHeartbeats 4000000
/-! # tuple * int; slices; objects; raises -/
namespace Dl
open PySem PySem.Spec PyProof.Rows L2
open AutoSeq1 (wpAny_loadPart')

/-! ### tuple * int where nothing or the tuple itself comes back -/
theorem tupOnce (l : Addr) (its : Array Value) (n : Nat) (dd : Option Addr) (sl : Array (Option Value)) (x : Int) (u : Tok) (b0 : (decide (x < -(2 ^ 63)) || decide (x ≥ 2 ^ 63)) = false) (b1 : (its.isEmpty || x == 1) = true) :
    Meets (Builtin.«tuple.__mul__» ⟨[.ref l, .int x u], []⟩) (fun _ R s => s.heap.get? l = some { cls := .type "tuple", dict := dd, data := .seq its n, slots := sl } ∧ R (.ok (.ret (Value.ref l))) s) :=
  .of_wp fun prog w A R s h => by
    obtain ⟨hp, g, d, tk, os⟩ := s
    obtain ⟨hl, h⟩ := h
    have j1 := AutoSeq1.idx_int
    wp_walk using wpAny_loadPart' hl
    repeat (first
      | (refine wpAny_ite_false (decide_eq_false (by rw [b0]; exact Bool.false_ne_true)) ?_; wp_walk using wpAny_loadPart' hl)
      | (refine wpAny_ite_true (decide_eq_true b1) ?_; wp_walk using wpAny_loadPart' hl))
    exact ⟨_, rfl, h⟩
theorem tupNone (l : Addr) (its : Array Value) (n : Nat) (dd : Option Addr) (sl : Array (Option Value)) (x : Int) (u : Tok) (b0 : (decide (x < -(2 ^ 63)) || decide (x ≥ 2 ^ 63)) = false) (b1 : (its.isEmpty || x == 1) = false) (b2 : (decide (x ≤ 0) || its.isEmpty) = true) :
    Meets (Builtin.«tuple.__mul__» ⟨[.ref l, .int x u], []⟩) (fun _ R s => s.heap.get? l = some { cls := .type "tuple", dict := dd, data := .seq its n, slots := sl } ∧
      R (.ok (.ret (Value.ref s.heap.objs.size))) { s with heap := s.heap.push { cls := Value.type "tuple", data := Data.seq #[] }, toks := s.toks }) :=
  .of_wp fun prog w A R s h => by
    obtain ⟨hp, g, d, tk, os⟩ := s
    obtain ⟨hl, h⟩ := h
    have j1 := AutoSeq1.idx_int
    wp_walk using wpAny_loadPart' hl
    repeat (first
      | (refine wpAny_ite_false (decide_eq_false (by rw [b0]; exact Bool.false_ne_true)) ?_; wp_walk using wpAny_loadPart' hl)
      | (refine wpAny_ite_false (decide_eq_false (by rw [b1]; exact Bool.false_ne_true)) ?_; wp_walk using wpAny_loadPart' hl)
      | (refine wpAny_ite_true (decide_eq_true b2) ?_; wp_walk using wpAny_loadPart' hl))
    exact ⟨_, rfl, h⟩

/-- tuple * int: any number up to 1000 -/
def rMulT (K : PySem.W.Frag) : R2 := fun x y H Q => ∃ l k xs, x = .ref l ∧ y = .int k ∧ SqT K H l xs ∧ -1000 ≤ k ∧ k ≤ 1000 ∧ xs.length ≤ 1000 ∧ ((k = 1 ∨ xs = []) → Q (.ref l) H) ∧ (k ≠ 1 → xs ≠ [] → ∀ p, H p = none → Q (.ref p) (upd H p (.tup (List.replicate k.toNat xs).flatten)))
theorem op_mulT {X : Cx} : OpR X (binaryOp .Mult) (rMulT X.K) := by
  intro pins s σ H x y v u Q I rx ry h
  obtain ⟨l, k, xs, rfl, rfl, hT, h0, h1, hz, q1, q2⟩ := h
  by_cases h2 : 2 ≤ k ∧ xs ≠ []
  · exact op_repT pins s σ H _ _ v u Q I rx ry ⟨l, k, xs, rfl, rfl, hT, h2.2, h2.1, h1, hz, q2 (by omega) h2.2⟩
  · cases rx
    obtain ⟨t, rfl⟩ := ry
    obtain ⟨its, r, ⟨⟨cls, dd, data, sl⟩, ho, hc, n, hd⟩, hs⟩ := I.tuple hT
    simp only at hc hd
    subst hc hd
    have b0 : (decide (k < -(2 ^ 63)) || decide (k ≥ 2 ^ 63)) = false := by
      rw [decide_eq_false (by omega), decide_eq_false (by omega)] <;> rfl
    by_cases h3 : k = 1 ∨ xs = []
    · have b1 : (its.toArray.isEmpty || k == 1) = true := by
        rcases h3 with e | e
        · rw [e]; simp
        · subst e
          cases r
          rfl
      refine wpAny_binaryOp_repeat_ref (T := "tuple") (U := "int") (by decide) ⟨_, ho, rfl⟩ (fun s' => typeIs_int s' k t) noFill_tuple_mul F.fills_int_mul F.slot_int_rmul repeat_tuple F.slot_int_index.lookup
        (call_meets F.slot_int_rmul (typeIs_int s k t) F.entry_int_rmul (F.args_int_rmul_2 _ _) (int_rmul_tuple k t l its.toArray n dd sl)
          ⟨ho, rfl, ⟨_, ho, rfl⟩, call_meets F.slot_tuple_mul ⟨_, ho, rfl⟩ F.entry_tuple_mul (F.args_tuple_mul_2 _ _) (tupOnce l its.toArray n dd sl k t b0 b1) ⟨ho, ?_⟩⟩)
      exact ⟨.ref l, H, I, rfl, q1 h3⟩
    · have hk : k ≤ 0 := by
        by_cases hk : k ≤ 0
        · exact hk
        · exact (h2 ⟨by omega, fun e => h3 (.inr e)⟩).elim
      have hx : xs ≠ [] := fun e => h3 (.inr e)
      have hi : its.toArray.isEmpty = false := by
        cases r with
        | nil => exact absurd rfl hx
        | cons _ _ => rfl
      have b1 : (its.toArray.isEmpty || k == 1) = false := by
        rw [hi, Bool.false_or]
        exact beq_eq_false_iff_ne.mpr (by omega)
      have b2 : (decide (k ≤ 0) || its.toArray.isEmpty) = true := by
        rw [decide_eq_true hk] <;> rfl
      refine wpAny_binaryOp_repeat_ref (T := "tuple") (U := "int") (by decide) ⟨_, ho, rfl⟩ (fun s' => typeIs_int s' k t) noFill_tuple_mul F.fills_int_mul F.slot_int_rmul repeat_tuple F.slot_int_index.lookup
        (call_meets F.slot_int_rmul (typeIs_int s k t) F.entry_int_rmul (F.args_int_rmul_2 _ _) (int_rmul_tuple k t l its.toArray n dd sl)
          ⟨ho, rfl, ⟨_, ho, rfl⟩, call_meets F.slot_tuple_mul ⟨_, ho, rfl⟩ F.entry_tuple_mul (F.args_tuple_mul_2 _ _) (tupNone l its.toArray n dd sl k t b0 b1 b2) ⟨ho, ?_⟩⟩)
      have hp : H s.heap.objs.size = none := I.hok.fresh (Nat.le_refl _)
      have e0 : (List.replicate k.toNat xs).flatten = [] := by
        rw [show k.toNat = 0 by omega]
        rfl
      have q := q2 (by omega) hx s.heap.objs.size hp
      rw [e0] at q
      refine ⟨.ref s.heap.objs.size, upd H s.heap.objs.size (.tup []), I.laid (t' := s.toks) (fun b o e => Heap.get?_push_of_some _ e) (Nat.le_refl _) ?_, rfl, q⟩
      exact ⟨Nat.zero_le _, [], .nil, ⟨_, Heap.get?_push_size _ rfl, rfl, _, rfl⟩⟩
section
variable {X : Cx} {U : Pu} {lv : Nat} {T : XD} {c : Ct X U lv T} {δ : List (Option D)} {S : D → Prop} {e : Expr} {pos : Pos}
theorem OD_mul_tup {xs : List D} {n : Int} (h0 : -1000 ≤ n) (h1 : n ≤ 1000) (hz : xs.length ≤ 1000) (h : S (.tup (List.replicate n.toNat xs).flatten)) : OD c (binaryOp .Mult) (.tup xs) (.int n) S := od_of op_mulT fun L H vx vy Q k rx ry q => by
  obtain ⟨a, vs, rfl, ha, ra, za⟩ := rx.tup
  refine ⟨a, n, vs, rfl, ry, ha, h0, h1, by rw [← ra.len]; exact hz, fun z => ?_, fun _ _ p hp => ?_⟩
  · have e : (List.replicate n.toNat xs).flatten = xs := by
      rcases z with z | z
      · subst z
        simp
      · have : xs = [] := List.eq_nil_of_length_eq_zero (by rw [ra.len, z]; rfl)
        subst this
        simp
    rw [e] at h
    exact q _ H (.tup xs) (Same.refl H) rx h
  · refine q _ _ (.tup _) (same_new hp) (k.tupNew (ra.flat _) ?_ hp) h
    rw [flat_len, sizeLine_eq]
    have : xs.length * n.toNat ≤ 1000 * 1000 := Nat.mul_le_mul hz (by omega)
    omega

/-! ### slices -/
def slRun (X : Cx) : V → Option Int → Option Int → Hp → VK → Prop := fun x lo hi H Q => ∀ (pins : List (Addr × Obj)) (s : Shared) (σ : L2.St) (v vl vu : Value) (sl : Addr), Inv X pins σ H s → RelV x v → s.heap.IsSliceOf sl vl vu .none → IsPart vl lo → IsPart vu hi →
  ∃ T id, typeLookup (.type T) "__getitem__" = pure (some (.builtin id)) ∧ s.TypeIs v T ∧ wpAny (model X.prog X.w) X.A (getItem v (.ref sl)) (EP X pins σ Q) X.xe s
def runO (X : Cx) (e : Option Expr) : TO := fun σ H Q => ∀ (pins : List (Addr × Obj)) (s : Shared), Inv X pins σ H s → wpAny (model X.prog X.w) X.A (evalPart e X.env) (fun u s' => ∃ o H', Inv X pins σ H' s' ∧ IsPart u o ∧ Q o H') X.xe s
theorem slR_run : SlR X (slRun X) := fun pins s σ _ _ v vl vu _ _ sl _ I rx hs pl pu h => h pins s σ v vl vu sl I rx hs pl pu
theorem po_run {o : Option Expr} : PO X o (runO X o) := ⟨fun pins s _ _ _ I h => h pins s I⟩
def WP (c : Ct X U lv T) (o : Option Expr) (δ : List (Option D)) (S : Option Int → Prop) : Prop := ∀ (L : List Addr) (σ : L2.St) (H : Hp) (Q : Option Int → Hp → Prop), En c L H σ δ → (∀ i H', Same U H H' → S i → Q i H') → runO X o σ H Q
theorem WP_none {S : Option Int → Prop} (h : S none) : WP c none δ S := fun L σ H Q E q pins s I => po_none.run pins s σ H Q I (q none H (Same.refl H) h)
theorem WP_some {S : Option Int → Prop} (h : WE c e δ fun d => ∃ i, d = .int i ∧ S (some i)) : WP c (some e) δ S := fun L σ H Q E q pins s I => (po_some pe_run).run pins s σ H Q I (h L σ H _ E fun v H1 d s1 r1 ⟨i, hd, z⟩ => by
  subst hd
  exact ⟨i, r1, q _ H1 s1 z⟩)
def SD (c : Ct X U lv T) (x : D) (lo hi : Option Int) (S : D → Prop) : Prop := ∀ (L : List Addr) (H : Hp) (vx : V) (Q : VK), Ok c L H → RepO X.K U c.Lb L H x vx → (∀ v H' d, Same U H H' → RepO X.K U c.Lb L H' d v → S d → Q v H') → slRun X vx lo hi H Q
theorem WE_sl {lo hi : Option Expr} {p2 : Pos} (h : WE c e δ fun x => WP c lo δ fun i => WP c hi δ fun j => SD c x i j S) : WE c (.Subscript e (.Slice lo hi none p2) pos) δ S := fun L σ H Q E q =>
  runE_of (pe_slice slR_run pe_run po_run po_run) (h L σ H _ E fun v H1 d s1 r1 z => z L σ H1 _ (E.mono s1) fun i H2 s2 z2 => z2 L σ H2 _ (E.mono (s1.trans s2)) fun j H3 s3 z3 =>
    z3 L H3 v Q (E.ok.mono ((s1.trans s2).trans s3)) ((r1.mono s2).mono s3) fun w H4 d4 s4 r4 z4 => q w H4 d4 (((s1.trans s2).trans s3).trans s4) r4 z4)
def cutD (xs : List D) (lo hi : Option Int) : List D := (xs.drop (HT.sIx xs.length 0 lo)).take (HT.sIx xs.length xs.length hi - HT.sIx xs.length 0 lo)
theorem cut_rep {K : PySem.W.Frag} {H : Hp} {xs : List D} {vs : List V} (r : Reps K U H xs vs) (lo hi : Option Int) : Reps K U H (cutD xs lo hi) (cutV vs lo hi) := by
  unfold cutD cutV
  rw [← r.len]
  exact Reps.take _ (Reps.drop _ r)
theorem cut_len (xs : List D) (lo hi : Option Int) : (cutD xs lo hi).length ≤ xs.length := by
  unfold cutD
  rw [List.length_take, List.length_drop]
  omega
theorem sd_of {r : V → Option Int → Option Int → Hp → VK → Prop} {x : D} {lo hi : Option Int} (ho : SlR X r) (h : ∀ (L : List Addr) (H : Hp) (vx : V) (Q : VK), Ok c L H → RepO X.K U c.Lb L H x vx → (∀ v H' d, Same U H H' → RepO X.K U c.Lb L H' d v → S d → Q v H') → r vx lo hi H Q) : SD c x lo hi S :=
  fun L H vx Q k rx q pins s σ v vl vu sl I hx hs pl pu => ho pins s σ H vx v vl vu lo hi sl Q I hx hs pl pu (h L H vx Q k rx q)
theorem SD_tup {xs : List D} {lo hi : Option Int} (h : S (.tup (cutD xs lo hi))) : SD c (.tup xs) lo hi S := sd_of sl_tupA fun L H vx Q k rx q => by
  obtain ⟨a, vs, rfl, ha, ra, za⟩ := rx.tup
  refine ⟨a, vs, rfl, ha, fun z => ?_, fun _ p hp => ?_⟩
  · have e : cutD xs lo hi = xs := by
      unfold cutD
      rw [ra.len, z.1, z.2, List.drop_zero, Nat.sub_zero, ← ra.len, List.take_length]
    rw [e] at h
    exact q _ H (.tup xs) (Same.refl H) rx h
  · exact q _ _ (.tup _) (same_new hp) (k.tupNew (cut_rep ra lo hi) (Nat.le_trans (cut_len xs lo hi) za) hp) h
theorem SD_lst {x : D} {xs : List D} {lo hi : Option Int} (sx : IsL x xs) (h : S (.lst (cutD xs lo hi))) : SD c x lo hi S := sd_of sl_list fun L H vx Q k rx q => by
  obtain ⟨a, vs, rfl, ha, ra, za⟩ := sx.rep rx
  exact ⟨a, vs, rfl, SqL.of ha, fun p hp => q _ _ (.lst _) (same_new hp) (k.lstNew (cut_rep ra lo hi) (Nat.le_trans (cut_len xs lo hi) za) hp) h⟩

/-! ### objects -/
/-- what isinstance asks of an own class -/
structure ObT (K : PySem.W.Frag) (C : Addr) : Prop where
  cl : Cls K C
  ha : PySem.W.findIn K (.ref C) "__class__" = some (some (.builtin "object.__class__"))
  hn : PySem.W.specialIn K (.builtin "object.__class__") "__get__" = some (some (.builtin "getset_descriptor.__get__"))
  ht : PySem.W.takesIn K (.builtin "object.__class__") = some true
  hm : PySem.W.mroIn K C (.type "object") = some true
theorem CD_isiO {C : Addr} {ns : List Str} {ds : List D} {cl : V} {cv : Value} {b : Bool} (o : ObT X.K C) (k : ClsV cl cv) (k1 : PySem.W.kitOne X.K (.ref C) cv = some b) (h : S (.bl b)) : CD c (.builtin "isinstance") [.obj C ns ds, .any cl] S := cd_of call_isi fun L H vs Q kk r q => by
  obtain ⟨v, u, rfl, rx, ry⟩ := r.two
  obtain ⟨a, dx, ws, rfl, ha, hd, _⟩ := rx
  exact ⟨.ref a, cl, .ref C, cv, b, by rw [show u = _ from ry], k, .base (.ins (hide_at ha).2 o.cl o.ha o.hn o.ht o.hm), k1, q _ H (.bl b) (Same.refl H) rfl h⟩
theorem CD_isiC {x : D} {t : String} {C : Addr} {b : Bool} (e : x.ty = some t) (k1 : PySem.W.kitOne X.K (.type t) (.ref C) = some b) (h : S (.bl b)) : CD c (.builtin "isinstance") [x, .any (.ref C)] S := cd_of call_isi fun L H vs Q k r q => by
  obtain ⟨v, u, rfl, rx, ry⟩ := r.two
  exact ⟨v, .ref C, .type t, .ref C, b, by rw [show u = _ from ry], .own C, tyx_of e rx, k1, q _ H (.bl b) (Same.refl H) rfl h⟩
/-- a method of the class at C -/
structure Mt (P : Program) (w : World) (K : PySem.W.Frag) (mg : Str → Option Value) (base : Heap) (U : Pu) (k : Nat) (C : Addr) (m : Str) (n : Nat) (sp : DSpec) : Prop where
  ex : ∃ (f : Addr) (fd : FuncData) (ps : List Str), PySem.W.findIn K (.ref C) m = some (some (.ref f)) ∧ PySem.W.isFn K (.ref f) = true ∧ PySem.W.keepIn K (.ref f) = true ∧ Binds K fd ps [] ∧ FnOk P w K mg base (L2.CX P w) k f fd ps (spD K U n sp)
/-- x == y, x an object whose class tells == -/
theorem OD_eqO {C : Addr} {ns : List Str} {ds : List D} {y : D} {k : Nat} {sp : DSpec} (M : Mt X.prog X.w X.K X.mg X.base U k C "__eq__" 2 sp) (hk : k ≤ lv) (o : Cls X.K C) (tb : Value) (hs : y.still = true)
    (ht : ∀ (L : List Addr) (H : Hp) (pins : List (Addr × Obj)) (s : Shared) (σ : L2.St) (v : V) (u : Value), Inv X pins σ H s → RepO X.K U c.Lb L H y v → RelV v u → PySem.W.Looks (model X.prog X.w) s.heap (typeOf u) tb) (hn : PySem.W.notFirst X.K C tb = true)
    (h : sp [.obj C ns ds, y] (fun d => ∃ b, d = .bl b ∧ S (.bl b)) T) : OD c (compareOp .Eq) (.obj C ns ds) y S := fun L H vx vy Q kk rx ry q pins s σ v u I hx hy => by
  obtain ⟨f, fd, ps, h1, h2, h3, h4, F⟩ := M.ex
  have rx0 := rx
  obtain ⟨a, dx, ws, rfl, ha, hd, rw'⟩ := rx
  cases hx
  obtain ⟨mA, J, _⟩ := ins_get I.hok (hide_at ha).2
  obtain ⟨od, J, _⟩ := J.look
  obtain ⟨m, hF⟩ := I.fr
  have hr : Room k X.A := c.room.mono hk
  show wpAny (model X.prog X.w) X.A (richCompare .Eq (.ref a) u) (EP X pins σ Q) X.xe s
  refine PySem.W.cmp_K (op := .Eq) hr.units0 hF I.ok.mod.kin J (ht L H pins s σ vy u I ry hy) hn h1 h2 ?_
  have hsp : spD X.K U 2 sp [.ref a, vy] H (fun v H' => ∃ b, v = .bl b ∧ Q (.bl b) H') (L2.WE (fun cls od _ H' => Same U c.Hb H' ∧ ∃ fl, RepX X.K U (hide c.Lb H') od fl ∧ T cls fl) σ) :=
    ⟨L, [.obj C ns ds, y], _, T, ⟨rfl, kk.base.g c.g⟩, kk.lsts, ⟨.ref a, [vy], rfl, rx0, vy, [], rfl, ry.rep hs, rfl⟩, h, fun v' H' d s1 r1 ⟨b, hb, z⟩ => by
      subst hb
      exact ⟨b, r1, q _ H' (.bl b) s1 rfl z⟩, fun cls od fl H' s1 r1 t => ⟨kk.base.trans s1, fl, RepX.mono (hide_le kk.lb) r1, t⟩⟩
  refine wpAny_mono (run_fnS F hr h4 (passAt c.tk σ) I (.cons (show RelV (.ref a) (.ref a) from rfl) (.cons hy .nil)) hsp) (fun r s' z => ?_) fun _ _ z => z
  obtain ⟨v', H', I', r', b, rfl, q'⟩ := z
  cases r'
  exact ⟨.bl b, H', I', rfl, q'⟩
theorem looks_obj {C : Addr} {ns : List Str} {ds : List D} : ∀ (L : List Addr) (H : Hp) (pins : List (Addr × Obj)) (s : Shared) (σ : L2.St) (v : V) (u : Value), Inv X pins σ H s → RepO X.K U c.Lb L H (.obj C ns ds) v → RelV v u → PySem.W.Looks (model X.prog X.w) s.heap (typeOf u) (.ref C) := fun L H pins s σ v u I r rv => by
  obtain ⟨a, dx, ws, rfl, ha, _⟩ := r
  cases rv
  obtain ⟨mA, J, _⟩ := ins_get I.hok (hide_at ha).2
  obtain ⟨od, J, _⟩ := J.look
  exact J.type
/-! ### making an object -/
/-- what __init__ promises: at x a new instance, sp as for a def (self left out) -/
def spI (K : PySem.W.Frag) (U : Pu) (C : Addr) (n : Nat) (sp : DSpec) : Sp := fun vs H Q E => ∃ (x dx : Addr) (us : List V) (L : List Addr) (ds : List D) (S : D → Prop) (T : XD), vs = .ref x :: us ∧ (ds.length = n ∧ U.G (hide [x] H)) ∧ H x = some (.ins C dx []) ∧ H dx = some (.own x) ∧ dx ≠ x ∧ x ∉ L ∧ dx ∉ L ∧ (∀ l ∈ L, MutAt H l) ∧
  Reps K U (hide (x :: dx :: L) H) ds us ∧ sp ds S T ∧ (∀ H' d, Same U (hide [x] H) H' → Rep K U (hide L H') d (.ref x) → S d → Q .non H') ∧ ∀ cls od fl H', Same U (hide [x] H) H' → RepX K U (hide L H') od fl → T cls fl → E cls od H'
structure Maker (P : Program) (w : World) (K : PySem.W.Frag) (mg : Str → Option Value) (base : Heap) (U : Pu) (k : Nat) (x : Str) (n : Nat) (sp : DSpec) : Prop where
  ex : ∃ (C f : Addr) (fd : FuncData) (ps : List Str), mg x = some (.ref C) ∧ Mk K C f ∧ Binds K fd ps [] ∧ FnOk P w K mg base (L2.CX P w) k f fd ps (spI K U C n sp)
theorem hide_two {L : List Addr} {H : Hp} {x dx C : Addr} (hx : H x = none) (hd : H dx = none) : hide (x :: dx :: L) (upd (upd H dx (.own x)) x (.ins C dx [])) = hide L H := by
  funext b
  unfold hide
  by_cases h1 : b = x
  · subst h1
    rw [if_pos List.mem_cons_self]
    split
    · rfl
    · exact hx.symm
  · by_cases h2 : b = dx
    · subst h2
      rw [if_pos (List.mem_cons_of_mem _ List.mem_cons_self)]
      split
      · rfl
      · exact hd.symm
    · rw [upd_ne h1, upd_ne h2]
      by_cases h3 : b ∈ L
      · rw [if_pos h3, if_pos (List.mem_cons_of_mem _ (List.mem_cons_of_mem _ h3))]
      · rw [if_neg h3, if_neg (fun z => (List.mem_cons.mp z).elim h1 fun z => (List.mem_cons.mp z).elim h2 h3)]
theorem WE_make {x : Str} {n k : Nat} {sp : DSpec} {es : List Expr} {p : Pos} (F : Maker X.prog X.w X.K X.mg X.base U k x n sp) (h : WA c (e :: es) δ fun ds => ds.length = n ∧ stills ds = true ∧ sp ds S T) (hk : k + 1 ≤ lv) (hg : Gl X x) (hd : (x == ("__debug__" : Str)) = false)
    (he : starEach (e :: es) X.env = (false, eval e X.env) :: starEach es X.env) (hpl : (backTo pos (starEach es X.env)).any (·.1) = false) : WE c (.Call (.Name x p) (e :: es) [] pos) δ S := fun L σ H Q N q => by
  obtain ⟨C, f, fd, ps, h1, h2, h3, h4⟩ := F.ex
  refine runE_of (pe_make (dvs := []) (E := fun cls od H' => Same U c.Hb H' ∧ ∃ fl, RepX X.K U (hide c.Lb H') od fl ∧ T cls fl) h2 h4 (c.room.mono hk) hg h1 h3 .nil (passes_call c.tk fun _ _ _ _ z => z) pa_run hd he hpl) (h L σ H _ N fun vs H1 ds s1 r1 ⟨hn, st, hsp⟩ => ?_)
  intro y dx hy hdx hne
  have ok1 := N.ok.mono s1
  have sm0 : Ext H1 (hide [y] (upd (upd H1 dx (.own y)) y (.ins C dx []))) := fun b o hb => by
    have b1 : b ≠ y := ne_of_none hb hy
    have b2 : b ≠ dx := ne_of_none hb hdx
    rw [hide_ne (by simpa using b1), upd_ne b1, upd_ne b2]
    exact hb
  have sm : Same U H1 (hide [y] (upd (upd H1 dx (.own y)) y (.ins C dx []))) := sm0.s
  refine ⟨y, dx, vs ++ [], L, ds, S, T, rfl, ⟨hn, (N.ok.base.trans (s1.trans sm)).g c.g⟩, upd_same, by rw [upd_ne hne, upd_same], hne, ok1.fresh hy, ok1.fresh hdx, fun l hl => ?_, ?_, hsp, fun H' d s2 r2 z => ⟨rfl, q _ H' d (s1.trans (sm.trans s2)) (.of_rep r2) z⟩, fun cls od fl H' s2 r2 t => ⟨N.ok.base.trans (s1.trans (sm.trans s2)), fl, RepX.mono (hide_le N.ok.lb) r2, t⟩⟩
  · obtain ⟨xs, m, g⟩ := ok1.lsts l hl
    exact ⟨xs, m, by rw [upd_ne (ne_of_none g hy), upd_ne (ne_of_none g hdx)]; exact g⟩
  · rw [List.append_nil, hide_two hy hdx]
    exact r1.reps st
end
end Dl

set_option maxRecDepth 100000
set_option maxHeartbeats 4000000
/-! # The rules in short: names by the def's own list of names -/
namespace Dl
open PySem PySem.Spec PyProof.Rows L2

inductive Nth {α : Type} : List α → Nat → α → Prop
  | here {x : α} {r : List α} : Nth (x :: r) 0 x
  | next {x y : α} {r : List α} {i : Nat} : Nth r i x → Nth (y :: r) (i + 1) x
theorem Nth.get {α : Type} {l : List α} {i : Nat} {x : α} (h : Nth l i x) : l[i]? = some x := by
  induction h with
  | here => rfl
  | next _ ih => simpa using ih
/-- whose names: a def's; .. its code object told; a comprehension's block -/
inductive Zk where
  | top
  | code (cd : Value) (q : Str)
  | blk (s : Scope)
/-- what is known of a context's names -/
structure Fx (X : Cx) (P : Program) (w : World) (K : PySem.W.Frag) (mg : Str → Option Value) (base : Heap) (N : List Str) (sc : Scope) (z : Zk) : Prop where
  p : X.prog = P
  w : X.w = w
  k : X.K = K
  m : X.mg = mg
  b : X.base = base
  n : X.N = N
  s : X.env.scope = sc
  f : match z with
    | .top => ∀ x, X.fn x = true
    | .code cd q => (∀ x, X.fn x = true) ∧ X.env.code = cd ∧ X.env.qual = q
    | .blk s0 => (∀ x, X.fn x = (s0.names.lookup x == some .cell)) ∧ ∀ x k, sc.names.lookup x = some k → s0.names.lookup x = some k ∨ s0.names.lookup x = some .free
def visB (sc : Scope) (x : Str) : Bool := (match sc.names.lookup x with
  | some .local => true
  | some .cell => true
  | some .free => true
  | _ => false) && !(x == ("__debug__" : Str)) && !(x == ("__classdict__" : Str))
def locB (sc : Scope) (x : Str) : Bool := match sc.names.lookup x with
  | some .local => true
  | some .cell => true
  | _ => false
def tgB (z : Zk) (sc : Scope) (x : Str) : Bool := locB sc x && (match z with
  | .top => true
  | .code _ _ => true
  | .blk s0 => !(s0.names.lookup x == some .free))
theorem tgB_code {cd : Value} {q : Str} {sc : Scope} {x : Str} (h : tgB .top sc x = true) : tgB (.code cd q) sc x = true := h
def glbB (sc : Scope) (x : Str) : Bool := (match sc.names.lookup x with
  | some .globalImplicit => true
  | _ => false) && !(x == ("__debug__" : Str)) && !(x == ("__name__" : Str))
theorem visB_ok {sc : Scope} {x : Str} (h : visB sc x = true) : Vis sc x ∧ (x == ("__debug__" : Str)) = false ∧ (x == ("__classdict__" : Str)) = false := by
  unfold visB at h
  simp only [Bool.and_eq_true, Bool.not_eq_true'] at h
  obtain ⟨⟨h1, h2⟩, h3⟩ := h
  refine ⟨?_, h2, h3⟩
  unfold Vis
  split at h1
  · rename_i e; exact .inl e
  · rename_i e; exact .inr (.inl e)
  · rename_i e; exact .inr (.inr e)
  · cases h1
theorem locB_ok {sc : Scope} {x : Str} (h : locB sc x = true) : L2.Loc sc x := by
  unfold locB at h
  unfold L2.Loc
  split at h
  · rename_i e; exact .inl e
  · rename_i e; exact .inr e
  · cases h
theorem glbB_ok {sc : Scope} {x : Str} (h : glbB sc x = true) : sc.names.lookup x = some .globalImplicit ∧ (x == ("__debug__" : Str)) = false ∧ x ≠ "__name__" := by
  unfold glbB at h
  simp only [Bool.and_eq_true, Bool.not_eq_true'] at h
  obtain ⟨⟨h1, h2⟩, h3⟩ := h
  refine ⟨?_, h2, fun e => by rw [e] at h3; simp at h3⟩
  split at h1
  · rename_i e; exact e
  · cases h1
section
variable {X : Cx} {P : Program} {w : World} {K : PySem.W.Frag} {mg : Str → Option Value} {base : Heap} {N : List Str} {sc : Scope} {z : Zk} {U : Pu} {lv : Nat} {T : XD} {c : Ct X U lv T} {δ : List (Option D)} {S : D → Prop} {E : SE} {e a b : Expr} {pos p : Pos} {es : List Expr} {x : Str} {i : Nat}
theorem Fx.gl (f : Fx X P w K mg base N sc z) (h : glbB sc x = true) : Gl X x := by
  show X.env.scope.names.lookup x = _
  rw [f.s]
  exact (glbB_ok h).1
theorem Fx.loc (f : Fx X P w K mg base N sc z) (h : locB sc x = true) : L2.Loc X.env.scope x := by
  rw [f.s]
  exact locB_ok h
theorem Fx.vis (f : Fx X P w K mg base N sc z) (h : visB sc x = true) : Vis X.env.scope x := by
  rw [f.s]
  exact (visB_ok h).1
theorem Fx.tl (_f : Fx X P w K mg base N sc z) (h : tgB z sc x = true) : locB sc x = true := by
  unfold tgB at h
  simp only [Bool.and_eq_true] at h
  exact h.1
theorem Fx.fn (f : Fx X P w K mg base N sc z) (h : tgB z sc x = true) : X.fn x = true ∨ X.env.scope.names.lookup x = some .local := by
  have hl := f.tl h
  rw [f.s]
  rcases locB_ok hl with e | e
  · exact .inr e
  · left
    have g := f.f
    unfold tgB at h
    cases z with
    | top => exact g x
    | code _ _ => exact g.1 x
    | blk s0 =>
      simp only [Bool.and_eq_true, Bool.not_eq_true', beq_eq_false_iff_ne, ne_eq] at h
      rw [g.1 x]
      rcases g.2 x _ e with k | k
      · rw [k]; rfl
      · exact absurd k h.2
theorem Fx.at_ (f : Fx X P w K mg base N sc z) (h : Nth N i x) : X.N[i]? = some x := by
  rw [f.n]
  exact h.get
theorem eN {d : D} (f : Fx X P w K mg base N sc z) (hn : Nth N i x) (hd : Nth δ i (some d)) (hv : visB sc x = true) (h : S d) : WE c (.Name x pos) δ S :=
  WE_var i hd.get h (f.at_ hn) (f.vis hv) (visB_ok hv).2.1 (visB_ok hv).2.2
theorem eG {d : D} (f : Fx X P w K mg base N sc z) (g : Glb K mg x d) (hg : glbB sc x = true) (h : S d) : WE c (.Name x pos) δ S :=
  WE_glb (by rw [f.k, f.m]; exact g) h (f.gl hg) (glbB_ok hg).2.1
theorem eT {t : String} (f : Fx X P w K mg base N sc z) (hm : mg x = none) (hv : bootBuiltins x = some (.type t)) (hg : glbB sc x = true) (h : S (.any (.ty t))) : WE c (.Name x pos) δ S :=
  WE_ty (by rw [f.m]; exact hm) h hv (f.gl hg) (glbB_ok hg).2.2 (glbB_ok hg).2.1
theorem eB {id : String} (f : Fx X P w K mg base N sc z) (hm : mg x = none) (hv : bootBuiltins x = some (.builtin id)) (hg : glbB sc x = true) (h : WA c (e :: es) δ fun ds => CD c (.builtin id) ds S)
    (he : starEach (e :: es) X.env = (false, eval e X.env) :: starEach es X.env := by rfl) (hpl : (backTo pos (starEach es X.env)).any (·.1) = false := by rfl) : WE c (.Call (.Name x p) (e :: es) [] pos) δ S :=
  WE_blt (by rw [f.m]; exact hm) h hv (f.gl hg) (glbB_ok hg).2.2 (glbB_ok hg).2.1 he hpl
theorem eBT {t : String} (f : Fx X P w K mg base N sc z) (hm : mg x = none) (hv : bootBuiltins x = some (.type t)) (hg : glbB sc x = true) (h : WA c (e :: es) δ fun ds => CD c (.type t) ds S)
    (he : starEach (e :: es) X.env = (false, eval e X.env) :: starEach es X.env := by rfl) (hpl : (backTo pos (starEach es X.env)).any (·.1) = false := by rfl) : WE c (.Call (.Name x p) (e :: es) [] pos) δ S :=
  WE_bty (by rw [f.m]; exact hm) h hv (f.gl hg) (glbB_ok hg).2.2 (glbB_ok hg).2.1 he hpl
theorem eC {n k : Nat} {sp : DSpec} (f : Fx X P w K mg base N sc z) (F : Fn P w K mg base U k x n sp) (hk : k ≤ lv) (hg : glbB sc x = true) (h : WA c (e :: es) δ fun ds => ds.length = n ∧ stills ds = true ∧ sp ds S T)
    (he : starEach (e :: es) X.env = (false, eval e X.env) :: starEach es X.env := by rfl) (hpl : (backTo pos (starEach es X.env)).any (·.1) = false := by rfl) : WE c (.Call (.Name x p) (e :: es) [] pos) δ S :=
  WE_call (by rw [f.p, f.w, f.k, f.m, f.b]; exact F) h hk (f.gl hg) (glbB_ok hg).2.1 he hpl
theorem eM {n k : Nat} {sp : DSpec} (f : Fx X P w K mg base N sc z) (F : Maker P w K mg base U k x n sp) (hk : k + 1 ≤ lv) (hg : glbB sc x = true) (h : WA c (e :: es) δ fun ds => ds.length = n ∧ stills ds = true ∧ sp ds S T)
    (he : starEach (e :: es) X.env = (false, eval e X.env) :: starEach es X.env := by rfl) (hpl : (backTo pos (starEach es X.env)).any (·.1) = false := by rfl) : WE c (.Call (.Name x p) (e :: es) [] pos) δ S :=
  WE_make (by rw [f.p, f.w, f.k, f.m, f.b]; exact F) h hk (f.gl hg) (glbB_ok hg).2.1 he hpl
theorem eF {g : Str} (f : Fx X P w K mg base N sc z) (h : WE c e δ fun x => ∃ C ns ds d, x = .obj C ns ds ∧ Cls K C ∧ NoAttr K C g ∧ (ns.zip ds).lookup g = some d ∧ S d) (hb : attributeBase e g X.env (eval e X.env) = eval e X.env := by rfl) : WE c (.Attribute e g pos) δ S :=
  WE_fld (by rw [f.k]; exact h) hb
theorem EqO {C : Addr} {ns : List Str} {ds : List D} {y : D} {k : Nat} {sp : DSpec} (f : Fx X P w K mg base N sc z) (M : Mt P w K mg base U k C "__eq__" 2 sp) (hk : k ≤ lv) (o : Cls K C) {C' : Addr} {ns' : List Str} {ds' : List D} (hy : y = .obj C' ns' ds') (hn : PySem.W.notFirst K C (.ref C') = true)
    (h : sp [.obj C ns ds, y] (fun d => ∃ b, d = .bl b ∧ S (.bl b)) T) : OD c (compareOp .Eq) (.obj C ns ds) y S := by
  subst hy
  exact OD_eqO (by rw [f.p, f.w, f.k, f.m, f.b]; exact M) hk (by rw [f.k]; exact o) (.ref C') rfl looks_obj (by rw [f.k]; exact hn) h
theorem IsO {C : Addr} {ns : List Str} {ds : List D} {cl : V} {cv : Value} {b : Bool} (f : Fx X P w K mg base N sc z) (o : ObT K C) (k : ClsV cl cv) (k1 : PySem.W.kitOne K (.ref C) cv = some b) (h : S (.bl b)) : CD c (.builtin "isinstance") [.obj C ns ds, .any cl] S :=
  CD_isiO (by rw [f.k]; exact o) k (by rw [f.k]; exact k1) h
theorem IsC {x : D} {t : String} {C : Addr} {b : Bool} (f : Fx X P w K mg base N sc z) (e : x.ty = some t) (k1 : PySem.W.kitOne K (.type t) (.ref C) = some b) (h : S (.bl b)) : CD c (.builtin "isinstance") [x, .any (.ref C)] S :=
  CD_isiC e (by rw [f.k]; exact k1) h

/-! targets, stores -/
theorem tN {d : D} {Q : List (Option D) → Prop} (f : Fx X P w K mg base N sc z) (hn : Nth N i x) (hl : tgB z sc x = true) (h : Q (δ.set i (some d))) : AG c (.Name x pos) δ d [i] Q :=
  AG_name i h (f.at_ hn) (f.loc (f.tl hl)) (f.fn hl)
theorem sSet {p' : Pos} (f : Fx X P w K mg base N sc z) (hn : Nth N i x) (hl : tgB z sc x = true) (h : WO c e δ fun d => E.nx (δ.set i (some d))) (hs : swapsWith e (some (.Name x p')) pos.line X.env = pure false := by rfl) : WS c (.Assign [.Name x p'] e pos) δ E :=
  WS_set i h (f.at_ hn) (f.loc (f.tl hl)) hs (f.fn hl)
theorem sApp {xs : List D} {p' apos cpos : Pos} (f : Fx X P w K mg base N sc z) (hn : Nth N i x) (hd : Nth δ i (some (.own xs))) (hv : visB sc x = true) (h : WE c e δ fun d => d.still = true ∧ xs.length < sizeLine ∧ E.nx (δ.set i (some (.own (xs ++ [d])))))
    (hs : swapsWith (.Call (.Attribute (.Name x p') "append" apos) [e] [] cpos) none pos.line X.env = pure false := by rfl)
    (hbase : attributeBase (.Name x p') "append" X.env (eval (.Name x p') X.env) = eval (.Name x p') X.env := by rfl) (hfew : ((backTo cpos (starEach [e] X.env)).all (fun x => !x.1) && (backToKw cpos (keywordEach [] X.env)).all (fun x => x.1.isSome) && decide (([e] : List Expr).length + ([] : List Keyword).length + (if ([] : List Keyword).isEmpty then 0 else 1) < 30)) = true := by rfl)
    (hline : (apos.endLine == cpos.line) = true := by rfl) (he : starEach (e :: []) X.env = (false, eval e X.env) :: starEach [] X.env := by rfl) (hpl : (backTo cpos (starEach [] X.env)).any (·.1) = false := by rfl) :
    WS c (.Expr (.Call (.Attribute (.Name x p') "append" apos) [e] [] cpos) pos) δ E :=
  WS_append i hd.get h (f.at_ hn) (f.vis hv) (visB_ok hv).2.1 (visB_ok hv).2.2 hs hbase hfew hline he hpl
theorem sExt {xs : List D} {p' apos cpos : Pos} (f : Fx X P w K mg base N sc z) (hn : Nth N i x) (hd : Nth δ i (some (.own xs))) (hv : visB sc x = true) (h : WE c e δ fun d => ∃ ys, d = .lst ys ∧ xs.length + ys.length ≤ sizeLine ∧ E.nx (δ.set i (some (.own (xs ++ ys)))))
    (hs : swapsWith (.Call (.Attribute (.Name x p') "extend" apos) [e] [] cpos) none pos.line X.env = pure false := by rfl)
    (hbase : attributeBase (.Name x p') "extend" X.env (eval (.Name x p') X.env) = eval (.Name x p') X.env := by rfl) (hfew : ((backTo cpos (starEach [e] X.env)).all (fun x => !x.1) && (backToKw cpos (keywordEach [] X.env)).all (fun x => x.1.isSome) && decide (([e] : List Expr).length + ([] : List Keyword).length + (if ([] : List Keyword).isEmpty then 0 else 1) < 30)) = true := by rfl)
    (hline : (apos.endLine == cpos.line) = true := by rfl) (he : starEach (e :: []) X.env = (false, eval e X.env) :: starEach [] X.env := by rfl) (hpl : (backTo cpos (starEach [] X.env)).any (·.1) = false := by rfl) :
    WS c (.Expr (.Call (.Attribute (.Name x p') "extend" apos) [e] [] cpos) pos) δ E :=
  WS_extend i hd.get h (f.at_ hn) (f.vis hv) (visB_ok hv).2.1 (visB_ok hv).2.2 hs hbase hfew hline he hpl
theorem sPut {xs : List D} {p' spos : Pos} {ix : Expr} (f : Fx X P w K mg base N sc z) (hn : Nth N i x) (hd : Nth δ i (some (.own xs))) (hv : visB sc x = true) (h : WE c e δ fun d => d.still = true ∧ WE c ix δ fun y => ∃ (k : Int) (j : Nat), y = .int k ∧ ixN xs.length k = some j ∧ E.nx (δ.set i (some (.own (xs.set j d)))))
    (ha : ∀ v, assign (.Subscript (.Name x p') ix spos) X.env v = (do
      let ov ← holding [v] (eval (.Name x p') X.env)
      let iv ← holding [v, ov] (eval ix X.env)
      standAt spos
      holding [v, ov, iv] (setItem ov iv v)
      release [v, ov, iv] []) := by intro _; rfl)
    (hs : swapsWithSole [.Subscript (.Name x p') ix spos] e pos.line X.env = pure false := by rfl) (hw : swappedStores [.Subscript (.Name x p') ix spos] e X.env = pure none := by rfl) (h1 : (assignEach [.Subscript (.Name x p') ix spos] X.env).map (·.2) = [assign (.Subscript (.Name x p') ix spos) X.env] := by rfl) :
    WS c (.Assign [.Subscript (.Name x p') ix spos] e pos) δ E :=
  WS_setItem i hd.get h (f.at_ hn) (f.vis hv) (visB_ok hv).2.1 (visB_ok hv).2.2 ha hs hw h1
theorem sAug {n : Int} (f : Fx X P w K mg base N sc z) (hn : Nth N i x) (hd : Nth δ i (some (.int n))) (hl : tgB z sc x = true) (h : WE c e δ fun d => ∃ m, d = .int m ∧ E.nx (δ.set i (some (.int (n + m))))) : WS c (.AugAssign (.Name x p) .Add e pos) δ E :=
  WS_augAdd i hd.get h (f.at_ hn) (f.loc (f.tl hl)) (f.fn hl)
/-- a, b = x, y -/
def env0 (sc : Scope) (env : Env) : Env := env
theorem swapped_of {env env' : Env} (h : env.scope = env'.scope) (ts : List Expr) (v : Expr) : swappedStores ts v env = swappedStores ts v env' := by
  unfold swappedStores Env.kindOf Env.blockKind
  rw [h]
theorem sPar {j : Nat} {y : Str} {px py pt : Pos} {kt k2 pt2} (f : Fx X P w K mg base N sc z) (hi : Nth N i x) (hj : Nth N j y) (hij : i ≠ j) (hx : sc.names.lookup x = some .local) (hy : sc.names.lookup y = some .local) (h : WO c a δ fun d1 => WO c b δ fun d2 => E.nx ((δ.set i (some d1)).set j (some d2)))
    (hw : ∀ env : Env, env.scope = sc → swappedStores [.Tuple [.Name x px, .Name y py] kt pt] (.Tuple [a, b] k2 pt2) env = pure (some [x, y]))
    (hs : swapsWithSole [.Tuple [.Name x px, .Name y py] kt pt] (.Tuple [a, b] k2 pt2) pos.line X.env = pure false := by rfl) (s1 : starEach (a :: [b]) X.env = (false, eval a X.env) :: starEach [b] X.env := by rfl) (s2 : starEach (b :: []) X.env = (false, eval b X.env) :: starEach [] X.env := by rfl) :
    WS c (.Assign [.Tuple [.Name x px, .Name y py] kt pt] (.Tuple [a, b] k2 pt2) pos) δ E :=
  WS_par i j h (f.at_ hi) (f.at_ hj) hij (by rw [f.s]; exact hx) (by rw [f.s]; exact hy) (hw _ f.s) hs s1 s2

/-! sources -/
theorem iR1 {tg : Expr} {S : List D → Prop} (f : Fx X P w K mg base N sc z) (hm : mg "range" = none) (hg : glbB sc "range" = true) (h : WA c [a] δ fun ds => ∃ n : Int, ds = [.int n] ∧ n ≤ 16777216 ∧ -16777216 ≤ n ∧ S ((List.range n.toNat).map fun (k : Nat) => D.int (0 + k))) (hs : starEach [a] X.env = [(false, eval a X.env)] := by rfl) :
    WI c tg (.Call (.Name "range" p) [a] [] pos) δ S := WI_rng1 (by rw [f.m]; exact hm) h (f.gl hg) hs
theorem iR2 {tg : Expr} {S : List D → Prop} (f : Fx X P w K mg base N sc z) (hm : mg "range" = none) (hg : glbB sc "range" = true) (h : WA c [a, b] δ fun ds => ∃ m n : Int, ds = [.int m, .int n] ∧ n ≤ 8000000 ∧ -8000000 ≤ n ∧ m ≤ 8000000 ∧ -8000000 ≤ m ∧ S ((List.range (n - m).toNat).map fun (k : Nat) => D.int (m + k)))
    (hs : starEach [a, b] X.env = [(false, eval a X.env), (false, eval b X.env)] := by rfl) (hs2 : starEach [b] X.env = [(false, eval b X.env)] := by rfl) : WI c tg (.Call (.Name "range" p) [a, b] [] pos) δ S := WI_rng2 (by rw [f.m]; exact hm) h (f.gl hg) hs hs2
theorem iZip {S : List D → Prop} {elts : List Expr} {kk : Nat} {tpos : Pos} (f : Fx X P w K mg base N sc z) (hm : mg "zip" = none) (hg : glbB sc "zip" = true) (h : WA c [a, b] δ fun ds => ∃ xs ys, (ds = [.lst xs, .lst ys] ∨ ds = [.tup xs, .tup ys]) ∧ S (pairs xs ys))
    (hs : starEach [a, b] X.env = (false, eval a X.env) :: starEach [b] X.env := by rfl) (hpl : (backTo pos (starEach [b] X.env)).any (·.1) = false := by rfl) : WI c (.Tuple elts kk tpos) (.Call (.Name "zip" p) [a, b] [] pos) δ S := WI_zip (by rw [f.m]; exact hm) h (f.gl hg) hs hpl
theorem iEnu {S : List D → Prop} {elts : List Expr} {kk : Nat} {tpos : Pos} (f : Fx X P w K mg base N sc z) (hm : mg "enumerate" = none) (hg : glbB sc "enumerate" = true) (h : WA c [a] δ fun ds => ∃ xs, ds = [.lst xs] ∧ S (numbered xs)) (hs : starEach [a] X.env = [(false, eval a X.env)] := by rfl) :
    WI c (.Tuple elts kk tpos) (.Call (.Name "enumerate" p) [a] [] pos) δ S := WI_enum (by rw [f.m]; exact hm) h (f.gl hg) hs

/-! ### comprehensions, the block's context told by its facts alone -/
def BlkO (P : Program) (w : World) (K : PySem.W.Frag) (mg : Str → Option Value) (base : Heap) (N : List Str) (U : Pu) (lv : Nat) (s0 sc : Scope) (φ : ∀ {X' : Cx}, Ct X' U lv noX → Prop) : Prop := ∀ (X' : Cx) (c' : Ct X' U lv noX), Fx X' P w K mg base N (relS s0 sc) (.blk s0) → φ c'
theorem blk_of (f : Fx X P w K mg base N sc z) {scope : Scope} {φ : ∀ {X' : Cx}, Ct X' U lv noX → Prop} (h : BlkO P w K mg base N U lv scope sc φ) : Blk c scope φ := fun s H C cl fp c' _ _ => h _ c' ⟨f.p, f.w, f.k, f.m, f.b, f.n, by show relS scope X.env.scope = _; rw [f.s], ⟨fun _ => rfl, fun x k e => by
  obtain ⟨k', h1, h2⟩ := lookup_relS e
  rcases h2 with rfl | ⟨rfl, _⟩
  · exact .inl h1
  · exact .inr h1⟩⟩
/-- a comprehension's turns -/
def Turns (P : Program) (w : World) (K : PySem.W.Frag) (mg : Str → Option Value) (base : Heap) (N : List Str) (U : Pu) (lv : Nat) (tg : Expr) (ifs : List Expr) (elt : Expr) (scope sc : Scope) (δ : List (Option D)) (ts : List Nat) (S : List D → Prop) (ds : List D) : Prop :=
  ∃ Pv : Nat → List D → Prop, Pv 0 [] ∧ (∀ (i : Nat) (d : D) (ys : List D), ds[i]? = some d → ys.length ≤ i → Pv i ys → BlkO P w K mg base N U lv scope sc fun c1 => AG c1 tg δ d ts fun δ2 => BlkO P w K mg base N U lv scope sc fun c2 => WTs c2 ifs δ2 fun b =>
      if b = true then BlkO P w K mg base N U lv scope sc fun c3 => WE c3 elt δ2 fun y => y.still = true ∧ Pv (i + 1) (ys ++ [y]) else Pv (i + 1) ys) ∧ ∀ ys, ys.length ≤ ds.length → Pv ds.length ys → S ys
theorem turns_of (f : Fx X P w K mg base N sc z) {tg elt : Expr} {ifs : List Expr} {scope : Scope} {ts : List Nat} {S : List D → Prop} {ds : List D} (h : Turns P w K mg base N U lv tg ifs elt scope sc δ ts S ds) : LcTurn c tg ifs elt scope δ ts S ds := by
  obtain ⟨Pv, h0, hs, hd⟩ := h
  refine ⟨Pv, h0, fun i d ys h1 h2 h3 => ?_, hd⟩
  refine blk_of f fun X1 c1 f1 => fun L σ H v Q En r q => hs i d ys h1 h2 h3 X1 c1 f1 L σ H v Q En r fun σ' δ' df En' k => q σ' δ' df En' ?_
  refine blk_of f fun X2 c2 f2 => WTs_mono' (k X2 c2 f2) fun b z => ?_
  cases b with
  | true =>
    rw [if_pos rfl] at z ⊢
    exact blk_of f fun X3 c3 f3 => z X3 c3 f3
  | false =>
    rw [if_neg Bool.false_ne_true] at z ⊢
    exact z
where WTs_mono' {X : Cx} {c : Ct X U lv noX} {ifs : List Expr} {δ : List (Option D)} {S S' : Bool → Prop} (h : WTs c ifs δ S) (k : ∀ b, S b → S' b) : WTs c ifs δ S' := fun L σ H Q En q => h L σ H Q En fun b H' s z => q b H' s (k b z)
theorem WJ_mono {tg iter : Expr} {S S' : List D → Prop} (h : WJ c tg iter δ S) (k : ∀ ds, S ds → S' ds) : WJ c tg iter δ S' := fun L σ H R En q => h L σ H R En fun J H' ds s w z => q J H' ds s w (k ds z)
theorem eLc {tg iter elt : Expr} {ifs : List Expr} {scope : Scope} (own : List (Str × Nat)) (ts : List Nat) (f : Fx X P w K mg base N sc z) (ok : blkC N sc scope own = true) (hts : ∀ i ∈ ts, i ∈ own.map (·.2)) (hi : WJ c tg iter δ (Turns P w K mg base N U lv tg ifs elt scope sc (wipeD δ (own.map (·.2))) ts fun ys => S (.lst ys)))
    (hs : ∀ x, foldedSetIterable iter X.env x = pure x := by intro _; rfl) : WE c (.ListComp elt [⟨tg, iter, ifs, 0⟩] scope pos) δ S :=
  WE_lc own ts (WJ_mono hi fun ds h => turns_of f h) (by rw [f.n, f.s]; exact blkOk_by ok) hts hs
theorem fLc {tg iter elt : Expr} {ifs : List Expr} {scope : Scope} {S : List D → Prop} (own : List (Str × Nat)) (ts : List Nat) (f : Fx X P w K mg base N sc z) (ok : blkC N sc scope own = true) (hts : ∀ i ∈ ts, i ∈ own.map (·.2)) (hi : WJ c tg iter δ (Turns P w K mg base N U lv tg ifs elt scope sc (wipeD δ (own.map (·.2))) ts S))
    (hs : ∀ x, foldedSetIterable iter X.env x = pure x := by intro _; rfl) : WF c (.ListComp elt [⟨tg, iter, ifs, 0⟩] scope pos) δ S :=
  WF_lc own ts (WJ_mono hi fun ds h => turns_of f h) (by rw [f.n, f.s]; exact blkOk_by ok) hts hs
theorem sLc {tg iter elt : Expr} {ifs : List Expr} {scope : Scope} {S : List D → Prop} {py : Pos} (own : List (Str × Nat)) (ts : List Nat) (f : Fx X P w K mg base N sc z) (hn : Nth N i x) (hS : (∀ ds, S ds → E.nx (δ.set i (some (.own ds)))) ∨ ∀ ds, S ds → E.nx (δ.set i (some (.lst ds)))) (ok : blkC N sc scope own = true) (hts : ∀ i ∈ ts, i ∈ own.map (·.2))
    (hy : sc.names.lookup x = some .local) (hk : sc.kind = .function) (hl : (py.line == p.line) = true) (ha : (scope.names.any fun (n, k) => n == x && (k == .local || k == .cell)) = false)
    (hi : WJ c tg iter δ (Turns P w K mg base N U lv tg ifs elt scope sc (wipeD δ (own.map (·.2))) ts S)) (hs : ∀ x, foldedSetIterable iter X.env x = pure x := by intro _; rfl) (hln : pos.line = pos.line := by rfl) : WS c (.Assign [.Name x py] (.ListComp elt [⟨tg, iter, ifs, 0⟩] scope p) pos) δ E :=
  WS_setLc i own ts (WJ_mono hi fun ds h => turns_of f h) hS (by rw [f.n, f.s]; exact blkOk_by ok) hts (f.at_ hn) (by rw [f.s]; exact hy) (sw_true (by rw [f.s]; exact hk) (by rw [f.s]; exact hy) hl ha) hs
/-! turns in the usual forms -/
section
variable {tg elt : Expr} {ifs : List Expr} {scope : Scope} {ts : List Nat} {S : List D → Prop} {ds : List D}
/-- each turn gives one item -/
theorem TurnsMap (f : D → D) (h : ∀ (i : Nat) (d : D), ds[i]? = some d → BlkO P w K mg base N U lv scope sc fun c1 => AG c1 tg δ d ts fun δ2 => BlkO P w K mg base N U lv scope sc fun c2 => WTs c2 ifs δ2 fun b => b = true ∧ BlkO P w K mg base N U lv scope sc fun c3 => WE c3 elt δ2 fun y => y.still = true ∧ y = f d) (hS : S (ds.map f)) :
    Turns P w K mg base N U lv tg ifs elt scope sc δ ts S ds := by
  refine ⟨fun i ys => ys = (ds.take i).map f, rfl, fun i d ys hd hy p => ?_, fun ys _ p => ?_⟩
  · intro X1 c1 f1 L σ H v Q En r q
    refine h i d hd X1 c1 f1 L σ H v Q En r fun σ' δ' df En' k => q σ' δ' df En' fun X2 c2 f2 L2 σ2 H2 Q2 En2 q2 => k X2 c2 f2 L2 σ2 H2 Q2 En2 fun b H3 s3 z => q2 b H3 s3 ?_
    obtain ⟨rfl, z⟩ := z
    rw [if_pos rfl]
    refine fun X3 c3 f3 => (z X3 c3 f3).mono fun y hyy => ⟨hyy.1, ?_⟩
    subst p
    rw [hyy.2, List.take_add_one, hd]
    simp
  · subst p
    rw [List.take_length]
    exact hS
/-- each turn gives one of some items -/
theorem TurnsSome (R : Nat → D → Prop) (h : ∀ (i : Nat) (d : D), ds[i]? = some d → BlkO P w K mg base N U lv scope sc fun c1 => AG c1 tg δ d ts fun δ2 => BlkO P w K mg base N U lv scope sc fun c2 => WTs c2 ifs δ2 fun b => b = true ∧ BlkO P w K mg base N U lv scope sc fun c3 => WE c3 elt δ2 fun y => y.still = true ∧ R i y) (hS : ∀ ys, ys.length = ds.length → (∀ (i : Nat) y, ys[i]? = some y → R i y) → S ys) :
    Turns P w K mg base N U lv tg ifs elt scope sc δ ts S ds := by
  refine ⟨fun i ys => ys.length = i ∧ ∀ (j : Nat) y, ys[j]? = some y → R j y, ⟨rfl, fun j y e => by simp at e⟩, fun i d ys hd hy p => ?_, fun ys _ p => hS ys p.1 p.2⟩
  intro X1 c1 f1 L σ H v Q En r q
  refine h i d hd X1 c1 f1 L σ H v Q En r fun σ' δ' df En' k => q σ' δ' df En' fun X2 c2 f2 L2 σ2 H2 Q2 En2 q2 => k X2 c2 f2 L2 σ2 H2 Q2 En2 fun b H3 s3 z => q2 b H3 s3 ?_
  obtain ⟨rfl, z⟩ := z
  rw [if_pos rfl]
  refine fun X3 c3 f3 => (z X3 c3 f3).mono fun y hyy => ⟨hyy.1, by simp [p.1], fun j y' e => ?_⟩
  by_cases hj : j < ys.length
  · rw [List.getElem?_append_left hj] at e
    exact p.2 j y' e
  · rw [List.getElem?_append_right (by omega)] at e
    by_cases h0 : j - ys.length = 0
    · rw [h0] at e
      simp at e
      have : j = i := by omega
      subst this
      subst e
      exact hyy.2
    · rw [List.getElem?_eq_none (by simp; omega)] at e
      cases e
/-- a test, then an item -/
theorem TurnsIf (g : D → Bool) (f : D → D) (h : ∀ (i : Nat) (d : D), ds[i]? = some d → BlkO P w K mg base N U lv scope sc fun c1 => AG c1 tg δ d ts fun δ2 => BlkO P w K mg base N U lv scope sc fun c2 => WTs c2 ifs δ2 fun b => b = g d ∧ (b = true → BlkO P w K mg base N U lv scope sc fun c3 => WE c3 elt δ2 fun y => y.still = true ∧ y = f d)) (hS : S ((ds.filter g).map f)) :
    Turns P w K mg base N U lv tg ifs elt scope sc δ ts S ds := by
  refine ⟨fun i ys => ys = ((ds.take i).filter g).map f, rfl, fun i d ys hd hy p => ?_, fun ys _ p => ?_⟩
  · intro X1 c1 f1 L σ H v Q En r q
    refine h i d hd X1 c1 f1 L σ H v Q En r fun σ' δ' df En' k => q σ' δ' df En' fun X2 c2 f2 L2 σ2 H2 Q2 En2 q2 => k X2 c2 f2 L2 σ2 H2 Q2 En2 fun b H3 s3 z => q2 b H3 s3 ?_
    obtain ⟨hb, z⟩ := z
    cases b with
    | true =>
      rw [if_pos rfl]
      refine fun X3 c3 f3 => (z rfl X3 c3 f3).mono fun y hyy => ⟨hyy.1, ?_⟩
      subst p
      rw [hyy.2, List.take_add_one, hd]
      simp [List.filter_append, ← hb]
    | false =>
      rw [if_neg Bool.false_ne_true]
      subst p
      rw [List.take_add_one, hd]
      simp [List.filter_append, ← hb]
  · subst p
    rw [List.take_length]
    exact hS
end
end
section
variable {P : Program} {w : World} {K : PySem.W.Frag} {mg : Str → Option Value} {base : Heap} {U : Pu}
/-- where a def stands -/
structure DefAt (K : PySem.W.Frag) (mg : Str → Option Value) (x : Str) (st : Stmt) (ps : List Str) : Prop where
  ex : ∃ (f : Addr) (fd : FuncData), Fun K x x st f fd ∧ mg x = some (.ref f) ∧ Binds K fd ps []
theorem fnO {x : Str} {st : Stmt} {N ps : List Str} {n k : Nat} {sp : DSpec} (A : DefAt K mg x st ps) (Sc : FnScope N ps (defScope st)) (hn : ps.length = n)
    (body : ∀ (X : Cx) (T : XD) (c : Ct X U k T), Fx X P w K mg base N (defScope st) .top → ∀ (ds : List D) (S : D → Prop), ds.length = n → sp ds S T → WSs c (defBody st) (startD N ds) { nx := fun _ => S .non, rt := S }) : Fn P w K mg base U (k + 1) x n sp := by
  obtain ⟨f, fd, F, hg, hb⟩ := A.ex
  exact fn_mk (N := N) F hg hb (fnD F Sc hn fun cdv A outer s H E T c ds S hl hs => body _ T c ⟨rfl, rfl, rfl, rfl, rfl, rfl, rfl, fun x => rfl⟩ ds S hl hs)
end
end Dl

set_option maxRecDepth 100000
set_option maxHeartbeats 4000000
/-! # Rules that a driver can apply -/
namespace Dl
open PySem PySem.Spec PyProof.Rows L2

/-! ### data without lists in them -/
mutual
def D.noL : D → Bool
  | .tup xs => noLs xs
  | .obj _ _ ds => noLs ds
  | .lst _ => false
  | .own _ => false
  | .pur => false
  | .dck _ _ => false
  | .dct _ ds => noLs ds
  | _ => true
def noLs : List D → Bool
  | [] => true
  | d :: ds => d.noL && noLs ds
end
theorem noLs_all : ∀ ds : List D, noLs ds = ds.all D.noL
  | [] => by simp [noLs]
  | d :: ds => by simp [noLs, noLs_all ds]
theorem noLs_map {α : Type} (e : α → D) (h : ∀ a, (e a).noL = true) (xs : List α) : noLs (xs.map e) = true := by
  rw [noLs_all, List.all_map, List.all_eq_true]
  exact fun a _ => h a
/-- the hidden ones that are no lists -/
def isLstO : Option HO → Bool
  | some (.lst _) => true
  | some (.dK _) => true
  | _ => false
def noLst (H : Hp) (L : List Addr) : List Addr := L.filter fun l => !isLstO (H l)
theorem noLst_sub {H : Hp} {L : List Addr} : ∀ l ∈ noLst H L, l ∈ L := fun l hl => (List.mem_filter.mp hl).1
theorem noLst_nl {H : Hp} {L : List Addr} {l : Addr} {xs : List V} (h : H l = some (.lst xs)) : l ∉ noLst H L := fun z => by
  have := (List.mem_filter.mp z).2
  rw [h] at this
  cases this
theorem noLst_nd {H : Hp} {L : List Addr} {l : Addr} {xs} (h : H l = some (.dK xs)) : l ∉ noLst H L := fun z => by
  have := (List.mem_filter.mp z).2
  rw [h] at this
  cases this
theorem noLst_or {H : Hp} {L : List Addr} : ∀ l ∈ L, l ∈ noLst H L ∨ ∃ o, isLstO (some o) = true ∧ H l = some o := fun l hl => by
  cases e : isLstO (H l) with
  | false => exact .inl (List.mem_filter.mpr ⟨hl, by rw [e]; rfl⟩)
  | true =>
    right
    cases h : H l with
    | none => rw [h] at e; cases e
    | some o => rw [h] at e; exact ⟨o, e, rfl⟩
theorem lstO_nt {o : HO} (h : isLstO (some o) = true) : notT o = true := by cases o <;> first | rfl | cases h
theorem noLst_at {H H' : Hp} {L : List Addr} (e : SameK H H') : ∀ l ∈ L, l ∈ noLst H L ∨ ∃ o, isLstO (some o) = true ∧ H' l = some o := fun l hl => (noLst_or l hl).imp id fun ⟨o, f, h⟩ => ⟨o, f, e _ _ h (lstO_nt f)⟩
section
variable {K : PySem.W.Frag} {U : Pu} {H : Hp} {L L' : List Addr}
theorem sqt_hide (hl : ∀ l ∈ L, MutAt H l) {a : Addr} {vs : List V} (h : SqT K H a vs) : SqT K (hide L H) a vs := by
  rcases h with (h | ⟨o, h⟩) | h
  · exact .inl (.inl ((hide_ne fun z => (hl a z).tup h).trans h))
  · refine .inl (.inr ⟨o, (hide_ne fun z => ?_).trans h⟩)
    obtain ⟨xs, m, g⟩ := hl a z
    rw [h] at g
    cases g
    cases m
  · exact .inr h
theorem hide_nolst (hL : ∀ l ∈ L, l ∈ L' ∨ ∃ o, isLstO (some o) = true ∧ H l = some o) {a : Addr} {o : HO} (h : hide L' H a = some o) (n : isLstO (some o) = false) : hide L H a = some o := by
  obtain ⟨h1, h2⟩ := hide_at h
  refine (hide_ne fun z => ?_).trans h2
  rcases hL a z with g | ⟨o', f, g⟩
  · exact h1 g
  · rw [h2] at g
    rw [← g] at f
    exact absurd (n.symm.trans f) (by decide)
mutual
theorem Rep.noL (hl : ∀ l ∈ L, MutAt H l) (hL : ∀ l ∈ L, l ∈ L' ∨ ∃ o, isLstO (some o) = true ∧ H l = some o) : ∀ (d : D) (v : V), d.noL = true → Rep K U (hide L' H) d v → Rep K U (hide L H) d v
  | .non, v, _, h => h
  | .bl b, v, _, h => h
  | .int i, v, _, h => h
  | .str x, v, _, h => h
  | .tup xs, v, n, h => by
    obtain ⟨a, vs, h1, h2, h3, h4⟩ := h
    unfold D.noL at n
    exact ⟨a, vs, h1, sqt_hide hl (seqT_mono hide_ext.k h2), Reps.noL hl hL xs vs n h3, h4⟩
  | .lst xs, v, n, h => by
    unfold D.noL at n
    cases n
  | .own _, v, _, h => h
  | .obj C ns ds, v, n, h => by
    obtain ⟨a, dx, vs, h1, h2, h3, h4⟩ := h
    unfold D.noL at n
    exact ⟨a, dx, vs, h1, hide_nolst hL h2 rfl, hide_nolst hL h3 rfl, Reps.noL hl hL ds vs n h4⟩
  | .pur, v, n, h => by
    unfold D.noL at n
    cases n
  | .dck _ ds, v, n, h => by
    unfold D.noL at n
    cases n
  | .odk _ _, v, n, h => h
  | .dct _ ds, v, n, h => by
    obtain ⟨a, vs, h1, h2, h3, h4⟩ := h
    unfold D.noL at n
    exact ⟨a, vs, h1, hide_nolst hL h2 rfl, Reps.noL hl hL ds vs n h3, h4⟩
  | .any w, v, _, h => h
theorem Reps.noL (hl : ∀ l ∈ L, MutAt H l) (hL : ∀ l ∈ L, l ∈ L' ∨ ∃ o, isLstO (some o) = true ∧ H l = some o) : ∀ (ds : List D) (vs : List V), noLs ds = true → Reps K U (hide L' H) ds vs → Reps K U (hide L H) ds vs
  | [], vs, _, h => h
  | d :: ds, vs, n, h => by
    obtain ⟨v, r, h1, h2, h3⟩ := h
    unfold noLs at n
    simp only [Bool.and_eq_true] at n
    exact ⟨v, r, h1, Rep.noL hl hL d v n.1 h2, Reps.noL hl hL ds r n.2 h3⟩
end
/-- own lists are handed on to be read: they are hidden no more -/
theorem RepOs.frzs {Lb : List Addr} : ∀ {ds : List D} {vs : List V}, RepOs K U Lb L H ds vs → Reps K U (hide (noLst H L) H) (ds.map D.frz) vs
  | [], vs, h => h
  | d :: ds, vs, ⟨v, r, h1, h2, h3⟩ => by
    refine ⟨v, r, h1, ?_, RepOs.frzs h3⟩
    cases d with
    | own xs =>
      obtain ⟨a, us, g1, g2, g3, g4⟩ := h2.ownl
      exact ⟨a, us, g1, (hide_ne (noLst_nl g2)).trans g2, Reps.mono (hide_le noLst_sub) _ _ g3, g4⟩
    | odk ks xs =>
      obtain ⟨a, us, g1, _, _, g2, g3, g4⟩ := h2
      exact ⟨a, us, g1, (hide_ne (noLst_nd g2)).trans g2, Reps.mono (hide_le noLst_sub) _ _ g3, g4⟩
    | non => exact h2
    | bl b => exact h2
    | int i => exact h2
    | str x => exact h2
    | any x => exact h2
    | _ => exact Rep.mono (hide_le noLst_sub) _ _ h2
end
/-- exceptions that keep nothing that may change -/
def noLX (T : XD) : XD := fun cls fl => (∀ ns ds, fl = some (ns, ds) → noLs ds = true) ∧ T cls fl
section
variable {X : Cx} {U : Pu} {lv : Nat} {T : XD} {c : Ct X U lv T} {δ : List (Option D)} {S : D → Prop} {e : Expr} {es : List Expr} {pos : Pos}
/-- a call that reads lists of this frame: what it returns has no list in it -/
theorem WE_callO {x : Str} {n k : Nat} {sp : DSpec} {p : Pos} (F : Fn X.prog X.w X.K X.mg X.base U k x n sp) (h : WA c (e :: es) δ fun ds => ds.length = n ∧ sp (ds.map D.frz) (fun d => d.noL = true ∧ S d) (noLX T)) (hk : k ≤ lv) (hg : Gl X x) (hd : (x == ("__debug__" : Str)) = false)
    (he : starEach (e :: es) X.env = (false, eval e X.env) :: starEach es X.env) (hpl : (backTo pos (starEach es X.env)).any (·.1) = false) : WE c (.Call (.Name x p) (e :: es) [] pos) δ S := fun L σ H Q N q => by
  obtain ⟨f, fd, ps, h1, h2, h3, h4⟩ := F.ex
  refine runE_of (pe_callS h4 (c.room.mono hk) hg h1 h2 h3 (fun σ => passAt c.tk σ) pa_run hd he hpl) (h L σ H _ N fun vs H1 ds s1 r1 ⟨hn, hsp⟩ => ?_)
  have ok1 := N.ok.mono s1
  refine ⟨noLst H1 L, ds.map D.frz, fun d => d.noL = true ∧ S d, noLX T, ⟨by rw [List.length_map]; exact hn, (N.ok.base.trans s1).g c.g⟩, fun l hl => ok1.lsts l (noLst_sub l hl), r1.frzs, hsp, fun v H' d s r k => ?_, fun cls od fl H' s r t => ?_⟩
  · exact q v H' d (s1.trans s) (.of_rep (Rep.noL (ok1.mono s).lsts (noLst_at s.k) d v k.1 r)) k.2
  · refine ⟨(N.ok.base.trans s1).trans s, fl, ?_, t.2⟩
    have ok2 := ok1.mono s
    cases od with
    | none => cases fl with
      | none => exact r
      | some _ => exact r
    | some d => cases fl with
      | none => exact r
      | some z =>
        obtain ⟨ns, ds'⟩ := z
        obtain ⟨vs', g1, g2⟩ := r
        have hlb : ∀ l ∈ c.Lb, MutAt H' l := fun l hl => ok2.lsts l (ok2.lb l hl)
        have g1' := (hide_at g1).2
        refine ⟨vs', (hide_ne fun z => ?_).trans g1', Reps.noL hlb (fun l hl => noLst_at s.k l (N.ok.lb l hl)) _ _ (t.1 _ _ rfl) g2⟩
        obtain ⟨xs, m, g⟩ := hlb _ z
        rw [g1'] at g
        cases g
        cases m
/-! ### targets -/
theorem AG.up {tg : Expr} {d : D} {ts ts' : List Nat} {Q : List (Option D) → Prop} (h : AG c tg δ d ts Q) (k : ∀ i ∈ ts, i ∈ ts') : AG c tg δ d ts' Q := fun L σ H v Q' E r q => h L σ H v Q' E r fun σ' δ' df => q σ' δ' (df.mono k)
theorem AGs.up {tg : List Expr} {d : List D} {ts ts' : List Nat} {Q : List (Option D) → Prop} (h : AGs c tg δ d ts Q) (k : ∀ i ∈ ts, i ∈ ts') : AGs c tg δ d ts' Q := fun L σ H v Q' E r q => h L σ H v Q' E r fun σ' δ' df => q σ' δ' (df.mono k)
theorem AGs_n {ts : List Nat} {Q : List (Option D) → Prop} (h : Q δ) : AGs c [] δ [] ts Q := (AGs_nil h).up fun i hi => by simp at hi
theorem AGs_c {tg : Expr} {tgs : List Expr} {d : D} {ds : List D} {ts : List Nat} {Q : List (Option D) → Prop} (h : AG c tg δ d ts fun δ1 => AGs c tgs δ1 ds ts Q) (hs : (assignEach (tg :: tgs) X.env).map (·.2) = assign tg X.env :: (assignEach tgs X.env).map (·.2) := by rfl) : AGs c (tg :: tgs) δ (d :: ds) ts Q :=
  (AGs_cons h hs).up fun i hi => (List.mem_append.mp hi).elim id id
theorem tT {es : List Expr} {k : Nat} {ds : List D} {ts : List Nat} {Q : List (Option D) → Prop} (h : AGs c es δ ds ts Q) (hn : (assignEach es X.env).length = ds.length) (hst : (assignEach es X.env).findIdx? (·.1) = none := by rfl) : AG c (.Tuple es k pos) δ (.tup ds) ts Q :=
  AG_tup rfl h hn hst
end
/-- the slots of a comprehension's own names -/
inductive Own (N : List Str) : List (Str × NameKind) → List (Str × Nat) → Prop
  | nil : Own N [] []
  | loc {x : Str} {i : Nat} {r : List (Str × NameKind)} {o : List (Str × Nat)} : Nth N i x → Own N r o → Own N ((x, .local) :: r) ((x, i) :: o)
  | cel {x : Str} {i : Nat} {r : List (Str × NameKind)} {o : List (Str × Nat)} : Nth N i x → Own N r o → Own N ((x, .cell) :: r) ((x, i) :: o)
  | skp {x : Str} {k : NameKind} {r : List (Str × NameKind)} {o : List (Str × Nat)} : Own N r o → Own N ((x, k) :: r) o
/-- a name is none of a module's -/
def bltN : List Str := ["len", "range", "zip", "enumerate", "sum", "abs", "max", "min", "all", "any", "sorted", "isinstance", "int", "bool", "str", "tuple", "list", "dict", "set", "ValueError", "Exception"]
def Blt (mg : Str → Option Value) : Prop := ∀ x ∈ bltN, mg x = none
theorem Blt.at {mg : Str → Option Value} (h : Blt mg) {x : Str} (k : decide (x ∈ bltN) = true) : mg x = none := h x (of_decide_eq_true k)
section
variable {X : Cx} {P : Program} {w : World} {K : PySem.W.Frag} {mg : Str → Option Value} {base : Heap} {N : List Str} {sc : Scope} {z : Zk} {U : Pu} {lv : Nat} {T : XD} {c : Ct X U lv T} {δ : List (Option D)} {S : D → Prop} {E : SE} {e a b : Expr} {pos p : Pos} {es : List Expr} {x : Str} {i : Nat}
theorem eCO {n k : Nat} {sp : DSpec} (f : Fx X P w K mg base N sc z) (F : Fn P w K mg base U k x n sp) (hk : k ≤ lv) (hg : glbB sc x = true) (h : WA c (e :: es) δ fun ds => ds.length = n ∧ sp (ds.map D.frz) (fun d => d.noL = true ∧ S d) (noLX T))
    (he : starEach (e :: es) X.env = (false, eval e X.env) :: starEach es X.env := by rfl) (hpl : (backTo pos (starEach es X.env)).any (·.1) = false := by rfl) : WE c (.Call (.Name x p) (e :: es) [] pos) δ S :=
  WE_callO (by rw [f.p, f.w, f.k, f.m, f.b]; exact F) h hk (f.gl hg) (glbB_ok hg).2.1 he hpl
theorem tN2 {d : D} {ts : List Nat} {Q : List (Option D) → Prop} (f : Fx X P w K mg base N sc z) (hn : Nth N i x) (hl : tgB z sc x = true) (hm : decide (i ∈ ts) = true) (h : Q (δ.set i (some d))) : AG c (.Name x pos) δ d ts Q :=
  (tN f hn hl h).up fun j hj => by
    rw [List.mem_singleton.mp hj]
    exact of_decide_eq_true hm
theorem eLc2 {tg iter elt : Expr} {ifs : List Expr} {scope : Scope} {own : List (Str × Nat)} (f : Fx X P w K mg base N sc z) (_ : Own N scope.names own) (ok : blkC N sc scope own = true) (hi : WJ c tg iter δ (Turns P w K mg base N U lv tg ifs elt scope sc (wipeD δ (own.map (·.2))) (own.map (·.2)) fun ys => S (.lst ys)))
    (hs : ∀ x, foldedSetIterable iter X.env x = pure x := by intro _; rfl) : WE c (.ListComp elt [⟨tg, iter, ifs, 0⟩] scope pos) δ S :=
  eLc own (own.map (·.2)) f ok (fun _ h => h) hi hs
theorem fLc2 {tg iter elt : Expr} {ifs : List Expr} {scope : Scope} {own : List (Str × Nat)} {S : List D → Prop} (f : Fx X P w K mg base N sc z) (_ : Own N scope.names own) (ok : blkC N sc scope own = true) (hi : WJ c tg iter δ (Turns P w K mg base N U lv tg ifs elt scope sc (wipeD δ (own.map (·.2))) (own.map (·.2)) S))
    (hs : ∀ x, foldedSetIterable iter X.env x = pure x := by intro _; rfl) : WF c (.ListComp elt [⟨tg, iter, ifs, 0⟩] scope pos) δ S :=
  fLc own (own.map (·.2)) f ok (fun _ h => h) hi hs
theorem sLc2 {tg iter elt : Expr} {ifs : List Expr} {scope : Scope} {own : List (Str × Nat)} {py : Pos} (f : Fx X P w K mg base N sc z) (hn : Nth N i x) (_ : Own N scope.names own) (ok : blkC N sc scope own = true)
    (hy : sc.names.lookup x = some .local) (hk : sc.kind = .function) (hl : (py.line == p.line) = true) (ha : (scope.names.any fun (n, k) => n == x && (k == .local || k == .cell)) = false)
    (hi : WJ c tg iter δ (Turns P w K mg base N U lv tg ifs elt scope sc (wipeD δ (own.map (·.2))) (own.map (·.2)) fun ds => E.nx (δ.set i (some (.lst ds))))) (hs : ∀ x, foldedSetIterable iter X.env x = pure x := by intro _; rfl) : WS c (.Assign [.Name x py] (.ListComp elt [⟨tg, iter, ifs, 0⟩] scope p) pos) δ E :=
  sLc own (own.map (·.2)) f hn (.inr fun _ h => h) ok (fun _ h => h) hy hk hl ha hi hs
theorem sLcO {tg iter elt : Expr} {ifs : List Expr} {scope : Scope} {own : List (Str × Nat)} {py : Pos} (f : Fx X P w K mg base N sc z) (hn : Nth N i x) (_ : Own N scope.names own) (ok : blkC N sc scope own = true)
    (hy : sc.names.lookup x = some .local) (hk : sc.kind = .function) (hl : (py.line == p.line) = true) (ha : (scope.names.any fun (n, k) => n == x && (k == .local || k == .cell)) = false)
    (hi : WJ c tg iter δ (Turns P w K mg base N U lv tg ifs elt scope sc (wipeD δ (own.map (·.2))) (own.map (·.2)) fun ds => E.nx (δ.set i (some (.own ds))))) (hs : ∀ x, foldedSetIterable iter X.env x = pure x := by intro _; rfl) : WS c (.Assign [.Name x py] (.ListComp elt [⟨tg, iter, ifs, 0⟩] scope p) pos) δ E :=
  sLc own (own.map (·.2)) f hn (.inl fun _ h => h) ok (fun _ h => h) hy hk hl ha hi hs
/-- classes of which an instance's attributes are read -/
structure OkC (K : PySem.W.Frag) (C : Addr) (ns : List Str) : Prop where
  cls : Cls K C
  ob : ObT K C
  na : ∀ g ∈ ns, NoAttr K C g
theorem eF2 {g : Str} (f : Fx X P w K mg base N sc z) (h : WE c e δ fun x => ∃ C ns ds d, x = .obj C ns ds ∧ OkC K C ns ∧ decide (g ∈ ns) = true ∧ (ns.zip ds).lookup g = some d ∧ S d) (hb : attributeBase e g X.env (eval e X.env) = eval e X.env := by rfl) : WE c (.Attribute e g pos) δ S :=
  eF f (h.mono fun x ⟨C, ns, ds, d, h1, h2, h3, h4, h5⟩ => ⟨C, ns, ds, d, h1, h2.cls, h2.na g (of_decide_eq_true h3), h4, h5⟩) hb
/-! ### turns told by what they give -/
section
variable {α : Type} {tg elt : Expr} {ifs : List Expr} {scope : Scope} {ts : List Nat} {S : List D → Prop} {ds : List D}
theorem tMap (enc : α → D) (xs : List α) (g : α → D) (hds : ds = xs.map enc) (h : ∀ x, x ∈ xs → BlkO P w K mg base N U lv scope sc fun c1 => AG c1 tg δ (enc x) ts fun δ2 => BlkO P w K mg base N U lv scope sc fun c3 => WE c3 elt δ2 fun y => y.still = true ∧ y = g x) (hS : S (xs.map g)) :
    Turns P w K mg base N U lv tg [] elt scope sc δ ts S ds := by
  refine ⟨fun i ys => ys = (xs.take i).map g, rfl, fun i d ys hd hy p => ?_, fun ys _ p => ?_⟩
  · have hx : ∃ x, xs[i]? = some x ∧ d = enc x := by
      rw [hds, List.getElem?_map] at hd
      cases q : xs[i]? with
      | none => rw [q] at hd; cases hd
      | some x => rw [q] at hd; cases hd; exact ⟨x, rfl, rfl⟩
    obtain ⟨x, hx, rfl⟩ := hx
    intro X1 c1 f1 L σ H v Q En r q
    refine h x (List.mem_of_getElem? hx) X1 c1 f1 L σ H v Q En r fun σ' δ' df En' k => q σ' δ' df En' fun X2 c2 f2 => WTs_nil ?_
    rw [if_pos rfl]
    refine fun X3 c3 f3 => (k X3 c3 f3).mono fun y hyy => ⟨hyy.1, ?_⟩
    subst p
    rw [hyy.2, List.take_add_one, hx]
    simp
  · subst p
    rw [hds, List.length_map, List.take_length]
    exact hS
theorem tIf {t : Expr} (enc : α → D) (xs : List α) (t2 : α → Bool) (g : α → D) (hds : ds = xs.map enc) (h : ∀ x, x ∈ xs → BlkO P w K mg base N U lv scope sc fun c1 => AG c1 tg δ (enc x) ts fun δ2 => BlkO P w K mg base N U lv scope sc fun c2 => WT c2 t δ2 fun b => b = t2 x ∧ (b = true → BlkO P w K mg base N U lv scope sc fun c3 => WE c3 elt δ2 fun y => y.still = true ∧ y = g x)) (hS : S ((xs.filter t2).map g)) :
    Turns P w K mg base N U lv tg [t] elt scope sc δ ts S ds := by
  refine ⟨fun i ys => ys = ((xs.take i).filter t2).map g, rfl, fun i d ys hd hy p => ?_, fun ys _ p => ?_⟩
  · have hx : ∃ x, xs[i]? = some x ∧ d = enc x := by
      rw [hds, List.getElem?_map] at hd
      cases q : xs[i]? with
      | none => rw [q] at hd; cases hd
      | some x => rw [q] at hd; cases hd; exact ⟨x, rfl, rfl⟩
    obtain ⟨x, hx, rfl⟩ := hx
    intro X1 c1 f1 L σ H v Q En r q
    refine h x (List.mem_of_getElem? hx) X1 c1 f1 L σ H v Q En r fun σ' δ' df En' k => q σ' δ' df En' fun X2 c2 f2 => WTs_one ((k X2 c2 f2).mono fun b z => ?_)
    obtain ⟨hb, z⟩ := z
    subst p
    cases b with
    | true =>
      rw [if_pos rfl]
      refine fun X3 c3 f3 => (z rfl X3 c3 f3).mono fun y hyy => ⟨hyy.1, ?_⟩
      show _ = ((xs.take (i + 1)).filter t2).map g
      rw [hyy.2, List.take_add_one, hx]
      simp [List.filter_append, ← hb]
    | false =>
      rw [if_neg Bool.false_ne_true]
      show _ = ((xs.take (i + 1)).filter t2).map g
      rw [List.take_add_one, hx]
      simp [List.filter_append, ← hb]
  · subst p
    rw [hds, List.length_map, List.take_length]
    exact hS
/-- each turn gives one of some items -/
theorem tSome (enc : α → D) (xs : List α) (R : α → D → Prop) (hds : ds = xs.map enc) (h : ∀ x, x ∈ xs → BlkO P w K mg base N U lv scope sc fun c1 => AG c1 tg δ (enc x) ts fun δ2 => BlkO P w K mg base N U lv scope sc fun c3 => WE c3 elt δ2 fun y => y.still = true ∧ R x y) (hS : ∀ ys, ys.length = xs.length → (∀ (i : Nat) x y, xs[i]? = some x → ys[i]? = some y → R x y) → S ys) :
    Turns P w K mg base N U lv tg [] elt scope sc δ ts S ds := by
  refine ⟨fun i ys => ys.length = i ∧ ∀ (j : Nat) x y, xs[j]? = some x → ys[j]? = some y → R x y, ⟨rfl, fun j x y _ e => by simp at e⟩, fun i d ys hd hy p => ?_, fun ys _ p => hS ys (by rw [p.1, hds, List.length_map]) p.2⟩
  have hx : ∃ x, xs[i]? = some x ∧ d = enc x := by
    rw [hds, List.getElem?_map] at hd
    cases q : xs[i]? with
    | none => rw [q] at hd; cases hd
    | some x => rw [q] at hd; cases hd; exact ⟨x, rfl, rfl⟩
  obtain ⟨x, hx, rfl⟩ := hx
  intro X1 c1 f1 L σ H v Q En r q
  refine h x (List.mem_of_getElem? hx) X1 c1 f1 L σ H v Q En r fun σ' δ' df En' k => q σ' δ' df En' fun X2 c2 f2 => WTs_nil ?_
  rw [if_pos rfl]
  refine fun X3 c3 f3 => (k X3 c3 f3).mono fun y hyy => ⟨hyy.1, by simp [p.1], fun j x' y' e' e => ?_⟩
  by_cases hj : j < ys.length
  · rw [List.getElem?_append_left hj] at e
    exact p.2 j x' y' e' e
  · rw [List.getElem?_append_right (by omega)] at e
    by_cases h0 : j - ys.length = 0
    · rw [h0] at e
      simp at e
      have : j = i := by omega
      subst this
      rw [hx] at e'
      cases e'
      subst e
      exact hyy.2
    · rw [List.getElem?_eq_none (by simp; omega)] at e
      cases e
end
theorem WT.mono2 : True := trivial
/-! ### loops -/
theorem sFor {α : Type} {tg iter : Expr} {body : List Stmt} (enc : α → D) (xs : List α) (I : Nat → List (Option D) → Prop)
    (h : WI c tg iter δ fun ds => ds = xs.map enc ∧ I 0 δ ∧ (∀ (i : Nat) (x : α) (δ' : List (Option D)), xs[i]? = some x → I i δ' → ∀ (B : Hp) (hs : Same U c.Hb B), AG (c.at_ B hs) tg δ' (enc x) (List.range N.length) fun δ2 => WSs (c.at_ B hs) body δ2 { E with nx := I (i + 1), ct := I (i + 1), bk := E.nx }) ∧ ∀ δ', I xs.length δ' → E.nx δ')
    (hs : ∀ x, foldedSetIterable iter X.env x = pure x := by intro _; rfl) : WS c (.For tg iter body [] pos) δ E := by
  refine WS_for (List.range N.length) (fun L σ H R En q => h L σ H R En fun J H' ds s w z => q J H' ds s w ?_) hs
  obtain ⟨rfl, h0, hst, hf⟩ := z
  refine ⟨I, h0, fun i d δ' hd _ hi B hB => ?_, fun δ' k => hf δ' (by rw [List.length_map] at k; exact k)⟩
  rw [List.getElem?_map] at hd
  cases q : xs[i]? with
  | none => rw [q] at hd; cases hd
  | some x => rw [q] at hd; cases hd; exact hst i x δ' q hi B hB
/-! ### branches -/
theorem ite_b {b : Bool} {A B : Prop} (h1 : b = true → A) (h2 : b = false → B) : if b = true then A else B := by
  cases b with
  | true => rw [if_pos rfl]; exact h1 rfl
  | false => rw [if_neg Bool.false_ne_true]; exact h2 rfl
theorem ite_t {A B : Prop} (h : A) : if true = true then A else B := by rw [if_pos rfl]; exact h
theorem ite_f {A B : Prop} (h : B) : if false = true then A else B := by rw [if_neg Bool.false_ne_true]; exact h
theorem ite_p {p : Prop} [Decidable p] {A B : Prop} (h1 : p → A) (h2 : ¬p → B) : if decide p = true then A else B :=
  ite_b (fun h => h1 (of_decide_eq_true h)) (fun h => h2 (of_decide_eq_false h))
theorem ite_n {p : Prop} [Decidable p] {A B : Prop} (h1 : ¬p → A) (h2 : p → B) : if (!decide p) = true then A else B :=
  ite_b (fun h => h1 (by simpa using h)) (fun h => h2 (by simpa using h))
end
def D.kn (d : D) : Bool := d.ty.isSome
def D.isInt : D → Bool
  | .int _ => true
  | .bl _ => true
  | _ => false
def D.isBool : D → Bool
  | .bl _ => true
  | _ => false
def D.isStr : D → Bool
  | .str _ => true
  | _ => false
def D.isTup : D → Bool
  | .tup _ => true
  | _ => false
def D.isLst : D → Bool
  | .lst _ => true
  | .own _ => true
  | _ => false
/-- is_integer: an int that is no flag -/
def D.isN : D → Bool
  | .int _ => true
  | _ => false
section
variable {X : Cx} {U : Pu} {lv : Nat} {T : XD} {c : Ct X U lv T} {S : D → Prop} {x : D}
theorem CD_isInt (e : x.kn = true) (h : S (.bl x.isInt)) : CD c (.builtin "isinstance") [x, .any (.ty "int")] S := by
  cases x with
  | obj C ns ds => cases e
  | pur => cases e
  | any v => cases e
  | bl b => exact CD_isi rfl (by decide +kernel : kitB "bool" "int" = some true) h
  | int b => exact CD_isi rfl (by decide +kernel : kitB "int" "int" = some true) h
  | non => exact CD_isi rfl (by decide +kernel : kitB "NoneType" "int" = some false) h
  | str b => exact CD_isi rfl (by decide +kernel : kitB "str" "int" = some false) h
  | tup b => exact CD_isi rfl (by decide +kernel : kitB "tuple" "int" = some false) h
  | lst b => exact CD_isi rfl (by decide +kernel : kitB "list" "int" = some false) h
  | own b => exact CD_isi rfl (by decide +kernel : kitB "list" "int" = some false) h
  | dck a b => exact CD_isi rfl (by decide +kernel : kitB "dict" "int" = some false) h
  | dct a b => exact CD_isi rfl (by decide +kernel : kitB "dict" "int" = some false) h
  | odk a b => exact CD_isi rfl (by decide +kernel : kitB "dict" "int" = some false) h
theorem CD_isBool (e : x.kn = true) (h : S (.bl x.isBool)) : CD c (.builtin "isinstance") [x, .any (.ty "bool")] S := by
  cases x with
  | obj C ns ds => cases e
  | pur => cases e
  | any v => cases e
  | bl b => exact CD_isi rfl (by decide +kernel : kitB "bool" "bool" = some true) h
  | int b => exact CD_isi rfl (by decide +kernel : kitB "int" "bool" = some false) h
  | non => exact CD_isi rfl (by decide +kernel : kitB "NoneType" "bool" = some false) h
  | str b => exact CD_isi rfl (by decide +kernel : kitB "str" "bool" = some false) h
  | tup b => exact CD_isi rfl (by decide +kernel : kitB "tuple" "bool" = some false) h
  | lst b => exact CD_isi rfl (by decide +kernel : kitB "list" "bool" = some false) h
  | own b => exact CD_isi rfl (by decide +kernel : kitB "list" "bool" = some false) h
  | dck a b => exact CD_isi rfl (by decide +kernel : kitB "dict" "bool" = some false) h
  | dct a b => exact CD_isi rfl (by decide +kernel : kitB "dict" "bool" = some false) h
  | odk a b => exact CD_isi rfl (by decide +kernel : kitB "dict" "bool" = some false) h
theorem CD_isTup (e : x.kn = true) (h : S (.bl x.isTup)) : CD c (.builtin "isinstance") [x, .any (.ty "tuple")] S := by
  cases x with
  | obj C ns ds => cases e
  | pur => cases e
  | any v => cases e
  | bl b => exact CD_isi rfl (by decide +kernel : kitB "bool" "tuple" = some false) h
  | int b => exact CD_isi rfl (by decide +kernel : kitB "int" "tuple" = some false) h
  | non => exact CD_isi rfl (by decide +kernel : kitB "NoneType" "tuple" = some false) h
  | str b => exact CD_isi rfl (by decide +kernel : kitB "str" "tuple" = some false) h
  | tup b => exact CD_isi rfl (by decide +kernel : kitB "tuple" "tuple" = some true) h
  | lst b => exact CD_isi rfl (by decide +kernel : kitB "list" "tuple" = some false) h
  | own b => exact CD_isi rfl (by decide +kernel : kitB "list" "tuple" = some false) h
  | dck a b => exact CD_isi rfl (by decide +kernel : kitB "dict" "tuple" = some false) h
  | dct a b => exact CD_isi rfl (by decide +kernel : kitB "dict" "tuple" = some false) h
  | odk a b => exact CD_isi rfl (by decide +kernel : kitB "dict" "tuple" = some false) h
theorem CD_isLst (e : x.kn = true) (h : S (.bl x.isLst)) : CD c (.builtin "isinstance") [x, .any (.ty "list")] S := by
  cases x with
  | obj C ns ds => cases e
  | pur => cases e
  | any v => cases e
  | bl b => exact CD_isi rfl (by decide +kernel : kitB "bool" "list" = some false) h
  | int b => exact CD_isi rfl (by decide +kernel : kitB "int" "list" = some false) h
  | non => exact CD_isi rfl (by decide +kernel : kitB "NoneType" "list" = some false) h
  | str b => exact CD_isi rfl (by decide +kernel : kitB "str" "list" = some false) h
  | tup b => exact CD_isi rfl (by decide +kernel : kitB "tuple" "list" = some false) h
  | lst b => exact CD_isi rfl (by decide +kernel : kitB "list" "list" = some true) h
  | own b => exact CD_isi rfl (by decide +kernel : kitB "list" "list" = some true) h
  | dck a b => exact CD_isi rfl (by decide +kernel : kitB "dict" "list" = some false) h
  | dct a b => exact CD_isi rfl (by decide +kernel : kitB "dict" "list" = some false) h
  | odk a b => exact CD_isi rfl (by decide +kernel : kitB "dict" "list" = some false) h
theorem CD_isStr (e : x.kn = true) (h : S (.bl x.isStr)) : CD c (.builtin "isinstance") [x, .any (.ty "str")] S := by
  cases x with
  | obj C ns ds => cases e
  | pur => cases e
  | any v => cases e
  | bl b => exact CD_isi rfl (by decide +kernel : kitB "bool" "str" = some false) h
  | int b => exact CD_isi rfl (by decide +kernel : kitB "int" "str" = some false) h
  | non => exact CD_isi rfl (by decide +kernel : kitB "NoneType" "str" = some false) h
  | str b => exact CD_isi rfl (by decide +kernel : kitB "str" "str" = some true) h
  | tup b => exact CD_isi rfl (by decide +kernel : kitB "tuple" "str" = some false) h
  | lst b => exact CD_isi rfl (by decide +kernel : kitB "list" "str" = some false) h
  | own b => exact CD_isi rfl (by decide +kernel : kitB "list" "str" = some false) h
  | dck a b => exact CD_isi rfl (by decide +kernel : kitB "dict" "str" = some false) h
  | dct a b => exact CD_isi rfl (by decide +kernel : kitB "dict" "str" = some false) h
  | odk a b => exact CD_isi rfl (by decide +kernel : kitB "dict" "str" = some false) h
end
/-- slots at a return -/
inductive Frz : List (Option D) → List (Option D) → Prop
  | nil : Frz [] []
  | no {r r' : List (Option D)} : Frz r r' → Frz (none :: r) (none :: r')
  | own {xs : List D} {r r' : List (Option D)} : Frz r r' → Frz (some (.own xs) :: r) (some (.lst xs) :: r')
  | odk {ks : List Key} {xs : List D} {r r' : List (Option D)} : Frz r r' → Frz (some (.odk ks xs) :: r) (some (.dck ks xs) :: r')
  | st {d : D} {r r' : List (Option D)} : d.still = true → Frz r r' → Frz (some d :: r) (some d :: r')
  | any {a : Option D} {r r' : List (Option D)} : Frz r r' → Frz (a :: r) (a.map D.frz :: r')
theorem frz_still {d : D} (h : d.still = true) : d.frz = d := by
  cases d with
  | own xs => cases h
  | odk _ _ => cases h
  | _ => rfl
theorem Frz.eq {δ δ' : List (Option D)} (h : Frz δ δ') : δ.map (Option.map D.frz) = δ' := by
  induction h with
  | nil => rfl
  | no _ ih => rw [List.map_cons, ih]; rfl
  | own _ ih => rw [List.map_cons, ih]; rfl
  | odk _ ih => rw [List.map_cons, ih]; rfl
  | st s _ ih => rw [List.map_cons, ih, Option.map_some, frz_still s]
  | any _ ih => rw [List.map_cons, ih]
theorem WS_retF {X : Cx} {U : Pu} {lv : Nat} {T : XD} {c : Ct X U lv T} {δ δ' : List (Option D)} {E : SE} {e : Expr} {pos : Pos} (z : Frz δ δ') (h : WE c e δ' E.rt) : WS c (.Return (some e) pos) δ E := WS_ret (by rw [z.eq]; exact h)
theorem WSs_frzF {X : Cx} {U : Pu} {lv : Nat} {T : XD} {c : Ct X U lv T} {δ δ' : List (Option D)} {E : SE} {rest : List Stmt} (z : Frz δ δ') (h : WSs c rest δ' E) : WSs c rest δ E := WSs_frz (by rw [z.eq]; exact h)
/-! ### data of numbers -/
theorem map_int {α : Type} (f : α → Int) (l : List α) : l.map (fun x => D.int (f x)) = (l.map f).map D.int := by rw [List.map_map]; rfl
theorem map_bl {α : Type} (f : α → Bool) (l : List α) : l.map (fun x => D.bl (f x)) = (l.map f).map D.bl := by rw [List.map_map]; rfl
theorem map_tup {α : Type} (f : α → List D) (l : List α) : l.map (fun x => D.tup (f x)) = (l.map f).map D.tup := by rw [List.map_map]; rfl
theorem pairs_map {α β : Type} (f : α → D) (g : β → D) : ∀ (xs : List α) (ys : List β), pairs (xs.map f) (ys.map g) = (xs.zip ys).map fun p => D.tup [f p.1, g p.2]
  | [], ys => by simp [pairs]
  | x :: xs, [] => by simp [pairs]
  | x :: xs, y :: ys => by
    have := pairs_map f g xs ys
    unfold pairs at this ⊢
    simp [this]
theorem numbered_map {α : Type} (f : α → D) (xs : List α) : numbered (xs.map f) = xs.zipIdx.map fun p => D.tup [.int (p.2 : Nat), f p.1] := by
  unfold numbered
  rw [List.zipIdx_map, List.map_map]
  rfl
end Dl

set_option maxRecDepth 100000
set_option maxHeartbeats 4000000
/-! # Objects being made: __init__ and what it calls -/
namespace Dl
open PySem PySem.Spec PyProof.Rows L2
/-- where the object stands, what the callers hide -/
structure Spot where
  C : Addr
  x : Addr
  dx : Addr
  L0 : List Addr
  ne : dx ≠ x
  xL : x ∉ L0
  dL : dx ∉ L0
section
variable {X : Cx} {U : Pu} {lv : Nat} {T : XD}
/-- how the body is to end -/
def Fin (X : Cx) (U : Pu) (o : Spot) (Hx : Hp) (De : Ends) (S : D → Prop) : Prop := ∀ σ' H' d, Same U Hx H' → Rep X.K U (hide o.L0 H') d (.ref o.x) → S d → De.nx σ' H'
/-- while its attributes are set; ns, ds: those that it has -/
def WB (c : Ct X U lv T) (o : Spot) (sts : List Stmt) (δ : List (Option D)) (ns : List Str) (ds : List D) (S : D → Prop) : Prop := ∀ (L : List Addr) (σ : L2.St) (H : Hp) (De : Ends) (vs : List V), En c L H σ δ → o.x ∈ L →
  H o.x = some (.ins o.C o.dx (ns.zip vs)) → H o.dx = some (.own o.x) → Reps X.K U (hide L H) ds vs → ns.length = ds.length → Fin X U o c.Hb De S → runSs X sts De σ H
/-- ahead of that -/
def WBs (c c2 : Ct X U lv T) (o : Spot) (sts : List Stmt) (δ : List (Option D)) (S : D → Prop) : Prop := ∀ (L : List Addr) (σ : L2.St) (H : Hp) (De : Ends), En c L H σ δ → Fin X U o c2.Hb De S → runSs X sts De σ H
variable {c c2 : Ct X U lv T} {o : Spot} {st : Stmt} {rest : List Stmt} {δ : List (Option D)} {S : D → Prop} {pos : Pos}
theorem WBs_cons (h : WS c st δ { nx := fun δ' => WBs c c2 o rest δ' S, rt := fun _ => False, bk := fun _ => False, ct := fun _ => False }) : WBs c c2 o (st :: rest) δ S := fun L σ H De N F =>
  runSs_of (pss_cons ps_run pss_run) (h L σ H _ N ⟨fun L' σ' H' δ' N' k => k L' σ' H' De N' F, fun v H' d s r k => k.elim, fun L' σ' H' δ' N' k => k.elim, fun L' σ' H' δ' N' k => k.elim⟩)
/-- what is known of the spot in the two contexts -/
structure Spo (c c2 : Ct X U lv T) (o : Spot) : Prop where
  at_ : c.Hb o.x = some (.ins o.C o.dx [])
  own : c.Hb o.dx = some (.own o.x)
  lb : c.Lb = o.x :: o.dx :: o.L0
  hb2 : c2.Hb = hide [o.x] c.Hb
  lb2 : c2.Lb = o.dx :: o.L0
theorem Spo.no (p : Spo c c2 o) : NoA c2.Hb o.x := by
  refine .of ?_
  rw [p.hb2]
  simp [hide]
theorem Spo.dx2 (p : Spo c c2 o) : c2.Hb o.dx = some (.own o.x) := by
  rw [p.hb2, hide_ne (by simpa using o.ne)]
  exact p.own
theorem En.poke (p : Spo c c2 o) {L : List Addr} {H : Hp} {σ : L2.St} (N : En c L H σ δ) : En c2 L H σ δ := by
  have sub : ∀ l ∈ c2.Lb, l ∈ c.Lb := fun l h => by
    rw [p.lb2] at h
    rw [p.lb]
    exact List.mem_cons_of_mem _ h
  refine ⟨⟨?_, fun l h => N.ok.lb l (sub l h), fun l h => ?_, N.ok.lsts⟩, N.len, fun i d h => ?_, N.sep⟩
  · rw [p.hb2]
    exact hide_ext.s.trans N.ok.base
  · by_cases hx : l = o.x
    · right
      rw [hx]
      exact p.no
    · rcases N.ok.new l h with z | z
      · left
        rw [p.lb] at z
        rw [p.lb2]
        exact (List.mem_cons.mp z).elim (fun q => absurd q hx) id
      · right
        rw [p.hb2]
        exact fun ob e => z ob (hide_at e).2
  · obtain ⟨v, h1, h2⟩ := N.rep i d h
    refine ⟨v, h1, ?_⟩
    cases d with
    | own xs =>
      obtain ⟨l, vs, g1, g2, g3, g4⟩ := h2
      exact ⟨l, vs, g1, g2, fun z => g3 (sub l z), g4⟩
    | odk ks xs =>
      obtain ⟨l, vs, g1, g2, g3, g4⟩ := h2
      exact ⟨l, vs, g1, g2, fun z => g3 (sub l z), g4⟩
    | _ => exact h2
theorem WBs_go (p : Spo c c2 o) (h : WB c2 o rest δ [] [] S) : WBs c c2 o rest δ S := fun L σ H De N F => by
  have hx : o.x ∈ c.Lb := by rw [p.lb]; exact List.mem_cons_self
  exact h L σ H De [] (N.poke p) (N.ok.lb _ hx) (N.ok.base.at _ _ p.at_) (N.ok.base.at _ _ p.own) rfl rfl F
theorem WB_nil (p : Spo c c2 o) {ns : List Str} {ds : List D} (h : S (.obj o.C ns ds)) : WB c2 o [] δ ns ds S := fun L σ H De vs N hx e1 e2 r hn F => by
  refine runSs_of pss_nil (F σ H (.obj o.C ns ds) N.ok.base ⟨o.x, o.dx, vs, rfl, (hide_ne o.xL).trans e1, (hide_ne o.dL).trans e2, ?_⟩ h)
  refine Reps.mono (hide_le fun l hl => N.ok.lb l ?_) _ _ r
  rw [p.lb2]
  exact List.mem_cons_of_mem _ hl
theorem putF_new (f : Str) (v : V) : ∀ (ns : List Str) (vs : List V), f ∉ ns → ns.length = vs.length → putF f v (ns.zip vs) = (ns ++ [f]).zip (vs ++ [v])
  | [], [], _, _ => rfl
  | [], v :: vs, _, h => by simp at h
  | n :: ns, [], _, h => by simp at h
  | n :: ns, u :: vs, hf, h => by
    have h1 : n ≠ f := fun e => hf (by rw [e]; exact List.mem_cons_self)
    show (if n = f then _ else (n, u) :: putF f v (ns.zip vs)) = _
    rw [if_neg h1, putF_new f v ns vs (fun z => hf (List.mem_cons_of_mem _ z)) (by simpa using h)]
    rfl
/-- self.f = e -/
theorem WB_set {f : Str} {e oe : Expr} {p' : Pos} {ns : List Str} {ds : List D} (p : Spo c c2 o) (hc : Cls X.K o.C) (hf : NoAttr X.K o.C f) (hnew : f ∉ ns) (hlen : ns.length < 999) (ho : WE c2 oe δ fun d => d = .any (.ref o.x))
    (h : WE c2 e δ fun d => d.still = true ∧ WB c2 o rest δ (ns ++ [f]) (ds ++ [d]) S) (hs : swapsWith e (some (.Attribute oe f p')) pos.line X.env = pure false := by rfl) : WB c2 o (.Assign [.Attribute oe f p'] e pos :: rest) δ ns ds S := fun L σ H De vs N hx e1 e2 r hn F => by
  refine runSs_of (pss_cons (ps_fld pe_run pe_run hs) pss_run) (h L σ H _ N fun v H1 d s1 r1 ⟨hst, k⟩ => ho L σ H1 _ (N.mono s1) fun u H2 d2 s2 r2 z2 => ?_)
  subst z2
  have s12 := s1.trans s2
  obtain rfl : u = .ref o.x := r2
  have hlv : ns.length = vs.length := hn.trans r.len
  have e1' := s12.at _ _ e1
  refine ⟨o.x, o.C, o.dx, ns.zip vs, rfl, e1', hc, hf, by rw [List.length_zip]; omega, ?_⟩
  rw [putF_new f v ns vs hnew hlv]
  have hid : hide L (upd H2 o.x (.ins o.C o.dx ((ns ++ [f]).zip (vs ++ [v])))) = hide L H2 := hide_upd hx
  have N2 := N.mono s12
  refine k L σ _ De (vs ++ [v]) ⟨⟨?_, N2.ok.lb, N2.ok.new, fun l hl => ?_⟩, N2.len, fun i d' hd' => ?_, N2.sep⟩ hx upd_same (by rw [upd_ne o.ne]; exact s12.at _ _ e2) ?_ (by simp [hn]) F
  · exact N2.ok.base.set ⟨_, rfl, e1'⟩ p.no rfl
  · by_cases q : l = o.x
    · rw [q]
      exact ⟨_, rfl, upd_same⟩
    · obtain ⟨ob, m, g⟩ := N2.ok.lsts l hl
      exact ⟨ob, m, by rw [upd_ne q]; exact g⟩
  · obtain ⟨w, h1, h2⟩ := N2.rep i d' hd'
    refine ⟨w, h1, ?_⟩
    cases d' with
    | own xs =>
      obtain ⟨l, us, g1, g2, g3, g4, g5, g6⟩ := h2
      have hl : l ≠ o.x := fun z => by
        rw [z, e1'] at g4
        cases g4
      exact ⟨l, us, g1, g2, g3, by rw [upd_ne hl]; exact g4, by rw [hid]; exact g5, g6⟩
    | odk ks xs =>
      obtain ⟨l, us, g1, g2, g3, g4, g5, g6⟩ := h2
      have hl : l ≠ o.x := fun z => by
        rw [z, e1'] at g4
        cases g4
      exact ⟨l, us, g1, g2, g3, by rw [upd_ne hl]; exact g4, by rw [hid]; exact g5, g6⟩
    | _ =>
      show Rep X.K U (hide L (upd H2 o.x (.ins o.C o.dx ((ns ++ [f]).zip (vs ++ [v]))))) _ w
      rw [hid]
      exact h2
  · rw [hid]
    exact Reps.app (Reps.mono (hide_same s12) _ _ r) (Reps.one (Rep.mono (hide_same s2) _ _ (r1.rep hst)))
end
/-- a method that fills a new object -/
structure Mi (P : Program) (w : World) (K : PySem.W.Frag) (mg : Str → Option Value) (base : Heap) (U : Pu) (k : Nat) (C : Addr) (m : Str) (n : Nat) (sp : DSpec) : Prop where
  ex : ∃ (f : Addr) (fd : FuncData) (ps : List Str), Meth K C m f ∧ Binds K fd ps [] ∧ FnOk P w K mg base (L2.CX P w) k f fd ps (spI K U C n sp)
section
variable {X : Cx} {U : Pu} {lv : Nat} {T : XD} {c c2 : Ct X U lv T} {o : Spot} {δ : List (Option D)} {S : D → Prop} {pos : Pos}
/-- self.keep(..), at the end -/
theorem WB_keep {pl : Sem Bool} {m : Str} {n k : Nat} {sp : DSpec} {oe e : Expr} {es : List Expr} {apos cpos : Pos} (p : Spo c c2 o) (F : Mi X.prog X.w X.K X.mg X.base U k o.C m n sp) (hk : k ≤ lv) (hc : Cls X.K o.C) (ho : WE c2 oe δ fun d => d = .any (.ref o.x))
    (h : WA c2 (e :: es) δ fun as => as.length = n ∧ stills as = true ∧ sp as S noX) (hs : swapsWith (.Call (.Attribute oe m apos) (e :: es) [] cpos) none pos.line X.env = pure false := by rfl)
    (hst : starEach (e :: es) X.env = (false, eval e X.env) :: starEach es X.env := by rfl) (hpl : (backTo cpos (starEach es X.env)).any (·.1) = false := by rfl)
    (ht : eval (.Call (.Attribute oe m apos) (e :: es) [] cpos) X.env = (do
      let ov ← eval oe X.env
      standAt apos.atName
      let (f, first) ← holding [ov] (getMethod ov m pl)
      callWith cpos f first (backTo cpos (starEach (e :: es) X.env)) (backToKw cpos (keywordEach [] X.env))) := by rfl) :
    WB c2 o [.Expr (.Call (.Attribute oe m apos) (e :: es) [] cpos) pos] δ [] [] S := fun L σ H De vs N hx e1 e2 r hn Fi => by
  obtain ⟨f, fd, ps, hm, hb, Fk⟩ := F.ex
  refine runSs_of (pss_cons (ps_expr (pe_meth (dvs := []) (E := fun cls od H' => Same U c2.Hb H' ∧ ∃ fl, RepX X.K U (hide c2.Lb H') od fl ∧ T cls fl) pe_run hc hm Fk (c2.room.mono hk) hb .nil (passes_call c2.tk fun _ _ _ _ z => z) pa_run hst hpl ht) hs) pss_nil) ?_
  refine ho L σ H _ N fun u H1 d1 s1 r1 z1 => ?_
  subst z1
  obtain rfl : u = .ref o.x := r1
  refine ⟨o.x, o.dx, _, rfl, s1.at _ _ e1, rfl, h L σ H1 _ (N.mono s1) fun ws H2 as s2 r2 ⟨hn2, hst2, hsp⟩ => ?_⟩
  have N2 := (N.mono s1).mono s2
  have s12 := s1.trans s2
  have e1' : H2 o.x = some (.ins o.C o.dx []) := s12.at _ _ e1
  have e2' := s12.at _ _ e2
  have hdx : o.dx ∈ L := N.ok.lb _ (by rw [p.lb2]; exact List.mem_cons_self)
  let L1 := L.filter fun l => !(l == o.x) && !(l == o.dx)
  have m1 : ∀ l, l ∈ L1 ↔ l ∈ L ∧ l ≠ o.x ∧ l ≠ o.dx := fun l => by simp [L1]
  have hh : hide (o.x :: o.dx :: L1) H2 = hide L H2 := by
    funext b
    unfold hide
    by_cases hbL : b ∈ L
    · rw [if_pos hbL, if_pos]
      by_cases q1 : b = o.x
      · rw [q1]; exact List.mem_cons_self
      · by_cases q2 : b = o.dx
        · rw [q2]; exact List.mem_cons_of_mem _ List.mem_cons_self
        · exact List.mem_cons_of_mem _ (List.mem_cons_of_mem _ ((m1 b).mpr ⟨hbL, q1, q2⟩))
    · rw [if_neg hbL, if_neg]
      intro z
      rcases List.mem_cons.mp z with z | z
      · exact hbL (by rw [z]; exact hx)
      · rcases List.mem_cons.mp z with z | z
        · exact hbL (by rw [z]; exact hdx)
        · exact hbL ((m1 b).mp z).1
  have sub0 : ∀ l ∈ o.L0, l ∈ L1 := fun l hl => (m1 l).mpr ⟨N.ok.lb l (by rw [p.lb2]; exact List.mem_cons_of_mem _ hl), fun z => o.xL (by rw [← z]; exact hl), fun z => o.dL (by rw [← z]; exact hl)⟩
  have sb : ∀ {H'}, Same U (hide [o.x] H2) H' → Same U c2.Hb H' := fun s => Same.trans ⟨fun b ob hb n => by
    rw [hide_ne (by simpa using p.no.ne hb n)]
    exact N2.ok.base.at b ob hb n, fun z => U.gh _ _ (fun l hl => by
    rw [List.mem_singleton.mp hl]
    exact ⟨_, rfl, e1'⟩) (N2.ok.base.g z)⟩ s
  refine ⟨o.x, o.dx, ws ++ [], L1, as, S, noX, rfl, ⟨hn2, (sb (Same.refl _)).g c2.g⟩, e1', e2', o.ne, fun z => ((m1 _).mp z).2.1 rfl, fun z => ((m1 _).mp z).2.2 rfl, fun l hl => N2.ok.lsts l ((m1 l).mp hl).1, ?_, hsp, fun H' d s r' z => ?_, fun cls od fl H' s r' t => t.elim⟩
  · rw [List.append_nil, hh]
    exact r2.reps hst2
  · exact Fi σ H' d (sb s) (Rep.mono (hide_le sub0) _ _ r') z
end
/-! ### the contract of __init__ -/
section
variable {P : Program} {w : World} {K : PySem.W.Frag} {mg : Str → Option Value} {base : Heap} {U : Pu}
theorem fnI {x qual : Str} {st : Stmt} {f : Addr} {fd : FuncData} {N ps : List Str} {n k : Nat} {sp : DSpec} {C : Addr} (F : Fun K x qual st f fd) (Sc : FnScope N ps (defScope st)) (hn : ps.length = n + 1)
    (body : ∀ (X : Cx) (T : XD) (c c2 : Ct X U k T) (o : Spot), Fx X P w K mg base N (defScope st) .top → o.C = C → Spo c c2 o → ∀ (ds : List D) (S : D → Prop), ds.length = n → sp ds S T → WBs c c2 o (defBody st) (startD N (.any (.ref o.x) :: ds)) S) : FnOk P w K mg base (L2.CX P w) (k + 1) f fd ps (spI K U C n sp) := by
  refine F.okX Sc (fun vs H Q E h => ?_) (fun cdv A outer s H vs Q E hr h => ?_)
  · obtain ⟨x, dx, us, L, ds, S, T, rfl, ⟨h1, _⟩, _, _, _, _, _, _, h2, _⟩ := h
    rw [List.length_cons, ← h2.len, h1, hn]
  · obtain ⟨x, dx, us, L, ds, S, T, rfl, ⟨h1, hG⟩, e1, e2, hne, hxL, hdL, hl, h2, hsp, q1, q2⟩ := h
    let o : Spot := ⟨C, x, dx, L, hne, hxL, hdL⟩
    let X := cxOf (L2.CX P w) P w K mg base N qual (defScope st) f cdv A outer s H E
    have tk0 : Takes X (fun cls d _ H => E cls d H) := takes_of (E := E) rfl rfl rfl rfl
    have hsub : ∀ l ∈ L, l ∈ x :: dx :: L := fun l hl => List.mem_cons_of_mem _ (List.mem_cons_of_mem _ hl)
    have hsub2 : ∀ l ∈ L, l ∈ dx :: L := fun l hl => List.mem_cons_of_mem _ hl
    have hs0 : Same U (hide [x] H) H := hide_ext.s
    let c : Ct X U k T := { Hb := H, Lb := x :: dx :: L, g := hs0.g hG, calm := rfl, nd := Sc.nd, room := hr, own := passes_of rfl, tk := tk0.imp fun cls od σ H' ⟨s1, fl, r, t⟩ => q2 cls od fl H' (hs0.trans s1) (RepX.mono (hide_le hsub) r) t }
    let c2 : Ct X U k T := { Hb := hide [x] H, Lb := dx :: L, g := hG, calm := rfl, nd := Sc.nd, room := hr, own := passes_of rfl, tk := tk0.imp fun cls od σ H' ⟨s1, fl, r, t⟩ => q2 cls od fl H' s1 (RepX.mono (hide_le hsub2) r) t }
    have ok : Ok c (x :: dx :: L) H := ⟨Same.refl H, fun l h => h, fun l h => .inl h, fun l h => by
      rcases List.mem_cons.mp h with z | z
      · rw [z]; exact ⟨_, rfl, e1⟩
      · rcases List.mem_cons.mp z with z | z
        · rw [z]; exact ⟨_, rfl, e2⟩
        · exact hl l z⟩
    refine ⟨_, pss_run, ?_⟩
    refine body X T c c2 o ⟨rfl, rfl, rfl, rfl, rfl, rfl, rfl, fun x => rfl⟩ rfl ⟨e1, e2, rfl, rfl, rfl⟩ ds S h1 hsp (x :: dx :: L) (L2.start N (.ref x :: us)) H _ (start_en ok (Reps.cons rfl h2)) fun σ' H' d s1 r1 z => ?_
    exact q1 H' d s1 r1 z
/-- where a method stands (C: the class it is found from) -/
structure MethAt (K : PySem.W.Frag) (C : Addr) (m qual : Str) (st : Stmt) (ps : List Str) : Prop where
  ex : ∃ (f : Addr) (fd : FuncData), Meth K C m f ∧ Fun K m qual st f fd ∧ Binds K fd ps []
structure InitAt (K : PySem.W.Frag) (mg : Str → Option Value) (x : Str) (C : Addr) (qual : Str) (st : Stmt) (ps : List Str) : Prop where
  ex : ∃ (f : Addr) (fd : FuncData), mg x = some (.ref C) ∧ Mk K C f ∧ Fun K "__init__" qual st f fd ∧ Binds K fd ps []
theorem miO {m qual : Str} {st : Stmt} {N ps : List Str} {n k : Nat} {sp : DSpec} {C : Addr} (A : MethAt K C m qual st ps) (Sc : FnScope N ps (defScope st)) (hn : ps.length = n + 1)
    (body : ∀ (X : Cx) (T : XD) (c c2 : Ct X U k T) (o : Spot), Fx X P w K mg base N (defScope st) .top → o.C = C → Spo c c2 o → ∀ (ds : List D) (S : D → Prop), ds.length = n → sp ds S T → WBs c c2 o (defBody st) (startD N (.any (.ref o.x) :: ds)) S) : Mi P w K mg base U (k + 1) C m n sp := by
  obtain ⟨f, fd, h1, h2, h3⟩ := A.ex
  exact ⟨f, fd, ps, h1, h3, fnI h2 Sc hn body⟩
theorem makerO {x qual : Str} {st : Stmt} {N ps : List Str} {n k : Nat} {sp : DSpec} {C : Addr} (A : InitAt K mg x C qual st ps) (Sc : FnScope N ps (defScope st)) (hn : ps.length = n + 1)
    (body : ∀ (X : Cx) (T : XD) (c c2 : Ct X U k T) (o : Spot), Fx X P w K mg base N (defScope st) .top → o.C = C → Spo c c2 o → ∀ (ds : List D) (S : D → Prop), ds.length = n → sp ds S T → WBs c c2 o (defBody st) (startD N (.any (.ref o.x) :: ds)) S) : Maker P w K mg base U (k + 1) x n sp := by
  obtain ⟨f, fd, h0, h1, h2, h3⟩ := A.ex
  exact ⟨C, f, fd, ps, h0, h1, h3, fnI h2 Sc hn body⟩
theorem mtO {m qual : Str} {st : Stmt} {N ps : List Str} {n k : Nat} {sp : DSpec} {C : Addr} (A : MethAt K C m qual st ps) (Sc : FnScope N ps (defScope st)) (hn : ps.length = n)
    (body : ∀ (X : Cx) (T : XD) (c : Ct X U k T), Fx X P w K mg base N (defScope st) .top → ∀ (ds : List D) (S : D → Prop), ds.length = n → sp ds S T → WSs c (defBody st) (startD N ds) { nx := fun _ => S .non, rt := S }) : Mt P w K mg base U (k + 1) C m n sp := by
  obtain ⟨f, fd, h1, h2, h3⟩ := A.ex
  exact ⟨f, fd, ps, h1.at_, h1.fn, h1.kp, h3, fnD h2 Sc hn fun cdv A outer s H E T c ds S hl hs => body _ T c ⟨rfl, rfl, rfl, rfl, rfl, rfl, rfl, fun x => rfl⟩ ds S hl hs⟩
theorem Mi.mono {k k' : Nat} {C : Addr} {m : Str} {n : Nat} {sp : DSpec} (F : Mi P w K mg base U k C m n sp) (h : k ≤ k') : Mi P w K mg base U k' C m n sp := by
  obtain ⟨f, fd, ps, h1, h2, h3⟩ := F.ex
  exact ⟨f, fd, ps, h1, h2, h3.mono h⟩
end
end Dl
namespace Dl
open PySem PySem.Spec PyProof.Rows L2
theorem BlkO.of {P : Program} {w : World} {K : PySem.W.Frag} {mg : Str → Option Value} {base : Heap} {N : List Str} {U : Pu} {lv : Nat} {s0 sc : Scope} {φ : ∀ {X' : Cx}, Ct X' U lv noX → Prop} (h : ∀ (X' : Cx) (c' : Ct X' U lv noX), Fx X' P w K mg base N (relS s0 sc) (.blk s0) → φ c') : BlkO P w K mg base N U lv s0 sc φ := h
theorem eqS {S : D → Prop} {a b : D} (h : S a) (e : b = a) : S b := by rw [e]; exact h
theorem CMul.l {i j : Int} (h1 : -18446744073709551616 < i) (h2 : i < 18446744073709551616) : CMul i j := .inl ⟨h1, h2⟩
theorem CMul.r {i j : Int} (h1 : -18446744073709551616 < j) (h2 : j < 18446744073709551616) : CMul i j := .inr ⟨h1, h2⟩
/-! tuples and lists of ints -/
abbrev tI (xs : List Int) : D := .tup (xs.map .int)
abbrev tII (rs : List (List Int)) : D := .tup (rs.map tI)
abbrev lI (xs : List Int) : D := .lst (xs.map .int)
abbrev lT (rs : List (List Int)) : D := .lst (rs.map tI)
abbrev lL (rs : List (List Int)) : D := .lst (rs.map lI)
section
variable {X : Cx} {U : Pu} {lv : Nat} {T : XD} {c : Ct X U lv T} {S : D → Prop} {A B : Prop}
theorem ite_nt (h : B) : if (!true) = true then A else B := ite_f h
theorem ite_nf (h : A) : if (!false) = true then A else B := ite_t h
theorem eqv_int (i j : Int) : (D.int i).eqv (.int j) = decide (i = j) := by
  by_cases h : i = j <;> simp [D.eqv, h]
theorem OD_eq_int {i j : Int} (h : S (.bl (decide (i = j)))) : OD c (compareOp .Eq) (.int i) (.int j) S := OD_eq rfl rfl (by rw [eqv_int]; exact h)
theorem OD_ne_int {i j : Int} (h : S (.bl (decide (i ≠ j)))) : OD c (compareOp .NotEq) (.int i) (.int j) S := OD_ne rfl rfl (by rw [eqv_int]; simpa using h)
end
/-! the built-in names -/
theorem bt_len : bootBuiltins "len" = some (.builtin "len") := by rfl
theorem bt_sum : bootBuiltins "sum" = some (.builtin "sum") := by rfl
theorem bt_abs : bootBuiltins "abs" = some (.builtin "abs") := by rfl
theorem bt_max : bootBuiltins "max" = some (.builtin "max") := by rfl
theorem bt_min : bootBuiltins "min" = some (.builtin "min") := by rfl
theorem bt_all : bootBuiltins "all" = some (.builtin "all") := by rfl
theorem bt_any : bootBuiltins "any" = some (.builtin "any") := by rfl
theorem bt_sorted : bootBuiltins "sorted" = some (.builtin "sorted") := by rfl
theorem bt_isinstance : bootBuiltins "isinstance" = some (.builtin "isinstance") := by rfl
theorem bt_int : bootBuiltins "int" = some (.type "int") := by rfl
theorem bt_bool : bootBuiltins "bool" = some (.type "bool") := by rfl
theorem bt_str : bootBuiltins "str" = some (.type "str") := by rfl
theorem bt_tuple : bootBuiltins "tuple" = some (.type "tuple") := by rfl
theorem bt_list : bootBuiltins "list" = some (.type "list") := by rfl
theorem bt_dict : bootBuiltins "dict" = some (.type "dict") := by rfl
theorem bt_set : bootBuiltins "set" = some (.type "set") := by rfl
end Dl

set_option maxRecDepth 100000
set_option maxHeartbeats 4000000
/-! # Rules by search: slots stored, wiped -/
namespace Dl
open PySem PySem.Spec PyProof.Rows L2
inductive St : List (Option D) → Nat → Option D → List (Option D) → Prop
  | here {a o : Option D} {r : List (Option D)} : St (a :: r) 0 o (o :: r)
  | next {a o : Option D} {r r' : List (Option D)} {i : Nat} : St r i o r' → St (a :: r) (i + 1) o (a :: r')
theorem St.eq {δ δ' : List (Option D)} {i : Nat} {o : Option D} (h : St δ i o δ') : δ.set i o = δ' := by
  induction h with
  | here => rfl
  | next _ ih => rw [List.set_cons_succ, ih]
inductive Wp : List (Option D) → List (Str × Nat) → List (Option D) → Prop
  | nil {δ : List (Option D)} : Wp δ [] δ
  | cons {δ δ1 δ2 : List (Option D)} {x : Str} {i : Nat} {r : List (Str × Nat)} : Wp δ r δ1 → St δ1 i none δ2 → Wp δ ((x, i) :: r) δ2
theorem Wp.eq {δ δ' : List (Option D)} {own : List (Str × Nat)} (h : Wp δ own δ') : wipeD δ (own.map (·.2)) = δ' := by
  induction h with
  | nil => rfl
  | cons _ s ih =>
    show (wipeD _ _).set _ none = _
    rw [ih, s.eq]
/-- stored: at slot i -/
def Sto (δ : List (Option D)) (i : Nat) (d : D) (Q : List (Option D) → Prop) : Prop := Q (δ.set i (some d))
theorem Sto.by {δ δ' : List (Option D)} {i : Nat} {d : D} {Q : List (Option D) → Prop} (s : St δ i (some d) δ') (h : Q δ') : Sto δ i d Q := by
  unfold Sto
  rw [s.eq]
  exact h
section
variable {X : Cx} {P : Program} {w : World} {K : PySem.W.Frag} {mg : Str → Option Value} {base : Heap} {N : List Str} {sc : Scope} {z : Zk} {U : Pu} {lv : Nat} {T : XD} {c : Ct X U lv T} {δ δ' : List (Option D)} {S : D → Prop} {E : SE} {e a b : Expr} {pos p : Pos} {es : List Expr} {x : Str} {i : Nat}
theorem tN3 {d : D} {ts : List Nat} {Q : List (Option D) → Prop} (f : Fx X P w K mg base N sc z) (hn : Nth N i x) (hl : tgB z sc x = true) (hm : decide (i ∈ ts) = true) (h : Sto δ i d Q) : AG c (.Name x pos) δ d ts Q := tN2 f hn hl hm h
theorem eLc3 {tg iter elt : Expr} {ifs : List Expr} {scope : Scope} {own : List (Str × Nat)} (f : Fx X P w K mg base N sc z) (o : Own N scope.names own) (hw : Wp δ own δ') (ok : blkC N sc scope own = true) (hi : WJ c tg iter δ (Turns P w K mg base N U lv tg ifs elt scope sc δ' (own.map (·.2)) fun ys => S (.lst ys)))
    (hs : ∀ x, foldedSetIterable iter X.env x = pure x := by intro _; rfl) : WE c (.ListComp elt [⟨tg, iter, ifs, 0⟩] scope pos) δ S :=
  eLc2 f o ok (by rw [hw.eq]; exact hi) hs
theorem fLc3 {tg iter elt : Expr} {ifs : List Expr} {scope : Scope} {own : List (Str × Nat)} {S : List D → Prop} (f : Fx X P w K mg base N sc z) (o : Own N scope.names own) (hw : Wp δ own δ') (ok : blkC N sc scope own = true) (hi : WJ c tg iter δ (Turns P w K mg base N U lv tg ifs elt scope sc δ' (own.map (·.2)) S))
    (hs : ∀ x, foldedSetIterable iter X.env x = pure x := by intro _; rfl) : WF c (.ListComp elt [⟨tg, iter, ifs, 0⟩] scope pos) δ S :=
  fLc2 f o ok (by rw [hw.eq]; exact hi) hs
theorem sLc3 {tg iter elt : Expr} {ifs : List Expr} {scope : Scope} {own : List (Str × Nat)} {py : Pos} (f : Fx X P w K mg base N sc z) (hn : Nth N i x) (o : Own N scope.names own) (hw : Wp δ own δ') (ok : blkC N sc scope own = true)
    (hy : sc.names.lookup x = some .local) (hk : sc.kind = .function) (hl : (py.line == p.line) = true) (ha : (scope.names.any fun (n, k) => n == x && (k == .local || k == .cell)) = false)
    (hi : WJ c tg iter δ (Turns P w K mg base N U lv tg ifs elt scope sc δ' (own.map (·.2)) fun ds => Sto δ i (.lst ds) E.nx)) (hs : ∀ x, foldedSetIterable iter X.env x = pure x := by intro _; rfl) : WS c (.Assign [.Name x py] (.ListComp elt [⟨tg, iter, ifs, 0⟩] scope p) pos) δ E :=
  sLc2 f hn o ok hy hk hl ha (by rw [hw.eq]; exact hi) hs
theorem sLcO3 {tg iter elt : Expr} {ifs : List Expr} {scope : Scope} {own : List (Str × Nat)} {py : Pos} (f : Fx X P w K mg base N sc z) (hn : Nth N i x) (o : Own N scope.names own) (hw : Wp δ own δ') (ok : blkC N sc scope own = true)
    (hy : sc.names.lookup x = some .local) (hk : sc.kind = .function) (hl : (py.line == p.line) = true) (ha : (scope.names.any fun (n, k) => n == x && (k == .local || k == .cell)) = false)
    (hi : WJ c tg iter δ (Turns P w K mg base N U lv tg ifs elt scope sc δ' (own.map (·.2)) fun ds => Sto δ i (.own ds) E.nx)) (hs : ∀ x, foldedSetIterable iter X.env x = pure x := by intro _; rfl) : WS c (.Assign [.Name x py] (.ListComp elt [⟨tg, iter, ifs, 0⟩] scope p) pos) δ E :=
  sLcO f hn o ok hy hk hl ha (by rw [hw.eq]; exact hi) hs
/-- x = e: data that stay -/
theorem sSetE {p' : Pos} (f : Fx X P w K mg base N sc z) (hn : Nth N i x) (hl : tgB z sc x = true) (h : WE c e δ fun d => d.still = true ∧ Sto δ i d E.nx) (hs : swapsWith e (some (.Name x p')) pos.line X.env = pure false := by rfl) : WS c (.Assign [.Name x p'] e pos) δ E :=
  sSet f hn hl (WO_of h) hs
/-- x = a new list -/
theorem sSetF {p' : Pos} (f : Fx X P w K mg base N sc z) (hn : Nth N i x) (hl : tgB z sc x = true) (h : WF c e δ fun ds => Sto δ i (.own ds) E.nx) (hs : swapsWith e (some (.Name x p')) pos.line X.env = pure false := by rfl) : WS c (.Assign [.Name x p'] e pos) δ E :=
  sSet f hn hl (WO_new h) hs
theorem sApp2 {xs : List D} {p' apos cpos : Pos} (f : Fx X P w K mg base N sc z) (hn : Nth N i x) (hd : Nth δ i (some (.own xs))) (hv : visB sc x = true) (h : WE c e δ fun d => d.still = true ∧ xs.length < sizeLine ∧ Sto δ i (.own (xs ++ [d])) E.nx)
    (hs : swapsWith (.Call (.Attribute (.Name x p') "append" apos) [e] [] cpos) none pos.line X.env = pure false := by rfl)
    (hbase : attributeBase (.Name x p') "append" X.env (eval (.Name x p') X.env) = eval (.Name x p') X.env := by rfl) (hfew : ((backTo cpos (starEach [e] X.env)).all (fun x => !x.1) && (backToKw cpos (keywordEach [] X.env)).all (fun x => x.1.isSome) && decide (([e] : List Expr).length + ([] : List Keyword).length + (if ([] : List Keyword).isEmpty then 0 else 1) < 30)) = true := by rfl)
    (hline : (apos.endLine == cpos.line) = true := by rfl) (he : starEach (e :: []) X.env = (false, eval e X.env) :: starEach [] X.env := by rfl) (hpl : (backTo cpos (starEach [] X.env)).any (·.1) = false := by rfl) :
    WS c (.Expr (.Call (.Attribute (.Name x p') "append" apos) [e] [] cpos) pos) δ E := sApp f hn hd hv h hs hbase hfew hline he hpl
theorem sExt2 {xs : List D} {p' apos cpos : Pos} (f : Fx X P w K mg base N sc z) (hn : Nth N i x) (hd : Nth δ i (some (.own xs))) (hv : visB sc x = true) (h : WE c e δ fun d => ∃ ys, d = .lst ys ∧ xs.length + ys.length ≤ sizeLine ∧ Sto δ i (.own (xs ++ ys)) E.nx)
    (hs : swapsWith (.Call (.Attribute (.Name x p') "extend" apos) [e] [] cpos) none pos.line X.env = pure false := by rfl)
    (hbase : attributeBase (.Name x p') "extend" X.env (eval (.Name x p') X.env) = eval (.Name x p') X.env := by rfl) (hfew : ((backTo cpos (starEach [e] X.env)).all (fun x => !x.1) && (backToKw cpos (keywordEach [] X.env)).all (fun x => x.1.isSome) && decide (([e] : List Expr).length + ([] : List Keyword).length + (if ([] : List Keyword).isEmpty then 0 else 1) < 30)) = true := by rfl)
    (hline : (apos.endLine == cpos.line) = true := by rfl) (he : starEach (e :: []) X.env = (false, eval e X.env) :: starEach [] X.env := by rfl) (hpl : (backTo cpos (starEach [] X.env)).any (·.1) = false := by rfl) :
    WS c (.Expr (.Call (.Attribute (.Name x p') "extend" apos) [e] [] cpos) pos) δ E := sExt f hn hd hv h hs hbase hfew hline he hpl
theorem sPut2 {xs : List D} {p' spos : Pos} {ix : Expr} (f : Fx X P w K mg base N sc z) (hn : Nth N i x) (hd : Nth δ i (some (.own xs))) (hv : visB sc x = true) (h : WE c e δ fun d => d.still = true ∧ WE c ix δ fun y => ∃ (k : Int) (j : Nat), y = .int k ∧ ixN xs.length k = some j ∧ Sto δ i (.own (xs.set j d)) E.nx)
    (ha : ∀ v, assign (.Subscript (.Name x p') ix spos) X.env v = (do
      let ov ← holding [v] (eval (.Name x p') X.env)
      let iv ← holding [v, ov] (eval ix X.env)
      standAt spos
      holding [v, ov, iv] (setItem ov iv v)
      release [v, ov, iv] []) := by intro _; rfl)
    (hs : swapsWithSole [.Subscript (.Name x p') ix spos] e pos.line X.env = pure false := by rfl) (hw : swappedStores [.Subscript (.Name x p') ix spos] e X.env = pure none := by rfl) (h1 : (assignEach [.Subscript (.Name x p') ix spos] X.env).map (·.2) = [assign (.Subscript (.Name x p') ix spos) X.env] := by rfl) :
    WS c (.Assign [.Subscript (.Name x p') ix spos] e pos) δ E := sPut f hn hd hv h ha hs hw h1
theorem sAug2 {n : Int} (f : Fx X P w K mg base N sc z) (hn : Nth N i x) (hd : Nth δ i (some (.int n))) (hl : tgB z sc x = true) (h : WE c e δ fun d => ∃ m, d = .int m ∧ Sto δ i (.int (n + m)) E.nx) : WS c (.AugAssign (.Name x p) .Add e pos) δ E := sAug f hn hd hl h
/-- a, b = e, e a tuple -/
theorem sTup {es : List Expr} {kt pt} (n : Nat) (h : WE c e δ fun d => ∃ ds, d = .tup ds ∧ (assignEach es X.env).length = ds.length ∧ AGs c es δ ds (List.range n) E.nx) (hst : (assignEach es X.env).findIdx? (·.1) = none := by rfl)
    (hs : swapsWithSole [.Tuple es kt pt] e pos.line X.env = pure false := by rfl) (hw : swappedStores [.Tuple es kt pt] e X.env = pure none := by rfl) (h1 : (assignEach [.Tuple es kt pt] X.env).map (·.2) = [assign (.Tuple es kt pt) X.env] := by rfl) : WS c (.Assign [.Tuple es kt pt] e pos) δ E :=
  WS_asg (List.range n) (h.mono fun d ⟨ds, hd, hn, z⟩ => by
    subst hd
    exact ⟨rfl, tT z hn hst⟩) hs hw h1
/-- a, b = x, y -/
theorem sPar2 {j : Nat} {y : Str} {px py pt : Pos} {kt k2 pt2} (f : Fx X P w K mg base N sc z) (hi : Nth N i x) (hj : Nth N j y) (hij : i ≠ j) (hx : sc.names.lookup x = some .local) (hy : sc.names.lookup y = some .local) (h : WO c a δ fun d1 => WO c b δ fun d2 => Sto δ i d1 fun δ1 => Sto δ1 j d2 E.nx)
    (hw : ∀ env : Env, env.scope = sc → swappedStores [.Tuple [.Name x px, .Name y py] kt pt] (.Tuple [a, b] k2 pt2) env = pure (some [x, y]))
    (hs : swapsWithSole [.Tuple [.Name x px, .Name y py] kt pt] (.Tuple [a, b] k2 pt2) pos.line X.env = pure false := by rfl) (s1 : starEach (a :: [b]) X.env = (false, eval a X.env) :: starEach [b] X.env := by rfl) (s2 : starEach (b :: []) X.env = (false, eval b X.env) :: starEach [] X.env := by rfl) :
    WS c (.Assign [.Tuple [.Name x px, .Name y py] kt pt] (.Tuple [a, b] k2 pt2) pos) δ E := sPar f hi hj hij hx hy h hw hs s1 s2
end
end Dl

set_option maxRecDepth 100000
set_option maxHeartbeats 4000000
/-! # enumerate of a tuple -/
namespace Dl
open PySem PySem.Spec PyProof.Rows L2
theorem ckEnum (x : Value) : checkTypeCall "enumerate" ⟨[x], []⟩ = pure () := F.typeCall_enumerate_1 x
/-- enumerate.__new__ of what an iterator begins with -/
theorem newEnum {x : Value} {ob : Obj} {G : Heap → Prop} (Bg : Begins x ob G) : Meets (Builtin.«enumerate.__new__» ⟨[.type "enumerate", x], []⟩) (fun _ R st => G st.heap ∧
      R (.ok (.ret (.ref (st.heap.push ob).objs.size))) { st with heap := (st.heap.push ob).push { cls := .type "enumerate", data := .fields #[.none, .bool false, .ref st.heap.objs.size, rawInt 0, .none, .none] } }) :=
  .of_wp fun pr wd Ar R st hh => by
    obtain ⟨h0, gl, dn, tk, os⟩ := st; obtain ⟨g1, hR⟩ := hh
    have hsb := sub_enumerate
    have it1 : ∀ {A' : Around} {E' : Value → Shared → Prop} {Q' : Value → Shared → Prop}, Q' (.ref h0.objs.size) ⟨h0.push ob, gl, dn, tk, os⟩ → wpAny (model pr wd) A' (pyIter x) Q' E' ⟨h0, gl, dn, tk, os⟩ := fun q => Bg.iter pr wd _ _ ⟨h0, gl, dn, tk, os⟩ _ g1 q
    wp_walk using it1
    refine wpAny_stack_any fun sk => wpAny_pure ?_
    split
    · rename_i c _ _ _ _ _
      cases (c == Value.type "enumerate")
      · wp_walk using it1
        exact ⟨_, rfl, hR⟩
      · wp_walk using it1
        exact ⟨_, rfl, hR⟩
    · wp_walk using it1
      exact ⟨_, rfl, hR⟩
theorem enumBegins {pr : Program} {wd : World} {Ar : Around} {Ex : Value → Shared → Prop} {st : Shared} {x : Value} {ob : Obj} {G : Heap → Prop} {Q : Value → Shared → Prop} (Bg : Begins x ob G) (g1 : G st.heap)
    (hQ : ∀ h', IsEnum h' (st.heap.objs.size + 1) st.heap.objs.size 0 .none → h'.get? st.heap.objs.size = some ob → h'.objs.size = st.heap.objs.size + 2 → (∀ b o, st.heap.get? b = some o → h'.get? b = some o) → Q (.ref (st.heap.objs.size + 1)) { st with heap := h' }) : wpAny (model pr wd) Ar (call (.type "enumerate") [x]) Q Ex st := by
  have sz : (st.heap.push ob).objs.size = st.heap.objs.size + 1 := Heap.size_push ..
  refine callType_new F.called_enumerate (by decide) (ckEnum x) (F.newCall_enumerate_1 _) (fun obj => F.args_object_init_2 obj _) F.entry_enumerate_new (newEnum Bg) ⟨g1, ?_⟩
  show _ ∧ _
  rw [sz]
  have isE : IsEnum ((st.heap.push ob).push { cls := .type "enumerate", data := .fields #[.none, .bool false, .ref st.heap.objs.size, rawInt 0, .none, .none] }) (st.heap.objs.size + 1) st.heap.objs.size 0 .none := by
    have z := Heap.get?_push_size (st.heap.push ob) (o := { cls := .type "enumerate", data := .fields #[.none, .bool false, .ref st.heap.objs.size, rawInt 0, .none, .none] }) rfl
    rw [sz] at z
    exact z
  exact ⟨⟨_, isE, rfl⟩, hQ _ isE (Heap.get?_push_of_some _ (Heap.get?_push_size _ Bg.free)) (by rw [Heap.size_push, sz]) fun b o z => Heap.get?_push_of_some _ (Heap.get?_push_of_some _ z)⟩
/-- the tuple at t, its items numbered, each in a new pair -/
def IteT (K : PySem.W.Frag) (t : Addr) : It :=
  ⟨fun i H => ∃ (us : List V) (u : V), SqT K H t us ∧ us[i]? = some u,
    fun i H r H' => ∃ T u, r = .ref T ∧ H T = none ∧ H' = upd H T (.tup [.int (i : Nat), u]) ∧ ∀ us, SqT K H t us → us[i]? = some u,
    fun i H => ∃ us : List V, SqT K H t us ∧ us.length ≤ i⟩
theorem turnEnumT {P : Program} {w : World} {K : PySem.W.Frag} {elts : List Expr} {kk : Nat} {tp : Pos} (t e j : Addr) :
    Turn P w K (.Tuple elts kk tp) (IteT K t) [e, j] e (fun i h => (∃ old, IsEnum h e j ((i : Nat) : Int) old) ∧ h.IsTupleIter j t i ∧ e ≠ j ∧ t ≠ j ∧ e ≠ t) where
  mem := by simp
  obj := fun i h ⟨⟨old, isE⟩, ⟨o, o1, _, o3⟩, _⟩ b hb => by
    have cs : b = e ∨ b = j := by simpa using hb
    rcases cs with rfl | rfl
    · exact ⟨_, isE, fun v q => nomatch q⟩
    · exact ⟨o, o1, fun v q => by rw [o3] at q; cases q⟩
  keep := fun i h h' ⟨⟨old, isE⟩, hj, ne⟩ kp => ⟨⟨old, kp e (by simp) _ isE⟩, hj.at fun o q => kp j (by simp) o q, ne⟩
  item := by
    intro X hP hw hK hc i pins s σ H E I hf st hg
    subst hP hw hK
    obtain ⟨⟨old, isE⟩, hj, ne1, ne2, ne3⟩ := st
    obtain ⟨us, u, hq, hu⟩ := hg
    obtain ⟨its, rv, p, hz⟩ := I.tuple hq
    obtain ⟨u', hu', ru⟩ := rv.get hu
    have le : e < s.heap.objs.size := Heap.lt_size isE
    have lj : j < s.heap.objs.size := by obtain ⟨_, q, _⟩ := hj; exact Heap.lt_size q
    have lt : i < its.toArray.size := by
      have := (List.getElem?_eq_some_iff.mp hu').1
      simpa using this
    refine wpAny_pyNext_enum_itemD (Draws.tuple (A := X.A.in1) (I.ok.hd hc) j t ne2 its.toArray) isE ⟨hj, p⟩ lt ne1 (by simp [ne1, ne3]) fun x h' tk hx isO st' hT hsz hk => ?_
    obtain rfl : x = u' := by
      have hx : its.toArray[i]? = some x := hx
      rw [List.getElem?_toArray, hu'] at hx
      exact (Option.some.inj hx).symm
    refine ⟨_, rfl, wpAny_letOwnedTupleGo_enum (s := { s with heap := h', toks := tk + 1 }) isO fun h'' isE' sb => ?_⟩
    have hT2 : h''.get? s.heap.objs.size = some { cls := .type "tuple", data := .seq #[.int i tk, x] } := (sb.2 _ (Nat.ne_of_gt le)).trans hT
    have new : ObjOk X.prog X.w (upd H s.heap.objs.size (.tup [.int (i : Nat), u])) h'' s.heap.objs.size (.tup [.int (i : Nat), u]) := ⟨by show 2 ≤ sizeLine; decide, [.int i tk, x], .cons ⟨_, rfl⟩ (.cons ru .nil), ⟨_, hT2, rfl, _, rfl⟩⟩
    have I1 : Inv X pins σ (upd H s.heap.objs.size (.tup [.int (i : Nat), u])) { s with heap := h'', toks := tk + 1 } := I.turnedNew (ch := [e, j]) (fun b ob hb q => (sb.2 b (fun z => hb (by simp [z]))).trans (hk b ob (fun z => hb (by simp [z])) (fun z => hb (by simp [z])) q)) hf (Nat.le_refl _) new
    refine ⟨.ref s.heap.objs.size, _, I1, rfl, ⟨_, u, rfl, I.hok.fresh (Nat.le_refl _), rfl, fun ys hy => by rw [I.tuple_inj hy hq]; exact hu⟩, ⟨⟨x, ?_⟩, st'.1.at fun o q => (sb.2 j (Ne.symm ne1)).trans q, ne1, ne2, ne3⟩, fun b hb => ?_⟩
    · have e1 : ((i + 1 : Nat) : Int) = (i : Int) + 1 := by omega
      rw [e1]
      exact isE'
    · have cs : b = e ∨ b = j := by simpa using hb
      have lb : b < s.heap.objs.size := by rcases cs with rfl | rfl <;> assumption
      rw [upd_ne (Nat.ne_of_lt lb)]
      exact (hf b hb).1
  done := by
    intro X hP hw hK hc i pins s σ H E I hf st hg
    subst hP hw hK
    obtain ⟨⟨old, isE⟩, hj, ne1, ne2, ne3⟩ := st
    obtain ⟨us, hq, hu⟩ := hg
    obtain ⟨its, rv, p, hz⟩ := I.tuple hq
    obtain ⟨f0, f1, f2, f3, f4, f5⟩ := hf j (by simp)
    have hl := rv.length
    by_cases hi : i = its.toArray.size
    · subst hi
      exact wpAny_pyNext_enum_endD (Draws.tuple (A := X.A.in1) (I.ok.hd hc) j t ne2 its.toArray) isE ⟨hj, p⟩ fun h' eb => ⟨rfl, I.turned (t' := s.toks) (fun b o hb q => eb b o hb q) f0 f1 f3 f4 f5⟩
    · have hT : s.TypeIs (.ref e) "enumerate" := ⟨_, isE, rfl⟩
      unfold pyNext
      refine wpAny_bind (wpAny_attempt (wpAny_callSpecial?_slot (name := Str.ofString "__next__") hT F.slot_enumerate_next (wpAny_call_entry F.slot_enumerate_next hT F.entry_enumerate_next ?_ (F.args_enumerate_next_1 _))))
      show wpAny _ _ (field (.ref e) 2 >>= _) _ _ _
      refine wpAny_bind (wpAny_field isE rfl (x := .ref j) rfl ?_)
      refine wpAny_bind (wpAny_nextOf_tuple_end (A := X.A.in1) (I.ok.hd hc) hj (show s.heap.IsTuple t its.toArray from p) (by simp; omega) fun h' x eb hx' => ?_)
      obtain ⟨o, ho, hcl⟩ := hx'
      refine wpAny_bind (wpAny_isInstance (T := "StopIteration") (b := true) ⟨o, ho, hcl⟩ isSubtype_stop ?_)
      exact wpAny_pure ⟨rfl, I.turned (t' := s.toks) (fun b o hb q => eb b o hb q) f0 f1 f3 f4 f5⟩
  self := fun A i s Q E ⟨⟨_, isE⟩, _⟩ h => wpAny_pyIter_enum isE h
def iEnumT (K : PySem.W.Frag) (ta : TA) : TI := fun σ H R => ta σ H fun vs H1 => ∃ t us, vs = [.ref t] ∧ SqT K H1 t us ∧ R (IteT K t) H1
theorem piEnumT {X : Cx} {e : Expr} {ta : TA} {p pos tp : Pos} {elts : List Expr} {kk : Nat} (hg : Gl X "enumerate") (hm : X.mg "enumerate" = none) (ha : PA X [e] ta) (hs : starEach [e] X.env = [(false, eval e X.env)]) :
    PI X (.Tuple elts kk tp) (.Call (.Name "enumerate" p) [e] [] pos) (iEnumT X.K ta) := by
  refine ⟨fun pins s σ H R I h => ?_⟩
  refine Call_ (ld_blt I hg hm boot_enumerate (PyProof.Rows.callWith_type1 (thn (ha.run pos pins s σ H _ I h) fun us s1 ⟨vs, H1, I1, r1, t, xs, ex, hq, q⟩ => ?_) hs rfl))
  subst ex
  cases r1 with
  | cons r rr =>
    cases rr
    cases r
    obtain ⟨its, rv, p', hz⟩ := I1.tuple hq
    obtain ⟨ot, hot, _⟩ := id p'
    have lt : t < s1.heap.objs.size := Heap.lt_size hot
    refine enumBegins (begins_tuple t its.toArray) (show s1.heap.IsTuple t its.toArray from p') fun h' isE hj hsz hk => wpAny_pyIter_enum isE ?_
    have I2 : Inv X pins σ H1 { s1 with heap := h' } := I1.kept (t' := s1.toks) hk
    refine ⟨s1.heap.objs.size + 1, [s1.heap.objs.size + 1, s1.heap.objs.size], _, _, H1, rfl, I2, turnEnumT t (s1.heap.objs.size + 1) s1.heap.objs.size, ⟨⟨.none, isE⟩, ⟨_, hj, rfl, rfl⟩, Nat.succ_ne_self _, Nat.ne_of_lt lt, Nat.ne_of_gt (Nat.lt_succ_of_lt lt)⟩, fun b hb => ?_, q⟩
    have cs : b = s1.heap.objs.size + 1 ∨ b = s1.heap.objs.size := by simpa using hb
    have le : s1.heap.objs.size ≤ b := by
      rcases cs with rfl | rfl
      · exact Nat.le_succ _
      · exact Nat.le_refl _
    exact I1.fpOk le (I1.hok.fresh le)
section
variable {X : Cx} {U : Pu} {lv : Nat} {T : XD} {c : Ct X U lv T} {δ : List (Option D)} {S : List D → Prop} {pos : Pos}
theorem walk_et {K : PySem.W.Frag} {L : List Addr} {H B : Hp} {a : Addr} {vs : List V} {ds : List D} (ha : SqT K B a vs) (ra : Reps K U (hide L H) ds vs) (z : ds.length ≤ sizeLine) : Walk K U L H B (IteT K a) (numbered ds) := by
  have e1 := ra.len
  refine ⟨by rw [numbered_len]; exact z, fun i H2 e hi => ?_, fun H2 e => ?_, fun i x H2 H3 e hi y => ?_⟩
  · rw [numbered_len] at hi
    exact ⟨vs, vs[i]'(by omega), seqT_mono e ha, by simp⟩
  · refine ⟨vs, seqT_mono e ha, ?_⟩
    rw [numbered_len]
    omega
  · obtain ⟨T, x1, rfl, hT, rfl, f1⟩ := y
    obtain ⟨d1, g1, r1⟩ := ra.getV (f1 vs (seqT_mono e ha))
    exact ⟨new_ext hT, .tup [.int (i : Nat), d1], numbered_get g1, rfl, fun L' hl s => pair_rep hT hl s (d := .int (i : Nat)) rfl r1⟩
theorem WI_enumT {a : Expr} {elts : List Expr} {kk : Nat} {tpos p : Pos} (hm : X.mg "enumerate" = none) (h : WA c [a] δ fun ds => ∃ xs, ds = [.tup xs] ∧ S (numbered xs)) (hg : Gl X "enumerate") (hs : starEach [a] X.env = [(false, eval a X.env)]) :
    WI c (.Tuple elts kk tpos) (.Call (.Name "enumerate" p) [a] [] pos) δ S := fun L σ H R E q =>
  runI_of (piEnumT hg hm pa_run hs) (h L σ H _ E fun vs H1 ds s1 r1 ⟨xs, hd, z⟩ => by
    subst hd
    obtain ⟨v, rfl, a, vs, rfl, ha, ra, za⟩ := r1.one
    exact ⟨a, vs, rfl, seqT_mono hide_ext.k ha, q _ H1 _ s1 (walk_et ha ra za) z⟩)
theorem iEnT {P : Program} {w : World} {K : PySem.W.Frag} {mg : Str → Option Value} {base : Heap} {N : List Str} {sc : Scope} {z : Zk} {a : Expr} {p : Pos} {elts : List Expr} {kk : Nat} {tpos : Pos} (f : Fx X P w K mg base N sc z) (hm : mg "enumerate" = none) (hg : glbB sc "enumerate" = true) (h : WA c [a] δ fun ds => ∃ xs, ds = [.tup xs] ∧ S (numbered xs)) (hs : starEach [a] X.env = [(false, eval a X.env)] := by rfl) :
    WI c (.Tuple elts kk tpos) (.Call (.Name "enumerate" p) [a] [] pos) δ S := WI_enumT (by rw [f.m]; exact hm) h (f.gl hg) hs
end
section
variable {X : Cx} {P : Program} {w : World} {K : PySem.W.Frag} {mg : Str → Option Value} {base : Heap} {N : List Str} {sc : Scope} {z : Zk} {U : Pu} {lv : Nat} {T : XD} {c c2 : Ct X U lv T} {δ : List (Option D)} {S : D → Prop} {o : Spot} {rest : List Stmt} {pos : Pos}
/-- self.g = e, in the names of a class -/
theorem bSet {g : Str} {e oe : Expr} {p' : Pos} {ns names : List Str} {ds : List D} (f : Fx X P w K mg base N sc z) (p : Spo c c2 o) (hC : OkC K o.C names) (hm : decide (g ∈ names ∧ g ∉ ns ∧ ns.length < 999) = true) (ho : WE c2 oe δ fun d => d = .any (.ref o.x))
    (h : WE c2 e δ fun d => d.still = true ∧ WB c2 o rest δ (ns ++ [g]) (ds ++ [d]) S) (hs : swapsWith e (some (.Attribute oe g p')) pos.line X.env = pure false := by rfl) : WB c2 o (.Assign [.Attribute oe g p'] e pos :: rest) δ ns ds S := by
  have hm := of_decide_eq_true hm
  exact WB_set p (by rw [f.k]; exact hC.cls) (by rw [f.k]; exact hC.na g hm.1) hm.2.1 hm.2.2 ho h hs
theorem bKeep {pl : Sem Bool} {m : Str} {n k : Nat} {sp : DSpec} {oe e : Expr} {es : List Expr} {names : List Str} {apos cpos : Pos} (f : Fx X P w K mg base N sc z) (p : Spo c c2 o) (F : Mi P w K mg base U k o.C m n sp) (hk : k ≤ lv) (hC : OkC K o.C names) (ho : WE c2 oe δ fun d => d = .any (.ref o.x))
    (h : WA c2 (e :: es) δ fun as => as.length = n ∧ stills as = true ∧ sp as S noX) (hs : swapsWith (.Call (.Attribute oe m apos) (e :: es) [] cpos) none pos.line X.env = pure false := by rfl)
    (hst : starEach (e :: es) X.env = (false, eval e X.env) :: starEach es X.env := by rfl) (hpl : (backTo cpos (starEach es X.env)).any (·.1) = false := by rfl)
    (ht : eval (.Call (.Attribute oe m apos) (e :: es) [] cpos) X.env = (do
      let ov ← eval oe X.env
      standAt apos.atName
      let (f, first) ← holding [ov] (getMethod ov m pl)
      callWith cpos f first (backTo cpos (starEach (e :: es) X.env)) (backToKw cpos (keywordEach [] X.env))) := by rfl) :
    WB c2 o [.Expr (.Call (.Attribute oe m apos) (e :: es) [] cpos) pos] δ [] [] S :=
  WB_keep p (by rw [f.p, f.w, f.k, f.m, f.b]; exact F) hk (by rw [f.k]; exact hC.cls) ho h hs hst hpl ht
end
section
variable {X : Cx} {U : Pu} {lv : Nat} {T : XD} {c : Ct X U lv T} {S : D → Prop}
theorem isT1 {xs : List D} (h : S (.bl true)) : CD c (.builtin "isinstance") [.tup xs, .any (.ty "tuple")] S := CD_isTup rfl h
theorem isI1 {i : Int} (h : S (.bl true)) : CD c (.builtin "isinstance") [.int i, .any (.ty "int")] S := CD_isInt rfl h
theorem isI2 {i : Bool} (h : S (.bl true)) : CD c (.builtin "isinstance") [.bl i, .any (.ty "int")] S := CD_isInt rfl h
theorem isB1 {i : Bool} (h : S (.bl true)) : CD c (.builtin "isinstance") [.bl i, .any (.ty "bool")] S := CD_isBool rfl h
theorem isB0 {i : Int} (h : S (.bl false)) : CD c (.builtin "isinstance") [.int i, .any (.ty "bool")] S := CD_isBool rfl h
theorem isL1 {xs : List D} (h : S (.bl true)) : CD c (.builtin "isinstance") [.lst xs, .any (.ty "list")] S := CD_isLst rfl h
variable {b : Bool} {A B : Prop}
theorem ite_y (h : b = true) (k : A) : if b = true then A else B := by rw [if_pos h]; exact k
theorem ite_no (h : b = false) (k : B) : if b = true then A else B := by rw [h]; exact ite_f k
theorem ite_ny (h : b = true) (k : B) : if (!b) = true then A else B := by rw [h]; exact ite_f k
theorem ite_nno (h : b = false) (k : A) : if (!b) = true then A else B := by rw [h]; exact ite_t k
end
section
variable {X : Cx} {P : Program} {w : World} {K : PySem.W.Frag} {mg : Str → Option Value} {base : Heap} {N : List Str} {sc : Scope} {z : Zk} {U : Pu} {lv : Nat} {T : XD} {c : Ct X U lv T} {δ : List (Option D)} {E : SE} {pos : Pos}
/-- what a loop is to keep -/
def ForT (c : Ct X U lv T) (N : List Str) (tg : Expr) (body : List Stmt) (δ : List (Option D)) (E : SE) (ds : List D) : Prop := ∃ (α : Type) (enc : α → D) (xs : List α) (I : Nat → List (Option D) → Prop), ds = xs.map enc ∧ I 0 δ ∧
  (∀ (i : Nat) (x : α) (δ' : List (Option D)), xs[i]? = some x → I i δ' → ∀ (B : Hp) (hs : Same U c.Hb B), AG (c.at_ B hs) tg δ' (enc x) (List.range N.length) fun δ2 => WSs (c.at_ B hs) body δ2 { E with nx := I (i + 1), ct := I (i + 1), bk := E.nx }) ∧ ∀ δ', I xs.length δ' → E.nx δ'
theorem sFor2 {tg iter : Expr} {body : List Stmt} (f : Fx X P w K mg base N sc z) (h : WI c tg iter δ fun ds => ForT c N tg body δ E ds) (hs : ∀ x, foldedSetIterable iter X.env x = pure x := by intro _; rfl) : WS c (.For tg iter body [] pos) δ E := by
  refine WS_for (List.range N.length) (fun L σ H R En q => h L σ H R En fun J H' ds s w z => q J H' ds s w ?_) hs
  obtain ⟨α, enc, xs, I, rfl, h0, hst, hf⟩ := z
  refine ⟨I, h0, fun i d δ' hd _ hi B hB => ?_, fun δ' k => hf δ' (by rw [List.length_map] at k; exact k)⟩
  rw [List.getElem?_map] at hd
  cases q : xs[i]? with
  | none => rw [q] at hd; cases hd
  | some x => rw [q] at hd; cases hd; exact hst i x δ' q hi B hB
end
section
variable {P : Program} {w : World} {K : PySem.W.Frag} {mg : Str → Option Value} {base : Heap} {N : List Str} {sc : Scope} {U : Pu} {lv : Nat} {δ : List (Option D)} {α β : Type} {tg elt t : Expr} {scope : Scope} {ts : List Nat} {S : List D → Prop} {ds : List D}
theorem tMapE (e : β → D) (f : α → β) (enc : α → D) (xs : List α) (hds : ds = xs.map enc) (h : ∀ x, x ∈ xs → BlkO P w K mg base N U lv scope sc fun c1 => AG c1 tg δ (enc x) ts fun δ2 => BlkO P w K mg base N U lv scope sc fun c3 => WE c3 elt δ2 fun y => y.still = true ∧ y = e (f x)) (hS : S ((xs.map f).map e)) :
    Turns P w K mg base N U lv tg [] elt scope sc δ ts S ds := tMap enc xs (fun x => e (f x)) hds h (by rw [List.map_map] at hS; exact hS)
theorem tIfE (e : β → D) (f : α → β) (t2 : α → Bool) (enc : α → D) (xs : List α) (hds : ds = xs.map enc) (h : ∀ x, x ∈ xs → BlkO P w K mg base N U lv scope sc fun c1 => AG c1 tg δ (enc x) ts fun δ2 => BlkO P w K mg base N U lv scope sc fun c2 => WT c2 t δ2 fun b => b = t2 x ∧ (b = true → BlkO P w K mg base N U lv scope sc fun c3 => WE c3 elt δ2 fun y => y.still = true ∧ y = e (f x))) (hS : S (((xs.filter t2).map f).map e)) :
    Turns P w K mg base N U lv tg [t] elt scope sc δ ts S ds := tIf enc xs t2 (fun x => e (f x)) hds h (by rw [List.map_map] at hS; exact hS)
end
theorem take_snoc {α β : Type} {l : List α} {i : Nat} {x : α} (g : α → β) (h : l[i]? = some x) : (l.take (i + 1)).map g = (l.take i).map g ++ [g x] := by
  rw [List.take_add_one, h]
  simp
/-! ### tuples and lists of ints, joined -/
def zeros (n : Nat) : List Int := List.replicate n 0
theorem rep_zeros (n : Nat) : (List.replicate n [D.int 0]).flatten = (zeros n).map D.int := by
  induction n with
  | zero => rfl
  | succ n ih => rw [List.replicate_succ, List.flatten_cons, ih]; rfl
section
variable {X : Cx} {U : Pu} {lv : Nat} {T : XD} {c : Ct X U lv T} {S : D → Prop}
theorem OD_zeros {n : Int} (h0 : -1000 ≤ n) (h1 : n ≤ 1000) (h : S (tI (zeros n.toNat))) : OD c (binaryOp .Mult) (.tup [.int 0]) (.int n) S := OD_mul_tup h0 h1 (by decide) (by rw [rep_zeros]; exact h)
theorem OD_add_tM {α : Type} {e : α → D} {xs ys : List α} (hz : xs.length + ys.length ≤ 16777216) (h : S (.tup ((xs ++ ys).map e))) : OD c (binaryOp .Add) (.tup (xs.map e)) (.tup (ys.map e)) S := OD_add_tup (by simpa [sizeLine] using hz) (by rw [← List.map_append]; exact h)
theorem OD_add_lM {α : Type} {e : α → D} {xs ys : List α} (hz : xs.length + ys.length ≤ 16777216) (h : S (.lst ((xs ++ ys).map e))) : OD c (binaryOp .Add) (.lst (xs.map e)) (.lst (ys.map e)) S := OD_add_lst (.lst _) (.lst _) (by simpa [sizeLine] using hz) (by rw [← List.map_append]; exact h)
end
end Dl

set_option maxRecDepth 100000
set_option maxHeartbeats 4000000
/-! # More statements: xs.extend(tuple), a, b, c = x, y, z; draws in comprehensions -/
namespace Dl
open PySem PySem.Spec PyProof.Rows L2
theorem extTup (p : Addr) (its : Array Value) (n : Nat) (b : Addr) (us : Array Value) (n2 : Nat) (dd : Option Addr) (sl : Array (Option Value)) (h0 : ¬(!its.isEmpty && Builtin.List.listTooLong (its.size + us.size)) = true) (h1 : its.size ≤ sizeLine) (h2 : its.size + us.size ≤ sizeLine + 1) :
    Meets (Builtin.«list.extend» ⟨[.ref p, .ref b], []⟩) (fun _ R st => st.heap.get? p = some { cls := .type "list", dict := none, data := .seq its n, slots := #[] } ∧ st.heap.get? b = some { cls := .type "tuple", dict := dd, data := .seq us n2, slots := sl } ∧
      R (.ok (.ret Value.none)) { st with heap := st.heap.update p (Obj.mapSeq fun z => z ++ us), toks := st.toks }) :=
  .of_wp fun pr wd Ar R st hh => by
    obtain ⟨h0', gl, dn, tk, os⟩ := st; obtain ⟨hl, hb, hR⟩ := hh; have q1 := AutoSeq1.idx_int; have q2 := AutoSeq1.sub_tuple_tuple; have q3 := AutoSeq1.sub_list_list; have q4 := AutoSeq1.sub_tuple_list; have q5 := AutoSeq1.sub_list_tuple
    have hz : (its ++ us).size ≤ sizeLine + 1 := by rw [Array.size_append]; exact h2
    wp_walk using (wpAny_updateSeq hl rfl (hz := h1) (_hz' := hz)), AutoSeq1.wpAny_loadPart' hl, AutoSeq1.wpAny_loadPart' hb
    exact ⟨_, rfl, hR⟩
def rExtT (K : PySem.W.Frag) : V → List V → Hp → VK → Prop := fun x vs H Q => ∃ l b xs zs, x = .ref l ∧ vs = [.ref b] ∧ H l = some (.lst xs) ∧ SqT K H b zs ∧ xs.length + zs.length ≤ sizeLine ∧ Q .non (upd H l (.lst (xs ++ zs)))
theorem mtExtT {X : Cx} : MtM X "list.extend" (rExtT X.K) := by
  intro pins s σ H x vs v us Q I rx rv h
  obtain ⟨l, b, xs, zs, rfl, rfl, hH, hB, hz, q⟩ := h
  cases rx
  obtain ⟨u, rfl, ru⟩ := rv.one
  cases ru
  obtain ⟨z, its, n, r, hl, e⟩ := I.lstM hH
  obtain ⟨its2, r2, p2, hl2⟩ := I.tuple hB
  obtain ⟨o2, e2, c2, n2, d2⟩ := id p2
  have e2' : s.heap.get? b = some { cls := .type "tuple", dict := o2.dict, data := .seq its2.toArray n2, slots := o2.slots } := by
    rw [e2]
    cases o2
    cases c2
    cases d2
    rfl
  have l1 := r.length
  have l2 := r2.length
  have hsz : its.toArray.size + its2.toArray.size ≤ sizeLine := by rw [List.size_toArray, List.size_toArray]; omega
  have hlong : ¬ (!its.toArray.isEmpty && Builtin.List.listTooLong (its.toArray.size + its2.toArray.size)) = true := by
    have : Builtin.List.listTooLong (its.toArray.size + its2.toArray.size) = false := by
      unfold Builtin.List.listTooLong
      exact decide_eq_false (by omega)
    rw [this, Bool.and_false]
    exact Bool.false_ne_true
  refine call_meets F.slot_list_extend ⟨_, e, rfl⟩ F.entry_list_extend (F.args_list_extend_2 _ _) (extTup l its.toArray n b its2.toArray n2 _ _ hlong (by omega) (by omega)) ⟨e, e2', ?_⟩
  refine ⟨.non, _, I.lset (its' := its ++ its2) hH e (by simp) (r.append r2) ?_, rfl, q⟩
  rw [List.length_append]
  omega
theorem mtExtA {X : Cx} : MtM X "list.extend" (fun x vs H Q => rExtend x vs H Q ∨ rExtT X.K x vs H Q) := fun pins s σ H x vs v us Q I rx rv h => h.elim (mt_extend pins s σ H x vs v us Q I rx rv) (mtExtT pins s σ H x vs v us Q I rx rv)
section
variable {X : Cx} {U : Pu} {lv : Nat} {T : XD} {c : Ct X U lv T} {δ : List (Option D)} {E : SE} {e : Expr} {pos : Pos}
theorem WS_extT (i : Nat) {x : Str} {xs : List D} {p apos cpos : Pos} (hi : δ[i]? = some (some (.own xs))) (h : WE c e δ fun d => ∃ ys, (d = .lst ys ∨ d = .tup ys) ∧ xs.length + ys.length ≤ sizeLine ∧ E.nx (δ.set i (some (.own (xs ++ ys))))) (hN : X.N[i]? = some x) (hv : Vis X.env.scope x) (hd : (x == ("__debug__" : Str)) = false) (hcd : (x == ("__classdict__" : Str)) = false)
    (hs : swapsWith (.Call (.Attribute (.Name x p) "extend" apos) [e] [] cpos) none pos.line X.env = pure false)
    (hbase : attributeBase (.Name x p) "extend" X.env (eval (.Name x p) X.env) = eval (.Name x p) X.env) (hfew : ((backTo cpos (starEach [e] X.env)).all (fun x => !x.1) && (backToKw cpos (keywordEach [] X.env)).all (fun x => x.1.isSome) && decide (([e] : List Expr).length + ([] : List Keyword).length + (if ([] : List Keyword).isEmpty then 0 else 1) < 30)) = true)
    (hline : (apos.endLine == cpos.line) = true) (he : starEach (e :: []) X.env = (false, eval e X.env) :: starEach [] X.env) (hpl : (backTo cpos (starEach [] X.env)).any (·.1) = false) :
    WS c (.Expr (.Call (.Attribute (.Name x p) "extend" apos) [e] [] cpos) pos) δ E := fun L σ H De N Cm => by
  obtain ⟨v, hσ, l, vs, rfl, hl, hlb, hH, r, z⟩ := N.rep i _ hi
  refine runS_of (ps_expr (pe_bm PySem.F.plainAttrs_list PySem.F.slot_list_extend PySem.F.type_list_extend mtExtA (pe_var hN hv hd hcd) (pa_cons pe_run pa_nil he) hbase hfew hline he hpl) hs) ?_
  refine ⟨.ref l, hσ, tyL hH, ?_⟩
  refine h L σ H _ N fun w H1 d s1 r1 ⟨ys, hd, zz, k⟩ => ?_
  have r' := Reps.mono (hide_same s1.k) _ _ r
  rcases hd with rfl | rfl
  · obtain ⟨b, ws, rfl, hb, rb, zb⟩ := r1.lst
    refine .inl ⟨l, b, vs, ws, rfl, rfl, s1.at _ _ hH, hb, by rw [← r.len, ← rb.len]; exact zz, ?_⟩
    exact Cm.nx L σ _ _ ((N.mono s1).change hi hσ hl hlb (r'.app rb) (by rw [List.length_append]; exact zz)) k
  obtain ⟨b, ws, rfl, hb, rb, zb⟩ := r1.tup
  refine .inr ⟨l, b, vs, ws, rfl, rfl, s1.at _ _ hH, hb, by rw [← r.len, ← rb.len]; exact zz, ?_⟩
  exact Cm.nx L σ _ _ ((N.mono s1).change hi hσ hl hlb (r'.app rb) (by rw [List.length_append]; exact zz)) k
/-- a, b, c = x, y, z -/
theorem WS_par3 (i j l : Nat) {x y u : Str} {a b e3 : Expr} {px py pu pt : Pos} {kt k2 pt2} (h : WA c [a, b, e3] δ fun ds => ∃ d1 d2 d3, ds = [d1, d2, d3] ∧ d1.still = true ∧ d2.still = true ∧ d3.still = true ∧ E.nx (((δ.set i (some d1)).set j (some d2)).set l (some d3)))
    (hi : X.N[i]? = some x) (hj : X.N[j]? = some y) (hl : X.N[l]? = some u) (hij : i ≠ j) (hil : i ≠ l) (hjl : j ≠ l) (hx : X.env.scope.names.lookup x = some .local) (hy : X.env.scope.names.lookup y = some .local) (hu : X.env.scope.names.lookup u = some .local)
    (hw : swappedStores [.Tuple [.Name x px, .Name y py, .Name u pu] kt pt] (.Tuple [a, b, e3] k2 pt2) X.env = pure (some [x, y, u])) (hs : swapsWithSole [.Tuple [.Name x px, .Name y py, .Name u pu] kt pt] (.Tuple [a, b, e3] k2 pt2) pos.line X.env = pure false) :
    WS c (.Assign [.Tuple [.Name x px, .Name y py, .Name u pu] kt pt] (.Tuple [a, b, e3] k2 pt2) pos) δ E := fun L σ H De N Cm => by
  refine runS_of (ps_par3 c.calm c.nd hi hj hl hij hil hjl hx hy hu pa_run hw hs) (h L σ H _ N fun vs H1 ds s1 r1 ⟨d1, d2, d3, hd, t1, t2, t3, k⟩ => ?_)
  subst hd
  have N1 := N.mono s1
  obtain ⟨v1, r, rfl, q1, v2, r', rfl, q2, v3, r'', rfl, q3, rfl⟩ := r1
  refine ⟨v1, v2, v3, rfl, Cm.nx L _ H1 _ (((N1.set (q1.rep t1)).set (q2.rep t2)).set (q3.rep t3)) k⟩
/-- a call: lists of this frame are read alone -/
inductive FrzL : List D → List D → Prop
  | nil : FrzL [] []
  | own {xs : List D} {r r' : List D} : FrzL r r' → FrzL (.own xs :: r) (.lst xs :: r')
  | odk {ks : List Key} {xs : List D} {r r' : List D} : FrzL r r' → FrzL (.odk ks xs :: r) (.dck ks xs :: r')
  | st {d : D} {r r' : List D} : d.still = true → FrzL r r' → FrzL (d :: r) (d :: r')
theorem FrzL.eq {ds ds' : List D} (h : FrzL ds ds') : ds.map D.frz = ds' := by
  induction h with
  | nil => rfl
  | own _ ih => rw [List.map_cons, ih]; rfl
  | odk _ ih => rw [List.map_cons, ih]; rfl
  | st s _ ih => rw [List.map_cons, ih, frz_still s]
/-- how a call's arguments are handed on -/
def Pass (n : Nat) (sp : DSpec) (S : D → Prop) (T : XD) (ds : List D) : Prop := ds.length = n ∧ ((stills ds = true ∧ sp ds S T) ∨ ∃ ds', FrzL ds ds' ∧ sp ds' (fun d => d.noL = true ∧ S d) (noLX T))
theorem Pass.still {n : Nat} {sp : DSpec} {S : D → Prop} {T : XD} {ds : List D} (h1 : ds.length = n) (h2 : stills ds = true) (h : sp ds S T) : Pass n sp S T ds := ⟨h1, .inl ⟨h2, h⟩⟩
theorem Pass.own {n : Nat} {sp : DSpec} {S : D → Prop} {T : XD} {ds ds' : List D} (h1 : ds.length = n) (h2 : FrzL ds ds') (h : sp ds' (fun d => d.noL = true ∧ S d) (noLX T)) : Pass n sp S T ds := ⟨h1, .inr ⟨ds', h2, h⟩⟩
theorem WE_callP {x : Str} {n k : Nat} {sp : DSpec} {S : D → Prop} {p : Pos} {es : List Expr} (F : Fn X.prog X.w X.K X.mg X.base U k x n sp) (h : WA c (e :: es) δ (Pass n sp S T)) (hk : k ≤ lv) (hg : Gl X x) (hd : (x == ("__debug__" : Str)) = false)
    (he : starEach (e :: es) X.env = (false, eval e X.env) :: starEach es X.env) (hpl : (backTo pos (starEach es X.env)).any (·.1) = false) : WE c (.Call (.Name x p) (e :: es) [] pos) δ S := fun L σ H Q N q => by
  obtain ⟨f, fd, ps, h1, h2, h3, h4⟩ := F.ex
  refine runE_of (pe_callS h4 (c.room.mono hk) hg h1 h2 h3 (fun σ => passAt c.tk σ) pa_run hd he hpl) (h L σ H _ N fun vs H1 ds s1 r1 ⟨hn, hsp⟩ => ?_)
  have ok1 := N.ok.mono s1
  rcases hsp with ⟨st, hsp⟩ | ⟨ds', hf, hsp⟩
  · refine ⟨L, ds, S, T, ⟨hn, (N.ok.base.trans s1).g c.g⟩, ok1.lsts, r1.reps st, hsp, fun v H' d s r k => q v H' d (s1.trans s) (.of_rep r) k, fun cls od fl H' s r t => ⟨(N.ok.base.trans s1).trans s, fl, RepX.mono (hide_le N.ok.lb) r, t⟩⟩
  · have hf := hf.eq
    refine ⟨noLst H1 L, ds', fun d => d.noL = true ∧ S d, noLX T, ⟨by rw [← hf, List.length_map]; exact hn, (N.ok.base.trans s1).g c.g⟩, fun l hl => ok1.lsts l (noLst_sub l hl), by rw [← hf]; exact r1.frzs, hsp, fun v H' d s r k => ?_, fun cls od fl H' s r t => ?_⟩
    · exact q v H' d (s1.trans s) (.of_rep (Rep.noL (ok1.mono s).lsts (noLst_at s.k) d v k.1 r)) k.2
    · refine ⟨(N.ok.base.trans s1).trans s, fl, ?_, t.2⟩
      have ok2 := ok1.mono s
      cases od with
      | none => cases fl with
        | none => exact r
        | some _ => exact r
      | some d => cases fl with
        | none => exact r
        | some z =>
          obtain ⟨ns, ds2⟩ := z
          obtain ⟨vs', g1, g2⟩ := r
          have hlb : ∀ l ∈ c.Lb, MutAt H' l := fun l hl => ok2.lsts l (ok2.lb l hl)
          have g1' := (hide_at g1).2
          refine ⟨vs', (hide_ne fun z => ?_).trans g1', Reps.noL hlb (fun l hl => noLst_at s.k l (N.ok.lb l hl)) _ _ (t.1 _ _ rfl) g2⟩
          obtain ⟨o, m, g⟩ := hlb _ z
          rw [g1'] at g
          cases g
          cases m
end
section
variable {X : Cx} {P : Program} {w : World} {K : PySem.W.Frag} {mg : Str → Option Value} {base : Heap} {N : List Str} {sc : Scope} {z : Zk} {U : Pu} {lv : Nat} {T : XD} {c : Ct X U lv T} {δ δ' : List (Option D)} {S : D → Prop} {E : SE} {e a b e3 : Expr} {pos p : Pos} {es : List Expr} {x y u : Str} {i j l : Nat}
theorem eCP {n k : Nat} {sp : DSpec} (f : Fx X P w K mg base N sc z) (F : Fn P w K mg base U k x n sp) (hk : k ≤ lv) (hg : glbB sc x = true) (h : WA c (e :: es) δ (Pass n sp S T))
    (he : starEach (e :: es) X.env = (false, eval e X.env) :: starEach es X.env := by rfl) (hpl : (backTo pos (starEach es X.env)).any (·.1) = false := by rfl) : WE c (.Call (.Name x p) (e :: es) [] pos) δ S :=
  WE_callP (by rw [f.p, f.w, f.k, f.m, f.b]; exact F) h hk (f.gl hg) (glbB_ok hg).2.1 he hpl
theorem sExtT {xs : List D} {p' apos cpos : Pos} (f : Fx X P w K mg base N sc z) (hn : Nth N i x) (hd : Nth δ i (some (.own xs))) (hv : visB sc x = true) (h : WE c e δ fun d => ∃ ys, (d = .lst ys ∨ d = .tup ys) ∧ xs.length + ys.length ≤ sizeLine ∧ Sto δ i (.own (xs ++ ys)) E.nx)
    (hs : swapsWith (.Call (.Attribute (.Name x p') "extend" apos) [e] [] cpos) none pos.line X.env = pure false := by rfl)
    (hbase : attributeBase (.Name x p') "extend" X.env (eval (.Name x p') X.env) = eval (.Name x p') X.env := by rfl) (hfew : ((backTo cpos (starEach [e] X.env)).all (fun x => !x.1) && (backToKw cpos (keywordEach [] X.env)).all (fun x => x.1.isSome) && decide (([e] : List Expr).length + ([] : List Keyword).length + (if ([] : List Keyword).isEmpty then 0 else 1) < 30)) = true := by rfl)
    (hline : (apos.endLine == cpos.line) = true := by rfl) (he : starEach (e :: []) X.env = (false, eval e X.env) :: starEach [] X.env := by rfl) (hpl : (backTo cpos (starEach [] X.env)).any (·.1) = false := by rfl) :
    WS c (.Expr (.Call (.Attribute (.Name x p') "extend" apos) [e] [] cpos) pos) δ E := WS_extT i hd.get h (f.at_ hn) (f.vis hv) (visB_ok hv).2.1 (visB_ok hv).2.2 hs hbase hfew hline he hpl
theorem sPar3 {px py pu pt : Pos} {kt k2 pt2} (f : Fx X P w K mg base N sc z) (hi : Nth N i x) (hj : Nth N j y) (hl : Nth N l u) (hne : decide (i ≠ j ∧ i ≠ l ∧ j ≠ l) = true) (hx : sc.names.lookup x = some .local) (hy : sc.names.lookup y = some .local) (hu : sc.names.lookup u = some .local)
    (hw : ∀ env : Env, env.scope = sc → swappedStores [.Tuple [.Name x px, .Name y py, .Name u pu] kt pt] (.Tuple [a, b, e3] k2 pt2) env = pure (some [x, y, u]))
    (h : WA c [a, b, e3] δ fun ds => ∃ d1 d2 d3, ds = [d1, d2, d3] ∧ d1.still = true ∧ d2.still = true ∧ d3.still = true ∧ Sto δ i d1 fun δ1 => Sto δ1 j d2 fun δ2 => Sto δ2 l d3 E.nx)
    (hs : swapsWithSole [.Tuple [.Name x px, .Name y py, .Name u pu] kt pt] (.Tuple [a, b, e3] k2 pt2) pos.line X.env = pure false := by rfl) : WS c (.Assign [.Tuple [.Name x px, .Name y py, .Name u pu] kt pt] (.Tuple [a, b, e3] k2 pt2) pos) δ E := by
  have hne := of_decide_eq_true hne
  exact WS_par3 i j l h (f.at_ hi) (f.at_ hj) (f.at_ hl) hne.1 hne.2.1 hne.2.2 (by rw [f.s]; exact hx) (by rw [f.s]; exact hy) (by rw [f.s]; exact hu) (hw _ f.s) hs
/-- a, b = x, y of data that stay -/
theorem sPar2S {px py pt : Pos} {kt k2 pt2} (f : Fx X P w K mg base N sc z) (hi : Nth N i x) (hj : Nth N j y) (hne : decide (i ≠ j) = true) (hx : sc.names.lookup x = some .local) (hy : sc.names.lookup y = some .local)
    (hw : ∀ env : Env, env.scope = sc → swappedStores [.Tuple [.Name x px, .Name y py] kt pt] (.Tuple [a, b] k2 pt2) env = pure (some [x, y]))
    (h : WE c a δ fun d1 => d1.still = true ∧ WE c b δ fun d2 => d2.still = true ∧ Sto δ i d1 fun δ1 => Sto δ1 j d2 E.nx)
    (hs : swapsWithSole [.Tuple [.Name x px, .Name y py] kt pt] (.Tuple [a, b] k2 pt2) pos.line X.env = pure false := by rfl) (s1 : starEach (a :: [b]) X.env = (false, eval a X.env) :: starEach [b] X.env := by rfl) (s2 : starEach (b :: []) X.env = (false, eval b X.env) :: starEach [] X.env := by rfl) :
    WS c (.Assign [.Tuple [.Name x px, .Name y py] kt pt] (.Tuple [a, b] k2 pt2) pos) δ E := sPar2 f hi hj (of_decide_eq_true hne) hx hy (WO_of (h.mono fun d ⟨q1, q2⟩ => ⟨q1, WO_of q2⟩)) hw hs s1 s2
end
section
variable {P : Program} {w : World} {K : PySem.W.Frag} {mg : Str → Option Value} {base : Heap} {N : List Str} {sc : Scope} {U : Pu} {lv : Nat} {δ : List (Option D)} {α β : Type} {tg elt t : Expr} {scope : Scope} {ts : List Nat} {S : List D → Prop} {ds : List D}
theorem all_of {e : β → D} {xs : List α} {Q : α → β → Prop} : ∀ {ys : List D} {xs : List α}, ys.length = xs.length → (∀ (i : Nat) x y, xs[i]? = some x → ys[i]? = some y → ∃ b, y = e b ∧ Q x b) → ∃ bs : List β, ys = bs.map e ∧ bs.length = xs.length ∧ ∀ (i : Nat) x b, xs[i]? = some x → bs[i]? = some b → Q x b
  | [], [], _, _ => ⟨[], rfl, rfl, fun i x b h => by simp at h⟩
  | [], x :: xs, h, _ => by simp at h
  | y :: ys, [], h, _ => by simp at h
  | y :: ys, x :: xs, h, k => by
    obtain ⟨b, rfl, hb⟩ := k 0 x y (by simp) (by simp)
    obtain ⟨bs, rfl, h2, h3⟩ := all_of (ys := ys) (xs := xs) (by simpa using h) fun i x' y' e1 e2 => k (i + 1) x' y' (by simpa using e1) (by simpa using e2)
    refine ⟨b :: bs, rfl, by simp [h2], fun i x' b' e1 e2 => ?_⟩
    cases i with
    | zero =>
      simp at e1 e2
      subst e1
      subst e2
      exact hb
    | succ i => exact h3 i x' b' (by simpa using e1) (by simpa using e2)
/-- each turn gives one of some items -/
theorem tSomeE (e : β → D) (Q : α → β → Prop) (enc : α → D) (xs : List α) (hds : ds = xs.map enc) (h : ∀ x, x ∈ xs → BlkO P w K mg base N U lv scope sc fun c1 => AG c1 tg δ (enc x) ts fun δ2 => BlkO P w K mg base N U lv scope sc fun c3 => WE c3 elt δ2 fun y => y.still = true ∧ ∃ b, y = e b ∧ Q x b)
    (hS : ∀ bs : List β, bs.length = xs.length → (∀ (i : Nat) x b, xs[i]? = some x → bs[i]? = some b → Q x b) → S (bs.map e)) : Turns P w K mg base N U lv tg [] elt scope sc δ ts S ds :=
  tSome enc xs (fun x y => ∃ b, y = e b ∧ Q x b) hds h fun ys h1 h2 => by
    obtain ⟨bs, rfl, h3, h4⟩ := all_of (e := e) (xs := xs) h1 h2
    exact hS bs h3 h4
end
section
variable {P : Program} {w : World} {K : PySem.W.Frag} {mg : Str → Option Value} {base : Heap} {N : List Str} {sc : Scope} {U : Pu} {lv : Nat} {δ : List (Option D)} {α β : Type} {tg elt t : Expr} {scope : Scope} {ts : List Nat} {S : List D → Prop} {ds : List D}
/-- each turn gives one of some items, the same ones at each turn -/
theorem tSomeN (e : β → D) (Q : β → Prop) (enc : α → D) (xs : List α) (hds : ds = xs.map enc) (h : ∀ x, x ∈ xs → BlkO P w K mg base N U lv scope sc fun c1 => AG c1 tg δ (enc x) ts fun δ2 => BlkO P w K mg base N U lv scope sc fun c3 => WE c3 elt δ2 fun y => y.still = true ∧ ∃ b, y = e b ∧ Q b)
    (hS : ∀ bs : List β, bs.length = xs.length → (∀ b ∈ bs, Q b) → S (bs.map e)) : Turns P w K mg base N U lv tg [] elt scope sc δ ts S ds :=
  tSomeE e (fun _ b => Q b) enc xs hds h fun bs h1 h2 => hS bs h1 fun b hb => by
    obtain ⟨i, hi, rfl⟩ := List.mem_iff_getElem.mp hb
    exact h2 i (xs[i]'(by omega)) _ (by simp) (by simp)
end
/-! ### == on data of ints -/
theorem fits_tI (n : Nat) (rs : List (List Int)) : fits (n + 1) (rs.map tI) = true := fits_all _ _ fun d hd => by
  obtain ⟨r, _, rfl⟩ := List.mem_map.mp hd
  show fits n (r.map D.int) = true
  exact fits_ints n r
theorem fit_tII (n : Nat) (rs : List (List Int)) : fit (n + 2) (tII rs) = true := fits_tI n rs
theorem fit_tI (n : Nat) (r : List Int) : fit (n + 1) (tI r) = true := fits_ints n r
theorem eqv_tI (r s : List Int) : (tI r).eqv (tI s) = decide (r = s) := by
  unfold tI D.eqv
  exact eqvs_ints r s
theorem eqv_tII (r s : List (List Int)) : (tII r).eqv (tII s) = decide (r = s) := by
  unfold tII D.eqv
  exact eqvs_map tI eqv_tI r s
theorem swapped_at {env : Env} {sc : Scope} (he : env.scope = sc) (ts : List Expr) (v : Expr) {r : Sem (Option (List Str))} (h : swappedStores ts v { scope := sc, locals := 0, globals := 0, cells := [] } = r) : swappedStores ts v env = r := by
  rw [← h]
  exact swapped_of (env := env) (env' := { scope := sc, locals := 0, globals := 0, cells := [] }) he ts v
end Dl

set_option maxRecDepth 100000
set_option maxHeartbeats 4000000
/-! # Readings over data: what a def's body asks, with no syntax in sight -/
namespace Dl
open PySem PySem.Spec PyProof.Rows L2

/-- what is fixed of a block -/
structure Fr where
  P : Program
  w : World
  K : PySem.W.Frag
  mg : Str → Option Value
  base : Heap
  N : List Str
  sc : Scope
  z : Zk
  U : Pu
  lv : Nat
abbrev Fr.X (f : Fr) (X : Cx) : Prop := Fx X f.P f.w f.K f.mg f.base f.N f.sc f.z
/-- a lambda's names, called by a def that it is handed to -/
def Fr.lam (f : Fr) (s : Scope) : Fr := { f with sc := s, z := .blk s, lv := f.lv - 2 }
def Fr.blk (f : Fr) (s : Scope) : Fr := { f with sc := relS s f.sc, z := .blk s }

abbrev RdE := XD → List (Option D) → (D → Prop) → Prop
abbrev RdOp := XD → D → D → (D → Prop) → Prop
abbrev RdT := XD → List (Option D) → (Bool → Prop) → Prop
abbrev RdA := XD → List (Option D) → (List D → Prop) → Prop
abbrev RdO := XD → List (Option D) → (Option Int → Prop) → Prop
abbrev RdG := List (Option D) → D → (List (Option D) → Prop) → Prop
abbrev RdGs := List (Option D) → List D → (List (Option D) → Prop) → Prop
abbrev RdS := XD → List (Option D) → SE → Prop

structure ReE (f : Fr) (e : Expr) (t : RdE)  : Prop where
  run : ∀ {X : Cx} {T : XD} (c : Ct X f.U f.lv T), f.X X → ∀ (δ : List (Option D)) (S : D → Prop), t T δ S → WE c e δ S
instance {f : Fr} {e : Expr} {t : RdE}  : CoeFun (ReE f e t) fun _ => ∀ {X : Cx} {T : XD} (c : Ct X f.U f.lv T), f.X X → ∀ (δ : List (Option D)) (S : D → Prop), t T δ S → WE c e δ S := ⟨fun h => h.run⟩
structure ReT (f : Fr) (e : Expr) (t : RdT)  : Prop where
  run : ∀ {X : Cx} {T : XD} (c : Ct X f.U f.lv T), f.X X → ∀ (δ : List (Option D)) (S : Bool → Prop), t T δ S → WT c e δ S
instance {f : Fr} {e : Expr} {t : RdT}  : CoeFun (ReT f e t) fun _ => ∀ {X : Cx} {T : XD} (c : Ct X f.U f.lv T), f.X X → ∀ (δ : List (Option D)) (S : Bool → Prop), t T δ S → WT c e δ S := ⟨fun h => h.run⟩
structure ReW (f : Fr) (e : Expr) (t : RdT)  : Prop where
  run : ∀ {X : Cx} {T : XD} (c : Ct X f.U f.lv T), f.X X → ∀ (δ : List (Option D)) (S : Bool → Prop), t T δ S → WW c e δ S
instance {f : Fr} {e : Expr} {t : RdT}  : CoeFun (ReW f e t) fun _ => ∀ {X : Cx} {T : XD} (c : Ct X f.U f.lv T), f.X X → ∀ (δ : List (Option D)) (S : Bool → Prop), t T δ S → WW c e δ S := ⟨fun h => h.run⟩
structure ReA (f : Fr) (es : List Expr) (t : RdA)  : Prop where
  run : ∀ {X : Cx} {T : XD} (c : Ct X f.U f.lv T), f.X X → ∀ (δ : List (Option D)) (S : List D → Prop), t T δ S → WA c es δ fun ds => ds.length = es.length ∧ S ds
instance {f : Fr} {es : List Expr} {t : RdA}  : CoeFun (ReA f es t) fun _ => ∀ {X : Cx} {T : XD} (c : Ct X f.U f.lv T), f.X X → ∀ (δ : List (Option D)) (S : List D → Prop), t T δ S → WA c es δ fun ds => ds.length = es.length ∧ S ds := ⟨fun h => h.run⟩
structure ReP (f : Fr) (e : Option Expr) (t : RdO)  : Prop where
  run : ∀ {X : Cx} {T : XD} (c : Ct X f.U f.lv T), f.X X → ∀ (δ : List (Option D)) (S : Option Int → Prop), t T δ S → WP c e δ S
instance {f : Fr} {e : Option Expr} {t : RdO}  : CoeFun (ReP f e t) fun _ => ∀ {X : Cx} {T : XD} (c : Ct X f.U f.lv T), f.X X → ∀ (δ : List (Option D)) (S : Option Int → Prop), t T δ S → WP c e δ S := ⟨fun h => h.run⟩
structure ReI (f : Fr) (tg e : Expr) (t : RdA)  : Prop where
  run : ∀ {X : Cx} {T : XD} (c : Ct X f.U f.lv T), f.X X → ∀ (δ : List (Option D)) (S : List D → Prop), t T δ S → WI c tg e δ S
instance {f : Fr} {tg e : Expr} {t : RdA}  : CoeFun (ReI f tg e t) fun _ => ∀ {X : Cx} {T : XD} (c : Ct X f.U f.lv T), f.X X → ∀ (δ : List (Option D)) (S : List D → Prop), t T δ S → WI c tg e δ S := ⟨fun h => h.run⟩
structure ReJ (f : Fr) (tg e : Expr) (t : RdA)  : Prop where
  run : ∀ {X : Cx} {T : XD} (c : Ct X f.U f.lv T), f.X X → ∀ (δ : List (Option D)) (S : List D → Prop), t T δ S → WJ c tg e δ S
instance {f : Fr} {tg e : Expr} {t : RdA}  : CoeFun (ReJ f tg e t) fun _ => ∀ {X : Cx} {T : XD} (c : Ct X f.U f.lv T), f.X X → ∀ (δ : List (Option D)) (S : List D → Prop), t T δ S → WJ c tg e δ S := ⟨fun h => h.run⟩
structure ReF (f : Fr) (e : Expr) (t : RdA)  : Prop where
  run : ∀ {X : Cx} {T : XD} (c : Ct X f.U f.lv T), f.X X → ∀ (δ : List (Option D)) (S : List D → Prop), t T δ S → WF c e δ S
instance {f : Fr} {e : Expr} {t : RdA}  : CoeFun (ReF f e t) fun _ => ∀ {X : Cx} {T : XD} (c : Ct X f.U f.lv T), f.X X → ∀ (δ : List (Option D)) (S : List D → Prop), t T δ S → WF c e δ S := ⟨fun h => h.run⟩
structure ReO (f : Fr) (e : Expr) (t : RdE)  : Prop where
  run : ∀ {X : Cx} {T : XD} (c : Ct X f.U f.lv T), f.X X → ∀ (δ : List (Option D)) (S : D → Prop), t T δ S → WO c e δ S
instance {f : Fr} {e : Expr} {t : RdE}  : CoeFun (ReO f e t) fun _ => ∀ {X : Cx} {T : XD} (c : Ct X f.U f.lv T), f.X X → ∀ (δ : List (Option D)) (S : D → Prop), t T δ S → WO c e δ S := ⟨fun h => h.run⟩
structure ReG (f : Fr) (tg : Expr) (ts : List Nat) (t : RdG)  : Prop where
  run : ∀ {X : Cx} {T : XD} (c : Ct X f.U f.lv T), f.X X → ∀ (δ : List (Option D)) (d : D) (Q : List (Option D) → Prop), t δ d Q → AG c tg δ d ts Q
instance {f : Fr} {tg : Expr} {ts : List Nat} {t : RdG}  : CoeFun (ReG f tg ts t) fun _ => ∀ {X : Cx} {T : XD} (c : Ct X f.U f.lv T), f.X X → ∀ (δ : List (Option D)) (d : D) (Q : List (Option D) → Prop), t δ d Q → AG c tg δ d ts Q := ⟨fun h => h.run⟩
structure ReGs (f : Fr) (tgs : List Expr) (ts : List Nat) (t : RdGs)  : Prop where
  run : ∀ {X : Cx} {T : XD} (c : Ct X f.U f.lv T), f.X X → ∀ (δ : List (Option D)) (ds : List D) (Q : List (Option D) → Prop), t δ ds Q → AGs c tgs δ ds ts Q
instance {f : Fr} {tgs : List Expr} {ts : List Nat} {t : RdGs}  : CoeFun (ReGs f tgs ts t) fun _ => ∀ {X : Cx} {T : XD} (c : Ct X f.U f.lv T), f.X X → ∀ (δ : List (Option D)) (ds : List D) (Q : List (Option D) → Prop), t δ ds Q → AGs c tgs δ ds ts Q := ⟨fun h => h.run⟩
structure ReS (f : Fr) (st : Stmt) (t : RdS)  : Prop where
  run : ∀ {X : Cx} {T : XD} (c : Ct X f.U f.lv T), f.X X → ∀ (δ : List (Option D)) (E : SE), t T δ E → WS c st δ E
instance {f : Fr} {st : Stmt} {t : RdS}  : CoeFun (ReS f st t) fun _ => ∀ {X : Cx} {T : XD} (c : Ct X f.U f.lv T), f.X X → ∀ (δ : List (Option D)) (E : SE), t T δ E → WS c st δ E := ⟨fun h => h.run⟩
structure ReSs (f : Fr) (sts : List Stmt) (t : RdS)  : Prop where
  run : ∀ {X : Cx} {T : XD} (c : Ct X f.U f.lv T), f.X X → ∀ (δ : List (Option D)) (E : SE), t T δ E → WSs c sts δ E
instance {f : Fr} {sts : List Stmt} {t : RdS}  : CoeFun (ReSs f sts t) fun _ => ∀ {X : Cx} {T : XD} (c : Ct X f.U f.lv T), f.X X → ∀ (δ : List (Option D)) (E : SE), t T δ E → WSs c sts δ E := ⟨fun h => h.run⟩

/-! ### slots -/
def sl : List (Option D) → Nat → Option D
  | [], _ => none
  | a :: _, 0 => a
  | _ :: r, i + 1 => sl r i
def st : List (Option D) → Nat → Option D → List (Option D)
  | [], _, _ => []
  | _ :: r, 0, o => o :: r
  | a :: r, i + 1, o => a :: st r i o
theorem sl_eq : ∀ {δ : List (Option D)} {i : Nat} {d : D}, sl δ i = some d → δ[i]? = some (some d)
  | [], _, _, h => by simp [sl] at h
  | a :: _, 0, d, h => by simp [sl] at h; simp [h]
  | _ :: r, i + 1, d, h => by
    have := sl_eq (δ := r) (i := i) h
    simpa using this
theorem st_eq : ∀ (δ : List (Option D)) (i : Nat) (o : Option D), st δ i o = δ.set i o
  | [], _, _ => rfl
  | a :: r, 0, o => rfl
  | a :: r, i + 1, o => by
    show a :: st r i o = _
    rw [st_eq r i o]
    rfl
def wp : List (Option D) → List Nat → List (Option D)
  | δ, [] => δ
  | δ, v :: vs => st (wp δ vs) v none
theorem wp_eq (δ : List (Option D)) : ∀ vs, wp δ vs = wipeD δ vs
  | [] => rfl
  | v :: vs => by
    show st (wp δ vs) v none = _
    rw [wp_eq δ vs, st_eq]
    rfl
def fo : Option D → Option D
  | none => none
  | some d => some d.frz
def fz : List (Option D) → List (Option D)
  | [] => []
  | a :: r => fo a :: fz r
theorem fz_eq : ∀ δ : List (Option D), fz δ = δ.map (Option.map D.frz)
  | [] => rfl
  | a :: r => by
    show fo a :: fz r = _
    rw [fz_eq r]
    cases a <;> rfl
/-- slots written out -/
def fc : List (Option D) → (List (Option D) → Prop) → Prop
  | [], k => k []
  | a :: r, k => fc r fun r' => k (a :: r')
theorem fc_eq : ∀ (δ : List (Option D)) (k : List (Option D) → Prop), fc δ k = k δ
  | [], k => rfl
  | a :: r, k => fc_eq r fun r' => k (a :: r')
/-- by a flag -/
def brB : Bool → Prop → Prop → Prop
  | true, A, _ => A
  | false, _, B => B
theorem brB_if {b : Bool} {A B : Prop} (h : brB b A B) : if b = true then A else B := by
  cases b with
  | true => rw [if_pos rfl]; exact h
  | false => rw [if_neg Bool.false_ne_true]; exact h
theorem brB_mk {b : Bool} {A B : Prop} (h1 : b = true → A) (h2 : b = false → B) : brB b A B := by
  cases b with
  | true => exact h1 rfl
  | false => exact h2 rfl
theorem brB_t {b : Bool} {A B : Prop} (e : b = true) (h : A) : brB b A B := by rw [e]; exact h
theorem brB_f {b : Bool} {A B : Prop} (e : b = false) (h : B) : brB b A B := by rw [e]; exact h
theorem brB_p {p : Prop} [Decidable p] {A B : Prop} (h1 : p → A) (h2 : ¬p → B) : brB (decide p) A B := brB_mk (fun h => h1 (of_decide_eq_true h)) (fun h => h2 (of_decide_eq_false h))
theorem brB_n {p : Prop} [Decidable p] {A B : Prop} (h1 : ¬p → A) (h2 : p → B) : brB (!decide p) A B := brB_mk (fun h => h1 (by simpa using h)) (fun h => h2 (by simpa using h))
theorem brB_pt {p : Prop} [Decidable p] {A B : Prop} (h1 : p) (h : A) : brB (decide p) A B := brB_t (decide_eq_true h1) h
theorem brB_pf {p : Prop} [Decidable p] {A B : Prop} (h1 : ¬p) (h : B) : brB (decide p) A B := brB_f (decide_eq_false h1) h
theorem brB_nt {p : Prop} [Decidable p] {A B : Prop} (h1 : p) (h : B) : brB (!decide p) A B := brB_f (by simpa using h1) h
theorem brB_nf {p : Prop} [Decidable p] {A B : Prop} (h1 : ¬p) (h : A) : brB (!decide p) A B := brB_t (by simpa using h1) h
theorem brB_xt {b : Bool} {A B : Prop} (h1 : b = true) (h : B) : brB (!b) A B := brB_f (by rw [h1]; rfl) h
theorem brB_xf {b : Bool} {A B : Prop} (h1 : b = false) (h : A) : brB (!b) A B := brB_t (by rw [h1]; rfl) h
/-- what is stored stays -/
def stP : D → Prop → Prop
  | .own _, _ => False
  | .odk _ _, _ => False
  | _, A => A
theorem stP_ok {d : D} {A : Prop} (h : stP d A) : d.still = true ∧ A := by
  cases d with
  | own xs => exact False.elim h
  | odk _ _ => exact False.elim h
  | _ => exact ⟨rfl, h⟩
theorem stP_of {d : D} {A : Prop} (s : d.still = true) (h : A) : stP d A := by
  cases d with
  | own xs => cases s
  | odk _ _ => cases s
  | _ => exact h
/-- a call's arguments: own lists are read alone -/
def calB : Bool → DSpec → (D → Prop) → XD → List D → Prop
  | true, sp, S, T, ds => sp ds S T
  | false, sp, S, T, ds => sp (ds.map D.frz) (fun d => d.noL = true ∧ S d) (noLX T)
def calR (sp : DSpec) (S : D → Prop) (T : XD) (ds : List D) : Prop := calB (stills ds) sp S T ds
theorem frzL_any : ∀ ds : List D, FrzL ds (ds.map D.frz)
  | [] => .nil
  | d :: ds => by
    have ih := frzL_any ds
    cases d with
    | own xs => exact .own ih
    | odk _ _ => exact .odk ih
    | _ => exact .st rfl ih
theorem calR_ok {n : Nat} {sp : DSpec} {S : D → Prop} {T : XD} {ds : List D} (hn : ds.length = n) (h : calR sp S T ds) : Pass n sp S T ds := by
  unfold calR at h
  cases e : stills ds with
  | true =>
    rw [e] at h
    exact .still hn e h
  | false =>
    rw [e] at h
    exact .own hn (frzL_any ds) h
theorem calR_s {sp : DSpec} {S : D → Prop} {T : XD} {ds : List D} (s : stills ds = true) (h : sp ds S T) : calR sp S T ds := by
  unfold calR
  rw [s]
  exact h

/-! ### expressions -/
namespace Rd
def vD (S : D → Prop) (o : Option D) : Prop := match o with
  | some d => S d
  | none => False
def v (i : Nat) : RdE := fun _ δ S => vD S (sl δ i)
def g (d : D) : RdE := fun _ _ S => S d
def bin (op : RdOp) (a b : RdE) : RdE := fun T δ S => a T δ fun x => b T δ fun y => op T x y S
def un (op : D → (D → Prop) → Prop) (a : RdE) : RdE := fun T δ S => a T δ fun x => op x S
def blD (A : Bool → Prop) (z : D) : Prop := match z with
  | .bl k => A k
  | _ => False
def chain (o o' : RdOp) (a b c : RdE) : RdE := fun T δ S => a T δ fun x => b T δ fun y => o T x y (blD fun k => brB k (c T δ fun y' => o' T y y' S) (S (.bl false)))
def nonB : D → Option Bool
  | .non => some true
  | .pur => none
  | .any _ => none
  | _ => some false
def oB (A : Bool → Prop) (o : Option Bool) : Prop := match o with
  | some b => A b
  | none => False
def isN (a : RdE) : RdE := fun T δ S => a T δ fun x => oB (fun b => S (.bl b)) (nonB x)
def notN (a : RdE) : RdE := fun T δ S => a T δ fun x => oB (fun b => S (.bl (!b))) (nonB x)
def and (a b : RdE) : RdE := fun T δ S => a T δ (blD fun k => brB k (b T δ S) (S (.bl false)))
def or (a b : RdE) : RdE := fun T δ S => a T δ (blD fun k => brB k (S (.bl true)) (b T δ S))
def not (a : RdE) : RdE := fun T δ S => a T δ (blD fun k => S (.bl (!k)))
def ite (t : RdT) (a b : RdE) : RdE := fun T δ S => t T δ fun k => brB k (a T δ S) (b T δ S)
def nil : RdA := fun _ _ S => S []
def cons (a : RdE) (as : RdA) : RdA := fun T δ S => a T δ fun d => as T δ fun ds => S (d :: ds)
def stiD (b : Bool) (A : Prop) : Prop := match b with
  | true => A
  | false => False
def tup (as : RdA) : RdE := fun T δ S => as T δ fun ds => stiD (stills ds) (S (.tup ds))
def lst (as : RdA) : RdE := fun T δ S => as T δ fun ds => stiD (stills ds) (S (.lst ds))
def ixI (xs : List D) (S : D → Prop) (y : D) : Prop := match y with
  | .int i => ∃ d, atI xs i = some d ∧ S d
  | _ => False
def ixD (S : D → Prop) (y x : D) : Prop := match x with
  | .tup xs => ixI xs S y
  | .lst xs => ixI xs S y
  | .own xs => ixI xs S y
  | _ => False
def ix (a b : RdE) : RdE := fun T δ S => a T δ fun x => b T δ fun y => ixD S y x
def cutR (i j : Option Int) (S : D → Prop) (x : D) : Prop := match x with
  | .tup xs => S (.tup (cutD xs i j))
  | .lst xs => S (.lst (cutD xs i j))
  | .own xs => S (.lst (cutD xs i j))
  | _ => False
def slc (a : RdE) (lo hi : RdO) : RdE := fun T δ S => a T δ fun x => lo T δ fun i => hi T δ fun j => cutR i j S x
def noP : RdO := fun _ _ S => S none
def intP' (A : Int → Prop) (x : D) : Prop := match x with
  | .int i => A i
  | _ => False
def atP (a : RdE) : RdO := fun T δ S => a T δ (intP' fun i => S (some i))
def fldD (K : PySem.W.Frag) (f : Str) (S : D → Prop) (x : D) : Prop := match x with
  | .obj C ns ds => OkC K C ns ∧ decide (f ∈ ns) = true ∧ ∃ d, (ns.zip ds).lookup f = some d ∧ S d
  | _ => False
def fld (K : PySem.W.Frag) (a : RdE) (f : Str) : RdE := fun T δ S => a T δ (fldD K f S)
def call (sp : DSpec) (as : RdA) : RdE := fun T δ S => as T δ fun ds => calR sp S T ds
def cons' (sp : DSpec) (as : RdA) : RdE := fun T δ S => as T δ fun ds => stiD (stills ds) (sp ds S T)
def blt (cR : List D → (D → Prop) → Prop) (as : RdA) : RdE := fun T δ S => as T δ fun ds => cR ds S
/-! tests -/
def tval (a : RdE) : RdT := fun T δ S => a T δ (blD S)
def tcmp (op : RdOp) (a b : RdE) : RdT := fun T δ S => a T δ fun x => b T δ fun y => op T x y (blD S)
def tisN (a : RdE) : RdT := fun T δ S => a T δ fun x => oB S (nonB x)
def tnotN (a : RdE) : RdT := fun T δ S => a T δ fun x => oB (fun b => S (!b)) (nonB x)
def tnot (t : RdT) : RdT := fun T δ S => t T δ fun k => S (!k)
def tand (a b : RdT) : RdT := fun T δ S => a T δ fun k => brB k (b T δ S) (S false)
def tor (a b : RdT) : RdT := fun T δ S => a T δ fun k => brB k (S true) (b T δ S)
/-! targets -/
def tv (i : Nat) : RdG := fun δ d Q => fc (st δ i (some d)) Q
def gN : RdGs := fun δ ds Q => match ds with
  | [] => Q δ
  | _ => False
def gC (a : RdG) (b : RdGs) : RdGs := fun δ ds Q => match ds with
  | d :: r => a δ d fun δ1 => b δ1 r Q
  | [] => False
def lenP (n : Nat) (ds : List D) (A : Prop) : Prop := match Nat.beq ds.length n with
  | true => A
  | false => False
def tupD (A : List D → Prop) (d : D) : Prop := match d with
  | .tup ds => A ds
  | _ => False
def tt (n : Nat) (gs : RdGs) : RdG := fun δ d Q => tupD (fun ds => lenP n ds (gs δ ds Q)) d
/-! sources -/
def seqD (S : List D → Prop) (x : D) : Prop := match x with
  | .tup ds => S ds
  | .lst ds => S ds
  | _ => False
def seq (a : RdE) : RdA := fun T δ S => a T δ (seqD S)
def seqJD (S : List D → Prop) (x : D) : Prop := match x with
  | .tup ds => S ds
  | .lst ds => S ds
  | .own ds => S ds
  | _ => False
def seqJ (a : RdE) : RdA := fun T δ S => a T δ (seqJD S)
def rng1 (a : RdE) : RdA := fun T δ S => a T δ (intP' fun n => (n ≤ 8000000 ∧ -8000000 ≤ n) ∧ S ((List.range n.toNat).map fun (k : Nat) => D.int (0 + k)))
def rng2 (a b : RdE) : RdA := fun T δ S => a T δ (intP' fun m => b T δ (intP' fun n => (n ≤ 8000000 ∧ -8000000 ≤ n ∧ m ≤ 8000000 ∧ -8000000 ≤ m) ∧ S ((List.range (n - m).toNat).map fun (k : Nat) => D.int (m + k))))
def zipD (S : List D → Prop) (x y : D) : Prop := match x, y with
  | .tup xs, .tup ys => S (pairs xs ys)
  | .lst xs, .lst ys => S (pairs xs ys)
  | _, _ => False
def zip (a b : RdE) : RdA := fun T δ S => a T δ fun x => b T δ fun y => zipD S x y
def enumD (S : List D → Prop) (x : D) : Prop := match x with
  | .tup xs => S (numbered xs)
  | .lst xs => S (numbered xs)
  | _ => False
def enum (a : RdE) : RdA := fun T δ S => a T δ (enumD S)
/-- a comprehension's turns -/
@[irreducible] def turns (tg : RdG) (tests : RdT) (elt : RdE) (δ : List (Option D)) (S : List D → Prop) (ds : List D) : Prop :=
  ∃ Pv : Nat → List D → Prop, Pv 0 [] ∧ (∀ (i : Nat) (d : D) (ys : List D), ds[i]? = some d → ys.length ≤ i → Pv i ys → tg δ d fun δ2 => tests noX δ2 fun b => brB b (elt noX δ2 fun y => y.still = true ∧ Pv (i + 1) (ys ++ [y])) (Pv (i + 1) ys)) ∧ ∀ ys, ys.length ≤ ds.length → Pv ds.length ys → S ys
def noT : RdT := fun _ _ S => S true
def lcF (own : List Nat) (src : RdA) (tg : RdG) (tests : RdT) (elt : RdE) : RdA := fun T δ S => src T δ fun ds => fc (wp δ own) fun δ' => turns tg tests elt δ' S ds
def lc (own : List Nat) (src : RdA) (tg : RdG) (tests : RdT) (elt : RdE) : RdE := fun T δ S => src T δ fun ds => fc (wp δ own) fun δ' => turns tg tests elt δ' (fun ys => S (.lst ys)) ds
/-! statements -/
def skip : RdS := fun _ δ E => E.nx δ
def sq (a b : RdS) : RdS := fun T δ E => a T δ { E with nx := fun δ' => b T δ' E }
def brk : RdS := fun _ δ E => E.bk δ
def cnt : RdS := fun _ δ E => E.ct δ
def ret (a : RdE) : RdS := fun T δ E => fc (fz δ) fun δ' => a T δ' E.rt
def retN : RdS := fun _ _ E => E.rt .non
def ex (a : RdE) : RdS := fun T δ E => a T δ fun _ => E.nx δ
def cond (t : RdT) (a b : RdS) : RdS := fun T δ E => t T δ fun k => brB k (a T δ E) (b T δ E)
def set (i : Nat) (a : RdE) : RdS := fun T δ E => a T δ fun d => stP d (fc (st δ i (some d)) E.nx)
def setF (i : Nat) (a : RdA) : RdS := fun T δ E => a T δ fun ds => fc (st δ i (some (.own ds))) E.nx
def setL (i : Nat) (a : RdA) : RdS := fun T δ E => a T δ fun ds => fc (st δ i (some (.lst ds))) E.nx
def unp (a : RdE) (gs : RdG) : RdS := fun T δ E => a T δ fun d => stP d (gs δ d E.nx)
def par2 (i j : Nat) (a b : RdE) : RdS := fun T δ E => a T δ fun d1 => stP d1 (b T δ fun d2 => stP d2 (fc (st (st δ i (some d1)) j (some d2)) E.nx))
def par3 (i j l : Nat) (a b c : RdE) : RdS := fun T δ E => a T δ fun d1 => stP d1 (b T δ fun d2 => stP d2 (c T δ fun d3 => stP d3 (fc (st (st (st δ i (some d1)) j (some d2)) l (some d3)) E.nx)))
/-- a, b = [..], [..]: lists of one's own -/
def par2F (i j : Nat) (a b : RdA) : RdS := fun T δ E => a T δ fun ds => b T δ fun es => fc (st (st δ i (some (.own ds))) j (some (.own es))) E.nx
def ownP (o : Option D) (A : List D → Prop) : Prop := match o with
  | some (.own xs) => A xs
  | _ => False
def app (i : Nat) (a : RdE) : RdS := fun T δ E => ownP (sl δ i) fun xs => a T δ fun d => stP d (xs.length < sizeLine ∧ fc (st δ i (some (.own (xs ++ [d])))) E.nx)
def extD (n : Nat) (A : List D → Prop) (d : D) : Prop := match d with
  | .lst ys => n + ys.length ≤ sizeLine ∧ A ys
  | .tup ys => n + ys.length ≤ sizeLine ∧ A ys
  | _ => False
def ext (i : Nat) (a : RdE) : RdS := fun T δ E => ownP (sl δ i) fun xs => a T δ (extD xs.length fun ys => fc (st δ i (some (.own (xs ++ ys)))) E.nx)
def intD (A : Int → Prop) (d : D) : Prop := match d with
  | .int k => A k
  | _ => False
def put (i : Nat) (ix a : RdE) : RdS := fun T δ E => ownP (sl δ i) fun xs => a T δ fun d => stP d (ix T δ (intD fun k => ∃ j, ixN xs.length k = some j ∧ fc (st δ i (some (.own (xs.set j d)))) E.nx))
def intP (o : Option D) (A : Int → Prop) : Prop := match o with
  | some (.int n) => A n
  | _ => False
def aug (i : Nat) (a : RdE) : RdS := fun T δ E => intP (sl δ i) fun n => a T δ (intD fun m => fc (st δ i (some (.int (n + m)))) E.nx)
/-- what a loop is to show -/
@[irreducible] def loopG (tg : RdG) (body : RdS) (T : XD) (δ : List (Option D)) (E : SE) (ds : List D) : Prop := ∃ I : Nat → List (Option D) → Prop, I 0 δ ∧
  (∀ (i : Nat) (d : D) (δ' : List (Option D)), ds[i]? = some d → I i δ' → tg δ' d fun δ2 => body T δ2 { E with nx := I (i + 1), ct := I (i + 1), bk := E.nx }) ∧ ∀ δ', I ds.length δ' → E.nx δ'
def loop (src : RdA) (tg : RdG) (body : RdS) : RdS := fun T δ E => src T δ fun ds => loopG tg body T δ E ds
@[irreducible] def whilG (t : RdT) (body : RdS) (T : XD) (δ : List (Option D)) (E : SE) : Prop := ∃ (I : Nat → List (Option D) → Prop) (m0 : Nat), I m0 δ ∧ ∀ m δ', I m δ' → t T δ' fun b => brB b (body T δ' { E with nx := fun δ2 => ∃ m', m' < m ∧ I m' δ2, ct := fun δ2 => ∃ m', m' < m ∧ I m' δ2, bk := E.nx }) (E.nx δ')
def whil (t : RdT) (body : RdS) : RdS := fun T δ E => whilG t body T δ E
end Rd
end Dl

set_option maxRecDepth 100000
set_option maxHeartbeats 4000000
/-! # Operators, built-in calls by data; how a body is read -/
namespace Dl
open PySem PySem.Spec PyProof.Rows L2
/-! ### operators -/
/-- repeated -/
def repT (n : Nat) (xs : List D) : List D := match xs with
  | [.int 0] => (zeros n).map D.int
  | xs => (List.replicate n xs).flatten
theorem repT_eq (n : Nat) (xs : List D) : repT n xs = (List.replicate n xs).flatten := by
  unfold repT
  split
  · exact (rep_zeros n).symm
  · rfl
namespace Op
def add : RdOp := fun _ x y S => match x, y with
  | .int i, .int j => S (.int (i + j))
  | .tup xs, .tup ys => xs.length + ys.length ≤ sizeLine ∧ S (.tup (xs ++ ys))
  | .lst xs, .lst ys => xs.length + ys.length ≤ sizeLine ∧ S (.lst (xs ++ ys))
  | .own xs, .lst ys => xs.length + ys.length ≤ sizeLine ∧ S (.lst (xs ++ ys))
  | .lst xs, .own ys => xs.length + ys.length ≤ sizeLine ∧ S (.lst (xs ++ ys))
  | .own xs, .own ys => xs.length + ys.length ≤ sizeLine ∧ S (.lst (xs ++ ys))
  | .str a, .str b => a.length + b.length ≤ sizeLine ∧ S (.str (a ++ b))
  | _, _ => False
def sub : RdOp := fun _ x y S => match x, y with
  | .int i, .int j => S (.int (i - j))
  | _, _ => False
def mul : RdOp := fun _ x y S => match x, y with
  | .int i, .int j => CMul i j ∧ S (.int (i * j))
  | .tup xs, .int n => (-1000 ≤ n ∧ n ≤ 1000 ∧ xs.length ≤ 1000) ∧ S (.tup (repT n.toNat xs))
  | .lst xs, .int n => (-1000 ≤ n ∧ n ≤ 1000 ∧ xs.length ≤ 1000) ∧ S (.lst (List.replicate n.toNat xs).flatten)
  | _, _ => False
def div : RdOp := fun _ x y S => match x, y with
  | .int i, .int j => (0 < j ∧ j < 1073741824) ∧ S (.int (i / j))
  | _, _ => False
def mod : RdOp := fun _ x y S => match x, y with
  | .int i, .int j => 0 < j ∧ S (.int (i % j))
  | _, _ => False
def pow : RdOp := fun _ x y S => match x, y with
  | .int i, .int j => CPow i j ∧ S (.int (i ^ j.toNat))
  | _, _ => False
def neg : D → (D → Prop) → Prop := fun x S => match x with
  | .int i => S (.int (-i))
  | _ => False
def eq : RdOp := fun _ x y S => match x, y with
  | .int i, .int j => S (.bl (decide (i = j)))
  | x, y => (fit 64 x = true ∧ fit 64 y = true) ∧ S (.bl (x.eqv y))
def ne : RdOp := fun _ x y S => match x, y with
  | .int i, .int j => S (.bl (decide (i ≠ j)))
  | x, y => (fit 64 x = true ∧ fit 64 y = true) ∧ S (.bl (!x.eqv y))
/-- == where the left one may be an object -/
def eqO (eo : DSpec) : RdOp := fun T x y S => match x with
  | .obj C ns ds => stP y (eo [.obj C ns ds, y] (fun d => ∃ b, d = .bl b ∧ S (.bl b)) T)
  | x => eq T x y S
def lt : RdOp := fun _ x y S => match x, y with
  | .int i, .int j => S (.bl (decide (i < j)))
  | _, _ => False
def le : RdOp := fun _ x y S => match x, y with
  | .int i, .int j => S (.bl (decide (i ≤ j)))
  | _, _ => False
def gt : RdOp := fun _ x y S => match x, y with
  | .int i, .int j => S (.bl (decide (j < i)))
  | _, _ => False
def ge : RdOp := fun _ x y S => match x, y with
  | .int i, .int j => S (.bl (decide (j ≤ i)))
  | _, _ => False
def isin : RdOp := fun _ x y S => match y with
  | .tup ys => (x.flat = true ∧ ys.all D.flat = true) ∧ S (.bl (ys.any fun e => e.eqv x))
  | .lst ys => (x.flat = true ∧ ys.all D.flat = true) ∧ S (.bl (ys.any fun e => e.eqv x))
  | .own ys => (x.flat = true ∧ ys.all D.flat = true) ∧ S (.bl (ys.any fun e => e.eqv x))
  | _ => False
def nin : RdOp := fun _ x y S => match y with
  | .tup ys => (x.flat = true ∧ ys.all D.flat = true) ∧ S (.bl (!ys.any fun e => e.eqv x))
  | .lst ys => (x.flat = true ∧ ys.all D.flat = true) ∧ S (.bl (!ys.any fun e => e.eqv x))
  | .own ys => (x.flat = true ∧ ys.all D.flat = true) ∧ S (.bl (!ys.any fun e => e.eqv x))
  | _ => False
end Op
/-! ### built-in calls -/
namespace Bi
abbrev RdB := List D → (D → Prop) → Prop
def len : RdB := fun ds S => match ds with
  | [.tup xs] => S (.int xs.length)
  | [.lst xs] => S (.int xs.length)
  | [.own xs] => S (.int xs.length)
  | [.str z] => z.length ≤ sizeLine ∧ S (.int z.length)
  | _ => False
def sum : RdB := fun ds S => match ds with
  | [.lst xs] => ∃ ns : List Int, xs = ns.map D.int ∧ S (.int ns.sum)
  | [.own xs] => ∃ ns : List Int, xs = ns.map D.int ∧ S (.int ns.sum)
  | _ => False
def all : RdB := fun ds S => match ds with
  | [.lst xs] => ∃ bs : List Bool, xs = bs.map D.bl ∧ S (.bl (bs.all id))
  | [.own xs] => ∃ bs : List Bool, xs = bs.map D.bl ∧ S (.bl (bs.all id))
  | _ => False
def any : RdB := fun ds S => match ds with
  | [.lst xs] => ∃ bs : List Bool, xs = bs.map D.bl ∧ S (.bl (bs.any id))
  | [.own xs] => ∃ bs : List Bool, xs = bs.map D.bl ∧ S (.bl (bs.any id))
  | _ => False
def abs : RdB := fun ds S => match ds with
  | [.int i] => S (.int (if i < 0 then -i else i))
  | _ => False
def max : RdB := fun ds S => match ds with
  | [.int i, .int j] => S (.int (if j > i then j else i))
  | [.lst xs] => ∃ ns : List Int, xs = ns.map D.int ∧ 0 < ns.length ∧ ∀ m, m ∈ ns → (∀ y, y ∈ ns → y ≤ m) → S (.int m)
  | _ => False
def min : RdB := fun ds S => match ds with
  | [.int i, .int j] => S (.int (if j < i then j else i))
  | [.lst xs] => ∃ ns : List Int, xs = ns.map D.int ∧ 0 < ns.length ∧ ∀ m, m ∈ ns → (∀ y, y ∈ ns → m ≤ y) → S (.int m)
  | _ => False
def int : RdB := fun ds S => match ds with
  | [.int i] => S (.int i)
  | [.bl b] => S (.int (if b then 1 else 0))
  | _ => False
def bool : RdB := fun ds S => match ds with
  | [.int i] => S (.bl (i != 0))
  | [.bl b] => S (.bl b)
  | _ => False
def tuple : RdB := fun ds S => match ds with
  | [.tup xs] => S (.tup xs)
  | [.lst xs] => S (.tup xs)
  | [.own xs] => S (.tup xs)
  | _ => False
def list : RdB := fun ds S => match ds with
  | [.tup xs] => S (.lst xs)
  | [.lst xs] => S (.lst xs)
  | [.own xs] => S (.lst xs)
  | _ => False
end Bi
namespace Rd
def pInt : D → Option Bool
  | .int _ => some true
  | .bl _ => some true
  | .obj _ _ _ => none
  | .pur => none
  | .any _ => none
  | _ => some false
def pBool : D → Option Bool
  | .bl _ => some true
  | .obj _ _ _ => none
  | .pur => none
  | .any _ => none
  | _ => some false
def pTup : D → Option Bool
  | .tup _ => some true
  | .obj _ _ _ => none
  | .pur => none
  | .any _ => none
  | _ => some false
def pLst : D → Option Bool
  | .lst _ => some true
  | .own _ => some true
  | .obj _ _ _ => none
  | .pur => none
  | .any _ => none
  | _ => some false
def pStr : D → Option Bool
  | .str _ => some true
  | .obj _ _ _ => none
  | .pur => none
  | .any _ => none
  | _ => some false
/-- isinstance with a built-in type -/
def isTy (p : D → Option Bool) (a : RdE) : RdE := fun T δ S => a T δ fun x => oB (fun b => S (.bl b)) (p x)
/-- isinstance with an own class, of an object -/
def isObD (K : PySem.W.Frag) (C : Addr) (S : D → Prop) (x : D) : Prop := match x with
  | .obj C' _ _ => ∃ b, PySem.W.kitOne K (.ref C') (.ref C) = some b ∧ ObT K C' ∧ S (.bl b)
  | _ => False
def isOb (K : PySem.W.Frag) (C : Addr) (a : RdE) : RdE := fun T δ S => a T δ (isObD K C S)
end Rd
section
variable {X : Cx} {U : Pu} {lv : Nat} {T : XD} {c : Ct X U lv T} {S : D → Prop}
theorem od_add {x y : D} (h : Op.add T x y S) : OD c (binaryOp .Add) x y S := by
  unfold Op.add at h
  split at h
  · exact OD_add_int h
  · exact OD_add_tup h.1 h.2
  · exact OD_add_lst (.lst _) (.lst _) h.1 h.2
  · exact OD_add_lst (.own _) (.lst _) h.1 h.2
  · exact OD_add_lst (.lst _) (.own _) h.1 h.2
  · exact OD_add_lst (.own _) (.own _) h.1 h.2
  · exact OD_add_str h.1 h.2
  · exact h.elim
theorem od_sub {x y : D} (h : Op.sub T x y S) : OD c (binaryOp .Sub) x y S := by
  unfold Op.sub at h
  split at h
  · exact OD_sub_int h
  · exact h.elim
theorem mul_sz {n : Int} {xs : List D} (h0 : -1000 ≤ n) (h1 : n ≤ 1000) (h2 : xs.length ≤ 1000) : xs.length * n.toNat ≤ sizeLine := by
  have : xs.length * n.toNat ≤ 1000 * 1000 := Nat.mul_le_mul h2 (by omega)
  rw [sizeLine_eq]
  omega
theorem od_mul {x y : D} (h : Op.mul T x y S) : OD c (binaryOp .Mult) x y S := by
  unfold Op.mul at h
  split at h
  · exact OD_mul_int h.1 h.2
  · exact OD_mul_tup h.1.1 h.1.2.1 h.1.2.2 (by rw [← repT_eq]; exact h.2)
  · exact OD_mul_lst (.lst _) (by omega) (by omega) (mul_sz h.1.1 h.1.2.1 h.1.2.2) h.2
  · exact h.elim
theorem od_div {x y : D} (h : Op.div T x y S) : OD c (binaryOp .FloorDiv) x y S := by
  unfold Op.div at h
  split at h
  · exact OD_div_int h.1.1 h.1.2 h.2
  · exact h.elim
theorem od_mod {x y : D} (h : Op.mod T x y S) : OD c (binaryOp .Mod) x y S := by
  unfold Op.mod at h
  split at h
  · exact OD_mod_int h.1 h.2
  · exact h.elim
theorem od_pow {x y : D} (h : Op.pow T x y S) : OD c (binaryOp .Pow) x y S := by
  unfold Op.pow at h
  split at h
  · exact OD_pow_int h.1 h.2
  · exact h.elim
theorem ud_neg {x : D} (h : Op.neg x S) : UD c (unaryOp .USub) x S := by
  unfold Op.neg at h
  split at h
  · exact UD_neg h
  · exact h.elim
theorem od_eq {x y : D} (h : Op.eq T x y S) : OD c (compareOp .Eq) x y S := by
  unfold Op.eq at h
  split at h
  · exact OD_eq_int h
  · exact OD_eq h.1.1 h.1.2 h.2
theorem od_ne {x y : D} (h : Op.ne T x y S) : OD c (compareOp .NotEq) x y S := by
  unfold Op.ne at h
  split at h
  · exact OD_ne_int h
  · exact OD_ne h.1.1 h.1.2 h.2
theorem od_lt {x y : D} (h : Op.lt T x y S) : OD c (compareOp .Lt) x y S := by
  unfold Op.lt at h
  split at h
  · exact OD_lt_int h
  · exact h.elim
theorem od_le {x y : D} (h : Op.le T x y S) : OD c (compareOp .LtE) x y S := by
  unfold Op.le at h
  split at h
  · exact OD_le_int h
  · exact h.elim
theorem od_gt {x y : D} (h : Op.gt T x y S) : OD c (compareOp .Gt) x y S := by
  unfold Op.gt at h
  split at h
  · exact OD_gt_int h
  · exact h.elim
theorem od_ge {x y : D} (h : Op.ge T x y S) : OD c (compareOp .GtE) x y S := by
  unfold Op.ge at h
  split at h
  · exact OD_ge_int h
  · exact h.elim
theorem od_in {x y : D} (h : Op.isin T x y S) : OD c (compareOp .In) x y S := by
  unfold Op.isin at h
  split at h
  · exact OD_in (.tup _) h.1.1 h.1.2 h.2
  · exact OD_in (.lst _) h.1.1 h.1.2 h.2
  · exact OD_in (.own _) h.1.1 h.1.2 h.2
  · exact h.elim
theorem od_nin {x y : D} (h : Op.nin T x y S) : OD c (compareOp .NotIn) x y S := by
  unfold Op.nin at h
  split at h
  · exact OD_nin (.tup _) h.1.1 h.1.2 h.2
  · exact OD_nin (.lst _) h.1.1 h.1.2 h.2
  · exact OD_nin (.own _) h.1.1 h.1.2 h.2
  · exact h.elim
variable {ds : List D}
theorem cd_len (h : Bi.len ds S) : CD c (.builtin "len") ds S := by
  unfold Bi.len at h
  split at h
  · exact CD_len (.tup _) h
  · exact CD_len (.lst _) h
  · exact CD_len (.own _) h
  · exact CD_len_str h.1 h.2
  · exact h.elim
theorem cd_sum (h : Bi.sum ds S) : CD c (.builtin "sum") ds S := by
  unfold Bi.sum at h
  split at h
  · obtain ⟨ns, e, h⟩ := h
    exact CD_sum (.lst _) e h
  · obtain ⟨ns, e, h⟩ := h
    exact CD_sum (.own _) e h
  · exact h.elim
theorem cd_all (h : Bi.all ds S) : CD c (.builtin "all") ds S := by
  unfold Bi.all at h
  split at h
  · obtain ⟨ns, e, h⟩ := h
    exact CD_all (.lst _) e h
  · obtain ⟨ns, e, h⟩ := h
    exact CD_all (.own _) e h
  · exact h.elim
theorem cd_any (h : Bi.any ds S) : CD c (.builtin "any") ds S := by
  unfold Bi.any at h
  split at h
  · obtain ⟨ns, e, h⟩ := h
    exact CD_any (.lst _) e h
  · obtain ⟨ns, e, h⟩ := h
    exact CD_any (.own _) e h
  · exact h.elim
theorem cd_abs (h : Bi.abs ds S) : CD c (.builtin "abs") ds S := by
  unfold Bi.abs at h
  split at h
  · exact CD_abs h
  · exact h.elim
theorem cd_max (h : Bi.max ds S) : CD c (.builtin "max") ds S := by
  unfold Bi.max at h
  split at h
  · exact CD_max2 h
  · obtain ⟨ns, e, h0, h⟩ := h
    exact CD_max (.lst _) e h0 h
  · exact h.elim
theorem cd_min (h : Bi.min ds S) : CD c (.builtin "min") ds S := by
  unfold Bi.min at h
  split at h
  · exact CD_min2 h
  · obtain ⟨ns, e, h0, h⟩ := h
    exact CD_min (.lst _) e h0 h
  · exact h.elim
theorem cd_int (h : Bi.int ds S) : CD c (.type "int") ds S := by
  unfold Bi.int at h
  split at h
  · exact CD_int h
  · exact CD_intb h
  · exact h.elim
theorem cd_bool (h : Bi.bool ds S) : CD c (.type "bool") ds S := by
  unfold Bi.bool at h
  split at h
  · exact CD_booli h
  · exact CD_boolb h
  · exact h.elim
theorem cd_tuple (h : Bi.tuple ds S) : CD c (.type "tuple") ds S := by
  unfold Bi.tuple at h
  split at h
  · exact CD_tup (.tup _) h
  · exact CD_tup (.lst _) h
  · exact CD_tup (.own _) h
  · exact h.elim
theorem cd_list (h : Bi.list ds S) : CD c (.type "list") ds S := by
  unfold Bi.list at h
  split at h
  · exact CD_lst (.tup _) h
  · exact CD_lst (.lst _) h
  · exact CD_lst (.own _) h
  · exact h.elim
end
/-- what an operator's reading is worth -/
def OpOk (f : Value → Value → Sem Value) (op : RdOp) : Prop := ∀ {X : Cx} {U : Pu} {lv : Nat} {T : XD} {c : Ct X U lv T} {S : D → Prop} {x y : D}, op T x y S → OD c f x y S
def OpAt (F : Fr) (f : Value → Value → Sem Value) (op : RdOp) : Prop := ∀ {X : Cx} {T : XD} (c : Ct X F.U F.lv T), F.X X → ∀ {S : D → Prop} {x y : D}, op T x y S → OD c f x y S
theorem OpOk.at_ {F : Fr} {f : Value → Value → Sem Value} {op : RdOp} (h : OpOk f op) : OpAt F f op := fun c _ => h
def BiOk (v : Value) (cR : List D → (D → Prop) → Prop) : Prop := ∀ {X : Cx} {U : Pu} {lv : Nat} {T : XD} {c : Ct X U lv T} {S : D → Prop} {ds : List D}, cR ds S → CD c v ds S
end Dl

set_option maxRecDepth 100000
set_option maxHeartbeats 4000000
/-! # From syntax to readings -/
namespace Dl
open PySem PySem.Spec PyProof.Rows L2
namespace De
section
variable {f : Fr} {e a b a' : Expr} {es : List Expr} {pos p : Pos} {x : Str} {ta tb tc : RdE} {tas : RdA} {st : Stmt} {sts : List Stmt}
theorem v (i : Nat) (hn : f.N[i]? = some x := by rfl) (hv : visB f.sc x = true := by (try dsimp only [Fr.blk, Fr.lam]); decide +kernel) : ReE f (.Name x pos) (Rd.v i) := .mk fun c F δ S h => by
  unfold Rd.v at h
  cases q : sl δ i with
  | none => rw [q] at h; exact h.elim
  | some d =>
    rw [q] at h
    exact WE_var i (sl_eq q) h (by rw [F.n]; exact hn) (F.vis hv) (visB_ok hv).2.1 (visB_ok hv).2.2
theorem int {i : Int} {j} : ReE f (.Constant (.int i) j pos) (Rd.g (.int i)) := .mk fun c F δ S h => WE_int h
theorem bl {i : Bool} {j} : ReE f (.Constant (.bool i) j pos) (Rd.g (.bl i)) := .mk fun c F δ S h => WE_bl h
theorem non {j} : ReE f (.Constant .none j pos) (Rd.g .non) := .mk fun c F δ S h => WE_non h
theorem str {i : Str} {j} : ReE f (.Constant (.str i) j pos) (Rd.g (.str i)) := .mk fun c F δ S h => WE_str h
theorem glb {d : D} (g : Glb f.K f.mg x d) (hg : glbB f.sc x = true := by (try dsimp only [Fr.blk, Fr.lam]); decide +kernel) : ReE f (.Name x pos) (Rd.g d) := .mk fun c F δ S h => eG F g hg h
theorem ty {t : String} (hm : f.mg x = none) (hv : bootBuiltins x = some (.type t)) (hg : glbB f.sc x = true := by (try dsimp only [Fr.blk, Fr.lam]); decide +kernel) : ReE f (.Name x pos) (Rd.g (.any (.ty t))) := .mk fun c F δ S h => eT F hm hv hg h
theorem bin {o : Operator} {op : RdOp} (ho : OpAt f (binaryOp o) op) (ha : ReE f a ta) (hb : ReE f b tb) : ReE f (.BinOp a o b pos) (Rd.bin op ta tb) := .mk fun c F δ S h =>
  WE_bin ((ha c F δ _ h).mono fun x h1 => (hb c F δ _ h1).mono fun y h2 => ho c F h2)
theorem cmp {o : CmpOp} {op : RdOp} (ho : OpAt f (compareOp o) op) (ha : ReE f a ta) (hb : ReE f b tb) (hm : behindInMarks o b = false := by rfl) : ReE f (.Compare a [o] [b] pos) (Rd.bin op ta tb) := .mk fun c F δ S h =>
  WE_cmp ((ha c F δ _ h).mono fun x h1 => (hb c F δ _ h1).mono fun y h2 => ho c F h2) hm
theorem OD_mono {X : Cx} {U : Pu} {lv : Nat} {T : XD} {c : Ct X U lv T} {S S' : D → Prop} {g : Value → Value → Sem Value} {x y : D} (h : OD c g x y S) (k : ∀ d, S d → S' d) : OD c g x y S' := fun L H vx vy Q kk rx ry q => h L H vx vy Q kk rx ry fun v H' d s r z => q v H' d s r (k d z)
theorem chain {o o' : CmpOp} {op op' : RdOp} (ho : OpAt f (compareOp o) op) (ho' : OpAt f (compareOp o') op') (ha : ReE f a ta) (hb : ReE f b tb) (hc : ReE f a' tc) (hm : lastMarks [o, o'] [b, a'] = false := by rfl) : ReE f (.Compare a [o, o'] [b, a'] pos) (Rd.chain op op' ta tb tc) := .mk fun c F δ S h =>
  WE_chain ((ha c F δ _ h).mono fun x h1 => (hb c F δ _ h1).mono fun y h2 => OD_mono (ho c F h2) fun z hz => by
    cases z with
    | bl k =>
      refine ⟨k, rfl, ?_⟩
      cases k with
      | true =>
        rw [if_pos rfl]
        exact (hc c F δ _ hz).mono fun y' h3 => ho' c F h3
      | false =>
        rw [if_neg Bool.false_ne_true]
        exact hz
    | _ => exact False.elim hz) hm
theorem neg (ha : ReE f a ta) : ReE f (.UnaryOp .USub a pos) (Rd.un Op.neg ta) := .mk fun c F δ S h => WE_un ((ha c F δ _ h).mono fun x h1 => ud_neg h1)
theorem isN_rep {K : PySem.W.Frag} {U : Pu} {Lb L : List Addr} {H : Hp} {d : D} {v : V} {k : Bool} (hk : (match d with
  | .non => some true
  | .pur => none
  | .any _ => none
  | _ => some false) = some k) (r : RepO K U Lb L H d v) : decide (v = .non) = k := by
  cases d with
  | non =>
    cases hk
    exact decide_eq_true r
  | pur => cases hk
  | any _ => cases hk
  | bl b =>
    cases hk
    rw [show v = _ from r]
    exact decide_eq_false (fun z => by cases z)
  | int b =>
    cases hk
    rw [show v = _ from r]
    exact decide_eq_false (fun z => by cases z)
  | str b =>
    cases hk
    rw [show v = _ from r]
    exact decide_eq_false (fun z => by cases z)
  | tup b =>
    cases hk
    obtain ⟨a, vs, h1, _⟩ := r.tup
    rw [h1]
    exact decide_eq_false (fun z => by cases z)
  | lst b =>
    cases hk
    obtain ⟨a, vs, h1, _⟩ := r.lst
    rw [h1]
    exact decide_eq_false (fun z => by cases z)
  | own b =>
    cases hk
    obtain ⟨a, vs, h1, _⟩ := r.ownl
    rw [h1]
    exact decide_eq_false (fun z => by cases z)
  | dck ks ds =>
    cases hk
    obtain ⟨a, vs, h1, _⟩ := r
    rw [h1]
    exact decide_eq_false (fun z => by cases z)
  | odk ks ds =>
    cases hk
    obtain ⟨a, vs, h1, _⟩ := r
    rw [h1]
    exact decide_eq_false (fun z => by cases z)
  | dct ks ds =>
    cases hk
    obtain ⟨a, vs, h1, _⟩ := r
    rw [h1]
    exact decide_eq_false (fun z => by cases z)
  | obj C ns ds =>
    cases hk
    obtain ⟨a, dx, vs, h1, _⟩ := r
    rw [h1]
    exact decide_eq_false (fun z => by cases z)
theorem isN {j p2} (ha : ReE f a ta) : ReE f (.Compare a [.Is] [.Constant .none j p2] pos) (Rd.isN ta) := .mk fun c F δ S h => WE_isN ((ha c F δ _ h).mono fun x h1 => by
  cases x with
  | non => exact ⟨true, fun L H v r => isN_rep rfl r, h1⟩
  | pur => exact False.elim h1
  | any _ => exact False.elim h1
  | _ => exact ⟨false, fun L H v r => isN_rep rfl r, h1⟩)
theorem notN {j p2} (ha : ReE f a ta) : ReE f (.Compare a [.IsNot] [.Constant .none j p2] pos) (Rd.notN ta) := .mk fun c F δ S h => WE_notN ((ha c F δ _ h).mono fun x h1 => by
  cases x with
  | non => exact ⟨true, fun L H v r => isN_rep rfl r, h1⟩
  | pur => exact False.elim h1
  | any _ => exact False.elim h1
  | _ => exact ⟨false, fun L H v r => isN_rep rfl r, h1⟩)
theorem and2 {rest : List Expr} (ha : ReE f a ta) (hb : ReE f (.BoolOp .And (b :: rest) pos) tb) : ReE f (.BoolOp .And (a :: b :: rest) pos) (Rd.and ta tb) := .mk fun c F δ S h => WE_and ((ha c F δ _ h).mono fun x h1 => by
  cases x with
  | bl k =>
    refine ⟨k, rfl, ?_⟩
    cases k with
    | true => rw [if_pos rfl]; exact hb c F δ _ h1
    | false => rw [if_neg Bool.false_ne_true]; exact h1
  | _ => exact False.elim h1)
theorem or2 {rest : List Expr} (ha : ReE f a ta) (hb : ReE f (.BoolOp .Or (b :: rest) pos) tb) : ReE f (.BoolOp .Or (a :: b :: rest) pos) (Rd.or ta tb) := .mk fun c F δ S h => WE_or ((ha c F δ _ h).mono fun x h1 => by
  cases x with
  | bl k =>
    refine ⟨k, rfl, ?_⟩
    cases k with
    | true => rw [if_pos rfl]; exact h1
    | false => rw [if_neg Bool.false_ne_true]; exact hb c F δ _ h1
  | _ => exact False.elim h1)
theorem one {op} (ha : ReE f a ta) : ReE f (.BoolOp op [a] pos) ta := .mk fun c F δ S h => WE_one (ha c F δ _ h)
theorem not (ha : ReE f a ta) : ReE f (.UnaryOp .Not a pos) (Rd.not ta) := .mk fun c F δ S h => WE_not ((ha c F δ _ h).mono fun x h1 => by
  cases x with
  | bl k => exact ⟨k, rfl, h1⟩
  | _ => exact False.elim h1)
theorem ite {t : Expr} {tt : RdT} (ht : ReT f t tt) (ha : ReE f a ta) (hb : ReE f b tb) : ReE f (.IfExp t a b pos) (Rd.ite tt ta tb) := .mk fun c F δ S h => WE_if ((ht c F δ _ h).mono fun k h1 => by
  cases k with
  | true => rw [if_pos rfl]; exact ha c F δ _ h1
  | false => rw [if_neg Bool.false_ne_true]; exact hb c F δ _ h1)
theorem dict0 : ReE f (.Dict [] [] pos) (Rd.g (.dck [] [])) := .mk fun c F δ S h L σ H Q N q => runE_of pe_dnewK fun p hp => q _ _ (.dck [] []) (same_new hp) ⟨p, [], rfl, hide_new hp (N.ok.fresh hp), rfl, rfl⟩ h
theorem nil : ReA f [] Rd.nil := .mk fun c F δ S h => WA_nil ⟨rfl, h⟩
theorem cons (ha : ReE f e ta) (hs : ReA f es tas) (he : ∀ X : Cx, starEach (e :: es) X.env = (false, eval e X.env) :: starEach es X.env := by intro _; rfl) : ReA f (e :: es) (Rd.cons ta tas) := .mk fun {X T} c F δ S h =>
  WA_cons ((ha c F δ _ h).mono fun d h1 => (hs c F δ _ h1).mono fun ds h2 => ⟨by rw [List.length_cons, List.length_cons, h2.1], h2.2⟩) (he X)
theorem tup {x1} (hs : ReA f es tas) (hl : es.length ≤ sizeLine := by decide) : ReE f (.Tuple es x1 pos) (Rd.tup tas) := .mk fun c F δ S h => WE_tup ((hs c F δ _ h).mono fun ds ⟨h1, h2⟩ => by
  cases q : stills ds with
  | true =>
    rw [q] at h2
    exact ⟨rfl, by rw [h1]; exact hl, h2⟩
  | false =>
    rw [q] at h2
    exact h2.elim)
theorem lst (hs : ReA f es tas) (hl : es.length ≤ sizeLine := by decide) : ReE f (.List es pos) (Rd.lst tas) := .mk fun c F δ S h => WE_lst ((hs c F δ _ h).mono fun ds ⟨h1, h2⟩ => by
  cases q : stills ds with
  | true =>
    rw [q] at h2
    exact ⟨rfl, by rw [h1]; exact hl, h2⟩
  | false =>
    rw [q] at h2
    exact h2.elim)
/-- [..] as a list of one's own -/
def _root_.Dl.Rd.dsp (as : RdA) : RdA := fun T δ S => as T δ fun ds => match stills ds with
  | true => S ds
  | false => False
theorem dsp (hs : ReA f es tas) (hl : es.length ≤ sizeLine := by decide) : ReF f (.List es pos) (Rd.dsp tas) := .mk fun c F δ S h => WF_lst ((hs c F δ _ h).mono fun ds ⟨h1, h2⟩ => by
  cases q : stills ds with
  | true =>
    rw [q] at h2
    exact ⟨rfl, by rw [h1]; exact hl, h2⟩
  | false =>
    rw [q] at h2
    exact h2.elim)
theorem ix (ha : ReE f a ta) (hb : ReE f b tb) (hs : PlainIx b := by intros _ _; rfl) : ReE f (.Subscript a b pos) (Rd.ix ta tb) := .mk fun c F δ S h => WE_ix ((ha c F δ _ h).mono fun x h1 => (hb c F δ _ h1).mono fun y h2 => by
  cases y with
  | int i =>
    cases x with
    | tup xs => obtain ⟨d, g1, g2⟩ := h2; exact ID_seq (.tup _) g1 g2
    | lst xs => obtain ⟨d, g1, g2⟩ := h2; exact ID_seq (.lst _) g1 g2
    | own xs => obtain ⟨d, g1, g2⟩ := h2; exact ID_seq (.own _) g1 g2
    | _ => exact False.elim h2
  | _ => cases x <;> exact False.elim h2) hs
theorem noP : ReP f none Rd.noP := .mk fun c F δ S h => WP_none h
theorem atP (ha : ReE f a ta) : ReP f (some a) (Rd.atP ta) := .mk fun c F δ S h => WP_some ((ha c F δ _ h).mono fun d h1 => by
  cases d with
  | int i => exact ⟨i, rfl, h1⟩
  | _ => exact False.elim h1)
theorem WP_mono {X : Cx} {U : Pu} {lv : Nat} {T : XD} {c : Ct X U lv T} {o : Option Expr} {δ : List (Option D)} {S S' : Option Int → Prop} (h : WP c o δ S) (k : ∀ i, S i → S' i) : WP c o δ S' := fun L σ H Q E q => h L σ H Q E fun i H' s z => q i H' s (k i z)
theorem slc {lo hi : Option Expr} {tl th : RdO} {p2 : Pos} (ha : ReE f a ta) (hl : ReP f lo tl) (hh : ReP f hi th) : ReE f (.Subscript a (.Slice lo hi none p2) pos) (Rd.slc ta tl th) := .mk fun c F δ S h => WE_sl ((ha c F δ _ h).mono fun x h1 => WP_mono (hl c F δ _ h1) fun i h2 => WP_mono (hh c F δ _ h2) fun j h3 => by
  cases x with
  | tup xs => exact SD_tup h3
  | lst xs => exact SD_lst (.lst _) h3
  | own xs => exact SD_lst (.own _) h3
  | _ => exact False.elim h3)
theorem fld {g : Str} (ha : ReE f a ta) (hb : ∀ X : Cx, attributeBase a g X.env (eval a X.env) = eval a X.env := by intro _; rfl) : ReE f (.Attribute a g pos) (Rd.fld f.K ta g) := .mk fun {X T} c F δ S h => eF2 F ((ha c F δ _ h).mono fun x h1 => by
  cases x with
  | obj C ns ds =>
    obtain ⟨h1, h2, d, h3, h4⟩ := h1
    exact ⟨C, ns, ds, d, rfl, h1, h2, h3, h4⟩
  | _ => exact False.elim h1) (hb X)
theorem call {n k : Nat} {sp : DSpec} (Fn' : Fn f.P f.w f.K f.mg f.base f.U k x n sp) (hs : ReA f (e :: es) tas) (hk : k ≤ f.lv := by (try dsimp only [Fr.blk, Fr.lam]); decide) (hn : (e :: es).length = n := by rfl) (hg : glbB f.sc x = true := by (try dsimp only [Fr.blk, Fr.lam]); decide +kernel)
    (he : ∀ X : Cx, starEach (e :: es) X.env = (false, eval e X.env) :: starEach es X.env := by intro _; rfl) (hpl : ∀ X : Cx, (backTo pos (starEach es X.env)).any (·.1) = false := by intro _; rfl) : ReE f (.Call (.Name x p) (e :: es) [] pos) (Rd.call sp tas) := .mk fun {X T} c F δ S h =>
  eCP F Fn' hk hg ((hs c F δ _ h).mono fun ds h1 => calR_ok (h1.1.trans hn) h1.2) (he X) (hpl X)
theorem make {n k : Nat} {sp : DSpec} (Mk' : Maker f.P f.w f.K f.mg f.base f.U k x n sp) (hs : ReA f (e :: es) tas) (hk : k + 1 ≤ f.lv := by (try dsimp only [Fr.blk, Fr.lam]); decide) (hn : (e :: es).length = n := by rfl) (hg : glbB f.sc x = true := by (try dsimp only [Fr.blk, Fr.lam]); decide +kernel)
    (he : ∀ X : Cx, starEach (e :: es) X.env = (false, eval e X.env) :: starEach es X.env := by intro _; rfl) (hpl : ∀ X : Cx, (backTo pos (starEach es X.env)).any (·.1) = false := by intro _; rfl) : ReE f (.Call (.Name x p) (e :: es) [] pos) (Rd.cons' sp tas) := .mk fun {X T} c F δ S h =>
  eM F Mk' hk hg ((hs c F δ _ h).mono fun ds ⟨h1, h2⟩ => by
    cases q : stills ds with
    | true =>
      rw [q] at h2
      exact ⟨h1.trans hn, rfl, h2⟩
    | false =>
      rw [q] at h2
      exact h2.elim) (he X) (hpl X)
theorem blt {id : String} {cR : List D → (D → Prop) → Prop} (hc : BiOk (.builtin id) cR) (hv : bootBuiltins x = some (.builtin id)) (hm : f.mg x = none) (hs : ReA f (e :: es) tas) (hg : glbB f.sc x = true := by (try dsimp only [Fr.blk, Fr.lam]); decide +kernel)
    (he : ∀ X : Cx, starEach (e :: es) X.env = (false, eval e X.env) :: starEach es X.env := by intro _; rfl) (hpl : ∀ X : Cx, (backTo pos (starEach es X.env)).any (·.1) = false := by intro _; rfl) : ReE f (.Call (.Name x p) (e :: es) [] pos) (Rd.blt cR tas) := .mk fun {X T} c F δ S h =>
  eB F hm hv hg ((hs c F δ _ h).mono fun ds h1 => hc h1.2) (he X) (hpl X)
theorem bty {t : String} {cR : List D → (D → Prop) → Prop} (hc : BiOk (.type t) cR) (hv : bootBuiltins x = some (.type t)) (hm : f.mg x = none) (hs : ReA f (e :: es) tas) (hg : glbB f.sc x = true := by (try dsimp only [Fr.blk, Fr.lam]); decide +kernel)
    (he : ∀ X : Cx, starEach (e :: es) X.env = (false, eval e X.env) :: starEach es X.env := by intro _; rfl) (hpl : ∀ X : Cx, (backTo pos (starEach es X.env)).any (·.1) = false := by intro _; rfl) : ReE f (.Call (.Name x p) (e :: es) [] pos) (Rd.blt cR tas) := .mk fun {X T} c F δ S h =>
  eBT F hm hv hg ((hs c F δ _ h).mono fun ds h1 => hc h1.2) (he X) (hpl X)
/-- isinstance(e, T) -/
def TyOk (t : String) (q : D → Option Bool) : Prop := ∀ {X : Cx} {U : Pu} {lv : Nat} {T : XD} {c : Ct X U lv T} {S : D → Prop} {x : D} {b : Bool}, q x = some b → S (.bl b) → CD c (.builtin "isinstance") [x, .any (.ty t)] S
theorem tyInt : TyOk "int" Rd.pInt := fun {X U lv T c S x b} e h => by cases x <;> first | (cases e; done) | (cases e; exact CD_isInt rfl h)
theorem tyBool : TyOk "bool" Rd.pBool := fun {X U lv T c S x b} e h => by cases x <;> first | (cases e; done) | (cases e; exact CD_isBool rfl h)
theorem tyTup : TyOk "tuple" Rd.pTup := fun {X U lv T c S x b} e h => by cases x <;> first | (cases e; done) | (cases e; exact CD_isTup rfl h)
theorem tyLst : TyOk "list" Rd.pLst := fun {X U lv T c S x b} e h => by cases x <;> first | (cases e; done) | (cases e; exact CD_isLst rfl h)
theorem tyStr : TyOk "str" Rd.pStr := fun {X U lv T c S x b} e h => by cases x <;> first | (cases e; done) | (cases e; exact CD_isStr rfl h)
theorem isTy {t : String} {q : D → Option Bool} {p1 p2 : Pos} {y : Str} (hq : TyOk t q) (hv : bootBuiltins y = some (.type t)) (hm : f.mg "isinstance" = none) (hm2 : f.mg y = none) (ha : ReE f a ta) (hg : glbB f.sc "isinstance" = true := by (try dsimp only [Fr.blk, Fr.lam]); decide +kernel) (hg2 : glbB f.sc y = true := by (try dsimp only [Fr.blk, Fr.lam]); decide +kernel)
    (he : ∀ X : Cx, starEach [a, .Name y p2] X.env = (false, eval a X.env) :: starEach [.Name y p2] X.env := by intro _; rfl) (hpl : ∀ X : Cx, (backTo pos (starEach [.Name y p2] X.env)).any (·.1) = false := by intro _; rfl) : ReE f (.Call (.Name "isinstance" p1) [a, .Name y p2] [] pos) (Rd.isTy q ta) := .mk fun {X T} c F δ S h =>
  eB F hm bt_isinstance hg (WA_cons ((ha c F δ _ h).mono fun d h1 => WA_cons (eT F hm2 hv hg2 (WA_nil (by
    cases e : q d with
    | none => rw [e] at h1; exact h1.elim
    | some b => rw [e] at h1; exact hq e h1))) rfl) (he X)) (he X) (hpl X)
theorem isOb {C : Addr} {p1 p2 : Pos} {y : Str} (hm : f.mg "isinstance" = none) (hC : Glb f.K f.mg y (.any (.ref C))) (ha : ReE f a ta) (hg : glbB f.sc "isinstance" = true := by (try dsimp only [Fr.blk, Fr.lam]); decide +kernel) (hg2 : glbB f.sc y = true := by (try dsimp only [Fr.blk, Fr.lam]); decide +kernel)
    (he : ∀ X : Cx, starEach [a, .Name y p2] X.env = (false, eval a X.env) :: starEach [.Name y p2] X.env := by intro _; rfl) (hpl : ∀ X : Cx, (backTo pos (starEach [.Name y p2] X.env)).any (·.1) = false := by intro _; rfl) : ReE f (.Call (.Name "isinstance" p1) [a, .Name y p2] [] pos) (Rd.isOb f.K C ta) := .mk fun {X T} c F δ S h =>
  eB F hm bt_isinstance hg (WA_cons ((ha c F δ _ h).mono fun d h1 => WA_cons (eG F hC hg2 (WA_nil (by
    cases d with
    | obj C' ns ds =>
      obtain ⟨b, k1, o, h2⟩ := h1
      exact IsO F o (.own C) k1 h2
    | _ => exact False.elim h1))) rfl) (he X)) (he X) (hpl X)
/-! ### tests -/
theorem tval (ha : ReE f e ta) (he : ∀ X : Cx, ∀ whole, isTrue e X.env whole = (do let v ← whole; standAt e.pos; holding [v] (truthy v)) := by intro _ _; rfl) : ReT f e (Rd.tval ta) := .mk fun {X T} c F δ S h => WT_val ((ha c F δ _ h).mono fun z h1 => by
  cases z with
  | bl k => exact ⟨k, rfl, h1⟩
  | _ => exact False.elim h1) (he X)
theorem tcmp {o : CmpOp} {op : RdOp} (ho : OpAt f (compareOp o) op) (ha : ReE f a ta) (hb : ReE f b tb) (hm : behindInMarks o b = false := by rfl) : ReT f (.Compare a [o] [b] pos) (Rd.tcmp op ta tb) := .mk fun c F δ S h =>
  WT_cmpR ((ha c F δ _ h).mono fun x h1 => (hb c F δ _ h1).mono fun y h2 => OD_mono (ho c F h2) fun z hz => by
    cases z with
    | bl k => exact ⟨k, rfl, hz⟩
    | _ => exact False.elim hz) hm
theorem tisN {j p2} (ha : ReE f a ta) : ReT f (.Compare a [.Is] [.Constant .none j p2] pos) (Rd.tisN ta) := .mk fun c F δ S h => WT_isN ((ha c F δ _ h).mono fun x h1 => by
  cases x with
  | non => exact ⟨true, fun L H v r => isN_rep rfl r, h1⟩
  | pur => exact False.elim h1
  | any _ => exact False.elim h1
  | _ => exact ⟨false, fun L H v r => isN_rep rfl r, h1⟩)
theorem tnotN {j p2} (ha : ReE f a ta) : ReT f (.Compare a [.IsNot] [.Constant .none j p2] pos) (Rd.tnotN ta) := .mk fun c F δ S h => WT_notN ((ha c F δ _ h).mono fun x h1 => by
  cases x with
  | non => exact ⟨true, fun L H v r => isN_rep rfl r, h1⟩
  | pur => exact False.elim h1
  | any _ => exact False.elim h1
  | _ => exact ⟨false, fun L H v r => isN_rep rfl r, h1⟩)
variable {t : Expr} {tt tw : RdT}
theorem tnot (ha : ReT f a tt) : ReT f (.UnaryOp .Not a pos) (Rd.tnot tt) := .mk fun c F δ S h => WT_not (ha c F δ _ h)
theorem tof (ha : ReW f a tt) : ReT f a tt := .mk fun c F δ S h => WT_of (ha c F δ _ h)
theorem wand1 (ha : ReT f a tt) : ReW f (.BoolOp .And [a] pos) tt := .mk fun c F δ S h => WW_and1 (ha c F δ _ h)
theorem wor1 (ha : ReT f a tt) : ReW f (.BoolOp .Or [a] pos) tt := .mk fun c F δ S h => WW_or1 (ha c F δ _ h)
theorem wand {rest : List Expr} (ha : ReT f a tt) (hb : ReW f (.BoolOp .And (b :: rest) pos) tw) : ReW f (.BoolOp .And (a :: b :: rest) pos) (Rd.tand tt tw) := .mk fun c F δ S h => WW_and ((ha c F δ _ h).mono fun k h1 => by
  cases k with
  | true => rw [if_pos rfl]; exact hb c F δ _ h1
  | false => rw [if_neg Bool.false_ne_true]; exact h1)
theorem wor {rest : List Expr} (ha : ReT f a tt) (hb : ReW f (.BoolOp .Or (b :: rest) pos) tw) : ReW f (.BoolOp .Or (a :: b :: rest) pos) (Rd.tor tt tw) := .mk fun c F δ S h => WW_or ((ha c F δ _ h).mono fun k h1 => by
  cases k with
  | true => rw [if_pos rfl]; exact h1
  | false => rw [if_neg Bool.false_ne_true]; exact hb c F δ _ h1)
/-! ### targets -/
theorem tv {ts : List Nat} (i : Nat) (hn : f.N[i]? = some x := by rfl) (hl : tgB f.z f.sc x = true := by (try dsimp only [Fr.blk, Fr.lam]); first | exact tgB_code (by decide +kernel) | decide +kernel) (hm : decide (i ∈ ts) = true := by first | rfl | decide) : ReG f (.Name x pos) ts (Rd.tv i) := .mk fun {X T} c F δ d Q h => by
  unfold Rd.tv at h
  rw [fc_eq, st_eq] at h
  exact (AG_name i h (by rw [F.n]; exact hn) (F.loc (F.tl hl)) (F.fn hl)).up fun j hj => by
    rw [List.mem_singleton.mp hj]
    exact of_decide_eq_true hm
theorem AG_mono {X : Cx} {U : Pu} {lv : Nat} {T : XD} {c : Ct X U lv T} {tg : Expr} {δ : List (Option D)} {d : D} {ts : List Nat} {Q Q' : List (Option D) → Prop} (h : AG c tg δ d ts Q) (k : ∀ δ', Q δ' → Q' δ') : AG c tg δ d ts Q' := fun L σ H v R E r q => h L σ H v R E r fun σ' δ' df E' z => q σ' δ' df E' (k _ z)
theorem gN {ts : List Nat} : ReGs f [] ts Rd.gN := .mk fun c F δ ds Q h => by
  cases ds with
  | nil => exact AGs_n h
  | cons d r => exact False.elim h
theorem gC {tg : Expr} {tgs : List Expr} {ts : List Nat} {g1 : RdG} {g2 : RdGs} (h1 : ReG f tg ts g1) (h2 : ReGs f tgs ts g2) (hs : ∀ X : Cx, (assignEach (tg :: tgs) X.env).map (·.2) = assign tg X.env :: (assignEach tgs X.env).map (·.2) := by intro _; rfl) : ReGs f (tg :: tgs) ts (Rd.gC g1 g2) := .mk fun {X T} c F δ ds Q h => by
  cases ds with
  | nil => exact False.elim h
  | cons d r => exact AGs_c (AG_mono (h1 c F δ d _ h) fun δ1 k => h2 c F δ1 r Q k) (hs X)
theorem tgt {es : List Expr} {kk : Nat} {ts : List Nat} {gs : RdGs} (n : Nat) (h1 : ReGs f es ts gs) (hn : ∀ X : Cx, (assignEach es X.env).length = n := by intro _; rfl) (hst : ∀ X : Cx, (assignEach es X.env).findIdx? (·.1) = none := by intro _; rfl) : ReG f (.Tuple es kk pos) ts (Rd.tt n gs) := .mk fun {X T} c F δ d Q h => by
  cases d with
  | tup ds =>
    have h : Rd.lenP n ds (gs δ ds Q) := h
    unfold Rd.lenP at h
    cases q : Nat.beq ds.length n with
    | true =>
      rw [q] at h
      exact tT (h1 c F δ ds Q h) ((hn X).trans (Nat.eq_of_beq_eq_true q).symm) (hst X)
    | false =>
      rw [q] at h
      exact h.elim
  | _ => exact False.elim h
/-! ### sources -/
def _root_.Dl.iSeqV (K : PySem.W.Frag) (tl : TE) : TI := fun σ H R => tl σ H fun x H1 => ∃ a, x = .ref a ∧ (((∃ xs, SqL K H1 a xs) ∧ R (Itl K a) H1) ∨ ((∃ xs, SqT K H1 a xs) ∧ R (Itt K a) H1))
theorem pi_seq {X : Cx} {tg l : Expr} {tl : TE} (hl : PE X l tl) : PI X tg l (iSeqV X.K tl) := by
  refine ⟨fun pins s σ H R I h => ?_⟩
  refine thn (hl.run pins s σ H _ I h) fun v s1 ⟨x, H1, I1, r1, q1⟩ => ?_
  obtain ⟨a, e, q⟩ := q1
  subst e
  cases r1
  rcases q with ⟨⟨xs, hq⟩, q⟩ | ⟨⟨xs, hq⟩, q⟩
  · obtain ⟨its, rv, p, hz⟩ := I1.list hq
    refine wpAny_pyIter_list p.isList ?_
    refine ⟨s1.heap.objs.size, [s1.heap.objs.size], _, _, H1, rfl, I1.kept (t' := s1.toks) fun b o e => Heap.get?_push_of_some _ e, turn_list a _, ⟨_, Heap.get?_push_size _ rfl, rfl, rfl⟩, fun b hb => ?_, q⟩
    have e : b = s1.heap.objs.size := by simpa using hb
    subst e
    exact I1.fpOk (Nat.le_refl _) (I1.hok.fresh (Nat.le_refl _))
  · obtain ⟨its, rv, p, hz⟩ := I1.tuple hq
    refine wpAny_pyIter_tuple (show s1.heap.IsTuple a its.toArray from p) ?_
    refine ⟨s1.heap.objs.size, [s1.heap.objs.size], _, _, H1, rfl, I1.kept (t' := s1.toks) fun b o e => Heap.get?_push_of_some _ e, turn_tuple a _, ⟨_, Heap.get?_push_size _ rfl, rfl, rfl⟩, fun b hb => ?_, q⟩
    have e : b = s1.heap.objs.size := by simpa using hb
    subst e
    exact I1.fpOk (Nat.le_refl _) (I1.hok.fresh (Nat.le_refl _))
theorem seq {tg : Expr} (ha : ReE f a ta) : ReI f tg a (Rd.seq ta) := .mk fun c F δ S h => fun L σ H R E q =>
  runI_of (pi_seq pe_run) (ha c F δ _ h L σ H _ E fun v H1 d s1 r1 h1 => by
    cases d with
    | tup ds =>
      obtain ⟨b, vs, rfl, hb, ra, za⟩ := r1
      exact ⟨b, rfl, .inr ⟨⟨vs, seqT_mono hide_ext.k hb⟩, q _ H1 ds s1 (walk_t hb ra za) h1⟩⟩
    | lst ds =>
      obtain ⟨b, vs, rfl, hb, ra, za⟩ := r1
      exact ⟨b, rfl, .inl ⟨⟨vs, SqL.of (hide_at hb).2⟩, q _ H1 ds s1 (walk_l (SameK.refl _) hb ra za) h1⟩⟩
    | _ => exact False.elim h1)
theorem seqJ {tg : Expr} (ha : ReE f a ta) : ReJ f tg a (Rd.seqJ ta) := .mk fun c F δ S h => fun L σ H R E q =>
  runI_of (pi_seq pe_run) (ha c F δ _ h L σ H _ E fun v H1 d s1 r1 h1 => by
    cases d with
    | tup ds =>
      obtain ⟨b, vs, rfl, hb, ra, za⟩ := r1
      exact ⟨b, rfl, .inr ⟨⟨vs, seqT_mono hide_ext.k hb⟩, q _ H1 ds s1 ((walk_t hb ra za).base hide_ext.k) h1⟩⟩
    | lst ds =>
      obtain ⟨b, vs, rfl, hb, ra, za⟩ := r1
      exact ⟨b, rfl, .inl ⟨⟨vs, SqL.of (hide_at hb).2⟩, q _ H1 ds s1 ((walk_l (SameK.refl _) hb ra za).base hide_ext.k) h1⟩⟩
    | own ds =>
      obtain ⟨b, vs, rfl, hb, ra, za⟩ := r1.ownl
      exact ⟨b, rfl, .inl ⟨⟨vs, SqL.of hb⟩, q _ H1 ds s1 (walk_l hide_ext.k hb ra za) h1⟩⟩
    | _ => exact False.elim h1)
theorem toJ {tg : Expr} {t : RdA} (h : ReI f tg a t) : ReJ f tg a t := .mk fun c F δ S k => WJ_of (h c F δ S k)
theorem rng1 {tg : Expr} (hm : f.mg "range" = none) (ha : ReE f a ta) (hg : glbB f.sc "range" = true := by (try dsimp only [Fr.blk, Fr.lam]); decide +kernel) (hs : ∀ X : Cx, starEach [a] X.env = [(false, eval a X.env)] := by intro _; rfl) : ReI f tg (.Call (.Name "range" p) [a] [] pos) (Rd.rng1 ta) := .mk fun {X T} c F δ S h =>
  iR1 F hm hg (WA_cons ((ha c F δ _ h).mono fun d h1 => WA_nil (by
    cases d with
    | int n => exact ⟨n, rfl, by have := h1.1; omega, by have := h1.1; omega, h1.2⟩
    | _ => exact False.elim h1)) (hs X)) (hs X)
theorem rng2 {tg : Expr} (hm : f.mg "range" = none) (ha : ReE f a ta) (hb : ReE f b tb) (hg : glbB f.sc "range" = true := by (try dsimp only [Fr.blk, Fr.lam]); decide +kernel) (hs : ∀ X : Cx, starEach [a, b] X.env = [(false, eval a X.env), (false, eval b X.env)] := by intro _; rfl) (hs2 : ∀ X : Cx, starEach [b] X.env = [(false, eval b X.env)] := by intro _; rfl) : ReI f tg (.Call (.Name "range" p) [a, b] [] pos) (Rd.rng2 ta tb) := .mk fun {X T} c F δ S h =>
  iR2 F hm hg (WA_cons ((ha c F δ _ h).mono fun d h1 => by
    cases d with
    | int m =>
      exact WA_cons ((hb c F δ _ h1).mono fun d2 h2 => WA_nil (by
        cases d2 with
        | int n => exact ⟨m, n, rfl, h2.1.1, h2.1.2.1, h2.1.2.2.1, h2.1.2.2.2, h2.2⟩
        | _ => exact False.elim h2)) (hs2 X)
    | _ => exact False.elim h1) (by rw [hs X, hs2 X])) (hs X) (hs2 X)
theorem zip {elts : List Expr} {kk : Nat} {tpos : Pos} (hm : f.mg "zip" = none) (ha : ReE f a ta) (hb : ReE f b tb) (hg : glbB f.sc "zip" = true := by (try dsimp only [Fr.blk, Fr.lam]); decide +kernel) (hs : ∀ X : Cx, starEach [a, b] X.env = (false, eval a X.env) :: starEach [b] X.env := by intro _; rfl) (hs2 : ∀ X : Cx, starEach [b] X.env = (false, eval b X.env) :: starEach [] X.env := by intro _; rfl) (hpl : ∀ X : Cx, (backTo pos (starEach [b] X.env)).any (·.1) = false := by intro _; rfl) :
    ReI f (.Tuple elts kk tpos) (.Call (.Name "zip" p) [a, b] [] pos) (Rd.zip ta tb) := .mk fun {X T} c F δ S h =>
  iZip F hm hg (WA_cons ((ha c F δ _ h).mono fun d h1 => WA_cons ((hb c F δ _ h1).mono fun d2 h2 => WA_nil (by
    cases d with
    | tup m =>
      cases d2 with
      | tup n => exact ⟨m, n, .inr rfl, h2⟩
      | _ => exact False.elim h2
    | lst m =>
      cases d2 with
      | lst n => exact ⟨m, n, .inl rfl, h2⟩
      | _ => exact False.elim h2
    | _ => cases d2 <;> exact False.elim h2)) (hs2 X)) (hs X)) (hs X) (hpl X)
def _root_.Dl.iEnumV (K : PySem.W.Frag) (ta : TA) : TI := fun σ H R => ta σ H fun vs H1 => ∃ t, vs = [.ref t] ∧ ((∃ us, SqL K H1 t us ∧ R (Ite K t) H1) ∨ (∃ us, SqT K H1 t us ∧ R (IteT K t) H1))
theorem pi_enumA {X : Cx} {e : Expr} {ta : TA} {p pos tp : Pos} {elts : List Expr} {kk : Nat} (hg : Gl X "enumerate") (hm : X.mg "enumerate" = none) (ha : PA X [e] ta) (hs : starEach [e] X.env = [(false, eval e X.env)]) :
    PI X (.Tuple elts kk tp) (.Call (.Name "enumerate" p) [e] [] pos) (iEnumV X.K ta) := by
  refine ⟨fun pins s σ H R I h => ?_⟩
  refine Call_ (ld_blt I hg hm boot_enumerate (PyProof.Rows.callWith_type1 (thn (ha.run pos pins s σ H _ I h) fun us s1 ⟨vs, H1, I1, r1, t, ex, q⟩ => ?_) hs rfl))
  subst ex
  cases r1 with
  | cons r rr =>
    cases rr
    cases r
    rcases q with ⟨xs, hq, q⟩ | ⟨xs, hq, q⟩
    · obtain ⟨its, rv, p', hz⟩ := I1.list hq
      refine call_enumerate_list p'.isList fun h' he hit hsz hk => wpAny_pyIter_enum he ?_
      have I2 : Inv X pins σ H1 { s1 with heap := h' } := I1.kept (t' := s1.toks) hk
      refine ⟨s1.heap.objs.size + 1, [s1.heap.objs.size + 1, s1.heap.objs.size], _, _, H1, rfl, I2, turn_enum t (s1.heap.objs.size + 1) s1.heap.objs.size, ⟨⟨.none, he⟩, hit, Nat.succ_ne_self _⟩, fun b hb => ?_, q⟩
      have e' : b = s1.heap.objs.size + 1 ∨ b = s1.heap.objs.size := by simpa using hb
      have hle : s1.heap.objs.size ≤ b := by
        rcases e' with z | z
        · rw [z]; exact Nat.le_add_right _ _
        · rw [z]; exact Nat.le_refl _
      exact I1.fpOk hle (I1.hok.fresh hle)
    · obtain ⟨its, rv, p', hz⟩ := I1.tuple hq
      obtain ⟨ot, hot, _⟩ := id p'
      have lt : t < s1.heap.objs.size := Heap.lt_size hot
      refine enumBegins (begins_tuple t its.toArray) (show s1.heap.IsTuple t its.toArray from p') fun h' isE hj hsz hk => wpAny_pyIter_enum isE ?_
      have I2 : Inv X pins σ H1 { s1 with heap := h' } := I1.kept (t' := s1.toks) hk
      refine ⟨s1.heap.objs.size + 1, [s1.heap.objs.size + 1, s1.heap.objs.size], _, _, H1, rfl, I2, turnEnumT t (s1.heap.objs.size + 1) s1.heap.objs.size, ⟨⟨.none, isE⟩, ⟨_, hj, rfl, rfl⟩, Nat.succ_ne_self _, Nat.ne_of_lt lt, Nat.ne_of_gt (Nat.lt_succ_of_lt lt)⟩, fun b hb => ?_, q⟩
      have cs : b = s1.heap.objs.size + 1 ∨ b = s1.heap.objs.size := by simpa using hb
      have le : s1.heap.objs.size ≤ b := by
        rcases cs with rfl | rfl
        · exact Nat.le_succ _
        · exact Nat.le_refl _
      exact I1.fpOk le (I1.hok.fresh le)
theorem enum {elts : List Expr} {kk : Nat} {tpos : Pos} (hm : f.mg "enumerate" = none) (ha : ReE f a ta) (hg : glbB f.sc "enumerate" = true := by (try dsimp only [Fr.blk, Fr.lam]); decide +kernel) (hs : ∀ X : Cx, starEach [a] X.env = [(false, eval a X.env)] := by intro _; rfl) :
    ReI f (.Tuple elts kk tpos) (.Call (.Name "enumerate" p) [a] [] pos) (Rd.enum ta) := .mk fun {X T} c F δ S h => fun L σ H R E q =>
  runI_of (pi_enumA (F.gl hg) (by rw [F.m]; exact hm) pa_run (hs X)) ((WA_cons (S := fun ds => ∃ d, ds = [d] ∧ Rd.enumD S d) ((ha c F δ _ h).mono fun d h1 => WA_nil ⟨d, rfl, h1⟩) (hs X) L σ H _ E fun vs H1 ds s1 r1 ⟨d, hd, h1⟩ => by
    subst hd
    obtain ⟨v, rfl, rv⟩ := r1.one
    cases d with
    | tup ds =>
      obtain ⟨b, vs, rfl, hb, ra, za⟩ := rv
      exact ⟨b, rfl, .inr ⟨vs, seqT_mono hide_ext.k hb, q _ H1 _ s1 (walk_et hb ra za) h1⟩⟩
    | lst ds =>
      obtain ⟨b, vs, rfl, hb, ra, za⟩ := rv
      exact ⟨b, rfl, .inl ⟨vs, SqL.of (hide_at hb).2, q _ H1 _ s1 (walk_el hb ra za) h1⟩⟩
    | _ => exact False.elim h1))
/-! ### comprehensions -/
theorem noT {f : Fr} : ∀ {X : Cx} {T : XD} (c : Ct X f.U f.lv T), f.X X → ∀ (δ : List (Option D)) (S : Bool → Prop), Rd.noT T δ S → WTs c [] δ S := fun c F δ S h => WTs_nil h
structure _root_.Dl.ReTs (f : Fr) (ifs : List Expr) (t : RdT)  : Prop where
  run : ∀ {X : Cx} {T : XD} (c : Ct X f.U f.lv T), f.X X → ∀ (δ : List (Option D)) (S : Bool → Prop), t T δ S → WTs c ifs δ S
instance {f : Fr} {ifs : List Expr} {t : RdT}  : CoeFun (_root_.Dl.ReTs f ifs t) fun _ => ∀ {X : Cx} {T : XD} (c : Ct X f.U f.lv T), f.X X → ∀ (δ : List (Option D)) (S : Bool → Prop), t T δ S → WTs c ifs δ S := ⟨fun h => h.run⟩
theorem ts0 : ReTs f [] Rd.noT := .mk fun c F δ S h => WTs_nil h
theorem ts1 (h : ReT f t tt) : ReTs f [t] tt := .mk fun c F δ S k => WTs_one (h c F δ S k)
theorem WTs_mono {X : Cx} {U : Pu} {lv : Nat} {T : XD} {c : Ct X U lv T} {ifs : List Expr} {δ : List (Option D)} {S S' : Bool → Prop} (h : WTs c ifs δ S) (k : ∀ b, S b → S' b) : WTs c ifs δ S' := fun L σ H Q En q => h L σ H Q En fun b H' s z => q b H' s (k b z)
theorem lcTurns {scope : Scope} {tg elt : Expr} {ifs : List Expr} {ts : List Nat} {g : RdG} {tt : RdT} {te : RdE} (hg : ReG (f.blk scope) tg ts g) (ht : ReTs (f.blk scope) ifs tt) (he : ReE (f.blk scope) elt te) {δ : List (Option D)} {S : List D → Prop} {ds : List D} (h : Rd.turns g tt te δ S ds) :
    Turns f.P f.w f.K f.mg f.base f.N f.U f.lv tg ifs elt scope f.sc δ ts S ds := by
  unfold Rd.turns at h
  obtain ⟨Pv, h0, hs, hd⟩ := h
  refine ⟨Pv, h0, fun i d ys h1 h2 h3 => ?_, hd⟩
  refine fun X1 c1 F1 => AG_mono (hg c1 F1 δ d _ (hs i d ys h1 h2 h3)) fun δ2 k2 => ?_
  refine fun X2 c2 F2 => WTs_mono (ht c2 F2 δ2 _ k2) fun b k3 => ?_
  cases b with
  | true =>
    rw [if_pos rfl]
    exact fun X3 c3 F3 => he c3 F3 δ2 _ k3
  | false =>
    rw [if_neg Bool.false_ne_true]
    exact k3
theorem lc {scope : Scope} {tg iter elt : Expr} {ifs : List Expr} {g : RdG} {tt : RdT} {te : RdE} {src : RdA} (own : List (Str × Nat)) (hi : ReJ f tg iter src) (hg : ReG (f.blk scope) tg (own.map (·.2)) g) (ht : ReTs (f.blk scope) ifs tt) (he : ReE (f.blk scope) elt te) (ok : blkC f.N f.sc scope own = true := by (try dsimp only [Fr.blk, Fr.lam]); decide +kernel)
    (hs : ∀ X : Cx, ∀ x, foldedSetIterable iter X.env x = pure x := by intro _ _; rfl) : ReE f (.ListComp elt [⟨tg, iter, ifs, 0⟩] scope pos) (Rd.lc (own.map (·.2)) src g tt te) := .mk fun {X T} c F δ S h =>
  eLc own (own.map (·.2)) F ok (fun _ h => h) (WJ_mono (hi c F δ _ h) fun ds h1 => by
    rw [fc_eq, wp_eq] at h1
    exact lcTurns hg ht he h1) (hs X)
theorem lcF {scope : Scope} {tg iter elt : Expr} {ifs : List Expr} {g : RdG} {tt : RdT} {te : RdE} {src : RdA} (own : List (Str × Nat)) (hi : ReJ f tg iter src) (hg : ReG (f.blk scope) tg (own.map (·.2)) g) (ht : ReTs (f.blk scope) ifs tt) (he : ReE (f.blk scope) elt te) (ok : blkC f.N f.sc scope own = true := by (try dsimp only [Fr.blk, Fr.lam]); decide +kernel)
    (hs : ∀ X : Cx, ∀ x, foldedSetIterable iter X.env x = pure x := by intro _ _; rfl) : ReF f (.ListComp elt [⟨tg, iter, ifs, 0⟩] scope pos) (Rd.lcF (own.map (·.2)) src g tt te) := .mk fun {X T} c F δ S h =>
  fLc own (own.map (·.2)) F ok (fun _ h => h) (WJ_mono (hi c F δ _ h) fun ds h1 => by
    rw [fc_eq, wp_eq] at h1
    exact lcTurns hg ht he h1) (hs X)
/-! ### statements -/
variable {t1 t2 : RdS}
theorem snil : ReSs f [] Rd.skip := .mk fun c F δ E h => WSs_nil h
theorem scons (h1 : ReS f st t1) (h2 : ReSs f sts t2) : ReSs f (st :: sts) (Rd.sq t1 t2) := .mk fun c F δ E h => WSs_cons (WS_mono (h1 c F δ _ h) fun δ' k => h2 c F δ' E k)
where WS_mono {X : Cx} {U : Pu} {lv : Nat} {T : XD} {c : Ct X U lv T} {st : Stmt} {δ : List (Option D)} {E : SE} {nx nx' : List (Option D) → Prop} (h : WS c st δ { E with nx := nx }) (k : ∀ δ', nx δ' → nx' δ') : WS c st δ { E with nx := nx' } := fun L σ H De N C => h L σ H De N ⟨fun L' σ' H' δ' N' z => C.nx L' σ' H' δ' N' (k _ z), C.rt, C.bk, C.ct⟩
theorem slast (h1 : ReS f st t1) : ReSs f [st] t1 := .mk fun c F δ E h => WSs_cons (scons.WS_mono (nx := E.nx) (h1 c F δ E h) fun δ' k => WSs_nil k)
theorem pass : ReS f (.Pass pos) Rd.skip := .mk fun c F δ E h => WS_pass h
theorem brk : ReS f (.Break pos) Rd.brk := .mk fun c F δ E h => WS_break h
theorem cnt : ReS f (.Continue pos) Rd.cnt := .mk fun c F δ E h => WS_continue h
theorem ret (ha : ReE f e ta) : ReS f (.Return (some e) pos) (Rd.ret ta) := .mk fun c F δ E h => WS_ret (ha c F _ _ (by
  have h : fc (fz δ) fun δ' => ta _ δ' E.rt := h
  rw [fc_eq, fz_eq] at h
  exact h))
theorem retN : ReS f (.Return none pos) Rd.retN := .mk fun c F δ E h => WS_retN h
theorem ex (ha : ReE f e ta) (hs : ∀ X : Cx, swapsWith e none pos.line X.env = pure false := by intro _; rfl) : ReS f (.Expr e pos) (Rd.ex ta) := .mk fun {X T} c F δ E h => WS_expr (ha c F δ _ h) (hs X)
theorem cond {A B : List Stmt} (ht : ReT f t tt) (h1 : ReSs f A t1) (h2 : ReSs f B t2) : ReS f (.If t A B pos) (Rd.cond tt t1 t2) := .mk fun c F δ E h => WS_if ((ht c F δ _ h).mono fun k h3 => by
  cases k with
  | true => rw [if_pos rfl]; exact h1 c F δ E h3
  | false => rw [if_neg Bool.false_ne_true]; exact h2 c F δ E h3)
theorem set {p' : Pos} (i : Nat) (ha : ReE f e ta) (hn : f.N[i]? = some x := by rfl) (hl : tgB f.z f.sc x = true := by (try dsimp only [Fr.blk, Fr.lam]); first | exact tgB_code (by decide +kernel) | decide +kernel) (hs : ∀ X : Cx, swapsWith e (some (.Name x p')) pos.line X.env = pure false := by intro _; rfl) : ReS f (.Assign [.Name x p'] e pos) (Rd.set i ta) := .mk fun {X T} c F δ E h =>
  WS_set i (WO_of ((ha c F δ _ h).mono fun d h1 => by
    rw [fc_eq, st_eq] at h1
    exact stP_ok h1)) (by rw [F.n]; exact hn) (F.loc (F.tl hl)) (hs X) (F.fn hl)
theorem setF {p' : Pos} {tf : RdA} (i : Nat) (ha : ReF f e tf) (hn : f.N[i]? = some x := by rfl) (hl : tgB f.z f.sc x = true := by (try dsimp only [Fr.blk, Fr.lam]); first | exact tgB_code (by decide +kernel) | decide +kernel) (hs : ∀ X : Cx, swapsWith e (some (.Name x p')) pos.line X.env = pure false := by intro _; rfl) : ReS f (.Assign [.Name x p'] e pos) (Rd.setF i tf) := .mk fun {X T} c F δ E h =>
  WS_set i (WO_new (fun L σ H Q N q => ha c F δ _ h L σ H Q N fun l H' vs ds s h1 h2 h3 h4 h5 => q l H' vs ds s h1 h2 h3 h4 (by rw [fc_eq, st_eq] at h5; exact h5))) (by rw [F.n]; exact hn) (F.loc (F.tl hl)) (hs X) (F.fn hl)
/-- y = [.. for ..] on one line -/
theorem setLc {py : Pos} {scope : Scope} {tg iter elt : Expr} {ifs : List Expr} {g : RdG} {tt : RdT} {te : RdE} {src : RdA} (i : Nat) (own : List (Str × Nat)) (hi : ReJ f tg iter src) (hg : ReG (f.blk scope) tg (own.map (·.2)) g) (ht : ReTs (f.blk scope) ifs tt) (he : ReE (f.blk scope) elt te) (hn : f.N[i]? = some x := by rfl) (ok : blkC f.N f.sc scope own = true := by (try dsimp only [Fr.blk, Fr.lam]); decide +kernel)
    (hy : f.sc.names.lookup x = some .local := by (try dsimp only [Fr.blk, Fr.lam]); decide +kernel) (hk : f.sc.kind = .function := by rfl) (hl : (py.line == p.line) = true := by rfl) (ha : (scope.names.any fun (n, k) => n == x && (k == .local || k == .cell)) = false := by (try dsimp only [Fr.blk, Fr.lam]); decide +kernel)
    (hs : ∀ X : Cx, ∀ x, foldedSetIterable iter X.env x = pure x := by intro _ _; rfl) : ReS f (.Assign [.Name x py] (.ListComp elt [⟨tg, iter, ifs, 0⟩] scope p) pos) (Rd.setL i (Rd.lcF (own.map (·.2)) src g tt te)) := .mk fun {X T} c F δ E h =>
  WS_setLc i own (own.map (·.2)) (S := fun ds => fc (st δ i (some (.lst ds))) E.nx) (WJ_mono (hi c F δ _ h) fun ds h1 => turns_of F (by
    rw [fc_eq, wp_eq] at h1
    exact lcTurns hg ht he h1)) (.inr fun ds k => by rw [fc_eq, st_eq] at k; exact k) (by rw [F.n, F.s]; exact blkOk_by ok) (fun _ h => h) (by rw [F.n]; exact hn) (by rw [F.s]; exact hy) (sw_true (by rw [F.s]; exact hk) (by rw [F.s]; exact hy) hl ha) (hs X)
theorem setLcO {py : Pos} {scope : Scope} {tg iter elt : Expr} {ifs : List Expr} {g : RdG} {tt : RdT} {te : RdE} {src : RdA} (i : Nat) (own : List (Str × Nat)) (hi : ReJ f tg iter src) (hg : ReG (f.blk scope) tg (own.map (·.2)) g) (ht : ReTs (f.blk scope) ifs tt) (he : ReE (f.blk scope) elt te) (hn : f.N[i]? = some x := by rfl) (ok : blkC f.N f.sc scope own = true := by (try dsimp only [Fr.blk, Fr.lam]); decide +kernel)
    (hy : f.sc.names.lookup x = some .local := by (try dsimp only [Fr.blk, Fr.lam]); decide +kernel) (hk : f.sc.kind = .function := by rfl) (hl : (py.line == p.line) = true := by rfl) (ha : (scope.names.any fun (n, k) => n == x && (k == .local || k == .cell)) = false := by (try dsimp only [Fr.blk, Fr.lam]); decide +kernel)
    (hs : ∀ X : Cx, ∀ x, foldedSetIterable iter X.env x = pure x := by intro _ _; rfl) : ReS f (.Assign [.Name x py] (.ListComp elt [⟨tg, iter, ifs, 0⟩] scope p) pos) (Rd.setF i (Rd.lcF (own.map (·.2)) src g tt te)) := .mk fun {X T} c F δ E h =>
  WS_setLc i own (own.map (·.2)) (S := fun ds => fc (st δ i (some (.own ds))) E.nx) (WJ_mono (hi c F δ _ h) fun ds h1 => turns_of F (by
    rw [fc_eq, wp_eq] at h1
    exact lcTurns hg ht he h1)) (.inl fun ds k => by rw [fc_eq, st_eq] at k; exact k) (by rw [F.n, F.s]; exact blkOk_by ok) (fun _ h => h) (by rw [F.n]; exact hn) (by rw [F.s]; exact hy) (sw_true (by rw [F.s]; exact hk) (by rw [F.s]; exact hy) hl ha) (hs X)
/-- a, b = e -/
theorem unp {tg : Expr} {g : RdG} (ts : List Nat) (ha : ReE f e ta) (hg : ReG f tg ts g) (hs : ∀ X : Cx, swapsWithSole [tg] e pos.line X.env = pure false := by intro _; rfl) (hw : swappedStores [tg] e { scope := f.sc, locals := 0, globals := 0, cells := [] } = pure none := by rfl) (h1 : ∀ X : Cx, (assignEach [tg] X.env).map (·.2) = [assign tg X.env] := by intro _; rfl) : ReS f (.Assign [tg] e pos) (Rd.unp ta g) := .mk fun {X T} c F δ E h =>
  WS_asg ts ((ha c F δ _ h).mono fun d k => let ⟨k1, k2⟩ := stP_ok k; ⟨k1, hg c F δ d _ k2⟩) (hs X) (swapped_at F.s _ _ hw) (h1 X)
theorem par2 {y : Str} {px py pt : Pos} {kt k2 pt2} (i j : Nat) (ha : ReE f a ta) (hb : ReE f b tb) (hi : f.N[i]? = some x := by rfl) (hj : f.N[j]? = some y := by rfl) (hij : i ≠ j := by decide) (hx : f.sc.names.lookup x = some .local := by (try dsimp only [Fr.blk, Fr.lam]); decide +kernel) (hy : f.sc.names.lookup y = some .local := by (try dsimp only [Fr.blk, Fr.lam]); decide +kernel)
    (hw : swappedStores [.Tuple [.Name x px, .Name y py] kt pt] (.Tuple [a, b] k2 pt2) { scope := f.sc, locals := 0, globals := 0, cells := [] } = pure (some [x, y]) := by rfl)
    (hs : ∀ X : Cx, swapsWithSole [.Tuple [.Name x px, .Name y py] kt pt] (.Tuple [a, b] k2 pt2) pos.line X.env = pure false := by intro _; rfl) (s1 : ∀ X : Cx, starEach (a :: [b]) X.env = (false, eval a X.env) :: starEach [b] X.env := by intro _; rfl) (s2 : ∀ X : Cx, starEach (b :: []) X.env = (false, eval b X.env) :: starEach [] X.env := by intro _; rfl) :
    ReS f (.Assign [.Tuple [.Name x px, .Name y py] kt pt] (.Tuple [a, b] k2 pt2) pos) (Rd.par2 i j ta tb) := .mk fun {X T} c F δ E h =>
  WS_par i j (WO_of ((ha c F δ _ h).mono fun d1 h1 => by
    obtain ⟨e1, h1⟩ := stP_ok h1
    refine ⟨e1, WO_of ((hb c F δ _ h1).mono fun d2 h2 => ?_)⟩
    have h3 := stP_ok h2
    rw [fc_eq, st_eq, st_eq] at h3
    exact h3)) (by rw [F.n]; exact hi) (by rw [F.n]; exact hj) hij (by rw [F.s]; exact hx) (by rw [F.s]; exact hy) (swapped_at F.s _ _ hw) (hs X) (s1 X) (s2 X)
theorem par3 {y u : Str} {px py pu pt : Pos} {e3 : Expr} {kt k2 pt2} (i j l : Nat) (ha : ReE f a ta) (hb : ReE f b tb) (hc : ReE f e3 tc) (hi : f.N[i]? = some x := by rfl) (hj : f.N[j]? = some y := by rfl) (hl : f.N[l]? = some u := by rfl) (hij : decide (i ≠ j ∧ i ≠ l ∧ j ≠ l) = true := by rfl) (hx : f.sc.names.lookup x = some .local := by (try dsimp only [Fr.blk, Fr.lam]); decide +kernel) (hy : f.sc.names.lookup y = some .local := by (try dsimp only [Fr.blk, Fr.lam]); decide +kernel) (hu : f.sc.names.lookup u = some .local := by (try dsimp only [Fr.blk, Fr.lam]); decide +kernel)
    (hw : swappedStores [.Tuple [.Name x px, .Name y py, .Name u pu] kt pt] (.Tuple [a, b, e3] k2 pt2) { scope := f.sc, locals := 0, globals := 0, cells := [] } = pure (some [x, y, u]) := by rfl)
    (hs : ∀ X : Cx, swapsWithSole [.Tuple [.Name x px, .Name y py, .Name u pu] kt pt] (.Tuple [a, b, e3] k2 pt2) pos.line X.env = pure false := by intro _; rfl) (s1 : ∀ X : Cx, starEach (a :: [b, e3]) X.env = (false, eval a X.env) :: starEach [b, e3] X.env := by intro _; rfl) (s2 : ∀ X : Cx, starEach (b :: [e3]) X.env = (false, eval b X.env) :: starEach [e3] X.env := by intro _; rfl) (s3 : ∀ X : Cx, starEach (e3 :: []) X.env = (false, eval e3 X.env) :: starEach [] X.env := by intro _; rfl) :
    ReS f (.Assign [.Tuple [.Name x px, .Name y py, .Name u pu] kt pt] (.Tuple [a, b, e3] k2 pt2) pos) (Rd.par3 i j l ta tb tc) := .mk fun {X T} c F δ E h =>
  have hij := of_decide_eq_true hij
  WS_par3 i j l (WA_cons ((ha c F δ _ h).mono fun d1 h1 => WA_cons ((hb c F δ _ (stP_ok h1).2).mono fun d2 h2 => WA_cons ((hc c F δ _ (stP_ok h2).2).mono fun d3 h3 => WA_nil ⟨d1, d2, d3, rfl, (stP_ok h1).1, (stP_ok h2).1, (stP_ok h3).1, by
    have h4 := (stP_ok h3).2
    rw [fc_eq, st_eq, st_eq, st_eq] at h4
    exact h4⟩) (s3 X)) (s2 X)) (s1 X)) (by rw [F.n]; exact hi) (by rw [F.n]; exact hj) (by rw [F.n]; exact hl) hij.1 hij.2.1 hij.2.2 (by rw [F.s]; exact hx) (by rw [F.s]; exact hy) (by rw [F.s]; exact hu) (swapped_at F.s _ _ hw) (hs X)
theorem par2F {y : Str} {px py pt : Pos} {kt k2 pt2} {fa fb : RdA} (i j : Nat) (ha : ReF f a fa) (hb : ReF f b fb) (hi : f.N[i]? = some x := by rfl) (hj : f.N[j]? = some y := by rfl) (hij : i ≠ j := by decide) (hx : f.sc.names.lookup x = some .local := by (try dsimp only [Fr.blk, Fr.lam]); decide +kernel) (hy : f.sc.names.lookup y = some .local := by (try dsimp only [Fr.blk, Fr.lam]); decide +kernel)
    (hw : swappedStores [.Tuple [.Name x px, .Name y py] kt pt] (.Tuple [a, b] k2 pt2) { scope := f.sc, locals := 0, globals := 0, cells := [] } = pure (some [x, y]) := by rfl)
    (hs : ∀ X : Cx, swapsWithSole [.Tuple [.Name x px, .Name y py] kt pt] (.Tuple [a, b] k2 pt2) pos.line X.env = pure false := by intro _; rfl) (s1 : ∀ X : Cx, starEach (a :: [b]) X.env = (false, eval a X.env) :: starEach [b] X.env := by intro _; rfl) (s2 : ∀ X : Cx, starEach (b :: []) X.env = (false, eval b X.env) :: starEach [] X.env := by intro _; rfl) :
    ReS f (.Assign [.Tuple [.Name x px, .Name y py] kt pt] (.Tuple [a, b] k2 pt2) pos) (Rd.par2F i j fa fb) := .mk fun {X T} c F δ E h =>
  WS_par i j (WO_new fun L σ H Q N q => ha c F δ _ h L σ H Q N fun l H' vs ds s g1 g2 g3 g4 g5 => q l H' vs ds s g1 g2 g3 g4 (WO_new fun L σ H Q N q => hb c F δ _ g5 L σ H Q N fun l H' vs ds s h1 h2 h3 h4 h5 => q l H' vs ds s h1 h2 h3 h4 (by
    rw [fc_eq, st_eq, st_eq] at h5
    exact h5))) (by rw [F.n]; exact hi) (by rw [F.n]; exact hj) hij (by rw [F.s]; exact hx) (by rw [F.s]; exact hy) (swapped_at F.s _ _ hw) (hs X) (s1 X) (s2 X)
theorem own_ok {δ : List (Option D)} {i : Nat} {A : List D → Prop} (h : Rd.ownP (sl δ i) A) : ∃ xs, δ[i]? = some (some (.own xs)) ∧ A xs := by
  unfold Rd.ownP at h
  split at h
  · rename_i xs q
    exact ⟨xs, sl_eq q, h⟩
  · exact h.elim
theorem int_ok {A : Int → Prop} {d : D} (h : Rd.intD A d) : ∃ k, d = .int k ∧ A k := by
  cases d with
  | int k => exact ⟨k, rfl, h⟩
  | _ => exact False.elim h
/-! own lists changed -/
theorem app {p' apos cpos : Pos} (i : Nat) (ha : ReE f e ta) (hn : f.N[i]? = some x := by rfl) (hv : visB f.sc x = true := by (try dsimp only [Fr.blk, Fr.lam]); decide +kernel)
    (hs : ∀ X : Cx, swapsWith (.Call (.Attribute (.Name x p') "append" apos) [e] [] cpos) none pos.line X.env = pure false := by intro _; rfl)
    (hbase : ∀ X : Cx, attributeBase (.Name x p') "append" X.env (eval (.Name x p') X.env) = eval (.Name x p') X.env := by intro _; rfl) (hfew : ∀ X : Cx, ((backTo cpos (starEach [e] X.env)).all (fun x => !x.1) && (backToKw cpos (keywordEach [] X.env)).all (fun x => x.1.isSome) && decide (([e] : List Expr).length + ([] : List Keyword).length + (if ([] : List Keyword).isEmpty then 0 else 1) < 30)) = true := by intro _; rfl)
    (hline : (apos.endLine == cpos.line) = true := by rfl) (he : ∀ X : Cx, starEach (e :: []) X.env = (false, eval e X.env) :: starEach [] X.env := by intro _; rfl) (hpl : ∀ X : Cx, (backTo cpos (starEach [] X.env)).any (·.1) = false := by intro _; rfl) :
    ReS f (.Expr (.Call (.Attribute (.Name x p') "append" apos) [e] [] cpos) pos) (Rd.app i ta) := .mk fun {X T} c F δ E h => by
  obtain ⟨xs, hi, h⟩ := own_ok h
  refine WS_append i hi ((ha c F δ _ h).mono fun d h1 => ?_) (by rw [F.n]; exact hn) (F.vis hv) (visB_ok hv).2.1 (visB_ok hv).2.2 (hs X) (hbase X) (hfew X) hline (he X) (hpl X)
  have h2 := stP_ok h1
  rw [fc_eq, st_eq] at h2
  exact h2
theorem ext {p' apos cpos : Pos} (i : Nat) (ha : ReE f e ta) (hn : f.N[i]? = some x := by rfl) (hv : visB f.sc x = true := by (try dsimp only [Fr.blk, Fr.lam]); decide +kernel)
    (hs : ∀ X : Cx, swapsWith (.Call (.Attribute (.Name x p') "extend" apos) [e] [] cpos) none pos.line X.env = pure false := by intro _; rfl)
    (hbase : ∀ X : Cx, attributeBase (.Name x p') "extend" X.env (eval (.Name x p') X.env) = eval (.Name x p') X.env := by intro _; rfl) (hfew : ∀ X : Cx, ((backTo cpos (starEach [e] X.env)).all (fun x => !x.1) && (backToKw cpos (keywordEach [] X.env)).all (fun x => x.1.isSome) && decide (([e] : List Expr).length + ([] : List Keyword).length + (if ([] : List Keyword).isEmpty then 0 else 1) < 30)) = true := by intro _; rfl)
    (hline : (apos.endLine == cpos.line) = true := by rfl) (he : ∀ X : Cx, starEach (e :: []) X.env = (false, eval e X.env) :: starEach [] X.env := by intro _; rfl) (hpl : ∀ X : Cx, (backTo cpos (starEach [] X.env)).any (·.1) = false := by intro _; rfl) :
    ReS f (.Expr (.Call (.Attribute (.Name x p') "extend" apos) [e] [] cpos) pos) (Rd.ext i ta) := .mk fun {X T} c F δ E h => by
  obtain ⟨xs, hi, h⟩ := own_ok h
  refine WS_extT i hi ((ha c F δ _ h).mono fun d h1 => ?_) (by rw [F.n]; exact hn) (F.vis hv) (visB_ok hv).2.1 (visB_ok hv).2.2 (hs X) (hbase X) (hfew X) hline (he X) (hpl X)
  cases d with
  | lst ys =>
    obtain ⟨g1, g2⟩ := h1
    rw [fc_eq, st_eq] at g2
    exact ⟨ys, .inl rfl, g1, g2⟩
  | tup ys =>
    obtain ⟨g1, g2⟩ := h1
    rw [fc_eq, st_eq] at g2
    exact ⟨ys, .inr rfl, g1, g2⟩
  | _ => exact False.elim h1
theorem put {p' spos : Pos} {ixe : Expr} {ti : RdE} (i : Nat) (ha : ReE f e ta) (hi : ReE f ixe ti) (hn : f.N[i]? = some x := by rfl) (hv : visB f.sc x = true := by (try dsimp only [Fr.blk, Fr.lam]); decide +kernel)
    (ha' : ∀ X : Cx, ∀ v, assign (.Subscript (.Name x p') ixe spos) X.env v = (do
      let ov ← holding [v] (eval (.Name x p') X.env)
      let iv ← holding [v, ov] (eval ixe X.env)
      standAt spos
      holding [v, ov, iv] (setItem ov iv v)
      release [v, ov, iv] []) := by intro _ _; rfl)
    (hs : ∀ X : Cx, swapsWithSole [.Subscript (.Name x p') ixe spos] e pos.line X.env = pure false := by intro _; rfl) (hw : ∀ X : Cx, swappedStores [.Subscript (.Name x p') ixe spos] e X.env = pure none := by intro _; rfl) (h1 : ∀ X : Cx, (assignEach [.Subscript (.Name x p') ixe spos] X.env).map (·.2) = [assign (.Subscript (.Name x p') ixe spos) X.env] := by intro _; rfl) :
    ReS f (.Assign [.Subscript (.Name x p') ixe spos] e pos) (Rd.put i ti ta) := .mk fun {X T} c F δ E h => by
  obtain ⟨xs, hi', h⟩ := own_ok h
  refine WS_setItem i hi' ((ha c F δ _ h).mono fun d h1 => ?_) (by rw [F.n]; exact hn) (F.vis hv) (visB_ok hv).2.1 (visB_ok hv).2.2 (ha' X) (hs X) (hw X) (h1 X)
  obtain ⟨g1, g2⟩ := stP_ok h1
  refine ⟨g1, (hi c F δ _ g2).mono fun y h2 => ?_⟩
  obtain ⟨k, rfl, j, g3, g4⟩ := int_ok h2
  rw [fc_eq, st_eq] at g4
  exact ⟨k, j, rfl, g3, g4⟩
theorem aug (i : Nat) (ha : ReE f e ta) (hn : f.N[i]? = some x := by rfl) (hl : tgB f.z f.sc x = true := by (try dsimp only [Fr.blk, Fr.lam]); first | exact tgB_code (by decide +kernel) | decide +kernel) : ReS f (.AugAssign (.Name x p) .Add e pos) (Rd.aug i ta) := .mk fun {X T} c F δ E h => by
  have h : Rd.intP (sl δ i) fun n => ta T δ (Rd.intD fun m => fc (Dl.st δ i (some (.int (n + m)))) E.nx) := h
  unfold Rd.intP at h
  split at h
  · rename_i n q
    refine WS_augAdd i (sl_eq q) ((ha c F δ _ h).mono fun d h1 => ?_) (by rw [F.n]; exact hn) (F.loc (F.tl hl)) (F.fn hl)
    obtain ⟨k, rfl, g⟩ := int_ok h1
    rw [fc_eq, st_eq] at g
    exact ⟨k, rfl, g⟩
  · exact h.elim
/-! loops -/
theorem loop {tg iter : Expr} {body : List Stmt} {src : RdA} {g : RdG} {tb : RdS} (hi : ReI f tg iter src) (hg : ReG f tg (List.range f.N.length) g) (hb : ReSs f body tb) (hs : ∀ X : Cx, ∀ x, foldedSetIterable iter X.env x = pure x := by intro _ _; rfl) : ReS f (.For tg iter body [] pos) (Rd.loop src g tb) := .mk fun {X T} c F δ E h =>
  WS_for (List.range f.N.length) (fun L σ H R En q => hi c F δ _ h L σ H R En fun J H' ds s w hlp => by
    unfold Rd.loopG at hlp
    obtain ⟨I, h0, hst, hf⟩ := hlp
    exact q J H' ds s w ⟨I, h0, fun i d δ' hd _ hi' B hB => AG_mono (hg (c.at_ B hB) F δ' d _ (hst i d δ' hd hi')) fun δ2 k => hb (c.at_ B hB) F δ2 _ k, hf⟩) (hs X)
theorem whil {body : List Stmt} {tb : RdS} (ht : ReT f t tt) (hb : ReSs f body tb) : ReS f (.While t body [] pos) (Rd.whil tt tb) := .mk fun {X T} c F δ E h => by
  have h : Rd.whilG tt tb T δ E := h
  unfold Rd.whilG at h
  obtain ⟨I, m0, h0, hst⟩ := h
  refine WS_while I m0 h0 fun m δ' hi => (ht c F δ' _ (hst m δ' hi)).mono fun b k => ?_
  cases b with
  | true => rw [if_pos rfl]; exact hb c F δ' _ k
  | false => rw [if_neg Bool.false_ne_true]; exact k
end
/-! ### a def -/
end De
def sD : Nat → List D → List (Option D)
  | 0, _ => []
  | n + 1, [] => none :: sD n []
  | n + 1, d :: r => some d :: sD n r
theorem sD_nil : ∀ n, sD n [] = List.replicate n none
  | 0 => rfl
  | n + 1 => by
    show none :: sD n [] = _
    rw [sD_nil n]
    rfl
theorem sD_eq : ∀ (N : List Str) (ds : List D), ds.length ≤ N.length → sD N.length ds = startD N ds
  | N, [], _ => by
    unfold startD
    rw [sD_nil]
    simp
  | [], d :: r, h => by simp at h
  | x :: N, d :: r, h => by
    show some d :: sD N.length r = _
    rw [sD_eq N r (by simpa using h)]
    unfold startD
    simp
/-- what a reading keeps -/
abbrev eD (S : D → Prop) : SE := { nx := fun _ => S .non, rt := S }
/-- what a reading keeps: n slots -/
def Okd (n : Nat) (t : RdS) (sp : DSpec) : Prop := ∀ (T : XD) (ds : List D) (S : D → Prop), sp ds S T → fc (sD n ds) fun δ => t T δ (eD S)
section
variable {P : Program} {w : World} {K : PySem.W.Frag} {mg : Str → Option Value} {base : Heap} {U : Pu}
theorem fnR {x : Str} {st : Stmt} {N ps : List Str} {n k : Nat} {sp : DSpec} {t : RdS} (A : DefAt K mg x st ps) (Sc : FnScope N ps (defScope st)) (hn : ps.length = n) (hN : n ≤ N.length) (d : ReSs ⟨P, w, K, mg, base, N, defScope st, .top, U, k⟩ (defBody st) t) (h : Okd N.length t sp) : Fn P w K mg base U (k + 1) x n sp :=
  fnO A Sc hn fun X T c f ds S hl hs => d c f _ _ (by
    have h1 := h T ds S hs
    rw [fc_eq, sD_eq N ds (by omega)] at h1
    exact h1)
theorem mtR {m qual : Str} {st : Stmt} {N ps : List Str} {n k : Nat} {sp : DSpec} {C : Addr} {t : RdS} (A : MethAt K C m qual st ps) (Sc : FnScope N ps (defScope st)) (hn : ps.length = n) (hN : n ≤ N.length) (d : ReSs ⟨P, w, K, mg, base, N, defScope st, .top, U, k⟩ (defBody st) t) (h : Okd N.length t sp) : Mt P w K mg base U (k + 1) C m n sp :=
  mtO A Sc hn fun X T c f ds S hl hs => d c f _ _ (by
    have h1 := h T ds S hs
    rw [fc_eq, sD_eq N ds (by omega)] at h1
    exact h1)
end
end Dl

set_option maxRecDepth 100000
set_option maxHeartbeats 4000000
/-! # Derivations in short -/
namespace Dl
open PySem PySem.Spec PyProof.Rows L2
section
variable {mg : Str → Option Value}
theorem Blt.len (h : Blt mg) : mg "len" = none := h.at (by decide +kernel)
theorem Blt.range (h : Blt mg) : mg "range" = none := h.at (by decide +kernel)
theorem Blt.zip (h : Blt mg) : mg "zip" = none := h.at (by decide +kernel)
theorem Blt.enumerate (h : Blt mg) : mg "enumerate" = none := h.at (by decide +kernel)
theorem Blt.sum (h : Blt mg) : mg "sum" = none := h.at (by decide +kernel)
theorem Blt.abs (h : Blt mg) : mg "abs" = none := h.at (by decide +kernel)
theorem Blt.max (h : Blt mg) : mg "max" = none := h.at (by decide +kernel)
theorem Blt.min (h : Blt mg) : mg "min" = none := h.at (by decide +kernel)
theorem Blt.all (h : Blt mg) : mg "all" = none := h.at (by decide +kernel)
theorem Blt.any (h : Blt mg) : mg "any" = none := h.at (by decide +kernel)
theorem Blt.isinstance (h : Blt mg) : mg "isinstance" = none := h.at (by decide +kernel)
theorem Blt.int (h : Blt mg) : mg "int" = none := h.at (by decide +kernel)
theorem Blt.bool (h : Blt mg) : mg "bool" = none := h.at (by decide +kernel)
theorem Blt.str (h : Blt mg) : mg "str" = none := h.at (by decide +kernel)
theorem Blt.tuple (h : Blt mg) : mg "tuple" = none := h.at (by decide +kernel)
theorem Blt.list (h : Blt mg) : mg "list" = none := h.at (by decide +kernel)
end
def Rd.no : RdS := fun _ _ _ => False
namespace De
section
variable {f : Fr} {e a : Expr} {es : List Expr} {pos p : Pos} {ta : RdE} {tas : RdA} {st : Stmt}
theorem no : ReS f st Rd.no := .mk fun c F δ E h => False.elim h
theorem o_add : OpAt f (binaryOp .Add) Op.add := fun c _ => od_add
theorem o_sub : OpAt f (binaryOp .Sub) Op.sub := fun c _ => od_sub
theorem o_mul : OpAt f (binaryOp .Mult) Op.mul := fun c _ => od_mul
theorem o_div : OpAt f (binaryOp .FloorDiv) Op.div := fun c _ => od_div
theorem o_mod : OpAt f (binaryOp .Mod) Op.mod := fun c _ => od_mod
theorem o_pow : OpAt f (binaryOp .Pow) Op.pow := fun c _ => od_pow
theorem o_eq : OpAt f (compareOp .Eq) Op.eq := fun c _ => od_eq
theorem o_ne : OpAt f (compareOp .NotEq) Op.ne := fun c _ => od_ne
theorem o_lt : OpAt f (compareOp .Lt) Op.lt := fun c _ => od_lt
theorem o_le : OpAt f (compareOp .LtE) Op.le := fun c _ => od_le
theorem o_gt : OpAt f (compareOp .Gt) Op.gt := fun c _ => od_gt
theorem o_ge : OpAt f (compareOp .GtE) Op.ge := fun c _ => od_ge
theorem o_isin : OpAt f (compareOp .In) Op.isin := fun c _ => od_in
theorem o_nin : OpAt f (compareOp .NotIn) Op.nin := fun c _ => od_nin
theorem bi_len : BiOk (.builtin "len") Bi.len := fun h => cd_len h
theorem bi_sum : BiOk (.builtin "sum") Bi.sum := fun h => cd_sum h
theorem bi_all : BiOk (.builtin "all") Bi.all := fun h => cd_all h
theorem bi_any : BiOk (.builtin "any") Bi.any := fun h => cd_any h
theorem bi_abs : BiOk (.builtin "abs") Bi.abs := fun h => cd_abs h
theorem bi_max : BiOk (.builtin "max") Bi.max := fun h => cd_max h
theorem bi_min : BiOk (.builtin "min") Bi.min := fun h => cd_min h
theorem bi_int : BiOk (.type "int") Bi.int := fun h => cd_int h
theorem bi_bool : BiOk (.type "bool") Bi.bool := fun h => cd_bool h
theorem bi_tuple : BiOk (.type "tuple") Bi.tuple := fun h => cd_tuple h
theorem bi_list : BiOk (.type "list") Bi.list := fun h => cd_list h
theorem bLen (hb : Blt f.mg) (hs : ReA f (e :: es) tas) (hg : glbB f.sc "len" = true := by (try dsimp only [Fr.blk, Fr.lam]); decide +kernel) (he : ∀ X : Cx, starEach (e :: es) X.env = (false, eval e X.env) :: starEach es X.env := by intro _; rfl) (hpl : ∀ X : Cx, (backTo pos (starEach es X.env)).any (·.1) = false := by intro _; rfl) : ReE f (.Call (.Name "len" p) (e :: es) [] pos) (Rd.blt Bi.len tas) := blt bi_len bt_len hb.len hs hg he hpl
theorem bSum (hb : Blt f.mg) (hs : ReA f (e :: es) tas) (hg : glbB f.sc "sum" = true := by (try dsimp only [Fr.blk, Fr.lam]); decide +kernel) (he : ∀ X : Cx, starEach (e :: es) X.env = (false, eval e X.env) :: starEach es X.env := by intro _; rfl) (hpl : ∀ X : Cx, (backTo pos (starEach es X.env)).any (·.1) = false := by intro _; rfl) : ReE f (.Call (.Name "sum" p) (e :: es) [] pos) (Rd.blt Bi.sum tas) := blt bi_sum bt_sum hb.sum hs hg he hpl
theorem bAll (hb : Blt f.mg) (hs : ReA f (e :: es) tas) (hg : glbB f.sc "all" = true := by (try dsimp only [Fr.blk, Fr.lam]); decide +kernel) (he : ∀ X : Cx, starEach (e :: es) X.env = (false, eval e X.env) :: starEach es X.env := by intro _; rfl) (hpl : ∀ X : Cx, (backTo pos (starEach es X.env)).any (·.1) = false := by intro _; rfl) : ReE f (.Call (.Name "all" p) (e :: es) [] pos) (Rd.blt Bi.all tas) := blt bi_all bt_all hb.all hs hg he hpl
theorem bAny (hb : Blt f.mg) (hs : ReA f (e :: es) tas) (hg : glbB f.sc "any" = true := by (try dsimp only [Fr.blk, Fr.lam]); decide +kernel) (he : ∀ X : Cx, starEach (e :: es) X.env = (false, eval e X.env) :: starEach es X.env := by intro _; rfl) (hpl : ∀ X : Cx, (backTo pos (starEach es X.env)).any (·.1) = false := by intro _; rfl) : ReE f (.Call (.Name "any" p) (e :: es) [] pos) (Rd.blt Bi.any tas) := blt bi_any bt_any hb.any hs hg he hpl
theorem bAbs (hb : Blt f.mg) (hs : ReA f (e :: es) tas) (hg : glbB f.sc "abs" = true := by (try dsimp only [Fr.blk, Fr.lam]); decide +kernel) (he : ∀ X : Cx, starEach (e :: es) X.env = (false, eval e X.env) :: starEach es X.env := by intro _; rfl) (hpl : ∀ X : Cx, (backTo pos (starEach es X.env)).any (·.1) = false := by intro _; rfl) : ReE f (.Call (.Name "abs" p) (e :: es) [] pos) (Rd.blt Bi.abs tas) := blt bi_abs bt_abs hb.abs hs hg he hpl
theorem bMax (hb : Blt f.mg) (hs : ReA f (e :: es) tas) (hg : glbB f.sc "max" = true := by (try dsimp only [Fr.blk, Fr.lam]); decide +kernel) (he : ∀ X : Cx, starEach (e :: es) X.env = (false, eval e X.env) :: starEach es X.env := by intro _; rfl) (hpl : ∀ X : Cx, (backTo pos (starEach es X.env)).any (·.1) = false := by intro _; rfl) : ReE f (.Call (.Name "max" p) (e :: es) [] pos) (Rd.blt Bi.max tas) := blt bi_max bt_max hb.max hs hg he hpl
theorem bMin (hb : Blt f.mg) (hs : ReA f (e :: es) tas) (hg : glbB f.sc "min" = true := by (try dsimp only [Fr.blk, Fr.lam]); decide +kernel) (he : ∀ X : Cx, starEach (e :: es) X.env = (false, eval e X.env) :: starEach es X.env := by intro _; rfl) (hpl : ∀ X : Cx, (backTo pos (starEach es X.env)).any (·.1) = false := by intro _; rfl) : ReE f (.Call (.Name "min" p) (e :: es) [] pos) (Rd.blt Bi.min tas) := blt bi_min bt_min hb.min hs hg he hpl
theorem tInt (hb : Blt f.mg) (hs : ReA f (e :: es) tas) (hg : glbB f.sc "int" = true := by (try dsimp only [Fr.blk, Fr.lam]); decide +kernel) (he : ∀ X : Cx, starEach (e :: es) X.env = (false, eval e X.env) :: starEach es X.env := by intro _; rfl) (hpl : ∀ X : Cx, (backTo pos (starEach es X.env)).any (·.1) = false := by intro _; rfl) : ReE f (.Call (.Name "int" p) (e :: es) [] pos) (Rd.blt Bi.int tas) := bty bi_int bt_int hb.int hs hg he hpl
theorem tBool (hb : Blt f.mg) (hs : ReA f (e :: es) tas) (hg : glbB f.sc "bool" = true := by (try dsimp only [Fr.blk, Fr.lam]); decide +kernel) (he : ∀ X : Cx, starEach (e :: es) X.env = (false, eval e X.env) :: starEach es X.env := by intro _; rfl) (hpl : ∀ X : Cx, (backTo pos (starEach es X.env)).any (·.1) = false := by intro _; rfl) : ReE f (.Call (.Name "bool" p) (e :: es) [] pos) (Rd.blt Bi.bool tas) := bty bi_bool bt_bool hb.bool hs hg he hpl
theorem tTup (hb : Blt f.mg) (hs : ReA f (e :: es) tas) (hg : glbB f.sc "tuple" = true := by (try dsimp only [Fr.blk, Fr.lam]); decide +kernel) (he : ∀ X : Cx, starEach (e :: es) X.env = (false, eval e X.env) :: starEach es X.env := by intro _; rfl) (hpl : ∀ X : Cx, (backTo pos (starEach es X.env)).any (·.1) = false := by intro _; rfl) : ReE f (.Call (.Name "tuple" p) (e :: es) [] pos) (Rd.blt Bi.tuple tas) := bty bi_tuple bt_tuple hb.tuple hs hg he hpl
theorem tLst (hb : Blt f.mg) (hs : ReA f (e :: es) tas) (hg : glbB f.sc "list" = true := by (try dsimp only [Fr.blk, Fr.lam]); decide +kernel) (he : ∀ X : Cx, starEach (e :: es) X.env = (false, eval e X.env) :: starEach es X.env := by intro _; rfl) (hpl : ∀ X : Cx, (backTo pos (starEach es X.env)).any (·.1) = false := by intro _; rfl) : ReE f (.Call (.Name "list" p) (e :: es) [] pos) (Rd.blt Bi.list tas) := bty bi_list bt_list hb.list hs hg he hpl
variable {p1 p2 : Pos}
theorem isInt (hb : Blt f.mg) (ha : ReE f a ta) (hg : glbB f.sc "isinstance" = true := by (try dsimp only [Fr.blk, Fr.lam]); decide +kernel) (hg2 : glbB f.sc "int" = true := by (try dsimp only [Fr.blk, Fr.lam]); decide +kernel)
    (he : ∀ X : Cx, starEach [a, .Name "int" p2] X.env = (false, eval a X.env) :: starEach [.Name "int" p2] X.env := by intro _; rfl) (hpl : ∀ X : Cx, (backTo pos (starEach [.Name "int" p2] X.env)).any (·.1) = false := by intro _; rfl) : ReE f (.Call (.Name "isinstance" p1) [a, .Name "int" p2] [] pos) (Rd.isTy Rd.pInt ta) := isTy tyInt bt_int hb.isinstance hb.int ha hg hg2 he hpl
theorem isBool (hb : Blt f.mg) (ha : ReE f a ta) (hg : glbB f.sc "isinstance" = true := by (try dsimp only [Fr.blk, Fr.lam]); decide +kernel) (hg2 : glbB f.sc "bool" = true := by (try dsimp only [Fr.blk, Fr.lam]); decide +kernel)
    (he : ∀ X : Cx, starEach [a, .Name "bool" p2] X.env = (false, eval a X.env) :: starEach [.Name "bool" p2] X.env := by intro _; rfl) (hpl : ∀ X : Cx, (backTo pos (starEach [.Name "bool" p2] X.env)).any (·.1) = false := by intro _; rfl) : ReE f (.Call (.Name "isinstance" p1) [a, .Name "bool" p2] [] pos) (Rd.isTy Rd.pBool ta) := isTy tyBool bt_bool hb.isinstance hb.bool ha hg hg2 he hpl
theorem isTup (hb : Blt f.mg) (ha : ReE f a ta) (hg : glbB f.sc "isinstance" = true := by (try dsimp only [Fr.blk, Fr.lam]); decide +kernel) (hg2 : glbB f.sc "tuple" = true := by (try dsimp only [Fr.blk, Fr.lam]); decide +kernel)
    (he : ∀ X : Cx, starEach [a, .Name "tuple" p2] X.env = (false, eval a X.env) :: starEach [.Name "tuple" p2] X.env := by intro _; rfl) (hpl : ∀ X : Cx, (backTo pos (starEach [.Name "tuple" p2] X.env)).any (·.1) = false := by intro _; rfl) : ReE f (.Call (.Name "isinstance" p1) [a, .Name "tuple" p2] [] pos) (Rd.isTy Rd.pTup ta) := isTy tyTup bt_tuple hb.isinstance hb.tuple ha hg hg2 he hpl
theorem isLst (hb : Blt f.mg) (ha : ReE f a ta) (hg : glbB f.sc "isinstance" = true := by (try dsimp only [Fr.blk, Fr.lam]); decide +kernel) (hg2 : glbB f.sc "list" = true := by (try dsimp only [Fr.blk, Fr.lam]); decide +kernel)
    (he : ∀ X : Cx, starEach [a, .Name "list" p2] X.env = (false, eval a X.env) :: starEach [.Name "list" p2] X.env := by intro _; rfl) (hpl : ∀ X : Cx, (backTo pos (starEach [.Name "list" p2] X.env)).any (·.1) = false := by intro _; rfl) : ReE f (.Call (.Name "isinstance" p1) [a, .Name "list" p2] [] pos) (Rd.isTy Rd.pLst ta) := isTy tyLst bt_list hb.isinstance hb.list ha hg hg2 he hpl
theorem isStr (hb : Blt f.mg) (ha : ReE f a ta) (hg : glbB f.sc "isinstance" = true := by (try dsimp only [Fr.blk, Fr.lam]); decide +kernel) (hg2 : glbB f.sc "str" = true := by (try dsimp only [Fr.blk, Fr.lam]); decide +kernel)
    (he : ∀ X : Cx, starEach [a, .Name "str" p2] X.env = (false, eval a X.env) :: starEach [.Name "str" p2] X.env := by intro _; rfl) (hpl : ∀ X : Cx, (backTo pos (starEach [.Name "str" p2] X.env)).any (·.1) = false := by intro _; rfl) : ReE f (.Call (.Name "isinstance" p1) [a, .Name "str" p2] [] pos) (Rd.isTy Rd.pStr ta) := isTy tyStr bt_str hb.isinstance hb.str ha hg hg2 he hpl
end
end De
/-! ### turns -/
section
variable {α β : Type} {tg : RdG} {tests : RdT} {elt : RdE} {δ : List (Option D)} {S : List D → Prop} {ds : List D}
/-- each turn gives one item -/
theorem Rd.tmap (e : β → D) (f : α → β) (enc : α → D) (xs : List α) (hds : ds = xs.map enc) (h : ∀ x, x ∈ xs → ∀ (S' : D → Prop), S' (e (f x)) → tg δ (enc x) fun δ2 => elt noX δ2 S') (hS : S ((xs.map f).map e)) (hst : ∀ b, (e b).still = true := by intro _; rfl) : Rd.turns tg Rd.noT elt δ S ds := by
  subst hds
  unfold Rd.turns
  refine ⟨fun i ys => ys = ((xs.take i).map f).map e, rfl, fun i d ys hd hy p => ?_, fun ys _ p => by rw [p, List.length_map, List.take_length]; exact hS⟩
  rw [List.getElem?_map] at hd
  cases q : xs[i]? with
  | none => rw [q] at hd; cases hd
  | some x =>
    rw [q] at hd
    cases hd
    refine h x (List.mem_of_getElem? q) _ ⟨hst _, ?_⟩
    show _ = _
    rw [List.take_add_one, q, p]
    simp
/-- a test, then an item -/
theorem Rd.tif (e : β → D) (f : α → β) (t : α → Bool) (enc : α → D) (xs : List α) (hds : ds = xs.map enc) (h : ∀ x, x ∈ xs → ∀ (S' : D → Prop) (A : Prop), (t x = true → S' (e (f x))) → (t x = false → A) → tg δ (enc x) fun δ2 => tests noX δ2 fun b => brB b (elt noX δ2 S') A) (hS : S (((xs.filter t).map f).map e)) (hst : ∀ b, (e b).still = true := by intro _; rfl) : Rd.turns tg tests elt δ S ds := by
  subst hds
  unfold Rd.turns
  refine ⟨fun i ys => ys = (((xs.take i).filter t).map f).map e, rfl, fun i d ys hd hy p => ?_, fun ys _ p => by rw [p, List.length_map, List.take_length]; exact hS⟩
  rw [List.getElem?_map] at hd
  cases q : xs[i]? with
  | none => rw [q] at hd; cases hd
  | some x =>
    rw [q] at hd
    cases hd
    refine h x (List.mem_of_getElem? q) _ _ (fun k => ⟨hst _, ?_⟩) (fun k => ?_)
    · show _ = _
      rw [List.take_add_one, q, p]
      simp [List.filter_append, k]
    · show _ = _
      rw [List.take_add_one, q, p]
      simp [List.filter_append, k]
/-- each turn gives one of some items -/
theorem Rd.tsome (e : β → D) (R : α → β → Prop) (enc : α → D) (xs : List α) (hds : ds = xs.map enc) (h : ∀ x, x ∈ xs → ∀ (S' : D → Prop), (∀ b, R x b → S' (e b)) → tg δ (enc x) fun δ2 => elt noX δ2 S') (hS : ∀ bs : List β, bs.length = xs.length → (∀ (i : Nat) x b, xs[i]? = some x → bs[i]? = some b → R x b) → S (bs.map e)) (hst : ∀ b, (e b).still = true := by intro _; rfl) : Rd.turns tg Rd.noT elt δ S ds := by
  subst hds
  unfold Rd.turns
  refine ⟨fun i ys => ∃ bs : List β, ys = bs.map e ∧ bs.length = i ∧ ∀ (j : Nat) x b, xs[j]? = some x → bs[j]? = some b → R x b, ⟨[], rfl, rfl, fun j x b _ h => by simp at h⟩, fun i d ys hd hy p => ?_, fun ys _ p => ?_⟩
  · rw [List.getElem?_map] at hd
    cases q : xs[i]? with
    | none => rw [q] at hd; cases hd
    | some x =>
      rw [q] at hd
      cases hd
      obtain ⟨bs, rfl, hl, hr⟩ := p
      refine h x (List.mem_of_getElem? q) _ fun b hb => ⟨hst b, bs ++ [b], by simp, by simp [hl], fun j x' b' hx' hb' => ?_⟩
      by_cases hj : j < bs.length
      · rw [List.getElem?_append_left hj] at hb'
        exact hr j x' b' hx' hb'
      · rw [List.getElem?_append_right (by omega)] at hb'
        have hj0 : j - bs.length = 0 := by
          by_cases z : j - bs.length = 0
          · exact z
          · rw [List.getElem?_eq_none (by simp; omega)] at hb'
            cases hb'
        rw [hj0] at hb'
        have e2 : j = i := by omega
        subst e2
        rw [q] at hx'
        cases hx'
        simp at hb'
        subst hb'
        exact hb
  · obtain ⟨bs, rfl, hl, hr⟩ := p
    rw [List.length_map] at hl
    exact hS bs hl hr
/-- .. the same ones at each turn -/
theorem Rd.tsomeN (e : β → D) (R : β → Prop) (enc : α → D) (xs : List α) (hds : ds = xs.map enc) (h : ∀ x, x ∈ xs → ∀ (S' : D → Prop), (∀ b, R b → S' (e b)) → tg δ (enc x) fun δ2 => elt noX δ2 S') (hS : ∀ bs : List β, bs.length = xs.length → (∀ b ∈ bs, R b) → S (bs.map e)) (hst : ∀ b, (e b).still = true := by intro _; rfl) : Rd.turns tg Rd.noT elt δ S ds :=
  Rd.tsome e (fun _ b => R b) enc xs hds h (fun bs h1 h2 => hS bs h1 fun b hb => by
    obtain ⟨i, hi, rfl⟩ := List.mem_iff_getElem.mp hb
    exact h2 i (xs[i]'(by omega)) _ (by simp) (by simp)) hst
/-- what a loop is to show, its items told -/
theorem Rd.for_ {body : RdS} {T : XD} {E : SE} (enc : α → D) (xs : List α) (I : Nat → List (Option D) → Prop) (hds : ds = xs.map enc) (h0 : I 0 δ) (hs : ∀ (i : Nat) (x : α) (δ' : List (Option D)), xs[i]? = some x → I i δ' → tg δ' (enc x) fun δ2 => body T δ2 { E with nx := I (i + 1), ct := I (i + 1), bk := E.nx }) (hf : ∀ δ', I xs.length δ' → E.nx δ') : Rd.loopG tg body T δ E ds := by
  subst hds
  unfold Rd.loopG
  refine ⟨I, h0, fun i d δ' hd hi => ?_, fun δ' k => hf δ' (by rw [List.length_map] at k; exact k)⟩
  rw [List.getElem?_map] at hd
  cases q : xs[i]? with
  | none => rw [q] at hd; cases hd
  | some x => rw [q] at hd; cases hd; exact hs i x δ' q hi
end
end Dl

set_option maxRecDepth 100000
set_option maxHeartbeats 4000000
/-! # The laws' source of draws -/
namespace Dl
open PySem PySem.Spec PyProof.Rows L2
theorem op_eqI {X : Cx} : OpR X (compareOp .Eq) (rI0 fun i j => .bl (decide (i = j))) := fun pins s σ H x y v u Q I rx ry h => by
  obtain ⟨i, j, rfl, rfl, q⟩ := h
  refine op_eq pins s σ H _ _ v u Q I rx ry ⟨rfl, ?_⟩
  have e : decide (V.int i = V.int j) = decide (i = j) := by
    by_cases z : i = j
    · subst z; simp
    · rw [decide_eq_false z]
      exact decide_eq_false (fun w => z (V.int.inj w))
  rw [e]
  exact q
/-- what holds of the numbers behind a pot's cells -/
def PotI (i1 i2 i3 i4 : Int) : Prop := 0 ≤ i1 ∧ 0 ≤ i2 ∧ 0 ≤ i3 ∧ i3 < 4294967296 ∧ 0 ≤ i4
abbrev potL (c : Addr) (i1 i2 i3 i4 : Int) : HO := .lst [.ref c, .int i1, .int i2, .int i3, .int i4]
/-- a draw, the pot a list -/
def spDrawL (K : PySem.W.Frag) : Sp := fun vs H Q _ => ∃ (a c : Addr) (m : Int) (ns : List Int) (i1 i2 i3 i4 : Int), vs = [.ref a, .int m] ∧ H a = some (potL c i1 i2 i3 i4) ∧ H c = some (.lst (ns.map V.int)) ∧ (∀ n ∈ ns, 0 ≤ n) ∧ PotI i1 i2 i3 i4 ∧ 0 < m ∧ m < 1000000 ∧
  ∀ v j1 j2 j3 j4, 0 ≤ v → v < m → PotI j1 j2 j3 j4 → Q (.int v) (upd H a (potL c j1 j2 j3 j4))
theorem upd_self {H : Hp} {a : Addr} {o : HO} (h : H a = some o) : upd H a o = H := by
  funext b
  by_cases e : b = a
  · rw [e, upd_same, h]
  · rw [upd_ne e]
/-- the pot as the others see it: a list of some numbers of that kind -/
def potPhi (c a : Addr) : Heap → Prop := fun h => ∃ (i1 i2 i3 i4 : Int) (its : List Value) (n : Nat), PotI i1 i2 i3 i4 ∧ Vals [.ref c, .int i1, .int i2, .int i3, .int i4] its ∧ h.get? a = some { cls := .type "list", data := .seq its.toArray n }
/-- tables of code objects stay told where lists change or are hidden -/
theorem tabs_hide {Tb : List (Addr × Str)} (L : List Addr) (H : Hp) (hl : ∀ l ∈ L, MutAt H l) (h : LamX.Tabs Tb H) : LamX.Tabs Tb (hide L H) := fun p hp => by
  obtain ⟨ps, h1, h2, h3⟩ := h p hp
  have no : ∀ {b : Addr} {o : HO}, H b = some o → mutO o = false → b ∉ L := fun {b o} e m z => by
    obtain ⟨o', m', e'⟩ := hl _ z
    rw [e] at e'
    cases e'
    rw [m] at m'
    cases m'
  refine ⟨ps, by rw [hide_ne (no h1 rfl)]; exact h1, h2, fun pos cv hc => ?_⟩
  obtain ⟨c, e1, e2⟩ := h3 pos cv hc
  exact ⟨c, e1, by rw [hide_ne (no e2 rfl)]; exact e2⟩
theorem tabs_upd {Tb : List (Addr × Str)} (H : Hp) (l : Addr) (o : HO) (hl : MutAt H l) (h : LamX.Tabs Tb H) : LamX.Tabs Tb (upd H l o) :=
  (tabs_hide [l] H (fun b hb => by rw [List.mem_singleton.mp hb]; exact hl) h).ext fun b u e => by
    obtain ⟨h1, h2⟩ := hide_at e
    rw [upd_ne (by simpa using h1)]
    exact h2
def potU (Tb : List (Addr × Str)) : Pu where
  P := fun v H => ∃ (a c : Addr) (ns : List Int), v = .ref a ∧ H a = some (.ext (potPhi c a)) ∧ H c = some (.lst (ns.map V.int)) ∧ ∀ n ∈ ns, 0 ≤ n
  mono := fun v H H' e ⟨a, c, ns, h1, h2, h3, h4⟩ => ⟨a, c, ns, h1, e.at _ _ h2, e.at _ _ h3, h4⟩
  G := LamX.Tabs Tb
  ge := fun H H' e h => h.ext e
  gu := fun H l o hl _ h => tabs_upd H l o hl h
  gh := fun L H hl h => tabs_hide L H hl h
theorem potPhi_ok {P : Program} {w : World} {H : Hp} {h : Heap} {c a : Addr} {i1 i2 i3 i4 : Int} (x : ObjOk P w H h a (potL c i1 i2 i3 i4)) (p : PotI i1 i2 i3 i4) {H' : Hp} : ObjOk P w H' h a (.ext (potPhi c a)) := by
  obtain ⟨_, its, n, r, e⟩ := x
  refine ⟨⟨i1, i2, i3, i4, its, n, p, r, e⟩, ⟨_, e⟩, fun h1 h2 z k => ?_⟩
  obtain ⟨j1, j2, j3, j4, jts, m, q, r', e'⟩ := z
  exact ⟨j1, j2, j3, j4, jts, m, q, r', k _ e'⟩
/-- the same objects, one of them told otherwise -/
theorem HOk.retell {P : Program} {w : World} {H : Hp} {h : Heap} {a : Addr} {o o' : HO} (x : HOk P w H h) (ha : H a = some o) (n1 : ∀ b, o ≠ .own b) (n2 : ∀ xs, o ≠ .tup xs) (new : ObjOk P w (upd H a o') h a o') : HOk P w (upd H a o') h := fun b u e => by
  by_cases hb : b = a
  · subst hb
    rw [upd_same] at e
    cases e
    exact new
  · rw [upd_ne hb] at e
    refine (x b u e).stay (fun _ _ _ q => q) (fun c q => ?_) fun c xs q => ?_
    · by_cases hc : c = a
      · subst hc
        rw [ha] at q
        cases q
        exact absurd rfl (n1 _)
      · rw [upd_ne hc]
        exact q
    · by_cases hc : c = a
      · subst hc
        rw [ha] at q
        cases q
        exact absurd rfl (n2 _)
      · rw [upd_ne hc]
        exact q
abbrev spDraw : DSpec := fun ds S _ => ∃ m, ds = [.pur, .int m] ∧ 0 < m ∧ m < 1000000 ∧ ∀ v : Int, 0 ≤ v → v < m → S (.int v)
section
variable {P : Program} {w : World} {K : PySem.W.Frag} {mg : Str → Option Value} {base : Heap} {k : Nat} {f : Addr} {fd : FuncData} {ps : List Str} {Tb : List (Addr × Str)}
theorem draw_told (hp : ps.length = 2) (F : FnOk P w K mg base (L2.CX P w) k f fd ps (spDrawL K)) : FnOk P w K mg base (L2.CX P w) k f fd ps (spD K (potU Tb) 2 spDraw) := by
  refine ⟨fun vs H Q E h => ?_, fun A outer s H args us vs Q E hr he hb hv hs => ?_⟩
  · obtain ⟨L, ds, S, T, ⟨h1, _⟩, _, h2, _⟩ := h
    rw [← h2.len, h1, hp]
  · obtain ⟨L, ds, S, T, ⟨hn, hG⟩, hl, r, ⟨m, rfl, m0, m1, hS⟩, q1, q2⟩ := hs
    obtain ⟨v, r', rfl, ⟨a, c, ns, rfl, ha, hc, hns⟩, v2, r'', rfl, rfl, rfl⟩ := r
    obtain ⟨aL, ha⟩ := hide_at ha
    obtain ⟨cL, hc⟩ := hide_at hc
    obtain ⟨⟨i1, i2, i3, i4, its, n, p, rv, e⟩, _, _⟩ := he.hok a _ ha
    have hca : c ≠ a := fun z => by
      rw [z, ha] at hc
      cases hc
    have no1 : ∀ b, H b = none → b ≠ a := fun b z y => by
      rw [y, ha] at z
      cases z
    have he1 : Env0 P w K mg base A outer s (upd H a (potL c i1 i2 i3 i4)) := by
      refine ⟨he.frames, he.mod, fun b o z => ?_, he.bsz, he.funs, fun b z => ?_, ?_, he.bare⟩
      · obtain ⟨z1, z2⟩ := he.bs b o z
        exact ⟨z1, by rw [upd_ne (no1 b z2)]; exact z2⟩
      · have z2 := he.frf b z
        rw [upd_ne (no1 b z2)]
        exact z2
      · refine HOk.retell he.hok ha (fun _ z => by cases z) (fun _ z => by cases z) ⟨by show 5 ≤ sizeLine; decide, its, n, rv, e⟩
    refine codeAny_mono (F.run A outer s _ args us _ (fun v H' => ∃ i j1 j2 j3 j4, v = .int i ∧ 0 ≤ i ∧ i < m ∧ PotI j1 j2 j3 j4 ∧ H' = upd H a (potL c j1 j2 j3 j4)) (fun _ _ _ => False) hr he1 hb hv ⟨a, c, m, ns, i1, i2, i3, i4, rfl, upd_same, by rw [upd_ne hca]; exact hc, hns, p, m0, m1, fun v j1 j2 j3 j4 v0 v1 pj => ⟨v, j1, j2, j3, j4, rfl, v0, v1, pj, upd_upd⟩⟩) fun r s' hq => ?_
    cases r with
    | error e =>
      obtain ⟨_, _, _, _, _, _, _, _, _, _, _, _, z⟩ := hq
      exact z.elim
    | ok fl =>
      cases fl with
      | ret u =>
        obtain ⟨v, H', h1, h2, un, hok, rvu, i, j1, j2, j3, j4, rfl, i0, i1', pj, rfl⟩ := hq
        refine ⟨.int i, H, h1, h2, ⟨fun b o z1 z2 z3 z4 => un.keep b o z1 (by rw [upd_ne (no1 b z2)]; exact z2) z3 z4, fun b o z1 z2 z3 z4 => un.slot b o z1 (by rw [upd_ne (no1 b z2)]; exact z2) z3 z4, fun b o _ z _ => z, un.there, fun _ _ z => z, fun _ _ _ z => z, fun b ps z => ⟨#[], by rw [z]; simp⟩⟩, ?_, rvu, q1 _ H (.int i) (Same.refl H) rfl (hS i i0 i1')⟩
        have e1 : H = upd (upd H a (potL c j1 j2 j3 j4)) a (.ext (potPhi c a)) := by rw [upd_upd, upd_self ha]
        have z := HOk.retell (o' := .ext (potPhi c a)) hok upd_same (fun _ z => by cases z) (fun _ z => by cases z) (potPhi_ok (hok a _ upd_same) pj)
        rw [← e1] at z
        exact z
      | next => exact False.elim hq
      | brk => exact False.elim hq
      | cont => exact False.elim hq
/-- a pot is made of the script -/
def spPot (Tb : List (Addr × Str)) (K : PySem.W.Frag) : Sp := fun vs H Q _ => ∃ (a : Addr) (ns : List Int), vs = [.ref a] ∧ SqL K H a (ns.map V.int) ∧ ns.length ≤ 63 ∧ LamX.Tabs Tb H ∧ ∀ v H', Same (potU Tb) H H' → (potU Tb).P v H' → Q v H'
/-- .. at first a list -/
def spPotL (Tb : List (Addr × Str)) (K : PySem.W.Frag) : Sp := fun vs H Q _ => ∃ (a : Addr) (ns : List Int), vs = [.ref a] ∧ SqL K H a (ns.map V.int) ∧ ns.length ≤ 63 ∧ LamX.Tabs Tb H ∧ ∀ (p c : Addr) (cs : List Int) (i3 : Int) (H' : Hp), Same (potU Tb) H H' → NoA H p → H' p = some (potL c 0 0 i3 0) → H' c = some (.lst (cs.map V.int)) → (∀ n ∈ cs, 0 ≤ n) → PotI 0 0 i3 0 → Q (.ref p) H'
theorem pot_told (F : FnOk P w K mg base (L2.CX P w) k f fd ps (spPotL Tb K)) (hp : ps.length = 1) : FnOk P w K mg base (L2.CX P w) k f fd ps (spPot Tb K) := by
  refine ⟨fun vs H Q E h => ?_, fun A outer s H args us vs Q E hr he hb hv hs => ?_⟩
  · obtain ⟨a, ns, rfl, _⟩ := h
    rw [hp]
    rfl
  · obtain ⟨a, ns, rfl, hS, hl, hT, q⟩ := hs
    refine codeAny_mono (F.run A outer s H args us _ (fun v H' => ∃ (p c : Addr) (cs : List Int) (i3 : Int), v = .ref p ∧ Same (potU Tb) H H' ∧ NoA H p ∧ H' p = some (potL c 0 0 i3 0) ∧ H' c = some (.lst (cs.map V.int)) ∧ (∀ n ∈ cs, 0 ≤ n) ∧ PotI 0 0 i3 0) (fun _ _ _ => False) hr he hb hv ⟨a, ns, rfl, hS, hl, hT, fun p c cs i3 H' e1 e2 e3 e4 e5 e6 => ⟨p, c, cs, i3, rfl, e1, e2, e3, e4, e5, e6⟩⟩) fun r s' hq => ?_
    cases r with
    | error e =>
      obtain ⟨_, _, _, _, _, _, _, _, _, _, _, _, z⟩ := hq
      exact z.elim
    | ok fl =>
      cases fl with
      | ret u =>
        obtain ⟨v, H', h1, h2, un, hok, rvu, p, c, cs, i3, rfl, e1, e2, e3, e4, e5, e6⟩ := hq
        have hcp : c ≠ p := fun z => by
          rw [z, e3] at e4
          have := HO.lst.inj (Option.some.inj e4)
          cases cs <;> simp at this
        have sm : Same (potU Tb) H (upd H' p (.ext (potPhi c p))) := ⟨fun b o z n => by
          rw [upd_ne (e2.ne z n)]
          exact e1.at b o z n, fun z => tabs_upd H' p _ (.lst e3) (e1.g z)⟩
        have np : ∀ b o, s.heap.get? b = some o → H b = none → b ≠ p := fun b o z1 z2 z3 => by
          have z := un.free b o z1 z2 (by simp)
          rw [z3, e3] at z
          cases z
        refine ⟨.ref p, upd H' p (.ext (potPhi c p)), h1, h2, ⟨un.keep, un.slot, fun b o z1 z2 z3 => by rw [upd_ne (np b o z1 z2)]; exact un.free b o z1 z2 z3, un.there, fun b xs z => sm.at _ _ z, fun b o u z => sm.at _ _ z, fun b ps z => by
          obtain ⟨more, z'⟩ := un.tbls b ps z
          exact ⟨more, by rw [upd_ne (fun q => by rw [q, e3] at z'; cases z')]; exact z'⟩⟩, HOk.retell hok e3 (fun _ z => by cases z) (fun _ z => by cases z) (potPhi_ok (hok p _ e3) e6), rvu, q _ _ sm ⟨p, c, cs, rfl, upd_same, by rw [upd_ne hcp]; exact e4, e5⟩⟩
      | next => exact False.elim hq
      | brk => exact False.elim hq
      | cont => exact False.elim hq
/-! ### how the script is made into a pot -/
/-- a new pot, as it leaves the def: H0 the heap that was handed in -/
def potN (Tb : List (Addr × Str)) (H0 : Hp) : Pu where
  P := fun v H => ∃ (p c : Addr) (cs : List Int) (i3 : Int), v = .ref p ∧ NoA H0 p ∧ H p = some (potL c 0 0 i3 0) ∧ H c = some (.lst (cs.map V.int)) ∧ (∀ n ∈ cs, 0 ≤ n) ∧ PotI 0 0 i3 0
  mono := fun v H H' e ⟨p, c, cs, i3, h1, h2, h3, h4, h5⟩ => ⟨p, c, cs, i3, h1, h2, e.at _ _ h3, e.at _ _ h4, h5⟩
  G := LamX.Tabs Tb
  ge := fun H H' e h => h.ext e
  gu := fun H l o hl _ h => tabs_upd H l o hl h
  gh := fun L H hl h => tabs_hide L H hl h
theorem WS_retPot {X : Cx} {lv : Nat} {T : XD} {Tb : List (Addr × Str)} {H0 : Hp} {c : Ct X (potN Tb H0) lv T} {e : Expr} {δ : List (Option D)} {E : SE} {pos : Pos} (hb : c.Hb = H0) (hl : c.Lb = []) (h : WF c e δ fun ds => ∃ (cs : List Int) (i3 : Int), ds = [.lst (cs.map D.int), .int 0, .int 0, .int i3, .int 0] ∧ (∀ n ∈ cs, 0 ≤ n) ∧ PotI 0 0 i3 0) (k : E.rt .pur) : WS c (.Return (some e) pos) δ E := fun L σ H De N C =>
  runS_of (ps_ret pe_run) (h L σ H _ N fun l H' vs ds s g1 g2 g3 g4 ⟨cs, i3, hd, h1, h2⟩ => by
    subst hd
    obtain ⟨v0, r, rfl, r0, v1, r', rfl, rfl, v2, r'', rfl, rfl, v3, r3, rfl, rfl, v4, r4, rfl, rfl, rfl⟩ := g3
    obtain ⟨b, ws, rfl, hb', rb, _⟩ := r0
    rw [rb.ints] at hb'
    refine C.rt (.ref l) H' .pur (N.ok.base.trans s) ?_ k
    rw [hl, hide_nil]
    exact ⟨l, b, cs, i3, rfl, by rw [← hb]; exact Same.free N.ok.base g1, g2, (hide_at hb').2, h1, h2⟩)
theorem fnScr {x : Str} {st : Stmt} {f : Addr} {fd : FuncData} {N ps : List Str} {k : Nat} (F : Fun K x x st f fd) (Sc : FnScope N ps (defScope st)) (hp : ps.length = 1)
    (body : ∀ (X : Cx) (H0 : Hp) (c : Ct X (potN Tb H0) k noX), Fx X P w K mg base N (defScope st) .top → c.Hb = H0 → c.Lb = [] → ∀ (a : Addr) (ns : List Int), SqL K H0 a (ns.map V.int) → ns.length ≤ 63 → WSs c (defBody st) (startD N [.any (.ref a)]) { nx := fun _ => False, rt := fun d => d = .pur }) :
    FnOk P w K mg base (L2.CX P w) (k + 1) f fd ps (spPot Tb K) := by
  refine pot_told (F.okX Sc (fun vs H Q E h => ?_) fun cdv A outer s H vs Q E hr h => ?_) hp
  · obtain ⟨a, ns, rfl, _⟩ := h
    rw [hp]
    rfl
  · obtain ⟨a, ns, rfl, hS, hl, hT, q⟩ := h
    let c : Ct (cxOf (L2.CX P w) P w K mg base N x (defScope st) f cdv A outer s H E) (potN Tb H) k noX :=
      { Hb := H, Lb := [], g := hT, calm := rfl, nd := Sc.nd, room := hr, own := passes_of rfl, tk := (takes_of (E := E) rfl rfl rfl rfl).imp fun cls od σ H' ⟨s1, fl, r, t⟩ => t.elim }
    have ok : Ok c [] H := ⟨Same.refl H, fun l h => h, fun l h => .inl h, fun l h => by simp at h⟩
    refine ⟨_, pss_run, ?_⟩
    refine body _ H c ⟨rfl, rfl, rfl, rfl, rfl, rfl, rfl, fun x => rfl⟩ rfl rfl a ns hS hl [] (L2.start N [.ref a]) H _ (start_en ok (Reps.one (d := .any (.ref a)) (v := .ref a) rfl)) ⟨fun L' σ' H' δ' N' k => k.elim, fun v H' d s1 r z => ?_, fun L' σ' H' δ' N' k => k.elim, fun L' σ' H' δ' N' k => k.elim⟩
    subst z
    rw [hide_nil] at r
    obtain ⟨p, c', cs, i3, rfl, h1, h2, h3, h4, h5⟩ := r
    exact q p c' cs i3 H' ⟨s1.k, s1.g⟩ h1 h2 h3 h4 h5
/-- a part of the script -/
theorem WE_scr {X : Cx} {U : Pu} {lv : Nat} {T : XD} {c : Ct X U lv T} {e : Expr} {δ : List (Option D)} {S : D → Prop} {lo hi : Option Expr} {i j : Option Int} {pos p2 : Pos} {a : Addr} {ns : List Int} (hS : SqL X.K c.Hb a (ns.map V.int)) (hz : ns.length ≤ 63)
    (h : WE c e δ fun d => d = .any (.ref a)) (h1 : WP c lo δ fun u => u = i) (h2 : WP c hi δ fun u => u = j) (k : S (.lst (cutD (ns.map D.int) i j))) : WE c (.Subscript e (.Slice lo hi none p2) pos) δ S := fun L σ H Q N q =>
  runE_of (pe_slice sl_list pe_run po_run po_run) (h L σ H _ N fun v H1 d s1 r1 z1 => h1 L σ H1 _ (N.mono s1) fun u H2 s2 z2 => h2 L σ H2 _ (N.mono (s1.trans s2)) fun u' H3 s3 z3 => by
    subst z1
    subst z2
    subst z3
    obtain rfl : v = .ref a := r1
    have s := (s1.trans s2).trans s3
    have ok := N.ok.mono s
    refine ⟨a, ns.map V.int, rfl, seqL_mono (N.ok.base.trans s) hS, fun p hp => ?_⟩
    refine q _ _ (.lst (cutD (ns.map D.int) u u')) (s.trans (same_new hp)) (ok.lstNew (cut_rep (Reps.of_ints ns) u u') (Nat.le_trans (cut_len _ _ _) ?_) hp) k
    rw [List.length_map, sizeLine_eq]
    omega)
theorem WJ_lst {X : Cx} {U : Pu} {lv : Nat} {T : XD} {c : Ct X U lv T} {tg e : Expr} {δ : List (Option D)} {S : List D → Prop} (h : WE c e δ fun x => ∃ ds, x = .lst ds ∧ S ds) : WJ c tg e δ S := WJ_of (WI_lst h)
theorem cut_ints (ns : List Int) (i j : Option Int) : ∃ ms : List Int, cutD (ns.map D.int) i j = ms.map D.int ∧ ms.length ≤ ns.length := by
  refine ⟨(ns.drop (HT.sIx ns.length 0 i)).take (HT.sIx ns.length ns.length j - HT.sIx ns.length 0 i), ?_, by rw [List.length_take, List.length_drop]; omega⟩
  unfold cutD
  rw [List.length_map, List.map_take, List.map_drop]
/-- a def that lets nothing out -/
theorem to0 {sp : Sp} (F : FnOk P w K mg base (L2.CX P w) k f fd ps sp) (h : ∀ vs H Q E, sp vs H Q E → sp vs H Q fun _ _ _ => False) : FnOk P w K mg base L2.CX0 k f fd ps sp :=
  ⟨F.len, fun A outer s H args us vs Q E hr he hb hv hs => codeAny_mono (F.run A outer s H args us vs Q _ hr he hb hv (h _ _ _ _ hs)) fun r s' hq => by
    cases r with
    | error e =>
      obtain ⟨_, _, _, _, _, _, _, _, _, _, _, _, z⟩ := hq
      exact z.elim
    | ok fl => cases fl <;> exact hq⟩
def spLaw (Tb : List (Addr × Str)) (K : PySem.W.Frag) : Sp := fun vs H Q _ => ∃ (a : Addr) (ns : List Int), vs = [.ref a] ∧ SqL K H a (ns.map V.int) ∧ ns.length ≤ 63 ∧ LamX.Tabs Tb H ∧ ∀ H', Q (.bl true) H'
/-- the law's first line makes the pot; what follows is read -/
theorem lawTop {st : Stmt} {f fp : Addr} {fd fdp : FuncData} {x y pn z : Str} {N pps : List Str} {rest : List Stmt} {p1 p2 p3 p4 p5 : Pos} {k kp : Nat} {t : RdS} (F : Fun K z z st f fd) (Sc : FnScope (x :: y :: N) [x] (defScope st)) (hbody : defBody st = .Assign [.Name y p1] (.Call (.Name pn p2) [.Name x p3] [] p4) p5 :: rest)
    (Pot : FnOk P w K mg base (L2.CX P w) kp fp fdp pps (spPot Tb K)) (gP : mg pn = some (.ref fp)) (kpP : PySem.W.keepIn K (.ref fp) = true) (bP : Binds K fdp pps []) (hk : kp ≤ k) (hv : visB (defScope st) x = true) (hl : tgB .top (defScope st) y = true) (hg : glbB (defScope st) pn = true)
    (d : ReSs ⟨P, w, K, mg, base, x :: y :: N, defScope st, .code fd.code (z ++ ".<locals>."), potU Tb, k⟩ rest t) (ok : fc (none :: some .pur :: List.replicate N.length none) fun δ => t noX δ { nx := fun _ => False, rt := fun d => d = .bl true }) : FnOk P w K mg base L2.CX0 (k + 1) f fd [x] (spLaw Tb K) := by
  obtain ⟨⟨oc, od, kV, doc, pm, an, cdv, ct, osl, e0, lk, hcd⟩, kp⟩ := F
  subst e0
  refine to0 (fn_of lk hcd Sc (fun vs H Q E h => ?_) fun A outer s H vs Q E hr h => ?_) fun vs H Q E h => h
  · obtain ⟨a, ns, rfl, _⟩ := h
    rfl
  · obtain ⟨a, ns, rfl, hS, hz, hT, q⟩ := h
    have hx : Fx (cxOf (L2.CX P w) P w K mg base (x :: y :: N) z (defScope st) f cdv A outer s H E) P w K mg base (x :: y :: N) (defScope st) (.code cdv (z ++ ".<locals>.")) := ⟨rfl, rfl, rfl, rfl, rfl, rfl, rfl, fun x => rfl, rfl, rfl⟩
    have tk0 := takes_of (X := cxOf (L2.CX P w) P w K mg base (x :: y :: N) z (defScope st) f cdv A outer s H E) (E := E) rfl rfl rfl rfl
    have tk1 : Takes (cxOf (L2.CX P w) P w K mg base (x :: y :: N) z (defScope st) f cdv A outer s H E) (fun _ _ _ _ => False) := tk0.imp fun _ _ _ _ z => z.elim
    rw [hbody]
    refine ⟨_, pss_cons (ps_set (i := 1) Sc.nd rfl (hx.loc (hx.tl hl)) (pe_callS Pot (hr.mono hk) (hx.gl hg) gP kpP bP (fun σ => passAt tk1 σ) (pa_cons (pe_var (i := 0) rfl (hx.vis hv) (visB_ok hv).2.1 (visB_ok hv).2.2) pa_nil rfl) (glbB_ok hg).2.1 rfl rfl) rfl (hx.fn hl)) pss_run, ?_⟩
    refine ⟨.ref a, rfl, a, ns, rfl, hS, hz, hT, fun v H' sm pv => ?_⟩
    let c : Ct (cxOf (L2.CX P w) P w K mg base (x :: y :: N) z (defScope st) f cdv A outer s H E) (potU Tb) k noX :=
      { Hb := H', Lb := [], g := sm.g hT, calm := rfl, nd := Sc.nd, room := hr, own := passes_of rfl, tk := tk1.imp fun cls od σ H' ⟨s1, fl, r, t⟩ => t.elim }
    have okc : Ok c [] H' := ⟨Same.refl H', fun l h => h, fun l h => .inl h, fun l h => by simp at h⟩
    rw [fc_eq] at ok
    refine d c hx _ _ ok [] _ H' _ ⟨okc, by simp [L2.start], fun i d h => ?_, fun i j xs ys l h _ f1 => ?_⟩ ⟨fun L' σ' H' δ' N' k => k.elim, fun v H' d s1 r z => ?_, fun L' σ' H' δ' N' k => k.elim, fun L' σ' H' δ' N' k => k.elim⟩
    · match i, h with
      | 0, h => simp at h
      | 1, h =>
        simp at h
        subst h
        refine ⟨v, by simp [L2.start], ?_⟩
        show (potU Tb).P v (hide [] H')
        rw [hide_nil]
        exact pv
      | i + 2, h =>
        simp [List.getElem?_replicate] at h
    · match i, h with
      | 0, h => simp at h
      | 1, h =>
        simp at h
        subst h
        cases f1
      | i + 2, h => simp [List.getElem?_replicate] at h
    · subst z
      rw [show v = .bl true from r]
      exact q H'
end
end Dl

set_option maxRecDepth 100000
set_option maxHeartbeats 0
namespace Dl
open PySem PySem.Spec PyProof.Rows L2
/-! ### the head's facts -/
structure Hd where
  fa : List He.Fa
  ex : List (PySem.W.Frag → Bool)
  fn : List He.DefD
def obsX (d : Hd) (K : PySem.W.Frag) : He.AlD := ((d.fa.all fun f => f.ok K) && (d.ex.all fun e => e K) && d.fn.all fun d => d.ok K, d.fn.map fun d => He.fnW K d.at_)
def SaysX (d : Hd) (K : PySem.W.Frag) : Prop := obsX d K = He.valD d.fn
def obsXG (n : Nat) (d : Hd) (g : Addr → Option Obj) : He.AlD := obsX d (He.frG g (He.asD g n))
def hookX (n : Nat) (d : Hd) : PySem.W.Hook where
  α := He.AlD
  obs := fun s => obsXG n d s.heap.get?
  val := fun _ => He.valD d.fn
  says := fun _ h => ∃ K : PySem.W.Frag, K.In h ∧ SaysX d K
  of := fun _ _ e => ⟨_, He.frG_in, e⟩
  keeps := fun _ _ _ ⟨K, hK, c⟩ k => ⟨K, PySem.W.Frag.In.keeps hK k, c⟩
theorem obsXG_eq {n : Nat} {d : Hd} {g : Addr → Option Obj} {s : Shared} (h : ∀ a, g a = s.heap.get? a) : obsXG n d g = (hookX n d).obs s := by
  have e : g = s.heap.get? := funext h
  rw [e] <;> rfl
section
variable {d : Hd} {K : PySem.W.Frag}
theorem SaysX.b (c : SaysX d K) : ((d.fa.all fun f => f.ok K) = true ∧ (d.ex.all fun e => e K) = true) ∧ (d.fn.all fun d => d.ok K) = true := by
  have c1 := He.ba (show ((d.fa.all fun f => f.ok K) && (d.ex.all fun e => e K) && d.fn.all fun d => d.ok K) = true from congrArg (fun z : He.AlD => z.1) c)
  exact ⟨He.ba c1.1, c1.2⟩
theorem SaysX.fact (c : SaysX d K) {f : He.Fa} (i : Nat) (h : d.fa[i]? = some f := by rfl) : f.ok K = true := List.all_eq_true.mp c.b.1.1 f (List.mem_of_getElem? h)
theorem SaysX.ext (c : SaysX d K) {f : PySem.W.Frag → Bool} (i : Nat) (h : d.ex[i]? = some f := by rfl) : f K = true := List.all_eq_true.mp c.b.1.2 f (List.mem_of_getElem? h)
theorem SaysX.def_ (c : SaysX d K) {x : He.DefD} (i : Nat) (h : d.fn[i]? = some x := by rfl) : ∃ fd, FunD K x.name x.qual x.params x.body x.scope (x.dvs K) (x.kws K) (He.fAd K x.at_) fd := by
  have e : d.fn.map (fun d => He.fnW K d.at_) = d.fn.map He.DefD.val := congrArg (fun z : He.AlD => z.2) c
  have e2 : (d.fn.map fun d => He.fnW K d.at_)[i]? = (d.fn.map He.DefD.val)[i]? := by rw [e]
  rw [List.getElem?_map, List.getElem?_map, h] at e2
  exact He.DefD.funD (Option.some.inj e2) (List.all_eq_true.mp c.b.2 x (List.mem_of_getElem? h))
end
end Dl
namespace Dl
open PySem PySem.Spec PyProof.Rows L2
section
variable {K : PySem.W.Frag} {mg : Str → Option Value} {h : Heap} {d : Hd}
theorem fun_of {x q : Str} {st : Stmt} {f : Addr} {fd : FuncData} (F : FunD K x q (defArgs st) (defBody st) (defScope st) [] [] f fd) : Fun K x q st f fd := by
  obtain ⟨oc, od, dV, kV, doc, pm, an, cdv, ct, osl, e, l, c, hd, _⟩ := F.ex
  have h0 : dV = .none := by
    rcases hd with ⟨h1, _⟩ | ⟨h1, _⟩
    · first | exact h1 | assumption
    · exact absurd rfl h1
  subst h0
  exact ⟨⟨oc, od, kV, doc, pm, an, cdv, ct, osl, e, l, c⟩, F.kp⟩
/-- how positional parameters bind -/
def BindB (st : Stmt) (x q : Str) (ps : List Str) : Prop := ∀ (kV doc pm : Value) (an : Option Addr) (cdv ct : Value) (us : List Value), us.length = ps.length → bindArgs (PySem.W.fnOf x q (defArgs st) (defBody st) (defScope st) .none kV doc pm an cdv ct) ⟨us, []⟩ = pure (ps.zip us)
abbrev defD (x : Str) (st : Stmt) : He.DefD := ⟨(x, none), x, x, defArgs st, defBody st, defScope st, [], []⟩
abbrev metD (C m q : Str) (st : Stmt) : He.DefD := ⟨(C, some m), m, q, defArgs st, defBody st, defScope st, [], []⟩
theorem defAt_of (X : K.In h) (G : h.Ns mainGlobals mg) (c : SaysX d K) {x : Str} {st : Stmt} {ps : List Str} (i j : Nat) (hb : BindB st x x ps) (h1 : d.fn[i]? = some (defD x st) := by rfl) (h2 : d.fa[j]? = some (.glo x) := by rfl) : DefAt K mg x st ps := by
  obtain ⟨fd, F⟩ := c.def_ i h1
  have F' := fun_of F
  exact ⟨_, fd, F', He.glo_ok X G (c.fact j h2), F'.binds hb⟩
theorem methAt_of (c : SaysX d K) {C m q : Str} {st : Stmt} {ps : List Str} (i j : Nat) (hb : BindB st m q ps) (h1 : d.fn[i]? = some (metD C m q st) := by rfl) (h2 : d.fa[j]? = some (.meth C m) := by rfl) : MethAt K (He.ga K C) m q st ps := by
  obtain ⟨fd, F⟩ := c.def_ i h1
  have F' := fun_of F
  exact ⟨_, fd, He.meth_ok (c.fact j h2), F', F'.binds hb⟩
theorem initAt_of (X : K.In h) (G : h.Ns mainGlobals mg) (c : SaysX d K) {C q : Str} {st : Stmt} {ps : List Str} (i j l : Nat) (hb : BindB st "__init__" q ps) (h1 : d.fn[i]? = some (metD C "__init__" q st) := by rfl) (h2 : d.fa[j]? = some (.mkr C) := by rfl) (h3 : d.fa[l]? = some (.glo C) := by rfl) : InitAt K mg C (He.ga K C) q st ps := by
  obtain ⟨fd, F⟩ := c.def_ i h1
  have F' := fun_of F
  exact ⟨_, fd, He.glo_ok X G (c.fact l h3), He.mkr_ok (c.fact j h2), F', F'.binds hb⟩
/-- what isinstance asks of an own class -/
def obB (C : Str) (K : PySem.W.Frag) : Bool := He.eqO (PySem.W.findIn K (.ref (He.ga K C)) "__class__") (some (some (.builtin "object.__class__"))) && (He.eqO (PySem.W.specialIn K (.builtin "object.__class__") "__get__") (some (some (.builtin "getset_descriptor.__get__"))) && (decide (PySem.W.takesIn K (.builtin "object.__class__") = some true) && decide (PySem.W.mroIn K (He.ga K C) (.type "object") = some true)))
theorem ob_of (c : SaysX d K) {C : Str} (i j : Nat) (h1 : d.ex[i]? = some (obB C) := by rfl) (h2 : d.fa[j]? = some (.cls C) := by rfl) : ObT K (He.ga K C) := by
  have z := c.ext i h1
  unfold obB at z
  obtain ⟨z1, z⟩ := He.ba z
  obtain ⟨z2, z⟩ := He.ba z
  obtain ⟨z3, z4⟩ := He.ba z
  exact ⟨He.cls_ok (c.fact j h2), He.eqO_ok z1, He.eqO_ok z2, of_decide_eq_true z3, of_decide_eq_true z4⟩
def kitB2 (C D : Str) (b : Bool) (K : PySem.W.Frag) : Bool := decide (PySem.W.kitOne K (.ref (He.ga K C)) (.ref (He.ga K D)) = some b)
theorem kit_of (c : SaysX d K) {C D : Str} {b : Bool} (i : Nat) (h1 : d.ex[i]? = some (kitB2 C D b) := by rfl) : PySem.W.kitOne K (.ref (He.ga K C)) (.ref (He.ga K D)) = some b := of_decide_eq_true (c.ext i h1)
def nfB (C D : Str) (K : PySem.W.Frag) : Bool := PySem.W.notFirst K (He.ga K C) (.ref (He.ga K D))
theorem nf_of (c : SaysX d K) {C D : Str} (i : Nat) (h1 : d.ex[i]? = some (nfB C D) := by rfl) : PySem.W.notFirst K (He.ga K C) (.ref (He.ga K D)) = true := c.ext i h1
/-- a module's tuple of ints -/
def tupI (x : Str) (ns : List Int) (K : PySem.W.Frag) : Bool := He.tupB K x (ns.map He.Dv.int)
theorem tupI_of (X : K.In h) (G : h.Ns mainGlobals mg) (c : SaysX d K) {x : Str} {ns : List Int} (i j : Nat) (hz : ns.length ≤ sizeLine) (h1 : d.ex[i]? = some (tupI x ns) := by rfl) (h2 : d.fa[j]? = some (.glo x) := by rfl) : Glb K mg x (.tup (ns.map D.int)) := by
  refine ⟨.ref (He.ga K x), .ref (He.ga K x), He.glo_ok X G (c.fact j h2), rfl, fun U H => ⟨_, ns.map V.int, rfl, ?_, Reps.of_ints ns, by rw [List.length_map]; exact hz⟩⟩
  have z := He.tupB_ok (c.ext i h1) H
  rw [List.map_map] at z
  exact z
theorem int_of (X : K.In h) (G : h.Ns mainGlobals mg) (c : SaysX d K) {x : Str} {n : Int} (i : Nat) (h1 : d.fa[i]? = some (.int x n) := by rfl) : Glb K mg x (.int n) := by
  obtain ⟨t, e⟩ := He.int_ok X G (c.fact i h1)
  exact ⟨.int n t, .int n, e, ⟨t, rfl⟩, fun U H => rfl⟩
theorem cls_of (X : K.In h) (G : h.Ns mainGlobals mg) (c : SaysX d K) {x : Str} (i : Nat) (h1 : d.fa[i]? = some (.glo x) := by rfl) : Glb K mg x (.any (.ref (He.ga K x))) :=
  ⟨.ref (He.ga K x), .ref (He.ga K x), He.glo_ok X G (c.fact i h1), rfl, fun U H => rfl⟩
theorem blt_of (X : K.In h) (G : h.Ns mainGlobals mg) (c : SaysX d K) (hf : (bltN.all fun x => d.fa.any fun f => match f with
  | .free y => decide (y = x)
  | _ => false) = true) : Blt mg := fun x hx => by
  obtain ⟨f, hf1, hf2⟩ := List.any_eq_true.mp (List.all_eq_true.mp hf x hx)
  cases f with
  | free y =>
    have e : y = x := of_decide_eq_true hf2
    subst e
    exact He.free_ok X G (List.all_eq_true.mp c.b.1.1 _ hf1)
  | _ => cases hf2
theorem okC_of (c : SaysX d K) {C : Str} {ns : List Str} (i j : Nat) (hn : (ns.all fun n => d.fa.any fun f => match f with
  | .noat D m => decide (D = C ∧ m = n)
  | _ => false) = true) (h1 : d.ex[i]? = some (obB C) := by rfl) (h2 : d.fa[j]? = some (.cls C) := by rfl) : OkC K (He.ga K C) ns := by
  refine ⟨He.cls_ok (c.fact j h2), ob_of c i j h1 h2, fun g hg => ?_⟩
  obtain ⟨f, hf1, hf2⟩ := List.any_eq_true.mp (List.all_eq_true.mp hn g hg)
  cases f with
  | noat D m =>
    obtain ⟨rfl, rfl⟩ : D = C ∧ m = g := of_decide_eq_true hf2
    exact He.noat_ok (List.all_eq_true.mp c.b.1.1 _ hf1)
  | _ => cases hf2
end
theorem law_binds {K : PySem.W.Frag} {x q : Str} {st : Stmt} {f : Addr} {fd : FuncData} {p : Str} (F : Fun K x q st f fd) (hb : BindB st x q [p]) (s : Shared) (u : Value) : BindsTo s fd ⟨[u], []⟩ [(p, u)] := by
  obtain ⟨oc, od, kV, doc, pm, an, cdv, ct, osl, rfl, lk, hcd⟩ := F.ex
  exact BindsTo.of_eq (hb kV doc pm an cdv ct [u] rfl)
end Dl

set_option maxRecDepth 100000
set_option maxHeartbeats 4000000
/-! # Raising; lambdas handed to a def that tells a word -/
namespace Dl
open PySem PySem.Spec PyProof.Rows L2

/-! ### raise C() -/
section
variable {X : Cx} {C : Addr} {bmB : List Value} {B newId initId : String}
theorem pmk_own0 {x : Str} {p pos : Pos} (F : ExcBaseFacts B newId initId bmB) (q : PySem.W.excIn X.K C bmB newId = true) (gC : X.mg x = some (.ref C)) (kC : PySem.W.keepIn X.K (.ref C) = true) (r : Raises X (.ref C)) (hg : Gl X x)
    (hdb : (x == ("__debug__" : Str)) = false) : PMk X (.Call (.Name x p) [] [] pos) (fun _ H Q => Q (.ref C) none H) := by
  intro pins s σ H Q I h
  refine wpAny_Call_Name_kw (ld_glob I hg gC ?_ hdb)
  refine PySem.W.callWith_K0 I.kIn kC ?_
  show wpAny _ _ (call (.ref C) []) _ _ _
  obtain ⟨bm, N, nm, qn, bs, hdct, sn, sub, ab, col, dd, k0, k1, k2, k3, k5, mN, hC, hN, hni, T⟩ := exc_obj I.kIn q
  refine wpAny_call_exc_subT F T hC hN hni (fun h' e hm => ?_) (Nat.zero_le _)
  exact mk_of I hm r h (I.hok.gone hm.new)
end
/-- an own class of exceptions without __init__ -/
structure ExR (K : PySem.W.Frag) (mg : Str → Option Value) (x : Str) (C : Addr) : Prop where
  g : mg x = some (.ref C)
  e : PySem.W.excIn K C [.type "ValueError", .type "Exception", .type "BaseException", .type "object"] "ValueError.__new__" = true
  k : PySem.W.keepIn K (.ref C) = true
  b : PySem.W.subIn K (.ref C) (.type "BaseException") = some true
  t : PySem.W.typeIn K (.ref C) = some (.type "type")
section
variable {X : Cx} {U : Pu} {lv : Nat} {T : XD} {c : Ct X U lv T} {δ : List (Option D)} {E : SE} {pos p pos' : Pos} {x : Str} {C : Addr}
theorem WS_raise0 (F : ExR X.K X.mg x C) (hg : Gl X x) (hdb : (x == ("__debug__" : Str)) = false) (h : T (.ref C) none) : WS c (.Raise (some (.Call (.Name x p) [] [] pos)) none pos') δ E := fun L σ H De N Cm =>
  runS_of (ps_raise c.calm c.tk (pmk_own0 PySem.F.excBase_ValueError F.e F.g F.k (raises_own F.b F.t) hg hdb)) ⟨N.ok.base, none, trivial, h⟩
end
/-- the reading of raise C() -/
def Rd.raise (C : Addr) : RdS := fun T _ _ => T (.ref C) none
theorem De.raise0 {f : Fr} {x : Str} {C : Addr} {p pos pos' : Pos} (F : ExR f.K f.mg x C) (hg : glbB f.sc x = true := by (try dsimp only [Fr.blk, Fr.lam]); decide +kernel) : ReS f (.Raise (some (.Call (.Name x p) [] [] pos)) none pos') (Rd.raise C) := .mk fun c G δ E h =>
  WS_raise0 (by rw [G.k, G.m]; exact F) (G.gl hg) (glbB_ok hg).2.1 h

/-! ### x(lambda: body): x tells a word -/
/-- Wd cls z: z is the word for an error of the class cls; w0: none was raised -/
def TWord (Wd : Value → Str → Prop) (w0 : Str) : (XK → Hp → VK → Prop) → Hp → VK → Prop := fun tl H Q =>
  tl (fun cls od H' => od = none ∧ ∃ z, Wd cls z ∧ ∀ H'', Ext H' H'' → Q (.str z) H'') H fun _ H' => Q (.str w0) H'
/-- slots whose data stand in the heap -/
def Slots (K : PySem.W.Frag) (U : Pu) (H : Hp) (σ : L2.St) (δ : List (Option D)) : Prop := σ.length = δ.length ∧ ∀ (i : Nat) (d : D), δ[i]? = some (some d) → ∃ v, σ[i]? = some (some v) ∧ Rep K U H d v
def lamT (K : PySem.W.Frag) (U : Pu) (r : RdE) (δ : List (Option D)) (E : XK) : TE := fun σ H Q => ∃ (S : D → Prop) (T : XD), U.G H ∧ Slots K U H σ δ ∧ r T δ S ∧
  (∀ v H' d, Same U H H' → Rep K U H' d v → S d → Q v H') ∧ ∀ cls od fl H', Same U H H' → RepX K U H' od fl → T cls fl → E cls od H'
theorem extN_k {H H' : Hp} (e : LamX.ExtN H H') : SameK H H' := fun b o h n => e b o h fun ps z => by
  rw [z] at n
  cases n
theorem En.slots {X : Cx} {U : Pu} {lv : Nat} {T : XD} {c : Ct X U lv T} {L : List Addr} {H : Hp} {σ : L2.St} {δ : List (Option D)} (N : En c L H σ δ) : Slots X.K U H σ (fz δ) := by
  have N' := N.frz
  rw [fz_eq]
  refine ⟨N'.len, fun i d h => ?_⟩
  obtain ⟨v, h1, h2⟩ := N'.rep i d h
  exact ⟨v, h1, Rep.mono hide_ext.k _ _ (repB h2)⟩
theorem Slots.mono {K : PySem.W.Frag} {U : Pu} {H H' : Hp} {σ : L2.St} {δ : List (Option D)} (h : Slots K U H σ δ) (e : SameK H H') : Slots K U H' σ δ := ⟨h.1, fun i d q => let ⟨v, h1, h2⟩ := h.2 i d q; ⟨v, h1, Rep.mono e _ _ h2⟩⟩
section
variable {X : Cx} {U : Pu} {lv : Nat} {T : XD} {c : Ct X U lv T} {δ : List (Option D)} {S : D → Prop} {f : Fr}
/-- the lambda's body, by its reading -/
theorem lam_pe {scope : Scope} {body : Expr} {r : RdE} (F : f.X X) (nd : X.N.Nodup) (LS : LamX.LamS X.env.scope scope) (hd : ReE { f with sc := scope, z := .blk scope } body r) (A : Around) (outer : List Env) (s : Shared) (H : Hp) (E : XK) (a c' : Addr) (hU : f.U = U) (hr : Room f.lv (A.deeper (LamX.lamEnv X scope s.heap.objs.size a c'))) (δ' : List (Option D)) :
    PE (LamX.lamCx X A outer s H E scope a c') body (lamT X.K U r δ' E) := by
  subst hU
  refine ⟨fun pins s1 σ1 H1 Q I ⟨S', T', hG, ⟨hl, hs⟩, hr', q1, q2⟩ => ?_⟩
  let c1 : Ct (LamX.lamCx X A outer s H E scope a c') f.U f.lv T' :=
    { Hb := H1, Lb := [], g := hG, calm := rfl, nd := nd, room := hr, own := passes_of rfl, tk := (takes_of (E := E) rfl rfl rfl rfl).imp fun cls od σ H' ⟨s2, fl, r2, t⟩ => q2 cls od fl H' s2 (by rw [hide_nil] at r2; exact r2) t }
  have hx : Fr.X { f with sc := scope, z := .blk scope } (LamX.lamCx X A outer s H E scope a c') := ⟨F.p, F.w, F.k, F.m, F.b, F.n, rfl, fun x => by
    show false = _
    cases q : scope.names.lookup x with
    | none => rfl
    | some k =>
      cases k with
      | cell => exact absurd rfl (LS.own _ (PySem.mem_of_lookup q)).2
      | _ => rfl, fun x k e => .inl e⟩
  have en : En c1 [] H1 σ1 δ' := ⟨⟨Same.refl H1, fun l h => h, fun l h => .inl h, fun l h => by simp at h⟩, hl, fun i d h => ?_, fun i j xs ys l h _ f1 => ?_⟩
  · exact hd c1 hx δ' S' hr' [] σ1 H1 Q en (fun v H' d s2 (r2 : RepO X.K f.U [] [] H' d v) k => q1 v H' d s2 (by have z := repB r2; rw [hide_nil] at z; exact z) k) pins s1 I
  · obtain ⟨v, h1, h2⟩ := hs i d h
    exact ⟨v, h1, .of_rep (by rw [hide_nil]; exact h2)⟩
  · obtain ⟨v, _, h2⟩ := hs i _ h
    exact absurd (f1.symm.trans h2.still) (by decide)
/-- x(lambda: body), x tells a word -/
theorem WE_word {Tb : List (Addr × Str)} {Wd : Value → Str → Prop} {w0 : Str} {x a : Str} {g ca PA : Addr} {pg : Arguments} {bg : List Stmt} {sg : Scope} {dV kV doc pm cdv ct oc : Value} {an od : Option Addr} {osl : Array (Option Value)} {Ng : List Str}
    {params : Arguments} {body : Expr} {scope : Scope} {r : RdE} {p lpos : Pos} (F : f.X X) (hU : f.U = U) (hlv : f.lv + 2 ≤ lv) (hT : ∀ H, U.G H ↔ LamX.Tabs Tb H) (hg : Gl X x) (hm : X.mg x = some (.ref g)) (hk : PySem.W.keepIn X.K (.ref g) = true)
    (lk : X.K.lookup g = some ⟨oc, od, .func (PySem.W.fnOf x x pg bg sg dV kV doc pm an cdv ct), osl⟩) (hcg : PySem.W.codeIn X.K cdv x = true) (hb : L2.Binds X.K (PySem.W.fnOf x x pg bg sg dV kV doc pm an cdv ct) [a] []) (Sg : FnScope Ng [a] sg) (hNg : Ng[0]? = some a) (hva : Vis sg a)
    (hG : LamX.GivesTo X Ng x sg g cdv bg a (X.env.qual ++ "<lambda>") (TWord Wd w0)) (TB : LamX.TabB X.base X.mg ca PA) (hcode : X.env.code = .ref ca) (hmT : (PA, X.env.qual ++ "<lambda>") ∈ Tb) (hu : ∀ p ∈ Tb, p.1 = PA → p.2 = X.env.qual ++ "<lambda>")
    (LS : LamX.LamS X.env.scope scope) (hdef : defaultsOf params X.env = ([], [])) (hbind : ∀ (q : Str) (cl : List (Str × Addr)) (pm cv ctv : Value), bindArgs (PySem.W.kla_fn "<lambda>" q params body scope cl pm cv ctv) ⟨[], []⟩ = pure [])
    (hd : ReE { f with sc := scope, z := .blk scope } body r) (h : r (fun cls fl => fl = none ∧ ∃ z, Wd cls z ∧ S (.str z)) (fz δ) fun _ => S (.str w0))
    (hdb : (x == ("__debug__" : Str)) = false) (hda : (a == ("__debug__" : Str)) = false) (hca : (a == ("__classdict__" : Str)) = false) : WE c (.Call (.Name x p) [.Lambda params body scope lpos] [] pos) δ S := fun L σ H Q N q => by
  have gH := N.ok.base.g c.g
  refine runE_of (LamX.pe_lamcall (T := Tb) (TT := TWord Wd w0) (k := f.lv) (t := lamT X.K U r (fz δ)) hg hm hk lk hcg hb Sg hNg hva hG TB hcode hmT hu (c.room.mono hlv) LS hdef hbind (fun A outer s H E a c' hr => lam_pe F c.nd LS hd A outer s H E a c' hU hr (fz δ)) hdb hda hca) ⟨(hT H).mp gH, fun H1 eN T1 => ?_⟩
  have s1 : Same U H H1 := ⟨extN_k eN, fun _ => (hT H1).mpr T1⟩
  refine ⟨fun _ => S (.str w0), fun cls fl => fl = none ∧ ∃ z, Wd cls z ∧ S (.str z), (hT H1).mpr T1, N.slots.mono s1.k, h, fun v H' d s2 _ k => q _ H' (.str w0) (s1.trans s2) rfl k, fun cls od fl H' s2 rx ⟨e0, z, z1, z2⟩ => ⟨by
    subst e0
    cases od with
    | none => rfl
    | some _ => exact rx.elim, z, z1, fun H'' e => q _ H'' (.str z) ((s1.trans s2).trans e.s) rfl z2⟩⟩
end
end Dl

set_option maxRecDepth 100000
set_option maxHeartbeats 4000000
/-! # Defs that tell a word of what is raised -/
namespace Dl
open PySem PySem.Spec PyProof.Rows L2
theorem countP_flat {y : V} : ∀ {ys : List V} {us : List Value}, Vals ys us → ys.all flatV = true → us.countP (eqU y) = ys.countP fun z => eqV z y
  | _, _, .nil, _ => rfl
  | z :: ys, u :: us, .cons r t, f => by
    rw [List.all_cons, Bool.and_eq_true] at f
    rw [List.countP_cons, List.countP_cons, countP_flat t f.2, eqU_of r f.1]
def rCntF (K : PySem.W.Frag) : V → List V → Hp → VK → Prop := fun x xs H Q => ∃ (p : Addr) (ys : List V) (y : V), x = .ref p ∧ xs = [y] ∧ SqL K H p ys ∧ flatV y = true ∧ ys.all flatV = true ∧ Q (.int (ys.countP fun z => eqV z y : Nat)) H
theorem mt_countF {X : Cx} : MtR X "list.count" (rCntF X.K) := fun pins s σ H x xs v us Q I rx rxs h => by
  obtain ⟨p, ys, y, rfl, rfl, hs, fy, fys, q⟩ := h
  cases rx
  obtain ⟨u, rfl, ru⟩ := rxs.one
  obtain ⟨its, rv, ⟨⟨k1, dd, dt, sl⟩, n, e1, e2, e3, e4⟩, _⟩ := I.list hs
  subst e2 e4
  refine call_meets PySem.F.slot_list_count ⟨_, e1, rfl⟩ PySem.F.entry_list_count (PySem.F.args_list_count_2 _ _) (SeqAt.list_countAt p its.toArray n dd sl u (eqU y)) ⟨e1, fun u' hu' => mem_eqAt ru fy rv fys u' (by simpa using hu'), ?_⟩
  refine ⟨.int (its.toArray.toList.countP (eqU y) : Nat), H, I.tok _, ⟨_, rfl⟩, ?_⟩
  rw [show its.toArray.toList.countP (eqU y) = ys.countP fun z => eqV z y from countP_flat rv fys]
  exact q
/-- w = 'let' / try: a() / except C as e: suite / return w -/
theorem word_gives {X : Cx} {Ng : List Str} {x a wn en cE q w0 : Str} {sg : Scope} {g CE : Addr} {cdg : Value} {iw ie j : Nat} {suite : List Stmt} {b₀ : Stmt} {Wd : Value → Str → Prop} {ts : Addr → Addr → TS} {p1 p2 p3 p4 p5 p6 p7 p8 p9 pa pb : Pos}
    (nd : Ng.Nodup) (hi : Ng[iw]? = some wn) (hie : Ng[ie]? = some en) (h0 : ∀ f : Addr, (L2.start Ng [V.ref f])[0]? = some (some (V.ref f))) (hne : iw ≠ 0) (hne2 : ie ≠ iw) (hl : iw < Ng.length) (hlw : sg.names.lookup wn = some .local) (hle : sg.names.lookup en = some .local)
    (hge : sg.names.lookup cE = some .globalImplicit) (hme : X.mg cE = some (.ref CE)) (hde : (cE == ("__debug__" : Str)) = false) (hdw : (wn == ("__debug__" : Str)) = false) (hcw : (wn == ("__classdict__" : Str)) = false)
    (hsu : ∀ (s : Shared) (H : Hp) (aa : Addr) (oe : Obj) (D : Addr) (pn : List (Addr × Obj)), ExcC X.K D → Zc (.ref D) none oe → (∃ vs, oe.data = .fields vs) → PSs ((cxOf C8.CX0 X.prog X.w X.K X.mg X.base Ng x sg g cdg X.A X.stack s H C8.E0).nox.suite aa ((aa, oe) :: pn)) (b₀ :: suite) (ts D aa))
    (hW : ∀ cls z, Wd cls z → ∃ D, cls = .ref D ∧ ExcC X.K D ∧ PySem.W.exmOne X.K cls (.ref CE) = some true ∧ ∀ (aa : Addr) (σ : L2.St) (H : Hp) (De : Ends), σ.length = Ng.length → (∀ (σ' : L2.St) (H' : Hp), σ'[iw]? = some (some (V.str z)) → Ext H H' → De.nx σ' H') → ts D aa De (σ.set ie (some (.ref aa))) H)
    (hsw : ∀ X' : Cx, swapsWith (.Call (.Name a p3) [] [] p4) none p5.line X'.env = pure false := by intro _; rfl) :
    LamX.GivesTo X Ng x sg g cdg [.Assign [.Name wn p1] (.Constant (.str w0) j p2) pa, .Try [.Expr (.Call (.Name a p3) [] [] p4) p5] [.ExceptHandler (some (.Name cE p6)) (some en) (b₀ :: suite) p7] [] [] p8, .Return (some (.Name wn p9)) pb] a q (TWord Wd w0) := by
  intro f c' s H Q tl act hc h
  let Xg : Cx := (cxOf C8.CX0 X.prog X.w X.K X.mg X.base Ng x sg g cdg X.A X.stack s H C8.E0).nox
  have hgl : Gl Xg cE := hge
  refine ⟨_, pss_cons (ps_set (X := Xg) (i := iw) nd hi (.inl hlw) pe_str (by rfl) (.inr hlw)) (pss_cons (ps_try_as (X := Xg) (i := ie) (c := .ref CE) (n := en)
      (tb := fun W D σ H => ∃ Ech : XK, (∀ cls d σ' H', Ech cls d H' → W cls d σ' H') ∧ σ[0]? = some (some (.ref f)) ∧ H c' = some (LamX.CodeO c' q) ∧ tl Ech H fun _ H' => D.nx σ H')
      (ts := fun aa cls d D σ H => ∃ Dd, cls = .ref Dd ∧ d = none ∧ ExcC X.K Dd ∧ (σ.length = Ng.length → ts Dd aa D σ H))
      rfl rfl nd hie hle ⟨hgl, hde, .inl hme⟩ LamX.takes0 (fun W pn xe tk _ => ?_) (fun aa oe cls d pn hz hf => ?_)) (pss_one (ps_ret (pe_var hi (.inl hlw) hdw hcw)))), ?_⟩
  · exact ⟨fun pins s' σ H' D I ⟨Ech, hE, h1, h2, h3⟩ => (pss_one (ps_expr (act W pn xe Ech p3 p4 tk hE) (hsw _))).run pins s' σ H' D I ⟨h1, h2, h3⟩⟩
  · refine ⟨fun pins s' σ H' D I ⟨Dd, e1, e2, C, hh⟩ => ?_⟩
    subst e1 e2
    exact (hsu s H aa oe Dd pn C hz hf).run pins s' σ H' D I (hh I.len)
  · have st : ∀ v : V, ((L2.start Ng [V.ref f]).set iw (some v))[iw]? = some (some v) := fun v => List.getElem?_set_self (by
      show iw < (L2.start Ng [V.ref f]).length
      unfold L2.start
      rw [List.length_append, List.length_map, List.length_replicate]
      show iw < 1 + (Ng.length - 1)
      omega)
    refine ⟨fun cls od H' => od = none ∧ ∃ z, Wd cls z ∧ ∀ H'', Ext H' H'' → Q (.str z) H'', fun cls d σ' H' hE => ?_, ?_, hc, ?_⟩
    · obtain ⟨e0, z, w, k⟩ := hE
      obtain ⟨Dd, e1, C, e2, hh⟩ := hW cls z w
      refine ⟨true, e2, fun _ aa _ => ⟨Dd, e1, e0, C, fun hl' => hh aa σ' H' _ (by rw [← hl', List.length_set]) fun σ2 H2 h1 h2 => ?_⟩, fun z => by cases z⟩
      refine ⟨.str z, ?_, k H2 h2⟩
      rw [List.getElem?_set_ne hne2]
      exact h1
    · rw [List.getElem?_set_ne hne]
      exact h0 f
    · have e : (fun (_ : V) (H' : Hp) => Q (.str w0) H') = fun (_ : V) (H' : Hp) => ∃ v, ((L2.start Ng [V.ref f]).set iw (some (V.str w0)))[iw]? = some (some v) ∧ Q v H' := by
        funext _ H'
        refine propext ⟨fun k => ⟨_, st _, k⟩, fun ⟨v, h1, k⟩ => ?_⟩
        rw [st] at h1
        cases h1
        exact k
      have h' : tl (fun cls od H' => od = none ∧ ∃ z, Wd cls z ∧ ∀ H'', Ext H' H'' → Q (.str z) H'') H fun _ H' => Q (.str w0) H' := h
      rw [e] at h'
      exact h'
/-! ### the reading of x(lambda: body) -/
/-- x is a def that tells a word -/
structure Wrd (P : Program) (w : World) (K : PySem.W.Frag) (mg : Str → Option Value) (base : Heap) (x : Str) (Wd : Value → Str → Prop) (w0 : Str) : Prop where
  ex : ∃ (g : Addr) (a : Str) (pg : Arguments) (bg : List Stmt) (sg : Scope) (dV kV doc pm cdv ct oc : Value) (an od : Option Addr) (osl : Array (Option Value)) (Ng : List Str), mg x = some (.ref g) ∧ PySem.W.keepIn K (.ref g) = true ∧
    K.lookup g = some ⟨oc, od, .func (PySem.W.fnOf x x pg bg sg dV kV doc pm an cdv ct), osl⟩ ∧ PySem.W.codeIn K cdv x = true ∧ L2.Binds K (PySem.W.fnOf x x pg bg sg dV kV doc pm an cdv ct) [a] [] ∧ FnScope Ng [a] sg ∧ Ng[0]? = some a ∧ Vis sg a ∧
    (a == ("__debug__" : Str)) = false ∧ (a == ("__classdict__" : Str)) = false ∧ ∀ (X : Cx) (q : Str), X.prog = P → X.w = w → X.K = K → X.mg = mg → X.base = base → LamX.GivesTo X Ng x sg g cdv bg a q (TWord Wd w0)
/-- the code object cd of the def q, its table -/
structure LamAt (base : Heap) (mg : Str → Option Value) (Tb : List (Addr × Str)) (cd : Value) (q : Str) : Prop where
  ex : ∃ ca PA, cd = .ref ca ∧ LamX.TabB base mg ca PA ∧ (PA, q ++ "<lambda>") ∈ Tb ∧ ∀ p ∈ Tb, p.1 = PA → p.2 = q ++ "<lambda>"
def Rd.word (Wd : Value → Str → Prop) (w0 : Str) (r : RdE) : RdE := fun _ δ S => fc (fz δ) fun δ' => r (fun cls fl => fl = none ∧ ∃ z, Wd cls z ∧ S (.str z)) δ' fun _ => S (.str w0)
theorem De.word {f : Fr} {cd : Value} {q x w0 : Str} {Wd : Value → Str → Prop} {Tb : List (Addr × Str)} {params : Arguments} {body : Expr} {scope : Scope} {r : RdE} {p lpos pos : Pos} (W : Wrd f.P f.w f.K f.mg f.base x Wd w0) (LA : LamAt f.base f.mg Tb cd q) (hT : ∀ H, f.U.G H ↔ LamX.Tabs Tb H)
    (hd : ReE (f.lam scope) body r) (hz : f.z = .code cd q := by rfl) (hlv : 2 ≤ f.lv := by (try dsimp only [Fr.blk, Fr.lam]); decide) (hs : LamX.lamSB f.sc scope = true := by (try dsimp only [Fr.blk, Fr.lam]); decide +kernel) (hg : glbB f.sc x = true := by (try dsimp only [Fr.blk, Fr.lam]); decide +kernel) (hdef : ∀ X : Cx, defaultsOf params X.env = ([], []) := by intro _; rfl)
    (hbind : ∀ (q : Str) (cl : List (Str × Addr)) (pm cv ctv : Value), bindArgs (PySem.W.kla_fn "<lambda>" q params body scope cl pm cv ctv) ⟨[], []⟩ = pure [] := by intros; rfl) : ReE f (.Call (.Name x p) [.Lambda params body scope lpos] [] pos) (Rd.word Wd w0 r) := .mk fun {X T} c F δ S h => by
  obtain ⟨g, a, pg, bg, sg, dV, kV, doc, pm, cdv, ct, oc, an, od, osl, Ng, h1, h2, h3, h4, h5, h6, h7, h8, h9, h10, hG⟩ := W.ex
  obtain ⟨ca, PA, e1, TB, m1, m2⟩ := LA.ex
  have fz' := F.f
  rw [hz] at fz'
  obtain ⟨_, hc, hq⟩ := fz'
  subst e1
  subst hq
  have F' : Fr.X (f.lam f.sc) X ∨ True := .inr trivial
  unfold Rd.word at h
  rw [fc_eq] at h
  exact WE_word (f := { f with lv := f.lv - 2 }) (g := g) (ca := ca) (PA := PA) F rfl (by show f.lv - 2 + 2 ≤ f.lv; omega) hT (F.gl hg) (by rw [F.m]; exact h1) (by rw [F.k]; exact h2) (by rw [F.k]; exact h3) (by rw [F.k]; exact h4) (by rw [F.k]; exact h5) h6 h7 h8
    (hG X _ F.p F.w F.k F.m F.b) (by rw [F.b, F.m]; exact TB) hc m1 m2 (by rw [F.s]; exact LamX.lamS_by hs) (hdef X) hbind hd h (glbB_ok hg).2.1 h9 h10
end Dl

set_option maxRecDepth 100000
set_option maxHeartbeats 4000000
/-! # Defs with lambdas in them; heads that tell of their tables -/
namespace Dl
open PySem PySem.Spec PyProof.Rows L2
abbrev locs (x : Str) : Str := x ++ ".<locals>."
structure DefAtC (K : PySem.W.Frag) (mg : Str → Option Value) (base : Heap) (Tb : List (Addr × Str)) (x : Str) (st : Stmt) (ps : List Str) : Prop where
  ex : ∃ (f : Addr) (fd : FuncData), Fun K x x st f fd ∧ mg x = some (.ref f) ∧ Binds K fd ps [] ∧ LamAt base mg Tb fd.code (locs x)
section
variable {P : Program} {w : World} {K : PySem.W.Frag} {mg : Str → Option Value} {base : Heap} {U : Pu} {Tb : List (Addr × Str)}
theorem fnDC {x : Str} {st : Stmt} {f : Addr} {fd : FuncData} {N ps : List Str} {n k : Nat} {sp : DSpec} (F : Fun K x x st f fd) (Sc : FnScope N ps (defScope st)) (hn : ps.length = n)
    (body : ∀ (X : Cx) (T : XD) (c : Ct X U k T), Fx X P w K mg base N (defScope st) (.code fd.code (locs x)) → ∀ (ds : List D) (S : D → Prop), ds.length = n → sp ds S T →
      WSs c (defBody st) (startD N ds) { nx := fun _ => S .non, rt := S }) : FnOk P w K mg base (L2.CX P w) (k + 1) f fd ps (spD K U n sp) := by
  obtain ⟨⟨oc, od, kV, doc, pm, an, cdv, ct, osl, e0, lk, hcd⟩, kp⟩ := F
  subst e0
  refine fn_of lk hcd Sc (fun vs H Q E h => ?_) fun A outer s H vs Q E hr h => ?_
  · obtain ⟨L, ds, S, T, ⟨z, _⟩, _, r, _⟩ := h
    rw [hn, ← z, r.len]
  · obtain ⟨L, ds, S, T, ⟨z, hG⟩, hl, r, hs, q1, q2⟩ := h
    let c : Ct (cxOf (L2.CX P w) P w K mg base N x (defScope st) f cdv A outer s H E) U k T :=
      { Hb := H, Lb := L, g := hG, calm := rfl, nd := Sc.nd, room := hr, own := passes_of rfl, tk := (takes_of (E := E) rfl rfl rfl rfl).imp fun cls od σ H' ⟨s1, fl, rx, t⟩ => q2 cls od fl H' s1 rx t }
    have ok : Ok c L H := ⟨Same.refl H, fun l h => h, fun l h => .inl h, hl⟩
    refine ⟨_, pss_run, body _ T c ⟨rfl, rfl, rfl, rfl, rfl, rfl, rfl, fun x => rfl, rfl, rfl⟩ ds S z hs L (L2.start N vs) H _ (start_en ok r) ⟨fun L' σ' H' δ' N' k => q1 .non H' .non N'.ok.base rfl k, fun v H' d s r k => q1 v H' d s r k, fun L' σ' H' δ' N' k => k.elim, fun L' σ' H' δ' N' k => k.elim⟩⟩
theorem fnRC {x : Str} {st : Stmt} {N ps : List Str} {n k : Nat} {sp : DSpec} {t : RdS} (A : DefAtC K mg base Tb x st ps) (Sc : FnScope N ps (defScope st)) (hn : ps.length = n) (hN : n ≤ N.length) (d : ∀ cd, LamAt base mg Tb cd (locs x) → ReSs ⟨P, w, K, mg, base, N, defScope st, .code cd (locs x), U, k⟩ (defBody st) t) (h : Okd N.length t sp) : Fn P w K mg base U (k + 1) x n sp := by
  obtain ⟨f, fd, F, hg, hb, LA⟩ := A.ex
  refine fn_mk (N := N) F hg hb (fnDC F Sc hn fun X T c fx ds S hl hs => d fd.code LA c fx _ _ ?_)
  have h1 := h T ds S hs
  rw [fc_eq, sD_eq N ds (by omega)] at h1
  exact h1
end
/-! ### readings of __init__ -/
abbrev RdB := XD → List (Option D) → List Str → List D → (D → Prop) → Prop
abbrev RdBs := Addr → XD → List (Option D) → (D → Prop) → Prop
structure ReB (f : Fr) (C : Addr) (sts : List Stmt) (t : RdB)  : Prop where
  run : ∀ {X : Cx} {T : XD} (c c2 : Ct X f.U f.lv T) (o : Spot), f.X X → Spo c c2 o → o.C = C → ∀ (δ : List (Option D)) (ns : List Str) (ds : List D) (S : D → Prop), sl δ 0 = some (.any (.ref o.x)) → t T δ ns ds S → WB c2 o sts δ ns ds S
instance {f : Fr} {C : Addr} {sts : List Stmt} {t : RdB}  : CoeFun (ReB f C sts t) fun _ => ∀ {X : Cx} {T : XD} (c c2 : Ct X f.U f.lv T) (o : Spot), f.X X → Spo c c2 o → o.C = C → ∀ (δ : List (Option D)) (ns : List Str) (ds : List D) (S : D → Prop), sl δ 0 = some (.any (.ref o.x)) → t T δ ns ds S → WB c2 o sts δ ns ds S := ⟨fun h => h.run⟩
structure ReBs (f : Fr) (C : Addr) (sts : List Stmt) (t : RdBs)  : Prop where
  run : ∀ {X : Cx} {T : XD} (c c2 : Ct X f.U f.lv T) (o : Spot), f.X X → Spo c c2 o → o.C = C → ∀ (δ : List (Option D)) (S : D → Prop), t o.x T δ S → WBs c c2 o sts δ S
instance {f : Fr} {C : Addr} {sts : List Stmt} {t : RdBs}  : CoeFun (ReBs f C sts t) fun _ => ∀ {X : Cx} {T : XD} (c c2 : Ct X f.U f.lv T) (o : Spot), f.X X → Spo c c2 o → o.C = C → ∀ (δ : List (Option D)) (S : D → Prop), t o.x T δ S → WBs c c2 o sts δ S := ⟨fun h => h.run⟩
namespace Rd
def bnil (C : Addr) : RdB := fun _ _ ns ds S => S (.obj C ns ds)
def bset (names : List Str) (g : Str) (a : RdE) (rest : RdB) : RdB := fun T δ ns ds S => decide (g ∈ names ∧ g ∉ ns ∧ ns.length < 999) = true ∧ a T δ fun d => stP d (rest T δ (ns ++ [g]) (ds ++ [d]) S)
def bkeep (sp : DSpec) (as : RdA) : RdB := fun T δ ns _ S => ns = [] ∧ as T δ fun ds => stiD (stills ds) (sp ds S noX)
def anyP (o : Option D) (A : Addr → Prop) : Prop := match o with
  | some (.any (.ref y)) => A y
  | _ => False
theorem anyP_ok {o : Option D} {A : Addr → Prop} (h : anyP o A) : ∃ y, o = some (.any (.ref y)) ∧ A y := by
  unfold anyP at h
  split at h
  · exact ⟨_, rfl, h⟩
  · exact h.elim
def bgo (b : RdB) : RdBs := fun x T δ S => anyP (sl δ 0) fun y => y = x ∧ b T δ [] [] S
def bpre (t : RdS) (b : RdBs) : RdBs := fun x T δ S => t T δ { nx := fun δ' => b x T δ' S, rt := fun _ => False, bk := fun _ => False, ct := fun _ => False }
end Rd
namespace De
section
variable {f : Fr} {C : Addr} {e : Expr} {es : List Expr} {pos p : Pos} {ta : RdE} {tas : RdA} {st : Stmt} {rest : List Stmt} {names : List Str}
theorem bnil : ReB f C [] (Rd.bnil C) := .mk fun c c2 o F p e δ ns ds S hs h => by
  subst e
  exact WB_nil p h
theorem bset {g x : Str} {p' p2 : Pos} {tb : RdB} (hC : OkC f.K C names) (ha : ReE f e ta) (hb : ReB f C rest tb) (hn : f.N[0]? = some x := by rfl) (hv : visB f.sc x = true := by (try dsimp only [Fr.blk, Fr.lam]); decide +kernel) (hs : ∀ X : Cx, swapsWith e (some (.Attribute (.Name x p2) g p')) pos.line X.env = pure false := by intro _; rfl) :
    ReB f C (.Assign [.Attribute (.Name x p2) g p'] e pos :: rest) (Rd.bset names g ta tb) := .mk fun {X T} c c2 o F p e δ ns ds S hδ h => by
  subst e
  exact bSet F p hC h.1 (WE_var 0 (sl_eq hδ) rfl (by rw [F.n]; exact hn) (F.vis hv) (visB_ok hv).2.1 (visB_ok hv).2.2) ((ha c2 F δ _ h.2).mono fun d k => ⟨(stP_ok k).1, hb c c2 o F p rfl δ _ _ S hδ (stP_ok k).2⟩) (hs X)
theorem bgo {sts : List Stmt} {tb : RdB} (hb : ReB f C sts tb) : ReBs f C sts (Rd.bgo tb) := .mk fun c c2 o F p e δ S h => by
  obtain ⟨y, h1, h2, h3⟩ := Rd.anyP_ok h
  subst h2
  exact WBs_go p (hb c c2 o F p e δ _ _ S h1 h3)
theorem bpre {t : RdS} {tb : RdBs} (hs : ReS f st t) (hb : ReBs f C rest tb) : ReBs f C (st :: rest) (Rd.bpre t tb) := .mk fun c c2 o F p e δ S h => WBs_cons fun L σ H D N Cm => hs c F δ _ h L σ H D N ⟨fun L' σ' H' δ' N' k => Cm.nx L' σ' H' δ' N' (hb c c2 o F p e δ' S k), Cm.rt, Cm.bk, Cm.ct⟩
end
end De
def Okb (n : Nat) (t : RdBs) (sp : DSpec) : Prop := ∀ (x : Addr) (T : XD) (ds : List D) (S : D → Prop), sp ds S T → fc (sD n (.any (.ref x) :: ds)) fun δ => t x T δ S
section
variable {P : Program} {w : World} {K : PySem.W.Frag} {mg : Str → Option Value} {base : Heap} {U : Pu}
theorem makerR {x qual : Str} {st : Stmt} {N ps : List Str} {n k : Nat} {sp : DSpec} {C : Addr} {t : RdBs} (A : InitAt K mg x C qual st ps) (Sc : FnScope N ps (defScope st)) (hn : ps.length = n + 1) (hN : n + 1 ≤ N.length) (d : ReBs ⟨P, w, K, mg, base, N, defScope st, .top, U, k⟩ C (defBody st) t) (h : Okb N.length t sp) :
    Maker P w K mg base U (k + 1) x n sp := makerO A Sc hn fun X T c c2 o F e p ds S hl hs => d c c2 o F p e _ _ (by
  have h1 := h o.x T ds S hs
  rw [fc_eq, sD_eq N _ (by rw [List.length_cons]; omega)] at h1
  exact h1)
end
/-! ### heads -/
abbrev hookY (n : Nat) (d : Hd) (tf : List He.Defn) : PySem.W.Hook := He.hookX n d.fa d.fn [] tf fun K => d.ex.all fun e => e K
abbrev obsYG (n : Nat) (d : Hd) (tf : List He.Defn) (g : Addr → Option Obj) : He.AlX := He.obsX n d.fa d.fn [] tf (fun K => d.ex.all fun e => e K) g
abbrev SaysY (d : Hd) (tf : List He.Defn) (w : World) (h : Heap) (K : PySem.W.Frag) : Prop := He.SaysX d.fa d.fn [] tf (fun K => d.ex.all fun e => e K) w h K
def tabsT (K : PySem.W.Frag) (tf : List He.Defn) : List (Addr × Str) := tf.map fun p => ((He.cT K p).2, locs p.1 ++ "<lambda>")
def nodB (tf : List He.Defn) (K : PySem.W.Frag) : Bool := decide ((tf.map fun p => (He.cT K p).2).Nodup)
section
variable {K : PySem.W.Frag} {mg : Str → Option Value} {h base : Heap} {d : Hd} {tf : List He.Defn} {w : World}
theorem SaysY.x (c : SaysY d tf w h K) : SaysX d K := by
  have c1 : He.obsD d.fa d.fn K = He.valD d.fn := c.t.d
  have c2 : ((d.fa.all fun f => f.ok K) && d.fn.all fun d => d.ok K) = true := congrArg (fun z : He.AlD => z.1) c1
  have c3 : d.fn.map (fun d => He.fnW K d.at_) = d.fn.map He.DefD.val := congrArg (fun z : He.AlD => z.2) c1
  obtain ⟨h1, h2⟩ := He.ba c2
  have h3 : (d.ex.all fun e => e K) = true := c.more
  show (((d.fa.all fun f => f.ok K) && (d.ex.all fun e => e K)) && d.fn.all fun d => d.ok K, d.fn.map fun d => He.fnW K d.at_) = (true, d.fn.map He.DefD.val)
  rw [h1, h2, h3, c3]
  rfl
theorem nodup_at {α β : Type} {g : α → β} : ∀ {l : List α}, (l.map g).Nodup → ∀ {a b : α}, a ∈ l → b ∈ l → g a = g b → a = b
  | x :: l, n, a, b, ha, hb, e => by
    rw [List.map_cons, List.nodup_cons] at n
    rcases List.mem_cons.mp ha with h1 | h1 <;> rcases List.mem_cons.mp hb with h2 | h2
    · rw [h1, h2]
    · exact absurd (List.mem_map.mpr ⟨b, h2, by rw [← e, h1]⟩) n.1
    · exact absurd (List.mem_map.mpr ⟨a, h1, by rw [e, h2]⟩) n.1
    · exact nodup_at n.2 h1 h2 e
theorem lamAt_of {x : Str} {st : Stmt} {fd : FuncData} (i : Nat) (F : Fun K x x st (He.fAd K (x, none)) fd) (TB : ∀ p ∈ tf.map (He.cT K), LamX.TabB base mg p.1 p.2) (nd : nodB tf K = true) (hi : tf[i]? = some (x, none) := by rfl) : LamAt base mg (tabsT K tf) fd.code (locs x) := by
  obtain ⟨⟨oc, od, kV, doc, pm, an, cdv, ct, osl, e0, lk, hcd⟩, kp⟩ := F
  subst e0
  obtain ⟨c, rfl⟩ := He.codeIn_ref hcd
  have hm : (x, none) ∈ tf := List.mem_of_getElem? hi
  have e : He.codeOf K (x, none) = c := He.codeOf_eq lk rfl
  have t1 := TB _ (List.mem_map.mpr ⟨_, hm, rfl⟩)
  have e2 : (He.cT K (x, none)).1 = c := e
  rw [e2] at t1
  refine ⟨c, _, rfl, t1, List.mem_map.mpr ⟨_, hm, rfl⟩, fun p hp hq => ?_⟩
  obtain ⟨q, hq1, rfl⟩ := List.mem_map.mp hp
  have := nodup_at (of_decide_eq_true nd) hq1 hm hq
  rw [this]
theorem defAtC_of {Q : PySem.W.Frag → Prop} (X : K.In h) (G : h.Ns mainGlobals mg) (c : SaysX d K) {x : Str} {st : Stmt} {ps : List Str} (i j l : Nat) (TB : ∀ p ∈ tf.map (He.cT K), LamX.TabB base mg p.1 p.2) (nd : nodB tf K = true) (hb : BindB st x x ps) (h1 : d.fn[i]? = some (defD x st) := by rfl) (h2 : d.fa[j]? = some (.glo x) := by rfl) (hl : tf[l]? = some (x, none) := by rfl) : DefAtC K mg base (tabsT K tf) x st ps := by
  obtain ⟨fd, F⟩ := c.def_ i h1
  have F' := fun_of (x := x) (q := x) (st := st) F
  exact ⟨_, fd, F', He.glo_ok X G (c.fact j h2), F'.binds hb, lamAt_of l F' TB nd hl⟩
end
end Dl

set_option maxRecDepth 100000
set_option maxHeartbeats 4000000
/-! # xs.append(ys.pop(i)) -/
namespace Dl
open PySem PySem.Spec PyProof.Rows L2
theorem Reps.erase {K : PySem.W.Frag} {U : Pu} {H : Hp} : ∀ {ds : List D} {vs : List V} (k : Nat), Reps K U H ds vs → Reps K U H (ds.eraseIdx k) (vs.eraseIdx k)
  | [], vs, k, h => by rw [show vs = [] from h]; exact rfl
  | d :: ds, vs, 0, h => by
    obtain ⟨v, r, rfl, _, h3⟩ := h
    exact h3
  | d :: ds, vs, k + 1, h => by
    obtain ⟨v, r, rfl, h2, h3⟩ := h
    exact ⟨v, r.eraseIdx k, rfl, h2, Reps.erase k h3⟩
section
variable {X : Cx} {U : Pu} {lv : Nat} {T : XD} {c : Ct X U lv T} {δ : List (Option D)} {E : SE} {pos : Pos} {e : Expr}
theorem WS_appPop (i j : Nat) {x y : Str} {xs ys : List D} {p p' apos cpos apos' cpos' : Pos} (hi : δ[i]? = some (some (.own xs))) (hj : δ[j]? = some (some (.own ys))) (hij : i ≠ j)
    (h : WE c e δ fun d => ∃ (n : Int) (k : Nat) (z : D), d = .int n ∧ -(2 ^ 63) ≤ n ∧ n < 2 ^ 63 ∧ seqIndex? n ys.length = some k ∧ ys[k]? = some z ∧ xs.length < sizeLine ∧ E.nx ((δ.set j (some (.own (ys.eraseIdx k)))).set i (some (.own (xs ++ [z])))))
    (hN : X.N[i]? = some x) (hv : Vis X.env.scope x) (hd : (x == ("__debug__" : Str)) = false) (hcd : (x == ("__classdict__" : Str)) = false) (hN' : X.N[j]? = some y) (hv' : Vis X.env.scope y) (hd' : (y == ("__debug__" : Str)) = false) (hcd' : (y == ("__classdict__" : Str)) = false)
    (hs : swapsWith (.Call (.Attribute (.Name x p) "append" apos) [.Call (.Attribute (.Name y p') "pop" apos') [e] [] cpos'] [] cpos) none pos.line X.env = pure false)
    (hbase : attributeBase (.Name x p) "append" X.env (eval (.Name x p) X.env) = eval (.Name x p) X.env := by rfl) (hbase' : attributeBase (.Name y p') "pop" X.env (eval (.Name y p') X.env) = eval (.Name y p') X.env := by rfl)
    (hfew' : ((backTo cpos' (starEach [e] X.env)).all (fun x => !x.1) && (backToKw cpos' (keywordEach [] X.env)).all (fun x => x.1.isSome) && decide (([e] : List Expr).length + ([] : List Keyword).length + (if ([] : List Keyword).isEmpty then 0 else 1) < 30)) = true := by rfl) (he' : starEach (e :: []) X.env = (false, eval e X.env) :: starEach [] X.env := by rfl)
    (hline : (apos.endLine == cpos.line) = true := by rfl) (hline' : (apos'.endLine == cpos'.line) = true := by rfl) :
    WS c (.Expr (.Call (.Attribute (.Name x p) "append" apos) [.Call (.Attribute (.Name y p') "pop" apos') [e] [] cpos'] [] cpos) pos) δ E := fun L σ H De N Cm => by
  obtain ⟨v, hσ, l, vs, rfl, hl, hlb, hH, r, z⟩ := N.rep i _ hi
  obtain ⟨v', hσ', l', vs', rfl, hl', hlb', hH', r', z'⟩ := N.rep j _ hj
  have hne : l ≠ l' := fun q => hij (N.sep i j _ _ l hi hj rfl rfl hσ (by rw [q]; exact hσ'))
  refine runS_of (ps_expr (pe_bm PySem.F.plainAttrs_list PySem.F.slot_list_append PySem.F.type_list_append mt_append (pe_var hN hv hd hcd)
    (pa_cons (pe_bm PySem.F.plainAttrs_list PySem.F.slot_list_pop PySem.F.type_list_pop mt_popAt (pe_var hN' hv' hd' hcd') (pa_cons pe_run pa_nil he') hbase' hfew' hline' he' rfl) pa_nil rfl) hbase rfl hline rfl rfl) hs) ?_
  refine ⟨.ref l, hσ, tyL hH, .ref l', hσ', tyL hH', ?_⟩
  refine h L σ H _ N fun w H1 d s1 r1 ⟨n, k, zd, e1, n0, n1, hk, hz, zz, kk⟩ => ?_
  subst e1
  have N1 := N.mono s1
  have ra := Reps.mono (hide_same s1.k) _ _ r
  have rb := Reps.mono (hide_same s1.k) _ _ r'
  obtain ⟨zv, hzv, rz⟩ := rb.get hz
  have len := rb.len
  have N2 := N1.change hj hσ' hl' hlb' (rb.erase k) (Nat.le_trans (List.length_eraseIdx_le ..) z')
  refine ⟨l', vs', n, k, zv, rfl, by rw [show w = .int n from r1], s1.at _ _ hH', n0, n1, by rw [← len]; exact hk, hzv, ?_⟩
  refine ⟨l, vs, zv, rfl, rfl, by rw [upd_ne hne]; exact s1.at _ _ hH, by rw [← r.len]; exact zz, ?_⟩
  have hi2 : (δ.set j (some (.own (ys.eraseIdx k))))[i]? = some (some (.own xs)) := by rw [List.getElem?_set_ne (Ne.symm hij)]; exact hi
  have hh : hide L (upd H1 l' (.lst (vs'.eraseIdx k))) = hide L H1 := hide_upd hl'
  exact Cm.nx L σ _ _ (N2.change hi2 hσ hl hlb (by rw [hh]; exact ra.app (Reps.one rz)) (by rw [List.length_append]; exact zz)) kk
end
def Rd.popD (xs ys : List D) (A : List D → List D → Prop) (d : D) : Prop := match d with
  | .int n => ∃ k z, (0 ≤ n ∧ n < 1000000) ∧ n.toNat = k ∧ ys[k]? = some z ∧ xs.length < sizeLine ∧ A (ys.eraseIdx k) (xs ++ [z])
  | _ => False
def Rd.appPop (i j : Nat) (a : RdE) : RdS := fun T δ E => Rd.ownP (sl δ i) fun xs => Rd.ownP (sl δ j) fun ys => a T δ (Rd.popD xs ys fun ys' xs' => fc (st (st δ j (some (.own ys'))) i (some (.own xs'))) E.nx)
theorem De.appPop {f : Fr} {e : Expr} {ta : RdE} {x y : Str} {p p' apos cpos apos' cpos' pos : Pos} (i j : Nat) (ha : ReE f e ta) (hij : i ≠ j := by decide) (hn : f.N[i]? = some x := by rfl) (hn' : f.N[j]? = some y := by rfl) (hv : visB f.sc x = true := by (try dsimp only [Fr.blk, Fr.lam]); decide +kernel) (hv' : visB f.sc y = true := by (try dsimp only [Fr.blk, Fr.lam]); decide +kernel)
    (hs : ∀ X : Cx, swapsWith (.Call (.Attribute (.Name x p) "append" apos) [.Call (.Attribute (.Name y p') "pop" apos') [e] [] cpos'] [] cpos) none pos.line X.env = pure false := by intro _; rfl)
    (hbase : ∀ X : Cx, attributeBase (.Name x p) "append" X.env (eval (.Name x p) X.env) = eval (.Name x p) X.env := by intro _; rfl) (hbase' : ∀ X : Cx, attributeBase (.Name y p') "pop" X.env (eval (.Name y p') X.env) = eval (.Name y p') X.env := by intro _; rfl)
    (hfew' : ∀ X : Cx, ((backTo cpos' (starEach [e] X.env)).all (fun x => !x.1) && (backToKw cpos' (keywordEach [] X.env)).all (fun x => x.1.isSome) && decide (([e] : List Expr).length + ([] : List Keyword).length + (if ([] : List Keyword).isEmpty then 0 else 1) < 30)) = true := by intro _; rfl) (he' : ∀ X : Cx, starEach (e :: []) X.env = (false, eval e X.env) :: starEach [] X.env := by intro _; rfl)
    (hline : (apos.endLine == cpos.line) = true := by rfl) (hline' : (apos'.endLine == cpos'.line) = true := by rfl) :
    ReS f (.Expr (.Call (.Attribute (.Name x p) "append" apos) [.Call (.Attribute (.Name y p') "pop" apos') [e] [] cpos'] [] cpos) pos) (Rd.appPop i j ta) := .mk fun {X T} c F δ E h => by
  obtain ⟨xs, hi, h⟩ := own_ok h
  obtain ⟨ys, hj, h⟩ := own_ok h
  refine WS_appPop i j hi hj hij ((ha c F δ _ h).mono fun d h1 => ?_) (by rw [F.n]; exact hn) (F.vis hv) (visB_ok hv).2.1 (visB_ok hv).2.2 (by rw [F.n]; exact hn') (F.vis hv') (visB_ok hv').2.1 (visB_ok hv').2.2 (hs X) (hbase X) (hbase' X) (hfew' X) (he' X) hline hline'
  cases d with
  | int n =>
    obtain ⟨k, z, ⟨n0, n1⟩, hk, hz, zz, kk⟩ := h1
    rw [fc_eq, st_eq, st_eq] at kk
    have hlt := (List.getElem?_eq_some_iff.mp hz).1
    refine ⟨n, k, z, rfl, by omega, by omega, ?_, hz, zz, kk⟩
    have e1 : seqIndex? n ys.length = some n.toNat := by simp [seqIndex?]; omega
    rw [e1, hk]
  | _ => exact h1.elim
/-! ### list(x) as a list of one's own -/
theorem WF_listOf {X : Cx} {U : Pu} {lv : Nat} {T : XD} {c : Ct X U lv T} {δ : List (Option D)} {S : List D → Prop} {e : Expr} {p pos : Pos} (hm : X.mg "list" = none) (hg : Gl X "list") (h : WE c e δ fun d => ∃ xs, Seq d xs ∧ S xs)
    (he : starEach (e :: []) X.env = (false, eval e X.env) :: starEach [] X.env) : WF c (.Call (.Name "list" p) [e] [] pos) δ S := fun L σ H Q N q =>
  runE_of (pe_callTy call_list_of hg hm bt_list (pa_cons pe_run pa_nil he) (by decide) (by decide) he rfl) (h L σ H _ N fun v H1 d s1 r1 ⟨xs, sx, z⟩ => by
    obtain ⟨a, vs, rfl, ha, ra, za⟩ := sx.rep r1
    exact ⟨a, vs, rfl, ha, fun l hl => q l _ vs xs (s1.trans (same_new hl)) (Same.free s1 (.of hl)) upd_same (Reps.mono (hide_cons (.of hl) (new_k hl)) _ _ ra) za z⟩)
def Rd.listF (a : RdE) : RdA := fun T δ S => a T δ (Rd.seqJD S)
theorem De.listF {f : Fr} {e : Expr} {ta : RdE} {p pos : Pos} (hb : Blt f.mg) (ha : ReE f e ta) (hg : glbB f.sc "list" = true := by (try dsimp only [Fr.blk, Fr.lam]); decide +kernel) (he : ∀ X : Cx, starEach (e :: []) X.env = (false, eval e X.env) :: starEach [] X.env := by intro _; rfl) : ReF f (.Call (.Name "list" p) [e] [] pos) (Rd.listF ta) := .mk fun {X T} c F δ S h =>
  WF_listOf (by rw [F.m]; exact hb.list) (F.gl hg) ((ha c F δ _ h).mono fun d k => by
    cases d with
    | tup xs => exact ⟨xs, .tup xs, k⟩
    | lst xs => exact ⟨xs, .lst xs, k⟩
    | own xs => exact ⟨xs, .own xs, k⟩
    | _ => exact k.elim) (he X)
end Dl

set_option maxRecDepth 100000
set_option maxHeartbeats 4000000
/-! # Ends over heads with tables; facts of exception classes -/
namespace Dl
open PySem PySem.Spec PyProof.Rows L2
abbrev veTail : List Value := [.type "ValueError", .type "Exception", .type "BaseException", .type "object"]
/-- an own class of exceptions without __init__ -/
def excRB (C : Str) (K : PySem.W.Frag) : Bool := PySem.W.excIn K (He.ga K C) veTail "ValueError.__new__" && (PySem.W.keepIn K (.ref (He.ga K C)) && (decide (PySem.W.subIn K (.ref (He.ga K C)) (.type "BaseException") = some true) && decide (PySem.W.typeIn K (.ref (He.ga K C)) = some (.type "type"))))
/-- what isinstance asks of it -/
def excCB (C : Str) (K : PySem.W.Frag) : Bool := He.eqO (PySem.W.findIn K (.ref (He.ga K C)) "__getattribute__") (some (some (.builtin "BaseException.__getattribute__"))) && (He.eqO (PySem.W.findIn K (.ref (He.ga K C)) "__getattr__") (some none) &&
  (PySem.W.hasDictIn K (He.ga K C) && (He.eqO (PySem.W.findIn K (.ref (He.ga K C)) "__class__") (some (some (.builtin "object.__class__"))) && (He.eqO (PySem.W.specialIn K (.builtin "object.__class__") "__get__") (some (some (.builtin "getset_descriptor.__get__"))) &&
  (decide (PySem.W.takesIn K (.builtin "object.__class__") = some true) && decide (PySem.W.mroIn K (He.ga K C) (.type "object") = some true))))))
def exmB (C D : Str) (b : Bool) (K : PySem.W.Frag) : Bool := decide (PySem.W.exmOne K (.ref (He.ga K C)) (.ref (He.ga K D)) = some b)
def kitTB (C : Str) (T : String) (b : Bool) (K : PySem.W.Frag) : Bool := decide (PySem.W.kitOne K (.ref (He.ga K C)) (.type T) = some b)
section
variable {K : PySem.W.Frag} {mg : Str → Option Value} {h : Heap} {d : Hd} {tf : List He.Defn} {w : World}
theorem excR_of (X : K.In h) (G : h.Ns mainGlobals mg) (c : SaysX d K) {C : Str} (i j : Nat) (h1 : d.ex[i]? = some (excRB C) := by rfl) (h2 : d.fa[j]? = some (.glo C) := by rfl) : ExR K mg C (He.ga K C) := by
  have z := c.ext i h1
  unfold excRB at z
  obtain ⟨z1, z⟩ := He.ba z
  obtain ⟨z2, z⟩ := He.ba z
  obtain ⟨z3, z4⟩ := He.ba z
  exact ⟨He.glo_ok X G (c.fact j h2), z1, z2, of_decide_eq_true z3, of_decide_eq_true z4⟩
theorem excC_of (c : SaysX d K) {C : Str} (i j : Nat) (h1 : d.ex[i]? = some (excRB C) := by rfl) (h2 : d.ex[j]? = some (excCB C) := by rfl) : ExcC K (He.ga K C) := by
  have z := c.ext i h1
  unfold excRB at z
  obtain ⟨_, z⟩ := He.ba z
  obtain ⟨_, z⟩ := He.ba z
  obtain ⟨z3, _⟩ := He.ba z
  have y := c.ext j h2
  unfold excCB at y
  obtain ⟨y1, y⟩ := He.ba y
  obtain ⟨y2, y⟩ := He.ba y
  obtain ⟨y3, y⟩ := He.ba y
  obtain ⟨y4, y⟩ := He.ba y
  obtain ⟨y5, y⟩ := He.ba y
  obtain ⟨y6, y7⟩ := He.ba y
  exact ⟨He.eqO_ok y1, He.eqO_ok y2, of_decide_eq_true z3, y3, He.eqO_ok y4, He.eqO_ok y5, of_decide_eq_true y6, of_decide_eq_true y7⟩
theorem exm_of (c : SaysX d K) {C D : Str} {b : Bool} (i : Nat) (h1 : d.ex[i]? = some (exmB C D b) := by rfl) : PySem.W.exmOne K (.ref (He.ga K C)) (.ref (He.ga K D)) = some b := of_decide_eq_true (c.ext i h1)
theorem kitT_of (c : SaysX d K) {C : Str} {T : String} {b : Bool} (i : Nat) (h1 : d.ex[i]? = some (kitTB C T b) := by rfl) : PySem.W.kitOne K (.ref (He.ga K C)) (.type T) = some b := of_decide_eq_true (c.ext i h1)
theorem SaysY.nod (c : SaysY d tf w h K) (i : Nat) (h1 : d.ex[i]? = some (nodB tf) := by rfl) : nodB tf K = true := c.x.ext i h1
theorem obsYG_eq {n : Nat} {g : Addr → Option Obj} {s : Shared} (h : ∀ a, g a = s.heap.get? a) : obsYG n d tf g = (hookY n d tf).obs s := He.obsX_eq h
/-- the law's promise at the head's heap -/
theorem lawY {l : PySem.W.OpenLaw} {k : Nat} {x : Str} {fa : Addr} {fd : FuncData} (X : K.In h) (c : SaysY d tf w h K) (hb : ∀ (s : Shared) (u : Value), BindsTo s fd ⟨[u], []⟩ [(x, u)])
    (hF : ∀ base : Heap, K.In base → base.Ns mainGlobals mg → (∀ p ∈ tf.map (He.cT K), LamX.TabB base mg p.1 p.2) → FnOk l.prog w K mg base L2.CX0 k fa fd [x] (spLaw (tabsT K tf) K)) : LamX.LawAtS l w K L2.CX0 k 63 x mg fa h := by
  refine ⟨fd, tf.map (He.cT K), spLaw (tabsT K tf) K, fun p hp => ?_, fun p hp => ?_, fun p hp => ?_, hb, fun H a ns hl _ hT hS => ⟨a, ns, rfl, hS, hl, fun p hp => ?_, fun _ => rfl⟩, hF⟩
  · obtain ⟨q, hq, rfl⟩ := List.mem_map.mp hp
    exact c.empty q hq
  · obtain ⟨q, hq, rfl⟩ := List.mem_map.mp hp
    exact c.out q hq
  · obtain ⟨q, hq, rfl⟩ := List.mem_map.mp hp
    exact PySem.W.codeHd_of_K X (c.hd q hq)
  · obtain ⟨q, hq, rfl⟩ := List.mem_map.mp hp
    exact LamX.TabS.nil (hT _ (List.mem_map.mpr ⟨q, hq, rfl⟩))
end
end Dl
namespace Dl
open PySem PySem.Spec PyProof.Rows L2
section
variable {P : Program} {w : World} {K : PySem.W.Frag} {mg : Str → Option Value} {base : Heap}
/-- a def that tells a word, of its body -/
theorem wrd_of {x w0 a : Str} {st : Stmt} {Ng : List Str} {Wd : Value → Str → Prop} (A : DefAt K mg x st [a]) (Sc : FnScope Ng [a] (defScope st)) (h0 : Ng[0]? = some a) (hv : Vis (defScope st) a) (hd : (a == ("__debug__" : Str)) = false) (hc : (a == ("__classdict__" : Str)) = false)
    (hG : ∀ (X : Cx) (q : Str) (g : Addr) (cdv : Value), X.prog = P → X.w = w → X.K = K → X.mg = mg → X.base = base → LamX.GivesTo X Ng x (defScope st) g cdv (defBody st) a q (TWord Wd w0)) : Wrd P w K mg base x Wd w0 := by
  obtain ⟨f, fd, F, hg, hb⟩ := A
  obtain ⟨⟨oc, od, kV, doc, pm, an, cdv, ct, osl, e0, lk, hcd⟩, kp⟩ := F
  subst e0
  exact ⟨f, a, defArgs st, defBody st, defScope st, .none, kV, doc, pm, cdv, ct, oc, an, od, osl, Ng, hg, kp, lk, hcd, hb, Sc, h0, hv, hd, hc, fun X q h1 h2 h3 h4 h5 => hG X q f cdv h1 h2 h3 h4 h5⟩
end
end Dl
namespace Dl
open PySem PySem.Spec PyProof.Rows L2
theorem lk2 {H : Hp} {a b : Addr} {o u : HO} (h1 : H a = some o) (h2 : H b = none) : upd H b u a = some o := (upd_ne (ne_of_none h1 h2)).trans h1
theorem idx_of {ys : List V} {y : V} {j : Nat} (h : ((ys.take j).all fun z => !eqV z y) = true) : ∀ (m : Nat) (z' : V), m < j → ys[m]? = some z' → eqV z' y = false := fun m z' hm e => by
  have h1 : z' ∈ ys.take j := List.mem_of_getElem? (i := m) (by rw [List.getElem?_take, if_pos hm]; exact e)
  have h2 := List.all_eq_true.mp h z' h1
  simpa using h2
end Dl

set_option maxRecDepth 100000
set_option maxHeartbeats 4000000
/-! # The laws' bags: a source of draws whose numbers are kept in a list that changes, too -/
namespace Dl
open PySem PySem.Spec PyProof.Rows L2
/-- what holds of the numbers in a bag -/
def BagI (i1 i2 i3 : Int) : Prop := 0 ≤ i1 ∧ i1 < 4294967296 ∧ 0 ≤ i2 ∧ 0 ≤ i3
abbrev bagL (c : Addr) (i1 i2 i3 : Int) : HO := .lst [.ref c, .int i1, .int i2, .int i3]
/-- what holds of its great numbers -/
def GrI (ns : List Int) : Prop := ns.length ≤ 63 ∧ ∀ n ∈ ns, 0 ≤ n
/-- a draw, the bag two lists -/
def spDrawC (K : PySem.W.Frag) : Sp := fun vs H Q _ => ∃ (a c : Addr) (m : Int) (ns : List Int) (i1 i2 i3 : Int), vs = [.ref a, .int m] ∧ H a = some (bagL c i1 i2 i3) ∧ H c = some (.lst (ns.map V.int)) ∧ GrI ns ∧ BagI i1 i2 i3 ∧ 0 < m ∧ m < 1000000 ∧
  ∀ v j1 j2 j3 ms, 0 ≤ v → v < m → BagI j1 j2 j3 → GrI ms → Q (.int v) (upd (upd H a (bagL c j1 j2 j3)) c (.lst (ms.map V.int)))
/-- the bag as the others see it -/
def bagPhi (c a : Addr) : Heap → Prop := fun h => ∃ (i1 i2 i3 : Int) (its : List Value) (n : Nat), BagI i1 i2 i3 ∧ Vals [.ref c, .int i1, .int i2, .int i3] its ∧ h.get? a = some { cls := .type "list", data := .seq its.toArray n }
def bagPsi (c : Addr) : Heap → Prop := fun h => ∃ (ns : List Int) (its : List Value) (n : Nat), GrI ns ∧ Vals (ns.map V.int) its ∧ h.get? c = some { cls := .type "list", data := .seq its.toArray n }
def bagU (Tb : List (Addr × Str)) : Pu where
  P := fun v H => ∃ (a c : Addr), v = .ref a ∧ H a = some (.ext (bagPhi c a)) ∧ H c = some (.ext (bagPsi c)) ∧ c ≠ a
  mono := fun v H H' e ⟨a, c, h1, h2, h3, h4⟩ => ⟨a, c, h1, e.at _ _ h2, e.at _ _ h3, h4⟩
  G := LamX.Tabs Tb
  ge := fun H H' e h => h.ext e
  gu := fun H l o hl _ h => tabs_upd H l o hl h
  gh := fun L H hl h => tabs_hide L H hl h
theorem bagPhi_ok {P : Program} {w : World} {H : Hp} {h : Heap} {c a : Addr} {i1 i2 i3 : Int} (x : ObjOk P w H h a (bagL c i1 i2 i3)) (p : BagI i1 i2 i3) {H' : Hp} : ObjOk P w H' h a (.ext (bagPhi c a)) := by
  obtain ⟨_, its, n, r, e⟩ := x
  refine ⟨⟨i1, i2, i3, its, n, p, r, e⟩, ⟨_, e⟩, fun h1 h2 z k => ?_⟩
  obtain ⟨j1, j2, j3, jts, m, q, r', e'⟩ := z
  exact ⟨j1, j2, j3, jts, m, q, r', k _ e'⟩
theorem bagPsi_ok {P : Program} {w : World} {H : Hp} {h : Heap} {c : Addr} {ns : List Int} (x : ObjOk P w H h c (.lst (ns.map V.int))) (p : GrI ns) {H' : Hp} : ObjOk P w H' h c (.ext (bagPsi c)) := by
  obtain ⟨_, its, n, r, e⟩ := x
  refine ⟨⟨ns, its, n, p, r, e⟩, ⟨_, e⟩, fun h1 h2 z k => ?_⟩
  obtain ⟨ms, jts, m, q, r', e'⟩ := z
  exact ⟨ms, jts, m, q, r', k _ e'⟩
section
variable {P : Program} {w : World} {K : PySem.W.Frag} {mg : Str → Option Value} {base : Heap} {k : Nat} {f : Addr} {fd : FuncData} {ps : List Str} {Tb : List (Addr × Str)}
theorem drawC_told (hp : ps.length = 2) (F : FnOk P w K mg base (L2.CX P w) k f fd ps (spDrawC K)) : FnOk P w K mg base (L2.CX P w) k f fd ps (spD K (bagU Tb) 2 spDraw) := by
  refine ⟨fun vs H Q E h => ?_, fun A outer s H args us vs Q E hr he hb hv hs => ?_⟩
  · obtain ⟨L, ds, S, T, ⟨h1, _⟩, _, h2, _⟩ := h
    rw [← h2.len, h1, hp]
  · obtain ⟨L, ds, S, T, ⟨hn, hG⟩, hl, r, ⟨m, rfl, m0, m1, hS⟩, q1, q2⟩ := hs
    obtain ⟨v, r', rfl, ⟨a, c, rfl, ha, hc, hca⟩, v2, r'', rfl, rfl, rfl⟩ := r
    obtain ⟨aL, ha⟩ := hide_at ha
    obtain ⟨cL, hc⟩ := hide_at hc
    obtain ⟨⟨i1, i2, i3, its, n, p, rv, e⟩, _, _⟩ := he.hok a _ ha
    obtain ⟨⟨ns, its2, n2, p2, rv2, e2⟩, _, _⟩ := he.hok c _ hc
    have no : ∀ {x : Addr} {o : HO}, H x = some o → ∀ b, H b = none → b ≠ x := fun {x o} hx b z y => by
      rw [y, hx] at z
      cases z
    have gz : ns.length ≤ sizeLine := by rw [sizeLine_eq]; have := p2.1; omega
    have hok1 : HOk P w (upd H a (bagL c i1 i2 i3)) s.heap := HOk.retell he.hok ha (fun _ z => by cases z) (fun _ z => by cases z) ⟨by show 4 ≤ sizeLine; decide, its, n, rv, e⟩
    have hc1 : upd H a (bagL c i1 i2 i3) c = some (.ext (bagPsi c)) := by rw [upd_ne hca]; exact hc
    have hok2 : HOk P w (upd (upd H a (bagL c i1 i2 i3)) c (.lst (ns.map V.int))) s.heap := HOk.retell hok1 hc1 (fun _ z => by cases z) (fun _ z => by cases z) ⟨by rw [List.length_map]; exact gz, its2, n2, rv2, e2⟩
    have he1 : Env0 P w K mg base A outer s (upd (upd H a (bagL c i1 i2 i3)) c (.lst (ns.map V.int))) := by
      refine ⟨he.frames, he.mod, fun b o z => ?_, he.bsz, he.funs, fun b z => ?_, hok2, he.bare⟩
      · obtain ⟨z1, z2⟩ := he.bs b o z
        exact ⟨z1, by rw [upd_ne (no hc b z2), upd_ne (no ha b z2)]; exact z2⟩
      · have z2 := he.frf b z
        rw [upd_ne (no hc b z2), upd_ne (no ha b z2)]
        exact z2
    refine codeAny_mono (F.run A outer s _ args us _ (fun v H' => ∃ i j1 j2 j3 ms, v = .int i ∧ 0 ≤ i ∧ i < m ∧ BagI j1 j2 j3 ∧ GrI ms ∧ H' = upd (upd H a (bagL c j1 j2 j3)) c (.lst (ms.map V.int))) (fun _ _ _ => False) hr he1 hb hv ⟨a, c, m, ns, i1, i2, i3, rfl, by rw [upd_ne hca.symm, upd_same], upd_same, p2, p, m0, m1, fun v j1 j2 j3 ms v0 v1 pj pm => ⟨v, j1, j2, j3, ms, rfl, v0, v1, pj, pm, ?_⟩⟩) fun r s' hq => ?_
    · funext b
      by_cases h1 : b = c
      · subst h1
        rw [upd_same, upd_same]
      · rw [upd_ne h1, upd_ne h1]
        by_cases h2 : b = a
        · subst h2
          rw [upd_same, upd_same]
        · rw [upd_ne h2, upd_ne h1, upd_ne h2, upd_ne h2]
    cases r with
    | error e =>
      obtain ⟨_, _, _, _, _, _, _, _, _, _, _, _, z⟩ := hq
      exact z.elim
    | ok fl =>
      cases fl with
      | ret u =>
        obtain ⟨v, H', h1, h2, un, hok, rvu, i, j1, j2, j3, ms, rfl, i0, i1', pj, pm, rfl⟩ := hq
        have un0 : ∀ b, H b = none → upd (upd H a (bagL c i1 i2 i3)) c (.lst (ns.map V.int)) b = none := fun b z => by
          rw [upd_ne (no hc b z), upd_ne (no ha b z)]
          exact z
        refine ⟨.int i, H, h1, h2, ⟨fun b o z1 z2 z3 z4 => un.keep b o z1 (un0 b z2) z3 z4, fun b o z1 z2 z3 z4 => un.slot b o z1 (un0 b z2) z3 z4, fun b o _ z _ => z, un.there, fun _ _ z => z, fun _ _ _ z => z, fun b ps z => ⟨#[], by rw [z]; simp⟩⟩, ?_, rvu, q1 _ H (.int i) (Same.refl H) rfl (hS i i0 i1')⟩
        have a1 : upd (upd H a (bagL c j1 j2 j3)) c (.lst (ms.map V.int)) a = some (bagL c j1 j2 j3) := by rw [upd_ne hca.symm, upd_same]
        have z1 := HOk.retell (o' := .ext (bagPsi c)) hok upd_same (fun _ z => by cases z) (fun _ z => by cases z) (bagPsi_ok (hok c _ upd_same) pm)
        rw [upd_upd] at z1
        have a2 : upd (upd H a (bagL c j1 j2 j3)) c (.ext (bagPsi c)) a = some (bagL c j1 j2 j3) := by rw [upd_ne hca.symm, upd_same]
        have z2 := HOk.retell (o' := .ext (bagPhi c a)) z1 a2 (fun _ z => by cases z) (fun _ z => by cases z) (bagPhi_ok (z1 a _ a2) pj)
        have e1 : H = upd (upd (upd H a (bagL c j1 j2 j3)) c (.ext (bagPsi c))) a (.ext (bagPhi c a)) := by
          funext b
          by_cases h1 : b = a
          · subst h1
            rw [upd_same, ha]
          · rw [upd_ne h1]
            by_cases h2 : b = c
            · subst h2
              rw [upd_same, hc]
            · rw [upd_ne h2, upd_ne h1]
        rw [← e1] at z2
        exact z2
      | next => exact False.elim hq
      | brk => exact False.elim hq
      | cont => exact False.elim hq
end
end Dl

set_option maxRecDepth 100000
set_option maxHeartbeats 4000000
/-! # Defs that return a new list; x = xs.pop(i) -/
namespace Dl
open PySem PySem.Spec PyProof.Rows L2
abbrev NSpec := List D → (List D → Prop) → XD → Prop
def spDN (K : PySem.W.Frag) (U : Pu) (n : Nat) (sp : NSpec) : Sp := fun vs H Q E => ∃ (L : List Addr) (ds : List D) (S : List D → Prop) (T : XD), (ds.length = n ∧ U.G H) ∧ (∀ l ∈ L, MutAt H l) ∧ Reps K U (hide L H) ds vs ∧ sp ds S T ∧
  (∀ l H' us xs, Same U H H' → NoA H l → H' l = some (.lst us) → Reps K U (hide (l :: L) H') xs us → xs.length ≤ sizeLine → S xs → Q (.ref l) H') ∧ ∀ cls od fl H', Same U H H' → RepX K U (hide L H') od fl → T cls fl → E cls od H'
/-- x is a def that returns a new list -/
structure FnN (P : Program) (w : World) (K : PySem.W.Frag) (mg : Str → Option Value) (base : Heap) (U : Pu) (k : Nat) (x : Str) (n : Nat) (sp : NSpec) : Prop where
  ex : ∃ (f : Addr) (fd : FuncData) (ps : List Str), mg x = some (.ref f) ∧ PySem.W.keepIn K (.ref f) = true ∧ Binds K fd ps [] ∧ FnOk P w K mg base (L2.CX P w) k f fd ps (spDN K U n sp)
/-- .. as another one -/
abbrev NSpec.d (sp : NSpec) : DSpec := fun ds S T => sp ds (fun xs => S (.lst xs)) T
section
variable {P : Program} {w : World} {K : PySem.W.Frag} {mg : Str → Option Value} {base : Heap} {U : Pu}
theorem FnN.fn {k : Nat} {x : Str} {n : Nat} {sp : NSpec} (F : FnN P w K mg base U k x n sp) : Fn P w K mg base U k x n sp.d := by
  obtain ⟨f, fd, ps, h1, h2, h3, h4⟩ := F.ex
  refine ⟨f, fd, ps, h1, h2, h3, h4.imp fun vs H Q E ⟨L, ds, S, T, hn, hl, r, hs, q1, q2⟩ => ⟨L, ds, fun xs => S (.lst xs), T, hn, hl, r, hs, fun l H' us xs s nl hl' r' z k => ?_, q2⟩⟩
  have hL : l ∉ L := fun hm => by
    obtain ⟨o, m, e⟩ := hl l hm
    exact absurd rfl (nl.ne e (by cases o <;> first | rfl | cases m))
  exact q1 _ H' (.lst xs) s ⟨l, us, rfl, (hide_ne hL).trans hl', Reps.mono (hide_le fun b hb => List.mem_cons_of_mem _ hb) _ _ r', z⟩ k
end
section
variable {X : Cx} {U : Pu} {lv : Nat} {T : XD} {c : Ct X U lv T} {δ : List (Option D)} {e : Expr} {pos p : Pos}
/-- how arguments are handed on -/
def PassN (n : Nat) (sp : NSpec) (S : List D → Prop) (T : XD) (ds : List D) : Prop := ds.length = n ∧ ((stills ds = true ∧ sp ds S T) ∨ sp (ds.map D.frz) (fun xs => noLs xs = true ∧ S xs) (noLX T))
theorem WF_call {x : Str} {n k : Nat} {sp : NSpec} {S : List D → Prop} {es : List Expr} (F : FnN X.prog X.w X.K X.mg X.base U k x n sp) (h : WA c (e :: es) δ (PassN n sp S T)) (hk : k ≤ lv) (hg : Gl X x) (hd : (x == ("__debug__" : Str)) = false)
    (he : starEach (e :: es) X.env = (false, eval e X.env) :: starEach es X.env) (hpl : (backTo pos (starEach es X.env)).any (·.1) = false) : WF c (.Call (.Name x p) (e :: es) [] pos) δ S := fun L σ H Q N q => by
  obtain ⟨f, fd, ps, h1, h2, h3, h4⟩ := F.ex
  refine runE_of (pe_callS h4 (c.room.mono hk) hg h1 h2 h3 (fun σ => passAt c.tk σ) pa_run hd he hpl) (h L σ H _ N fun vs H1 ds s1 r1 ⟨hn, hsp⟩ => ?_)
  have ok1 := N.ok.mono s1
  rcases hsp with ⟨st, hsp⟩ | hsp
  · refine ⟨L, ds, S, T, ⟨hn, (N.ok.base.trans s1).g c.g⟩, ok1.lsts, r1.reps st, hsp, fun l H' us xs s nl hl r z k => q l H' us xs (s1.trans s) (Same.free s1 nl) hl r z k, fun cls od fl H' s r t => ⟨(N.ok.base.trans s1).trans s, fl, RepX.mono (hide_le N.ok.lb) r, t⟩⟩
  · refine ⟨noLst H1 L, ds.map D.frz, fun xs => noLs xs = true ∧ S xs, noLX T, ⟨by rw [List.length_map]; exact hn, (N.ok.base.trans s1).g c.g⟩, fun l hl => ok1.lsts l (noLst_sub l hl), r1.frzs, hsp, fun l H' us xs s nl hl r z k => ?_, fun cls od fl H' s r t => ?_⟩
    · have hne : ∀ l' ∈ L, l' ≠ l := fun l' hm e => by
        obtain ⟨o, m, e'⟩ := ok1.lsts l' hm
        exact absurd rfl (nl.ne (e ▸ e') (by cases o <;> first | rfl | cases m))
      refine q l H' us xs (s1.trans s) (Same.free s1 nl) hl ?_ z k.2
      have hm : ∀ l' ∈ L, MutAt (hide [l] H') l' := fun l' hm => by
        obtain ⟨o, m, e'⟩ := (ok1.mono s).lsts l' hm
        exact ⟨o, m, (hide_ne (by simpa using hne l' hm)).trans e'⟩
      have r2 := Reps.noL (L' := noLst H1 L) hm (fun l' hl' => (noLst_at s.k l' hl').imp id fun ⟨xs, f, h⟩ => ⟨xs, f, (hide_ne (by simpa using hne l' hl')).trans h⟩) _ _ k.1 (by
        have e2 : hide (noLst H1 L) (hide [l] H') = hide (l :: noLst H1 L) H' := funext fun b => by
          unfold hide
          by_cases hb : b ∈ noLst H1 L
          · simp [hb]
          · by_cases hb2 : b = l
            · simp [hb2]
            · simp [hb, hb2]
        rw [e2]
        exact r)
      have e2 : hide L (hide [l] H') = hide (l :: L) H' := funext fun b => by
        unfold hide
        by_cases hb : b ∈ L
        · simp [hb]
        · by_cases hb2 : b = l
          · simp [hb2]
          · simp [hb, hb2]
      rw [e2] at r2
      exact r2
    · refine ⟨(N.ok.base.trans s1).trans s, fl, ?_, t.2⟩
      have ok2 := ok1.mono s
      cases od with
      | none => cases fl with
        | none => exact r
        | some _ => exact r
      | some d => cases fl with
        | none => exact r
        | some z =>
          obtain ⟨ns, ds2⟩ := z
          obtain ⟨vs', g1, g2⟩ := r
          have hlb : ∀ l ∈ c.Lb, MutAt H' l := fun l hl => ok2.lsts l (ok2.lb l hl)
          have g1' := (hide_at g1).2
          refine ⟨vs', (hide_ne fun z => ?_).trans g1', Reps.noL hlb (fun l hl => noLst_at s.k l (N.ok.lb l hl)) _ _ (t.1 _ _ rfl) g2⟩
          obtain ⟨o, m, g⟩ := hlb _ z
          rw [g1'] at g
          cases g
          cases m
/-! ### bodies that return a new list -/
def WSN (c : Ct X U lv T) (sts : List Stmt) (δ : List (Option D)) (S : List D → Prop) : Prop := ∀ (L : List Addr) (σ : L2.St) (H : Hp) (D : Ends), En c L H σ δ →
  (∀ l H' us xs, Same U c.Hb H' → NoA c.Hb l → H' l = some (.lst us) → Reps X.K U (hide (l :: c.Lb) H') xs us → xs.length ≤ sizeLine → S xs → D.rt (.ref l) H') → runSs X sts D σ H
theorem WSN_ret {S : List D → Prop} (h : WF c e δ S) : WSN c [.Return (some e) pos] δ S := fun L σ H D N q =>
  runSs_of (pss_one (ps_ret pe_run)) (h L σ H _ N fun l H' us xs s nl hl r z k => q l H' us xs (N.ok.base.trans s) (Same.free N.ok.base nl) hl (Reps.mono (hide_le fun b hb => by
    rcases List.mem_cons.mp hb with rfl | hb
    · exact List.mem_cons_self ..
    · exact List.mem_cons_of_mem _ (N.ok.lb b hb)) _ _ r) z k)
theorem WSN_retv {S : List D → Prop} {x : Str} {i : Nat} {xs : List D} (hi : δ[i]? = some (some (.own xs))) (h : S xs) (hN : X.N[i]? = some x) (hv : Vis X.env.scope x) (hd : (x == ("__debug__" : Str)) = false) (hcd : (x == ("__classdict__" : Str)) = false) : WSN c [.Return (some (.Name x p)) pos] δ S := fun L σ H D N q =>
  runSs_of (pss_one (ps_ret (pe_var hN hv hd hcd))) (by
    obtain ⟨v, hσ, l, us, rfl, hl, hlb, hH, r, z⟩ := N.rep i _ hi
    refine ⟨.ref l, hσ, q l H us xs N.ok.base ?_ hH (Reps.mono (hide_le fun b hb => ?_) _ _ r) z h⟩
    · rcases N.ok.new l hl with g | g
      · exact absurd g hlb
      · exact g
    · rcases List.mem_cons.mp hb with rfl | hb
      · exact hl
      · exact N.ok.lb b hb)
theorem WSN_cons {S : List D → Prop} {st : Stmt} {rest : List Stmt} (h : WS c st δ { nx := fun δ' => WSN c rest δ' S, rt := fun _ => False }) : WSN c (st :: rest) δ S := fun L σ H D N q =>
  runSs_of (pss_cons ps_run pss_run) (h L σ H _ N ⟨fun L' σ' H' δ' N' k => k L' σ' H' D N' q, fun v H' d s r k => k.elim, fun L' σ' H' δ' N' k => k.elim, fun L' σ' H' δ' N' k => k.elim⟩)
end
/-! ### readings -/
abbrev RdN := XD → List (Option D) → (List D → Prop) → Prop
structure ReN (f : Fr) (sts : List Stmt) (t : RdN) : Prop where
  run : ∀ {X : Cx} {T : XD} (c : Ct X f.U f.lv T), f.X X → ∀ (δ : List (Option D)) (S : List D → Prop), t T δ S → WSN c sts δ S
namespace Rd
def nret (a : RdA) : RdN := fun T δ S => a T δ S
def nretv (i : Nat) : RdN := fun _ δ S => ownP (sl δ i) S
def nsq (a : RdS) (b : RdN) : RdN := fun T δ S => a T δ { nx := fun δ' => b T δ' S, rt := fun _ => False }
def calN : Bool → NSpec → (List D → Prop) → XD → List D → Prop
  | true, sp, S, T, ds => sp ds S T
  | false, sp, S, T, ds => sp (ds.map D.frz) (fun xs => noLs xs = true ∧ S xs) (noLX T)
def callN (sp : NSpec) (as : RdA) : RdA := fun T δ S => as T δ fun ds => calN (stills ds) sp S T ds
def popS (ys : List D) (A : List D → D → Prop) (d : D) : Prop := match d with
  | .int n => ∃ k z, (0 ≤ n ∧ n < 1000000) ∧ n.toNat = k ∧ ys[k]? = some z ∧ A (ys.eraseIdx k) z
  | _ => False
/-- x = ys.pop(a) -/
def setPop (i j : Nat) (a : RdE) : RdS := fun T δ E => ownP (sl δ j) fun ys => a T δ (popS ys fun ys' z => fc (st (st δ j (some (.own ys'))) i (some z)) E.nx)
end Rd
namespace De
section
variable {f : Fr} {e : Expr} {es : List Expr} {pos p : Pos} {x : Str} {tas : RdA} {tb : RdN} {st : Stmt} {sts : List Stmt} {t1 : RdS}
theorem nret (h : ReF f e tas) : ReN f [.Return (some e) pos] (Rd.nret tas) := .mk fun c F δ S k => WSN_ret (h c F δ S k)
theorem nretv (i : Nat) (hn : f.N[i]? = some x := by rfl) (hv : visB f.sc x = true := by (try dsimp only [Fr.blk, Fr.lam]); decide +kernel) : ReN f [.Return (some (.Name x p)) pos] (Rd.nretv i) := .mk fun c F δ S k => by
  obtain ⟨xs, hi, k⟩ := own_ok k
  exact WSN_retv hi k (by rw [F.n]; exact hn) (F.vis hv) (visB_ok hv).2.1 (visB_ok hv).2.2
theorem nsq (h1 : ReS f st t1) (h2 : ReN f sts tb) : ReN f (st :: sts) (Rd.nsq t1 tb) := .mk fun c F δ S k => WSN_cons (scons.WS_mono (E := { nx := fun _ => False, rt := fun _ => False }) (nx := fun δ' => tb _ δ' S) (h1 c F δ _ k) fun δ' k' => h2.run c F δ' S k')
theorem callN {n k : Nat} {sp : NSpec} (Fn' : FnN f.P f.w f.K f.mg f.base f.U k x n sp) (hs : ReA f (e :: es) tas) (hk : k ≤ f.lv := by (try dsimp only [Fr.blk, Fr.lam]); decide) (hn : (e :: es).length = n := by rfl) (hg : glbB f.sc x = true := by (try dsimp only [Fr.blk, Fr.lam]); decide +kernel)
    (he : ∀ X : Cx, starEach (e :: es) X.env = (false, eval e X.env) :: starEach es X.env := by intro _; rfl) (hpl : ∀ X : Cx, (backTo pos (starEach es X.env)).any (·.1) = false := by intro _; rfl) : ReF f (.Call (.Name x p) (e :: es) [] pos) (Rd.callN sp tas) := .mk fun {X T} c F δ S h =>
  WF_call (by rw [F.p, F.w, F.k, F.m, F.b]; exact Fn') ((hs c F δ _ h).mono fun ds h1 => ⟨h1.1.trans hn, by
    have h2 := h1.2
    cases q : stills ds with
    | true =>
      rw [q] at h2
      exact .inl ⟨rfl, h2⟩
    | false =>
      rw [q] at h2
      exact .inr h2⟩) hk (F.gl hg) (glbB_ok hg).2.1 (he X) (hpl X)
end
end De
def Okn (n : Nat) (t : RdN) (sp : NSpec) : Prop := ∀ (T : XD) (ds : List D) (S : List D → Prop), sp ds S T → fc (sD n ds) fun δ => t T δ S
section
variable {P : Program} {w : World} {K : PySem.W.Frag} {mg : Str → Option Value} {base : Heap} {U : Pu}
theorem fnN {x : Str} {st : Stmt} {N ps : List Str} {n k : Nat} {sp : NSpec} {t : RdN} (A : DefAt K mg x st ps) (Sc : FnScope N ps (defScope st)) (hn : ps.length = n) (hN : n ≤ N.length) (d : ReN ⟨P, w, K, mg, base, N, defScope st, .top, U, k⟩ (defBody st) t) (h : Okn N.length t sp) : FnN P w K mg base U (k + 1) x n sp := by
  obtain ⟨f, fd, F, hg, hb⟩ := A.ex
  refine ⟨f, fd, ps, hg, F.kp, hb, F.okX Sc (fun vs H Q E h => ?_) (fun cdv A outer s H vs Q E hr h0 => ?_)⟩
  · obtain ⟨L, ds, S, T, ⟨h1, _⟩, _, h2, _⟩ := h
    rw [← h2.len, h1, hn]
  · obtain ⟨L, ds, S, T, ⟨h1, hG⟩, hl, h2, h3, q1, q2⟩ := h0
    let c : Ct (cxOf (L2.CX P w) P w K mg base N x (defScope st) f cdv A outer s H E) U k T :=
      { Hb := H, Lb := L, g := hG, calm := rfl, nd := Sc.nd, room := hr, own := passes_of rfl, tk := (takes_of (E := E) rfl rfl rfl rfl).imp fun cls od σ H' ⟨s1, fl, r, t⟩ => q2 cls od fl H' s1 r t }
    have ok : Ok c L H := ⟨Same.refl H, fun l h => h, fun l h => .inl h, hl⟩
    refine ⟨_, pss_run, ?_⟩
    have hh := h T ds S h3
    rw [fc_eq, sD_eq N ds (by omega)] at hh
    exact d.run c ⟨rfl, rfl, rfl, rfl, rfl, rfl, rfl, fun x => rfl⟩ _ S hh L (L2.start N vs) H _ (start_en ok h2) fun l H' us xs s nl hl' r z k => q1 l H' us xs s nl hl' r z k
end
/-! ### x = ys.pop(a) -/
section
variable {X : Cx} {U : Pu} {lv : Nat} {T : XD} {c : Ct X U lv T} {δ : List (Option D)} {E : SE} {pos : Pos} {e : Expr}
theorem WS_setPop (i j : Nat) {x y : Str} {ys : List D} {p p' cpos' apos' : Pos} (hj : δ[j]? = some (some (.own ys)))
    (h : WE c e δ fun d => ∃ (n : Int) (k : Nat) (z : D), d = .int n ∧ -(2 ^ 63) ≤ n ∧ n < 2 ^ 63 ∧ seqIndex? n ys.length = some k ∧ ys[k]? = some z ∧ E.nx ((δ.set j (some (.own (ys.eraseIdx k)))).set i (some z)))
    (hN : X.N[i]? = some x) (hx : Loc X.env.scope x) (hf : X.fn x = true ∨ X.env.scope.names.lookup x = some .local) (hN' : X.N[j]? = some y) (hv' : Vis X.env.scope y) (hd' : (y == ("__debug__" : Str)) = false) (hcd' : (y == ("__classdict__" : Str)) = false)
    (hs : swapsWith (.Call (.Attribute (.Name y p') "pop" apos') [e] [] cpos') (some (.Name x p)) pos.line X.env = pure false)
    (hbase' : attributeBase (.Name y p') "pop" X.env (eval (.Name y p') X.env) = eval (.Name y p') X.env)
    (hfew' : ((backTo cpos' (starEach [e] X.env)).all (fun x => !x.1) && (backToKw cpos' (keywordEach [] X.env)).all (fun x => x.1.isSome) && decide (([e] : List Expr).length + ([] : List Keyword).length + (if ([] : List Keyword).isEmpty then 0 else 1) < 30)) = true) (he' : starEach (e :: []) X.env = (false, eval e X.env) :: starEach [] X.env)
    (hline' : (apos'.endLine == cpos'.line) = true) :
    WS c (.Assign [.Name x p] (.Call (.Attribute (.Name y p') "pop" apos') [e] [] cpos') pos) δ E := fun L σ H De N Cm => by
  obtain ⟨v', hσ', l', vs', rfl, hl', hlb', hH', r', z'⟩ := N.rep j _ hj
  refine runS_of (ps_set (i := i) c.nd hN hx (pe_bm PySem.F.plainAttrs_list PySem.F.slot_list_pop PySem.F.type_list_pop mt_popAt (pe_var hN' hv' hd' hcd') (pa_cons pe_run pa_nil he') hbase' hfew' hline' he' rfl) hs hf) ?_
  refine ⟨.ref l', hσ', tyL hH', ?_⟩
  refine h L σ H _ N fun w H1 d s1 r1 ⟨n, k, zd, e1, n0, n1, hk, hz, kk⟩ => ?_
  subst e1
  have N1 := N.mono s1
  have rb := Reps.mono (hide_same s1.k) _ _ r'
  obtain ⟨zv, hzv, rz⟩ := rb.get hz
  have len := rb.len
  have N2 := N1.change hj hσ' hl' hlb' (rb.erase k) (Nat.le_trans (List.length_eraseIdx_le ..) z')
  refine ⟨l', vs', n, k, zv, rfl, by rw [show w = .int n from r1], s1.at _ _ hH', n0, n1, by rw [← len]; exact hk, hzv, ?_⟩
  have hh : hide L (upd H1 l' (.lst (vs'.eraseIdx k))) = hide L H1 := hide_upd hl'
  exact Cm.nx L _ _ _ (N2.set (by rw [hh]; exact rz)) kk
end
theorem De.setPop {f : Fr} {e : Expr} {ta : RdE} {x y : Str} {p p' apos' cpos' pos : Pos} (i j : Nat) (ha : ReE f e ta) (hn : f.N[i]? = some x := by rfl) (hl : tgB f.z f.sc x = true := by (try dsimp only [Fr.blk, Fr.lam]); first | exact tgB_code (by decide +kernel) | decide +kernel) (hn' : f.N[j]? = some y := by rfl) (hv' : visB f.sc y = true := by (try dsimp only [Fr.blk, Fr.lam]); decide +kernel)
    (hs : ∀ X : Cx, swapsWith (.Call (.Attribute (.Name y p') "pop" apos') [e] [] cpos') (some (.Name x p)) pos.line X.env = pure false := by intro _; rfl)
    (hbase' : ∀ X : Cx, attributeBase (.Name y p') "pop" X.env (eval (.Name y p') X.env) = eval (.Name y p') X.env := by intro _; rfl)
    (hfew' : ∀ X : Cx, ((backTo cpos' (starEach [e] X.env)).all (fun x => !x.1) && (backToKw cpos' (keywordEach [] X.env)).all (fun x => x.1.isSome) && decide (([e] : List Expr).length + ([] : List Keyword).length + (if ([] : List Keyword).isEmpty then 0 else 1) < 30)) = true := by intro _; rfl) (he' : ∀ X : Cx, starEach (e :: []) X.env = (false, eval e X.env) :: starEach [] X.env := by intro _; rfl)
    (hline' : (apos'.endLine == cpos'.line) = true := by rfl) :
    ReS f (.Assign [.Name x p] (.Call (.Attribute (.Name y p') "pop" apos') [e] [] cpos') pos) (Rd.setPop i j ta) := .mk fun {X T} c F δ E h => by
  obtain ⟨ys, hj, h⟩ := own_ok h
  refine WS_setPop i j hj ((ha c F δ _ h).mono fun d h1 => ?_) (by rw [F.n]; exact hn) (F.loc (F.tl hl)) (F.fn hl) (by rw [F.n]; exact hn') (F.vis hv') (visB_ok hv').2.1 (visB_ok hv').2.2 (hs X) (hbase' X) (hfew' X) (he' X) hline'
  cases d with
  | int n =>
    obtain ⟨k, z, ⟨n0, n1⟩, hk, hz, kk⟩ := h1
    rw [fc_eq, st_eq, st_eq] at kk
    have hlt := (List.getElem?_eq_some_iff.mp hz).1
    refine ⟨n, k, z, rfl, by omega, by omega, ?_, hz, kk⟩
    have e1 : seqIndex? n ys.length = some n.toNat := by simp [seqIndex?]; omega
    rw [e1, hk]
  | _ => exact h1.elim
end Dl
namespace Dl
open PySem PySem.Spec PyProof.Rows L2
/-! ### tuple(range(..)), list(range(..)) -/
abbrev rgD (a b : Int) : List D := (List.range (b - a).toNat).map fun (k : Nat) => D.int (a + k)
theorem rg_reps {K : PySem.W.Frag} {U : Pu} {H : Hp} (a b : Int) : Reps K U H (rgD a b) (rgV a b) := by
  have e1 : rgD a b = ((List.range (b - a).toNat).map fun (k : Nat) => a + (k : Int)).map D.int := by
    unfold rgD
    rw [List.map_map]
    rfl
  have e2 : rgV a b = ((List.range (b - a).toNat).map fun (k : Nat) => a + (k : Int)).map V.int := by
    unfold rgV
    rw [List.map_map]
    rfl
  rw [e1, e2]
  exact Reps.of_ints _
section
variable {X : Cx} {U : Pu} {lv : Nat} {T : XD} {c : Ct X U lv T} {δ : List (Option D)} {e a b : Expr} {pos p p' pi : Pos}
theorem rg_ok {i j : Int} (h : i ≤ 1000000 ∧ -1000000 ≤ i ∧ j ≤ 1000000 ∧ -1000000 ≤ j) : RgOk i j := ⟨by omega, by omega, by omega, by omega, by omega⟩
theorem rg_len {i j : Int} (h : i ≤ 1000000 ∧ -1000000 ≤ i ∧ j ≤ 1000000 ∧ -1000000 ≤ j) : (rgD i j).length ≤ sizeLine := by
  rw [List.length_map, List.length_range, sizeLine_eq]
  omega
theorem WE_tupR1 {S : D → Prop} (hm : X.mg "tuple" = none) (hm' : X.mg "range" = none) (hg : Gl X "tuple") (hg' : Gl X "range") (h : WE c a δ fun d => ∃ n, d = .int n ∧ (n ≤ 1000000 ∧ -1000000 ≤ n) ∧ S (.tup (rgD 0 n)))
    (na : starEach [a] X.env = (false, eval a X.env) :: starEach [] X.env) (nb : starEach [(.Call (.Name "range" p') [a] [] pi : Expr)] X.env = (false, eval (.Call (.Name "range" p') [a] [] pi) X.env) :: starEach [] X.env) : WE c (.Call (.Name "tuple" pos) [.Call (.Name "range" p') [a] [] pi] [] p) δ S := fun L σ H Q N q =>
  runE_of (pe_tupRg c.calm hg hm (prg_1 hg' hm' pe_run na) nb) (h L σ H _ N fun v H1 d s1 r1 ⟨n, e, hn, k⟩ => by
    subst e
    obtain rfl : v = .int n := r1
    refine ⟨n, rfl, rg_ok (by omega), fun p hp => ?_⟩
    exact q _ _ _ (s1.trans (same_new hp)) ((N.ok.mono s1).tupNew (rg_reps 0 n) (rg_len (by omega)) hp) k)
theorem WF_lstR1 {S : List D → Prop} (hm : X.mg "list" = none) (hm' : X.mg "range" = none) (hg : Gl X "list") (hg' : Gl X "range") (h : WE c a δ fun d => ∃ n, d = .int n ∧ (n ≤ 1000000 ∧ -1000000 ≤ n) ∧ S (rgD 0 n))
    (na : starEach [a] X.env = (false, eval a X.env) :: starEach [] X.env) (nb : starEach [(.Call (.Name "range" p') [a] [] pi : Expr)] X.env = (false, eval (.Call (.Name "range" p') [a] [] pi) X.env) :: starEach [] X.env) : WF c (.Call (.Name "list" pos) [.Call (.Name "range" p') [a] [] pi] [] p) δ S := fun L σ H Q N q =>
  runE_of (pe_listRg c.calm hg hm (prg_1 hg' hm' pe_run na) nb) (h L σ H _ N fun v H1 d s1 r1 ⟨n, e, hn, k⟩ => by
    subst e
    obtain rfl : v = .int n := r1
    refine ⟨n, rfl, rg_ok (by omega), fun p hp => ?_⟩
    exact q p _ _ _ (s1.trans (same_new hp)) (Same.free s1 (.of hp)) upd_same (Reps.mono (hide_cons (.of hp) (new_k hp)) _ _ (rg_reps 0 n)) (rg_len (by omega)) k)
/-- xs[::-1] of a list -/
theorem WE_rev {S : D → Prop} {k : Nat} {p1 p2 p3 : Pos} (h : WE c e δ fun d => ∃ xs, IsL d xs ∧ S (.lst xs.reverse)) : WE c (.Subscript e (.Slice none none (some (.UnaryOp .USub (.Constant (.int 1) k p1) p2)) p3) pos) δ S := fun L σ H Q N q =>
  runE_of (pe_revL pe_run) (h L σ H _ N fun v H1 d s1 r1 ⟨xs, sx, z⟩ => by
    obtain ⟨a, vs, rfl, ha, ra, za⟩ := sx.rep r1
    exact ⟨a, vs, rfl, SqL.of ha, fun p hp => q _ _ _ (s1.trans (same_new hp)) ((N.ok.mono s1).lstNew ra.rev (by rw [List.length_reverse]; exact za) hp) z⟩)
end
namespace Rd
def rgI (A : Int → Prop) (d : D) : Prop := match d with
  | .int n => (n ≤ 1000000 ∧ -1000000 ≤ n) ∧ A n
  | _ => False
def tupR1 (a : RdE) : RdE := fun T δ S => a T δ (rgI fun n => S (.tup (rgD 0 n)))
def lstR1 (a : RdE) : RdA := fun T δ S => a T δ (rgI fun n => S (rgD 0 n))
def revD (S : D → Prop) (x : D) : Prop := match x with
  | .lst xs => S (.lst xs.reverse)
  | .own xs => S (.lst xs.reverse)
  | _ => False
def rev (a : RdE) : RdE := fun T δ S => a T δ (revD S)
end Rd
namespace De
section
variable {f : Fr} {a : Expr} {pos p p' pi : Pos} {ta : RdE}
theorem tupR1 (hb : Blt f.mg) (ha : ReE f a ta) (hg : glbB f.sc "tuple" = true := by (try dsimp only [Fr.blk, Fr.lam]); decide +kernel) (hg2 : glbB f.sc "range" = true := by (try dsimp only [Fr.blk, Fr.lam]); decide +kernel) (na : ∀ X : Cx, starEach [a] X.env = (false, eval a X.env) :: starEach [] X.env := by intro _; rfl)
    (nb : ∀ X : Cx, starEach [(.Call (.Name "range" p') [a] [] pi : Expr)] X.env = (false, eval (.Call (.Name "range" p') [a] [] pi) X.env) :: starEach [] X.env := by intro _; rfl) : ReE f (.Call (.Name "tuple" pos) [.Call (.Name "range" p') [a] [] pi] [] p) (Rd.tupR1 ta) := .mk fun {X T} c F δ S h =>
  WE_tupR1 (by rw [F.m]; exact hb.tuple) (by rw [F.m]; exact hb.range) (F.gl hg) (F.gl hg2) ((ha c F δ _ h).mono fun d k => by
    cases d with
    | int n => exact ⟨n, rfl, k.1, k.2⟩
    | _ => exact k.elim) (na X) (nb X)
theorem lstR1 (hb : Blt f.mg) (ha : ReE f a ta) (hg : glbB f.sc "list" = true := by (try dsimp only [Fr.blk, Fr.lam]); decide +kernel) (hg2 : glbB f.sc "range" = true := by (try dsimp only [Fr.blk, Fr.lam]); decide +kernel) (na : ∀ X : Cx, starEach [a] X.env = (false, eval a X.env) :: starEach [] X.env := by intro _; rfl)
    (nb : ∀ X : Cx, starEach [(.Call (.Name "range" p') [a] [] pi : Expr)] X.env = (false, eval (.Call (.Name "range" p') [a] [] pi) X.env) :: starEach [] X.env := by intro _; rfl) : ReF f (.Call (.Name "list" pos) [.Call (.Name "range" p') [a] [] pi] [] p) (Rd.lstR1 ta) := .mk fun {X T} c F δ S h =>
  WF_lstR1 (by rw [F.m]; exact hb.list) (by rw [F.m]; exact hb.range) (F.gl hg) (F.gl hg2) ((ha c F δ _ h).mono fun d k => by
    cases d with
    | int n => exact ⟨n, rfl, k.1, k.2⟩
    | _ => exact k.elim) (na X) (nb X)
theorem rev {k : Nat} {p1 p2 p3 : Pos} (ha : ReE f a ta) : ReE f (.Subscript a (.Slice none none (some (.UnaryOp .USub (.Constant (.int 1) k p1) p2)) p3) pos) (Rd.rev ta) := .mk fun {X T} c F δ S h => WE_rev ((ha c F δ _ h).mono fun d k => by
  cases d with
  | lst xs => exact ⟨xs, .lst xs, k⟩
  | own xs => exact ⟨xs, .own xs, k⟩
  | _ => exact k.elim)
end
end De
end Dl
namespace Dl
open PySem PySem.Spec PyProof.Rows L2
namespace Rd
/-- a, b = x, [..]: the second one a list of one's own -/
def par2EF (i j : Nat) (a : RdE) (b : RdA) : RdS := fun T δ E => a T δ fun d1 => stP d1 (b T δ fun es => fc (st (st δ i (some d1)) j (some (.own es))) E.nx)
def par2FE (i j : Nat) (a : RdA) (b : RdE) : RdS := fun T δ E => a T δ fun es => b T δ fun d1 => stP d1 (fc (st (st δ i (some (.own es))) j (some d1)) E.nx)
end Rd
namespace De
section
variable {f : Fr} {e a b : Expr} {pos p : Pos} {x y : Str} {ta tb : RdE} {fa fb : RdA} {px py pt : Pos} {kt k2 pt2}
theorem par2EF (i j : Nat) (ha : ReE f a ta) (hb : ReF f b fb) (hi : f.N[i]? = some x := by rfl) (hj : f.N[j]? = some y := by rfl) (hij : i ≠ j := by decide) (hx : f.sc.names.lookup x = some .local := by (try dsimp only [Fr.blk, Fr.lam]); decide +kernel) (hy : f.sc.names.lookup y = some .local := by (try dsimp only [Fr.blk, Fr.lam]); decide +kernel)
    (hw : swappedStores [.Tuple [.Name x px, .Name y py] kt pt] (.Tuple [a, b] k2 pt2) { scope := f.sc, locals := 0, globals := 0, cells := [] } = pure (some [x, y]) := by rfl)
    (hs : ∀ X : Cx, swapsWithSole [.Tuple [.Name x px, .Name y py] kt pt] (.Tuple [a, b] k2 pt2) pos.line X.env = pure false := by intro _; rfl) (s1 : ∀ X : Cx, starEach (a :: [b]) X.env = (false, eval a X.env) :: starEach [b] X.env := by intro _; rfl) (s2 : ∀ X : Cx, starEach (b :: []) X.env = (false, eval b X.env) :: starEach [] X.env := by intro _; rfl) :
    ReS f (.Assign [.Tuple [.Name x px, .Name y py] kt pt] (.Tuple [a, b] k2 pt2) pos) (Rd.par2EF i j ta fb) := .mk fun {X T} c F δ E h =>
  WS_par i j (WO_of ((ha c F δ _ h).mono fun d1 h1 => by
    obtain ⟨e1, h1⟩ := stP_ok h1
    exact ⟨e1, WO_new fun L σ H Q N q => hb c F δ _ h1 L σ H Q N fun l H' vs ds s g1 g2 g3 g4 g5 => q l H' vs ds s g1 g2 g3 g4 (by rw [fc_eq, st_eq, st_eq] at g5; exact g5)⟩)) (by rw [F.n]; exact hi) (by rw [F.n]; exact hj) hij (by rw [F.s]; exact hx) (by rw [F.s]; exact hy) (swapped_at F.s _ _ hw) (hs X) (s1 X) (s2 X)
theorem par2FE (i j : Nat) (ha : ReF f a fa) (hb : ReE f b tb) (hi : f.N[i]? = some x := by rfl) (hj : f.N[j]? = some y := by rfl) (hij : i ≠ j := by decide) (hx : f.sc.names.lookup x = some .local := by (try dsimp only [Fr.blk, Fr.lam]); decide +kernel) (hy : f.sc.names.lookup y = some .local := by (try dsimp only [Fr.blk, Fr.lam]); decide +kernel)
    (hw : swappedStores [.Tuple [.Name x px, .Name y py] kt pt] (.Tuple [a, b] k2 pt2) { scope := f.sc, locals := 0, globals := 0, cells := [] } = pure (some [x, y]) := by rfl)
    (hs : ∀ X : Cx, swapsWithSole [.Tuple [.Name x px, .Name y py] kt pt] (.Tuple [a, b] k2 pt2) pos.line X.env = pure false := by intro _; rfl) (s1 : ∀ X : Cx, starEach (a :: [b]) X.env = (false, eval a X.env) :: starEach [b] X.env := by intro _; rfl) (s2 : ∀ X : Cx, starEach (b :: []) X.env = (false, eval b X.env) :: starEach [] X.env := by intro _; rfl) :
    ReS f (.Assign [.Tuple [.Name x px, .Name y py] kt pt] (.Tuple [a, b] k2 pt2) pos) (Rd.par2FE i j fa tb) := .mk fun {X T} c F δ E h =>
  WS_par i j (WO_new fun L σ H Q N q => ha c F δ _ h L σ H Q N fun l H' vs ds s g1 g2 g3 g4 g5 => q l H' vs ds s g1 g2 g3 g4 (WO_of ((hb c F δ _ g5).mono fun d1 h1 => by
    obtain ⟨e1, h1⟩ := stP_ok h1
    rw [fc_eq, st_eq, st_eq] at h1
    exact ⟨e1, h1⟩))) (by rw [F.n]; exact hi) (by rw [F.n]; exact hj) hij (by rw [F.s]; exact hx) (by rw [F.s]; exact hy) (swapped_at F.s _ _ hw) (hs X) (s1 X) (s2 X)
end
end De
end Dl
namespace Dl
open PySem PySem.Spec PyProof.Rows L2
section
variable {X : Cx} {U : Pu} {lv : Nat} {T : XD} {c : Ct X U lv T} {δ : List (Option D)} {e a b : Expr} {pos p : Pos}
/-- [..] * n, a new list -/
theorem WF_rep {S : List D → Prop} (h : WE c a δ fun x => WE c b δ fun y => ∃ xs n, IsL x xs ∧ y = .int n ∧ -(2 ^ 63) ≤ n ∧ n < 2 ^ 63 ∧ xs.length * n.toNat ≤ sizeLine ∧ S (List.replicate n.toNat xs).flatten) : WF c (.BinOp a .Mult b pos) δ S := fun L σ H Q N q =>
  runE_of (pe_op op_rep pe_run pe_run) (h L σ H _ N fun v H1 x s1 r1 h1 => h1 L σ H1 _ (N.mono s1) fun u H2 y s2 r2 ⟨xs, n, sx, e, n0, n1, hz, k⟩ => by
    subst e
    obtain ⟨a', vs, rfl, ha, ra, za⟩ := sx.rep (r1.mono s2)
    refine ⟨a', n, vs, rfl, r2, ha, n0, n1, by rw [← ra.len]; exact hz, fun p hp => ?_⟩
    exact q p _ _ _ ((s1.trans s2).trans (same_new hp)) (Same.free (s1.trans s2) (.of hp)) upd_same (Reps.mono (hide_cons (.of hp) (new_k hp)) _ _ (ra.flat _)) (by rw [flat_len]; exact hz) k)
end
namespace Rd
def repF' (xs : List D) (A : List D → Prop) (y : D) : Prop := match y with
  | .int n => (-1000000 ≤ n ∧ n ≤ 1000000 ∧ xs.length ≤ 1) ∧ A (repT n.toNat xs)
  | _ => False
def repFx (T : RdE) (X : XD) (δ : List (Option D)) (A : List D → Prop) (x : D) : Prop := match x with
  | .lst xs => T X δ (repF' xs A)
  | _ => False
/-- [x] * n as a list of one's own -/
def repF (a b : RdE) : RdA := fun T δ S => a T δ (repFx b T δ S)
end Rd
theorem De.repF {f : Fr} {a b : Expr} {ta tb : RdE} {pos : Pos} (ha : ReE f a ta) (hb : ReE f b tb) : ReF f (.BinOp a .Mult b pos) (Rd.repF ta tb) := .mk fun {X T} c F δ S h => WF_rep ((ha c F δ _ h).mono fun x h1 => by
  cases x with
  | lst xs =>
    refine (hb c F δ _ h1).mono fun y h2 => ?_
    cases y with
    | int n =>
      obtain ⟨⟨n0, n1, hl⟩, k⟩ := h2
      rw [repT_eq] at k
      refine ⟨xs, n, .lst xs, rfl, by omega, by omega, ?_, k⟩
      have : xs.length * n.toNat ≤ 1 * 1000000 := Nat.mul_le_mul hl (by omega)
      rw [sizeLine_eq]
      omega
    | _ => exact h2.elim
  | _ => exact h1.elim)
end Dl
namespace Dl
open PySem PySem.Spec PyProof.Rows L2
theorem pys_any (x : D) (n m : Nat) (fx : fit n x = true) : ∀ ys : List D, fits m ys = true → ((pys ys).any fun z => PyData.eqv z x.py) = ys.any fun e => e.eqv x
  | [], _ => by simp [pys]
  | y :: ys, h => by
    simp only [fits, Bool.and_eq_true] at h
    simp only [pys, List.any_cons]
    rw [pys_any x n m fx ys h.2, eqv_py m n y x h.1 fx]
section
variable {X : Cx} {U : Pu} {lv : Nat} {T : XD} {c : Ct X U lv T} {S : D → Prop}
theorem units65 (c : Ct X U lv T) : X.A.units + 65 < cLine := by have := c.room.un; omega
/-- x in ys, data of any depth -/
theorem OD_inD {x y : D} {ys : List D} (sy : IsL y ys) (fx : fit 64 x = true) (fy : fit 64 y = true) (h : S (.bl (ys.any fun e => e.eqv x))) : OD c (compareOp .In) x y S := od_of (op_inD (units65 c)) fun L H vx vy Q k rx ry q => by
  have hy := ry.dp fy
  have e : y.py = .list (pys ys) ∧ fits 63 ys = true := by
    cases sy with
    | lst ys => exact ⟨by simp [D.py], by simpa [fit] using fy⟩
    | own ys => exact ⟨by simp [D.py], by simpa [fit] using fy⟩
  have sh := fit_shaped fy
  rw [e.1] at hy sh
  refine ⟨x.py, pys ys, rx.dp fx, hy, fit_shaped fx, sh, ?_⟩
  rw [pys_any x 64 63 fx ys e.2]
  exact q _ H (.bl _) (Same.refl H) rfl h
theorem OD_ninD {x y : D} {ys : List D} (sy : IsL y ys) (fx : fit 64 x = true) (fy : fit 64 y = true) (h : S (.bl (!ys.any fun e => e.eqv x))) : OD c (compareOp .NotIn) x y S := od_of (op_notInD (units65 c)) fun L H vx vy Q k rx ry q => by
  have hy := ry.dp fy
  have e : y.py = .list (pys ys) ∧ fits 63 ys = true := by
    cases sy with
    | lst ys => exact ⟨by simp [D.py], by simpa [fit] using fy⟩
    | own ys => exact ⟨by simp [D.py], by simpa [fit] using fy⟩
  have sh := fit_shaped fy
  rw [e.1] at hy sh
  refine ⟨x.py, pys ys, rx.dp fx, hy, fit_shaped fx, sh, ?_⟩
  rw [pys_any x 64 63 fx ys e.2]
  exact q _ H (.bl _) (Same.refl H) rfl h
end
namespace Op
def isinD : RdOp := fun _ x y S => match y with
  | .lst ys => (fit 64 x = true ∧ fit 64 (.lst ys) = true) ∧ S (.bl (ys.any fun e => e.eqv x))
  | .own ys => (fit 64 x = true ∧ fit 64 (.own ys) = true) ∧ S (.bl (ys.any fun e => e.eqv x))
  | _ => False
def ninD : RdOp := fun _ x y S => match y with
  | .lst ys => (fit 64 x = true ∧ fit 64 (.lst ys) = true) ∧ S (.bl (!ys.any fun e => e.eqv x))
  | .own ys => (fit 64 x = true ∧ fit 64 (.own ys) = true) ∧ S (.bl (!ys.any fun e => e.eqv x))
  | _ => False
end Op
theorem De.o_isinD {f : Fr} : OpAt f (compareOp .In) Op.isinD := fun {X T} c _ {S x y} h => by
  unfold Op.isinD at h
  split at h
  · exact OD_inD (.lst _) h.1.1 h.1.2 h.2
  · exact OD_inD (.own _) h.1.1 h.1.2 h.2
  · exact h.elim
theorem De.o_ninD {f : Fr} : OpAt f (compareOp .NotIn) Op.ninD := fun {X T} c _ {S x y} h => by
  unfold Op.ninD at h
  split at h
  · exact OD_ninD (.lst _) h.1.1 h.1.2 h.2
  · exact OD_ninD (.own _) h.1.1 h.1.2 h.2
  · exact h.elim
/-- ahead of this statement all lists cease to be one's own: x = xs -/
def Rd.frzS (t : RdS) : RdS := fun T δ E => fc (fz δ) fun δ' => t T δ' E
theorem De.frzS {f : Fr} {st : Stmt} {t : RdS} (h : ReS f st t) : ReS f st (Rd.frzS t) := .mk fun c F δ E k => fun L σ H D N C => h c F _ E (by
  have k : fc (fz δ) fun δ' => t _ δ' E := k
  rw [fc_eq, fz_eq] at k
  exact k) c.Lb σ H D N.frz C
/-! xs = [.. for ..] where xs is a cell (a name that a comprehension uses) -/
theorem sw_cell {elt : Expr} {gs : List Comprehension} {scope : Scope} {pos py : Pos} {y : Str} {l : Nat} {env : Env} (hy : (env.scope.names.lookup y == some .local) = false) : swapsWith (.ListComp elt gs scope pos) (some (.Name y py)) l env = pure false := by
  unfold swapsWith Env.kindOf
  simp [hy]
section
variable {f : Fr} {x : Str} {ta : RdE} {elt : Expr} {gs : List Comprehension} {scope : Scope} {p p' pos : Pos}
theorem De.setC (i : Nat) (ha : ReE f (.ListComp elt gs scope p) ta) (hn : f.N[i]? = some x := by rfl) (hl : tgB f.z f.sc x = true := by (try dsimp only [Fr.blk, Fr.lam]); first | exact tgB_code (by decide +kernel) | decide +kernel) (hc : (f.sc.names.lookup x == some .local) = false := by (try dsimp only [Fr.blk, Fr.lam]); decide +kernel) : ReS f (.Assign [.Name x p'] (.ListComp elt gs scope p) pos) (Rd.set i ta) := .mk fun {X T} c F δ E h =>
  WS_set i (WO_of ((ha c F δ _ h).mono fun d h1 => by
    rw [fc_eq, st_eq] at h1
    exact stP_ok h1)) (by rw [F.n]; exact hn) (F.loc (F.tl hl)) (sw_cell (by rw [F.s]; exact hc)) (F.fn hl)
theorem De.setFC {tf : RdA} (i : Nat) (ha : ReF f (.ListComp elt gs scope p) tf) (hn : f.N[i]? = some x := by rfl) (hl : tgB f.z f.sc x = true := by (try dsimp only [Fr.blk, Fr.lam]); first | exact tgB_code (by decide +kernel) | decide +kernel) (hc : (f.sc.names.lookup x == some .local) = false := by (try dsimp only [Fr.blk, Fr.lam]); decide +kernel) : ReS f (.Assign [.Name x p'] (.ListComp elt gs scope p) pos) (Rd.setF i tf) := .mk fun {X T} c F δ E h =>
  WS_set i (WO_new (fun L σ H Q N q => ha c F δ _ h L σ H Q N fun l H' vs ds s h1 h2 h3 h4 h5 => q l H' vs ds s h1 h2 h3 h4 (by rw [fc_eq, st_eq] at h5; exact h5))) (by rw [F.n]; exact hn) (F.loc (F.tl hl)) (sw_cell (by rw [F.s]; exact hc)) (F.fn hl)
end
end Dl

set_option maxRecDepth 100000
set_option maxHeartbeats 4000000
/-! # Texts; x in a tuple of deep data -/
namespace Dl
open PySem PySem.Spec PyProof.Rows L2
/-! ### x in ys, ys a tuple -/
def rInT (K : PySem.W.Frag) : R2 := fun x y H Q => ∃ d ds, Dp K H x d ∧ Dp K H y (.tuple ds) ∧ SeqAt.shaped d = true ∧ SeqAt.shaped (.tuple ds) = true ∧ Q (.bl (ds.any fun z => PyData.eqv z d)) H
theorem room_inT {X : Cx} {d : PyData} {ds : List PyData} (h : SeqAt.shaped d = true) (hu : X.A.units + 65 < cLine) : X.A.units + 1 + min (PyData.depthAll ds) d.depth < cLine := room_in_shaped h hu
theorem op_inT {X : Cx} (hu : X.A.units + 65 < cLine) : OpR X (compareOp .In) (rInT X.K) := fun pins s σ H x y v u Q I rx ry h => by
  obtain ⟨d, ds, hd, he, sd, se, q⟩ := h
  obtain ⟨as, r1⟩ := Dp.reads I d x v hd rx
  obtain ⟨bs, r2⟩ := Dp.reads I (.tuple ds) y u he ry
  exact SeqAt.in_tuple_reads r2 r1 (SeqAt.canLay_of_shaped se) (SeqAt.canLay_of_shaped sd) (room_inT sd hu) ⟨.bl _, H, I, rfl, q⟩
/-! ### s * n -/
def repS (n : Int) (x : Str) : Str := if n < 1 then Str.empty else if (n == 1 || x.length == 0) = true then x else ⟨(List.replicate n.toNat x.cps).foldl (· ++ ·) #[]⟩
theorem size_fold {α : Type} (a : Array α) : ∀ (k : Nat) (b : Array α), ((List.replicate k a).foldl (· ++ ·) b).size = b.size + k * a.size
  | 0, b => by simp
  | k + 1, b => by
    rw [List.replicate_succ, List.foldl_cons, size_fold a k, Array.size_append, Nat.succ_mul]
    omega
theorem op_mulS {X : Cx} : OpR X (binaryOp .Mult) (fun x y H Q => ∃ z n, x = .str z ∧ y = .int n ∧ -1000 ≤ n ∧ n ≤ 1000 ∧ z.length ≤ 1000 ∧ Q (.str (repS n z)) H) := fun pins s σ H x y v u Q I rx ry h => by
  obtain ⟨z, n, rfl, rfl, h0, h1, hz, q⟩ := h
  obtain ⟨t, rfl⟩ := rx
  obtain ⟨t', rfl⟩ := ry
  have l1 : (decide (n < -(2 ^ 63 : Int)) || decide (n ≥ 2 ^ 63)) = false := by
    rw [decide_eq_false (by omega), decide_eq_false (by omega)]
    rfl
  refine P.mul_str l1 (fun h _ z => ?_) (fun h _ => ?_) ?_
  · have h2 : (2 ^ 63 - 1 : Int) / n ≥ 1001 := by
      refine Int.le_ediv_of_mul_le (by omega) ?_
      have : (1001 : Int) * n ≤ 1001 * 1000 := Int.mul_le_mul_of_nonneg_left h1 (by omega)
      omega
    omega
  · have h3 : z.length * n.toNat ≤ 1000 * 1000 := Nat.mul_le_mul hz (by omega)
    have h4 := sizeLine_eq
    unfold Builtin.Str.tooLong
    simp
    omega
  · unfold repS at q
    split
    · rename_i g
      rw [if_pos g] at q
      exact ⟨by decide, ⟨.str _, H, I.tok _, ⟨_, rfl⟩, q⟩⟩
    · rename_i g
      rw [if_neg g] at q
      split
      · rename_i g2
        rw [if_pos g2] at q
        exact ⟨.str z, H, I, ⟨_, rfl⟩, q⟩
      · rename_i g2
        rw [if_neg g2] at q
        refine ⟨?_, ⟨.str _, H, I.tok _, ⟨_, rfl⟩, q⟩⟩
        have h4 := sizeLine_eq
        have h5 := size_fold z.cps n.toNat #[]
        have h6 : n.toNat * z.cps.size ≤ 1000 * 1000 := Nat.mul_le_mul (by omega) hz
        show ((List.replicate n.toNat z.cps).foldl (· ++ ·) #[]).size ≤ sizeLine
        rw [h5]
        simp
        omega
section
variable {X : Cx} {U : Pu} {lv : Nat} {T : XD} {c : Ct X U lv T} {S : D → Prop}
theorem OD_inT {x : D} {ys : List D} (fx : fit 64 x = true) (fy : fit 64 (.tup ys) = true) (h : S (.bl (ys.any fun e => e.eqv x))) : OD c (compareOp .In) x (.tup ys) S := od_of (op_inT (units65 c)) fun L H vx vy Q k rx ry q => by
  have hy := ry.dp fy
  have e : (D.tup ys).py = .tuple (pys ys) ∧ fits 63 ys = true := ⟨by simp [D.py], by simpa [fit] using fy⟩
  have sh := fit_shaped fy
  rw [e.1] at hy sh
  refine ⟨x.py, pys ys, rx.dp fx, hy, fit_shaped fx, sh, ?_⟩
  rw [pys_any x 64 63 fx ys e.2]
  exact q _ H (.bl _) (Same.refl H) rfl h
theorem OD_inS {a b : Str} (h : S (.bl (!(Builtin.Str.occurrences b a 0 b.length 1).isEmpty))) : OD c (compareOp .In) (.str a) (.str b) S := od_of op_in_str fun L H vx vy Q k rx ry q => ⟨a, b, rx, ry, q _ H (.bl _) (Same.refl H) rfl h⟩
theorem OD_mulS {z : Str} {n : Int} (h0 : -1000 ≤ n ∧ n ≤ 1000 ∧ z.length ≤ 1000) (h : S (.str (repS n z))) : OD c (binaryOp .Mult) (.str z) (.int n) S := od_of op_mulS fun L H vx vy Q k rx ry q => ⟨z, n, rx, ry, h0.1, h0.2.1, h0.2.2, q _ H (.str _) (Same.refl H) rfl h⟩
end
namespace Op
def isinT : RdOp := fun _ x y S => match y with
  | .tup ys => (fit 64 x = true ∧ fit 64 (.tup ys) = true) ∧ S (.bl (ys.any fun e => e.eqv x))
  | _ => False
def isinS : RdOp := fun _ x y S => match x, y with
  | .str a, .str b => S (.bl (!(Builtin.Str.occurrences b a 0 b.length 1).isEmpty))
  | _, _ => False
def mulS : RdOp := fun _ x y S => match x, y with
  | .str z, .int n => (-1000 ≤ n ∧ n ≤ 1000 ∧ z.length ≤ 1000) ∧ S (.str (repS n z))
  | _, _ => False
end Op
theorem De.o_isinT {f : Fr} : OpAt f (compareOp .In) Op.isinT := fun {X T} c _ {S x y} h => by
  unfold Op.isinT at h
  split at h
  · exact OD_inT h.1.1 h.1.2 h.2
  · exact h.elim
theorem De.o_isinS {f : Fr} : OpAt f (compareOp .In) Op.isinS := fun {X T} c _ {S x y} h => by
  unfold Op.isinS at h
  split at h
  · exact OD_inS h
  · exact h.elim
theorem De.o_mulS {f : Fr} : OpAt f (binaryOp .Mult) Op.mulS := fun {X T} c _ {S x y} h => by
  unfold Op.mulS at h
  split at h
  · exact OD_mulS h.1 h.2
  · exact h.elim
/-! ### the signs of a text -/
def chD (z : Str) : List D := z.cps.toList.map fun k => D.str ⟨#[k]⟩
theorem chD_len (z : Str) : (chD z).length = z.cps.size := by simp [chD]
theorem walk_s {K : PySem.W.Frag} {U : Pu} {L : List Addr} {H B : Hp} {z : Str} (hz : z.length ≤ sizeLine) : Walk K U L H B (Its z) (chD z) :=
  ⟨by rw [chD_len]; exact hz, fun i H2 e hi => by rw [chD_len] at hi; exact hi, fun H2 e => by rw [chD_len]; exact Nat.le_refl _, fun i x H2 H3 e hi y => by
    obtain ⟨rfl, k, h1, rfl⟩ := y
    refine ⟨Ext.refl _, .str ⟨#[k]⟩, ?_, rfl, fun L' _ s => rfl⟩
    unfold chD
    rw [List.getElem?_map, Array.getElem?_toList, h1]
    rfl⟩
/-- a text at the value: its signs, numbered -/
def IteS (x : Str) : It :=
  ⟨fun i _ => i < x.cps.size, fun i H r H' => ∃ T k, r = .ref T ∧ H T = none ∧ H' = upd H T (.tup [.int (i : Nat), .str ⟨#[k]⟩]) ∧ x.cps[i]? = some k, fun i _ => x.cps.size = i⟩
theorem turnEnumS {P : Program} {w : World} {K : PySem.W.Frag} {elts : List Expr} {kk : Nat} {tp : Pos} (x : Str) (tt : Tok) (e j : Addr) :
    Turn P w K (.Tuple elts kk tp) (IteS x) [e, j] e (fun i h => (∃ old, IsEnum h e j ((i : Nat) : Int) old) ∧ h.IsStrIter j (strIterType x) x tt i ∧ e ≠ j) where
  mem := by simp
  obj := fun i h ⟨⟨old, isE⟩, ⟨o, o1, _, o3⟩, _⟩ b hb => by
    have cs : b = e ∨ b = j := by simpa using hb
    rcases cs with rfl | rfl
    · exact ⟨_, isE, fun v q => nomatch q⟩
    · exact ⟨o, o1, fun v q => by rw [o3] at q; cases q⟩
  keep := fun i h h' ⟨⟨old, isE⟩, ⟨o, o1, o2, o3⟩, ne⟩ kp => ⟨⟨old, kp e (by simp) _ isE⟩, ⟨o, kp j (by simp) o o1, o2, o3⟩, ne⟩
  item := by
    intro X hP hw hK hc i pins s σ H E I hf st hg
    subst hP hw hK
    obtain ⟨⟨old, isE⟩, hj, ne1⟩ := st
    have le : e < s.heap.objs.size := Heap.lt_size isE
    have lj : j < s.heap.objs.size := by obtain ⟨_, q, _⟩ := hj; exact Heap.lt_size q
    refine wpAny_pyNext_enum_itemD (Draws.text (A := X.A.in1) (I.ok.hd hc) j x tt) isE hj hg ne1 (by simp [ne1]) fun v h' tk hx isO st' hT hsz hk => ?_
    obtain ⟨k, u, hk1, rfl⟩ := hx
    refine ⟨_, rfl, wpAny_letOwnedTupleGo_enum (s := { s with heap := h', toks := tk + 1 }) isO fun h'' isE' sb => ?_⟩
    have hT2 : h''.get? s.heap.objs.size = some { cls := .type "tuple", data := .seq #[.int i tk, .str ⟨#[k]⟩ u] } := (sb.2 _ (Nat.ne_of_gt le)).trans hT
    have new : ObjOk X.prog X.w (upd H s.heap.objs.size (.tup [.int (i : Nat), .str ⟨#[k]⟩])) h'' s.heap.objs.size (.tup [.int (i : Nat), .str ⟨#[k]⟩]) := ⟨by show 2 ≤ sizeLine; decide, [.int i tk, .str ⟨#[k]⟩ u], .cons ⟨_, rfl⟩ (.cons ⟨_, rfl⟩ .nil), ⟨_, hT2, rfl, _, rfl⟩⟩
    have I1 : Inv X pins σ (upd H s.heap.objs.size (.tup [.int (i : Nat), .str ⟨#[k]⟩])) { s with heap := h'', toks := tk + 1 } := I.turnedNew (ch := [e, j]) (fun b ob hb q => (sb.2 b (fun z => hb (by simp [z]))).trans (hk b ob (fun z => hb (by simp [z])) (fun z => hb (by simp [z])) q)) hf (Nat.le_refl _) new
    refine ⟨.ref s.heap.objs.size, _, I1, rfl, ⟨_, k, rfl, I.hok.fresh (Nat.le_refl _), rfl, hk1⟩, ⟨⟨.str ⟨#[k]⟩ u, ?_⟩, ?_, ne1⟩, fun b hb => ?_⟩
    · have e1 : ((i + 1 : Nat) : Int) = (i : Int) + 1 := by omega
      rw [e1]
      exact isE'
    · obtain ⟨o, o1, o2, o3⟩ := st'
      exact ⟨o, (sb.2 j (Ne.symm ne1)).trans o1, o2, o3⟩
    · have cs : b = e ∨ b = j := by simpa using hb
      have lb : b < s.heap.objs.size := by rcases cs with rfl | rfl <;> assumption
      rw [upd_ne (Nat.ne_of_lt lb)]
      exact (hf b hb).1
  done := by
    intro X hP hw hK hc i pins s σ H E I hf st hg
    subst hP hw hK
    obtain ⟨⟨old, isE⟩, hj, ne1⟩ := st
    obtain ⟨f0, f1, f2, f3, f4, f5⟩ := hf j (by simp)
    obtain rfl : x.cps.size = i := hg
    exact wpAny_pyNext_enum_endD (Draws.text (A := X.A.in1) (I.ok.hd hc) j x tt) isE hj fun h' eb => ⟨rfl, I.turned (t' := s.toks) (fun b o hb q => eb b o hb q) f0 f1 f3 f4 f5⟩
  self := fun A i s Q E ⟨⟨_, isE⟩, _⟩ h => wpAny_pyIter_enum isE h
def iEnumS (ta : TA) : TI := fun σ H R => ta σ H fun vs H1 => ∃ x, vs = [.str x] ∧ R (IteS x) H1
theorem piEnumS {X : Cx} {e : Expr} {ta : TA} {p pos tp : Pos} {elts : List Expr} {kk : Nat} (hg : Gl X "enumerate") (hm : X.mg "enumerate" = none) (ha : PA X [e] ta) (hs : starEach [e] X.env = [(false, eval e X.env)]) :
    PI X (.Tuple elts kk tp) (.Call (.Name "enumerate" p) [e] [] pos) (iEnumS ta) := by
  refine ⟨fun pins s σ H R I h => ?_⟩
  refine Call_ (ld_blt I hg hm boot_enumerate (PyProof.Rows.callWith_type1 (thn (ha.run pos pins s σ H _ I h) fun us s1 ⟨vs, H1, I1, r1, x, ex, q⟩ => ?_) hs rfl))
  subst ex
  cases r1 with
  | cons r rr =>
    cases rr
    obtain ⟨tt, rfl⟩ := r
    refine enumBegins (begins_text x tt) trivial fun h' isE hj hsz hk => wpAny_pyIter_enum isE ?_
    have I2 : Inv X pins σ H1 { s1 with heap := h' } := I1.kept (t' := s1.toks) hk
    refine ⟨s1.heap.objs.size + 1, [s1.heap.objs.size + 1, s1.heap.objs.size], _, _, H1, rfl, I2, turnEnumS x tt (s1.heap.objs.size + 1) s1.heap.objs.size, ⟨⟨.none, isE⟩, ⟨_, hj, rfl, rfl⟩, Nat.succ_ne_self _⟩, fun b hb => ?_, q⟩
    have cs : b = s1.heap.objs.size + 1 ∨ b = s1.heap.objs.size := by simpa using hb
    have le : s1.heap.objs.size ≤ b := by
      rcases cs with rfl | rfl
      · exact Nat.le_succ _
      · exact Nat.le_refl _
    exact I1.fpOk le (I1.hok.fresh le)
theorem walk_es {K : PySem.W.Frag} {U : Pu} {L : List Addr} {H B : Hp} {z : Str} (hz : z.length ≤ sizeLine) : Walk K U L H B (IteS z) (numbered (chD z)) := by
  refine ⟨by rw [numbered_len, chD_len]; exact hz, fun i H2 e hi => ?_, fun H2 e => ?_, fun i x H2 H3 e hi y => ?_⟩
  · rw [numbered_len, chD_len] at hi
    exact hi
  · rw [numbered_len, chD_len]
    rfl
  · obtain ⟨T, k, rfl, hT, rfl, h1⟩ := y
    have g1 : (chD z)[i]? = some (.str ⟨#[k]⟩) := by
      unfold chD
      rw [List.getElem?_map, Array.getElem?_toList, h1]
      rfl
    exact ⟨new_ext hT, .tup [.int (i : Nat), .str ⟨#[k]⟩], numbered_get g1, rfl, fun L' hl s => pair_rep hT hl s (d := .int (i : Nat)) rfl rfl⟩
/-! ### readings -/
namespace Rd
def strD (S : List D → Prop) (x : D) : Prop := match x with
  | .str z => z.length ≤ sizeLine ∧ S (chD z)
  | _ => False
def strJ (a : RdE) : RdA := fun T δ S => a T δ (strD S)
def enumSD (S : List D → Prop) (x : D) : Prop := match x with
  | .str z => z.length ≤ sizeLine ∧ S (numbered (chD z))
  | _ => False
def enumS (a : RdE) : RdA := fun T δ S => a T δ (enumSD S)
def ixSD (S : D → Prop) (x y : D) : Prop := match x, y with
  | .str z, .int i => ∃ k, (0 ≤ i ∧ i < z.length ∧ i < 1000000) ∧ z.cps[i.toNat]? = some k ∧ S (.str ⟨#[k]⟩)
  | _, _ => False
def ixS (a b : RdE) : RdE := fun T δ S => a T δ fun x => b T δ fun y => ixSD S x y
end Rd
namespace De
section
variable {f : Fr} {a b e : Expr} {es : List Expr} {ta tb : RdE} {p pos : Pos}
theorem strJ {tg : Expr} (ha : ReE f a ta) : ReJ f tg a (Rd.strJ ta) := .mk fun c F δ S h => fun L σ H R E q =>
  runI_of (pi_str pe_run) (ha c F δ _ h L σ H _ E fun v H1 d s1 r1 h1 => by
    cases d with
    | str z =>
      obtain rfl : v = .str z := r1
      exact ⟨z, rfl, q _ H1 (chD z) s1 (walk_s h1.1) h1.2⟩
    | _ => exact False.elim h1)
theorem enumS {elts : List Expr} {kk : Nat} {tpos : Pos} (hm : f.mg "enumerate" = none) (ha : ReE f a ta) (hg : glbB f.sc "enumerate" = true := by (try dsimp only [Fr.blk, Fr.lam]); decide +kernel) (hs : ∀ X : Cx, starEach [a] X.env = [(false, eval a X.env)] := by intro _; rfl) :
    ReI f (.Tuple elts kk tpos) (.Call (.Name "enumerate" p) [a] [] pos) (Rd.enumS ta) := .mk fun {X T} c F δ S h => fun L σ H R E q =>
  runI_of (piEnumS (F.gl hg) (by rw [F.m]; exact hm) pa_run (hs X)) ((WA_cons (S := fun ds => ∃ d, ds = [d] ∧ Rd.enumSD S d) ((ha c F δ _ h).mono fun d h1 => WA_nil ⟨d, rfl, h1⟩) (hs X) L σ H _ E fun vs H1 ds s1 r1 ⟨d, hd, h1⟩ => by
    subst hd
    obtain ⟨v, rfl, rv⟩ := r1.one
    cases d with
    | str z =>
      obtain rfl : v = .str z := rv
      exact ⟨z, rfl, q _ H1 _ s1 (walk_es h1.1) h1.2⟩
    | _ => exact False.elim h1))
theorem ixS (ha : ReE f a ta) (hb : ReE f b tb) (hs : PlainIxT b := by intros _ _; rfl) : ReE f (.Subscript a b pos) (Rd.ixS ta tb) := .mk fun {X T} c F δ S h => fun L σ H Q E q =>
  runE_of (pe_item_str (X := X) pe_run pe_run hs) (ha c F δ _ h L σ H _ E fun v H1 d s1 r1 h1 => hb c F δ _ h1 L σ H1 _ (E.mono s1) fun u H2 d2 s2 r2 h2 => by
    cases d with
    | str z =>
      cases d2 with
      | int i =>
        obtain ⟨k, ⟨g0, g1, g2⟩, hk, hS⟩ := h2
        obtain rfl : v = .str z := r1
        obtain rfl : u = .int i := r2
        exact ⟨z, i, k, rfl, rfl, g0, by omega, g1, hk, q _ H2 (.str ⟨#[k]⟩) (s1.trans s2) rfl hS⟩
      | _ => exact False.elim h2
    | _ => exact False.elim h2)
end
end De
namespace Rd
def strK (A : Str → Prop) (x : D) : Prop := match x with
  | .str s => A s
  | _ => False
def lstK (A : List D → Prop) (x : D) : Prop := match x with
  | .lst ds => A ds
  | _ => False
def blK (A : Bool → Prop) (x : D) : Prop := match x with
  | .bl b => A b
  | _ => False
/-- s.join(a list of texts) -/
def joinS (a b : RdE) : RdE := fun T δ S => a T δ (strK fun s => b T δ (lstK fun ds => ∃ ys : List Str, ds = ys.map D.str ∧ (ys.map (·.length)).sum + ys.length * s.length ≤ 16777216 ∧ S (.str (Txt.join s ys))))
/-- a list of flags .index(a flag) -/
def idxB (a b : RdE) : RdE := fun T δ S => a T δ (lstK fun ds => b T δ (blK fun b => ∃ (bs : List Bool) (j : Nat), ds = bs.map D.bl ∧ bs[j]? = some b ∧ (∀ (m : Nat) (b' : Bool), m < j → bs[m]? = some b' → b' ≠ b) ∧ S (.int (j : Nat))))
theorem strK_ok {A : Str → Prop} {d : D} (h : strK A d) : ∃ s, d = .str s ∧ A s := by
  cases d with
  | str s => exact ⟨s, rfl, h⟩
  | _ => exact False.elim h
theorem lstK_ok {A : List D → Prop} {d : D} (h : lstK A d) : ∃ s, d = .lst s ∧ A s := by
  cases d with
  | lst s => exact ⟨s, rfl, h⟩
  | _ => exact False.elim h
theorem blK_ok {A : Bool → Prop} {d : D} (h : blK A d) : ∃ s, d = .bl s ∧ A s := by
  cases d with
  | bl s => exact ⟨s, rfl, h⟩
  | _ => exact False.elim h
end Rd
namespace De
section
variable {f : Fr} {a b e : Expr} {es : List Expr} {ta tb : RdE} {p pos apos : Pos}
theorem joinS (ha : ReE f a ta) (hb : ReE f b tb) (hs : ∀ X : Cx, starEach [b] X.env = [(false, eval b X.env)] := by intro _; rfl) (hbase : ∀ X : Cx, attributeBase a "join" X.env (eval a X.env) = eval a X.env := by intro _; rfl) (hline : (apos.endLine == pos.line) = true := by rfl) :
    ReE f (.Call (.Attribute a "join" apos) [b] [] pos) (Rd.joinS ta tb) := .mk fun {X T} c F δ S h => fun L σ H Q E q =>
  runE_of (pe_join (X := X) pe_run pe_run (hs X) (hbase X) hline) (ha c F δ _ h L σ H _ E fun v H1 d s1 r1 h1 => by
    obtain ⟨s, rfl, h1⟩ := Rd.strK_ok h1
    obtain rfl : v = .str s := r1
    refine ⟨⟨s, rfl⟩, hb c F δ _ h1 L σ H1 _ (E.mono s1) fun u H2 d2 s2 r2 h2 => ?_⟩
    obtain ⟨ds, rfl, ys, rfl, hz, hS⟩ := Rd.lstK_ok h2
    obtain ⟨b, vs, rfl, hb, rb, zb⟩ := r2
    have e := Reps.strs ys rb
    subst e
    exact ⟨s, b, ys, rfl, rfl, .inl (SqL.of (hide_at hb).2), hz, q _ H2 (.str _) (s1.trans s2) rfl hS⟩)
theorem flat_bls (bs : List Bool) : (bs.map V.bl).all flatV = true := List.all_eq_true.mpr fun v hv => by
  obtain ⟨b, _, rfl⟩ := List.mem_map.mp hv
  rfl
theorem idxB (ha : ReE f a ta) (hb : ReE f b tb) (hs : ∀ X : Cx, starEach [b] X.env = [(false, eval b X.env)] := by intro _; rfl) (hbase : ∀ X : Cx, attributeBase a "index" X.env (eval a X.env) = eval a X.env := by intro _; rfl) (hline : (apos.endLine == pos.line) = true := by rfl)
    (hfew : ∀ X : Cx, ((backTo pos (starEach [b] X.env)).all (fun x => !x.1) && (backToKw pos (keywordEach [] X.env)).all (fun x => x.1.isSome)
      && decide (([b] : List Expr).length + ([] : List Keyword).length + (if ([] : List Keyword).isEmpty then 0 else 1) < 30)) = true := by intro _; rfl) :
    ReE f (.Call (.Attribute a "index" apos) [b] [] pos) (Rd.idxB ta tb) := .mk fun {X T} c F δ S h => fun L σ H Q E q =>
  runE_of (pe_bm (X := X) PySem.F.plainAttrs_list PySem.F.slot_list_index PySem.F.type_list_index mt_index pe_run pa_run (hbase X) (hfew X) hline (hs X)) (ha c F δ _ h L σ H _ E fun v H1 d s1 r1 h1 => by
    obtain ⟨ds, rfl, h1⟩ := Rd.lstK_ok h1
    obtain ⟨a, vs, rfl, ha, ra, za⟩ := r1
    refine ⟨.inl ⟨rfl, vs, SqL.of (hide_at ha).2⟩, WA_cons (S := fun ds' => ∃ y, ds' = [y] ∧ Rd.blK _ y) ((hb c F δ _ h1).mono fun y h2 => WA_nil ⟨y, rfl, h2⟩) (hs X) L σ H1 _ (E.mono s1) fun us H2 ds2 s2 r2 ⟨y, hd, h2⟩ => ?_⟩
    subst hd
    obtain ⟨u, rfl, ru⟩ := r2.one
    obtain ⟨b, rfl, bs, j, rfl, h3, h4, hS⟩ := Rd.blK_ok h2
    obtain rfl : u = .bl b := ru
    have e := Reps.bls bs ra
    subst e
    refine ⟨a, bs.map V.bl, .bl b, j, .bl b, rfl, rfl, SqL.of (s2.k _ _ (hide_at ha).2 rfl), rfl, flat_bls bs, by rw [List.getElem?_map, h3]; rfl, by cases b <;> rfl, fun m z' hm hz => ?_, q _ H2 (.int (j : Nat)) (s1.trans s2) rfl hS⟩
    rw [List.getElem?_map] at hz
    cases e : bs[m]? with
    | none => rw [e] at hz; cases hz
    | some b' =>
      rw [e] at hz
      cases hz
      have := h4 m b' hm e
      cases b <;> cases b' <;> first | rfl | exact absurd rfl this)
end
end De
/-- a global text -/
theorem str_of {h : Heap} {K : PySem.W.Frag} {mg : Str → Option Value} {d : Hd} (X : K.In h) (G : h.Ns mainGlobals mg) (c : SaysX d K) {x : Str} {z : Str} (i : Nat) (h1 : d.fa[i]? = some (.str x z) := by rfl) : Glb K mg x (.str z) := by
  obtain ⟨t, e⟩ := He.str_ok X G (c.fact i h1)
  exact ⟨.str z t, .str z, e, ⟨t, rfl⟩, fun U H => rfl⟩
end Dl

set_option maxRecDepth 100000
set_option maxHeartbeats 4000000
/-! # sum(tuples, ()) -/
namespace Dl
open PySem PySem.Spec PyProof.Rows L2
/-- the first i tuples, joined -/
def accV (G : Nat → List Value) : Nat → List Value
  | 0 => []
  | i + 1 => accV G i ++ G i
theorem accV_le {G : Nat → List Value} : ∀ {i n : Nat}, i ≤ n → (accV G i).length ≤ (accV G n).length := fun {i n} h => by
  induction n with
  | zero => rw [show i = 0 by omega]; exact Nat.le_refl _
  | succ n ih =>
    by_cases e : i = n + 1
    · rw [e]; exact Nat.le_refl _
    · have := ih (by omega)
      rw [accV, List.length_append]
      omega
theorem catR {prog : Program} {w : World} {A : Around} {E : Value → Shared → Prop} {s : Shared} {t b : Addr} {vs ws : List Value} {Q : Value → Shared → Prop} (ht : IsTup s.heap t vs.toArray) (hb : IsTup s.heap b ws.toArray) (hsz : vs.length + ws.length ≤ sizeLine)
    (h : ∀ r h2, (∀ b o, s.heap.get? b = some o → h2.get? b = some o) → IsTup h2 r (vs ++ ws).toArray → (r = b ∧ vs = [] ∨ r = t ∧ ws = [] ∨ r = s.heap.objs.size) → Q (.ref r) { s with heap := h2 }) : wpAny (model prog w) A (binaryOp .Add (.ref t) (.ref b)) Q E s := by
  by_cases hv : vs = []
  · subst hv
    exact cat_tup0 ht hb (h b s.heap (fun _ _ e => e) (by simpa using hb) (.inl ⟨rfl, rfl⟩))
  · refine HT.cat_tup ht hb hv (fun hw => ?_) (fun hw => ?_) hsz
    · subst hw
      exact h t s.heap (fun _ _ e => e) (by simpa using ht) (.inr (.inl ⟨rfl, rfl⟩))
    · exact h _ _ (fun b o e => Heap.get?_push_of_some _ e) ⟨_, Heap.get?_push_size _ rfl, rfl, 0, rfl⟩ (.inr (.inr rfl))
section
variable {prog : Program} {w : World} {A : Around} {R : Result → Shared → Prop} {I : Addr} {fp wr : List Addr} {n : Nat} {P : Nat → Value → Prop} {St : Nat → Heap → Prop}
theorem sumT_loop (W : Walks prog w A.in1 I fp wr n P St) (G : Nat → List Value) (h0 : Heap) (Good : Addr → List Value → Prop) (hval : ∀ i v, P i v → ∃ a, v = .ref a ∧ IsTup h0 a (G i).toArray ∧ Good a (G i)) (hwr : ∀ b ∈ wr, h0.get? b = none) (live : ∀ i h, St i h → ∀ b ∈ wr, ∃ o, h.get? b = some o) (S : Addr) (hSf : S ∉ fp) (hS0 : h0.get? S = none) (hz : (accV G n).length ≤ sizeLine) :
    ∀ (k i : Nat) (s : Shared) (tA : Addr) (c : Nat), n - i = k → i ≤ n → St i s.heap → s.heap.get? S = some { cls := .type "list", dict := none, data := .seq #[.ref tA] c, slots := #[] } → (∀ b o, h0.get? b = some o → s.heap.get? b = some o) →
    IsTup s.heap tA (accV G i).toArray → tA ∉ wr → tA ≠ S → (h0.get? tA = none ∨ Good tA (accV G i)) →
    (∀ h' tk tA', (∀ b o, h0.get? b = some o → h'.get? b = some o) → IsTup h' tA' (accV G n).toArray → (h0.get? tA' = none ∨ Good tA' (accV G n)) → R (.ok (.ret (.ref tA'))) { s with heap := h', toks := tk }) →
    codeAny (model prog w) A (.builtin "sum.loop" ⟨[.ref I, .ref S, rawInt 2, rawInt 0], []⟩) R s := by
  have hSw : S ∉ wr := fun h => hSf (W.sub _ h)
  intro k
  induction k with
  | zero =>
    intro i s tA c hk hi hst hS hb ht hw hne hg hR
    obtain rfl : i = n := by omega
    refine codeAny_builtin F.entry_sum_loop ?_
    rw [Around.under_plainId F.plain_sum_loop _]
    show wpAny _ A.in1 (seqItems? (.ref S) >>= _) _ _ s
    refine wpAny_bind (wpAny_seqItems hS rfl ?_)
    show wpAny _ A.in1 (tryCatch (pyNext (.ref I)) _ >>= _) _ _ s
    refine wpAny_bind (wpAny_tryCatch (W.done s _ _ hst fun h' tk hm => ?_))
    refine wpAny_pure (hR h' tk tA (fun b o e => hm b o (fun z => by rw [hwr b z] at e; cases e) (hb b o e)) ?_ hg)
    obtain ⟨o, ho, r⟩ := ht
    exact ⟨o, hm _ _ hw ho, r⟩
  | succ k ih =>
    intro i s tA c hk hi hst hS hb ht hw hne hg hR
    have hlt : i < n := by omega
    refine codeAny_builtin F.entry_sum_loop ?_
    rw [Around.under_plainId F.plain_sum_loop _]
    show wpAny _ A.in1 (seqItems? (.ref S) >>= _) _ _ s
    refine wpAny_bind (wpAny_seqItems hS rfl ?_)
    show wpAny _ A.in1 (tryCatch (pyNext (.ref I)) _ >>= _) _ _ s
    refine wpAny_bind (wpAny_tryCatch (W.item i s _ _ hlt hst fun v h' tk hP hst' hm => ?_))
    obtain ⟨a, rfl, ha0, hga⟩ := hval i v hP
    have hb' : ∀ b o, h0.get? b = some o → h'.get? b = some o := fun b o e => hm b o (fun z => by rw [hwr b z] at e; cases e) (hb b o e)
    have ha : IsTup h' a (G i).toArray := ha0.keeps hb'
    have ht' : IsTup h' tA (accV G i).toArray := by
      obtain ⟨o, ho, r⟩ := ht
      exact ⟨o, hm _ _ hw ho, r⟩
    have hS' := hm S _ hSw hS
    have ha1 : h0.get? a ≠ none := by
      obtain ⟨o, ho, _⟩ := ha0
      rw [ho]
      exact fun z => by cases z
    have haw : a ∉ wr := fun z => ha1 (hwr a z)
    have haS : a ≠ S := fun z => ha1 (z ▸ hS0)
    have hsz : (accV G i).length + (G i).length ≤ sizeLine := by
      have := accV_le (G := G) (i := i + 1) (n := n) hlt
      rw [accV, List.length_append] at this
      omega
    show wpAny _ A.in1 ((holding [Value.ref a] (binaryOp .Add (.ref tA) (.ref a))).attempt >>= _) _ _ _
    refine wpAny_bind (wpAny_attempt (wpAny_holding (catR ht' ha hsz fun r h2 hk2 hr hor => ?_)))
    show wpAny _ A.in1 (updateSeq S (fun _ => #[Value.ref r]) >>= _) _ _ _
    have hS2 := hk2 _ _ hS'
    have lS : S < h'.objs.size := Heap.lt_size hS'
    refine wpAny_bind (wpAny_updateSeq hS2 rfl ?_)
    have hS3 := Heap.get?_update_self (Obj.mapSeq fun _ => #[Value.ref r]) hS2 rfl
    refine wpAny_bind (wpAny_letGo ?_)
    have upd2 : ∀ b o, b ≠ S → h2.get? b = some o → ((h2.update S (Obj.mapSeq fun _ => #[Value.ref r])).update S (Obj.mapSeq fun _ => #[Value.ref r])).get? b = some o := fun b o hbS e => (Heap.get?_update_other _ _ (Ne.symm hbS)).trans ((Heap.get?_update_other _ _ (Ne.symm hbS)).trans e)
    have hrS : r ≠ S := by
      rcases hor with ⟨rfl, _⟩ | ⟨rfl, _⟩ | rfl
      · exact haS
      · exact hne
      · exact Nat.ne_of_gt lS
    have hfS : ∀ b ∈ fp, b ≠ S := fun b hb z => hSf (z ▸ hb)
    refine wpAny_bind (wpAny_updateSeq hS3 rfl (wpAny_pure ⟨plainId_quiet F.plain_sum_loop _, ih (i + 1) _ r _ (by omega) hlt (W.frame _ h' _ hst' fun b hb o e => upd2 b o (hfS b hb) (hk2 b o e)) (Heap.get?_update_self _ hS3 rfl) (fun b o e => upd2 b o (fun z => by rw [z, hS0] at e; cases e) (hk2 b o (hb' b o e))) ?_ ?_ hrS ?_ fun h' tk tA' q1 q2 q3 => hR h' tk tA' q1 q2 q3⟩))
    · obtain ⟨o, ho, q⟩ := hr
      exact ⟨o, upd2 r o hrS ho, q⟩
    · rcases hor with ⟨rfl, _⟩ | ⟨rfl, _⟩ | rfl
      · exact haw
      · exact hw
      · intro z
        obtain ⟨o, e⟩ := live _ _ hst' _ z
        exact absurd (Heap.lt_size e) (Nat.lt_irrefl _)
    · rcases hor with ⟨rfl, e⟩ | ⟨rfl, e⟩ | rfl
      · rw [accV, e]
        exact .inr hga
      · rw [accV, e, List.append_nil]
        exact hg
      · refine .inl ?_
        cases z : h0.get? h'.objs.size with
        | none => rfl
        | some o => exact absurd (Heap.lt_size (hb' _ _ z)) (Nat.lt_irrefl _)
end
theorem args_sum2 (a b : Value) : argsOk "sum" ⟨[a, b], []⟩ := by unfold argsOk; kernel_rfl
theorem sub_tup_str : isSubtype (.type "tuple") (.type "str") = pure false := by rw [isSubtype_type]; kernel_rfl
theorem sub_tup_bytes : isSubtype (.type "tuple") (.type "bytes") = pure false := by rw [isSubtype_type]; kernel_rfl
theorem sub_tup_bytearray : isSubtype (.type "tuple") (.type "bytearray") = pure false := by rw [isSubtype_type]; kernel_rfl
section
variable {prog : Program} {w : World} {A : Around} {E : Value → Shared → Prop} {s : Shared}
/-- sum(x, ()) where x's items are tuples -/
theorem call_sumT {x : Value} {t0 : Addr} {Q : Value → Shared → Prop} (Good : Addr → List Value → Prop) (ht0 : IsTup s.heap t0 ([] : List Value).toArray) (hg0 : Good t0 [])
    (h : wpAny (model prog w) A.in1 (pyIter x) (fun it s₂ => ∃ (I : Addr) (fp wr : List Addr) (n : Nat) (P : Nat → Value → Prop) (St : Nat → Heap → Prop) (G : Nat → List Value), it = .ref I ∧ Walks prog w A.in1 I fp wr n P St ∧ St 0 s₂.heap ∧ (∀ b ∈ fp, b < s₂.heap.objs.size) ∧
      (∀ b o, s.heap.get? b = some o → s₂.heap.get? b = some o) ∧ s₂.gens = s.gens ∧ s₂.drawn = s.drawn ∧ s₂.os = s.os ∧
      (∀ i v, P i v → ∃ a, v = .ref a ∧ IsTup s.heap a (G i).toArray ∧ Good a (G i)) ∧ (∀ b ∈ wr, s.heap.get? b = none) ∧ (∀ i h, St i h → ∀ b ∈ wr, ∃ o, h.get? b = some o) ∧ (accV G n).length ≤ sizeLine ∧
      ∀ h' tk r, (∀ b o, s.heap.get? b = some o → h'.get? b = some o) → IsTup h' r (accV G n).toArray → (s.heap.get? r = none ∨ Good r (accV G n)) → Q (.ref r) { s with heap := h', toks := tk }) E s) :
    wpAny (model prog w) A (call (.builtin "sum") [x, .ref t0]) Q E s := by
  refine call_function_tree F.kind_sum F.plain_sum F.entry_sum (args_sum2 _ _) ?_
  unfold Builtin.«sum»
  simp only [List.length_cons, List.length_nil]
  rw [if_neg (by decide)]
  refine wpAny_bind (wpAny_of_eq (show Builtin.Builtins.bindParams "sum" ["start"] 0 ⟨[.ref t0], []⟩ = pure [some (.ref t0)] from rfl) ?_)
  refine wpAny_bind (wpAny_mono h (fun it s₂ h₂ => ?_) fun _ _ e => e)
  obtain ⟨I, fp, wr, n, P, St, G, rfl, W, hst, hfp, hk, e1, e2, e3, hval, hwr, live, hz, hQ⟩ := h₂
  refine wpAny_bind (wpAny_pure ?_)
  have hT : s₂.TypeIs (.ref t0) "tuple" := by
    obtain ⟨o, ho, hc, _⟩ := ht0
    exact ⟨o, hk _ _ ho, hc⟩
  simp only [List.forIn_cons, List.forIn_nil]
  refine wpAny_bind (wpAny_bind (wpAny_bind (wpAny_isInstance (T := "tuple") (b := false) hT sub_tup_str ?_)))
  simp only [Bool.false_eq_true, if_false]
  refine wpAny_pure (wpAny_bind (wpAny_bind (wpAny_isInstance (T := "tuple") (b := false) hT sub_tup_bytes ?_)))
  simp only [Bool.false_eq_true, if_false]
  refine wpAny_pure (wpAny_bind (wpAny_bind (wpAny_isInstance (T := "tuple") (b := false) hT sub_tup_bytearray ?_)))
  simp only [Bool.false_eq_true, if_false]
  refine wpAny_pure (wpAny_pure ?_)
  refine wpAny_bind (wpAny_newObj_type ?_)
  obtain ⟨hp, gens, dr, tk, os⟩ := s
  obtain ⟨hp2, gens2, dr2, tk2, os2⟩ := s₂
  simp only at e1 e2 e3
  subst e1 e2 e3
  have hSf : hp2.objs.size ∉ fp := fun hm => Nat.lt_irrefl _ (hfp _ hm)
  have pk : ∀ b o, hp2.get? b = some o → (hp2.push { cls := .type "list", data := .seq #[.ref t0] }).get? b = some o := fun b o e => Heap.get?_push_of_some _ e
  refine wpAny_pure ⟨plainId_quiet F.plain_sum_loop _, sumT_loop W G hp Good hval hwr live hp2.objs.size hSf ?_ hz n 0 _ t0 0 rfl (Nat.zero_le _) (W.frame 0 hp2 _ hst fun b _ o e => pk b o e) (Heap.get?_push_size _ rfl) (fun b o e => pk b o (hk b o e)) ?_ ?_ ?_ ?_ fun h' tk r q1 q2 q3 => hQ h' tk r q1 q2 q3⟩
  · cases z : hp.get? hp2.objs.size with
    | none => rfl
    | some o => exact absurd (Heap.lt_size (hk _ _ z)) (Nat.lt_irrefl _)
  · obtain ⟨o, ho, q⟩ := ht0
    exact ⟨o, pk _ _ (hk _ _ ho), q⟩
  · intro z
    obtain ⟨o, ho, _⟩ := ht0
    have := hwr _ z
    have ho' : hp.get? t0 = some o := ho
    rw [ho'] at this
    cases this
  · intro z
    obtain ⟨o, ho, _⟩ := ht0
    have := hk _ _ ho
    exact absurd (Heap.lt_size this) (by rw [z]; exact Nat.lt_irrefl _)
  · exact .inr hg0
end
/-! ### in a frame -/
theorem relV_inj {x y : V} {u : Value} (h : L2.RelV x u) (k : L2.RelV y u) : x = y := by
  cases x <;> cases y <;> simp only [L2.RelV] at h k <;> first
    | rfl
    | (subst h; cases k; done)
    | (subst h; cases k; rfl)
    | (obtain ⟨t, rfl⟩ := h; cases k; done)
    | (obtain ⟨t, rfl⟩ := h; obtain ⟨t', k⟩ := k; cases k; done)
    | (obtain ⟨t, rfl⟩ := h; obtain ⟨t', k⟩ := k; cases k; rfl)
    | (obtain ⟨t, rfl⟩ := k; cases h; done)
theorem vals_inj : ∀ {xs ys : List V} {us : List Value}, Vals xs us → Vals ys us → xs = ys
  | _, _, _, .nil, .nil => rfl
  | _, _, _, .cons r t, .cons q k => by rw [relV_inj r q, vals_inj t k]
/-- each value a tuple of so many -/
def Tups (K : PySem.W.Frag) (H : Hp) (xs : List V) (uss : List (List V)) : Prop := xs.length = uss.length ∧ ∀ (i : Nat) (us : List V), uss[i]? = some us → ∃ p, xs[i]? = some (.ref p) ∧ SqT K H p us
def rSumT (K : PySem.W.Frag) : List V → Hp → VK → Prop := fun vs H Q => ∃ (a b : Addr) (xs : List V) (uss : List (List V)), vs = [.ref a, .ref b] ∧ (SqL K H a xs ∨ SqT K H a xs) ∧ SqT K H b [] ∧ Tups K H xs uss ∧ uss.flatten.length ≤ sizeLine ∧
  (∀ p, SqT K H p uss.flatten → Q (.ref p) H) ∧ ∀ p, H p = none → Q (.ref p) (upd H p (.tup uss.flatten))
theorem cr_sumT {X : Cx} (hc : X.calm = true) : CallR X (.builtin "sum") (rSumT X.K) := fun pins s σ H vs us Q I r h => by
  obtain ⟨a, b, xs, uss, rfl, hx, hb, ht, hz, q1, q2⟩ := h
  cases r with
  | cons ra rr =>
    cases rr with
    | cons rb rn =>
      cases rn
      cases ra
      cases rb
      have hG : ∀ i : Nat, ∃ g : List Value, ∀ us, uss[i]? = some us → ∃ p, xs[i]? = some (.ref p) ∧ SqT X.K H p us ∧ IsTup s.heap p g.toArray ∧ Vals us g := fun i => by
        cases e : uss[i]? with
        | none => exact ⟨[], fun us e => by cases e⟩
        | some us =>
          obtain ⟨p, h1, h2⟩ := ht.2 i us e
          obtain ⟨g, h3, h4, _⟩ := I.tuple h2
          exact ⟨g, fun us' e' => by cases e'; exact ⟨p, h1, h2, h4, h3⟩⟩
      have ch := Classical.axiomOfChoice hG
      obtain ⟨G, hG⟩ := ch
      have hacc : ∀ n, n ≤ uss.length → Vals (uss.take n).flatten (accV G n) := fun n => by
        induction n with
        | zero => intro _; exact .nil
        | succ n ih =>
          intro hn
          have hn1 : uss[n]? = some (uss[n]'(by omega)) := List.getElem?_eq_getElem _
          obtain ⟨p, _, _, _, h4⟩ := hG n _ hn1
          rw [List.take_add_one, hn1, List.flatten_append]
          exact (ih (by omega)).append (by simpa using h4)
      have hfull : Vals uss.flatten (accV G xs.length) := by
        have := hacc uss.length (Nat.le_refl _)
        rw [List.take_length, ← ht.1] at this
        exact this
      have hlen : (accV G xs.length).length ≤ sizeLine := by rw [← hfull.length]; exact hz
      obtain ⟨ib, rbv, hbt, _⟩ := I.tuple hb
      cases rbv
      have fin : ∀ h' tk r, (∀ b o, s.heap.get? b = some o → h'.get? b = some o) → IsTup h' r (accV G xs.length).toArray → (s.heap.get? r = none ∨ ∃ us, SqT X.K H r us ∧ Vals us (accV G xs.length)) → EP X pins σ Q (.ref r) { s with heap := h', toks := tk } := fun h' tk r k1 k2 k3 => by
        rcases k3 with k3 | ⟨us, k3, k4⟩
        · refine ⟨.ref r, _, I.laidN (o := .tup uss.flatten) (t' := tk) k1 k3 (I.hok.gone k3) ⟨hz, _, hfull, k2⟩, rfl, q2 r (I.hok.gone k3)⟩
        · have e := vals_inj k4 hfull
          subst e
          exact ⟨.ref r, H, I.kept (t' := tk) k1, rfl, q1 r k3⟩
      have item : ∀ (its : List Value), Vals xs its → ∀ (i : Nat) (v : Value), its.toArray[i]? = some v → ∃ p, v = .ref p ∧ IsTup s.heap p (G i).toArray ∧ ∃ us, SqT X.K H p us ∧ Vals us (G i) := fun its rv i v e => by
        rw [List.getElem?_toArray] at e
        have hi : i < its.length := (List.getElem?_eq_some_iff.mp e).1
        have hi2 : i < uss.length := by have := rv.length; have := ht.1; omega
        obtain ⟨p, h1, h2, h3, h4⟩ := hG i _ (List.getElem?_eq_getElem hi2)
        obtain ⟨u, g1, g2⟩ := rv.get h1
        rw [e] at g1
        cases g1
        cases g2
        exact ⟨p, rfl, h3, _, h2, h4⟩
      have new : ∀ o : Obj, o.isFreed = false → (s.heap.push o).get? s.heap.objs.size = some o := fun o ho => Heap.get?_push_size _ ho
      have fresh : s.heap.get? s.heap.objs.size = none := by
        cases z : s.heap.get? s.heap.objs.size with
        | none => rfl
        | some o => exact absurd (Heap.lt_size z) (Nat.lt_irrefl _)
      rcases hx with hx | hx
      · obtain ⟨its, rv, hl, _⟩ := I.list hx
        have hsz : its.toArray.size = xs.length := by simp [rv.length]
        obtain ⟨oa, hoa, _⟩ := id hl.isList
        have la : a < s.heap.objs.size := Heap.lt_size hoa
        refine call_sumT (fun r gs => ∃ us, SqT X.K H r us ∧ Vals us gs) hbt ⟨[], hb, .nil⟩ (wpAny_pyIter_list hl.isList ?_)
        refine ⟨s.heap.objs.size, [s.heap.objs.size, a], [s.heap.objs.size], its.toArray.size, _, _, G, rfl, Walks.list (A := X.A.in1) (I.ok.hd hc) s.heap.objs.size a (Nat.ne_of_lt la) its.toArray, ⟨⟨_, new _ rfl, rfl, rfl⟩, hl.isList.push _⟩, fun b hb => ?_, fun b o e => Heap.get?_push_of_some _ e, rfl, rfl, rfl, item its rv, fun b hb => ?_, fun i h st b hb => ?_, by rw [hsz]; exact hlen, by rw [hsz]; exact fin⟩
        · rw [Heap.size_push]
          have cs : b = s.heap.objs.size ∨ b = a := by simpa using hb
          rcases cs with rfl | rfl
          · exact Nat.lt_succ_self _
          · exact Nat.lt_succ_of_lt la
        · have cs : b = s.heap.objs.size := by simpa using hb
          rw [cs]; exact fresh
        · have cs : b = s.heap.objs.size := by simpa using hb
          rw [cs]
          obtain ⟨o, ho, _⟩ := st.1
          exact ⟨o, ho⟩
      · obtain ⟨its, rv, hl, _⟩ := I.tuple hx
        have hsz : its.toArray.size = xs.length := by simp [rv.length]
        obtain ⟨oa, hoa, _⟩ := id hl
        have la : a < s.heap.objs.size := Heap.lt_size hoa
        refine call_sumT (fun r gs => ∃ us, SqT X.K H r us ∧ Vals us gs) hbt ⟨[], hb, .nil⟩ (wpAny_pyIter_tuple (show s.heap.IsTuple a its.toArray from hl) ?_)
        refine ⟨s.heap.objs.size, [s.heap.objs.size, a], [s.heap.objs.size], its.toArray.size, _, _, G, rfl, Walks.tuple (A := X.A.in1) (I.ok.hd hc) s.heap.objs.size a (Nat.ne_of_lt la) its.toArray, ⟨⟨_, new _ rfl, rfl, rfl⟩, (show s.heap.IsTuple a its.toArray from hl).at fun o e => Heap.get?_push_of_some _ e⟩, fun b hb => ?_, fun b o e => Heap.get?_push_of_some _ e, rfl, rfl, rfl, item its rv, fun b hb => ?_, fun i h st b hb => ?_, by rw [hsz]; exact hlen, by rw [hsz]; exact fin⟩
        · rw [Heap.size_push]
          have cs : b = s.heap.objs.size ∨ b = a := by simpa using hb
          rcases cs with rfl | rfl
          · exact Nat.lt_succ_self _
          · exact Nat.lt_succ_of_lt la
        · have cs : b = s.heap.objs.size := by simpa using hb
          rw [cs]; exact fresh
        · have cs : b = s.heap.objs.size := by simpa using hb
          rw [cs]
          obtain ⟨o, ho, _⟩ := st.1
          exact ⟨o, ho⟩
/-! ### of data -/
theorem reps_tups {K : PySem.W.Frag} {U : Pu} {H : Hp} : ∀ {yss : List (List D)} {ws : List V}, Reps K U H (yss.map D.tup) ws → ∃ uss : List (List V), Tups K H ws uss ∧ Reps K U H yss.flatten uss.flatten
  | [], ws, h => by
    rw [show ws = [] from h]
    exact ⟨[], ⟨rfl, fun i us e => by simp at e⟩, rfl⟩
  | ys :: yss, ws, h => by
    obtain ⟨v, r, rfl, ⟨p, vs, rfl, h2, h3, h4⟩, h5⟩ := h
    obtain ⟨uss, ⟨t1, t2⟩, t3⟩ := reps_tups h5
    refine ⟨vs :: uss, ⟨by simp [t1], fun i us e => ?_⟩, ?_⟩
    · cases i with
      | zero =>
        cases e
        exact ⟨p, rfl, h2⟩
      | succ i => exact t2 i us e
    · rw [List.flatten_cons, List.flatten_cons]
      exact h3.app t3
section
variable {X : Cx} {U : Pu} {lv : Nat} {T : XD} {c : Ct X U lv T} {S : D → Prop}
theorem CD_sumT {x : D} {yss : List (List D)} (sx : Seq x (yss.map D.tup)) (hz : yss.flatten.length ≤ sizeLine) (h : S (.tup yss.flatten)) : CD c (.builtin "sum") [x, .tup []] S := cd_of (cr_sumT c.calm) fun L H vs Q k r q => by
  obtain ⟨v1, r1, rfl, rx, r2⟩ := r
  obtain ⟨v2, r3, rfl, ry, r4⟩ := r2
  obtain rfl : r3 = [] := r4
  obtain ⟨a, ws, rfl, ha, ra, za⟩ := sx.rep rx
  obtain ⟨b, us0, rfl, hb, rb, zb⟩ := ry.tup
  obtain rfl : us0 = [] := rb
  obtain ⟨uss, ht, hr⟩ := reps_tups ra
  have e1 := hr.len
  refine ⟨a, b, ws, uss, rfl, ha, hb, ⟨ht.1, fun i us e => ?_⟩, by omega, fun p hp => ?_, fun p hp => ?_⟩
  · obtain ⟨p, g1, g2⟩ := ht.2 i us e
    exact ⟨p, g1, seqT_mono hide_ext.k g2⟩
  · exact q _ H (.tup yss.flatten) (Same.refl H) ⟨p, uss.flatten, rfl, sqt_hide k.lsts hp, hr, hz⟩ h
  · exact q _ _ (.tup yss.flatten) (same_new hp) (k.tupNew hr hz hp) h
end
def seqK (A : List D → Prop) (x : D) : Prop := match x with
  | .lst xs => A xs
  | .own xs => A xs
  | .tup xs => A xs
  | _ => False
theorem seqK_ok {A : List D → Prop} {d : D} (h : seqK A d) : ∃ xs, Seq d xs ∧ A xs := by
  cases d with
  | lst xs => exact ⟨xs, .lst xs, h⟩
  | own xs => exact ⟨xs, .own xs, h⟩
  | tup xs => exact ⟨xs, .tup xs, h⟩
  | _ => exact False.elim h
/-- sum(tuples, ()) -/
def Bi.sumT : List D → (D → Prop) → Prop := fun ds S => match ds with
  | [x, .tup []] => seqK (fun xs => ∃ yss : List (List D), xs = yss.map D.tup ∧ yss.flatten.length ≤ sizeLine ∧ S (.tup yss.flatten)) x
  | _ => False
theorem cd_sumT {X : Cx} {U : Pu} {lv : Nat} {T : XD} {c : Ct X U lv T} {S : D → Prop} {ds : List D} (h : Bi.sumT ds S) : CD c (.builtin "sum") ds S := by
  unfold Bi.sumT at h
  split at h
  · obtain ⟨xs, sx, yss, rfl, hz, hS⟩ := seqK_ok h
    exact CD_sumT sx hz hS
  · exact h.elim
theorem bi_sumT : BiOk (.builtin "sum") Bi.sumT := fun h => cd_sumT h
theorem De.bSumT {f : Fr} {e : Expr} {es : List Expr} {pos p : Pos} {tas : RdA} (hb : Blt f.mg) (hs : ReA f (e :: es) tas) (hg : glbB f.sc "sum" = true := by (try dsimp only [Fr.blk, Fr.lam]); decide +kernel) (he : ∀ X : Cx, starEach (e :: es) X.env = (false, eval e X.env) :: starEach es X.env := by intro _; rfl) (hpl : ∀ X : Cx, (backTo pos (starEach es X.env)).any (·.1) = false := by intro _; rfl) : ReE f (.Call (.Name "sum" p) (e :: es) [] pos) (Rd.blt Bi.sumT tas) := De.blt bi_sumT bt_sum hb.sum hs hg he hpl
/-! ### one list alone ceases to be one's own -/
section
variable {X : Cx} {U : Pu} {lv : Nat} {T : XD} {c : Ct X U lv T} {δ : List (Option D)}
theorem En.frz1 {L : List Addr} {H : Hp} {σ : L2.St} (N : En c L H σ δ) {j : Nat} {xs : List D} (hj : δ[j]? = some (some (.own xs))) : ∃ L', En c L' H σ (δ.set j (some (.lst xs))) := by
  obtain ⟨v, hσ, l, us, rfl, hl, hlb, hH, r, z⟩ := N.rep j _ hj
  have sub : ∀ b ∈ L.filter (fun b => decide (b ≠ l)), b ∈ L := fun b hb => (List.mem_filter.mp hb).1
  have nl : l ∉ L.filter (fun b => decide (b ≠ l)) := fun h => by simpa using (List.mem_filter.mp h).2
  have hlen : j < δ.length := (List.getElem?_eq_some_iff.mp hj).1
  refine ⟨L.filter fun b => decide (b ≠ l), ⟨N.ok.base, fun b hb => List.mem_filter.mpr ⟨N.ok.lb b hb, decide_eq_true fun e => hlb (e ▸ hb)⟩, fun b hb => N.ok.new b (sub b hb), fun b hb => N.ok.lsts b (sub b hb)⟩, by rw [List.length_set]; exact N.len, fun i d h => ?_, fun i k ys zs a h1 h2 f1 f2 h3 h4 => ?_⟩
  · by_cases e : i = j
    · subst e
      rw [List.getElem?_set_self hlen] at h
      cases h
      exact ⟨.ref l, hσ, l, us, rfl, (hide_ne nl).trans hH, Reps.mono (hide_le sub) _ _ r, z⟩
    · rw [List.getElem?_set_ne (Ne.symm e)] at h
      obtain ⟨v, g1, g2⟩ := N.rep i d h
      refine ⟨v, g1, ?_⟩
      cases d with
      | own ys =>
        obtain ⟨l2, us2, rfl, k1, k2, k3, k4, k5⟩ := g2
        exact ⟨l2, us2, rfl, List.mem_filter.mpr ⟨k1, decide_eq_true fun q => e (N.sep i j _ _ l h hj rfl rfl (q ▸ g1) hσ)⟩, k2, k3, Reps.mono (hide_le sub) _ _ k4, k5⟩
      | odk ks ys =>
        obtain ⟨l2, us2, rfl, k1, k2, k3, k4, k5⟩ := g2
        exact ⟨l2, us2, rfl, List.mem_filter.mpr ⟨k1, decide_eq_true fun q => e (N.sep i j _ _ l h hj rfl rfl (q ▸ g1) hσ)⟩, k2, k3, Reps.mono (hide_le sub) _ _ k4, k5⟩
      | _ => exact Rep.mono (hide_le sub) _ _ g2
  · have ni : i ≠ j := fun e => by
      subst e
      rw [List.getElem?_set_self hlen] at h1
      cases h1
      cases f1
    have nk : k ≠ j := fun e => by
      subst e
      rw [List.getElem?_set_self hlen] at h2
      cases h2
      cases f2
    rw [List.getElem?_set_ne (Ne.symm ni)] at h1
    rw [List.getElem?_set_ne (Ne.symm nk)] at h2
    exact N.sep i k ys zs a h1 h2 f1 f2 h3 h4
end
def Rd.frz1 (j : Nat) (t : RdS) : RdS := fun T δ E => Rd.ownP (sl δ j) fun xs => fc (st δ j (some (.lst xs))) fun δ' => t T δ' E
theorem De.frz1 {f : Fr} {s : Stmt} {t : RdS} (j : Nat) (h : ReS f s t) : ReS f s (Rd.frz1 j t) := .mk fun c F δ E k => fun L σ H D N C => by
  obtain ⟨xs, hj, k⟩ := own_ok k
  rw [fc_eq, st_eq] at k
  obtain ⟨L', N'⟩ := N.frz1 hj
  exact h c F _ E k L' σ H D N' C
/-! ### x, y = a, [..] where the names are cells: a tuple is made and taken apart -/
section
variable {X : Cx} {U : Pu} {lv : Nat} {T : XD} {c : Ct X U lv T} {δ : List (Option D)} {E : SE}
theorem WS_parT (i j : Nat) {x y : Str} {a b : Expr} {px py pt pos : Pos} {kt k2 pt2} (h : WE c a δ fun d1 => d1.still = true ∧ WF c b δ fun xs => E.nx ((δ.set i (some d1)).set j (some (.own xs)))) (hi : X.N[i]? = some x) (hj : X.N[j]? = some y) (hij : i ≠ j)
    (hx : Loc X.env.scope x) (hy : Loc X.env.scope y) (fx : X.fn x = true ∨ X.env.scope.names.lookup x = some .local) (fy : X.fn y = true ∨ X.env.scope.names.lookup y = some .local) (hw : swappedStores [.Tuple [.Name x px, .Name y py] kt pt] (.Tuple [a, b] k2 pt2) X.env = pure none)
    (hs : swapsWithSole [.Tuple [.Name x px, .Name y py] kt pt] (.Tuple [a, b] k2 pt2) pos.line X.env = pure false) (s1 : starEach (a :: [b]) X.env = (false, eval a X.env) :: starEach [b] X.env := by rfl) (s2 : starEach (b :: []) X.env = (false, eval b X.env) :: starEach [] X.env := by rfl) :
    WS c (.Assign [.Tuple [.Name x px, .Name y py] kt pt] (.Tuple [a, b] k2 pt2) pos) δ E := fun L σ H D N C =>
  runS_of (ps_asg (pe_tup (pa_cons pe_run (pa_cons pe_run pa_nil s2) s1)) (pg_tup (n := 2) c.calm (pgs_cons (pg_name c.nd hi hx fx) (pgs_cons (pg_name c.nd hj hy fy) pgs_nil rfl) rfl) rfl rfl) hs hw rfl) (by
    refine h L σ H _ N fun v H1 d1 e1 r1 ⟨st, z⟩ => ?_
    have N1 := N.mono e1
    refine z L σ H1 _ N1 fun l H2 us xs e2 nl hl r2 z2 k => ?_
    refine ⟨by show 2 ≤ sizeLine; decide, fun p hp => ?_⟩
    have e3 : Same U H2 (upd H2 p (.tup [v, .ref l])) := same_new hp
    obtain ⟨L2, N2, hd2, tr2, fr2⟩ := N1.hold (d := .own xs) (v := .ref l) (e2.trans e3) ⟨l, us, rfl, nl, (upd_ne (ne_of_none hl hp)).trans hl, Reps.mono (hide_same e3.k) _ _ r2, z2⟩
    refine ⟨p, [v, .ref l], rfl, SqT.of upd_same, rfl, v, [.ref l], rfl, .ref l, [], rfl, rfl, ?_⟩
    have N3 := N2.put (i := i) (d := d1) (v := v) ⟨tr2 _ _ r1, fun l' e => absurd (e.symm.trans st) (by decide)⟩
    refine C.nx L2 _ _ _ (N3.put (i := j) (d := .own xs) (v := .ref l) ⟨hd2.1, fun l' ex el k ws g1 y1 g2 => ?_⟩) k
    by_cases hk : i = k
    · subst hk
      have hil : i < δ.length := by
        by_cases hil : i < δ.length
        · exact hil
        · rw [List.getElem?_eq_none (by simpa using hil)] at g1
          cases g1
      rw [List.getElem?_set_self hil] at g1
      obtain rfl : d1 = ws := by injection g1 with g; injection g
      exact absurd (y1.symm.trans st) (by decide)
    · rw [List.getElem?_set_ne hk] at g1 g2
      exact hd2.2 l' ex el k ws g1 y1 g2)
end
theorem De.par2EFT {f : Fr} {a b : Expr} {x y : Str} {px py pt pos : Pos} {kt k2 pt2} {ta : RdE} {fb : RdA} (i j : Nat) (ha : ReE f a ta) (hb : ReF f b fb) (hi : f.N[i]? = some x := by rfl) (hj : f.N[j]? = some y := by rfl) (hij : i ≠ j := by decide)
    (hx : tgB f.z f.sc x = true := by (try dsimp only [Fr.blk, Fr.lam]); first | exact tgB_code (by decide +kernel) | decide +kernel) (hy : tgB f.z f.sc y = true := by (try dsimp only [Fr.blk, Fr.lam]); first | exact tgB_code (by decide +kernel) | decide +kernel)
    (hw : swappedStores [.Tuple [.Name x px, .Name y py] kt pt] (.Tuple [a, b] k2 pt2) { scope := f.sc, locals := 0, globals := 0, cells := [] } = pure none := by rfl)
    (hs : ∀ X : Cx, swapsWithSole [.Tuple [.Name x px, .Name y py] kt pt] (.Tuple [a, b] k2 pt2) pos.line X.env = pure false := by intro _; rfl) (s1 : ∀ X : Cx, starEach (a :: [b]) X.env = (false, eval a X.env) :: starEach [b] X.env := by intro _; rfl) (s2 : ∀ X : Cx, starEach (b :: []) X.env = (false, eval b X.env) :: starEach [] X.env := by intro _; rfl) :
    ReS f (.Assign [.Tuple [.Name x px, .Name y py] kt pt] (.Tuple [a, b] k2 pt2) pos) (Rd.par2EF i j ta fb) := .mk fun {X T} c F δ E h =>
  WS_parT i j ((ha c F δ _ h).mono fun d1 h1 => by
    obtain ⟨e1, h1⟩ := stP_ok h1
    exact ⟨e1, fun L σ H Q N q => hb c F δ _ h1 L σ H Q N fun l H' vs ds s g1 g2 g3 g4 g5 => q l H' vs ds s g1 g2 g3 g4 (by rw [fc_eq, st_eq, st_eq] at g5; exact g5)⟩) (by rw [F.n]; exact hi) (by rw [F.n]; exact hj) hij (F.loc (F.tl hx)) (F.loc (F.tl hy)) (F.fn hx) (F.fn hy) (swapped_at F.s _ _ hw) (hs X) (s1 X) (s2 X)
end Dl

set_option maxRecDepth 100000
set_option maxHeartbeats 4000000
/-! # xs[::-1] of a tuple -/
namespace Dl
open PySem PySem.Spec PyProof.Rows L2 HT
section
variable {prog : Program} {w : World} {A : Around} {E : Value → Shared → Prop} {s : Shared}
theorem places_rev (n : Nat) : Builtin.Slice.slicePlaces ((n : Int) - 1) (-1) (-1) = n := by
  unfold Builtin.Slice.slicePlaces
  rw [if_neg (by decide)]
  by_cases h : (n : Int) - 1 > -1
  · rw [if_pos h, show (- -1 : Int) = 1 by decide, Int.ediv_one]
    omega
  · rw [if_neg h]
    omega
theorem pick_rev (xs : Array Value) : ((List.range xs.size).filterMap fun (m : Nat) => xs[((xs.size : Int) - 1 + (m : Int) * -1).toNat]?).toArray = xs.toList.reverse.toArray := by
  have e : (fun (m : Nat) => xs[((xs.size : Int) - 1 + (m : Int) * -1).toNat]?) = (fun x => xs[x]?) ∘ fun m => xs.size - 1 - m := by
    funext m
    have : ((xs.size : Int) - 1 + (m : Int) * -1).toNat = xs.size - 1 - m := by omega
    rw [this]
    rfl
  rw [e, ← List.filterMap_map, PySem.W.krv_range, List.filterMap_reverse, PySem.W.krv_all]
theorem sliceApplied_rev {sl : Addr} {t : Tok} {n : Nat} {Q : Int × Int × Nat → Shared → Prop} (hs : s.heap.IsSliceOf sl .none .none (.int (-1) t))
    (h : Q ((n : Int) - 1, -1, n) s) : wpAny (model prog w) A (Builtin.Slice.sliceApplied (.ref sl) (pure (n : Int))) Q E s := by
  obtain ⟨os, hos, hcs, hds⟩ := id hs
  unfold Builtin.Slice.sliceApplied Builtin.Slice.sliceFields
  refine wpAny_bind (wpAny_bind (wpAny_field hos hds (x := .none) rfl (wpAny_bind (wpAny_field hos hds (x := .none) rfl (wpAny_bind (wpAny_field hos hds (x := .int (-1) t) rfl (wpAny_pure ?_)))))))
  refine wpAny_bind (slicePart_int ?_)
  show wpAny _ _ (if ((-1 : Int) == 0) = true then _ else _) _ _ s
  rw [if_neg (by decide)]
  refine wpAny_bind (slicePart_none (wpAny_bind (slicePart_none (wpAny_bind (wpAny_pure ?_)))))
  show wpAny _ _ (pure ((n : Int) - 1, (-1 : Int), Builtin.Slice.slicePlaces ((n : Int) - 1) (-1) (-1))) _ _ s
  rw [places_rev]
  exact wpAny_pure h
theorem getItem_tuple_rev {t sl : Addr} {u : Tok} {items : Array Value} {Q : Value → Shared → Prop} (ht : IsTup s.heap t items) (hs : s.heap.IsSliceOf sl .none .none (.int (-1) u))
    (h : Q (.ref s.heap.objs.size) { s with heap := s.heap.push { cls := .type "tuple", data := .seq items.toList.reverse.toArray } })
    (hsz : items.size ≤ sizeLine) : wpAny (model prog w) A (getItem (.ref t) (.ref sl)) Q E s := by
  have htake : sizeOk (.seq items.toList.reverse.toArray) := by
    show items.toList.reverse.toArray.size ≤ sizeLine
    rw [List.size_toArray, List.length_reverse, Array.length_toList]
    exact hsz
  obtain ⟨os, hos, hcs, hds⟩ := id hs
  have hTs : s.TypeIs (.ref sl) "slice" := ⟨os, hos, hcs⟩
  unfold getItem
  try with_reducible refine wpAny_holding ?_
  first | refine wpAny_bind (wpAny_pure ?_) | skip
  refine wpAny_bind (wpAny_sequenceKey ht.typeIs (by decide) ?_)
  refine wpAny_bind (wpAny_callSpecial?_slot (name := Str.ofString "__getitem__") ht.typeIs PyProof.Rows.slot_tuple_getitem
    (wpAny_call_entry PyProof.Rows.slot_tuple_getitem ht.typeIs entry_tuple_getitem ?_ (args_tuple_getitem _ _)))
  show wpAny _ _ (Builtin.Tuple.tupleItemsOf (.ref t) >>= _) _ _ s
  refine wpAny_bind (tupleItemsOf_ ht ?_)
  refine wpAny_bind (wpAny_typeOf hTs ?_)
  rw [if_pos (by decide)]
  refine wpAny_bind (sliceApplied_rev hs ?_)
  have hno : ¬ ((((items.size : Int) - 1) == 0 && (-1 : Int) == 1 && items.size == items.size) = true) := by simp
  show wpAny _ _ (if (((items.size : Int) - 1) == 0 && (-1 : Int) == 1 && items.size == items.size) = true then _ else _) _ _ s
  rw [if_neg hno, pick_rev]
  first
    | exact wpAny_bind (m := Builtin.Tuple.tupleExact _) (wpAny_newObj_type (wpAny_pure ⟨_, rfl, wpAny_pure h⟩) htake)
    | exact wpAny_bind (m := Builtin.Tuple.tupleExact _) (wpAny_newObj_type (wpAny_bind (wpAny_pure (wpAny_pure ⟨_, rfl, wpAny_pure h⟩))) htake)
    | exact wpAny_bind (wpAny_bind (m := Builtin.Tuple.tupleExact _) (wpAny_newObj_type (wpAny_pure (wpAny_pure ⟨_, rfl, wpAny_pure h⟩)) htake))
    | exact wpAny_bind (wpAny_bind (m := Builtin.Tuple.tupleExact _) (wpAny_newObj_type (wpAny_pure ⟨_, rfl, wpAny_pure h⟩) htake))
end
def tRevT (K : PySem.W.Frag) (te : TE) : TE := fun σ H Q => te σ H fun x H1 => ∃ a xs, x = .ref a ∧ SqT K H1 a xs ∧ ∀ p, H1 p = none → Q (.ref p) (upd H1 p (.tup xs.reverse))
theorem pe_revT {X : Cx} {e : Expr} {te : TE} {k : Nat} {p1 p2 p3 pos : Pos} (he : PE X e te) : PE X (.Subscript e (.Slice none none (some (.UnaryOp .USub (.Constant (.int 1) k p1) p2)) p3) pos) (tRevT X.K te) := by
  refine ⟨fun pins s σ H Q I h => ?_⟩
  refine Subscript_ (thn (he.run pins s σ H _ I h) fun v s1 ⟨x, H1, I1, r1, q1⟩ => ?_)
  obtain ⟨a, xs, ex, hx, q⟩ := q1
  subst ex
  cases r1
  have hst : PO X (some (.UnaryOp .USub (.Constant (.int 1) k p1) p2)) (tPart (tUn (rU fun i => .int (-i)) (tC (.int 1)))) := po_some (pe_un un_neg pe_int)
  refine wpAny_Slice (thn (po_none.run pins s1 σ H1 (fun o H2 => o = none ∧ H2 = H1) I1 ⟨rfl, rfl⟩) fun vl s2 ⟨l, H2, I2, pl, el, e2⟩ => ?_)
  subst el e2
  refine thn (po_none.run pins s2 σ H2 (fun o H3 => o = none ∧ H3 = H2) I2 ⟨rfl, rfl⟩) fun vu s3 ⟨u, H3, I3, pu, eu, e3⟩ => ?_
  subst eu e3
  refine thn (hst.run pins s3 σ H3 (fun o H4 => o = some (-1) ∧ H4 = H3) I3 ⟨1, rfl, -1, rfl, rfl, rfl⟩) fun vs s4 ⟨o, H4, I4, ps, eo, e4⟩ => ?_
  subst eo e4
  obtain rfl : vl = .none := by cases pl; rfl
  obtain rfl : vu = .none := by cases pu; rfl
  obtain ⟨tk, rfl⟩ : ∃ tk, vs = .int (-1) tk := by cases ps; exact ⟨_, rfl⟩
  have I5 : L2.Inv X pins σ H4 { s4 with heap := s4.heap.push { cls := .type "slice", data := .fields #[.none, .none, .int (-1) tk] } } := I4.kept (t' := s4.toks) fun b ob q => Heap.get?_push_of_some _ q
  obtain ⟨its, r, ht, hz⟩ := I5.tuple hx
  have hlen := r.length
  show wpAny (model X.prog X.w) X.A (subscriptTail e (.Slice none none (some (.UnaryOp .USub (.Constant (.int 1) k p1) p2)) p3) (.ref a) (.ref s4.heap.objs.size)) (EP X pins σ Q) X.xe { s4 with heap := s4.heap.push { cls := .type "slice", data := .fields #[.none, .none, .int (-1) tk] } }
  refine tail_any (ops := [.ref a, .ref s4.heap.objs.size]) ht.typeIs (PyProof.Rows.slot_tuple_getitem.lookup) ?_ (by with_unfolding_all rfl)
  refine getItem_tuple_rev ht (Heap.IsSliceOf.new _ _ _ _) ?_ (by rw [List.size_toArray]; omega)
  refine ⟨.ref _, _, I5.laid (t' := s4.toks) (o := .tup xs.reverse) (fun b ob q => Heap.get?_push_of_some _ q) (Nat.le_refl _) ?_, rfl, q _ (I5.hok.fresh (Nat.le_refl _))⟩
  exact ⟨by rw [List.length_reverse]; exact hz, _, r.reverse, IsTup.new _ _⟩
section
variable {X : Cx} {U : Pu} {lv : Nat} {T : XD} {c : Ct X U lv T} {δ : List (Option D)} {e a b : Expr} {pos p p' pi : Pos}
theorem WE_revT {S : D → Prop} {k : Nat} {p1 p2 p3 : Pos} (h : WE c e δ fun d => ∃ xs, d = .tup xs ∧ S (.tup xs.reverse)) : WE c (.Subscript e (.Slice none none (some (.UnaryOp .USub (.Constant (.int 1) k p1) p2)) p3) pos) δ S := fun L σ H Q N q =>
  runE_of (pe_revT pe_run) (h L σ H _ N fun v H1 d s1 r1 ⟨xs, ex, z⟩ => by
    subst ex
    obtain ⟨a, vs, rfl, ha, ra, za⟩ := r1.tup
    exact ⟨a, vs, rfl, ha, fun p hp => q _ _ _ (s1.trans (same_new hp)) ((N.ok.mono s1).tupNew ra.rev (by rw [List.length_reverse]; exact za) hp) z⟩)
end
namespace Rd
def revTD (S : D → Prop) (x : D) : Prop := match x with
  | .tup xs => S (.tup xs.reverse)
  | _ => False
def revT (a : RdE) : RdE := fun T δ S => a T δ (revTD S)
end Rd
theorem De.revT {f : Fr} {a : Expr} {pos : Pos} {ta : RdE} {k : Nat} {p1 p2 p3 : Pos} (ha : ReE f a ta) : ReE f (.Subscript a (.Slice none none (some (.UnaryOp .USub (.Constant (.int 1) k p1) p2)) p3) pos) (Rd.revT ta) := .mk fun {X T} c F δ S h => WE_revT ((ha c F δ _ h).mono fun d k => by
  cases d with
  | tup xs => exact ⟨xs, rfl, k⟩
  | _ => exact k.elim)
end Dl

set_option maxRecDepth 100000
set_option maxHeartbeats 4000000
/-! # a <= b <= c as a test -/
namespace Dl
open PySem PySem.Spec PyProof.Rows L2
section
variable {X : Cx} {U : Pu} {lv : Nat} {T : XD} {c : Ct X U lv T} {δ : List (Option D)} {a b b' : Expr} {pos : Pos}
theorem WT_chain {op op' : CmpOp} {S : Bool → Prop} (h : WE c a δ fun x => WE c b δ fun y => OD c (compareOp op) x y fun z => ∃ k, z = .bl k ∧ if k = true then WE c b' δ fun y' => OD c (compareOp op') y y' fun z => ∃ k, z = .bl k ∧ S k else S false)
    (hm : lastMarks [op, op'] [b, b'] = false) : WT c (.Compare a [op, op'] [b, b'] pos) δ S := fun L σ H Q E q =>
  runT_of (pt_chain opR_run opR_run pe_run pe_run pe_run hm) (h L σ H _ E fun v H1 d s1 r1 z => z L σ H1 _ (E.mono s1) fun u H2 d2 s2 r2 z2 => z2 L H2 v u _ ((E.ok.mono s1).mono s2) (r1.mono s2) r2 fun w H3 d3 s3 r3 z3 => by
    obtain ⟨k, rfl, z3⟩ := z3
    refine ⟨k, r3, ?_⟩
    have e3 := (s1.trans s2).trans s3
    cases k with
    | true =>
      rw [if_pos rfl] at z3 ⊢
      refine z3 L σ H3 _ (E.mono e3) fun u4 H4 d4 s4 r4 z4 => z4 L H4 u u4 _ ((E.ok.mono e3).mono s4) ((r2.mono s3).mono s4) r4 fun w5 H5 d5 s5 r5 z5 => ?_
      obtain ⟨k, rfl, z5⟩ := z5
      exact ⟨k, r5, q k H5 ((e3.trans s4).trans s5) z5⟩
    | false =>
      rw [if_neg Bool.false_ne_true] at z3 ⊢
      exact ⟨false, rfl, q false H3 e3 z3⟩)
end
theorem De.tchain {f : Fr} {a b a' : Expr} {ta tb tc : RdE} {pos : Pos} {o o' : CmpOp} {op op' : RdOp} (ho : OpAt f (compareOp o) op) (ho' : OpAt f (compareOp o') op') (ha : ReE f a ta) (hb : ReE f b tb) (hc : ReE f a' tc) (hm : lastMarks [o, o'] [b, a'] = false := by rfl) : ReT f (.Compare a [o, o'] [b, a'] pos) (Rd.tval (Rd.chain op op' ta tb tc)) := .mk fun {X T} c F δ S h =>
  WT_chain ((ha c F δ _ h).mono fun x h1 => (hb c F δ _ h1).mono fun y h2 => OD_mono (ho c F h2) fun z hz => by
    cases z with
    | bl k =>
      refine ⟨k, rfl, ?_⟩
      cases k with
      | true =>
        rw [if_pos rfl]
        exact (hc c F δ _ hz).mono fun y' h3 => OD_mono (ho' c F h3) fun z hz => by
          cases z with
          | bl k => exact ⟨k, rfl, hz⟩
          | _ => exact False.elim hz
      | false =>
        rw [if_neg Bool.false_ne_true]
        exact hz
    | _ => exact False.elim hz) hm
end Dl

set_option maxRecDepth 100000
set_option maxHeartbeats 4000000
/-! # xs.remove(e) of data of any depth, xs.insert(i, e) -/
namespace Dl
open PySem PySem.Spec PyProof.Rows L2
def rRemD (K : PySem.W.Frag) : V → List V → Hp → VK → Prop := fun x xs H Q => ∃ (a : Addr) (y : V) (d : PyData) (ds : List PyData) (vs : List V) (j : Nat) (z : PyData), x = V.ref a ∧ xs = [y] ∧ H a = some (.lst vs) ∧ Dp K H (V.ref a) (.list ds) ∧ Dp K H y d ∧
  SeqAt.shaped (.list ds) = true ∧ SeqAt.shaped d = true ∧ ds[j]? = some z ∧ PyData.eqv z d = true ∧ (∀ (m : Nat) (z' : PyData), m < j → ds[m]? = some z' → PyData.eqv z' d = false) ∧ Q .non (upd H a (.lst (vs.eraseIdx j)))
theorem mt_remD {X : Cx} (hu : X.A.units + 65 < cLine) : MtR X "list.remove" (rRemD X.K) := by
  intro pins s σ H x xs v us Q I rx rxs h
  obtain ⟨a, y, d, ds, ws, j, z, rfl, rfl, hH, hl, hy, sl, sd, hz, hzj, hno, q⟩ := h
  cases rx
  obtain ⟨uy, rfl, ry⟩ := rxs.one
  obtain ⟨bs, r1⟩ := Dp.reads I d y uy hy ry
  have hxs : PyData.canLayAll0 ds = true := SeqAt.canLay_of_shaped sl
  have hroom : X.A.units + 1 + min (PyData.depthAll ds) d.depth < cLine := room_in_shaped sd hu
  obtain ⟨zz, its, n, rv, hlen, e0⟩ := I.lstM hH
  have hnl := rv.length
  cases hl with
  | lst hs ha =>
    obtain ⟨its2, rv2, ⟨o2, n2, ho2, hc2, hdn2, hdt2⟩, hlen2⟩ := I.list hs
    rw [e0] at ho2
    obtain rfl := Option.some.inj ho2
    have ei : its = its2 := by
      have : (Data.seq its.toArray n) = Data.seq its2.toArray n2 := hdt2
      have := (Data.seq.inj this).1
      exact Array.toList_inj.mpr this |> fun e => by simpa using e
    subst ei
    obtain ⟨as, h4⟩ := Dp.readsAll I ds _ its ha rv2
    have hn : its.length = ds.length := SeqAt.ReadsAll.length ds its as h4
    have hmap : its.map (SeqAt.readOf s.heap) = ds := SeqAt.readsAll_map ds its as hxs h4
    have hsl := sizeLine_eq
    obtain ⟨hjd, _⟩ := List.getElem?_eq_some_iff.mp hz
    have hjl : j < its.length := by omega
    have hj : j < its.toArray.size := by simpa using hjl
    have at_ : ∀ (m : Nat) (hm : m < its.toArray.size) (z' : PyData), ds[m]? = some z' → SeqAt.readOf s.heap its.toArray[m] = z' := by
      intro m hm z' hz'
      have hml : m < its.length := by simpa using hm
      rw [← hmap, List.getElem?_map, List.getElem?_eq_getElem hml] at hz'
      have e1 : SeqAt.readOf s.heap its[m] = z' := Option.some.inj (show some (SeqAt.readOf s.heap its[m]) = some z' from hz')
      simpa using e1
    have hsz : its.toArray.size ≤ sizeLine := by rw [List.size_toArray]; omega
    refine call_meets PySem.F.slot_list_remove ⟨_, e0, rfl⟩ PySem.F.entry_list_remove (PySem.F.args_list_remove_2 _ _)
      (SeqAt.list_removeAt a its.toArray n _ _ uy (fun u => PyData.eqv (SeqAt.readOf s.heap u) d) j hj ?_ ?_ hsz) ⟨e0, SeqAt.items_eqAt (vs := its.toArray) (show ReadsAll s.heap its.toArray.toList ds as from h4) r1 hxs (SeqAt.canLay_of_shaped sd) hroom, ?_⟩
    · show PyData.eqv (SeqAt.readOf s.heap its.toArray[j]) d = true
      rw [at_ j hj z hz]
      exact hzj
    · intro m hm hmj
      have hmd : m < ds.length := by omega
      have hz' : ds[m]? = some ds[m] := List.getElem?_eq_getElem hmd
      show PyData.eqv (SeqAt.readOf s.heap its.toArray[m]) d = false
      rw [at_ m hm _ hz']
      exact hno m _ hmj hz'
    · refine ⟨.non, _, I.lset (its' := its.eraseIdx j) hH e0 ?_ (rv.eraseIdx j) ?_, rfl, q⟩
      · show its.toArray.eraseIdxIfInBounds j = (its.eraseIdx j).toArray
        rw [List.eraseIdxIfInBounds_toArray]
      · have := List.length_eraseIdx_le ws j
        omega
theorem pys_get : ∀ (xs : List D) (j : Nat), (pys xs)[j]? = (xs[j]?).map D.py
  | [], j => by simp [pys]
  | x :: xs, 0 => by simp [pys]
  | x :: xs, j + 1 => by
    simp only [pys, List.getElem?_cons_succ]
    exact pys_get xs j
theorem fits_get {n : Nat} : ∀ {xs : List D} {j : Nat} {z : D}, fits n xs = true → xs[j]? = some z → fit n z = true
  | [], j, z, _, h => by simp at h
  | x :: xs, 0, z, g, h => by
    simp only [fits, Bool.and_eq_true] at g
    simp at h
    rw [← h]; exact g.1
  | x :: xs, j + 1, z, g, h => by
    simp only [fits, Bool.and_eq_true] at g
    exact fits_get g.2 (by simpa using h)
section
variable {X : Cx} {U : Pu} {lv : Nat} {T : XD} {c : Ct X U lv T} {δ : List (Option D)} {E : SE} {pos : Pos} {e a : Expr}
/-- where the first equal one stands -/
def FirstAt (xs : List D) (d : D) (j : Nat) : Prop := (∃ z, xs[j]? = some z ∧ z.eqv d = true) ∧ ∀ (m : Nat) (z : D), m < j → xs[m]? = some z → z.eqv d = false
theorem WS_remove (i : Nat) {x : Str} {xs : List D} {p apos cpos : Pos} (hi : δ[i]? = some (some (.own xs))) (h : WE c e δ fun d => (fit 64 d = true ∧ fit 64 (.lst xs) = true) ∧ ∃ j, FirstAt xs d j ∧ E.nx (δ.set i (some (.own (xs.eraseIdx j))))) (hN : X.N[i]? = some x) (hv : Vis X.env.scope x) (hd : (x == ("__debug__" : Str)) = false) (hcd : (x == ("__classdict__" : Str)) = false)
    (hs : swapsWith (.Call (.Attribute (.Name x p) "remove" apos) [e] [] cpos) none pos.line X.env = pure false)
    (hbase : attributeBase (.Name x p) "remove" X.env (eval (.Name x p) X.env) = eval (.Name x p) X.env := by rfl) (hfew : ((backTo cpos (starEach [e] X.env)).all (fun x => !x.1) && (backToKw cpos (keywordEach [] X.env)).all (fun x => x.1.isSome) && decide (([e] : List Expr).length + ([] : List Keyword).length + (if ([] : List Keyword).isEmpty then 0 else 1) < 30)) = true := by rfl) (hline : (apos.endLine == cpos.line) = true := by rfl) (he : starEach (e :: []) X.env = (false, eval e X.env) :: starEach [] X.env := by rfl) (hpl : (backTo cpos (starEach [] X.env)).any (·.1) = false := by rfl) :
    WS c (.Expr (.Call (.Attribute (.Name x p) "remove" apos) [e] [] cpos) pos) δ E := fun L σ H De N C => by
  obtain ⟨v, hσ, l, vs, rfl, hl, hlb, hH, r, z⟩ := N.rep i _ hi
  refine runS_of (ps_expr (pe_bm PySem.F.plainAttrs_list PySem.F.slot_list_remove PySem.F.type_list_remove (mt_remD (units65 c)) (pe_var hN hv hd hcd) (pa_cons pe_run pa_nil he) hbase hfew hline he hpl) hs) ?_
  refine ⟨.ref l, hσ, tyL hH, ?_⟩
  refine h L σ H _ N fun w H1 d s1 r1 ⟨⟨f1, f2⟩, j, ⟨⟨zd, hz, hzd⟩, hno⟩, k⟩ => ?_
  have r' := Reps.mono (hide_same s1.k) _ _ r
  have f3 : fits 63 xs = true := by simpa [fit] using f2
  have sh := fit_shaped f2
  have e1 : (D.lst xs).py = .list (pys xs) := by simp [D.py]
  rw [e1] at sh
  refine ⟨l, w, d.py, pys xs, vs, j, zd.py, rfl, rfl, s1.at _ _ hH, .lst (SqL.of (s1.at _ _ hH)) (Reps.dps 63 xs vs f3 (Reps.mono hide_ext.k _ _ r')), r1.dp f1, sh, fit_shaped f1, by rw [pys_get, hz]; rfl, by rw [eqv_py 63 64 _ _ (fits_get f3 hz) f1]; exact hzd, fun m z' hm hz' => ?_, ?_⟩
  · rw [pys_get] at hz'
    cases q : xs[m]? with
    | none => rw [q] at hz'; cases hz'
    | some z2 =>
      rw [q] at hz'
      cases hz'
      rw [eqv_py 63 64 _ _ (fits_get f3 q) f1]
      exact hno m z2 hm q
  · exact C.nx L σ _ _ ((N.mono s1).change hi hσ hl hlb (r'.erase j) (Nat.le_trans (List.length_eraseIdx_le ..) z)) k
theorem WS_insert (i : Nat) {x : Str} {xs : List D} {p apos cpos : Pos} (hi : δ[i]? = some (some (.own xs))) (h : WE c a δ fun d0 => WE c e δ fun d => ∃ n : Int, d0 = .int n ∧ d.still = true ∧ xs.length < sizeLine ∧ 0 ≤ n ∧ n < 1000000 ∧ E.nx (δ.set i (some (.own (xs.take n.toNat ++ [d] ++ xs.drop n.toNat))))) (hN : X.N[i]? = some x) (hv : Vis X.env.scope x) (hd : (x == ("__debug__" : Str)) = false) (hcd : (x == ("__classdict__" : Str)) = false)
    (hs : swapsWith (.Call (.Attribute (.Name x p) "insert" apos) [a, e] [] cpos) none pos.line X.env = pure false)
    (hbase : attributeBase (.Name x p) "insert" X.env (eval (.Name x p) X.env) = eval (.Name x p) X.env := by rfl) (hfew : ((backTo cpos (starEach [a, e] X.env)).all (fun x => !x.1) && (backToKw cpos (keywordEach [] X.env)).all (fun x => x.1.isSome) && decide (([a, e] : List Expr).length + ([] : List Keyword).length + (if ([] : List Keyword).isEmpty then 0 else 1) < 30)) = true := by rfl) (hline : (apos.endLine == cpos.line) = true := by rfl) (ha : starEach [a, e] X.env = (false, eval a X.env) :: starEach [e] X.env := by rfl) (he : starEach (e :: []) X.env = (false, eval e X.env) :: starEach [] X.env := by rfl) (hpl : (backTo cpos (starEach [e] X.env)).any (·.1) = false := by rfl) :
    WS c (.Expr (.Call (.Attribute (.Name x p) "insert" apos) [a, e] [] cpos) pos) δ E := fun L σ H De N C => by
  obtain ⟨v, hσ, l, vs, rfl, hl, hlb, hH, r, z⟩ := N.rep i _ hi
  refine runS_of (ps_expr (pe_bm PySem.F.plainAttrs_list PySem.F.slot_list_insert PySem.F.type_list_insert mt_insert (pe_var hN hv hd hcd) (pa_cons pe_run (pa_cons pe_run pa_nil he) ha) hbase hfew hline ha hpl) hs) ?_
  refine ⟨.ref l, hσ, tyL hH, ?_⟩
  refine h L σ H _ N fun w0 H0 d0 s0 r0 h2 => h2 L σ H0 _ (N.mono s0) fun w H1 d s1 r1 ⟨n, e0, st, zz, n0, n1, k⟩ => ?_
  subst e0
  have s2 := s0.trans s1
  have r' := Reps.mono (hide_same s2.k) _ _ r
  have ew : w0 = .int n := r0
  subst ew
  refine ⟨l, vs, n, w, rfl, rfl, s2.at _ _ hH, by rw [← r.len]; exact zz, n0, by omega, ?_⟩
  exact C.nx L σ _ _ ((N.mono s2).change hi hσ hl hlb (((r'.take _).app (Reps.one (r1.rep st))).app (r'.drop _)) (by simp only [List.length_append, List.length_take, List.length_drop, List.length_singleton]; omega)) k
end
def Rd.rem (i : Nat) (a : RdE) : RdS := fun T δ E => Rd.ownP (sl δ i) fun xs => a T δ fun d => (fit 64 d = true ∧ fit 64 (.lst xs) = true) ∧ ∃ j, FirstAt xs d j ∧ fc (st δ i (some (.own (xs.eraseIdx j)))) E.nx
def Rd.insP (xs : List D) (A : List D → Prop) (d x : D) : Prop := match x with
  | .int n => (0 ≤ n ∧ n < 1000000 ∧ xs.length < sizeLine) ∧ A (xs.take n.toNat ++ [d] ++ xs.drop n.toNat)
  | _ => False
def Rd.ins (i : Nat) (a b : RdE) : RdS := fun T δ E => Rd.ownP (sl δ i) fun xs => a T δ fun x => b T δ fun d => stP d (Rd.insP xs (fun ys => fc (st δ i (some (.own ys))) E.nx) d x)
namespace De
variable {f : Fr} {e a : Expr} {x : Str} {ta tb : RdE} {pos : Pos}
theorem rem {p' apos cpos : Pos} (i : Nat) (ha : ReE f e ta) (hn : f.N[i]? = some x := by rfl) (hv : visB f.sc x = true := by (try dsimp only [Fr.blk, Fr.lam]); decide +kernel)
    (hs : ∀ X : Cx, swapsWith (.Call (.Attribute (.Name x p') "remove" apos) [e] [] cpos) none pos.line X.env = pure false := by intro _; rfl)
    (hbase : ∀ X : Cx, attributeBase (.Name x p') "remove" X.env (eval (.Name x p') X.env) = eval (.Name x p') X.env := by intro _; rfl) (hfew : ∀ X : Cx, ((backTo cpos (starEach [e] X.env)).all (fun x => !x.1) && (backToKw cpos (keywordEach [] X.env)).all (fun x => x.1.isSome) && decide (([e] : List Expr).length + ([] : List Keyword).length + (if ([] : List Keyword).isEmpty then 0 else 1) < 30)) = true := by intro _; rfl)
    (hline : (apos.endLine == cpos.line) = true := by rfl) (he : ∀ X : Cx, starEach (e :: []) X.env = (false, eval e X.env) :: starEach [] X.env := by intro _; rfl) (hpl : ∀ X : Cx, (backTo cpos (starEach [] X.env)).any (·.1) = false := by intro _; rfl) :
    ReS f (.Expr (.Call (.Attribute (.Name x p') "remove" apos) [e] [] cpos) pos) (Rd.rem i ta) := .mk fun {X T} c F δ E h => by
  obtain ⟨xs, hi, h⟩ := own_ok h
  refine WS_remove i hi ((ha c F δ _ h).mono fun d h1 => ?_) (by rw [F.n]; exact hn) (F.vis hv) (visB_ok hv).2.1 (visB_ok hv).2.2 (hs X) (hbase X) (hfew X) hline (he X) (hpl X)
  obtain ⟨h2, j, h3, h4⟩ := h1
  rw [fc_eq, st_eq] at h4
  exact ⟨h2, j, h3, h4⟩
theorem ins {p' apos cpos : Pos} (i : Nat) (ha : ReE f a ta) (hb : ReE f e tb) (hn : f.N[i]? = some x := by rfl) (hv : visB f.sc x = true := by (try dsimp only [Fr.blk, Fr.lam]); decide +kernel)
    (hs : ∀ X : Cx, swapsWith (.Call (.Attribute (.Name x p') "insert" apos) [a, e] [] cpos) none pos.line X.env = pure false := by intro _; rfl)
    (hbase : ∀ X : Cx, attributeBase (.Name x p') "insert" X.env (eval (.Name x p') X.env) = eval (.Name x p') X.env := by intro _; rfl) (hfew : ∀ X : Cx, ((backTo cpos (starEach [a, e] X.env)).all (fun x => !x.1) && (backToKw cpos (keywordEach [] X.env)).all (fun x => x.1.isSome) && decide (([a, e] : List Expr).length + ([] : List Keyword).length + (if ([] : List Keyword).isEmpty then 0 else 1) < 30)) = true := by intro _; rfl)
    (hline : (apos.endLine == cpos.line) = true := by rfl) (h1 : ∀ X : Cx, starEach [a, e] X.env = (false, eval a X.env) :: starEach [e] X.env := by intro _; rfl) (he : ∀ X : Cx, starEach (e :: []) X.env = (false, eval e X.env) :: starEach [] X.env := by intro _; rfl) (hpl : ∀ X : Cx, (backTo cpos (starEach [e] X.env)).any (·.1) = false := by intro _; rfl) :
    ReS f (.Expr (.Call (.Attribute (.Name x p') "insert" apos) [a, e] [] cpos) pos) (Rd.ins i ta tb) := .mk fun {X T} c F δ E h => by
  obtain ⟨xs, hi, h⟩ := own_ok h
  refine WS_insert i hi ((ha c F δ _ h).mono fun d0 h1 => (hb c F δ _ h1).mono fun d h2 => ?_) (by rw [F.n]; exact hn) (F.vis hv) (visB_ok hv).2.1 (visB_ok hv).2.2 (hs X) (hbase X) (hfew X) hline (h1 X) (he X) (hpl X)
  obtain ⟨s, h3⟩ := stP_ok h2
  cases d0 with
  | int n =>
    obtain ⟨⟨n0, n1, n2⟩, h4⟩ := h3
    rw [fc_eq, st_eq] at h4
    exact ⟨n, rfl, s, n2, n0, n1, h4⟩
  | _ => exact h3.elim
end De
end Dl

set_option maxRecDepth 100000
set_option maxHeartbeats 4000000
/-! # Own dicts whose keys are numbers; xs[a:b] = ys -/
namespace Dl
open PySem PySem.Spec PyProof.Rows L2

/-- what stands at a key -/
def dkGet : List Key → List D → Key → Option D
  | k' :: ks, d :: ds, k => if k' = k then some d else dkGet ks ds k
  | _, _, _ => none
def keyD : D → Option Key
  | .int i => some (.inl i)
  | _ => none
section
variable {K : PySem.W.Frag} {U : Pu} {H : Hp}
theorem keyD_rep {d : D} {k : Key} {v : V} (e : keyD d = some k) (r : Rep K U H d v) : v = kV k := by
  cases d with
  | int i => cases e; exact r
  | _ => cases e
theorem dkGet_some : ∀ {ks : List Key} {ds : List D} {vs : List V} {k : Key} {d : D}, Reps K U H ds vs → dkGet ks ds k = some d → ∃ v, valV (ks.zip vs) k = some v ∧ Rep K U H d v
  | [], _, _, _, _, _, h => by simp [dkGet] at h
  | _ :: _, [], _, _, _, _, h => by simp [dkGet] at h
  | k' :: ks, d' :: ds, vs, k, d, r, h => by
    obtain ⟨v, vs', rfl, r1, r2⟩ := r
    rw [List.zip_cons_cons]
    by_cases e : k' = k
    · simp only [dkGet, if_pos e, Option.some.injEq] at h
      subst h
      exact ⟨v, valV_pos e, r1⟩
    · simp only [dkGet, if_neg e] at h
      rw [valV_neg e]
      exact dkGet_some r2 h
theorem dkGet_none : ∀ {ks : List Key} {ds : List D} {vs : List V} {k : Key}, Reps K U H ds vs → dkGet ks ds k = none → valV (ks.zip vs) k = none
  | [], _, vs, _, _, _ => by cases vs <;> rfl
  | _ :: _, [], vs, _, r, _ => by
    rw [show vs = [] from r]
    rfl
  | k' :: ks, d' :: ds, vs, k, r, h => by
    obtain ⟨v, vs', rfl, r1, r2⟩ := r
    rw [List.zip_cons_cons]
    by_cases e : k' = k
    · simp [dkGet, e] at h
    · simp only [dkGet, if_neg e] at h
      rw [valV_neg e]
      exact dkGet_none r2 h
theorem valV_isSome {ks : List Key} {ds : List D} {vs : List V} {k : Key} (r : Reps K U H ds vs) : (valV (ks.zip vs) k).isSome = (dkGet ks ds k).isSome := by
  cases e : dkGet ks ds k with
  | none => rw [dkGet_none r e]; rfl
  | some d =>
    obtain ⟨v, h, _⟩ := dkGet_some r e
    rw [h]; rfl
theorem putK_new {kvs : List (Key × V)} {k : Key} {v : V} (h : valV kvs k = none) : putK kvs k v = kvs ++ [(k, v)] := by
  unfold putK
  rw [if_neg]
  intro z
  obtain ⟨kv, h1, h2⟩ := List.any_eq_true.mp z
  unfold valV at h
  cases e : kvs.find? (fun kv => decide (kv.1 = k)) with
  | none => exact absurd h2 (by simpa using List.find?_eq_none.mp e kv h1)
  | some p => rw [e] at h; cases h
end
/-- a dict's entries, own or not -/
inductive IsDk : D → List Key → List D → Prop
  | dck (ks : List Key) (ds : List D) : IsDk (.dck ks ds) ks ds
  | odk (ks : List Key) (ds : List D) : IsDk (.odk ks ds) ks ds
theorem IsDk.rep {K : PySem.W.Frag} {U : Pu} {Lb L : List Addr} {H : Hp} {d : D} {ks : List Key} {ds : List D} {v : V} (s : IsDk d ks ds) (h : RepO K U Lb L H d v) : ∃ a vs, v = .ref a ∧ H a = some (.dK (ks.zip vs)) ∧ Reps K U (hide L H) ds vs ∧ ks.length = ds.length := by
  cases s with
  | dck =>
    obtain ⟨a, vs, h1, h2, h3, h4⟩ := h
    exact ⟨a, vs, h1, (hide_at h2).2, h3, h4⟩
  | odk =>
    obtain ⟨a, vs, h1, _, _, h2, h3, h4⟩ := h
    exact ⟨a, vs, h1, h2, h3, h4⟩
/-! ### x in d -/
def rInK : R2 := fun x y H Q => ∃ a o, y = .ref a ∧ DGet H a x o ∧ Q (.bl o.isSome) H
theorem op_inK {X : Cx} (hu : X.A.units + 1 < cLine) : OpR X (compareOp .In) rInK := fun pins s σ H x y v u Q I rx ry h => by
  obtain ⟨a, o, rfl, g, q⟩ := h
  obtain rfl : u = Value.ref a := ry
  exact d_in hu I g rx fun s' I' => ⟨.bl o.isSome, H, I', rfl, q⟩
section
variable {X : Cx} {U : Pu} {lv : Nat} {T : XD} {c : Ct X U lv T} {S : D → Prop}
theorem OD_inK {x y : D} {ks : List Key} {ds : List D} {k : Key} (sy : IsDk y ks ds) (hk : keyD x = some k) (h : S (.bl (dkGet ks ds k).isSome)) : OD c (compareOp .In) x y S := od_of (op_inK (Nat.lt_of_le_of_lt (Nat.add_le_add_left (by decide) _) (units65 c))) fun L H vx vy Q kk rx ry q => by
  obtain ⟨a, vs, rfl, h2, h3, h4⟩ := sy.rep ry
  have ex : vx = kV k := keyD_rep hk (rx.rep (by cases x <;> first | rfl | cases hk))
  subst ex
  refine ⟨a, _, rfl, DGet.k h2, ?_⟩
  rw [valV_isSome h3]
  exact q _ H (.bl _) (Same.refl H) rfl h
end
namespace Op
def isinK : RdOp := fun _ x y S => match x, y with
  | .int i, .dck ks ds => S (.bl (dkGet ks ds (.inl i)).isSome)
  | .int i, .odk ks ds => S (.bl (dkGet ks ds (.inl i)).isSome)
  | _, _ => False
end Op
theorem De.o_isinK {f : Fr} : OpAt f (compareOp .In) Op.isinK := fun {X T} c _ {S x y} h => by
  unfold Op.isinK at h
  split at h
  · exact OD_inK (.dck _ _) rfl h
  · exact OD_inK (.odk _ _) rfl h
  · exact h.elim
/-! ### d[x] -/
def Rd.dix (ta tb : RdE) : RdE := fun T δ S => ta T δ fun x => tb T δ fun y => match y, x with
  | .int i, .dck ks ds => ∃ d, dkGet ks ds (.inl i) = some d ∧ S d
  | .int i, .odk ks ds => ∃ d, dkGet ks ds (.inl i) = some d ∧ S d
  | _, _ => False
theorem De.dix {f : Fr} {a b : Expr} {ta tb : RdE} {pos : Pos} (ha : ReE f a ta) (hb : ReE f b tb) (hs : NoSl b := by intros _ _; rfl) : ReE f (.Subscript a b pos) (Rd.dix ta tb) := .mk fun {X T} c F δ S h => fun L σ H Q E q =>
  runE_of (pe_dget (Nat.lt_of_le_of_lt (Nat.add_le_add_left (by decide) _) (units65 c)) pe_run pe_run hs) (ha c F δ _ h L σ H _ E fun v H1 x s1 r1 h1 => hb c F δ _ h1 L σ H1 _ (E.mono s1) fun u H2 y s2 r2 h2 => by
    have go : ∀ (ks : List Key) (ds : List D) (i : Int), IsDk x ks ds → y = .int i → (∃ d, dkGet ks ds (.inl i) = some d ∧ S d) → ∃ a w, v = .ref a ∧ DGet H2 a u (some w) ∧ Q w H2 := fun ks ds i sx ey ⟨d, g1, g2⟩ => by
      subst ey
      obtain ⟨a, vs, rfl, k1, k2, k3⟩ := sx.rep (r1.mono s2)
      obtain ⟨w, w1, w2⟩ := dkGet_some k2 g1
      obtain rfl : u = .int i := r2
      exact ⟨a, w, rfl, by rw [← w1]; exact DGet.k (k := .inl i) k1, q w H2 d (s1.trans s2) (.of_rep w2) g2⟩
    cases y with
    | int i =>
      cases x with
      | dck ks ds => exact go ks ds i (.dck _ _) rfl h2
      | odk ks ds => exact go ks ds i (.odk _ _) rfl h2
      | _ => exact False.elim h2
    | _ => cases x <;> exact False.elim h2)
/-! ### {} as a dict of one's own -/
theorem WO_dict {X : Cx} {U : Pu} {lv : Nat} {T : XD} {c : Ct X U lv T} {δ : List (Option D)} {S : D → Prop} {pos : Pos} (h : S (.odk [] [])) : WO c (.Dict [] [] pos) δ S := fun L σ H Q N q =>
  runE_of pe_dnewK fun p hp => q _ _ (.odk [] []) (same_new hp) ⟨p, [], rfl, .of hp, upd_same, rfl, rfl⟩ h
/-- d, n = {}, b -/
def Rd.parDE (i j : Nat) (b : RdE) : RdS := fun T δ E => b T δ fun d2 => stP d2 (fc (st (st δ i (some (.odk [] []))) j (some d2)) E.nx)
theorem De.parDE {f : Fr} {b : Expr} {x y : Str} {px py pt pos pd : Pos} {kt k2 pt2} {tb : RdE} (i j : Nat) (hb : ReE f b tb) (hi : f.N[i]? = some x := by rfl) (hj : f.N[j]? = some y := by rfl) (hij : i ≠ j := by decide) (hx : f.sc.names.lookup x = some .local := by (try dsimp only [Fr.blk, Fr.lam]); decide +kernel) (hy : f.sc.names.lookup y = some .local := by (try dsimp only [Fr.blk, Fr.lam]); decide +kernel)
    (hw : swappedStores [.Tuple [.Name x px, .Name y py] kt pt] (.Tuple [.Dict [] [] pd, b] k2 pt2) { scope := f.sc, locals := 0, globals := 0, cells := [] } = pure (some [x, y]) := by rfl)
    (hs : ∀ X : Cx, swapsWithSole [.Tuple [.Name x px, .Name y py] kt pt] (.Tuple [.Dict [] [] pd, b] k2 pt2) pos.line X.env = pure false := by intro _; rfl) (s1 : ∀ X : Cx, starEach (.Dict [] [] pd :: [b]) X.env = (false, eval (.Dict [] [] pd) X.env) :: starEach [b] X.env := by intro _; rfl) (s2 : ∀ X : Cx, starEach (b :: []) X.env = (false, eval b X.env) :: starEach [] X.env := by intro _; rfl) :
    ReS f (.Assign [.Tuple [.Name x px, .Name y py] kt pt] (.Tuple [.Dict [] [] pd, b] k2 pt2) pos) (Rd.parDE i j tb) := .mk fun {X T} c F δ E h =>
  WS_par i j (WO_dict (WO_of ((hb c F δ _ h).mono fun d2 h2 => by
    obtain ⟨e2, h3⟩ := stP_ok h2
    rw [fc_eq, st_eq, st_eq] at h3
    exact ⟨e2, h3⟩))) (by rw [F.n]; exact hi) (by rw [F.n]; exact hj) hij (by rw [F.s]; exact hx) (by rw [F.s]; exact hy) (swapped_at F.s _ _ hw) (hs X) (s1 X) (s2 X)
/-! ### d[k] = e at a new key -/
section
variable {X : Cx} {U : Pu} {lv : Nat} {T : XD} {c : Ct X U lv T} {δ : List (Option D)} {E : SE} {e : Expr}
theorem WS_dput (i : Nat) {x : Str} {ks : List Key} {ds : List D} {p spos pos : Pos} {ix : Expr} (hi : δ[i]? = some (some (.odk ks ds)))
    (h : WE c e δ fun d => d.still = true ∧ WE c ix δ fun y => ∃ k, keyD y = some k ∧ dkGet ks ds k = none ∧ ks.length < sizeLine ∧ E.nx (δ.set i (some (.odk (ks ++ [k]) (ds ++ [d]))))) (hN : X.N[i]? = some x) (hv : Vis X.env.scope x) (hd : (x == ("__debug__" : Str)) = false) (hcd : (x == ("__classdict__" : Str)) = false)
    (hs : swapsWith e (some (.Subscript (.Name x p) ix spos)) pos.line X.env = pure false) : WS c (.Assign [.Subscript (.Name x p) ix spos] e pos) δ E := fun L σ H D N C => by
  obtain ⟨v, hσ, l, vs, rfl, hl, hlb, hH, r, z⟩ := N.rep i _ hi
  refine runS_of (ps_dput (Nat.lt_of_le_of_lt (Nat.add_le_add_left (by decide) _) (units65 c)) (pe_var hN hv hd hcd) pe_run pe_run hs) ?_
  refine h L σ H _ N fun w H1 d s1 r1 ⟨st, k1⟩ => ⟨.ref l, hσ, ?_⟩
  refine k1 L σ H1 _ (N.mono s1) fun y H2 dy s2 r2 ⟨k, hk, hn, hz, k2⟩ => ?_
  have ey : y = kV k := keyD_rep hk (r2.rep (by cases dy <;> first | rfl | cases hk))
  subst ey
  have r' := Reps.mono (hide_same (s1.k.trans s2.k)) _ _ r
  have hH2 : H2 l = some (.dK (ks.zip vs)) := s2.at _ _ (s1.at _ _ hH)
  have lv : ds.length = vs.length := r.len
  have zl : (ks.zip vs).length < sizeLine := by rw [List.length_zip]; omega
  refine ⟨l, _, rfl, DPut.k hH2 zl, ?_⟩
  have ev : putK (ks.zip vs) k w = (ks ++ [k]).zip (vs ++ [w]) := by
    rw [putK_new (dkGet_none r hn), List.zip_append (by omega)]
    rfl
  have rr := r'.app (Reps.one ((r1.mono s2).rep st))
  rw [ev]
  refine C.nx L σ _ _ ((N.mono (s1.trans s2)).changeX (y := .odk (ks ++ [k]) (ds ++ [d])) (o := .dK ((ks ++ [k]).zip (vs ++ [w]))) hi rfl hσ hl hlb rfl ⟨l, vs ++ [w], rfl, hl, hlb, upd_same, ?_, by simp [z]⟩) k2
  rw [hide_upd hl]
  exact rr
end
def Rd.odkP : Option D → (List Key → List D → Prop) → Prop
  | some (.odk ks ds), A => A ks ds
  | _, _ => False
theorem odk_ok {δ : List (Option D)} {i : Nat} {A : List Key → List D → Prop} (h : Rd.odkP (sl δ i) A) : ∃ ks ds, δ[i]? = some (some (.odk ks ds)) ∧ A ks ds := by
  unfold Rd.odkP at h
  split at h
  · rename_i ks ds e
    exact ⟨ks, ds, sl_eq e, h⟩
  · exact h.elim
def Rd.keyP : Option Key → (Key → Prop) → Prop
  | some k, A => A k
  | none, _ => False
def Rd.dput (i : Nat) (tk te : RdE) : RdS := fun T δ E => Rd.odkP (sl δ i) fun ks ds => te T δ fun d => stP d (tk T δ fun y => Rd.keyP (keyD y) fun k => dkGet ks ds k = none ∧ ks.length < sizeLine ∧ fc (st δ i (some (.odk (ks ++ [k]) (ds ++ [d])))) E.nx)
theorem De.dput {f : Fr} {e ixe : Expr} {x : Str} {te tk : RdE} {p spos pos : Pos} (i : Nat) (he : ReE f e te) (hk : ReE f ixe tk) (hn : f.N[i]? = some x := by rfl) (hv : visB f.sc x = true := by (try dsimp only [Fr.blk, Fr.lam]); decide +kernel)
    (hs : ∀ X : Cx, swapsWith e (some (.Subscript (.Name x p) ixe spos)) pos.line X.env = pure false := by intro _; rfl) : ReS f (.Assign [.Subscript (.Name x p) ixe spos] e pos) (Rd.dput i tk te) := .mk fun {X T} c F δ E h => by
  obtain ⟨ks, ds, hi, h⟩ := odk_ok h
  refine WS_dput i hi ((he c F δ _ h).mono fun d h1 => ?_) (by rw [F.n]; exact hn) (F.vis hv) (visB_ok hv).2.1 (visB_ok hv).2.2 (hs X)
  obtain ⟨g1, g2⟩ := stP_ok h1
  refine ⟨g1, (hk c F δ _ g2).mono fun y h2 => ?_⟩
  cases q : keyD y with
  | none => rw [q] at h2; exact h2.elim
  | some k =>
    rw [q] at h2
    obtain ⟨a1, a2, a3⟩ := h2
    rw [fc_eq, st_eq] at a3
    exact ⟨k, rfl, a1, a2, a3⟩
/-! ### a, b, d, n = e1, e2, {}, e3 -/
section
variable {X : Cx} {U : Pu} {lv : Nat} {T : XD} {c : Ct X U lv T} {δ : List (Option D)} {E : SE}
theorem WS_par4D (i j l m : Nat) {x y z u : Str} {a b e : Expr} {px py pz pu pt pos pd : Pos} {kt k2 pt2}
    (h : WE c a δ fun d1 => d1.still = true ∧ WE c b δ fun d2 => d2.still = true ∧ WE c e δ fun d4 => d4.still = true ∧ E.nx ((((δ.set i (some d1)).set j (some d2)).set l (some (.odk [] []))).set m (some d4)))
    (hi : X.N[i]? = some x) (hj : X.N[j]? = some y) (hl : X.N[l]? = some z) (hm : X.N[m]? = some u) (hil : i ≠ l) (hjl : j ≠ l)
    (hx : Loc X.env.scope x) (hy : Loc X.env.scope y) (hz : Loc X.env.scope z) (hu : Loc X.env.scope u) (fx : X.fn x = true ∨ X.env.scope.names.lookup x = some .local) (fy : X.fn y = true ∨ X.env.scope.names.lookup y = some .local) (fz : X.fn z = true ∨ X.env.scope.names.lookup z = some .local) (fu : X.fn u = true ∨ X.env.scope.names.lookup u = some .local)
    (hw : swappedStores [.Tuple [.Name x px, .Name y py, .Name z pz, .Name u pu] kt pt] (.Tuple [a, b, .Dict [] [] pd, e] k2 pt2) X.env = pure none)
    (hs : swapsWithSole [.Tuple [.Name x px, .Name y py, .Name z pz, .Name u pu] kt pt] (.Tuple [a, b, .Dict [] [] pd, e] k2 pt2) pos.line X.env = pure false)
    (s1 : starEach [a, b, .Dict [] [] pd, e] X.env = (false, eval a X.env) :: starEach [b, .Dict [] [] pd, e] X.env := by rfl) (s2 : starEach [b, .Dict [] [] pd, e] X.env = (false, eval b X.env) :: starEach [.Dict [] [] pd, e] X.env := by rfl)
    (s3 : starEach [.Dict [] [] pd, e] X.env = (false, eval (.Dict [] [] pd) X.env) :: starEach [e] X.env := by rfl) (s4 : starEach [e] X.env = (false, eval e X.env) :: starEach [] X.env := by rfl) :
    WS c (.Assign [.Tuple [.Name x px, .Name y py, .Name z pz, .Name u pu] kt pt] (.Tuple [a, b, .Dict [] [] pd, e] k2 pt2) pos) δ E := fun L σ H D N C =>
  runS_of (ps_asg (pe_tup (pa_cons pe_run (pa_cons pe_run (pa_cons pe_dnewK (pa_cons pe_run pa_nil s4) s3) s2) s1)) (pg_tup (n := 4) c.calm (pgs_cons (pg_name c.nd hi hx fx) (pgs_cons (pg_name c.nd hj hy fy) (pgs_cons (pg_name c.nd hl hz fz) (pgs_cons (pg_name c.nd hm hu fu) pgs_nil rfl) rfl) rfl) rfl) rfl rfl) hs hw rfl) (by
    refine h L σ H _ N fun v1 H1 d1 e1 r1 ⟨t1, g1⟩ => ?_
    have N1 := N.mono e1
    refine g1 L σ H1 _ N1 fun v2 H2 d2 e2 r2 ⟨t2, g2⟩ => ?_
    have N2 := N1.mono e2
    intro q hq
    have e3 : Same U H2 (upd H2 q (.dK [])) := same_new hq
    obtain ⟨L3, N3, hd3, tr3, fr3⟩ := N2.hold (d := .odk [] []) (v := .ref q) e3 ⟨q, [], rfl, .of hq, upd_same, rfl, rfl⟩
    refine g2 L3 σ _ _ N3 fun v4 H4 d4 e4 r4 ⟨t4, g4⟩ => ?_
    refine ⟨by show 4 ≤ sizeLine; decide, fun p hp => ?_⟩
    have e5 : Same U H4 (upd H4 p (.tup [v1, v2, .ref q, v4])) := same_new hp
    refine ⟨p, [v1, v2, .ref q, v4], rfl, SqT.of upd_same, rfl, v1, _, rfl, v2, _, rfl, .ref q, _, rfl, v4, [], rfl, rfl, ?_⟩
    have N4 : En c L3 _ (σ.set l (some (.ref q))) (δ.set l (some (.odk [] []))) := (N3.put (i := l) hd3).mono (e4.trans e5)
    have q1 := ((tr3 _ _ (r1.mono e2)).mono (e4.trans e5)).rep t1
    have q2 := ((tr3 _ _ r2).mono (e4.trans e5)).rep t2
    have q4 := (r4.mono e5).rep t4
    have N5 := ((N4.set (i := i) q1).set (i := j) q2).set (i := m) q4
    rw [List.set_comm _ _ hil.symm, List.set_comm _ _ hjl.symm, List.set_comm _ _ hil.symm, List.set_comm _ _ hjl.symm] at N5
    exact C.nx L3 _ _ _ N5 g4)
end
def Rd.par4D (i j l m : Nat) (a b e : RdE) : RdS := fun T δ E => a T δ fun d1 => stP d1 (b T δ fun d2 => stP d2 (e T δ fun d4 => stP d4 (fc (st (st (st (st δ i (some d1)) j (some d2)) l (some (.odk [] []))) m (some d4)) E.nx)))
theorem De.par4D {f : Fr} {a b e : Expr} {x y z u : Str} {px py pz pu pt pos pd : Pos} {kt k2 pt2} {ta tb te : RdE} (i j l m : Nat) (ha : ReE f a ta) (hb : ReE f b tb) (he : ReE f e te) (hi : f.N[i]? = some x := by rfl) (hj : f.N[j]? = some y := by rfl) (hl : f.N[l]? = some z := by rfl) (hm : f.N[m]? = some u := by rfl) (hil : i ≠ l := by decide) (hjl : j ≠ l := by decide)
    (hx : tgB f.z f.sc x = true := by (try dsimp only [Fr.blk, Fr.lam]); first | exact tgB_code (by decide +kernel) | decide +kernel) (hy : tgB f.z f.sc y = true := by (try dsimp only [Fr.blk, Fr.lam]); first | exact tgB_code (by decide +kernel) | decide +kernel)
    (hz : tgB f.z f.sc z = true := by (try dsimp only [Fr.blk, Fr.lam]); first | exact tgB_code (by decide +kernel) | decide +kernel) (hu : tgB f.z f.sc u = true := by (try dsimp only [Fr.blk, Fr.lam]); first | exact tgB_code (by decide +kernel) | decide +kernel)
    (hw : swappedStores [.Tuple [.Name x px, .Name y py, .Name z pz, .Name u pu] kt pt] (.Tuple [a, b, .Dict [] [] pd, e] k2 pt2) { scope := f.sc, locals := 0, globals := 0, cells := [] } = pure none := by rfl)
    (hs : ∀ X : Cx, swapsWithSole [.Tuple [.Name x px, .Name y py, .Name z pz, .Name u pu] kt pt] (.Tuple [a, b, .Dict [] [] pd, e] k2 pt2) pos.line X.env = pure false := by intro _; rfl)
    (s1 : ∀ X : Cx, starEach [a, b, .Dict [] [] pd, e] X.env = (false, eval a X.env) :: starEach [b, .Dict [] [] pd, e] X.env := by intro _; rfl) (s2 : ∀ X : Cx, starEach [b, .Dict [] [] pd, e] X.env = (false, eval b X.env) :: starEach [.Dict [] [] pd, e] X.env := by intro _; rfl)
    (s3 : ∀ X : Cx, starEach [.Dict [] [] pd, e] X.env = (false, eval (.Dict [] [] pd) X.env) :: starEach [e] X.env := by intro _; rfl) (s4 : ∀ X : Cx, starEach [e] X.env = (false, eval e X.env) :: starEach [] X.env := by intro _; rfl) :
    ReS f (.Assign [.Tuple [.Name x px, .Name y py, .Name z pz, .Name u pu] kt pt] (.Tuple [a, b, .Dict [] [] pd, e] k2 pt2) pos) (Rd.par4D i j l m ta tb te) := .mk fun {X T} c F δ E h =>
  WS_par4D i j l m ((ha c F δ _ h).mono fun d1 h1 => ⟨(stP_ok h1).1, (hb c F δ _ (stP_ok h1).2).mono fun d2 h2 => ⟨(stP_ok h2).1, (he c F δ _ (stP_ok h2).2).mono fun d4 h4 => ⟨(stP_ok h4).1, by
    have k := (stP_ok h4).2
    rw [fc_eq, st_eq, st_eq, st_eq, st_eq] at k
    exact k⟩⟩⟩) (by rw [F.n]; exact hi) (by rw [F.n]; exact hj) (by rw [F.n]; exact hl) (by rw [F.n]; exact hm) hil hjl (F.loc (F.tl hx)) (F.loc (F.tl hy)) (F.loc (F.tl hz)) (F.loc (F.tl hu)) (F.fn hx) (F.fn hy) (F.fn hz) (F.fn hu) (swapped_at F.s _ _ hw) (hs X) (s1 X) (s2 X) (s3 X) (s4 X)
/-! ### xs[a:b] = ys -/
def gSlc (to ta tb : TE) : TG := fun v σ H Q => to σ H fun x H1 => ta σ H1 fun y H2 => tb σ H2 fun z H3 => ∃ (l q : Addr) (xs ys : List V) (i j : Int), (x = .ref l ∧ v = .ref q ∧ y = .int i ∧ z = .int j) ∧ (H3 l = some (.lst xs) ∧ H3 q = some (.lst ys) ∧ l ≠ q) ∧
  (0 ≤ i ∧ i ≤ j ∧ j ≤ xs.length ∧ xs.length + ys.length ≤ sizeLine) ∧ Q σ (upd H3 l (.lst (xs.take i.toNat ++ ys ++ xs.drop j.toNat)))
theorem pg_slc {X : Cx} {o a b : Expr} {to ta tb : TE} {p2 pos : Pos} (ho : PE X o to) (ha : PE X a ta) (hb : PE X b tb)
    (he : ∀ v, assign (.Subscript o (.Slice (some a) (some b) none p2) pos) X.env v = (do
      let ov ← holding [v] (eval o X.env)
      let iv ← holding [v, ov] (eval (.Slice (some a) (some b) none p2) X.env)
      standAt pos
      holding [v, ov, iv] (setItem ov iv v)
      release [iv, v, ov] []) := by intro _; rfl) : PG X (.Subscript o (.Slice (some a) (some b) none p2) pos) (gSlc to ta tb) := by
  constructor
  intro pins s σ H v u Q I r h
  rw [he]
  refine wpAny_bind (wpAny_holding (thn (ho.run pins s σ H _ I h) fun w t1 k1 => ?_))
  obtain ⟨x, H1, I1, r1, k1⟩ := k1
  refine wpAny_bind (wpAny_holding ?_)
  refine wpAny_Slice ?_
  rw [evalPart_some, evalPart_some, evalPart_none]
  refine thn (ha.run pins t1 σ H1 _ I1 k1) fun w2 t2 k2 => ?_
  obtain ⟨y, H2, I2, r2, k2⟩ := k2
  refine thn (hb.run pins t2 σ H2 _ I2 k2) fun w3 t3 k3 => ?_
  obtain ⟨z, H3, I3, r3, k3⟩ := k3
  refine wpAny_pure ?_
  obtain ⟨l, q, xs, ys, i, j, ⟨rfl, rfl, rfl, rfl⟩, ⟨hl, hq, hne⟩, ⟨z0, z1, z2, z3⟩, k4⟩ := k3
  obtain rfl : w = Value.ref l := r1
  obtain rfl : u = Value.ref q := r
  have I4 : Inv X pins σ H3 { t3 with heap := t3.heap.push { cls := .type "slice", data := .fields #[w2, w3, .none] } } := I3.kept (t' := t3.toks) fun b ob e => Heap.get?_push_of_some _ e
  refine wpAny_bind (wpAny_standAt (wpAny_bind (wpAny_holding ?_)))
  refine set_slice (sl := t3.heap.objs.size) I4 hl hq hne (Heap.IsSliceOf.new ..) r2 r3 z0 z1 z2 z3 fun t4 I5 => ?_
  exact wpAny_release ⟨σ, _, I5, k4⟩
section
variable {X : Cx} {U : Pu} {lv : Nat} {T : XD} {c : Ct X U lv T} {δ : List (Option D)} {E : SE} {e : Expr}
theorem WS_setSl (i : Nat) {x : Str} {xs : List D} {p spos pos p2 : Pos} {a b : Expr} (hi : δ[i]? = some (some (.own xs)))
    (h : WF c e δ fun ys => WE c a δ fun d1 => WE c b δ fun d2 => ∃ m n : Int, d1 = .int m ∧ d2 = .int n ∧ (0 ≤ m ∧ m ≤ n ∧ n ≤ xs.length ∧ xs.length + ys.length ≤ sizeLine ∧ m.toNat + ys.length + (xs.length - n.toNat) ≤ sizeLine) ∧ E.nx (δ.set i (some (.own (xs.take m.toNat ++ ys ++ xs.drop n.toNat)))))
    (hN : X.N[i]? = some x) (hv : Vis X.env.scope x) (hd : (x == ("__debug__" : Str)) = false) (hcd : (x == ("__classdict__" : Str)) = false)
    (he : ∀ v, assign (.Subscript (.Name x p) (.Slice (some a) (some b) none p2) spos) X.env v = (do
      let ov ← holding [v] (eval (.Name x p) X.env)
      let iv ← holding [v, ov] (eval (.Slice (some a) (some b) none p2) X.env)
      standAt spos
      holding [v, ov, iv] (setItem ov iv v)
      release [iv, v, ov] []) := by intro _; rfl)
    (hs : swapsWithSole [.Subscript (.Name x p) (.Slice (some a) (some b) none p2) spos] e pos.line X.env = pure false := by rfl) (hw : swappedStores [.Subscript (.Name x p) (.Slice (some a) (some b) none p2) spos] e X.env = pure none := by rfl) (h1 : (assignEach [.Subscript (.Name x p) (.Slice (some a) (some b) none p2) spos] X.env).map (·.2) = [assign (.Subscript (.Name x p) (.Slice (some a) (some b) none p2) spos) X.env] := by rfl) :
    WS c (.Assign [.Subscript (.Name x p) (.Slice (some a) (some b) none p2) spos] e pos) δ E := fun L σ H D N C => by
  obtain ⟨v, hσ, l, vs, rfl, hl, hlb, hH, r, z⟩ := N.rep i _ hi
  refine runS_of (ps_asg pe_run (pg_slc (pe_var hN hv hd hcd) pe_run pe_run he) hs hw h1) ?_
  refine h L σ H _ N fun q H1 us ys s1 nq hq rq zq k1 => ⟨.ref l, hσ, ?_⟩
  have nl := N.ok.freshN nq
  refine k1 L σ H1 _ (N.mono s1) fun y H2 d1 s2 r2 k2 => ?_
  refine k2 L σ H2 _ (N.mono (s1.trans s2)) fun w H3 d2 s3 r3 k3 => ?_
  obtain ⟨m, n, rfl, rfl, ⟨z0, z1, z2, z3, z4⟩, k4⟩ := k3
  have e13 := s1.trans (s2.trans s3)
  have r' := Reps.mono (hide_same e13.k) _ _ r
  have lx : xs.length = vs.length := r.len
  have ly : ys.length = us.length := rq.len
  have rq' : Reps X.K U (hide L H3) ys us := Reps.mono (hide_le fun b hb => List.mem_cons_of_mem _ hb) _ _ (Reps.mono (hide_same (s2.trans s3).k) _ _ rq)
  refine ⟨l, q, vs, us, m, n, ⟨rfl, rfl, r2, r3⟩, ⟨e13.at _ _ hH, (s2.trans s3).at _ _ hq, fun ee => nl (ee ▸ hl)⟩, ⟨z0, z1, by omega, by omega⟩, ?_⟩
  refine C.nx L σ _ _ ((N.mono e13).change hi hσ hl hlb (((r'.take m.toNat).app rq').app (r'.drop n.toNat)) ?_) k4
  rw [List.length_append, List.length_append, List.length_take, List.length_drop]
  omega
end
def Rd.setSlK (δ : List (Option D)) (i : Nat) (xs ys : List D) (E : SE) : D → D → Prop
  | .int m, .int n => (0 ≤ m ∧ m ≤ n ∧ n ≤ xs.length ∧ xs.length + ys.length ≤ sizeLine ∧ m.toNat + ys.length + (xs.length - n.toNat) ≤ sizeLine) ∧ fc (st δ i (some (.own (xs.take m.toNat ++ ys ++ xs.drop n.toNat)))) E.nx
  | _, _ => False
def Rd.setSl (i : Nat) (ta tb : RdE) (te : RdA) : RdS := fun T δ E => Rd.ownP (sl δ i) fun xs => te T δ fun ys => ta T δ fun d1 => tb T δ fun d2 => Rd.setSlK δ i xs ys E d1 d2
theorem De.setSl {f : Fr} {e a b : Expr} {x : Str} {te : RdA} {ta tb : RdE} {p spos pos p2 : Pos} (i : Nat) (ha : ReE f a ta) (hb : ReE f b tb) (he : ReF f e te) (hn : f.N[i]? = some x := by rfl) (hv : visB f.sc x = true := by (try dsimp only [Fr.blk, Fr.lam]); decide +kernel)
    (h0 : ∀ X : Cx, ∀ v, assign (.Subscript (.Name x p) (.Slice (some a) (some b) none p2) spos) X.env v = (do
      let ov ← holding [v] (eval (.Name x p) X.env)
      let iv ← holding [v, ov] (eval (.Slice (some a) (some b) none p2) X.env)
      standAt spos
      holding [v, ov, iv] (setItem ov iv v)
      release [iv, v, ov] []) := by intro _ _; rfl)
    (hs : ∀ X : Cx, swapsWithSole [.Subscript (.Name x p) (.Slice (some a) (some b) none p2) spos] e pos.line X.env = pure false := by intro _; rfl) (hw : ∀ X : Cx, swappedStores [.Subscript (.Name x p) (.Slice (some a) (some b) none p2) spos] e X.env = pure none := by intro _; rfl) (h1 : ∀ X : Cx, (assignEach [.Subscript (.Name x p) (.Slice (some a) (some b) none p2) spos] X.env).map (·.2) = [assign (.Subscript (.Name x p) (.Slice (some a) (some b) none p2) spos) X.env] := by intro _; rfl) :
    ReS f (.Assign [.Subscript (.Name x p) (.Slice (some a) (some b) none p2) spos] e pos) (Rd.setSl i ta tb te) := .mk fun {X T} c F δ E h => by
  obtain ⟨xs, hi, h⟩ := own_ok h
  refine WS_setSl i hi (fun L σ H Q N q => he c F δ _ h L σ H Q N fun l H' vs ds s g1 g2 g3 g4 g5 => q l H' vs ds s g1 g2 g3 g4 ((ha c F δ _ g5).mono fun d1 k1 => (hb c F δ _ k1).mono fun d2 k2 => ?_)) (by rw [F.n]; exact hn) (F.vis hv) (visB_ok hv).2.1 (visB_ok hv).2.2 (h0 X) (hs X) (hw X) (h1 X)
  unfold Rd.setSlK at k2
  split at k2
  · obtain ⟨a1, a2⟩ := k2
    rw [fc_eq, st_eq] at a2
    exact ⟨_, _, rfl, rfl, a1, a2⟩
  · exact k2.elim
/-! ### text[a:b] -/
def Rd.slcS (ta : RdE) (tl th : RdO) : RdE := fun T δ S => ta T δ fun x => tl T δ fun i => th T δ fun j => match x with
  | .str z => z.length ≤ sizeLine ∧ S (.str (cutS z i j))
  | _ => False
theorem De.slcS {f : Fr} {a : Expr} {ta : RdE} {lo hi : Option Expr} {tl th : RdO} {p2 pos : Pos} (ha : ReE f a ta) (hl : ReP f lo tl) (hh : ReP f hi th) : ReE f (.Subscript a (.Slice lo hi none p2) pos) (Rd.slcS ta tl th) := .mk fun c F δ S h => WE_sl ((ha c F δ _ h).mono fun x h1 => De.WP_mono (hl c F δ _ h1) fun i h2 => De.WP_mono (hh c F δ _ h2) fun j h3 => by
  cases x with
  | str z => exact sd_of sl_str fun L H vx Q k rx q => ⟨z, rx, h3.1, q _ H (.str _) (Same.refl H) rfl h3.2⟩
  | _ => exact False.elim h3)
end Dl

set_option maxRecDepth 100000
set_option maxHeartbeats 4000000
/-! # Dicts whose keys are tuples -/
namespace Dl
open PySem PySem.Spec PyProof.Rows L2
/-- a comprehension stores at a tuple -/
theorem dk_setT {X : Cx} {pins : List (Addr × Obj)} {σ : L2.St} {H : Hp} {s : Shared} {E : Value → Shared → Prop} {Q : Unit → Shared → Prop} {dd b : Addr} {kvs : List (List Key × V)} {k : List Key} {y : V} {rv : Value} (room : (tupleKind (mixKind X.prog X.w)).room X.A) (I : Inv X pins σ H s)
    (at_ : H dd = some (.dT kvs)) (less : kvs.length < sizeLine) (key : H b = some (.tup (k.map kV))) (rel : RelV y rv) (next : ∀ t, Inv X pins σ (upd H dd (.dT (putK kvs k y))) t → Q () t) : wpAny (model X.prog X.w) X.A (dictSet dd (.ref b) rv) Q E s := by
  obtain ⟨z1, z2, xs, kt, dh⟩ := dt_of I.hok at_
  have l1 : xs.length ≤ sizeLine := by rw [← Paired.length kt]; exact z1
  have l2 : (putK kvs k y).length ≤ sizeLine := by have := length_putK kvs k y; omega
  refine wpAny_dictSet_heap (hsz := l1) room (key_of I.hok key) dh fun h2 dh2 same => next _ ?_
  obtain ⟨ob, es, ep, o1, o2, o3, o4, _, o5⟩ := dh2
  refine d_write I (by rw [at_]; exact True.intro) same ⟨ob, o1⟩ ⟨l2, z2, _, (kt.put k key rel).keeps fun c ys ec => ?_, ob, es, ep, o1, o2, o3, o4, o5⟩
  rw [upd_ne (ne_of ec at_ (fun z => nomatch z))]
  exact ec
/-- what stands at a key that is a tuple -/
def dtGet : List (List Key) → List D → List Key → Option D
  | k' :: ks, d :: ds, k => if k' = k then some d else dtGet ks ds k
  | _, _, _ => none
theorem dtGet_valV {K : PySem.W.Frag} {U : Pu} {H : Hp} : ∀ {ks : List (List Key)} {ds : List D} {vs : List V} {k : List Key}, Reps K U H ds vs → match dtGet ks ds k with
    | some d => ∃ v, valV (ks.zip vs) k = some v ∧ Rep K U H d v
    | none => valV (ks.zip vs) k = none
  | [], _, vs, _, _ => by simp only [dtGet]; cases vs <;> rfl
  | _ :: _, [], vs, _, r => by
    rw [show vs = [] from r]
    simp only [dtGet]
    rfl
  | k' :: ks, d' :: ds, vs, k, r => by
    obtain ⟨v, vs', rfl, r1, r2⟩ := r
    rw [List.zip_cons_cons]
    by_cases e : k' = k
    · simp only [dtGet, if_pos e]
      exact ⟨v, valV_pos e, r1⟩
    · simp only [dtGet, if_neg e]
      rw [valV_neg e]
      exact dtGet_valV r2
theorem rep_dct {K : PySem.W.Frag} {U : Pu} {Lb L : List Addr} {H : Hp} {ks : List (List Key)} {ds : List D} {v : V} (h : RepO K U Lb L H (.dct ks ds) v) : ∃ a vs, v = .ref a ∧ H a = some (.dT (ks.zip vs)) ∧ Reps K U (hide L H) ds vs ∧ ks.length = ds.length := by
  obtain ⟨a, vs, h1, h2, h3, h4⟩ := h
  exact ⟨a, vs, h1, (hide_at h2).2, h3, h4⟩
/-! ### d[(a, b)] -/
def Rd.dixT (ta t1 t2 : RdE) : RdE := fun T δ S => ta T δ fun x => t1 T δ fun y1 => t2 T δ fun y2 => match x, y1, y2 with
  | .dct ks ds, .int i, .int j => ∃ d, dtGet ks ds [.inl i, .inl j] = some d ∧ S d
  | _, _, _ => False
theorem De.dixT {f : Fr} {a b1 b2 : Expr} {ta t1 t2 : RdE} {kt : Nat} {pos ptu : Pos} (ha : ReE f a ta) (h1 : ReE f b1 t1) (h2 : ReE f b2 t2) (hs : NoSl (.Tuple [b1, b2] kt ptu) := by intros _ _; rfl)
    (s1 : ∀ X : Cx, starEach [b1, b2] X.env = (false, eval b1 X.env) :: starEach [b2] X.env := by intro _; rfl) (s2 : ∀ X : Cx, starEach [b2] X.env = (false, eval b2 X.env) :: starEach [] X.env := by intro _; rfl) : ReE f (.Subscript a (.Tuple [b1, b2] kt ptu) pos) (Rd.dixT ta t1 t2) := .mk fun {X T} c F δ S h => fun L σ H Q E q =>
  runE_of (pe_dget (Nat.lt_of_le_of_lt (Nat.add_le_add_left (by decide) _) (units65 c)) pe_run (pe_tup (pa_cons pe_run (pa_cons pe_run pa_nil (s2 X)) (s1 X))) hs) (ha c F δ _ h L σ H _ E fun v H1 x e1 r1 k1 => h1 c F δ _ k1 L σ H1 _ (E.mono e1) fun u1 H2 y1 e2 r2 k2 => h2 c F δ _ k2 L σ H2 _ (E.mono (e1.trans e2)) fun u2 H3 y2 e3 r3 k3 => by
    refine ⟨by show 2 ≤ sizeLine; decide, fun p hp => ?_⟩
    cases x with
    | dct ks ds =>
      cases y1 with
      | int i =>
        cases y2 with
        | int j =>
          obtain ⟨d, g1, g2⟩ := k3
          obtain rfl : u1 = .int i := r2
          obtain rfl : u2 = .int j := r3
          have e4 : Same f.U H3 (upd H3 p (.tup [.int i, .int j])) := same_new hp
          obtain ⟨a, vs, rfl, w1, w2, w3⟩ := rep_dct (((r1.mono e2).mono e3).mono e4)
          have g := dtGet_valV (ks := ks) (k := [.inl i, .inl j]) w2
          rw [g1] at g
          obtain ⟨w, w4, w5⟩ := g
          exact ⟨a, w, rfl, by rw [← w4]; exact DGet.t (k := [.inl i, .inl j]) w1 upd_same, q w _ d (e1.trans (e2.trans (e3.trans e4))) (.of_rep w5) g2⟩
        | _ => exact False.elim k3
      | _ => exact False.elim k3
    | _ => exact False.elim k3)
/-! ### d.get((a, b), e) -/
def Rd.dctP : D → (List (List Key) → List D → Prop) → Prop
  | .dct ks ds, A => A ks ds
  | _, _ => False
theorem dct_ok {x : D} {A : List (List Key) → List D → Prop} (h : Rd.dctP x A) : ∃ ks ds, x = .dct ks ds ∧ A ks ds := by
  cases x with
  | dct ks ds => exact ⟨ks, ds, rfl, h⟩
  | _ => exact False.elim h
def Rd.dgetT (ta t1 t2 te : RdE) : RdE := fun T δ S => ta T δ fun x => Rd.dctP x fun ks ds => t1 T δ fun y1 => t2 T δ fun y2 => te T δ fun z => match y1, y2 with
  | .int i, .int j => z.still = true ∧ S ((dtGet ks ds [.inl i, .inl j]).getD z)
  | _, _ => False
theorem De.dgetT {f : Fr} {a b1 b2 e : Expr} {ta t1 t2 te : RdE} {kt : Nat} {ptu apos cpos : Pos} (ha : ReE f a ta) (h1 : ReE f b1 t1) (h2 : ReE f b2 t2) (he : ReE f e te) (m : ∀ X : Cx, M2 X a "get" apos (.Tuple [b1, b2] kt ptu) e cpos := by intro _; exact ⟨rfl, rfl, rfl, rfl⟩)
    (s1 : ∀ X : Cx, starEach [b1, b2] X.env = (false, eval b1 X.env) :: starEach [b2] X.env := by intro _; rfl) (s2 : ∀ X : Cx, starEach [b2] X.env = (false, eval b2 X.env) :: starEach [] X.env := by intro _; rfl) : ReE f (.Call (.Attribute a "get" apos) [.Tuple [b1, b2] kt ptu, e] [] cpos) (Rd.dgetT ta t1 t2 te) := .mk fun {X T} c F δ S h => fun L σ H Q E q =>
  runE_of (pe_dget2 (Nat.lt_of_le_of_lt (Nat.add_le_add_left (by decide) _) (units65 c)) pe_run (pe_tup (pa_cons pe_run (pa_cons pe_run pa_nil (s2 X)) (s1 X))) pe_run (m X)) (ha c F δ _ h L σ H _ E fun v H1 x e1 r1 k0 => by
    obtain ⟨ks, ds, rfl, k1⟩ := dct_ok k0
    obtain ⟨a0, vs0, rfl, y1, _, _⟩ := rep_dct r1
    refine ⟨a0, rfl, .inr ⟨_, .inl y1⟩, ?_⟩
    refine h1 c F δ _ k1 L σ H1 _ (E.mono e1) fun u1 H2 z1 e2 r2 k2 => h2 c F δ _ k2 L σ H2 _ (E.mono (e1.trans e2)) fun u2 H3 z2 e3 r3 k3 => ⟨by show 2 ≤ sizeLine; decide, fun p hp => ?_⟩
    have e4 : Same f.U H3 (upd H3 p (.tup [u1, u2])) := same_new hp
    refine he c F δ _ k3 L σ _ _ (E.mono (e1.trans (e2.trans (e3.trans e4)))) fun w H5 z e5 r5 k5 => ?_
    cases z1 with
    | int i =>
      cases z2 with
      | int j =>
        obtain ⟨st, k5⟩ := k5
        obtain rfl : u1 = .int i := r2
        obtain rfl : u2 = .int j := r3
        obtain ⟨a, vs, ea, w1, w2, w3⟩ := rep_dct ((((r1.mono e2).mono e3).mono e4).mono e5)
        cases ea
        have key : H5 p = some (.tup [.int i, .int j]) := e5.at _ _ upd_same
        refine ⟨_, DGet.t (k := [.inl i, .inl j]) w1 key, ?_⟩
        have g := dtGet_valV (ks := ks) (k := [.inl i, .inl j]) w2
        cases o : dtGet ks ds [.inl i, .inl j] with
        | none =>
          rw [o] at g k5
          rw [g]
          exact q w H5 z (e1.trans (e2.trans (e3.trans (e4.trans e5)))) r5 k5
        | some d =>
          rw [o] at g k5
          obtain ⟨w4, w5, w6⟩ := g
          rw [w5]
          exact q w4 H5 d (e1.trans (e2.trans (e3.trans (e4.trans e5)))) (.of_rep w6) k5
      | _ => exact False.elim k5
    | _ => exact False.elim k5)
end Dl

set_option maxRecDepth 100000
set_option maxHeartbeats 4000000
/-! # Comprehensions of dicts whose keys are tuples -/
namespace Dl
open PySem PySem.Spec PyProof.Rows L2
section
variable {X : Cx}
/-- what a turn leaves: a tuple of flat things as the key, room in the dict -/
def PutT (D : Addr) (y z : V) (H : Hp) (Nx : Hp → Prop) : Prop := ∃ kvs k b, y = .ref b ∧ H b = some (.tup (k.map kV)) ∧ H D = some (.dT kvs) ∧ kvs.length < sizeLine ∧ Nx (upd H D (.dT (putK kvs k z)))
/-- said of all contexts of a block -/
abbrev InBlk (X : Cx) (scope : Scope) (φ : Cx → Prop) : Prop := ∀ (t : Shared) (G : Hp) (c : Addr) (cs : List (Str × Addr)) (ps : List Addr), φ (X.blk t G scope (compEnvC scope cs c X.env) ps)
/-- a turn -/
def TurnD (g : TG) (tt : TT) (tk tv : TE) (vs : List Nat) (σ : L2.St) (D : Addr) (Nx : Hp → Prop) (x : V) (H : Hp) : Prop :=
  g x (wipe σ vs) H fun σa Ha => wipe σa vs = wipe σ vs ∧ tt σa Ha fun b Hb => if b = true then tk σa Hb fun y Hc => tv σa Hc fun z Hd => PutT D y z Hd Nx else Nx Hb
def tDt (wi : TI) (g : TG) (tt : TT) (tk tv : TE) (vs : List Nat) : TE := fun σ H Q => wi σ H fun J Ha => ∀ D, Ha D = none → ∃ W : Nat → Nat → Hp → Prop, (∃ m, W 0 m (upd Ha D (.dT []))) ∧
  ∀ i m Hb, W i m Hb → (J.stop i Hb ∧ Q (.ref D) Hb) ∨ (J.go i Hb ∧ ∃ Nx : Hp → Prop, (∀ Hc, Nx Hc → ∃ k, k < m ∧ W (i + 1) k Hc) ∧ ∀ x Hc, J.yld i Hb x Hc → TurnD g tt tk tv vs σ D Nx x Hc)
theorem dtc_core {pins : List (Addr × Obj)} {s : Shared} {σ : L2.St} {H : Hp} {Q : VK} {kx vx tg iter : Expr} {ifs : List Expr} {scope : Scope} {own : List (Str × Nat)} {pos pos' : Pos} {wi : TI} {g : TG} {tt : TT} {tk tv : TE} {Qf : Value → Shared → Prop}
    (ur : X.A.units < cLine) (calm : X.calm = true) (nd : X.N.Nodup) (I : Inv X pins σ H s) (src : PI X tg iter wi) (ok : BlkOk X.N X.env.scope scope own)
    (bg : InBlk X scope fun Y => PG Y tg g) (bt : InBlk X scope fun Y => PTs Y ifs tt) (bk : InBlk X scope fun Y => PE Y kx tk) (bv : InBlk X scope fun Y => PE Y vx tv)
    (fold : ∀ x, foldedSetIterable iter X.env x = pure x) (h : tDt wi g tt tk tv (own.map (·.2)) σ H Q)
    (last : ∀ D C t m G, Inv X pins σ G t → Q (.ref D) G → t.heap.Ns C m → FpOk X pins G C → compPost (model X.prog X.w) X.A X.xe none Qf (.ref D) C (.ok .next) t) :
    wpAny (model X.prog X.w) X.A (comprehension (.DictComp kx vx [⟨tg, iter, ifs, 0⟩] scope pos) scope X.env pos' newDict false (eval iter X.env) none) Qf X.xe s := by
  have fr : ∀ y ∈ scope.names, y.2 = .free → ∃ c, X.env.cells.lookup y.1 = some c := fun y m e =>
    I.ok.has _ (ok.free y m e)
  refine wpAny_comprehension_free (use := none) rfl fold (closure_ok fr) ok.kind (fun y m e => by rw [← e]; exact ok.uniq y m) ?_
  refine thn (src.run pins s σ H _ I h) fun xv sa hx => ?_
  refine thn hx fun itv sb hb => ?_
  obtain ⟨it, fp, tn, J, Hb, rfl, Ib, T, sts, fps, q⟩ := hb
  refine (wpAny_newObj_type (newEnv_comp ?_))
  have new : Hb sb.heap.objs.size = none := Ib.hok.fresh (Nat.le_refl _)
  obtain ⟨W, ⟨m0, w0⟩, turn⟩ := q sb.heap.objs.size new
  -- the dict, laid
  have Ic : Inv X pins σ (upd Hb sb.heap.objs.size (.dT [])) { sb with heap := sb.heap.push { cls := .type "dict", data := .dict #[] } } :=
    Ib.laid (t' := sb.toks) (fun b o e => Heap.get?_push_of_some _ e) (Nat.le_refl _) (dt_empty sb.heap Ib.big)
  have below : ∀ b ∈ fp, b < sb.heap.objs.size := fun b m => (T.obj _ _ sts b m).elim fun o e => Heap.lt_size e.1
  have stc : tn 0 (sb.heap.push { cls := .type "dict", data := .dict #[] }) := T.keep _ _ _ sts fun b _ o e => Heap.get?_push_of_some _ e
  have fpc : ∀ b ∈ fp, FpOk X pins (upd Hb sb.heap.objs.size (.dT [])) b ∧ b < (sb.heap.push { cls := .type "dict", data := .dict #[] }).objs.size := fun b m => by
    have lt := below b m
    refine ⟨⟨(upd_ne (Nat.ne_of_lt lt)).trans (fps b m).1, (fps b m).2⟩, ?_⟩
    rw [Heap.size_push]
    exact Nat.lt_succ_of_lt lt
  generalize sb.heap.objs.size = D at *
  generalize upd Hb D (.dT []) = Hc at *
  generalize ec : ({ sb with heap := sb.heap.push { cls := .type "dict", data := .dict #[] } } : Shared) = sc at *
  have hc : sb.heap.push { cls := .type "dict", data := .dict #[] } = sc.heap := by rw [← ec]
  simp only [hc] at fpc stc ⊢
  have Id := block_start Ic ok nd fpc
  have nofp : ∀ b ∈ fp, Hc b = none := fun b m => (fpc b m).1.1
  have std : tn 0 (pushCells (sc.heap.push { cls := .type "dict", data := .dict #[] }) scope.names) := T.keep _ _ _ stc fun b _ o e => pushCells_keeps _ _ _ _ (Heap.get?_push_of_some _ e)
  show codeAny _ _ (.compStart _ 0 (.ref it) (.ref D) (compEnvC scope (cellsFrom (sc.heap.objs.size + 1) scope.names (cloFrom X.env.cells scope.names [])) sc.heap.objs.size X.env)) (compPost (model X.prog X.w) X.A X.xe none Qf (.ref D) sc.heap.objs.size) { sc with heap := pushCells (sc.heap.push { cls := .type "dict", data := .dict #[] }) scope.names }
  replace bg := bg sc Hc sc.heap.objs.size (cellsFrom (sc.heap.objs.size + 1) scope.names (cloFrom X.env.cells scope.names [])) fp
  replace bt := bt sc Hc sc.heap.objs.size (cellsFrom (sc.heap.objs.size + 1) scope.names (cloFrom X.env.cells scope.names [])) fp
  replace bk := bk sc Hc sc.heap.objs.size (cellsFrom (sc.heap.objs.size + 1) scope.names (cloFrom X.env.cells scope.names [])) fp
  replace bv := bv sc Hc sc.heap.objs.size (cellsFrom (sc.heap.objs.size + 1) scope.names (cloFrom X.env.cells scope.names [])) fp
  have el : (compEnvC scope (cellsFrom (sc.heap.objs.size + 1) scope.names (cloFrom X.env.cells scope.names [])) sc.heap.objs.size X.env).locals = sc.heap.objs.size := rfl
  generalize compEnvC scope (cellsFrom (sc.heap.objs.size + 1) scope.names (cloFrom X.env.cells scope.names [])) sc.heap.objs.size X.env = en at *
  generalize es : ({ sc with heap := pushCells (sc.heap.push { cls := .type "dict", data := .dict #[] }) scope.names } : Shared) = sd at Id ⊢
  have std : tn 0 sd.heap := by rw [← es]; exact std
  have fine : ∀ {τ : L2.St} {G : Hp} {t : Shared}, Inv (X.blk sc Hc scope en fp) [] τ G t → (∀ b ∈ fp, G b = none) → ∀ b ∈ fp, FpOk (X.blk sc Hc scope en fp) [] G b := fun {τ G t} It no b m =>
    ⟨no b m, (It.ok.exf b m).1, It.ok.exfs b m, Or.inl m, (It.ok.exf b m).2, fun p mp => absurd (show p ∈ ([] : List (Addr × Obj)) ++ [] from mp) (by simp)⟩
  have loop : codeAny (model X.prog X.w) X.A (.compLoop (.DictComp kx vx [⟨tg, iter, ifs, 0⟩] scope pos) 0 (.ref it) (.ref D) en) (compPost (model X.prog X.w) X.A X.xe none Qf (.ref D) sc.heap.objs.size) sd := by
    refine compLoop_anyD (fun n t => ∃ i G, Inv (X.blk sc Hc scope en fp) [] (wipe σ (own.map (·.2))) G t ∧ tn i t.heap ∧ (∀ b ∈ fp, G b = none) ∧ W i n G) (fun n se => ?_) m0 ⟨0, Hc, Id, std, nofp, w0⟩
    rintro ⟨i, He, Ie, ste, noe, we⟩
    cases turn i n He we with
    | inl stop =>
      refine thnF (T.done (X.blk sc Hc scope en fp) rfl rfl rfl calm i [] se _ He (fun _ _ => False) Ie (fine Ie noe) ste stop.1) fun r sf hf => ?_
      obtain ⟨rfl, If⟩ := hf
      have back : Inv X pins σ He sf := Ic.call' (ch := fp) If.os If.base If.hok If.bare fun b m => by
        obtain ⟨⟨_, k1, k2, k3, k4, k5⟩, _⟩ := fpc b m
        exact ⟨k3, k1, k4, k5⟩
      have none_ : He en.locals = none := If.free
      obtain ⟨m, ns, _⟩ := If.loc
      have ns : sf.heap.Ns en.locals m := ns
      rw [el] at none_ ns
      exact last D _ sf m He back stop.2 ns (Ic.fpOk (Nat.le_refl _) none_)
    | inr go =>
      obtain ⟨go, Nx, less, step⟩ := go
      refine thnF (T.item (X.blk sc Hc scope en fp) rfl rfl rfl calm i [] se _ He (fun _ _ => False) Ie (fine Ie noe) ste go) fun r sf hf => ?_
      obtain ⟨u, rfl, hf⟩ := hf
      refine thnF hf fun _ sg hg => ?_
      obtain ⟨x, Hg, Ig, rg, yg, stg, nog⟩ := hg
      have pinned := Ig.pinned (fine Ig nog) (T.obj _ _ stg)
      refine thnF (bg.run _ sg _ Hg x u _ pinned rg (step x Hg yg)) fun _ sh hh => ?_
      obtain ⟨τ, Hh, Ih, same, kh⟩ := hh
      refine thnF (bt.run _ sh τ Hh _ Ih kh) fun b si hi => ?_
      obtain ⟨Hi, Ii, ki⟩ := hi
      -- how the turn ends
      have again : ∀ {t : Shared} {G : Hp}, Inv (X.blk sc Hc scope en fp) ([] ++ pinsAt fp sg.heap) τ G t → Nx G → ∃ m, m < n ∧ ∃ i G, Inv (X.blk sc Hc scope en fp) [] (wipe σ (own.map (·.2))) G t ∧ tn i t.heap ∧ (∀ b ∈ fp, G b = none) ∧ W i m G := fun {t G} It nx => by
        obtain ⟨k, lt, wk⟩ := less G nx
        have stay : ∀ b ∈ fp, ∀ o, sg.heap.get? b = some o → t.heap.get? b = some o ∧ G b = none := fun b m o e => by
          obtain ⟨z1, z2, _⟩ := It.pin (b, o) (List.mem_append_right _ (List.mem_append_right _ (mem_pinsAt m e)))
          exact ⟨z1, z2⟩
        refine ⟨k, lt, i + 1, G, ?_, T.keep _ _ _ stg fun b m o e => (stay b m o e).1, fun b m => ?_, wk⟩
        · refine (It.unpinned (pins := [])).weak (by rw [← same, wipe_length]) fun j v e => ?_
          rw [← same] at e
          exact (wipe_some e).1
        · obtain ⟨o, e, _⟩ := T.obj _ _ stg b m
          exact (stay b m o e).2
      cases b with
      | false =>
        rw [if_neg Bool.false_ne_true] at ki ⊢
        exact again Ii ki
      | true =>
        rw [if_pos rfl] at ki ⊢
        refine thnF (bk.run _ si τ Hi _ Ii ki) fun a sj hj => ?_
        obtain ⟨y, Hj, Ij, rj, kj⟩ := hj
        refine thnF (bv.run _ sj τ Hj _ Ij kj) fun a' sk hk => ?_
        obtain ⟨z, Hk, Ik, rk, kvs, ks, b, ey, e1, e2, e3, nx⟩ := hk
        subst ey
        obtain rfl : a = Value.ref b := rj
        exact dk_setT (X := X.blk sc Hc scope en fp) ur Ik e2 e3 e1 rk fun t It => again It nx
  exact codeAny_compStart_dict loop (T.self X.A 0 _ _ _ std loop)
/-- the dict as a value -/
theorem pe_dtc {kx vx tg iter : Expr} {ifs : List Expr} {scope : Scope} {own : List (Str × Nat)} {pos : Pos} {wi : TI} {g : TG} {tt : TT} {tk tv : TE} (ur : X.A.units < cLine) (calm : X.calm = true) (nd : X.N.Nodup) (src : PI X tg iter wi) (ok : BlkOk X.N X.env.scope scope own)
    (bg : InBlk X scope fun Y => PG Y tg g) (bt : InBlk X scope fun Y => PTs Y ifs tt) (bk : InBlk X scope fun Y => PE Y kx tk) (bv : InBlk X scope fun Y => PE Y vx tv)
    (fold : ∀ x, foldedSetIterable iter X.env x = pure x := by intro _; rfl) : PE X (.DictComp kx vx [⟨tg, iter, ifs, 0⟩] scope pos) (tDt wi g tt tk tv (own.map (·.2))) := by
  refine ⟨fun pins s σ H Q I h => ?_⟩
  rw [arm_eval_DictComp]
  refine dtc_core ur calm nd I src ok bg bt bk bv fold h fun D C t m G It q ns fo => ⟨m, ns, fun hh sb => ?_⟩
  obtain ⟨g0, g1, g2, g3, g4, g5⟩ := fo
  exact ⟨.ref D, G, It.turned (t' := t.toks) (fun b o m e => (sb.2 b m).trans e) g0 g1 g3 g4 g5, rfl, q⟩
end
section
variable {X : Cx} {U : Pu} {lv : Nat} {T : XD} {c : Ct X U lv T} {tg iter : Expr} {δ : List (Option D)}
/-- the context of a block, a thing that changes beside -/
theorem En.blkM {X' : Cx} {c' : Ct X' U lv noX} {L : List Addr} {H H' : Hp} {σ : L2.St} {p : Addr} (E : En c L H σ δ) (hK : X'.K = X.K) (hb : c'.Hb = c.Hb) (hl : c'.Lb = c.Lb) (hp : H p = none) (s : Same U H H') (hm : MutAt H' p) : En c' (p :: L) H' σ δ := by
  refine ⟨⟨by rw [hb]; exact E.ok.base.trans s, fun l h => ?_, fun l h => ?_, fun l h => ?_⟩, E.len, fun i d h => ?_, E.sep⟩
  · rw [hl] at h
    exact List.mem_cons_of_mem _ (E.ok.lb l h)
  · rw [hl, hb]
    rcases List.mem_cons.mp h with z | z
    · right
      exact E.ok.base.free (by rw [z]; exact .of hp)
    · exact E.ok.new l z
  · rcases List.mem_cons.mp h with z | z
    · rw [z]
      exact hm
    · exact (E.ok.lsts l z).mono s
  · obtain ⟨v, h1, h2⟩ := E.rep i d h
    rw [hK, hl]
    exact ⟨v, h1, h2.grow (.of hp) s⟩
def DtTurn (c : Ct X U lv T) (tg b1 b2 vx : Expr) (scope : Scope) (δ : List (Option D)) (ts : List Nat) (S : List (List Key) → List D → Prop) (ds : List D) : Prop :=
  ∃ Pv : Nat → List (List Key) → List D → Prop, Pv 0 [] [] ∧ (∀ (i : Nat) (d : D) (ks : List (List Key)) (ys : List D), ds[i]? = some d → Pv i ks ys → Blk c scope fun c1 => AG c1 tg δ d ts fun δ2 =>
    Blk c scope fun c2 => WE c2 b1 δ2 fun x1 => WE c2 b2 δ2 fun x2 => ∃ p q, x1 = .int p ∧ x2 = .int q ∧ [.inl p, .inl q] ∉ ks ∧ Blk c scope fun c3 => WE c3 vx δ2 fun y => y.still = true ∧ Pv (i + 1) (ks ++ [[.inl p, .inl q]]) (ys ++ [y])) ∧ ∀ ks ys, Pv ds.length ks ys → S ks ys
theorem valT_none {ks : List (List Key)} {k : List Key} (h : k ∉ ks) : ∀ {vs : List V}, valV (ks.zip vs) k = none := by
  induction ks with
  | nil => intro vs; rfl
  | cons a r ih =>
    intro vs
    cases vs with
    | nil => rfl
    | cons v vs =>
      rw [List.zip_cons_cons, valV_neg (fun z => h (by have z : a = k := z; rw [z]; exact List.mem_cons_self))]
      exact ih (fun z => h (List.mem_cons_of_mem _ z))
theorem dtc_read {b1 b2 vx : Expr} {kt : Nat} {ptu : Pos} {scope : Scope} {vs0 ts : List Nat} {S : List (List Key) → List D → Prop} (hi : WJ c tg iter δ (DtTurn c tg b1 b2 vx scope (wipeD δ vs0) ts S)) (hts : ∀ i ∈ ts, i ∈ vs0)
    (s1 : ∀ X : Cx, starEach [b1, b2] X.env = (false, eval b1 X.env) :: starEach [b2] X.env) (s2 : ∀ X : Cx, starEach [b2] X.env = (false, eval b2 X.env) :: starEach [] X.env) {L : List Addr} {σ : L2.St} {H : Hp} {Q : VK} (E : En c L H σ δ)
    (q : ∀ l H' vs ks ds, Same U H H' → NoA H l → H' l = some (.dT (ks.zip vs)) → Reps X.K U (hide (l :: L) H') ds vs → ks.length = ds.length → S ks ds → Q (.ref l) H') :
    tDt (runI X tg iter) (lcG X scope tg) (lcT X scope []) (lcE X scope (.Tuple [b1, b2] kt ptu)) (lcE X scope vx) vs0 σ H Q := by
  refine hi L σ H _ E fun J Ha ds sa w ⟨Pv, p0, step, fin⟩ => ?_
  intro Dd hD
  have E1 := E.mono sa
  refine ⟨fun i m Hb => m = ds.length - i ∧ i ≤ ds.length ∧ Same U Ha Hb ∧ ∃ ks ys vs, Pv i ks ys ∧ ks.length = ys.length ∧ ys.length = i ∧ Hb Dd = some (.dT (ks.zip vs)) ∧ Reps X.K U (hide (Dd :: L) Hb) ys vs,
    ⟨ds.length, by simp, Nat.zero_le _, same_new hD, [], [], [], p0, rfl, rfl, upd_same, rfl⟩, ?_⟩
  rintro i m Hb ⟨rfl, hi, sb, ks, ys, vs, pv, hk, hy, hd, rp⟩
  have hys := rp.len
  by_cases hlt : i < ds.length
  · refine .inr ⟨w.go i Hb sb hlt, fun G => i + 1 ≤ ds.length ∧ Same U Ha G ∧ ∃ ks ys vs, Pv (i + 1) ks ys ∧ ks.length = ys.length ∧ ys.length = i + 1 ∧ G Dd = some (.dT (ks.zip vs)) ∧ Reps X.K U (hide (Dd :: L) G) ys vs, fun G hG => ⟨ds.length - (i + 1), by omega, rfl, hG⟩, fun x Hc y => ?_⟩
    obtain ⟨sc, d, hd1, hst, hrep⟩ := w.yld i x Hb Hc sb hlt y
    replace hrep := hrep (Dd :: L) (fun l hl => by
      rcases List.mem_cons.mp hl with z | z
      · rw [z]; exact ⟨_, rfl, hd⟩
      · exact (E1.ok.lsts l z).mono sb) (hide_cons (.of hD) sb)
    intro ta Ga Ca la pa
    have sac := sb.trans sc.s
    refine step i d ks ys hd1 pv ta Ga Ca la pa (blkCt c scope ta Ga Ca la pa) rfl rfl (Dd :: L) (wipe σ vs0) Hc x _ ((E1.wipe vs0).blkM (X' := X.blk ta Ga scope (compEnvC scope la Ca X.env) pa) rfl rfl rfl hD sac ⟨_, rfl, sc _ _ hd⟩) hrep fun σ2 δ2 df E2 k2 => ?_
    refine ⟨wipe_dif df hts, ?_⟩
    intro tb Gb Cb lb pb
    refine WTs_nil (c := blkCt c scope tb Gb Cb lb pb) (S := fun b => b = true) rfl (Dd :: L) σ2 Hc _ ⟨⟨E2.ok.base, E2.ok.lb, E2.ok.new, E2.ok.lsts⟩, E2.len, E2.rep, E2.sep⟩ fun b H4 s4 eb => ?_
    subst eb
    rw [if_pos rfl]
    intro tc Gc Cc lc pc
    have E3 : En (blkCt c scope tc Gc Cc lc pc) (Dd :: L) H4 σ2 δ2 := ⟨⟨(E2.ok.mono s4).base, E2.ok.lb, E2.ok.new, (E2.ok.mono s4).lsts⟩, E2.len, (E2.mono s4).rep, E2.sep⟩
    refine runE_of (pe_tup (pa_cons pe_run (pa_cons pe_run pa_nil (s2 _)) (s1 _))) ?_
    refine k2 tc Gc Cc lc pc (blkCt c scope tc Gc Cc lc pc) rfl rfl (Dd :: L) σ2 H4 _ E3 fun u1 H5 x1 s5 r5 k5 => ?_
    refine k5 (Dd :: L) σ2 H5 _ (E3.mono s5) fun u2 H6 x2 s6 r6 k6 => ?_
    obtain ⟨i1, i2, rfl, rfl, nk, k6⟩ := k6
    obtain rfl : u1 = .int i1 := r5
    obtain rfl : u2 = .int i2 := r6
    refine ⟨by show 2 ≤ sizeLine; decide, fun p hp => ?_⟩
    have s7 : Same U H6 (upd H6 p (.tup [.int i1, .int i2])) := same_new hp
    intro td Gd Cd ld pd
    have E4 : En (blkCt c scope td Gd Cd ld pd) (Dd :: L) (upd H6 p (.tup [.int i1, .int i2])) σ2 δ2 := by
      have e := E3.mono ((s5.trans s6).trans s7)
      exact ⟨⟨e.ok.base, e.ok.lb, e.ok.new, e.ok.lsts⟩, e.len, e.rep, e.sep⟩
    refine k6 td Gd Cd ld pd (blkCt c scope td Gd Cd ld pd) rfl rfl (Dd :: L) σ2 _ _ E4 fun y H8 e s8 r8 k8 => ?_
    obtain ⟨st, k8⟩ := k8
    have all := ((s4.trans (s5.trans s6)).trans s7).trans s8
    have at8 : H8 Dd = some (.dT (ks.zip vs)) := all.at _ _ (sc _ _ hd)
    have ev : putK (ks.zip vs) ([.inl i1, .inl i2] : List Key) y = (ks ++ [([.inl i1, .inl i2] : List Key)]).zip (vs ++ [y]) := by
      rw [L2.putK_new y (valT_none nk), List.zip_append (by omega)]
      rfl
    refine ⟨_, [.inl i1, .inl i2], p, rfl, s8.at _ _ upd_same, at8, by rw [List.length_zip]; have := w.size; omega, by omega, ?_, ks ++ [[.inl i1, .inl i2]], ys ++ [e], vs ++ [y], k8, by simp; omega, by simp; omega, by rw [upd_same, ev], ?_⟩
    · exact (sac.trans all).set ⟨_, rfl, at8⟩ (.of hD) rfl
    · rw [hide_upd List.mem_cons_self]
      exact (Reps.mono (hide_same (sc.k.trans all.k)) _ _ rp).app (Reps.one (r8.rep st))
  · have e : i = ds.length := by omega
    subst e
    exact .inl ⟨w.stop Hb sb.k, q Dd Hb vs ks ys (sa.trans sb) (Same.free sa (.of hD)) hd rp hk (fin ks ys pv)⟩
end
/-! ### the readings -/
@[irreducible] def Rd.turnsD (tg : RdG) (k1 k2 elt : RdE) (δ : List (Option D)) (S : List (List Key) → List D → Prop) (ds : List D) : Prop :=
  ∃ Pv : Nat → List (List Key) → List D → Prop, Pv 0 [] [] ∧ (∀ (i : Nat) (d : D) (ks : List (List Key)) (ys : List D), ds[i]? = some d → Pv i ks ys → tg δ d fun δ2 => k1 noX δ2 fun x1 => k2 noX δ2 fun x2 => ∃ p q, x1 = .int p ∧ x2 = .int q ∧ [.inl p, .inl q] ∉ ks ∧ elt noX δ2 fun y => y.still = true ∧ Pv (i + 1) (ks ++ [[.inl p, .inl q]]) (ys ++ [y])) ∧ ∀ ks ys, Pv ds.length ks ys → S ks ys
def Rd.dct (own : List Nat) (src : RdA) (tg : RdG) (k1 k2 elt : RdE) : RdE := fun T δ S => src T δ fun ds => fc (wp δ own) fun δ' => Rd.turnsD tg k1 k2 elt δ' (fun ks ys => S (.dct ks ys)) ds
theorem De.dct {f : Fr} {scope : Scope} {tg iter b1 b2 vx : Expr} {g : RdG} {t1 t2 te : RdE} {src : RdA} {kt : Nat} {ptu pos : Pos} (own : List (Str × Nat)) (hi : ReJ f tg iter src) (hg : ReG (f.blk scope) tg (own.map (·.2)) g) (h1 : ReE (f.blk scope) b1 t1) (h2 : ReE (f.blk scope) b2 t2) (he : ReE (f.blk scope) vx te) (ok : blkC f.N f.sc scope own = true := by (try dsimp only [Fr.blk, Fr.lam]); decide +kernel)
    (hs : ∀ X : Cx, ∀ x, foldedSetIterable iter X.env x = pure x := by intro _ _; rfl) (s1 : ∀ X : Cx, starEach [b1, b2] X.env = (false, eval b1 X.env) :: starEach [b2] X.env := by intro _; rfl) (s2 : ∀ X : Cx, starEach [b2] X.env = (false, eval b2 X.env) :: starEach [] X.env := by intro _; rfl) :
    ReE f (.DictComp (.Tuple [b1, b2] kt ptu) vx [⟨tg, iter, [], 0⟩] scope pos) (Rd.dct (own.map (·.2)) src g t1 t2 te) := .mk fun {X T} c F δ S h => fun L σ H Q E q => by
  have bo : BlkOk X.N X.env.scope scope own := by rw [F.n, F.s]; exact blkOk_by ok
  refine runE_of (pe_dtc (g := lcG X scope tg) (tt := lcT X scope []) (tk := lcE X scope (.Tuple [b1, b2] kt ptu)) (tv := lcE X scope vx) (Nat.lt_of_le_of_lt (Nat.le_add_right _ _) (units65 c)) c.calm c.nd pi_run bo (fun s H0 C cl fp => ⟨fun pins s1 σ1 H1 v u Q1 I r h => h s H0 C cl fp pins s1 u I r⟩) (fun s H0 C cl fp => ⟨fun pins s1 σ1 H1 Q1 I h => h s H0 C cl fp pins s1 I⟩)
    (fun s H0 C cl fp => ⟨fun pins s1 σ1 H1 Q1 I h => h s H0 C cl fp pins s1 I⟩) (fun s H0 C cl fp => ⟨fun pins s1 σ1 H1 Q1 I h => h s H0 C cl fp pins s1 I⟩) (hs X)) ?_
  refine dtc_read (c := c) (S := fun ks ys => S (.dct ks ys)) (ts := own.map (·.2)) (WJ_mono (hi c F δ _ h) fun ds h0 => ?_) (fun _ h => h) s1 s2 E fun l H' vs ks ds s hl hl' r hk k => ?_
  · rw [fc_eq, wp_eq] at h0
    unfold Rd.turnsD at h0
    obtain ⟨Pv, p0, step, fin⟩ := h0
    refine ⟨Pv, p0, fun i d ks ys hd pv => ?_, fin⟩
    refine blk_of F fun X1 c1 F1 => AG_mono (hg c1 F1 _ d _ (step i d ks ys hd pv)) fun δ2 k2 => ?_
    refine blk_of F fun X2 c2 F2 => (h1 c2 F2 δ2 _ k2).mono fun x1 k3 => (h2 c2 F2 δ2 _ k3).mono fun x2 k4 => ?_
    obtain ⟨p, q, e1, e2, nk, k5⟩ := k4
    exact ⟨p, q, e1, e2, nk, blk_of F fun X3 c3 F3 => he c3 F3 δ2 _ k5⟩
  · have hL : l ∉ L := E.ok.freshN hl
    exact q _ H' (.dct ks ds) s ⟨l, vs, rfl, (hide_ne hL).trans hl', Reps.mono (hide_le fun b hb => List.mem_cons_of_mem _ hb) _ _ r, hk⟩ k
/-- each turn gives a key and one of some items -/
theorem Rd.tsomeD {α β : Type} {tg : RdG} {k1 k2 elt : RdE} {δ : List (Option D)} {S : List (List Key) → List D → Prop} {ds : List D} (e : β → D) (R : α → β → Prop) (k : α → Int × Int) (enc : α → D) (xs : List α) (hds : ds = xs.map enc) (nd : (xs.map k).Nodup)
    (h : ∀ x, x ∈ xs → ∀ (ks : List (List Key)) (S' : Int → Int → D → Prop), [.inl (k x).1, .inl (k x).2] ∉ ks → (∀ b, R x b → S' (k x).1 (k x).2 (e b)) → tg δ (enc x) fun δ2 => k1 noX δ2 fun x1 => k2 noX δ2 fun x2 => ∃ p q, x1 = .int p ∧ x2 = .int q ∧ [.inl p, .inl q] ∉ ks ∧ elt noX δ2 (S' p q))
    (hS : ∀ bs : List β, bs.length = xs.length → (∀ (i : Nat) x b, xs[i]? = some x → bs[i]? = some b → R x b) → S (xs.map fun x => [.inl (k x).1, .inl (k x).2]) (bs.map e)) (hst : ∀ b, (e b).still = true := by intro _; rfl) : Rd.turnsD tg k1 k2 elt δ S ds := by
  subst hds
  unfold Rd.turnsD
  refine ⟨fun i ks ys => ks = (xs.take i).map (fun x => [.inl (k x).1, .inl (k x).2]) ∧ ∃ bs : List β, ys = bs.map e ∧ bs.length = i ∧ ∀ (j : Nat) x b, xs[j]? = some x → bs[j]? = some b → R x b, ⟨rfl, [], rfl, rfl, fun j x b _ h => by simp at h⟩, fun i d ks ys hd p => ?_, fun ks ys p => ?_⟩
  · rw [List.getElem?_map] at hd
    cases q : xs[i]? with
    | none => rw [q] at hd; cases hd
    | some x =>
      rw [q] at hd
      cases hd
      obtain ⟨rfl, bs, rfl, hl, hr⟩ := p
      have hx : i < xs.length := (List.getElem?_eq_some_iff.mp q).1
      refine h x (List.mem_of_getElem? q) _ (fun p q y => y.still = true ∧ (List.map (fun x => [Sum.inl (k x).1, Sum.inl (k x).2]) (List.take i xs) ++ [[Sum.inl p, Sum.inl q]] : List (List Key)) = (xs.take (i + 1)).map (fun x => [.inl (k x).1, .inl (k x).2]) ∧
        ∃ cs : List β, bs.map e ++ [y] = cs.map e ∧ cs.length = i + 1 ∧ ∀ (j : Nat) x b, xs[j]? = some x → cs[j]? = some b → R x b) (fun hm => ?_) fun b hb => ?_
      · obtain ⟨y, hy, ey⟩ := List.mem_map.mp hm
        obtain ⟨j, hj, ej⟩ := List.getElem_of_mem hy
        have hj' : j < i := by rw [List.length_take] at hj; omega
        have kk : k y = k x := by
          simp only [List.cons.injEq, Sum.inl.injEq, and_true] at ey
          exact Prod.ext ey.1 ey.2
        have hjx : j < xs.length := by omega
        rw [List.getElem_take] at ej
        have := (List.getElem_inj nd).mp (show (xs.map k)[j]'(by simpa using hjx) = (xs.map k)[i]'(by simpa using hx) by
          rw [List.getElem_map, List.getElem_map, ej, kk, (List.getElem?_eq_some_iff.mp q).2])
        omega
      · refine ⟨hst b, ?_, bs ++ [b], by simp, by simp [hl], fun j x' b' hx' hb' => ?_⟩
        · rw [List.take_add_one, q]; simp
        · by_cases hj : j < bs.length
          · rw [List.getElem?_append_left hj] at hb'
            exact hr j x' b' hx' hb'
          · rw [List.getElem?_append_right (by omega)] at hb'
            have : j - bs.length = 0 := by
              rcases Nat.eq_zero_or_pos (j - bs.length) with z | z
              · exact z
              · rw [List.getElem?_eq_none (show [b].length ≤ j - bs.length from z)] at hb'; cases hb'
            rw [this] at hb'
            cases hb'
            have ej : j = i := by omega
            rw [ej, q] at hx'
            cases hx'
            exact hb
  · obtain ⟨rfl, bs, rfl, hl, hr⟩ := p
    rw [List.length_map] at hl ⊢
    rw [List.take_length]
    exact hS bs hl hr
end Dl

set_option maxRecDepth 100000
set_option maxHeartbeats 4000000
/-! # Exceptions that keep a part -/
namespace Dl
open PySem PySem.Spec PyProof.Rows L2
/-- what def __init__(self, part) of such a class promises -/
def spExI (C : Addr) (fl : Str) : Sp := fun vs H Q E => ∃ x y, vs = [.ref x, y] ∧ H x = some (exo x C none) ∧ ∀ dx, H dx = none → dx ≠ x → Q .non (upd (upd H dx (exd dx [(fl, y)])) x (exo x C (some dx)))
abbrev exBody (s a fl : Str) (q0 q1 q2 q3 q4 q5 q6 q7 q8 q9 : Pos) : List Stmt := [.Expr (.Call (.Attribute (.Call (.Name "super" q0) [] [] q1) "__init__" q2) [.Name a q3] [] q4) q5, .Assign [.Attribute (.Name s q6) fl q7] (.Name a q8) q9]
abbrev exParams (s a : Str) (e1 e2 : Option Expr) (q1 q2 : Pos) : Arguments := ⟨[], [⟨s, e1, q1⟩, ⟨a, e2, q2⟩], none, [], [], none, []⟩
/-- what the written part says of a class of exceptions that keeps a part, but for the def itself -/
structure ExF (P : Program) (K : PySem.W.Frag) (mg : Str → Option Value) (C : Addr) (fl : Str) : Prop where
  o : OexC K C
  fld : PySem.W.findIn K (.ref C) fl = some none
  self_ : PySem.W.mroIn K C (.ref C) = some true
  sup : PySem.W.ks_superIn K C C "__init__" = some (some (.builtin "ValueError.__init__"))
  ve : PySem.W.subIn K (.ref C) (.type "ValueError") = some true
  opq : PySem.W.nsIn K cStatics "thirdparty.any" = some none
  ini : PySem.W.excInitIn K C [.type "ValueError", .type "Exception", .type "BaseException", .type "object"] "ValueError.__new__" = true
  mgs : mg "super" = none
  top : (P.main.scope.names.lookup ("super" : Str)).isSome = false
section
variable {P : Program} {w : World} {K : PySem.W.Frag} {mg : Str → Option Value} {base : Heap}
theorem sup_call {env : Env} {a : Str} {q0 q1 q2 q3 q4 : Pos} (hl : (q2.endLine == q4.line) = true) : eval (.Call (.Attribute (.Call (.Name "super" q0) [] [] q1) "__init__" q2) [.Name a q3] [] q4) env = (do
      let ov ← attributeBase (.Call (.Name "super" q0) [] [] q1) "__init__" env (eval (.Call (.Name "super" q0) [] [] q1) env)
      standAt q2.atName
      let (f, first) ← holding [ov] (getMethod ov "__init__" (do return (← importBound (.Call (.Name "super" q0) [] [] q1) env).getD true))
      callWith q4 f first (backTo q4 (starEach [.Name a q3] env)) []) := by
  rw [show eval (.Call (.Attribute (.Call (.Name "super" q0) [] [] q1) "__init__" q2) [.Name a q3] [] q4) env = (do
    let ov ← attributeBase (.Call (.Name "super" q0) [] [] q1) "__init__" env (eval (.Call (.Name "super" q0) [] [] q1) env)
    standAt q2.atName
    methodCall (.Call (.Name "super" q0) [] [] q1) "__init__" q2 q4 env ov 1 (backTo q4 (starEach [.Name a q3] env)) []) from rfl]
  unfold methodCall methodCallPos calleeOf
  simp only [hl, Bool.or_true, if_true]
  rfl
theorem fn_exI {C f cda cc : Addr} {fl qual s a file : Str} {tf : Tok} {scope : Scope} {dV kV doc pm ct oc ccl ccl2 : Value} {an od cdd cdd2 : Option Addr} {osl ccs ccs2 : Array (Option Value)} {vs : Array Value} {e1 e2 : Option Expr} {q0 q1 q2 q3 q4 q5 q6 q7 q8 q9 r1 r2 : Pos} (F : ExF P K mg C fl)
    (lk : K.lookup f = some ⟨oc, od, .func (PySem.W.ksFn "__init__" qual (exParams s a e1 e2 r1 r2) (exBody s a fl q0 q1 q2 q3 q4 q5 q6 q7 q8 q9) scope dV kV doc pm an (.ref cda) ct cc), osl⟩) (hcd : PySem.W.codeIn K (.ref cda) qual = true)
    (hcode : K.lookup cda = some ⟨ccl, cdd, .fields vs, ccs⟩) (hvs : vs[2]? = some (.str file tf)) (hfile : ((P.main.file : Str) == file) = true) (hcell : K.lookup cc = some ⟨ccl2, cdd2, .cell (some (.ref C)), ccs2⟩)
    (n1 : scope.names.lookup ("super" : Str) = some .globalImplicit) (n2 : scope.names.lookup ("__class__" : Str) = some .free) (n3 : scope.names.lookup s = some .local) (n4 : scope.names.lookup a = some .local) (nc : ∀ x ∈ scope.names, x.2 ≠ .cell)
    (hk : scope.kind = .function) (hco : scope.isCoroutine = false) (hgen : scope.isGenerator = false) (sa : s ≠ a) (hl : (q2.endLine == q4.line) = true) (d1 : (s == ("__debug__" : Str)) = false) (d2 : (a == ("__debug__" : Str)) = false) :
    FnOk P w K mg base (L2.CX P w) 1 f (PySem.W.ksFn "__init__" qual (exParams s a e1 e2 r1 r2) (exBody s a fl q0 q1 q2 q3 q4 q5 q6 q7 q8 q9) scope dV kV doc pm an (.ref cda) ct cc) [s, a] (spExI C fl) := by
  refine ⟨fun vs H Q E ⟨x, y, e, _⟩ => by rw [e]; rfl, fun A outer st H args us vs' Q E hr e0 hb r hsp => ?_⟩
  obtain ⟨x, y, rfl, ex, q⟩ := hsp
  obtain ⟨u, rfl, ry⟩ : ∃ u, us = [.ref x, u] ∧ RelV y u := by
    cases r with
    | cons h1 r =>
      cases r with
      | cons h2 r =>
        cases r
        obtain rfl := h1
        exact ⟨_, rfl, h2⟩
  have hb : BindsTo st (PySem.W.ksFn "__init__" qual (exParams s a e1 e2 r1 r2) (exBody s a fl q0 q1 q2 q3 q4 q5 q6 q7 q8 q9) scope dV kV doc pm an (.ref cda) ct cc) args [(s, .ref x), (a, u)] := hb
  have X : K.In st.heap := e0.mod.kin.keeps fun b o e => (e0.bs b o e).1
  have lim : st.heap.NoLimit := e0.mod.nolimit.keeps fun b o e => (e0.bs b o e).1
  obtain ⟨t1, ho⟩ := exo_at e0.hok ex
  have nb : base.get? x = none := by
    cases e : base.get? x with
    | none => rfl
    | some o =>
      have := (e0.bs x o e).2
      rw [ex] at this
      cases this
  refine PySem.ks_codeAny_call_defAt (binds := [(s, .ref x), (a, u)]) hr.depth (X _ _ lk) rfl lim (PySem.W.codeRec_of X hcd) rfl hb nc (fun z hz => ?_) (fun h₁ hns hk₁ => ?_) hco hgen hk
  · simp only [List.mem_cons, List.not_mem_nil, or_false] at hz
    rcases hz with rfl | rfl
    · exact n3
    · exact n4
  have N1 : News (PySem.W.hideAll st.heap [x]) st.heap.objs.size h₁ [(x, PySem.W.excObj C t1 none .none)] := fun p hp => by
    rcases List.mem_singleton.mp hp with rfl
    exact ⟨hk₁ _ _ ho, Nat.ne_of_lt (Heap.lt_size ho), PySem.W.hideAll_none _ (List.mem_singleton.mpr rfl)⟩
  have F1 : PyProof.Rows.Fr (PySem.W.hideAll st.heap [x]) st.heap.objs.size h₁ (fun y => [(s, Value.ref x), (a, u)].reverse.lookup y) := ⟨hns, fun b o e => hk₁ b o (PySem.W.of_hideAll _ e), Nat.le_of_eq (PySem.W.hideAll_size _ _)⟩
  have XG : K.In (PySem.W.hideAll st.heap [x]) := e0.mod.kin.keeps fun b o e => PySem.W.hideAll_get _ (e0.bs b o e).1 fun z => by
    rw [List.mem_singleton.mp z, nb] at e
    cases e
  have X1 : K.In h₁ := XG.keeps F1.keep
  have ms : (fun y => [(s, Value.ref x), (a, u)].reverse.lookup y) s = some (Value.ref x) := by
    show ([(a, u), (s, Value.ref x)] : List (Str × Value)).lookup s = _
    rw [List.lookup_cons, beq_eq_false_iff_ne.mpr sa, List.lookup_cons, beq_self_eq_true]
  have ma : (fun y => [(s, Value.ref x), (a, u)].reverse.lookup y) a = some u := by
    show ([(a, u), (s, Value.ref x)] : List (Str × Value)).lookup a = _
    rw [List.lookup_cons, beq_self_eq_true]
  generalize eenv : callEnv (PySem.W.ksFn "__init__" qual (exParams s a e1 e2 r1 r2) (exBody s a fl q0 q1 q2 q3 q4 q5 q6 q7 q8 q9) scope dV kV doc pm an (.ref cda) ct cc) st.heap.objs.size f = env
  have env1 : env = PySem.W.ksEnv qual scope st.heap.objs.size f (.ref cda) cc := eenv.symm
  have ek : env.scope.kind = .function := by rw [env1]; exact hk
  have hi : interactive env = false := by
    unfold interactive
    rw [ek]
    rfl
  obtain ⟨hm, gm, dm, tm, om⟩ := st
  obtain ⟨nm, qq, N, bs, bm, sn, sub, ab, col, dd, k0, k1, k2, k3, k5, hC, hbm⟩ := F.o.cls
  refine PySem.ks_wpAt_execs_cons (PySem.ks_wpAt_Expr_any (hi := hi) (PySem.ks_wpAt_MethodCall (he := sup_call hl) ?_))
  subst env1
  refine PySem.ks_wpAt_super_base (f := f) (cc := cda) n1 n2 (by decide) rfl (X1 _ _ lk) rfl rfl rfl (X1 _ _ hcode) rfl hvs hfile F.top ?_
  obtain ⟨mb, b1, b2⟩ := e0.mod.blt
  have kb : ∀ b o, base.get? b = some o → h₁.get? b = some o := fun b o e => F1.keep b o (PySem.W.hideAll_get _ (e0.bs b o e).1 fun z => by
    rw [List.mem_singleton.mp z, nb] at e
    cases e)
  refine PySem.W.ks_loadName_global hk n1 (Calls.loadGlobal_builtin (e0.mod.glob.keeps kb) F.mgs (b1.keeps kb) ((b2 _ (by decide)).trans (by decide +kernel : bootBuiltins "super" = some (.type "super"))) ⟨rfl, ?_⟩)
  refine wpAny_loadName_free hk n2 rfl ⟨_, X1 _ _ hcell, rfl⟩ ?_
  refine wpAny_loadName_local hk n3 F1.ns ms ?_
  refine PySem.ks_wpAny_isType_cls (X1 _ _ hC) rfl ⟨rfl, ?_⟩
  refine PySem.ks_wpAny_call_super (X1 _ _ hC) rfl (N1 _ (List.mem_singleton.mpr rfl)).1 rfl (fun c e => nomatch e) (PySem.W.looks_mroIn X1 F.self_) (fun h2 eso k2 => ?_)
  obtain ⟨F2, N2, l2⟩ := PySem.W.ks_newsPush (s := ⟨h₁, gm, dm, tm + 2, om⟩) (q := h₁.objs.size) F1 N1 rfl eso k2
  -- the bound method of the base
  refine PySem.W.kxs_method PySem.W.kxs_ValueError F2 XG N2 (.head _) (PySem.W.InstAt.of_exc0 N2 (.tail _ (.head _))) F.opq F.sup F.ve (by decide) (fun so2 h3 F3 N3 l3 => ?_)
  refine PySem.W.kxs_callWith1 N3 (.head _) ?_
  refine spliced_more (wpAny_Name (wpAny_loadName_local hk n4 F3.ns ma (spliced_none ?_)) d2)
  refine ⟨PySem.W.kxs_at N3 (.head _), ?_⟩
  have x1 : x < h₁.objs.size := l2 _ (.head _)
  have x2 : x < so2 := l3 _ (.tail _ (.head _))
  refine PySem.W.kxs_call F3 XG N3 PySem.F.excBase_ValueError F.ini (.head _) (x := x) (C := C) (t := t1) (dv := none) (c2 := .none) (.tail (Nat.ne_of_gt x2) (.tail (Nat.ne_of_gt x1) (.head fun p hp => by simp at hp))) (by show 1 ≤ sizeLine; decide) (fun t4 h4 F4 N4 l4 => ?_)
  have X4 : K.In h4 := XG.keeps F4.keep
  have o4 : h4.get? x = some (PySem.W.excObj C t4 none .none) := (N4 _ (.tail _ (.tail _ (.tail _ (.head _))))).1
  -- self.part = part
  refine PySem.ks_wpAt_execs_cons (PySem.ks_wpAt_Assign_Attr (wpAt_of_wpAny (wpAny_Name (wpAny_loadName_local hk n4 F4.ns ma ?_) d2)))
  refine wpAny_Name (wpAny_loadName_local hk n3 F4.ns ms ?_) d1
  have hcl : PySem.W.clsIn K C = some { name := nm, bases := bs, mro := .ref C :: bm, ns := N, qualname := qq, hasDict := true, slotNames := sn, subclasses := sub, abstract := ab, collection := col, hasDel := false } := by unfold PySem.W.clsIn; rw [hC] <;> rfl
  refine PySem.W.set_plain X4 (ox := PySem.W.excObj C t4 none .none) (od := none) ⟨o4, rfl, rfl, trivial⟩ F.o.sa ?_
  refine PySem.HandSPX.exc_osa X4 o4 hcl (show PySem.HandSPX.refsVE (.ref C :: bm) = true from hbm) rfl F.fld (fun h5 tk5 dx k5 le5 dne hx5 hn5 => ?_)
  refine wpAt_of_wpAny (wpAny_pure ?_)
  -- the end
  have at5 : ∀ {b : Addr} {o : Obj}, b ≠ x → hm.get? b = some o → h5.get? b = some o := fun {b o} hb e => k5 b o hb (F4.keep b o (PySem.W.hideAll_get _ e fun z => hb (List.mem_singleton.mp z)))
  have big : hm.objs.size < h4.objs.size := by
    obtain ⟨oL, _, _, eL, _⟩ := F4.ns
    exact Heap.lt_size eL
  have ndx : H dx = none := e0.hok.fresh (Nat.le_trans (Nat.le_of_lt big) le5)
  have old : ∀ {b : Addr} {o : Obj}, hm.get? b = some o → b ≠ dx := fun {b o} e => Nat.ne_of_lt (Nat.lt_of_lt_of_le (Heap.lt_size e) (Nat.le_trans (Nat.le_of_lt big) le5))
  have offx : ∀ {b : Addr}, H b = none → b ≠ x := fun {b} e z => by
    rw [z, ex] at e
    cases e
  have up : ∀ {b : Addr} {o : HO}, H b = some o → exo x C none ≠ o → upd (upd H dx (exd dx [(fl, y)])) x (exo x C (some dx)) b = some o := fun {b o} e ne => by
    rw [upd_ne (at_ne ex e ne), upd_ne (ne_of_none e ndx)]
    exact e
  refine ⟨.non, upd (upd H dx (exd dx [(fl, y)])) x (exo x C (some dx)), rfl, e0.bare, ?_, fun b o e => ?_, rfl, q dx ndx dne⟩
  · exact {
      keep := fun b o e n _ _ => at5 (offx n) e
      slot := fun b o e n _ _ => ⟨o.slots, at5 (offx n) e⟩
      free := fun b o e n _ => by rw [upd_ne (offx n), upd_ne (old e), n]
      there := fun b o e _ => by
        by_cases z : b = x
        · exact ⟨_, by rw [z]; exact hx5⟩
        · exact ⟨o, at5 z e⟩
      tups := fun b xs e => up e exo_tup
      frzs := fun b o v e => up e exo_frz
      tbls := fun b ps e => ⟨#[], by rw [up e exo_tbl]; simp⟩ }
  · by_cases z : b = x
    · subst z
      rw [upd_same] at e
      cases e
      exact exo_ok hx5
    · rw [upd_ne z] at e
      by_cases z2 : b = dx
      · subst z2
        rw [upd_same] at e
        cases e
        exact exd_ok hn5 (relO_put (fs := []) ry fun g => trivial)
      · rw [upd_ne z2] at e
        refine (e0.hok b o e).stay (fun c v hc y => at5 (hc.elim (fun t => t ▸ z) fun t => at_ne ex t exo_own) y) (fun c hc => up hc exo_own) fun c xs hc => up hc exo_tup
end
/-! ### C(e, ..) in a try, what is raised wished for at the slots -/
section
variable {X : Cx} {CX : CXT} {k : Nat} {f C : Addr} {fd : FuncData} {ps : List Str} {sp : Sp} {E : L2.St → XK} {x : Str} {p pos : Pos} {e : Expr} {es : List Expr} {t : TA}
def tMakeS (C : Addr) (sp : Sp) (E : L2.St → XK) (t : TA) : TE := fun σ H Q => t σ H fun vs G => ∀ y dy, G y = none → G dy = none → dy ≠ y → sp (.ref y :: vs) (upd (upd G dy (.own y)) y (.ins C dy [])) (fun v G' => v = .non ∧ Q (.ref y) G') (E σ)
theorem pe_makeS (M : Mk X.K C f) (F : FnOk X.prog X.w X.K X.mg X.base CX k f fd ps sp) (room : Room (k + 1) X.A) (hg : Gl X x) (hm : X.mg x = some (.ref C)) (hb : Binds X.K fd ps []) (hx : ∀ σ, PassesAt CX X σ (E σ)) (ha : PA X (e :: es) t)
    (hdb : (x == ("__debug__" : Str)) = false) (he : starEach (e :: es) X.env = (false, eval e X.env) :: starEach es X.env) (hpl : (backTo pos (starEach es X.env)).any (·.1) = false) : PE X (.Call (.Name x p) (e :: es) [] pos) (tMakeS C sp E t) := by
  refine ⟨fun pins s σ H Q I h => wpAny_Call_Name_kw (ld_glob I hg hm ?_ hdb)⟩
  refine PySem.W.callWith_K (h₀ := X.base) I.ok.mod.kin M.kp (thn (ha.run pos pins s σ H _ I h) fun us t1 got => ?_) he hpl
  obtain ⟨vs, G, J, r, q⟩ := got
  refine ⟨J.kIn, ?_⟩
  have want := q (t1.heap.objs.size + 1) t1.heap.objs.size (J.hok.fresh (Nat.le_succ _)) (J.hok.fresh (Nat.le_refl _)) (Nat.ne_of_lt (Nat.lt_succ_self _))
  have J2 := Inv.made (C := C) J
  have r2 : Vals (V.ref (t1.heap.objs.size + 1) :: vs) (Value.ref (t1.heap.objs.size + 1) :: us) := .cons rfl r
  have len : (Value.ref (t1.heap.objs.size + 1) :: us ++ ([] : List Value)).length = ps.length := by
    rw [List.append_nil, ← r2.length]
    exact F.len _ _ _ _ want
  have bind := hb _ (Value.ref (t1.heap.objs.size + 1) :: us) J2.kIn len
  rw [List.append_nil] at bind
  refine wpAny_call (make_map (f := f) J.kIn M.makes M.init (beq_iff_eq.mp M.fn) (codeAny_mono (F.run _ X.stack _ _ ⟨Value.ref (t1.heap.objs.size + 1) :: us, []⟩ _ _ _ (E σ) (room.make C us []) (J2.env0.make C us []) bind r2 want) fun res t2 hres => ?_))
  match res, hres with
  | .error er, hres => exact hx σ pins _ _ er t2 J2 hres
  | .ok (.ret u), hres =>
    obtain ⟨v, G', J3, rv, ev, q3⟩ := J2.after hres
    subst ev
    exact ⟨rv, V.ref (t1.heap.objs.size + 1), G', J3, rfl, q3⟩
end
/-! ### try: x = (lit, C(e, ..)) except D as n: a suite that keeps n's part -/
/-- a block's context: nothing may be raised that is not wished for -/
def Ct.quiet {X : Cx} {U : Pu} {lv : Nat} {T : XD} (c : Ct X U lv T) (pn : List (Addr × Obj)) (xe : Value → Shared → Prop) (own : PassesOwn (model X.prog X.w) X.A X.env xe) : Ct (X.tr pn xe) U lv noX where
  Hb := c.Hb
  Lb := c.Lb
  g := c.g
  calm := c.calm
  nd := c.nd
  room := c.room
  own := own
  tk := fun u s' x => by
    obtain ⟨_, _, _, _, _, _, _, _, _, _, _, _, _, _, _, _, z⟩ := x
    obtain ⟨_, _, _, z⟩ := z
    exact z.elim
theorem En.hole {X : Cx} {U : Pu} {lv : Nat} {T : XD} {c : Ct X U lv T} {L : List Addr} {H : Hp} {σ : L2.St} {δ : List (Option D)} (N : En c L H σ δ) (j : Nat) : En c L H (σ.set j none) (δ.set j none) := N.wipe [j]
theorem set_three {α : Type} (σ : List α) {i j : Nat} (h : i ≠ j) (a b c : α) : ((σ.set j a).set i b).set j c = (σ.set i b).set j c := by
  rw [List.set_comm _ _ (fun z => h z.symm), List.set_set]
/-- what is read of such a statement -/
def Rd.tryMk (i j : Nat) (lit bad fl : Str) (CE : Addr) (sp : DSpec) (as : RdA) : RdS := fun T δ E => as noX δ fun ds => Rd.stiD (stills ds) (sp ds (fun d => fc (Dl.st δ i (some (.tup [.str lit, d]))) E.nx) fun cls o => cls = .ref CE ∧ ∃ d, o = some ([fl], [d]) ∧ fc (Dl.st (Dl.st δ i (some (.tup [.str bad, d]))) j none) E.nx)
theorem stiD_true {b : Bool} {A : Prop} (h : Rd.stiD b A) : b = true ∧ A := by
  cases b with
  | true => exact ⟨rfl, h⟩
  | false => exact False.elim h
theorem WS_tryMk {f : Dl.Fr} {X : Cx} {T : XD} {c : Ct X f.U f.lv T} {δ : List (Option D)} {E : SE} (hF : f.X X) (hs : X.stack = X.env :: X.outer) (hfr : X.env.frame = some X.env.locals) {i j n k : Nat} {v Cn Ex en lit bad fl : Str} {CE CW : Addr} {sp : DSpec} {tas : RdA} {e : Expr} {es : List Expr} {b₀ : Stmt} {suite : List Stmt} {kt jl : Nat} {px pt pl pc pcc pa np pos' pos : Pos} {ts : Addr → Value → Option Addr → TS}
    (ha : ReA f (e :: es) tas) (M : Maker f.P f.w f.K f.mg f.base f.U k Cn n sp) (hk : k + 1 ≤ f.lv) (hn : (e :: es).length = n) (hg : glbB f.sc Cn = true) (hi : f.N[i]? = some v) (hj : f.N[j]? = some en) (hij : i ≠ j) (hv : f.sc.names.lookup v = some .local) (hen : f.sc.names.lookup en = some .local)
    (hx : Names X Ex (.ref CW)) (hm : PySem.W.exmOne f.K (.ref CE) (.ref CW) = some true)
    (hsu : ∀ (a : Addr) (oe : Obj) (cls : Value) (d : Option Addr) (pn : List (Addr × Obj)), Zc cls d oe → (∃ vs, oe.data = .fields vs) → PSs (X.suite a ((a, oe) :: pn)) (b₀ :: suite) (ts a cls d))
    (hit : ∀ (a : Addr) (σ : L2.St) (H : Hp) (D : Ends) (dd : Addr) (fs : List (Str × V)) (y : V), σ.length = δ.length → σ[j]? = some (some (.ref a)) → H a = none → H dd = some (.xd fs) → fs.lookup fl = some y → (∀ H2 p, Ext H H2 → H2 p = none → D.nx (σ.set i (some (.ref p))) (upd H2 p (.tup [.str bad, y]))) → ts a (.ref CE) (some dd) D σ H)
    (he : ∀ X : Cx, starEach (e :: es) X.env = (false, eval e X.env) :: starEach es X.env) (hpl : ∀ X : Cx, (backTo pcc (starEach es X.env)).any (·.1) = false) (hjd : j < δ.length)
    (h : Rd.tryMk i j lit bad fl CE sp tas T δ E) :
    WS c (.Try [.Assign [.Name v px] (.Tuple [.Constant (.str lit) jl pl, .Call (.Name Cn pc) (e :: es) [] pcc] kt pt) pa] [.ExceptHandler (some (.Name Ex np)) (some en) (b₀ :: suite) pos'] [] [] pos) δ E := fun L σ H D N Cm => by
  obtain ⟨C, fa, fd, ps, m1, m2, m3, m4⟩ := M.ex
  have hloc : L2.Loc X.env.scope v := .inl (by rw [hF.s]; exact hv)
  refine runS_of (ps_try_as (tb := fun W => tAsg (tTup (tCons (tC (.str lit)) (tCons (tMakeS C (spI f.K f.U C n sp) (L2.WE W) (fun σ H Q => ∀ pn xe, PassesOwn (model X.prog X.w) X.A X.env xe → runA (X.tr pn xe) (e :: es) σ H Q)) tNil))) (gName i)) (i := j) hs hfr c.nd (by rw [hF.n]; exact hj) (show X.env.scope.names.lookup en = some .local by rw [hF.s]; exact hen) hx c.tk (fun W pn xe tkW own => ?_) hsu) ?_
  · refine pss_one (ps_set (i := i) c.nd (by show X.N[i]? = _; rw [hF.n]; exact hi) hloc (pe_tup (pa_cons pe_str (pa_cons (pe_makeS (by show Mk X.K C fa; rw [hF.k]; exact m2) (by show FnOk X.prog X.w X.K X.mg X.base _ _ _ _ _ _; rw [hF.p, hF.w, hF.k, hF.m, hF.b]; exact m4) (c.room.mono hk) (hF.gl hg) (by show X.mg Cn = _; rw [hF.m]; exact m1) (by show Binds X.K _ _ _; rw [hF.k]; exact m3) (fun σ => passAt tkW σ)
      ⟨fun pos pins s σ H Q I h => h pn xe own pos pins s I⟩ (glbB_ok hg).2.1 (he _) (hpl _)) pa_nil))) (by rfl) (.inr (by show X.env.scope.names.lookup v = _; rw [hF.s]; exact hv)))
  · intro pn xe own
    have hF' : f.X (X.tr pn xe) := ⟨hF.p, hF.w, hF.k, hF.m, hF.b, hF.n, hF.s, hF.f⟩
    have N' : En (Ct.quiet c pn xe own) L H σ δ := ⟨⟨N.ok.base, N.ok.lb, N.ok.new, N.ok.lsts⟩, N.len, N.rep, N.sep⟩
    refine ha (Ct.quiet c pn xe own) hF' δ _ h L σ H _ N' fun vs H1 ds s1 r1 got => ?_
    obtain ⟨hn2, got⟩ := got
    obtain ⟨st0, hsp⟩ := stiD_true got
    intro y dy hy hdy hne
    have ok1 := N.ok.mono s1
    have sm : Same f.U H1 (hide [y] (upd (upd H1 dy (.own y)) y (.ins C dy []))) := Ext.s fun b o hb => by
      have b1 : b ≠ y := ne_of_none hb hy
      have b2 : b ≠ dy := ne_of_none hb hdy
      rw [hide_ne (by simpa using b1), upd_ne b1, upd_ne b2]
      exact hb
    have hK : X.K = f.K := hF.k
    have len1 := N.len
    refine ⟨y, dy, vs, L, ds, _, _, rfl, ⟨hn2.trans hn, (N.ok.base.trans (s1.trans sm)).g c.g⟩, upd_same, by rw [upd_ne hne, upd_same], hne, ok1.fresh hy, ok1.fresh hdy, fun l hl => ?_, ?_, hsp, fun H' d s2 r2 z => ⟨rfl, ?_⟩, fun cls od o H' s2 r2 t => ?_⟩
    · obtain ⟨xs, m, g⟩ := ok1.lsts l hl
      exact ⟨xs, m, by rw [upd_ne (ne_of_none g hy), upd_ne (ne_of_none g hdy)]; exact g⟩
    · rw [hide_two hy hdy, ← hK]
      exact r1.reps st0
    · -- made
      refine ⟨by show 2 ≤ sizeLine; decide, fun p hp => ?_⟩
      have all : Same f.U H H' := s1.trans (sm.trans s2)
      have s3 : Same f.U H' (upd H' p (.tup [.str lit, .ref y])) := same_new hp
      have pl : p ∉ L := (N.mono all).ok.fresh hp
      have rt : RepO X.K f.U c.Lb L (upd H' p (.tup [.str lit, .ref y])) (.tup [.str lit, d]) (.ref p) :=
        ⟨p, [.str lit, .ref y], rfl, .of (hide_new hp pl), ⟨_, _, rfl, rfl, _, _, rfl, by rw [hK]; exact Rep.mono (hide_same s3.k) _ _ r2, rfl⟩, by show 2 ≤ sizeLine; decide⟩
      obtain ⟨L', N3⟩ := N.out (i := i) (all.trans s3) (show OutO X.K f.U L H _ (.tup [.str lit, d]) (.ref p) from rt)
      rw [fc_eq, st_eq] at z
      exact Cm.nx L' _ _ _ N3 z
    · -- raised
      obtain ⟨rfl, d, rfl, k5⟩ := t
      have all : Same f.U H H' := s1.trans (sm.trans s2)
      refine ⟨true, by rw [hK]; exact hm, fun _ a na => ?_, fun z => nomatch z⟩
      cases od with
      | none => exact False.elim r2
      | some dd =>
        obtain ⟨us, g1, g2⟩ := r2
        obtain ⟨u, r0, rfl, g3, rfl⟩ := g2
        have g1' : H' dd = some (.xd [(fl, u)]) := (hide_at g1).2
        refine hit a _ H' _ dd _ u (by rw [List.length_set]; exact N.len) (List.getElem?_set_self (by rw [N.len]; exact hjd)) na g1' (by simp [List.lookup]) fun H2 p ex hp => ?_
        have s2 : Same f.U H' H2 := Ext.s ex
        have s3 : Same f.U H2 (upd H2 p (.tup [.str bad, u])) := same_new hp
        have pl : p ∉ L := (N.mono (all.trans s2)).ok.fresh hp
        have rt : RepO X.K f.U c.Lb L (upd H2 p (.tup [.str bad, u])) (.tup [.str bad, d]) (.ref p) :=
          ⟨p, [.str bad, u], rfl, .of (hide_new hp pl), ⟨_, _, rfl, rfl, _, _, rfl, by rw [hK]; exact Rep.mono (hide_same (s2.trans s3).k) _ _ g3, rfl⟩, by show 2 ≤ sizeLine; decide⟩
        obtain ⟨L', N3⟩ := N.out (i := i) ((all.trans s2).trans s3) (show OutO X.K f.U L H _ (.tup [.str bad, d]) (.ref p) from rt)
        rw [fc_eq, st_eq, st_eq] at k5
        show D.nx (((σ.set j _).set i _).set j none) _
        rw [set_three σ hij]
        exact Cm.nx L' _ _ _ (N3.hole j) k5
/-! ### raise C(e) -/
/-- a class of exceptions that keeps a part as fl -/
structure ExS (P : Program) (w : World) (K : PySem.W.Frag) (mg : Str → Option Value) (base : Heap) (x fl : Str) (C : Addr) : Prop where
  g : mg x = some (.ref C)
  o : OexC K C
  ex : ∃ (f : Addr) (fd : FuncData) (ps : List Str), PySem.W.findIn K (.ref C) "__init__" = some (some (.ref f)) ∧ PySem.W.typeIn K (.ref f) = some (.type "function") ∧ Binds K fd ps [] ∧ FnOk P w K mg base (L2.CX P w) 1 f fd ps (spExI C fl)
theorem gone_heap {H : Hp} {a dx : Addr} {o o1 o2 o3 : HO} (ha : H a = none) (hd : dx ≠ a) : upd (del (upd (upd (upd H a o1) dx o2) a o3) a) dx o = upd H dx o := by
  funext b
  by_cases h1 : b = dx
  · subst h1
    rw [upd_same, upd_same]
  · rw [upd_ne h1, upd_ne h1]
    by_cases h2 : b = a
    · subst h2
      rw [del_same, ha]
    · rw [del_ne h2, upd_ne h2, upd_ne h1, upd_ne h2]
theorem WS_raise1 {X : Cx} {U : Pu} {lv : Nat} {T : XD} {c : Ct X U lv T} {δ : List (Option D)} {E : SE} {x fl : Str} {C : Addr} {e : Expr} {p pos pos' : Pos} (F : ExS X.prog X.w X.K X.mg X.base x fl C) (hk : 2 ≤ lv) (hg : Gl X x) (hdb : (x == ("__debug__" : Str)) = false)
    (he : starEach [e] X.env = (false, eval e X.env) :: starEach [] X.env) (h : WE c e δ fun d => d.still = true ∧ T (.ref C) (some ([fl], [d]))) : WS c (.Raise (some (.Call (.Name x p) [e] [] pos)) none pos') δ E := fun L σ H De N Cm => by
  obtain ⟨f, fd, ps, i1, i2, i3, i4⟩ := F.ex
  refine runS_of (ps_raise c.calm c.tk (pmk_oex (dvs := []) F.o i1 i2 i4 (c.room.mono hk) i3 .nil (passes_call c.tk fun _ _ _ _ z => z.elim) hg F.g (pa_cons pe_run pa_nil he) hdb he)) ?_
  refine h L σ H _ N fun y H1 d s1 r1 got => ?_
  obtain ⟨st, k⟩ := got
  refine ⟨by show 1 ≤ 1000; decide, fun a ha => ⟨a, y, rfl, upd_same, fun dx ndx ne => ?_⟩⟩
  rw [upd_ne ne] at ndx
  refine ⟨rfl, dx, [(fl, y)], upd_same, by rw [upd_ne ne, upd_same], ndx, ?_⟩
  rw [gone_heap ha ne]
  have s2 : Same U H1 (upd H1 dx (.xd [(fl, y)])) := same_new ndx
  have nl : dx ∉ c.Lb := fun z => (N.mono s1).ok.fresh ndx ((N.ok.lb) dx z)
  refine ⟨(N.ok.base.trans s1).trans s2, some ([fl], [d]), ⟨[y], hide_new ndx nl, _, _, rfl, ?_, rfl⟩, k⟩
  exact Rep.mono (hide_same s2.k) _ _ (Rep.mono (hide_le N.ok.lb) _ _ (r1.rep st))
/-- the reading of raise C(e) -/
def Rd.raise1 (C : Addr) (fl : Str) (te : RdE) : RdS := fun T δ _ => te T δ fun d => stP d (T (.ref C) (some ([fl], [d])))
theorem De.raise1 {f : Dl.Fr} {x fl : Str} {C : Addr} {e : Expr} {te : RdE} {p pos pos' : Pos} (F : ExS f.P f.w f.K f.mg f.base x fl C) (ha : ReE f e te) (hk : 2 ≤ f.lv := by (try dsimp only [Fr.blk, Fr.lam]); decide) (hg : glbB f.sc x = true := by (try dsimp only [Fr.blk, Fr.lam]); decide +kernel)
    (he : ∀ X : Cx, starEach [e] X.env = (false, eval e X.env) :: starEach [] X.env := by intro _; rfl) : ReS f (.Raise (some (.Call (.Name x p) [e] [] pos)) none pos') (Rd.raise1 C fl te) := .mk fun {X T} c G δ E h =>
  WS_raise1 (by rw [G.p, G.w, G.k, G.m, G.b]; exact F) hk (G.gl hg) (glbB_ok hg).2.1 (he X) ((ha c G δ _ h).mono fun d z => stP_ok z)
end Dl

set_option maxRecDepth 100000
set_option maxHeartbeats 4000000
/-! # isinstance and == at data of any kind -/
namespace Dl
open PySem PySem.Spec PyProof.Rows L2
/-- isinstance(e, T), T built in, e also an object of an own class -/
def Rd.isTyA (K : PySem.W.Frag) (t : String) (q : D → Option Bool) (a : RdE) : RdE := fun T δ S => a T δ fun x => match x with
  | .obj C _ _ => ObT K C ∧ PySem.W.kitOne K (.ref C) (.type t) = some false ∧ S (.bl false)
  | x => Rd.oB (fun b => S (.bl b)) (q x)
theorem De.isTyA {f : Dl.Fr} {a : Expr} {ta : RdE} {pos : Pos} {t : String} {q : D → Option Bool} {p1 p2 : Pos} {y : Str} (hq : De.TyOk t q) (hv : bootBuiltins y = some (.type t)) (hm : f.mg "isinstance" = none) (hm2 : f.mg y = none) (ha : ReE f a ta) (hg : glbB f.sc "isinstance" = true := by (try dsimp only [Fr.blk, Fr.lam]); decide +kernel) (hg2 : glbB f.sc y = true := by (try dsimp only [Fr.blk, Fr.lam]); decide +kernel)
    (he : ∀ X : Cx, starEach [a, .Name y p2] X.env = (false, eval a X.env) :: starEach [.Name y p2] X.env := by intro _; rfl) (hpl : ∀ X : Cx, (backTo pos (starEach [.Name y p2] X.env)).any (·.1) = false := by intro _; rfl) : ReE f (.Call (.Name "isinstance" p1) [a, .Name y p2] [] pos) (Rd.isTyA f.K t q ta) := .mk fun {X T} c F δ S h =>
  eB F hm bt_isinstance hg (WA_cons ((ha c F δ _ h).mono fun d h1 => WA_cons (eT F hm2 hv hg2 (WA_nil (by
    have key : ∀ {d : D}, Rd.oB (fun b => S (.bl b)) (q d) → CD c (.builtin "isinstance") [d, .any (.ty t)] S := fun {d} z => by
      cases e : q d with
      | none => rw [e] at z; exact z.elim
      | some b => rw [e] at z; exact hq e z
    cases d with
    | obj C ns ds =>
      obtain ⟨o, k1, h2⟩ := h1
      exact IsO F o (.ty t) k1 h2
    | _ => exact key h1))) rfl) (he X)) (he X) (hpl X)
/-- isinstance(e, C), C an own class, e of any kind -/
def Rd.isObA (K : PySem.W.Frag) (C : Addr) (a : RdE) : RdE := fun T δ S => a T δ fun x => match x with
  | .obj C' _ _ => ∃ b, PySem.W.kitOne K (.ref C') (.ref C) = some b ∧ ObT K C' ∧ S (.bl b)
  | x => ∃ t, x.ty = some t ∧ PySem.W.kitOne K (.type t) (.ref C) = some false ∧ S (.bl false)
theorem De.isObA {f : Dl.Fr} {a : Expr} {ta : RdE} {pos : Pos} {C : Addr} {p1 p2 : Pos} {y : Str} (hm : f.mg "isinstance" = none) (hC : Glb f.K f.mg y (.any (.ref C))) (ha : ReE f a ta) (hg : glbB f.sc "isinstance" = true := by (try dsimp only [Fr.blk, Fr.lam]); decide +kernel) (hg2 : glbB f.sc y = true := by (try dsimp only [Fr.blk, Fr.lam]); decide +kernel)
    (he : ∀ X : Cx, starEach [a, .Name y p2] X.env = (false, eval a X.env) :: starEach [.Name y p2] X.env := by intro _; rfl) (hpl : ∀ X : Cx, (backTo pos (starEach [.Name y p2] X.env)).any (·.1) = false := by intro _; rfl) : ReE f (.Call (.Name "isinstance" p1) [a, .Name y p2] [] pos) (Rd.isObA f.K C ta) := .mk fun {X T} c F δ S h =>
  eB F hm bt_isinstance hg (WA_cons ((ha c F δ _ h).mono fun d h1 => WA_cons (eG F hC hg2 (WA_nil (by
    cases d with
    | obj C' ns ds =>
      obtain ⟨b, k1, o, h2⟩ := h1
      exact IsO F o (.own C) k1 h2
    | _ =>
      obtain ⟨t, e, k1, h2⟩ := h1
      exact IsC F e k1 h2))) rfl) (he X)) (he X) (hpl X)
section
variable {X : Cx} {U : Pu} {lv : Nat} {T : XD} {c : Ct X U lv T}
theorem looks_ty {y : D} {t : String} (e : y.ty = some t) : ∀ (L : List Addr) (H : Hp) (pins : List (Addr × Obj)) (s : Shared) (σ : L2.St) (v : V) (u : Value), Inv X pins σ H s → RepO X.K U c.Lb L H y v → RelV v u → PySem.W.Looks (model X.prog X.w) s.heap (typeOf u) (.type t) := fun L H pins s σ v u I r rv => by
  obtain ⟨Pr, kx, pr, _⟩ := L2.kit_of I rv (tyx_of e r)
  exact kx.ty _ _ I.kIn pr
end
/-- {k: v}, a number to a number -/
theorem De.disp1 {f : Dl.Fr} {k v : Int} {j1 j2 : Nat} {p1 p2 pos : Pos} : ReE f (.Dict [some (.Constant (.int k) j1 p1)] [.Constant (.int v) j2 p2] pos) (Rd.g (.dck [.inl k] [.int v])) := .mk fun {X T} c F δ S h => fun L σ H Q E q =>
  runE_of (pe_disp (pps_cons pe_int pe_int pps_nil) rfl rfl (by intro z; cases z) (by show 1 ≤ 15; decide)) fun p hp => by
    refine ⟨upd_same, [(.inl k, .int v)], rfl, by show 1 ≤ 15; decide, ?_⟩
    have e2 : upd (upd H p (.dK [])) p (.dK (mergeK [] [(.inl k, .int v)])) = upd H p (.dK [(.inl k, .int v)]) := by
      funext b
      by_cases z : b = p
      · subst z
        rw [upd_same, upd_same]
        rfl
      · rw [upd_ne z, upd_ne z, upd_ne z]
    rw [e2]
    exact q _ _ (.dck [.inl k] [.int v]) (same_new hp) ⟨p, [.int v], rfl, hide_new hp (E.ok.fresh hp), ⟨_, _, rfl, rfl, rfl⟩, rfl⟩ h
end Dl

set_option maxRecDepth 100000
set_option maxHeartbeats 4000000
/-! # Facts of exception classes that keep a part, for the ending -/
namespace Dl
open PySem PySem.Spec PyProof.Rows L2
/-- the class's own object -/
def clsPB (K : PySem.W.Frag) (C : Addr) : Bool := match K.lookup C with
  | some ⟨.type t, _, .cls cd, sl⟩ => (match cd.mro, sl.toList with
    | .ref C' :: bm, [_, _, _, _, some (.builtin n), _] => decide (t = "type") && (decide (C' = C) && (decide (n = "ValueError.__new__") && (!cd.hasDel && (cd.hasDict && PySem.HandSPX.refsVE bm))))
    | _, _ => false)
  | _ => false
theorem clsPB_ok {K : PySem.W.Frag} {C : Addr} (h : clsPB K C = true) : ∃ nm q N bs bm sn sub ab col dd k0 k1 k2 k3 k5, K.lookup C = some (excClassObj nm q C N bs bm true sn sub ab col dd k0 k1 k2 k3 k5 "ValueError.__new__") ∧ PySem.HandSPX.refsVE bm = true := by
  unfold clsPB at h
  split at h
  · rename_i t dd cd sl ho
    split at h
    · rename_i C' bm k0 k1 k2 k3 n k5 hm hs
      obtain ⟨h0, h⟩ := He.ba h
      obtain ⟨h1, h⟩ := He.ba h
      obtain ⟨h2, h⟩ := He.ba h
      obtain ⟨h3, h⟩ := He.ba h
      obtain ⟨h4, h5⟩ := He.ba h
      have h0 := of_decide_eq_true h0
      have h1 := of_decide_eq_true h1
      have h2 := of_decide_eq_true h2
      obtain ⟨nm, bs, mro, ns, qn, hd, sn, sub, ab, col, del⟩ := cd
      dsimp only at hm h3 h4
      have h3 : del = false := by simpa using h3
      subst hm h3 h4 h0 h1 h2
      have hsl : sl = #[k0, k1, k2, k3, some (.builtin "ValueError.__new__"), k5] := by
        obtain ⟨l⟩ := sl
        simp only at hs
        rw [hs]
      subst hsl
      exact ⟨nm, qn, ns, bs, bm, sn, sub, ab, col, dd, k0, k1, k2, k3, k5, ho, h5⟩
    · cases h
  · cases h
def isStrAt (vs : Array Value) (file : Str) : Bool := match vs[2]? with
  | some (Value.str z _) => decide (z = file)
  | _ => false
theorem isStrAt_ok {vs : Array Value} {file : Str} (h : isStrAt vs file = true) : ∃ tf, vs[2]? = some (Value.str file tf) := by
  unfold isStrAt at h
  split at h
  · rename_i z tf h31
    have h := of_decide_eq_true h
    subst h
    exact ⟨_, h31⟩
  · cases h
/-- the def's own object: def __init__(self, a): super().__init__(a); self.fl = a -/
def iniPB (a fl file : Str) (K : PySem.W.Frag) (C f : Addr) : Bool := match K.lookup f with
  | some ⟨_, _, .func ⟨n1, n2, ⟨[], [⟨s, _, _⟩, ⟨a0, _, _⟩], none, [], [], none, []⟩, .stmts [.Expr (.Call (.Attribute (.Call (.Name su _) [] [] _) ini q2) [.Name a1 _] [] q4) _, .Assign [.Attribute (.Name s1 _) f1 _] (.Name a2 _) _], sc, g, [(cn, cc)], .none, _, _, _, _, .ref cda, _, b⟩, _⟩ =>
    decide (n1 = "__init__") && (decide (s = "self") && (decide (a0 = a) && (decide (su = "super") && (decide (ini = "__init__") && (decide (a1 = a) && (decide (s1 = "self") && (decide (f1 = fl) && (decide (a2 = a) && ((q2.endLine == q4.line) && (decide (g = mainGlobals) && (decide (b = builtinsNs) && (decide (cn = "__class__") &&
    (PySem.W.codeIn K (.ref cda) n2 && ((match K.lookup cda with
      | some ⟨_, _, .fields vs, _⟩ => isStrAt vs file
      | _ => false) && ((match K.lookup cc with
      | some ⟨_, _, .cell (some (.ref c)), _⟩ => decide (c = C)
      | _ => false) && (decide (sc.names.lookup ("super" : Str) = some NameKind.globalImplicit) && (decide (sc.names.lookup ("__class__" : Str) = some NameKind.free) && (decide (sc.names.lookup ("self" : Str) = some NameKind.local) && (decide (sc.names.lookup a = some NameKind.local) && ((sc.names.all fun x => decide (x.2 ≠ .cell)) && (decide (sc.kind = .function) && (!sc.isCoroutine && !sc.isGenerator))))))))))))))))))))))
  | _ => false
/-- the shape of such a def -/
structure IniP (K : PySem.W.Frag) (C f : Addr) (a fl file : Str) (qual : Str) (e1 e2 : Option Expr) (r1 r2 q0 q1 q2 q3 q4 q5 q6 q7 q8 q9 : Pos) (sc : Scope) (kV doc pm ct : Value) (an : Option Addr) (cda cc : Addr) : Prop where
  lk : ∃ oc od osl, K.lookup f = some ⟨oc, od, .func (PySem.W.ksFn "__init__" qual (exParams "self" a e1 e2 r1 r2) (exBody "self" a fl q0 q1 q2 q3 q4 q5 q6 q7 q8 q9) sc .none kV doc pm an (.ref cda) ct cc), osl⟩
  hcd : PySem.W.codeIn K (.ref cda) qual = true
  hcode : ∃ ccl cdd vs ccs tf, K.lookup cda = some ⟨ccl, cdd, .fields vs, ccs⟩ ∧ vs[2]? = some (.str file tf)
  hcell : ∃ ccl2 cdd2 ccs2, K.lookup cc = some ⟨ccl2, cdd2, .cell (some (.ref C)), ccs2⟩
  n1 : sc.names.lookup ("super" : Str) = some .globalImplicit
  n2 : sc.names.lookup ("__class__" : Str) = some .free
  n3 : sc.names.lookup ("self" : Str) = some .local
  n4 : sc.names.lookup a = some .local
  nc : ∀ x ∈ sc.names, x.2 ≠ .cell
  hk : sc.kind = .function
  hco : sc.isCoroutine = false
  hgen : sc.isGenerator = false
  hl : (q2.endLine == q4.line) = true
theorem iniPB_ok {a fl file : Str} {K : PySem.W.Frag} {C f : Addr} (h : iniPB a fl file K C f = true) : ∃ qual e1 e2 r1 r2 q0 q1 q2 q3 q4 q5 q6 q7 q8 q9 sc kV doc pm ct an cda cc, IniP K C f a fl file qual e1 e2 r1 r2 q0 q1 q2 q3 q4 q5 q6 q7 q8 q9 sc kV doc pm ct an cda cc := by
  unfold iniPB at h
  split at h
  · rename_i oc od n1 n2 s e1 r1 a0 e2 r2 su q0 q1 ini q2 a1 q3 q4 q5 s1 q6 f1 q7 a2 q8 q9 sc g cn cc kV doc pm an cda ct b osl ho
    obtain ⟨h1, h⟩ := He.ba h
    obtain ⟨h2, h⟩ := He.ba h
    obtain ⟨h3, h⟩ := He.ba h
    obtain ⟨h4, h⟩ := He.ba h
    obtain ⟨h5, h⟩ := He.ba h
    obtain ⟨h6, h⟩ := He.ba h
    obtain ⟨h7, h⟩ := He.ba h
    obtain ⟨h8, h⟩ := He.ba h
    obtain ⟨h9, h⟩ := He.ba h
    obtain ⟨h10, h⟩ := He.ba h
    obtain ⟨h11, h⟩ := He.ba h
    obtain ⟨h12, h⟩ := He.ba h
    obtain ⟨h13, h⟩ := He.ba h
    obtain ⟨h14, h⟩ := He.ba h
    obtain ⟨h15, h⟩ := He.ba h
    obtain ⟨h16, h⟩ := He.ba h
    obtain ⟨h17, h⟩ := He.ba h
    obtain ⟨h18, h⟩ := He.ba h
    obtain ⟨h19, h⟩ := He.ba h
    obtain ⟨h20, h⟩ := He.ba h
    obtain ⟨h21, h⟩ := He.ba h
    obtain ⟨h22, h⟩ := He.ba h
    obtain ⟨h23, h24⟩ := He.ba h
    have h1 := of_decide_eq_true h1
    have h2 := of_decide_eq_true h2
    have h3 := of_decide_eq_true h3
    have h4 := of_decide_eq_true h4
    have h5 := of_decide_eq_true h5
    have h6 := of_decide_eq_true h6
    have h7 := of_decide_eq_true h7
    have h8 := of_decide_eq_true h8
    have h9 := of_decide_eq_true h9
    have h11 := of_decide_eq_true h11
    have h12 := of_decide_eq_true h12
    have h13 := of_decide_eq_true h13
    subst h1 h2 h3 h4 h5 h6 h7 h8 h9 h11 h12 h13
    refine ⟨_, _, _, _, _, _, _, _, _, _, _, _, _, _, _, _, _, _, _, _, _, _, _, ⟨⟨_, _, _, ho⟩, h14, ?_, ?_, of_decide_eq_true h17, of_decide_eq_true h18, of_decide_eq_true h19, of_decide_eq_true h20, fun x hx => of_decide_eq_true (List.all_eq_true.mp h21 x hx), of_decide_eq_true h22, by simpa using h23, by simpa using h24, h10⟩⟩
    · split at h15
      · rename_i c1 c2 vs c3 h30
        obtain ⟨tf, h31⟩ := isStrAt_ok h15
        exact ⟨_, _, _, _, _, h30, h31⟩
      · cases h15
    · split at h16
      · rename_i c1 c2 c c3 h30
        have h16 := of_decide_eq_true h16
        subst h16
        exact ⟨_, _, _, h30⟩
      · cases h16
  · cases h
/-- an own class of exceptions under ValueError that keeps a part -/
def excPB (C a fl file : Str) (K : PySem.W.Frag) : Bool := clsPB K (He.ga K C) && (iniPB a fl file K (He.ga K C) (He.ma K (He.ga K C) "__init__") && (He.eqO (PySem.W.findIn K (.ref (He.ga K C)) "__init__") (some (some (.ref (He.ma K (He.ga K C) "__init__")))) && (He.eqO (PySem.W.findIn K (.ref (He.ga K C)) "__setattr__") (some (some (.builtin "object.__setattr__"))) && (decide (PySem.W.subIn K (.ref (He.ga K C)) (.type "BaseException") = some true) &&
  (decide (PySem.W.typeIn K (.ref (He.ga K C)) = some (.type "type")) && (PySem.W.keepIn K (.ref (He.ga K C)) && (He.eqO (PySem.W.findIn K (.ref (He.ga K C)) fl) (some none) && (decide (PySem.W.mroIn K (He.ga K C) (.ref (He.ga K C)) = some true) && (He.eqO (PySem.W.ks_superIn K (He.ga K C) (He.ga K C) "__init__") (some (some (.builtin "ValueError.__init__"))) &&
  (decide (PySem.W.subIn K (.ref (He.ga K C)) (.type "ValueError") = some true) && (He.eqO (PySem.W.nsIn K cStatics "thirdparty.any") (some none) && (PySem.W.excInitIn K (He.ga K C) veTail "ValueError.__new__" && decide (PySem.W.typeIn K (.ref (He.ma K (He.ga K C) "__init__")) = some (.type "function"))))))))))))))
section
variable {P : Program} {w : World} {K : PySem.W.Frag} {mg : Str → Option Value} {h base : Heap} {d : Hd}
theorem excP_of (X : K.In h) (G : h.Ns mainGlobals mg) (c : SaysX d K) {C a fl file : Str} (i j l : Nat) (hfile : ((P.main.file : Str) == file) = true) (top : (P.main.scope.names.lookup ("super" : Str)).isSome = false)
    (hbind : ∀ (qual : Str) (e1 e2 : Option Expr) (r1 r2 : Pos) (body : List Stmt) (sc : Scope) (kV doc pm ct cdv : Value) (an : Option Addr) (cc : Addr) (us : List Value), us.length = 2 → bindArgs (PySem.W.ksFn "__init__" qual (exParams "self" a e1 e2 r1 r2) body sc .none kV doc pm an cdv ct cc) ⟨us, []⟩ = pure ([("self" : Str), a].zip us))
    (h1 : d.ex[i]? = some (excPB C a fl file) := by rfl) (h2 : d.fa[j]? = some (.glo C) := by rfl) (h3 : d.fa[l]? = some (.free "super") := by rfl) (sa : ("self" : Str) ≠ a := by decide) (d2 : (a == ("__debug__" : Str)) = false := by decide) : ExS P w K mg base C fl (He.ga K C) := by
  have z := c.ext i h1
  unfold excPB at z
  obtain ⟨z1, z⟩ := He.ba z
  obtain ⟨z2, z⟩ := He.ba z
  obtain ⟨z3, z⟩ := He.ba z
  obtain ⟨z4, z⟩ := He.ba z
  obtain ⟨z5, z⟩ := He.ba z
  obtain ⟨z6, z⟩ := He.ba z
  obtain ⟨z7, z⟩ := He.ba z
  obtain ⟨z8, z⟩ := He.ba z
  obtain ⟨z9, z⟩ := He.ba z
  obtain ⟨z10, z⟩ := He.ba z
  obtain ⟨z11, z⟩ := He.ba z
  obtain ⟨z12, z⟩ := He.ba z
  obtain ⟨z13, z14⟩ := He.ba z
  have O : OexC K (He.ga K C) := ⟨clsPB_ok z1, He.eqO_ok z4, of_decide_eq_true z5, of_decide_eq_true z6, z7⟩
  have F : ExF P K mg (He.ga K C) fl := ⟨O, He.eqO_ok z8, of_decide_eq_true z9, He.eqO_ok z10, of_decide_eq_true z11, He.eqO_ok z12, z13, He.free_ok X G (c.fact l h3), top⟩
  obtain ⟨qual, e1, e2, r1, r2, q0, q1, q2, q3, q4, q5, q6, q7, q8, q9, sc, kV, doc, pm, ct, an, cda, cc, I⟩ := iniPB_ok z2
  obtain ⟨oc, od, osl, lk⟩ := I.lk
  obtain ⟨ccl, cdd, vs, ccs, tf, hc1, hc2⟩ := I.hcode
  obtain ⟨ccl2, cdd2, ccs2, hcell⟩ := I.hcell
  refine ⟨He.glo_ok X G (c.fact j h2), O, He.ma K (He.ga K C) "__init__", _, [("self" : Str), a], He.eqO_ok z3, of_decide_eq_true z14, Binds.all fun us hl => hbind qual e1 e2 r1 r2 _ sc kV doc pm ct (.ref cda) an cc us hl, fn_exI F lk I.hcd hc1 hc2 hfile hcell I.n1 I.n2 I.n3 I.n4 I.nc I.hk I.hco I.hgen sa I.hl (by decide) d2⟩
theorem excP_fld (c : SaysX d K) {C a fl file : Str} (i : Nat) (h1 : d.ex[i]? = some (excPB C a fl file) := by rfl) : PySem.W.findIn K (.ref (He.ga K C)) fl = some none := by
  have z := c.ext i h1
  unfold excPB at z
  obtain ⟨z1, z⟩ := He.ba z
  obtain ⟨z2, z⟩ := He.ba z
  obtain ⟨z3, z⟩ := He.ba z
  obtain ⟨z4, z⟩ := He.ba z
  obtain ⟨z5, z⟩ := He.ba z
  obtain ⟨z6, z⟩ := He.ba z
  obtain ⟨z7, z⟩ := He.ba z
  exact He.eqO_ok (He.ba z).1
theorem excPC_of (c : SaysX d K) {C a fl file : Str} (i j : Nat) (h1 : d.ex[i]? = some (excPB C a fl file) := by rfl) (h2 : d.ex[j]? = some (excCB C) := by rfl) : ExcC K (He.ga K C) := by
  have z := c.ext i h1
  unfold excPB at z
  obtain ⟨z1, z⟩ := He.ba z
  obtain ⟨z2, z⟩ := He.ba z
  obtain ⟨z3, z⟩ := He.ba z
  obtain ⟨z4, z⟩ := He.ba z
  obtain ⟨z5, z⟩ := He.ba z
  have y := c.ext j h2
  unfold excCB at y
  obtain ⟨y1, y⟩ := He.ba y
  obtain ⟨y2, y⟩ := He.ba y
  obtain ⟨y3, y⟩ := He.ba y
  obtain ⟨y4, y⟩ := He.ba y
  obtain ⟨y5, y⟩ := He.ba y
  obtain ⟨y6, y7⟩ := He.ba y
  exact ⟨He.eqO_ok y1, He.eqO_ok y2, of_decide_eq_true z5, y3, He.eqO_ok y4, He.eqO_ok y5, of_decide_eq_true y6, of_decide_eq_true y7⟩
end
def nfTB (C : Str) (T : String) (K : PySem.W.Frag) : Bool := PySem.W.notFirst K (He.ga K C) (.type T)
theorem nfT_of {K : PySem.W.Frag} {d : Hd} (c : SaysX d K) {C : Str} {T : String} (i : Nat) (h1 : d.ex[i]? = some (nfTB C T) := by rfl) : PySem.W.notFirst K (He.ga K C) (.type T) = true := c.ext i h1
def kitRB (T : String) (C : Str) (b : Bool) (K : PySem.W.Frag) : Bool := decide (PySem.W.kitOne K (.type T) (.ref (He.ga K C)) = some b)
theorem kitR_of {K : PySem.W.Frag} {d : Hd} (c : SaysX d K) {C : Str} {T : String} {b : Bool} (i : Nat) (h1 : d.ex[i]? = some (kitRB T C b) := by rfl) : PySem.W.kitOne K (.type T) (.ref (He.ga K C)) = some b := of_decide_eq_true (c.ext i h1)
/-! ### a head with the interpreter's own statics -/
def asS (g : Addr → Option Obj) (n : Nat) : List Addr := He.asD g n ++ [cStatics]
def obsSG (n : Nat) (d : Hd) (tf : List He.Defn) (g : Addr → Option Obj) : He.AlX := (He.obsT d.fa d.fn [] (He.frT g (asS g n)), (d.ex.all fun e => e (He.frT g (asS g n))) && He.tabsB g tf (He.frT g (asS g n)))
theorem saysS_of {n : Nat} {d : Hd} {tf : List He.Defn} {w : World} {h : Heap} (e : obsSG n d tf h.get? = He.valX d.fn [] w) : SaysY d tf w h (He.frT h.get? (asS h.get? n)) := by
  have e2 : ((d.ex.all fun e => e (He.frT h.get? (asS h.get? n))) && He.tabsB h.get? tf (He.frT h.get? (asS h.get? n))) = true := congrArg (fun z : He.AlX => z.2) e
  obtain ⟨h1, h2⟩ := He.ba e2
  have key : ∀ p ∈ tf, PySem.W.codeHdIn (He.frT h.get? (asS h.get? n)) (He.cT (He.frT h.get? (asS h.get? n)) p).1 (He.cT (He.frT h.get? (asS h.get? n)) p).2 = true ∧ ∃ o, h.get? (He.cT (He.frT h.get? (asS h.get? n)) p).2 = some o ∧ He.emptyTab o = true := fun p hp => by
    obtain ⟨h3, h4⟩ := He.ba (List.all_eq_true.mp h2 p hp)
    cases q : h.get? (He.cT (He.frT h.get? (asS h.get? n)) p).2 with
    | none =>
      rw [q] at h4
      cases h4
    | some o =>
      rw [q] at h4
      exact ⟨h3, o, rfl, h4⟩
  exact ⟨congrArg (fun z : He.AlX => z.1) e, h1, fun p hp => (key p hp).1, fun p hp => (key p hp).2.elim fun _ z => He.frT_none z.1 z.2, fun p hp => (key p hp).2.elim fun _ z => by rw [z.1, He.emptyTab_eq z.2]⟩
def hookS (n : Nat) (d : Hd) (tf : List He.Defn) : PySem.W.Hook where
  α := He.AlX
  obs := fun s => obsSG n d tf s.heap.get?
  val := fun w => He.valX d.fn [] w
  says := fun w h => ∃ K : PySem.W.Frag, K.In h ∧ SaysY d tf w h K
  of := fun _ _ e => ⟨_, He.frT_in, saysS_of e⟩
  keeps := fun _ _ _ ⟨K, hK, c⟩ k => ⟨K, PySem.W.Frag.In.keeps hK k, ⟨c.t, c.more, c.hd, c.out, fun p hp => k _ _ (c.empty p hp)⟩⟩
theorem obsSG_eq {n : Nat} {d : Hd} {tf : List He.Defn} {g : Addr → Option Obj} {s : Shared} (h : ∀ a, g a = s.heap.get? a) : obsSG n d tf g = (hookS n d tf).obs s := by
  have e : g = s.heap.get? := funext h
  rw [e] <;> rfl
end Dl

set_option maxRecDepth 100000
set_option maxHeartbeats 4000000
/-! # What a suite asks of a caught exception that keeps a part -/
namespace Dl
open PySem PySem.Spec PyProof.Rows L2
/-- isinstance(e, c), e the exception that the suite holds, with a dict -/
def rIsD (K : PySem.W.Frag) (D a : Addr) (d : Option Addr) : List V → Hp → VK → Prop := fun xs H Q => ∃ (c : V) (cv : Value) (b : Bool), xs = [.ref a, c] ∧ (∀ u, RelV c u → u = cv) ∧ PySem.W.kitOne K (.ref D) cv = some b ∧ (∃ dd fs, d = some dd ∧ H dd = some (.xd fs)) ∧ Q (.bl b) H
theorem inst_xd {X : Cx} {a D : Addr} {oe : Obj} {pins pn : List (Addr × Obj)} {s : Shared} {σ : L2.St} {H : Hp} {d : Option Addr} (I : Inv (X.suite a ((a, oe) :: pn)) pins σ H s) (hz : Zc (.ref D) d oe) (hf : ∃ vs, oe.data = .fields vs) (hd : ∃ dd fs, d = some dd ∧ H dd = some (.xd fs)) :
    ∃ od, PySem.W.InstAt s.heap a oe D (some od) := by
  obtain ⟨dd, fs, rfl, ea⟩ := hd
  obtain ⟨ha, _⟩ := I.pin (a, oe) (List.mem_append_left _ List.mem_cons_self)
  obtain ⟨vs, hv⟩ := hf
  have hx : ObjOk X.prog X.w H s.heap dd (.xd fs) := I.hok dd _ ea
  obtain ⟨mA, hns, _⟩ := hx
  obtain ⟨od, ho, _⟩ := lookIn_ns hns
  exact ⟨od, ha, hz.1, by unfold PySem.W.notCls; rw [hv] <;> rfl, by rw [hz.2]; exact ho⟩
theorem call_isED {X : Cx} {a D : Addr} {oe : Obj} {pn : List (Addr × Obj)} {d : Option Addr} (C : ExcC X.K D) (hz : Zc (.ref D) d oe) (hf : ∃ vs, oe.data = .fields vs) : CallR (X.suite a ((a, oe) :: pn)) (.builtin "isinstance") (rIsD X.K D a d) := by
  intro pins s σ H xs us Q I r h
  obtain ⟨c, cv, b, rfl, hcv, e, hd, q⟩ := h
  obtain ⟨od, J⟩ := inst_xd I hz hf hd
  cases r with
  | cons rx rr =>
    cases rr with
    | cons rt rr =>
      cases rr
      cases rx
      have ec := hcv _ rt
      subst ec
      obtain ⟨cd, hc, _⟩ := PySem.W.any_some C.hd
      exact PySem.W.kia_one (PySem.W.kitx_exc (od := some od) (by rw [hc]; rfl) C.hg C.hk C.hs C.ha C.hn C.ht C.hm) I.kIn J e (fun z => nomatch z) fun tk => ⟨.bl b, H, I.kept (t' := tk) fun _ _ z => z, rfl, q⟩
/-- a suite that is known for one class alone -/
theorem pss_cls {X : Cx} {sts : List Stmt} {cls : Value} {CE : Addr} {t : TS} (h : cls = .ref CE → PSs X sts t) : PSs X sts (fun D σ H => cls = .ref CE ∧ t D σ H) := ⟨fun pins s σ H D I k => (h k.1).run pins s σ H D I k.2⟩
end Dl
namespace Dl
open PySem PySem.Spec PyProof.Rows L2
/-- isinstance(e, (c, ..)) -/
def rIsDT (K : PySem.W.Frag) (D a : Addr) (d : Option Addr) : List V → Hp → VK → Prop := fun xs H Q => ∃ (tp : Addr) (cs : List V) (cvs : List Value) (b : Bool), xs = [.ref a, .ref tp] ∧ SqT K H tp cs ∧ (∀ us, Vals cs us → us = cvs) ∧ PySem.W.kitAny K (.ref D) cvs = some b ∧ (∃ dd fs, d = some dd ∧ H dd = some (.xd fs)) ∧ Q (.bl b) H
theorem call_isEDT {X : Cx} {a D : Addr} {oe : Obj} {pn : List (Addr × Obj)} {d : Option Addr} (C : ExcC X.K D) (hz : Zc (.ref D) d oe) (hf : ∃ vs, oe.data = .fields vs) : CallR (X.suite a ((a, oe) :: pn)) (.builtin "isinstance") (rIsDT X.K D a d) := by
  intro pins s σ H xs us Q I r h
  obtain ⟨tp, cs, cvs, b, rfl, hsq, hcv, e, hd, q⟩ := h
  obtain ⟨od, J⟩ := inst_xd I hz hf hd
  cases r with
  | cons rx rr =>
    cases rr with
    | cons rt rr =>
      cases rr
      cases rx
      cases rt
      obtain ⟨its, rv, ⟨ot, g, c1, n, f1⟩, _⟩ := I.tuple hsq
      obtain rfl := hcv its rv
      obtain ⟨oc, odd, oda, osl⟩ := ot
      dsimp only at c1 f1
      subst c1 f1
      obtain ⟨cd, hc, _⟩ := PySem.W.any_some C.hd
      exact PySem.W.kia_tup (PySem.W.kitx_exc (od := some od) (by rw [hc]; rfl) C.hg C.hk C.hs C.ha C.hn C.ht C.hm) I.kIn J g e (fun z => nomatch z) fun tk => ⟨.bl b, H, I.kept (t' := tk) fun _ _ z => z, rfl, q⟩
theorem kitAny_two {K : PySem.W.Frag} {t : Value} {A B : Addr} (h1 : PySem.W.kitOne K t (.ref A) = some false) (h2 : PySem.W.kitOne K t (.ref B) = some false) : PySem.W.kitAny K t [.ref A, .ref B] = some false := by
  simp [PySem.W.kitAny, h1, h2]
end Dl

set_option maxRecDepth 100000
set_option maxHeartbeats 4000000
/-! # == of tuples whose items have an own == -/
namespace GQ
open PySem PySem.SeqAt
open AutoSeq1 (wpAny_loadPart')
open MeetsSeq MeetsSeq2 MeetsSeq3 SeqRoads2
section
variable {prog : Program} {w : World} {A : Around} {R : Result → Shared → Prop}
/-- == of two tuples as long as one another, pair by pair: J holds ahead of the pairs that are left -/
theorem tuple_eqB {l b : Addr} {xs ys : Array Value} {m1 m2 : Nat} {d1 d2 : Option Addr} {sl sl2 : Array (Option Value)} (hsz : xs.size = ys.size) (J : List (Value × Value) → Shared → Prop)
    (turn : ∀ x y rest s, J ((x, y) :: rest) s → wpAny (model prog w) A.in1 (eqBool x y) (fun r s' => match r with | true => J rest s' | false => R (.ok (.ret (.bool false))) s') (fun e s' => R (.error e) s') s)
    (fin : ∀ s, J [] s → R (.ok (.ret (.bool true))) s) {s : Shared} (ha : s.heap.get? l = some { cls := .type "tuple", dict := d1, data := .seq xs m1, slots := sl }) (hb : s.heap.get? b = some { cls := .type "tuple", dict := d2, data := .seq ys m2, slots := sl2 })
    (h : J (xs.toList.zip ys.toList) s) : wpAny (model prog w) A.in1 (Builtin.«tuple.__eq__» ⟨[.ref l, .ref b], []⟩) (FinOf prog w A R) (fun e s' => R (.error e) s') s := by
  have sub := AutoSeq1.sub_tuple_tuple
  have h0 := h
  obtain ⟨hp, g, d, tk, os⟩ := s
  wp_walk using wpAny_loadPart' ha, wpAny_loadPart' hb, wpAny_forIn_list _ (fun rest u s' => u.1 = none ∧ J rest s') _
  case turn =>
    rintro ⟨x, y⟩ rest u s' ⟨_, hJ⟩
    refine wpAny_bind (wpAny_mono (turn x y rest s' hJ) (fun r s2 q => ?_) fun _ _ z => z)
    cases r with
    | true =>
      wp_walk
      exact ⟨rfl, q⟩
    | false =>
      wp_walk
      exact q
  case fin =>
    rintro ⟨u, _⟩ s' ⟨hu, hJ⟩
    obtain rfl : u = none := hu
    have hR := fin s' hJ
    wp_walk
    simpa [Builtin.Tuple.tupleCompareSizes, hsz] using hR
  case h =>
    exact ⟨rfl, h0⟩
end
end GQ
namespace GQ
open PySem PySem.SeqAt
section
variable {prog : Program} {w : World} {A : Around} {E : Value → Shared → Prop} {s : Shared}
theorem rc_tupB {l b : Addr} {xs ys : Array Value} {Q : Value → Shared → Prop} (hsz : xs.size = ys.size) (hu : A.units < cLine) (J : List (Value × Value) → Shared → Prop) (ha : s.heap.IsTuple l xs) (hb : s.heap.IsTuple b ys)
    (turn : ∀ x y rest s, J ((x, y) :: rest) s → wpAny (model prog w) A.in1 (eqBool x y) (fun r s' => match r with | true => J rest s' | false => Q (.bool false) s') E s)
    (fin : ∀ s, J [] s → Q (.bool true) s) (h : J (xs.toList.zip ys.toList) s) : wpAny (model prog w) A (richCompare .Eq (.ref l) (.ref b)) Q E s := by
  obtain ⟨⟨c1, d1, z1, sl⟩, o1, e1, m1, f1⟩ := ha
  obtain ⟨⟨c2, d2, z2, sl2⟩, o2, e2, m2, f2⟩ := hb
  dsimp only at e1 f1 e2 f2
  subst e1 f1 e2 f2
  refine wpAny_richCompare_same_room (op := .Eq) ⟨_, o1, rfl⟩ ⟨_, o2, rfl⟩ F.slot_tuple_eq (call_here F.slot_tuple_eq ⟨_, o1, rfl⟩ F.entry_tuple_eq (F.args_tuple_eq_2 _ _) ?_) hu
  exact tuple_eqB (R := wants (fun v s' => v ≠ .notImplemented ∧ Q v s') E) hsz J (fun x y rest s hJ => wpAny_mono (turn x y rest s hJ) (fun r s' q => match r, q with
    | true, q => q
    | false, q => ⟨(fun z => nomatch z), q⟩) fun _ _ z => z) (fun s hJ => ⟨(fun z => nomatch z), fin s hJ⟩) o1 o2 h
end
end GQ
namespace Dl
open PySem PySem.Spec PyProof.Rows L2
/-- what stands at a tuple's address is one list -/
theorem sqT_one {X : Cx} {pins : List (Addr × Obj)} {s : Shared} {σ : L2.St} {H : Hp} (I : Inv X pins σ H s) {a : Addr} {xs ys : List V} (h1 : SqT X.K H a xs) (h2 : SqT X.K H a ys) : xs = ys := by
  obtain ⟨i1, r1, ⟨o1, g1, _, m1, f1⟩, _⟩ := I.tuple h1
  obtain ⟨i2, r2, ⟨o2, g2, _, m2, f2⟩, _⟩ := I.tuple h2
  rw [g1] at g2
  cases g2
  rw [f1] at f2
  injection f2 with f3
  have f4 : i1 = i2 := by simpa using f3
  subst f4
  exact Vals.inj r1 r2
section
variable {X : Cx} {U : Pu} {lv : Nat} {T : XD} {c : Ct X U lv T} {S : D → Prop}
/-- == of an object and another one, somewhere inside a builtin -/
theorem eqE_obj {C C' : Addr} {ns ns' : List Str} {ds ds' : List D} {b : Bool} {k : Nat} {sp : DSpec} (M : Mt X.prog X.w X.K X.mg X.base U k C "__eq__" 2 sp) (o : Cls X.K C) (hn : PySem.W.notFirst X.K C (.ref C') = true)
    (h : sp [.obj C ns ds, .obj C' ns' ds'] (fun d => d = .bl b) T) {A : Around} (sb : Sub X k A) {pins : List (Addr × Obj)} {s : Shared} {σ : L2.St} {L : List Addr} {H : Hp} (I : Inv X pins σ H s) (kk : Ok c L H)
    {vx vy : V} {u w : Value} (rx : Rep X.K U (hide L H) (.obj C ns ds) vx) (ry : Rep X.K U (hide L H) (.obj C' ns' ds') vy) (hx : RelV vx u) (hy : RelV vy w)
    (hid : vx = vy → b = true) : wpAny (model X.prog X.w) A (eqBool u w) (fun r s' => r = b ∧ ∃ H', Inv X pins σ H' s' ∧ Same U H H') X.xe s := by
  obtain ⟨f, fd, ps, h1, h2, h3, h4, F⟩ := M.ex
  have rx0 := rx
  have ry0 := ry
  obtain ⟨a, dx, ws, rfl, ha, hd, rw'⟩ := rx
  obtain ⟨a', dx', ws', rfl, ha', hd', rw2⟩ := ry
  cases hx
  cases hy
  by_cases hab : a = a'
  · subst hab
    obtain rfl := hid rfl
    exact SeqAt.EqAt.same (A := A) (s := s) (.ref a) X.prog X.w X.xe _ ⟨rfl, H, I, Same.refl H⟩
  · refine GQ.eqBool_refG hab ?_
    obtain ⟨mA, J, _⟩ := ins_get I.hok (hide_at ha).2
    obtain ⟨od, J, _⟩ := J.look
    obtain ⟨mB, J', _⟩ := ins_get I.hok (hide_at ha').2
    obtain ⟨od', J', _⟩ := J'.look
    obtain ⟨m, hF⟩ := I.fr
    refine PySem.W.cmp_K (op := .Eq) sb.room.units0 hF I.ok.mod.kin J J'.type hn h1 h2 ?_
    have hsp : spD X.K U 2 sp [.ref a, .ref a'] H (fun v H' => v = .bl b ∧ Same U H H') (L2.WE (fun cls od _ H' => Same U c.Hb H' ∧ ∃ fl, RepX X.K U (hide c.Lb H') od fl ∧ T cls fl) σ) :=
      ⟨L, [.obj C ns ds, .obj C' ns' ds'], _, T, ⟨rfl, kk.base.g c.g⟩, kk.lsts, ⟨.ref a, [.ref a'], rfl, rx0, .ref a', [], rfl, ry0, rfl⟩, h, fun v' H' d s1 r1 e => by
        subst e
        exact ⟨r1, s1⟩, fun cls od fl H' s1 r1 t => ⟨kk.base.trans s1, fl, RepX.mono (hide_le kk.lb) r1, t⟩⟩
    have e0 : Env0 X.prog X.w X.K X.mg X.base A X.stack s H := by
      have e := I.env0
      exact ⟨by rw [sb.fr]; exact e.frames, e.mod, e.bs, e.bsz, e.funs, e.frf, e.hok, e.bare⟩
    have hl := F.len _ _ _ _ hsp
    have bd := h4 s [.ref a, .ref a'] I.kIn (by rw [List.append_nil]; exact hl)
    rw [List.append_nil] at bd
    refine wpAny_call (codeAny_mono (F.run A X.stack s H ⟨[.ref a, .ref a'], []⟩ [.ref a, .ref a'] [.ref a, .ref a'] _ _ sb.room e0 bd (.cons (show RelV (.ref a) (.ref a) from rfl) (.cons (show RelV (.ref a') (.ref a') from rfl) .nil)) hsp) fun r s' hq => ?_)
    cases r with
    | error e => exact passAt c.tk σ pins H s e s' I hq
    | ok fl =>
      cases fl with
      | ret z =>
        obtain ⟨y, H', I', r', ey, sm⟩ := I.after hq
        subst ey
        cases r'
        exact ⟨b, rfl, rfl, H', I', sm⟩
      | next => exact False.elim hq
      | brk => exact False.elim hq
      | cont => exact False.elim hq
/-- a pair of objects, and how they compare -/
structure EqP (c : Ct X U lv T) (k : Nat) (z : D × D × Bool) : Prop where
  run : ∀ {A : Around}, Sub X k A → ∀ {pins : List (Addr × Obj)} {s : Shared} {σ : L2.St} {L : List Addr} {H : Hp}, Inv X pins σ H s → Ok c L H → ∀ {vx vy : V} {u w : Value}, Rep X.K U (hide L H) z.1 vx → Rep X.K U (hide L H) z.2.1 vy → RelV vx u → RelV vy w →
    wpAny (model X.prog X.w) A (eqBool u w) (fun r s' => r = z.2.2 ∧ ∃ H', Inv X pins σ H' s' ∧ Same U H H') X.xe s
theorem OD_eqTO {k : Nat} (hk : k + 1 ≤ lv) (zs : List (D × D × Bool)) (hz : ∀ z ∈ zs, EqP c k z) (h : S (.bl (zs.all fun z => z.2.2))) : OD c (compareOp .Eq) (.tup (zs.map fun z => z.1)) (.tup (zs.map fun z => z.2.1)) S := fun L H vx vy Q kk rx ry q pins s σ v u I hx hy => by
  obtain ⟨a, vs, rfl, ha, ra, _⟩ := rx.tup
  obtain ⟨b, ws, rfl, hb, rb, _⟩ := ry.tup
  cases hx
  cases hy
  obtain ⟨its, r1, e1, _⟩ := I.tuple ha
  obtain ⟨its2, r2, e2, _⟩ := I.tuple hb
  have n1 := ra.len
  have n2 := rb.len
  rw [List.length_map] at n1 n2
  have hsz : its.toArray.size = its2.toArray.size := by rw [List.size_toArray, List.size_toArray, ← r1.length, ← r2.length, ← n1, ← n2]
  have hr : Room (k + 1) X.A := c.room.mono hk
  show wpAny (model X.prog X.w) X.A (richCompare .Eq (.ref a) (.ref b)) (EP X pins σ Q) X.xe s
  refine GQ.rc_tupB hsz hr.units0 (fun rest s' => ∃ H' zs' vs' ws' us us2, Inv X pins σ H' s' ∧ Same U H H' ∧ Reps X.K U (hide L H') (zs'.map fun z => z.1) vs' ∧ Reps X.K U (hide L H') (zs'.map fun z => z.2.1) ws' ∧ Vals vs' us ∧ Vals ws' us2 ∧ rest = us.zip us2 ∧ (∀ z ∈ zs', EqP c k z) ∧
    (zs'.all fun z => z.2.2) = zs.all fun z => z.2.2) e1 e2 ?_ ?_ ⟨H, zs, vs, ws, its, its2, I, Same.refl H, ra, rb, r1, r2, rfl, hz, rfl⟩
  · rintro x y rest s' ⟨H', zs', vs', ws', us, us2, I', sm, p1, p2, q1, q2, er, hE, hA⟩
    cases q1 with
    | nil => cases us2 <;> cases er
    | cons t1 q1 =>
      cases q2 with
      | nil => cases er
      | cons t2 q2 =>
        injection er with er1 er2
        injection er1 with e3 e4
        subst e3 e4
        cases zs' with
        | nil => cases p1
        | cons z zs' =>
          obtain ⟨v1, r1', ev, p3, p4⟩ := p1
          obtain ⟨v2, r2', ev2, p5, p6⟩ := p2
          injection ev with e5 e6
          injection ev2 with e7 e8
          subst e5 e6 e7 e8
          refine wpAny_mono ((hE z List.mem_cons_self).run (A := X.A.in1) (Sub.in1 ⟨hr, rfl⟩) I' (kk.mono sm) p3 p5 t1 t2) (fun r s2 w2 => ?_) fun _ _ z => z
          obtain ⟨er, H2, I2, sm2⟩ := w2
          subst er
          cases hv : z.2.2 with
          | true =>
            refine ⟨H2, zs', _, _, _, _, I2, sm.trans sm2, Reps.mono (hide_same sm2.k) _ _ p4, Reps.mono (hide_same sm2.k) _ _ p6, q1, q2, er2, fun y hy => hE y (List.mem_cons_of_mem _ hy), ?_⟩
            rw [← hA, List.all_cons, hv, Bool.true_and]
          | false =>
            rw [List.all_cons, hv, Bool.false_and] at hA
            rw [← hA] at h
            exact ⟨.bl false, H2, I2, rfl, q _ H2 (.bl false) (sm.trans sm2) rfl h⟩
  · rintro s' ⟨H', zs', vs', ws', us, us2, I', sm, p1, p2, q1, q2, er, hE, hA⟩
    have : zs' = [] := by
      cases zs' with
      | nil => rfl
      | cons z zs' =>
        obtain ⟨v1, r1', ev, _⟩ := p1
        obtain ⟨v2, r2', ev2, _⟩ := p2
        subst ev ev2
        cases q1
        cases q2
        cases er
    subst this
    rw [← hA] at h
    exact ⟨.bl true, H', I', rfl, q _ H' (.bl true) sm rfl h⟩
end
end Dl
/-! ### ys.pop(a) as a statement -/
namespace Dl
open PySem PySem.Spec PyProof.Rows L2
section
variable {X : Cx} {U : Pu} {lv : Nat} {T : XD} {c : Ct X U lv T} {δ : List (Option D)} {E : SE} {pos : Pos} {e : Expr}
theorem WS_pop (j : Nat) {y : Str} {ys : List D} {p' cpos' apos' : Pos} (hj : δ[j]? = some (some (.own ys)))
    (h : WE c e δ fun d => ∃ (n : Int) (k : Nat) (z : D), d = .int n ∧ -(2 ^ 63) ≤ n ∧ n < 2 ^ 63 ∧ seqIndex? n ys.length = some k ∧ ys[k]? = some z ∧ E.nx (δ.set j (some (.own (ys.eraseIdx k)))))
    (hN' : X.N[j]? = some y) (hv' : Vis X.env.scope y) (hd' : (y == ("__debug__" : Str)) = false) (hcd' : (y == ("__classdict__" : Str)) = false)
    (hs : swapsWith (.Call (.Attribute (.Name y p') "pop" apos') [e] [] cpos') none pos.line X.env = pure false)
    (hbase' : attributeBase (.Name y p') "pop" X.env (eval (.Name y p') X.env) = eval (.Name y p') X.env)
    (hfew' : ((backTo cpos' (starEach [e] X.env)).all (fun x => !x.1) && (backToKw cpos' (keywordEach [] X.env)).all (fun x => x.1.isSome) && decide (([e] : List Expr).length + ([] : List Keyword).length + (if ([] : List Keyword).isEmpty then 0 else 1) < 30)) = true) (he' : starEach (e :: []) X.env = (false, eval e X.env) :: starEach [] X.env)
    (hline' : (apos'.endLine == cpos'.line) = true) :
    WS c (.Expr (.Call (.Attribute (.Name y p') "pop" apos') [e] [] cpos') pos) δ E := fun L σ H De N Cm => by
  obtain ⟨v', hσ', l', vs', rfl, hl', hlb', hH', r', z'⟩ := N.rep j _ hj
  refine runS_of (ps_expr (pe_bm PySem.F.plainAttrs_list PySem.F.slot_list_pop PySem.F.type_list_pop mt_popAt (pe_var hN' hv' hd' hcd') (pa_cons pe_run pa_nil he') hbase' hfew' hline' he' rfl) hs) ?_
  refine ⟨.ref l', hσ', tyL hH', ?_⟩
  refine h L σ H _ N fun w H1 d s1 r1 ⟨n, k, zd, e1, n0, n1, hk, hz, kk⟩ => ?_
  subst e1
  have rb := Reps.mono (hide_same s1.k) _ _ r'
  obtain ⟨zv, hzv, _⟩ := rb.get hz
  have len := rb.len
  exact ⟨l', vs', n, k, zv, rfl, by rw [show w = .int n from r1], s1.at _ _ hH', n0, n1, by rw [← len]; exact hk, hzv, Cm.nx L _ _ _ ((N.mono s1).change hj hσ' hl' hlb' (rb.erase k) (Nat.le_trans (List.length_eraseIdx_le ..) z')) kk⟩
end
def Rd.popE (j : Nat) (a : RdE) : RdS := fun T δ E => ownP (sl δ j) fun ys => a T δ (Rd.popS ys fun ys' _ => fc (st δ j (some (.own ys'))) E.nx)
theorem De.popE {f : Fr} {e : Expr} {ta : RdE} {y : Str} {p' apos' cpos' pos : Pos} (j : Nat) (ha : ReE f e ta) (hn' : f.N[j]? = some y := by rfl) (hv' : visB f.sc y = true := by (try dsimp only [Fr.blk, Fr.lam]); decide +kernel)
    (hs : ∀ X : Cx, swapsWith (.Call (.Attribute (.Name y p') "pop" apos') [e] [] cpos') none pos.line X.env = pure false := by intro _; rfl)
    (hbase' : ∀ X : Cx, attributeBase (.Name y p') "pop" X.env (eval (.Name y p') X.env) = eval (.Name y p') X.env := by intro _; rfl)
    (hfew' : ∀ X : Cx, ((backTo cpos' (starEach [e] X.env)).all (fun x => !x.1) && (backToKw cpos' (keywordEach [] X.env)).all (fun x => x.1.isSome) && decide (([e] : List Expr).length + ([] : List Keyword).length + (if ([] : List Keyword).isEmpty then 0 else 1) < 30)) = true := by intro _; rfl) (he' : ∀ X : Cx, starEach (e :: []) X.env = (false, eval e X.env) :: starEach [] X.env := by intro _; rfl)
    (hline' : (apos'.endLine == cpos'.line) = true := by rfl) : ReS f (.Expr (.Call (.Attribute (.Name y p') "pop" apos') [e] [] cpos') pos) (Rd.popE j ta) := .mk fun {X T} c F δ E h => by
  obtain ⟨ys, hj, h⟩ := own_ok h
  refine WS_pop j hj ((ha c F δ _ h).mono fun d h1 => ?_) (by rw [F.n]; exact hn') (F.vis hv') (visB_ok hv').2.1 (visB_ok hv').2.2 (hs X) (hbase' X) (hfew' X) (he' X) hline'
  cases d with
  | int n =>
    obtain ⟨k, z, ⟨n0, n1⟩, hk, hz, kk⟩ := h1
    rw [fc_eq, st_eq] at kk
    have hlt := (List.getElem?_eq_some_iff.mp hz).1
    refine ⟨n, k, z, rfl, by omega, by omega, ?_, hz, kk⟩
    simp [seqIndex?]
    omega
  | _ => exact False.elim h1
end Dl

set_option maxRecDepth 100000
set_option maxHeartbeats 4000000
/-! # sorted; isinstance(x, (list, tuple)); dicts: comprehensions with plain keys, storing at any key, not in, len -/
namespace Dl
open PySem PySem.Spec PyProof.Rows L2
/-! ### sorted -/
section
variable {X : Cx}
/-- the items tuples of ints -/
def rSortTI (K : PySem.W.Frag) : List V → Hp → VK → Prop := fun vs H Q => ∃ (a : Addr) (zs : List (V × List Int)), vs = [V.ref a] ∧ SqL K H a (zs.map (·.1)) ∧ (∀ z ∈ zs, z.2 ≠ [] ∧ ∃ t, z.1 = .ref t ∧ SqT K H t (z.2.map V.int)) ∧
  ∀ (ys : List (V × List Int)) (p : Addr), ys.Perm zs → (ys.map (·.2)).Pairwise (· ≤ ·) → H p = none → Q (.ref p) (upd H p (.lst (ys.map (·.1))))
theorem dpInts {K : PySem.W.Frag} {H : Hp} : ∀ ns : List Int, DpAll K H (ns.map V.int) (ns.map PyData.int)
  | [] => .nil
  | n :: r => .cons (.int n) (dpInts r)
theorem each_of {α : Type} {R S : Value → α → Prop} (f : α → V) (h : ∀ a u, S u a → RelV (f a) u → R u a) : ∀ {zs : List α} {us : List Value}, (∀ z ∈ zs, ∀ u, RelV (f z) u → S u z) → Vals (zs.map f) us → PySem.W.EachIs R us zs
  | [], _, _, .nil => .nil
  | z :: zs, _, k, .cons r t => .cons (h _ _ (k z List.mem_cons_self _ r) r) (each_of f h (fun y m => k y (List.mem_cons_of_mem _ m)) t)
theorem each_vals {α : Type} (f : α → V) : ∀ {zs : List α} {us : List Value}, PySem.W.EachIs (fun u z => RelV (f z) u) us zs → Vals (zs.map f) us
  | [], _, .nil => .nil
  | _ :: _, _, .cons r t => .cons r (each_vals f t)
def leTI (p q : V × List Int) : Bool := decide (p.2 ≤ q.2)
theorem le_enc : PySem.W.dataLe false (fun z : V × List Int => PyData.tuple (z.2.map PyData.int)) = leTI := by
  funext p q
  show (!PySem.W.dataLt (.tuple (q.2.map .int)) (.tuple (p.2.map .int))) = _
  rw [PySem.W.dataLt_tuple]
  show (!PySem.W.rowLt (q.2.map .int) (p.2.map .int)) = _
  rw [PySem.W.dataLt_ints]
  unfold leTI
  by_cases h : q.2 < p.2
  · have h' : ¬ p.2 ≤ q.2 := fun r => List.not_lt.mpr r h
    simp [h, h']
  · have h' : p.2 ≤ q.2 := List.not_lt.mp h
    simp [h, h']
theorem cr_sortedTI (hu : X.A.units + 65 < cLine) : CallR X (.builtin "sorted") (rSortTI X.K) := by
  intro pins s σ H vs us Q I r h
  obtain ⟨a, zs, rfl, hs, hz, q⟩ := h
  obtain ⟨its, rv, hl, hsz⟩ := I.list hs
  rw [Vals.ref1 r]
  have e1 : PySem.W.EachIs (fun u (z : V × List Int) => RelV z.1 u) its zs := each_of (S := fun _ _ => True) (fun z : V × List Int => z.1) (fun _ _ _ r => r) (fun _ _ _ _ => trivial) rv
  have e2 : PySem.W.EachIs (fun v (z : V × List Int) => ∃ as, Reads s.heap v (PyData.tuple (z.2.map .int)) as) its zs := each_of (fun z : V × List Int => z.1) (S := fun v z => ∃ as, Reads s.heap v (PyData.tuple (z.2.map .int)) as) (fun _ _ h _ => h) (fun z m u ru => by
    obtain ⟨_, t, et, ht⟩ := hz z m
    exact Dp.reads I _ z.1 u (by rw [et]; exact .tup ht (dpInts _)) ru) rv
  refine PySem.W.sorted_data (enc := fun z : V × List Int => PyData.tuple (z.2.map .int)) hl.isList e1 e2 (PySem.W.AllAlike.of fun b b' => by simp [PySem.W.alike, PySem.W.alike_ints]) (.inl fun d hd => ?_) (by have := rv.length; rw [List.length_map] at this; rw [this]; rw [← rv.length] at *; simpa using hsz) (fun b _ => by
    show X.A.units + 2 + (PyData.tuple _).depth < _
    have e : (PyData.tuple (b.2.map .int)).depth = 1 := by simp [PyData.depth, PySem.W.depth_ints]
    rw [e]
    omega) fun out hlen hout => ?_
  · obtain ⟨z, hm, rfl⟩ := List.mem_map.mp hd
    obtain ⟨hne, _⟩ := hz z hm
    cases e : z.2 with
    | nil => exact absurd e hne
    | cons x r => exact ⟨_, _, rfl⟩
  · rw [le_enc] at hout
    have pm : (zs.mergeSort leTI).Perm zs := List.mergeSort_perm ..
    have pw : (zs.mergeSort leTI).Pairwise (fun a b => leTI a b = true) := List.pairwise_mergeSort (fun a b c h1 h2 => by
      have h1 := of_decide_eq_true h1
      have h2 := of_decide_eq_true h2
      exact decide_eq_true (List.le_trans h1 h2)) (fun a b => by
      rcases List.le_total a.2 b.2 with z | z
      · simp [leTI, z]
      · simp [leTI, z]) _
    obtain ⟨ep, he'⟩ := PyProof.Rows.sortedAll_at s.heap its out.toArray
    have hv := each_vals (f := fun z : V × List Int => z.1) hout
    refine ⟨.ref _, upd H (s.heap.objs.size + 1) (.lst ((zs.mergeSort leTI).map (·.1))), I.laid (t' := s.toks) (fun _ _ => PyProof.Rows.sortedAll_old) (Nat.le_succ _) ⟨?_, out, ep, hv, he'⟩, rfl, q _ _ pm (List.pairwise_map.mpr (pw.imp fun h => of_decide_eq_true h)) (I.hok.fresh (Nat.le_succ _))⟩
    rw [List.length_map, pm.length_eq]
    simpa using hsz
end
section
variable {X : Cx} {U : Pu} {lv : Nat} {T : XD} {c : Ct X U lv T} {S : D → Prop}
theorem CD_sortI {x : D} {xs : List D} {ns : List Int} (sx : IsL x xs) (e : xs = ns.map D.int) (h : ∀ ms : List Int, ms.Perm ns → ms.Pairwise (· ≤ ·) → S (.lst (ms.map D.int))) : CD c (.builtin "sorted") [x] S := cd_of cr_sortedI fun L H vs Q k r q => by
  obtain ⟨v, rfl, rx⟩ := r.one
  obtain ⟨a, ws, rfl, ha, ra, za⟩ := sx.rep rx
  subst e
  rw [ra.ints] at ha
  exact ⟨a, ns, rfl, SqL.of ha, fun ms p pm pw hp => q _ _ (.lst (ms.map .int)) (same_new hp) (k.lstNew (Reps.of_ints ms) (by rw [List.length_map, pm.length_eq]; rw [List.length_map] at za; exact za) hp) (h ms pm pw)⟩
theorem reps_tI {K : PySem.W.Frag} {U : Pu} {H : Hp} : ∀ {bs : List (List Int)} {vs : List V}, Reps K U H (bs.map tI) vs → ∃ zs : List (V × List Int), vs = zs.map (·.1) ∧ bs = zs.map (·.2) ∧ ∀ z ∈ zs, Rep K U H (tI z.2) z.1
  | [], vs, h => ⟨[], h, rfl, fun _ m => by cases m⟩
  | b :: bs, vs, h => by
    obtain ⟨v, r, rfl, h1, h2⟩ := h
    obtain ⟨zs, rfl, rfl, h3⟩ := reps_tI h2
    exact ⟨(v, b) :: zs, rfl, rfl, fun z m => by
      rcases List.mem_cons.mp m with e | m
      · rw [e]; exact h1
      · exact h3 z m⟩
theorem tI_reps {K : PySem.W.Frag} {U : Pu} {H : Hp} : ∀ {zs : List (V × List Int)}, (∀ z ∈ zs, Rep K U H (tI z.2) z.1) → Reps K U H ((zs.map (·.2)).map tI) (zs.map (·.1))
  | [], _ => rfl
  | z :: zs, h => ⟨_, _, rfl, h z List.mem_cons_self, tI_reps fun y m => h y (List.mem_cons_of_mem _ m)⟩
theorem CD_sortT {x : D} {xs : List D} {bs : List (List Int)} (sx : IsL x xs) (e : xs = bs.map tI) (hn : ∀ b ∈ bs, b ≠ []) (h : ∀ cs : List (List Int), cs.Perm bs → cs.Pairwise (· ≤ ·) → S (.lst (cs.map tI))) : CD c (.builtin "sorted") [x] S := cd_of (cr_sortedTI (units65 c)) fun L H vs Q k r q => by
  obtain ⟨v, rfl, rx⟩ := r.one
  obtain ⟨a, ws, rfl, ha, ra, za⟩ := sx.rep rx
  subst e
  obtain ⟨zs, rfl, rfl, hz⟩ := reps_tI ra
  refine ⟨a, zs, rfl, SqL.of ha, fun z m => ⟨hn _ (List.mem_map.mpr ⟨z, m, rfl⟩), ?_⟩, fun ys p pm pw hp => ?_⟩
  · obtain ⟨t, ts, e, h1, h2, _⟩ := hz z m
    rw [h2.ints] at h1
    exact ⟨t, e, seqT_mono hide_ext.k h1⟩
  · refine q _ _ (.lst ((ys.map (·.2)).map tI)) (same_new hp) (k.lstNew (tI_reps fun z m => hz z (pm.mem_iff.mp m)) ?_ hp) (h _ (pm.map _) pw)
    simp only [List.length_map] at za ⊢
    rw [pm.length_eq]
    exact za
end
namespace Bi
/-- ints, or tuples of ints with an item at least -/
@[irreducible] def sorted : RdB := fun ds S => ∃ x xs, ds = [x] ∧ IsL x xs ∧ ((∃ ns : List Int, xs = ns.map D.int ∧ ∀ ms : List Int, ms.Perm ns → ms.Pairwise (· ≤ ·) → S (.lst (ms.map D.int))) ∨
  ∃ bs : List (List Int), xs = bs.map tI ∧ (∀ b ∈ bs, b ≠ []) ∧ ∀ cs : List (List Int), cs.Perm bs → cs.Pairwise (· ≤ ·) → S (.lst (cs.map tI)))
end Bi
theorem De.bi_sorted : BiOk (.builtin "sorted") Bi.sorted := fun {X U lv T c S ds} h => by
  unfold Bi.sorted at h
  obtain ⟨x, xs, rfl, sx, k⟩ := h
  rcases k with ⟨ns, e, k⟩ | ⟨bs, e, k1, k2⟩
  · exact CD_sortI sx e k
  · exact CD_sortT sx e k1 k2
theorem De.bSorted {f : Fr} {e : Expr} {es : List Expr} {tas : RdA} {p pos : Pos} (hb : Blt f.mg) (hs : ReA f (e :: es) tas) (hg : glbB f.sc "sorted" = true := by (try dsimp only [Fr.blk, Fr.lam]); decide +kernel) (he : ∀ X : Cx, starEach (e :: es) X.env = (false, eval e X.env) :: starEach es X.env := by intro _; rfl) (hpl : ∀ X : Cx, (backTo pos (starEach es X.env)).any (·.1) = false := by intro _; rfl) : ReE f (.Call (.Name "sorted" p) (e :: es) [] pos) (Rd.blt Bi.sorted tas) := De.blt De.bi_sorted bt_sorted (hb.at (by decide +kernel)) hs hg he hpl
end Dl

set_option maxRecDepth 100000
set_option maxHeartbeats 4000000
/-! # isinstance(x, (list, tuple)); dicts with plain keys: comprehensions, storing at any key, not in, len -/
namespace Dl
open PySem PySem.Spec PyProof.Rows L2
/-! ### isinstance(x, (S, T)), both built in -/
def rIsiS (K : PySem.W.Frag) : List V → Hp → VK → Prop := fun xs H Q => ∃ (x : V) (tp : Addr) (cs : List V) (t : Value) (cvs : List Value) (b : Bool), xs = [x, .ref tp] ∧ SqT K H tp cs ∧ (∀ us, Vals cs us → us = cvs) ∧ TyX K H x t ∧ PySem.W.kitAny K t cvs = some b ∧ Q (.bl b) H
theorem call_isiS {X : Cx} : CallR X (.builtin "isinstance") (rIsiS X.K) := by
  intro pins s σ H xs us Q I r h
  obtain ⟨x, tp, cs, t, cvs, b, rfl, hsq, hcv, ty, e, q⟩ := h
  obtain ⟨u1, u2, rfl, r1, r2⟩ := vals2 r
  obtain rfl : u2 = Value.ref tp := r2
  obtain ⟨P, Z, p, hx⟩ := L2.kit_of I r1 ty
  obtain ⟨its, rv, ⟨ot, g, c1, n, f1⟩, _⟩ := I.tuple hsq
  obtain rfl := hcv its rv
  obtain ⟨oc, odd, oda, osl⟩ := ot
  dsimp only at c1 f1
  subst c1 f1
  exact PySem.W.kia_tup Z I.kIn p g e hx fun tk => ⟨.bl b, H, I.kept (t' := tk) fun _ _ z => z, rfl, q⟩
theorem kitAny_ty {K : PySem.W.Frag} {t : Value} {a b : String} {x y : Bool} (h1 : PySem.W.kitOne K t (.type a) = some x) (h2 : PySem.W.kitOne K t (.type b) = some y) : PySem.W.kitAny K t [.type a, .type b] = some (x || y) := by
  refine kitAny_cons h1 (fun e => ?_) (fun e => ?_)
  · rw [e, Bool.false_or]
    exact kitAny_cons h2 (fun e => by rw [e]; exact kitAny_nil) (fun e => e)
  · rw [e]; rfl
section
variable {X : Cx} {U : Pu} {lv : Nat} {T : XD} {c : Ct X U lv T} {S : D → Prop}
theorem CD_isTT {x : D} {t1 t2 : String} {b : Bool} (ht : ∀ (L : List Addr) (H : Hp) (v : V), RepO X.K U c.Lb L H x v → ∃ t, TyX X.K H v t ∧ PySem.W.kitAny X.K t [.type t1, .type t2] = some b) (h : S (.bl b)) : CD c (.builtin "isinstance") [x, .tup [.any (.ty t1), .any (.ty t2)]] S := cd_of call_isiS fun L H vs Q k r q => by
  obtain ⟨v, u, rfl, rx, ry⟩ := r.two
  obtain ⟨a, ws, rfl, ha, ra, _⟩ := ry.tup
  obtain ⟨w1, r1, rfl, e1, w2, r2, rfl, e2, e3⟩ := ra
  obtain rfl : w1 = .ty t1 := e1
  obtain rfl : w2 = .ty t2 := e2
  obtain rfl : r2 = [] := e3
  obtain ⟨t, ty, kt⟩ := ht L H v rx
  refine ⟨v, a, _, t, [.type t1, .type t2], b, rfl, ha, fun us hu => ?_, ty, kt, q _ H (.bl b) (Same.refl H) rfl h⟩
  obtain ⟨u1, u2, rfl, g1, g2⟩ := vals2 hu
  obtain rfl : u1 = .type t1 := g1
  obtain rfl : u2 = .type t2 := g2
  rfl
end
/-- what isinstance(x, (S, T)) tells of data; of an own class's object by facts -/
def Rd.isTT (K : PySem.W.Frag) (t1 t2 : String) (a : RdE) : RdE := fun T δ S => a T δ fun x => match x with
  | .obj C _ _ => ObT K C ∧ PySem.W.kitOne K (.ref C) (.type t1) = some false ∧ PySem.W.kitOne K (.ref C) (.type t2) = some false ∧ S (.bl false)
  | x => Rd.oB (fun t => S (.bl t)) (x.ty.bind fun t => (kitB t t1).bind fun b1 => (kitB t t2).map fun b2 => b1 || b2)
theorem De.isTT {f : Dl.Fr} {a : Expr} {ta : RdE} {pos : Pos} {t1 t2 : String} {p1 p2 p3 p4 : Pos} {kt : Nat} {y1 y2 : Str} (hv1 : bootBuiltins y1 = some (.type t1)) (hv2 : bootBuiltins y2 = some (.type t2)) (hm : f.mg "isinstance" = none) (hm1 : f.mg y1 = none) (hm2 : f.mg y2 = none) (ha : ReE f a ta)
    (hg : glbB f.sc "isinstance" = true := by (try dsimp only [Fr.blk, Fr.lam]); decide +kernel) (hg1 : glbB f.sc y1 = true := by (try dsimp only [Fr.blk, Fr.lam]); decide +kernel) (hg2 : glbB f.sc y2 = true := by (try dsimp only [Fr.blk, Fr.lam]); decide +kernel)
    (he : ∀ X : Cx, starEach [a, .Tuple [.Name y1 p2, .Name y2 p3] kt p4] X.env = (false, eval a X.env) :: starEach [.Tuple [.Name y1 p2, .Name y2 p3] kt p4] X.env := by intro _; rfl) (he1 : ∀ X : Cx, starEach [.Tuple [.Name y1 p2, .Name y2 p3] kt p4] X.env = (false, eval (.Tuple [.Name y1 p2, .Name y2 p3] kt p4) X.env) :: starEach [] X.env := by intro _; rfl)
    (he2 : ∀ X : Cx, starEach [.Name y1 p2, .Name y2 p3] X.env = (false, eval (.Name y1 p2) X.env) :: starEach [.Name y2 p3] X.env := by intro _; rfl) (he3 : ∀ X : Cx, starEach [.Name y2 p3] X.env = (false, eval (.Name y2 p3) X.env) :: starEach [] X.env := by intro _; rfl)
    (hpl : ∀ X : Cx, (backTo pos (starEach [.Tuple [.Name y1 p2, .Name y2 p3] kt p4] X.env)).any (·.1) = false := by intro _; rfl) : ReE f (.Call (.Name "isinstance" p1) [a, .Tuple [.Name y1 p2, .Name y2 p3] kt p4] [] pos) (Rd.isTT f.K t1 t2 ta) := .mk fun {X T} c F δ S h =>
  eB F hm bt_isinstance hg (WA_cons ((ha c F δ _ h).mono fun d h1 => WA_cons (WE_tup (WA_cons (eT F hm1 hv1 hg1 (WA_cons (eT F hm2 hv2 hg2 (WA_nil ⟨rfl, by show 2 ≤ sizeLine; decide, WA_nil (by
    have key : ∀ {d : D}, Rd.oB (fun t => S (.bl t)) (d.ty.bind fun t => (kitB t t1).bind fun b1 => (kitB t t2).map fun b2 => b1 || b2) → CD c (.builtin "isinstance") [d, .tup [.any (.ty t1), .any (.ty t2)]] S := fun {d} z => by
      cases e : d.ty with
      | none => rw [e] at z; exact z.elim
      | some t =>
        rw [e] at z
        cases e1 : kitB t t1 with
        | none => simp only [Option.bind_some, e1, Option.bind_none] at z; exact z.elim
        | some b1 =>
          cases e2 : kitB t t2 with
          | none => simp only [Option.bind_some, e1, e2, Option.map_none] at z; exact z.elim
          | some b2 =>
            simp only [Option.bind_some, e1, e2, Option.map_some] at z
            exact CD_isTT (fun L H v r => ⟨.type t, tyx_of e r, kitAny_ty (kit_ty e1) (kit_ty e2)⟩) z
    cases d with
    | obj C ns ds =>
      obtain ⟨o, k1, k2, h2⟩ := h1
      refine CD_isTT (b := false) (fun L H v r => ?_) h2
      obtain ⟨a, dx, ws, rfl, ha, hd, _⟩ := r
      have o' : ObT X.K C := by rw [F.k]; exact o
      exact ⟨.ref C, .base (.ins (hide_at ha).2 o'.cl o'.ha o'.hn o'.ht o'.hm), by rw [F.k]; exact kitAny_ty k1 k2⟩
    | _ => exact key h1)⟩)) (he3 X))) (he2 X))) (he1 X)) (he X)) (he X) (hpl X)
/-! ### storing at a key, new or not -/
section
variable {κ α : Type} [DecidableEq κ]
def putKs (ks : List κ) (k : κ) : List κ := if k ∈ ks then ks else ks ++ [k]
def putDs (ks : List κ) (ds : List α) (k : κ) (d : α) : List α := if k ∈ ks then (ks.zip ds).map (fun p => if p.1 = k then d else p.2) else ds ++ [d]
theorem putK_zip {ks : List κ} {vs : List V} {k : κ} {v : V} (h : ks.length = vs.length) : putK (ks.zip vs) k v = (putKs ks k).zip (putDs ks vs k v) := by
  unfold putK putKs putDs
  have e : ((ks.zip vs).any fun kv => decide (kv.1 = k)) = decide (k ∈ ks) := by
    rw [Bool.eq_iff_iff, List.any_eq_true, decide_eq_true_iff]
    constructor
    · rintro ⟨p, h1, h2⟩
      rw [← of_decide_eq_true h2]
      exact (List.of_mem_zip h1).1
    · intro h1
      obtain ⟨i, hi, e⟩ := List.getElem_of_mem h1
      exact ⟨(ks[i], vs[i]'(by omega)), List.mem_iff_getElem.mpr ⟨i, by rw [List.length_zip]; omega, by rw [List.getElem_zip]⟩, decide_eq_true e⟩
  rw [e]
  by_cases hk : k ∈ ks
  · rw [decide_eq_true hk, if_pos rfl, if_pos hk, if_pos hk]
    clear e hk
    induction ks generalizing vs with
    | nil => rfl
    | cons a r ih =>
      cases vs with
      | nil => cases h
      | cons x xs =>
        simp only [List.zip_cons_cons, List.map_cons]
        rw [ih (by simpa using h)]
        by_cases e : a = k <;> simp [e]
  · rw [decide_eq_false hk, if_neg (by decide), if_neg hk, if_neg hk, List.zip_append h]
    rfl
theorem putKs_len {ks : List κ} {ds : List α} {k : κ} {d : α} (h : ks.length = ds.length) : (putKs ks k).length = (putDs ks ds k d).length := by
  unfold putKs putDs
  split
  · simp [List.length_zip, h]
  · simp [h]
theorem putKs_le {ks : List κ} {k : κ} : (putKs ks k).length ≤ ks.length + 1 := by
  unfold putKs
  split <;> simp
theorem mem_putKs {ks : List κ} {k x : κ} : x ∈ putKs ks k ↔ x = k ∨ x ∈ ks := by
  unfold putKs
  split
  · rename_i h
    exact ⟨.inr, fun z => z.elim (fun e => e ▸ h) id⟩
  · simp [or_comm]
theorem putKs_nodup {ks : List κ} {k : κ} (h : ks.Nodup) : (putKs ks k).Nodup := by
  unfold putKs
  split
  · exact h
  · rename_i hk
    rw [List.nodup_append]
    exact ⟨h, by simp, fun a ha b hb => by
      rw [List.mem_singleton.mp hb]
      exact fun e => hk (e ▸ ha)⟩
end
theorem Reps.putDs {κ : Type} [DecidableEq κ] {K : PySem.W.Frag} {U : Pu} {H : Hp} {ks : List κ} {k : κ} {d : D} {v : V} (rd : Rep K U H d v) : ∀ {ds : List D} {vs : List V}, ks.length = ds.length → Reps K U H ds vs → Reps K U H (Dl.putDs ks ds k d) (Dl.putDs ks vs k v) := by
  intro ds vs hl r
  unfold Dl.putDs
  by_cases hk : k ∈ ks
  · rw [if_pos hk, if_pos hk]
    clear hk
    induction ks generalizing ds vs with
    | nil => exact rfl
    | cons a ks ih =>
      cases ds with
      | nil => cases hl
      | cons x ds =>
        obtain ⟨w, ws, rfl, r1, r2⟩ := r
        simp only [List.zip_cons_cons, List.map_cons]
        refine ⟨_, _, rfl, ?_, ih (by simpa using hl) r2⟩
        by_cases e : a = k
        · simp only [if_pos e]; exact rd
        · simp only [if_neg e]; exact r1
  · rw [if_neg hk, if_neg hk]
    exact r.app (Reps.one rd)
theorem dkGet_put {ks : List Key} {k x : Key} {d : D} : ∀ {ds : List D}, ks.length = ds.length → dkGet (putKs ks k) (putDs ks ds k d) x = if k = x then some d else dkGet ks ds x := by
  intro ds hl
  unfold putKs putDs
  by_cases hk : k ∈ ks
  · rw [if_pos hk, if_pos hk]
    induction ks generalizing ds with
    | nil => cases hk
    | cons a ks ih =>
      cases ds with
      | nil => cases hl
      | cons y ds =>
        simp only [List.zip_cons_cons, List.map_cons, dkGet]
        by_cases ea : a = k
        · subst ea
          by_cases ex : a = x
          · simp [ex]
          · simp only [if_neg ex]
            by_cases hm : a ∈ ks
            · rw [ih (by simpa using hl) hm, if_neg ex]
            · have : ∀ {ks : List Key} {ds : List D}, a ∉ ks → ks.length = ds.length → (ks.zip ds).map (fun p => if p.1 = a then d else p.2) = ds := by
                intro ks
                induction ks with
                | nil => intro ds _ hl; cases ds with
                  | nil => rfl
                  | cons _ _ => cases hl
                | cons b ks ih =>
                  intro ds hm hl
                  cases ds with
                  | nil => cases hl
                  | cons z ds =>
                    simp only [List.zip_cons_cons, List.map_cons]
                    rw [ih (fun q => hm (List.mem_cons_of_mem _ q)) (by simpa using hl), if_neg (fun q : b = a => hm (q ▸ List.mem_cons_self))]
              rw [this hm (by simpa using hl)]
        · have hm : k ∈ ks := (List.mem_cons.mp hk).resolve_left (fun q => ea q.symm)
          simp only [if_neg ea]
          by_cases ex : a = x
          · have : ¬ k = x := fun q => ea (ex.trans q.symm)
            simp [ex, this]
          · simp only [if_neg ex]
            exact ih (by simpa using hl) hm
  · rw [if_neg hk, if_neg hk]
    induction ks generalizing ds with
    | nil =>
      cases ds with
      | nil => simp [dkGet]
      | cons _ _ => cases hl
    | cons a ks ih =>
      cases ds with
      | nil => cases hl
      | cons y ds =>
        simp only [List.cons_append, dkGet]
        by_cases ex : a = x
        · have : ¬ k = x := fun q => hk (by rw [q, ← ex]; exact List.mem_cons_self)
          simp [ex, this]
        · simp only [if_neg ex]
          exact ih (by simpa using hl) (fun q => hk (List.mem_cons_of_mem _ q))
theorem dkGet_isSome {ks : List Key} {x : Key} : ∀ {ds : List D}, ks.length = ds.length → ((dkGet ks ds x).isSome = true ↔ x ∈ ks) := by
  induction ks with
  | nil => intro ds _; simp [dkGet]
  | cons a ks ih =>
    intro ds hl
    cases ds with
    | nil => cases hl
    | cons y ds =>
      simp only [dkGet]
      by_cases e : a = x
      · simp [e]
      · rw [if_neg e, ih (by simpa using hl)]
        have : ¬ x = a := fun q => e q.symm
        simp [this]
/-! ### x not in d -/
def rNinK : R2 := fun x y H Q => ∃ a o, y = .ref a ∧ DGet H a x o ∧ Q (.bl (!o.isSome)) H
theorem op_ninK {X : Cx} (hu : X.A.units + 1 < cLine) : OpR X (compareOp .NotIn) rNinK := fun pins s σ H x y v u Q I rx ry h => by
  obtain ⟨a, o, rfl, g, q⟩ := h
  obtain rfl : u = Value.ref a := ry
  exact d_notIn hu I g rx fun s' I' => ⟨.bl (!o.isSome), H, I', rfl, q⟩
section
variable {X : Cx} {U : Pu} {lv : Nat} {T : XD} {c : Ct X U lv T} {S : D → Prop}
theorem OD_ninK {x y : D} {ks : List Key} {ds : List D} {k : Key} (sy : IsDk y ks ds) (hk : keyD x = some k) (h : S (.bl (!(dkGet ks ds k).isSome))) : OD c (compareOp .NotIn) x y S := od_of (op_ninK (Nat.lt_of_le_of_lt (Nat.add_le_add_left (by decide) _) (units65 c))) fun L H vx vy Q kk rx ry q => by
  obtain ⟨a, vs, rfl, h2, h3, h4⟩ := sy.rep ry
  have ex : vx = kV k := keyD_rep hk (rx.rep (by cases x <;> first | rfl | cases hk))
  subst ex
  refine ⟨a, _, rfl, DGet.k h2, ?_⟩
  rw [valV_isSome h3]
  exact q _ H (.bl _) (Same.refl H) rfl h
theorem CD_lenK {x : D} {ks : List Key} {ds : List D} (sx : IsDk x ks ds) (h : S (.int ks.length)) : CD c (.builtin "len") [x] S := cd_of call_lenD fun L H vs Q k r q => by
  obtain ⟨v, rfl, rx⟩ := r.one
  obtain ⟨a, ws, rfl, ha, ra, e⟩ := sx.rep rx
  have hl := ra.len
  refine ⟨a, _, rfl, ha, ?_⟩
  rw [List.length_zip, show min ks.length ws.length = ks.length by omega]
  exact q _ H (.int _) (Same.refl H) rfl h
theorem CD_lenT {ks : List (List Key)} {ds : List D} (h : S (.int ks.length)) : CD c (.builtin "len") [.dct ks ds] S := cd_of call_len_dT fun L H vs Q k r q => by
  obtain ⟨v, rfl, rx⟩ := r.one
  obtain ⟨a, ws, rfl, ha, ra, e⟩ := rep_dct rx
  have hl := ra.len
  refine ⟨a, _, rfl, ha, ?_⟩
  rw [List.length_zip, show min ks.length ws.length = ks.length by omega]
  exact q _ H (.int _) (Same.refl H) rfl h
end
namespace Op
def ninK : RdOp := fun _ x y S => match x, y with
  | .int i, .dck ks ds => S (.bl (!(dkGet ks ds (.inl i)).isSome))
  | .int i, .odk ks ds => S (.bl (!(dkGet ks ds (.inl i)).isSome))
  | _, _ => False
end Op
theorem De.o_ninK {f : Fr} : OpAt f (compareOp .NotIn) Op.ninK := fun {X T} c _ {S x y} h => by
  unfold Op.ninK at h
  split at h
  · exact OD_ninK (.dck _ _) rfl h
  · exact OD_ninK (.odk _ _) rfl h
  · exact h.elim
/-- len of a sequence, a text or a dict -/
def Bi.lenA : RdB := fun ds S => match ds with
  | [.dck ks _] => S (.int ks.length)
  | [.odk ks _] => S (.int ks.length)
  | [.dct ks _] => S (.int ks.length)
  | ds => Bi.len ds S
theorem De.bi_lenA : BiOk (.builtin "len") Bi.lenA := fun {X U lv T c S ds} h => by
  unfold Bi.lenA at h
  split at h
  · exact CD_lenK (.dck _ _) h
  · exact CD_lenK (.odk _ _) h
  · exact CD_lenT h
  · exact cd_len h
theorem De.bLenA {f : Fr} {e : Expr} {es : List Expr} {tas : RdA} {p pos : Pos} (hb : Blt f.mg) (hs : ReA f (e :: es) tas) (hg : glbB f.sc "len" = true := by (try dsimp only [Fr.blk, Fr.lam]); decide +kernel) (he : ∀ X : Cx, starEach (e :: es) X.env = (false, eval e X.env) :: starEach es X.env := by intro _; rfl) (hpl : ∀ X : Cx, (backTo pos (starEach es X.env)).any (·.1) = false := by intro _; rfl) : ReE f (.Call (.Name "len" p) (e :: es) [] pos) (Rd.blt Bi.lenA tas) := De.blt De.bi_lenA bt_len hb.len hs hg he hpl
/-! ### d[x] = v at any key -/
section
variable {X : Cx} {U : Pu} {lv : Nat} {T : XD} {c : Ct X U lv T} {δ : List (Option D)} {E : SE} {e : Expr} {pos : Pos}
theorem WS_dputA (i : Nat) {x : Str} {ks : List Key} {ds : List D} {p spos pos : Pos} {ix : Expr} (hi : δ[i]? = some (some (.odk ks ds)))
    (h : WE c e δ fun d => d.still = true ∧ WE c ix δ fun y => ∃ k, keyD y = some k ∧ ks.length < sizeLine ∧ E.nx (δ.set i (some (.odk (putKs ks k) (putDs ks ds k d))))) (hN : X.N[i]? = some x) (hv : Vis X.env.scope x) (hd : (x == ("__debug__" : Str)) = false) (hcd : (x == ("__classdict__" : Str)) = false)
    (hs : swapsWith e (some (.Subscript (.Name x p) ix spos)) pos.line X.env = pure false) : WS c (.Assign [.Subscript (.Name x p) ix spos] e pos) δ E := fun L σ H D N C => by
  obtain ⟨v, hσ, l, vs, rfl, hl, hlb, hH, r, z⟩ := N.rep i _ hi
  refine runS_of (ps_dput (Nat.lt_of_le_of_lt (Nat.add_le_add_left (by decide) _) (units65 c)) (pe_var hN hv hd hcd) pe_run pe_run hs) ?_
  refine h L σ H _ N fun w H1 d s1 r1 ⟨st, k1⟩ => ⟨.ref l, hσ, ?_⟩
  refine k1 L σ H1 _ (N.mono s1) fun y H2 dy s2 r2 ⟨k, hk, hz, k2⟩ => ?_
  have ey : y = kV k := keyD_rep hk (r2.rep (by cases dy <;> first | rfl | cases hk))
  subst ey
  have r' := Reps.mono (hide_same (s1.k.trans s2.k)) _ _ r
  have hH2 : H2 l = some (.dK (ks.zip vs)) := s2.at _ _ (s1.at _ _ hH)
  have lv : ds.length = vs.length := r.len
  have zl : (ks.zip vs).length < sizeLine := by rw [List.length_zip]; omega
  refine ⟨l, _, rfl, DPut.k hH2 zl, ?_⟩
  have rr := r'.putDs (k := k) (ks := ks) ((r1.mono s2).rep st) z
  rw [putK_zip (by omega)]
  refine C.nx L σ _ _ ((N.mono (s1.trans s2)).changeX (y := .odk (putKs ks k) (putDs ks ds k d)) (o := .dK ((putKs ks k).zip (putDs ks vs k w))) hi rfl hσ hl hlb rfl ⟨l, putDs ks vs k w, rfl, hl, hlb, upd_same, ?_, putKs_len z⟩) k2
  rw [hide_upd hl]
  exact rr
end
def Rd.odkQ (o : Option D) (A : List Key → List D → Prop) : Prop := match o with
  | some (.odk ks ds) => A ks ds
  | _ => False
theorem odkQ_ok {δ : List (Option D)} {i : Nat} {A : List Key → List D → Prop} (h : Rd.odkQ (sl δ i) A) : ∃ ks ds, δ[i]? = some (some (.odk ks ds)) ∧ A ks ds := by
  unfold Rd.odkQ at h
  split at h
  · rename_i ks ds e
    exact ⟨ks, ds, sl_eq e, h⟩
  · exact h.elim
def Rd.dputA (i : Nat) (ix a : RdE) : RdS := fun T δ E => Rd.odkQ (sl δ i) fun ks ds => a T δ fun d => stP d (ix T δ fun y => match keyD y with
  | some k => ks.length < sizeLine ∧ fc (st δ i (some (.odk (putKs ks k) (putDs ks ds k d)))) E.nx
  | none => False)
theorem De.dputA {f : Fr} {e ixe : Expr} {x : Str} {te tk : RdE} {p spos pos : Pos} (i : Nat) (he : ReE f e te) (hk : ReE f ixe tk) (hn : f.N[i]? = some x := by rfl) (hv : visB f.sc x = true := by (try dsimp only [Fr.blk, Fr.lam]); decide +kernel)
    (hs : ∀ X : Cx, swapsWith e (some (.Subscript (.Name x p) ixe spos)) pos.line X.env = pure false := by intro _; rfl) : ReS f (.Assign [.Subscript (.Name x p) ixe spos] e pos) (Rd.dputA i tk te) := .mk fun {X T} c F δ E h => by
  obtain ⟨ks, ds, hi, h⟩ := odkQ_ok h
  refine WS_dputA i hi ((he c F δ _ h).mono fun d h1 => ?_) (by rw [F.n]; exact hn) (F.vis hv) (visB_ok hv).2.1 (visB_ok hv).2.2 (hs X)
  obtain ⟨g1, g2⟩ := stP_ok h1
  refine ⟨g1, (hk c F δ _ g2).mono fun y h2 => ?_⟩
  cases q : keyD y with
  | none => rw [q] at h2; exact h2.elim
  | some k =>
    rw [q] at h2
    obtain ⟨a1, a2⟩ := h2
    rw [fc_eq, st_eq] at a2
    exact ⟨k, rfl, a1, a2⟩
/-! ### {k: v for ..}, numbers as keys -/
section
variable {X : Cx} {U : Pu} {lv : Nat} {T : XD} {c : Ct X U lv T} {tg iter : Expr} {δ : List (Option D)}
def DcTurn (c : Ct X U lv T) (tg kx vx : Expr) (scope : Scope) (δ : List (Option D)) (ts : List Nat) (S : List Key → List D → Prop) (ds : List D) : Prop :=
  ∃ Pv : Nat → List Key → List D → Prop, Pv 0 [] [] ∧ (∀ (i : Nat) (d : D) (ks : List Key) (ys : List D), ds[i]? = some d → ks.length ≤ i → ks.length = ys.length → Pv i ks ys → Blk c scope fun c1 => AG c1 tg δ d ts fun δ2 =>
    Blk c scope fun c2 => WE c2 kx δ2 fun x1 => ∃ k, keyD x1 = some k ∧ Blk c scope fun c3 => WE c3 vx δ2 fun y => y.still = true ∧ Pv (i + 1) (putKs ks k) (putDs ks ys k y)) ∧ ∀ ks ys, ks.length ≤ ds.length → ks.length = ys.length → Pv ds.length ks ys → S ks ys
theorem dcc_read {kx vx : Expr} {scope : Scope} {vs0 ts : List Nat} {S : List Key → List D → Prop} (hi : WJ c tg iter δ (DcTurn c tg kx vx scope (wipeD δ vs0) ts S)) (hts : ∀ i ∈ ts, i ∈ vs0) {L : List Addr} {σ : L2.St} {H : Hp} {Q : VK} (E : En c L H σ δ)
    (q : ∀ l H' vs ks ds, Same U H H' → NoA H l → H' l = some (.dK (ks.zip vs)) → Reps X.K U (hide (l :: L) H') ds vs → ks.length = ds.length → S ks ds → Q (.ref l) H') :
    tDc (runI X tg iter) (lcG X scope tg) (lcT X scope []) (lcE X scope kx) (lcE X scope vx) vs0 σ H Q := by
  refine hi L σ H _ E fun J Ha ds sa w ⟨Pv, p0, step, fin⟩ => ?_
  intro Dd hD
  have E1 := E.mono sa
  refine ⟨fun i m Hb => m = ds.length - i ∧ i ≤ ds.length ∧ Same U Ha Hb ∧ ∃ ks ys vs, Pv i ks ys ∧ ks.length = ys.length ∧ ks.length ≤ i ∧ Hb Dd = some (.dK (ks.zip vs)) ∧ Reps X.K U (hide (Dd :: L) Hb) ys vs,
    ⟨ds.length, by simp, Nat.zero_le _, same_new hD, [], [], [], p0, rfl, Nat.le_refl _, upd_same, rfl⟩, ?_⟩
  rintro i m Hb ⟨rfl, hi, sb, ks, ys, vs, pv, hk, hy, hd, rp⟩
  have hys := rp.len
  by_cases hlt : i < ds.length
  · refine .inr ⟨w.go i Hb sb hlt, fun G => i + 1 ≤ ds.length ∧ Same U Ha G ∧ ∃ ks ys vs, Pv (i + 1) ks ys ∧ ks.length = ys.length ∧ ks.length ≤ i + 1 ∧ G Dd = some (.dK (ks.zip vs)) ∧ Reps X.K U (hide (Dd :: L) G) ys vs, fun G hG => ⟨ds.length - (i + 1), by omega, rfl, hG⟩, fun x Hc y => ?_⟩
    obtain ⟨sc, d, hd1, hst, hrep⟩ := w.yld i x Hb Hc sb hlt y
    replace hrep := hrep (Dd :: L) (fun l hl => by
      rcases List.mem_cons.mp hl with z | z
      · rw [z]; exact ⟨_, rfl, hd⟩
      · exact (E1.ok.lsts l z).mono sb) (hide_cons (.of hD) sb)
    intro ta Ga Ca la pa
    have sac := sb.trans sc.s
    refine step i d ks ys hd1 hy hk pv ta Ga Ca la pa (blkCt c scope ta Ga Ca la pa) rfl rfl (Dd :: L) (wipe σ vs0) Hc x _ ((E1.wipe vs0).blkM (X' := X.blk ta Ga scope (compEnvC scope la Ca X.env) pa) rfl rfl rfl hD sac ⟨_, rfl, sc _ _ hd⟩) hrep fun σ2 δ2 df E2 k2 => ?_
    refine ⟨wipe_dif df hts, ?_⟩
    intro tb Gb Cb lb pb
    refine WTs_nil (c := blkCt c scope tb Gb Cb lb pb) (S := fun b => b = true) rfl (Dd :: L) σ2 Hc _ ⟨⟨E2.ok.base, E2.ok.lb, E2.ok.new, E2.ok.lsts⟩, E2.len, E2.rep, E2.sep⟩ fun b H4 s4 eb => ?_
    subst eb
    rw [if_pos rfl]
    intro tc Gc Cc lc pc
    have E3 : En (blkCt c scope tc Gc Cc lc pc) (Dd :: L) H4 σ2 δ2 := ⟨⟨(E2.ok.mono s4).base, E2.ok.lb, E2.ok.new, (E2.ok.mono s4).lsts⟩, E2.len, (E2.mono s4).rep, E2.sep⟩
    refine k2 tc Gc Cc lc pc (blkCt c scope tc Gc Cc lc pc) rfl rfl (Dd :: L) σ2 H4 _ E3 fun u1 H5 x1 s5 r5 k5 => ?_
    obtain ⟨k, ek, k5⟩ := k5
    obtain rfl : u1 = kV k := keyD_rep ek (r5.rep (by cases x1 <;> first | rfl | cases ek))
    intro td Gd Cd ld pd
    have E4 : En (blkCt c scope td Gd Cd ld pd) (Dd :: L) H5 σ2 δ2 := by
      have e := E3.mono s5
      exact ⟨⟨e.ok.base, e.ok.lb, e.ok.new, e.ok.lsts⟩, e.len, e.rep, e.sep⟩
    refine k5 td Gd Cd ld pd (blkCt c scope td Gd Cd ld pd) rfl rfl (Dd :: L) σ2 _ _ E4 fun y H8 e s8 r8 k8 => ?_
    obtain ⟨st, k8⟩ := k8
    have all := (s4.trans s5).trans s8
    have at8 : H8 Dd = some (.dK (ks.zip vs)) := all.at _ _ (sc _ _ hd)
    have ev : putK (ks.zip vs) k y = (putKs ks k).zip (putDs ks vs k y) := putK_zip (by omega)
    have ww := w.size
    refine ⟨_, k, rfl, at8, by rw [List.length_zip]; omega, by omega, ?_, putKs ks k, putDs ks ys k e, putDs ks vs k y, k8, putKs_len hk, Nat.le_trans putKs_le (by omega), by rw [upd_same, ev], ?_⟩
    · exact (sac.trans all).set ⟨_, rfl, at8⟩ (.of hD) rfl
    · rw [hide_upd List.mem_cons_self]
      exact Reps.putDs (r8.rep st) hk (Reps.mono (hide_same (sc.k.trans all.k)) _ _ rp)
  · have e : i = ds.length := by omega
    subst e
    exact .inl ⟨w.stop Hb sb.k, q Dd Hb vs ks ys (sa.trans sb) (Same.free sa (.of hD)) hd rp hk (fin ks ys hy hk pv)⟩
end
@[irreducible] def Rd.turnsK (tg : RdG) (k1 elt : RdE) (δ : List (Option D)) (S : List Key → List D → Prop) (ds : List D) : Prop :=
  ∃ Pv : Nat → List Key → List D → Prop, Pv 0 [] [] ∧ (∀ (i : Nat) (d : D) (ks : List Key) (ys : List D), ds[i]? = some d → ks.length ≤ i → ks.length = ys.length → Pv i ks ys → tg δ d fun δ2 => k1 noX δ2 fun x1 => ∃ k, keyD x1 = some k ∧ elt noX δ2 fun y => y.still = true ∧ Pv (i + 1) (putKs ks k) (putDs ks ys k y)) ∧ ∀ ks ys, ks.length ≤ ds.length → ks.length = ys.length → Pv ds.length ks ys → S ks ys
def Rd.dck (own : List Nat) (src : RdA) (tg : RdG) (k1 elt : RdE) : RdE := fun T δ S => src T δ fun ds => fc (wp δ own) fun δ' => Rd.turnsK tg k1 elt δ' (fun ks ys => S (.dck ks ys)) ds
theorem De.dck {f : Fr} {scope : Scope} {tg iter kx vx : Expr} {g : RdG} {t1 te : RdE} {src : RdA} {pos : Pos} (own : List (Str × Nat)) (hi : ReJ f tg iter src) (hg : ReG (f.blk scope) tg (own.map (·.2)) g) (h1 : ReE (f.blk scope) kx t1) (he : ReE (f.blk scope) vx te) (ok : blkC f.N f.sc scope own = true := by (try dsimp only [Fr.blk, Fr.lam]); decide +kernel)
    (hs : ∀ X : Cx, ∀ x, foldedSetIterable iter X.env x = pure x := by intro _ _; rfl) :
    ReE f (.DictComp kx vx [⟨tg, iter, [], 0⟩] scope pos) (Rd.dck (own.map (·.2)) src g t1 te) := .mk fun {X T} c F δ S h => fun L σ H Q E q => by
  have bo : BlkOk X.N X.env.scope scope own := by rw [F.n, F.s]; exact blkOk_by ok
  refine runE_of (pe_dc (g := lcG X scope tg) (tt := lcT X scope []) (tk := lcE X scope kx) (tv := lcE X scope vx) c.calm c.nd pi_run bo (fun s H0 C cl fp => ⟨fun pins s1 σ1 H1 v u Q1 I r h => h s H0 C cl fp pins s1 u I r⟩) (fun s H0 C cl fp => ⟨fun pins s1 σ1 H1 Q1 I h => h s H0 C cl fp pins s1 I⟩)
    (fun s H0 C cl fp => ⟨fun pins s1 σ1 H1 Q1 I h => h s H0 C cl fp pins s1 I⟩) (fun s H0 C cl fp => ⟨fun pins s1 σ1 H1 Q1 I h => h s H0 C cl fp pins s1 I⟩) (hs X)) ?_
  refine dcc_read (c := c) (S := fun ks ys => S (.dck ks ys)) (ts := own.map (·.2)) (WJ_mono (hi c F δ _ h) fun ds h0 => ?_) (fun _ h => h) E fun l H' vs ks ds s hl hl' r hk k => ?_
  · rw [fc_eq, wp_eq] at h0
    unfold Rd.turnsK at h0
    obtain ⟨Pv, p0, step, fin⟩ := h0
    refine ⟨Pv, p0, fun i d ks ys hd hz hk pv => ?_, fin⟩
    refine blk_of F fun X1 c1 F1 => AG_mono (hg c1 F1 _ d _ (step i d ks ys hd hz hk pv)) fun δ2 k2 => ?_
    refine blk_of F fun X2 c2 F2 => (h1 c2 F2 δ2 _ k2).mono fun x1 k3 => ?_
    obtain ⟨k, e1, k5⟩ := k3
    exact ⟨k, e1, blk_of F fun X3 c3 F3 => he c3 F3 δ2 _ k5⟩
  · have hL : l ∉ L := E.ok.freshN hl
    exact q _ H' (.dck ks ds) s ⟨l, vs, rfl, (hide_ne hL).trans hl', Reps.mono (hide_le fun b hb => List.mem_cons_of_mem _ hb) _ _ r, hk⟩ k
end Dl

set_option maxRecDepth 100000
set_option maxHeartbeats 4000000
/-! # How the script is made into a bag -/
namespace Dl
open PySem PySem.Spec PyProof.Rows L2
section
variable {P : Program} {w : World} {K : PySem.W.Frag} {mg : Str → Option Value} {base : Heap} {k : Nat} {f : Addr} {fd : FuncData} {ps : List Str} {Tb : List (Addr × Str)}
/-- a bag is made of the script -/
def spBag (Tb : List (Addr × Str)) (K : PySem.W.Frag) : Sp := fun vs H Q _ => ∃ (a : Addr) (ns : List Int), vs = [.ref a] ∧ SqL K H a (ns.map V.int) ∧ ns.length ≤ 63 ∧ LamX.Tabs Tb H ∧ ∀ v H', Same (bagU Tb) H H' → (bagU Tb).P v H' → Q v H'
/-- .. at first two lists -/
def spBagL (Tb : List (Addr × Str)) (K : PySem.W.Frag) : Sp := fun vs H Q _ => ∃ (a : Addr) (ns : List Int), vs = [.ref a] ∧ SqL K H a (ns.map V.int) ∧ ns.length ≤ 63 ∧ LamX.Tabs Tb H ∧ ∀ (p c : Addr) (cs : List Int) (i1 i2 : Int) (H' : Hp), Same (bagU Tb) H H' → NoA H p → NoA H c → c ≠ p → H' p = some (bagL c i1 i2 0) → H' c = some (.lst (cs.map V.int)) → GrI cs → BagI i1 i2 0 → Q (.ref p) H'
theorem bag_told (F : FnOk P w K mg base (L2.CX P w) k f fd ps (spBagL Tb K)) (hp : ps.length = 1) : FnOk P w K mg base (L2.CX P w) k f fd ps (spBag Tb K) := by
  refine ⟨fun vs H Q E h => ?_, fun A outer s H args us vs Q E hr he hb hv hs => ?_⟩
  · obtain ⟨a, ns, rfl, _⟩ := h
    rw [hp]
    rfl
  · obtain ⟨a, ns, rfl, hS, hl, hT, q⟩ := hs
    refine codeAny_mono (F.run A outer s H args us _ (fun v H' => ∃ (p c : Addr) (cs : List Int) (i1 i2 : Int), v = .ref p ∧ Same (bagU Tb) H H' ∧ NoA H p ∧ NoA H c ∧ c ≠ p ∧ H' p = some (bagL c i1 i2 0) ∧ H' c = some (.lst (cs.map V.int)) ∧ GrI cs ∧ BagI i1 i2 0) (fun _ _ _ => False) hr he hb hv ⟨a, ns, rfl, hS, hl, hT, fun p c cs i1 i2 H' e1 e2 e2' hne e3 e4 e5 e6 => ⟨p, c, cs, i1, i2, rfl, e1, e2, e2', hne, e3, e4, e5, e6⟩⟩) fun r s' hq => ?_
    cases r with
    | error e =>
      obtain ⟨_, _, _, _, _, _, _, _, _, _, _, _, z⟩ := hq
      exact z.elim
    | ok fl =>
      cases fl with
      | ret u =>
        obtain ⟨v, H', h1, h2, un, hok, rvu, p, c, cs, i1, i2, rfl, e1, e2, e2', hcp, e3, e4, e5, e6⟩ := hq
        have c3 : upd H' p (.ext (bagPhi c p)) c = some (.lst (cs.map V.int)) := by rw [upd_ne hcp]; exact e4
        have sm : Same (bagU Tb) H (upd (upd H' p (.ext (bagPhi c p))) c (.ext (bagPsi c))) := ⟨fun b o z n => by
          rw [upd_ne (e2'.ne z n), upd_ne (e2.ne z n)]
          exact e1.at b o z n, fun z => tabs_upd _ c _ (.lst c3) (tabs_upd H' p _ (.lst e3) (e1.g z))⟩
        have npp : ∀ b o, s.heap.get? b = some o → H b = none → b ≠ p := fun b o z1 z2 z3 => by
          have z := un.free b o z1 z2 (by simp)
          rw [z3, e3] at z
          cases z
        have npc : ∀ b o, s.heap.get? b = some o → H b = none → b ≠ c := fun b o z1 z2 z3 => by
          have z := un.free b o z1 z2 (by simp)
          rw [z3, e4] at z
          cases z
        have k1 := HOk.retell hok e3 (fun _ z => by cases z) (fun _ z => by cases z) (bagPhi_ok (H' := upd H' p (.ext (bagPhi c p))) (hok p _ e3) e6)
        have k2 := HOk.retell k1 c3 (fun _ z => by cases z) (fun _ z => by cases z) (bagPsi_ok (H' := upd (upd H' p (.ext (bagPhi c p))) c (.ext (bagPsi c))) (k1 c _ c3) e5)
        refine ⟨.ref p, _, h1, h2, ⟨un.keep, un.slot, fun b o z1 z2 z3 => by rw [upd_ne (npc b o z1 z2), upd_ne (npp b o z1 z2)]; exact un.free b o z1 z2 z3, un.there, fun b xs z => sm.at _ _ z, fun b o u z => sm.at _ _ z, fun b ps z => by
          obtain ⟨more, z'⟩ := un.tbls b ps z
          exact ⟨more, by rw [upd_ne (fun q => by rw [q, e4] at z'; cases z'), upd_ne (fun q => by rw [q, e3] at z'; cases z')]; exact z'⟩⟩, k2, rvu, q _ _ sm ⟨p, c, rfl, (upd_ne hcp.symm).trans upd_same, upd_same, hcp⟩⟩
      | next => exact False.elim hq
      | brk => exact False.elim hq
      | cont => exact False.elim hq
/-- a new bag, as it leaves the def: H0 the heap that was handed in -/
def bagN (Tb : List (Addr × Str)) (H0 : Hp) : Pu where
  P := fun v H => ∃ (p c : Addr) (cs : List Int) (i1 i2 : Int), v = .ref p ∧ NoA H0 p ∧ NoA H0 c ∧ c ≠ p ∧ H p = some (bagL c i1 i2 0) ∧ H c = some (.lst (cs.map V.int)) ∧ GrI cs ∧ BagI i1 i2 0
  mono := fun v H H' e ⟨p, c, cs, i1, i2, h1, h2, h2', hne, h3, h4, h5⟩ => ⟨p, c, cs, i1, i2, h1, h2, h2', hne, e.at _ _ h3, e.at _ _ h4, h5⟩
  G := LamX.Tabs Tb
  ge := fun H H' e h => h.ext e
  gu := fun H l o hl _ h => tabs_upd H l o hl h
  gh := fun L H hl h => tabs_hide L H hl h
theorem WS_retBag {X : Cx} {lv : Nat} {T : XD} {Tb : List (Addr × Str)} {H0 : Hp} {c : Ct X (bagN Tb H0) lv T} {es : List Expr} {δ : List (Option D)} {E : SE} {pos pos2 : Pos} (hb : c.Hb = H0) (hl : c.Lb = []) (h : WA c es δ fun ds => ∃ (cs : List Int) (i1 i2 : Int), ds = [.own (cs.map D.int), .int i1, .int i2, .int 0] ∧ GrI cs ∧ BagI i1 i2 0) (k : E.rt .pur) : WS c (.Return (some (.List es pos2)) pos) δ E := fun L σ H De N C =>
  runS_of (ps_ret (pe_lst pa_run)) (h L σ H _ N fun vs H1 ds s1 r1 ⟨cs, i1, i2, hd, g1, g2⟩ => by
    subst hd
    obtain ⟨v0, r, rfl, r0, v1, r', rfl, e1, v2, r'', rfl, e2, v3, r3, rfl, e3, e4⟩ := r1
    obtain rfl : v1 = .int i1 := e1
    obtain rfl : v2 = .int i2 := e2
    obtain rfl : v3 = .int 0 := e3
    obtain rfl : r3 = [] := e4
    obtain ⟨l, us, rfl, hL, hlb, hH, ra, za⟩ := r0
    rw [ra.ints] at hH
    refine ⟨by show 4 ≤ sizeLine; decide, fun p hp => ?_⟩
    have sm : Same (bagN Tb H0) H1 (upd H1 p (bagL l i1 i2 0)) := same_new hp
    have nl : NoA c.Hb l := (N.ok.new l hL).resolve_left (fun z => by rw [hl] at z; cases z)
    have ne : l ≠ p := fun z => by rw [z, hp] at hH; cases hH
    refine C.rt (.ref p) _ .pur ((N.ok.base.trans s1).trans sm) ?_ k
    rw [hl, hide_nil]
    exact ⟨p, l, cs, i1, i2, rfl, by rw [← hb]; exact Same.free (N.ok.base.trans s1) (.of hp), by rw [← hb]; exact nl, ne, upd_same, (upd_ne ne).trans hH, g1, g2⟩)
theorem fnScrC {x : Str} {st : Stmt} {f : Addr} {fd : FuncData} {N ps : List Str} {k : Nat} (F : Fun K x x st f fd) (Sc : FnScope N ps (defScope st)) (hp : ps.length = 1)
    (body : ∀ (X : Cx) (H0 : Hp) (c : Ct X (bagN Tb H0) k noX), Fx X P w K mg base N (defScope st) .top → c.Hb = H0 → c.Lb = [] → ∀ (a : Addr) (ns : List Int), SqL K H0 a (ns.map V.int) → ns.length ≤ 63 → WSs c (defBody st) (startD N [.any (.ref a)]) { nx := fun _ => False, rt := fun d => d = .pur }) :
    FnOk P w K mg base (L2.CX P w) (k + 1) f fd ps (spBag Tb K) := by
  refine bag_told (F.okX Sc (fun vs H Q E h => ?_) fun cdv A outer s H vs Q E hr h => ?_) hp
  · obtain ⟨a, ns, rfl, _⟩ := h
    rw [hp]
    rfl
  · obtain ⟨a, ns, rfl, hS, hl, hT, q⟩ := h
    let c : Ct (cxOf (L2.CX P w) P w K mg base N x (defScope st) f cdv A outer s H E) (bagN Tb H) k noX :=
      { Hb := H, Lb := [], g := hT, calm := rfl, nd := Sc.nd, room := hr, own := passes_of rfl, tk := (takes_of (E := E) rfl rfl rfl rfl).imp fun cls od σ H' ⟨s1, fl, r, t⟩ => t.elim }
    have ok : Ok c [] H := ⟨Same.refl H, fun l h => h, fun l h => .inl h, fun l h => by simp at h⟩
    refine ⟨_, pss_run, ?_⟩
    refine body _ H c ⟨rfl, rfl, rfl, rfl, rfl, rfl, rfl, fun x => rfl⟩ rfl rfl a ns hS hl [] (L2.start N [.ref a]) H _ (start_en ok (Reps.one (d := .any (.ref a)) (v := .ref a) rfl)) ⟨fun L' σ' H' δ' N' k => k.elim, fun v H' d s1 r z => ?_, fun L' σ' H' δ' N' k => k.elim, fun L' σ' H' δ' N' k => k.elim⟩
    subst z
    rw [hide_nil] at r
    obtain ⟨p, c', cs, i1, i2, rfl, h1, h1', hne, h2, h3, h4, h5⟩ := r
    exact q p c' cs i1 i2 H' ⟨s1.k, s1.g⟩ h1 h1' hne h2 h3 h4 h5
theorem CD_lenScr {X : Cx} {U : Pu} {lv : Nat} {T : XD} {c : Ct X U lv T} {S : D → Prop} {a : Addr} {ns : List Int} (hS : SqL X.K c.Hb a (ns.map V.int)) (h : S (.int ns.length)) : CD c (.builtin "len") [.any (.ref a)] S := cd_of call_len_seq fun L H vs Q k r q => by
  obtain ⟨v, rfl, rx⟩ := r.one
  obtain rfl : v = .ref a := rx
  refine ⟨a, _, rfl, .inl (seqL_mono k.base hS), ?_⟩
  rw [List.length_map]
  exact q _ H (.int _) (Same.refl H) rfl h
/-- the law's first line makes the pot; what follows is read -/
theorem lawTopC {st : Stmt} {f fp : Addr} {fd fdp : FuncData} {x y pn z : Str} {N pps : List Str} {rest : List Stmt} {p1 p2 p3 p4 p5 : Pos} {k kp : Nat} {t : RdS} (F : Fun K z z st f fd) (Sc : FnScope (x :: y :: N) [x] (defScope st)) (hbody : defBody st = .Assign [.Name y p1] (.Call (.Name pn p2) [.Name x p3] [] p4) p5 :: rest)
    (Pot : FnOk P w K mg base (L2.CX P w) kp fp fdp pps (spBag Tb K)) (gP : mg pn = some (.ref fp)) (kpP : PySem.W.keepIn K (.ref fp) = true) (bP : Binds K fdp pps []) (hk : kp ≤ k) (hv : visB (defScope st) x = true) (hl : tgB .top (defScope st) y = true) (hg : glbB (defScope st) pn = true)
    (d : ReSs ⟨P, w, K, mg, base, x :: y :: N, defScope st, .code fd.code (z ++ ".<locals>."), bagU Tb, k⟩ rest t) (ok : fc (none :: some .pur :: List.replicate N.length none) fun δ => t noX δ { nx := fun _ => False, rt := fun d => d = .bl true }) : FnOk P w K mg base L2.CX0 (k + 1) f fd [x] (spLaw Tb K) := by
  obtain ⟨⟨oc, od, kV, doc, pm, an, cdv, ct, osl, e0, lk, hcd⟩, kp⟩ := F
  subst e0
  refine to0 (fn_of lk hcd Sc (fun vs H Q E h => ?_) fun A outer s H vs Q E hr h => ?_) fun vs H Q E h => h
  · obtain ⟨a, ns, rfl, _⟩ := h
    rfl
  · obtain ⟨a, ns, rfl, hS, hz, hT, q⟩ := h
    have hx : Fx (cxOf (L2.CX P w) P w K mg base (x :: y :: N) z (defScope st) f cdv A outer s H E) P w K mg base (x :: y :: N) (defScope st) (.code cdv (z ++ ".<locals>.")) := ⟨rfl, rfl, rfl, rfl, rfl, rfl, rfl, fun x => rfl, rfl, rfl⟩
    have tk0 := takes_of (X := cxOf (L2.CX P w) P w K mg base (x :: y :: N) z (defScope st) f cdv A outer s H E) (E := E) rfl rfl rfl rfl
    have tk1 : Takes (cxOf (L2.CX P w) P w K mg base (x :: y :: N) z (defScope st) f cdv A outer s H E) (fun _ _ _ _ => False) := tk0.imp fun _ _ _ _ z => z.elim
    rw [hbody]
    refine ⟨_, pss_cons (ps_set (i := 1) Sc.nd rfl (hx.loc (hx.tl hl)) (pe_callS Pot (hr.mono hk) (hx.gl hg) gP kpP bP (fun σ => passAt tk1 σ) (pa_cons (pe_var (i := 0) rfl (hx.vis hv) (visB_ok hv).2.1 (visB_ok hv).2.2) pa_nil rfl) (glbB_ok hg).2.1 rfl rfl) rfl (hx.fn hl)) pss_run, ?_⟩
    refine ⟨.ref a, rfl, a, ns, rfl, hS, hz, hT, fun v H' sm pv => ?_⟩
    let c : Ct (cxOf (L2.CX P w) P w K mg base (x :: y :: N) z (defScope st) f cdv A outer s H E) (bagU Tb) k noX :=
      { Hb := H', Lb := [], g := sm.g hT, calm := rfl, nd := Sc.nd, room := hr, own := passes_of rfl, tk := tk1.imp fun cls od σ H' ⟨s1, fl, r, t⟩ => t.elim }
    have okc : Ok c [] H' := ⟨Same.refl H', fun l h => h, fun l h => .inl h, fun l h => by simp at h⟩
    rw [fc_eq] at ok
    refine d c hx _ _ ok [] _ H' _ ⟨okc, by simp [L2.start], fun i d h => ?_, fun i j xs ys l h _ f1 => ?_⟩ ⟨fun L' σ' H' δ' N' k => k.elim, fun v H' d s1 r z => ?_, fun L' σ' H' δ' N' k => k.elim, fun L' σ' H' δ' N' k => k.elim⟩
    · match i, h with
      | 0, h => simp at h
      | 1, h =>
        simp at h
        subst h
        refine ⟨v, by simp [L2.start], ?_⟩
        show (bagU Tb).P v (hide [] H')
        rw [hide_nil]
        exact pv
      | i + 2, h =>
        simp [List.getElem?_replicate] at h
    · match i, h with
      | 0, h => simp at h
      | 1, h =>
        simp at h
        subst h
        cases f1
      | i + 2, h => simp [List.getElem?_replicate] at h
    · subst z
      rw [show v = .bl true from r]
      exact q H'
end
end Dl

set_option maxRecDepth 100000
set_option maxHeartbeats 4000000
/-! # a, b = e1, e2 where one name is a cell: through a tuple; any of the two may be a list or dict of one's own -/
namespace Dl
open PySem PySem.Spec PyProof.Rows L2
section
variable {X : Cx} {U : Pu} {lv : Nat} {T : XD} {c : Ct X U lv T} {δ : List (Option D)} {E : SE} {pos : Pos}
theorem WS_parTG (i j : Nat) {x y : Str} {a b : Expr} {px py pt : Pos} {kt k2 pt2} (h : WO c a δ fun d1 => WO c b δ fun d2 => E.nx ((δ.set i (some d1)).set j (some d2))) (hi : X.N[i]? = some x) (hj : X.N[j]? = some y) (hij : i ≠ j)
    (hx : Loc X.env.scope x) (hy : Loc X.env.scope y) (fx : X.fn x = true ∨ X.env.scope.names.lookup x = some .local) (fy : X.fn y = true ∨ X.env.scope.names.lookup y = some .local) (hw : swappedStores [.Tuple [.Name x px, .Name y py] kt pt] (.Tuple [a, b] k2 pt2) X.env = pure none)
    (hs : swapsWithSole [.Tuple [.Name x px, .Name y py] kt pt] (.Tuple [a, b] k2 pt2) pos.line X.env = pure false) (s1 : starEach (a :: [b]) X.env = (false, eval a X.env) :: starEach [b] X.env := by rfl) (s2 : starEach (b :: []) X.env = (false, eval b X.env) :: starEach [] X.env := by rfl) :
    WS c (.Assign [.Tuple [.Name x px, .Name y py] kt pt] (.Tuple [a, b] k2 pt2) pos) δ E := fun L σ H D N C =>
  runS_of (ps_asg (pe_tup (pa_cons pe_run (pa_cons pe_run pa_nil s2) s1)) (pg_tup (n := 2) c.calm (pgs_cons (pg_name c.nd hi hx fx) (pgs_cons (pg_name c.nd hj hy fy) pgs_nil rfl) rfl) rfl rfl) hs hw rfl) (by
    refine h L σ H _ N fun v H1 d1 e1 r1 z => ?_
    obtain ⟨L1, N1, hd1, tr1, fr1⟩ := N.hold e1 r1
    refine z L1 σ H1 _ N1 fun u H2 d2 e2 r2 z2 => ?_
    obtain ⟨L2, N2, hd2, tr2, fr2⟩ := N1.hold e2 r2
    refine ⟨by show 2 ≤ sizeLine; decide, fun p hp => ?_⟩
    have e3 : Same U H2 (upd H2 p (.tup [v, u])) := same_new hp
    refine ⟨p, [v, u], rfl, SqT.of upd_same, rfl, v, [u], rfl, u, [], rfl, rfl, ?_⟩
    have hd1' : Held c L2 (upd H2 p (.tup [v, u])) σ δ d1 v := ⟨(tr2 _ _ hd1.1).mono e3, hd1.2⟩
    have N3 := (N2.mono e3).put (i := i) hd1'
    refine C.nx L2 _ _ _ (N3.put (i := j) ⟨hd2.1.mono e3, fun l ex el k ys g1 y1 g2 => ?_⟩) z2
    by_cases hk : i = k
    · subst hk
      have hil : i < δ.length := by
        by_cases hil : i < δ.length
        · exact hil
        · rw [List.getElem?_eq_none (by simpa using hil)] at g1
          cases g1
      rw [List.getElem?_set_self hil] at g1
      rw [List.getElem?_set_self (by rw [N.len]; exact hil)] at g2
      obtain rfl : d1 = ys := by injection g1 with g; injection g
      obtain rfl : v = .ref l := by injection g2 with g; injection g
      exact fr2 l ex el (hd1.1.inL y1 rfl)
    · rw [List.getElem?_set_ne hk] at g1 g2
      exact hd2.2 l ex el k ys g1 y1 g2)
end
theorem De.par2FT {f : Fr} {a b : Expr} {x y : Str} {px py pt pos : Pos} {kt k2 pt2} {fa fb : RdA} (i j : Nat) (ha : ReF f a fa) (hb : ReF f b fb) (hi : f.N[i]? = some x := by rfl) (hj : f.N[j]? = some y := by rfl) (hij : i ≠ j := by decide)
    (hx : tgB f.z f.sc x = true := by (try dsimp only [Fr.blk, Fr.lam]); first | exact tgB_code (by decide +kernel) | decide +kernel) (hy : tgB f.z f.sc y = true := by (try dsimp only [Fr.blk, Fr.lam]); first | exact tgB_code (by decide +kernel) | decide +kernel)
    (hw : swappedStores [.Tuple [.Name x px, .Name y py] kt pt] (.Tuple [a, b] k2 pt2) { scope := f.sc, locals := 0, globals := 0, cells := [] } = pure none := by rfl)
    (hs : ∀ X : Cx, swapsWithSole [.Tuple [.Name x px, .Name y py] kt pt] (.Tuple [a, b] k2 pt2) pos.line X.env = pure false := by intro _; rfl) (s1 : ∀ X : Cx, starEach (a :: [b]) X.env = (false, eval a X.env) :: starEach [b] X.env := by intro _; rfl) (s2 : ∀ X : Cx, starEach (b :: []) X.env = (false, eval b X.env) :: starEach [] X.env := by intro _; rfl) :
    ReS f (.Assign [.Tuple [.Name x px, .Name y py] kt pt] (.Tuple [a, b] k2 pt2) pos) (Rd.par2F i j fa fb) := .mk fun {X T} c F δ E h =>
  WS_parTG i j (WO_new fun L σ H Q N q => ha c F δ _ h L σ H Q N fun l H' vs ds s g1 g2 g3 g4 g5 => q l H' vs ds s g1 g2 g3 g4 (WO_new fun L σ H Q N q => hb c F δ _ g5 L σ H Q N fun l H' vs ds s h1 h2 h3 h4 h5 => q l H' vs ds s h1 h2 h3 h4 (by
    rw [fc_eq, st_eq, st_eq] at h5
    exact h5))) (by rw [F.n]; exact hi) (by rw [F.n]; exact hj) hij (F.loc (F.tl hx)) (F.loc (F.tl hy)) (F.fn hx) (F.fn hy) (swapped_at F.s _ _ hw) (hs X) (s1 X) (s2 X)
/-! ### x = {k: v for ..}, x a cell -/
theorem sw_cellD {kx vx : Expr} {gs : List Comprehension} {scope : Scope} {pos py : Pos} {y : Str} {l : Nat} {env : Env} (hy : (env.scope.names.lookup y == some .local) = false) : swapsWith (.DictComp kx vx gs scope pos) (some (.Name y py)) l env = pure false := by
  unfold swapsWith Env.kindOf
  simp [hy]
theorem De.setDC {f : Fr} {x : Str} {ta : RdE} {kx vx : Expr} {gs : List Comprehension} {scope : Scope} {p p' pos : Pos} (i : Nat) (ha : ReE f (.DictComp kx vx gs scope p) ta) (hn : f.N[i]? = some x := by rfl) (hl : tgB f.z f.sc x = true := by (try dsimp only [Fr.blk, Fr.lam]); first | exact tgB_code (by decide +kernel) | decide +kernel) (hc : (f.sc.names.lookup x == some .local) = false := by (try dsimp only [Fr.blk, Fr.lam]); decide +kernel) : ReS f (.Assign [.Name x p'] (.DictComp kx vx gs scope p) pos) (Rd.set i ta) := .mk fun {X T} c F δ E h =>
  WS_set i (WO_of ((ha c F δ _ h).mono fun d h1 => by
    rw [fc_eq, st_eq] at h1
    exact stP_ok h1)) (by rw [F.n]; exact hn) (F.loc (F.tl hl)) (sw_cellD (by rw [F.s]; exact hc)) (F.fn hl)
end Dl

set_option maxRecDepth 100000
set_option maxHeartbeats 4000000
namespace K46
open PySem PySem.Spec PyProof.Rows L2 Dl 
def topS (i : Nat) : Stmt := PySem.Challenge.pw_mapwebs_k46_whole_pairings_and_bans_judg.main.body.getD i (.Pass ⟨0, 0, 0, 0⟩)
abbrev t_is_integer : Stmt := topS 5
abbrev n_is_integer : List Str := ["thing"]
theorem sc_is_integer : FnScope n_is_integer ["thing"] (defScope t_is_integer) := ⟨rfl, rfl, rfl, by decide +kernel, rfl, by decide +kernel, by decide +kernel⟩
abbrev t_is_within : Stmt := topS 6
abbrev n_is_within : List Str := ["thing", "least", "most"]
theorem sc_is_within : FnScope n_is_within ["thing", "least", "most"] (defScope t_is_within) := ⟨rfl, rfl, rfl, by decide +kernel, rfl, by decide +kernel, by decide +kernel⟩
abbrev t_is_number : Stmt := topS 7
abbrev n_is_number : List Str := ["thing", "most"]
theorem sc_is_number : FnScope n_is_number ["thing", "most"] (defScope t_is_number) := ⟨rfl, rfl, rfl, by decide +kernel, rfl, by decide +kernel, by decide +kernel⟩
abbrev t_check_within : Stmt := topS 8
abbrev n_check_within : List Str := ["thing", "least", "most"]
theorem sc_check_within : FnScope n_check_within ["thing", "least", "most"] (defScope t_check_within) := ⟨rfl, rfl, rfl, by decide +kernel, rfl, by decide +kernel, by decide +kernel⟩
abbrev t_is_lot : Stmt := topS 9
abbrev n_is_lot : List Str := ["thing", "many", "at", "one"]
theorem sc_is_lot : FnScope n_is_lot ["thing", "many"] (defScope t_is_lot) := ⟨rfl, rfl, rfl, by decide +kernel, rfl, by decide +kernel, by decide +kernel⟩
abbrev t_is_bar : Stmt := topS 14
abbrev n_is_bar : List Str := ["thing"]
theorem sc_is_bar : FnScope n_is_bar ["thing"] (defScope t_is_bar) := ⟨rfl, rfl, rfl, by decide +kernel, rfl, by decide +kernel, by decide +kernel⟩
abbrev t_check_bars : Stmt := topS 15
abbrev n_check_bars : List Str := ["thing", "bar"]
theorem sc_check_bars : FnScope n_check_bars ["thing"] (defScope t_check_bars) := ⟨rfl, rfl, rfl, by decide +kernel, rfl, by decide +kernel, by decide +kernel⟩
abbrev t_do_fit : Stmt := topS 16
abbrev n_do_fit : List Str := ["bar", "other", "e"]
theorem sc_do_fit : FnScope n_do_fit ["bar", "other", "e"] (defScope t_do_fit) := ⟨rfl, rfl, rfl, by decide +kernel, rfl, by decide +kernel, by decide +kernel⟩
abbrev t_is_long : Stmt := topS 17
abbrev n_is_long : List Str := ["bar", "e"]
theorem sc_is_long : FnScope n_is_long ["bar", "e"] (defScope t_is_long) := ⟨rfl, rfl, rfl, by decide +kernel, rfl, by decide +kernel, by decide +kernel⟩
abbrev t_check_asked : Stmt := topS 18
abbrev n_check_asked : List Str := ["one", "other", "e"]
theorem sc_check_asked : FnScope n_check_asked ["one", "other", "e"] (defScope t_check_asked) := ⟨rfl, rfl, rfl, by decide +kernel, rfl, by decide +kernel, by decide +kernel⟩
abbrev t_is_number_pair : Stmt := topS 19
abbrev n_is_number_pair : List Str := ["thing", "many", "more"]
theorem sc_is_number_pair : FnScope n_is_number_pair ["thing", "many", "more"] (defScope t_is_number_pair) := ⟨rfl, rfl, rfl, by decide +kernel, rfl, by decide +kernel, by decide +kernel⟩
abbrev t_is_pairing : Stmt := topS 20
abbrev n_is_pairing : List Str := ["one", "other", "e", "thing", "used", "mine", "here", "there", "bar", "at", "pair"]
theorem sc_is_pairing : FnScope n_is_pairing ["one", "other", "e", "thing"] (defScope t_is_pairing) := ⟨rfl, rfl, rfl, by decide +kernel, rfl, by decide +kernel, by decide +kernel⟩
abbrev t_is_ban : Stmt := topS 21
abbrev n_is_ban : List Str := ["one", "other", "e", "thing", "mine", "others", "bar", "at"]
theorem sc_is_ban : FnScope n_is_ban ["one", "other", "e", "thing"] (defScope t_is_ban) := ⟨rfl, rfl, rfl, by decide +kernel, rfl, by decide +kernel, by decide +kernel⟩
abbrev t_l_bag : Stmt := topS 23
abbrev n_l_bag : List Str := ["_law_script", "_law_great", "_law_seed", "_law_cell"]
theorem sc_l_bag : FnScope n_l_bag ["_law_script"] (defScope t_l_bag) := ⟨rfl, rfl, rfl, by decide +kernel, rfl, by decide +kernel, by decide +kernel⟩
abbrev t_l_pick : Stmt := topS 24
abbrev n_l_pick : List Str := ["_law_bag_here", "_law_many", "_law_number"]
theorem sc_l_pick : FnScope n_l_pick ["_law_bag_here", "_law_many"] (defScope t_l_pick) := ⟨rfl, rfl, rfl, by decide +kernel, rfl, by decide +kernel, by decide +kernel⟩
abbrev t_l_some : Stmt := topS 25
abbrev n_l_some : List Str := ["_law_bag_here", "_law_things"]
theorem sc_l_some : FnScope n_l_some ["_law_bag_here", "_law_things"] (defScope t_l_some) := ⟨rfl, rfl, rfl, by decide +kernel, rfl, by decide +kernel, by decide +kernel⟩
abbrev t_l_fits : Stmt := topS 26
abbrev n_l_fits : List Str := ["_law_bar", "_law_other", "_law_e"]
theorem sc_l_fits : FnScope n_l_fits ["_law_bar", "_law_other", "_law_e"] (defScope t_l_fits) := ⟨rfl, rfl, rfl, by decide +kernel, rfl, by decide +kernel, by decide +kernel⟩
abbrev t_l_is_long : Stmt := topS 27
abbrev n_l_is_long : List Str := ["_law_bar", "_law_e"]
theorem sc_l_is_long : FnScope n_l_is_long ["_law_bar", "_law_e"] (defScope t_l_is_long) := ⟨rfl, rfl, rfl, by decide +kernel, rfl, by decide +kernel, by decide +kernel⟩
abbrev t_l_paired : Stmt := topS 28
abbrev n_l_paired : List Str := ["_law_one", "_law_other", "_law_e", "_law_used", "_law_at", "_law_to", "_law_bar"]
theorem sc_l_paired : FnScope n_l_paired ["_law_one", "_law_other", "_law_e", "_law_used", "_law_at"] (defScope t_l_paired) := ⟨rfl, rfl, rfl, by decide +kernel, rfl, by decide +kernel, by decide +kernel⟩
abbrev t_l_found_for : Stmt := topS 29
abbrev n_l_found_for : List Str := ["_law_at", "_law_edges", "_law_taken", "_law_seen", "_law_to"]
theorem sc_l_found_for : FnScope n_l_found_for ["_law_at", "_law_edges", "_law_taken", "_law_seen"] (defScope t_l_found_for) := ⟨rfl, rfl, rfl, by decide +kernel, rfl, by decide +kernel, by decide +kernel⟩
abbrev t_l_all_found : Stmt := topS 30
abbrev n_l_all_found : List Str := ["_law_one", "_law_other", "_law_e", "_law_edges", "_law_taken", "_law_at", "_law_bar", "_law_here", "_law_to"]
theorem sc_l_all_found : FnScope n_l_all_found ["_law_one", "_law_other", "_law_e"] (defScope t_l_all_found) := ⟨rfl, rfl, rfl, by decide +kernel, rfl, by decide +kernel, by decide +kernel⟩
abbrev t_l_is_there : Stmt := topS 31
abbrev n_l_is_there : List Str := ["_law_one", "_law_other", "_law_e"]
theorem sc_l_is_there : FnScope n_l_is_there ["_law_one", "_law_other", "_law_e"] (defScope t_l_is_there) := ⟨rfl, rfl, rfl, by decide +kernel, rfl, by decide +kernel, by decide +kernel⟩
abbrev t_l_bar : Stmt := topS 32
abbrev n_l_bar : List Str := ["_law_bag_here", "_law_wide", "_law_born"]
theorem sc_l_bar : FnScope n_l_bar ["_law_bag_here", "_law_wide"] (defScope t_l_bar) := ⟨rfl, rfl, rfl, by decide +kernel, rfl, by decide +kernel, by decide +kernel⟩
abbrev t_l_moved : Stmt := topS 33
abbrev n_l_moved : List Str := ["_law_bag_here", "_law_bar_here", "_law_wide", "_law_born"]
theorem sc_l_moved : FnScope n_l_moved ["_law_bag_here", "_law_bar_here", "_law_wide"] (defScope t_l_moved) := ⟨rfl, rfl, rfl, by decide +kernel, rfl, by decide +kernel, by decide +kernel⟩
abbrev t_l_lists : Stmt := topS 34
abbrev n_l_lists : List Str := ["_law_bag_here", "_law_wide", "_law_most", "_law_one", "_law_other", "_law_bar_here", "_law_turn"]
theorem sc_l_lists : FnScope n_l_lists ["_law_bag_here", "_law_wide", "_law_most"] (defScope t_l_lists) := ⟨rfl, rfl, rfl, by decide +kernel, rfl, by decide +kernel, by decide +kernel⟩
abbrev t_l_is_number : Stmt := topS 35
abbrev n_l_is_number : List Str := ["_law_thing", "_law_below"]
theorem sc_l_is_number : FnScope n_l_is_number ["_law_thing", "_law_below"] (defScope t_l_is_number) := ⟨rfl, rfl, rfl, by decide +kernel, rfl, by decide +kernel, by decide +kernel⟩
abbrev t_l_is_pairing : Stmt := topS 36
abbrev n_l_is_pairing : List Str := ["_law_one", "_law_other", "_law_e", "_law_thing", "_law_last", "_law_used", "_law_pair", "_law_firsts", "_law_at", "_law_bar_here"]
theorem sc_l_is_pairing : FnScope n_l_is_pairing ["_law_one", "_law_other", "_law_e", "_law_thing"] (defScope t_l_is_pairing) := ⟨rfl, rfl, rfl, by decide +kernel, rfl, by decide +kernel, by decide +kernel⟩
abbrev t_l_is_ban : Stmt := topS 37
abbrev n_l_is_ban : List Str := ["_law_one", "_law_other", "_law_e", "_law_thing", "_law_here", "_law_there", "_law_last", "_law_met", "_law_at", "_law_fitting", "_law_bar_here", "_law_lone"]
theorem sc_l_is_ban : FnScope n_l_is_ban ["_law_one", "_law_other", "_law_e", "_law_thing"] (defScope t_l_is_ban) := ⟨rfl, rfl, rfl, by decide +kernel, rfl, by decide +kernel, by decide +kernel⟩
abbrev t_l_deep : Stmt := topS 38
abbrev n_l_deep : List Str := ["_law_bag_here", "_law_found", "_law_turn"]
theorem sc_l_deep : FnScope n_l_deep ["_law_bag_here"] (defScope t_l_deep) := ⟨rfl, rfl, rfl, by decide +kernel, rfl, by decide +kernel, by decide +kernel⟩
abbrev t_l_drawn : Stmt := topS 39
abbrev n_l_drawn : List Str := ["_law_bag_here", "_law_one", "_law_other", "_law_e", "_law_found", "_law_used", "_law_at", "_law_bar_here", "_law_free", "_law_to", "_law_there"]
theorem sc_l_drawn : FnScope n_l_drawn ["_law_bag_here", "_law_one", "_law_other", "_law_e"] (defScope t_l_drawn) := ⟨rfl, rfl, rfl, by decide +kernel, rfl, by decide +kernel, by decide +kernel⟩
abbrev t_l_bent : Stmt := topS 40
abbrev n_l_bent : List Str := ["_law_bag_here", "_law_pairs", "_law_many", "_law_more", "_law_at", "_law_new", "_law_way", "_law_pair", "_law_left", "_law_other"]
theorem sc_l_bent : FnScope n_l_bent ["_law_bag_here", "_law_pairs", "_law_many", "_law_more"] (defScope t_l_bent) := ⟨rfl, rfl, rfl, by decide +kernel, rfl, by decide +kernel, by decide +kernel⟩
abbrev t_l_is_flag : Stmt := topS 41
abbrev n_l_is_flag : List Str := ["_law_told", "_law_due"]
theorem sc_l_is_flag : FnScope n_l_is_flag ["_law_told", "_law_due"] (defScope t_l_is_flag) := ⟨rfl, rfl, rfl, by decide +kernel, rfl, by decide +kernel, by decide +kernel⟩
abbrev t_l_lots : Stmt := topS 42
abbrev n_l_lots : List Str := ["_law_many", "_law_found", "_law_number", "_law_lot"]
theorem sc_l_lots : FnScope n_l_lots ["_law_many"] (defScope t_l_lots) := ⟨rfl, rfl, rfl, by decide +kernel, rfl, by decide +kernel, by decide +kernel⟩
abbrev t_law : Stmt := topS 43
abbrev n_law : List Str := ["_law_script", "_law_bag_here", "_law_one", "_law_other", "_law_e", "_law_things", "_law_turn", "_law_pairs", "_law_side", "_law_here", "_law_lot", "_law_odd", "_law_thing"]
theorem sc_law : FnScope n_law ["_law_script"] (defScope t_law) := ⟨rfl, rfl, rfl, by decide +kernel, rfl, by decide +kernel, by decide +kernel⟩
end K46

set_option maxRecDepth 100000
set_option maxHeartbeats 4000000
namespace Tb
end Tb
namespace K46
open PySem PySem.Spec PyProof.Rows L2 Dl Tb 
def tf0 : List He.Defn := []
def tf : List He.Defn := tf0
def fa0 : List He.Fa := [.glo "is_integer", .glo "is_within", .glo "is_number", .glo "is_lot", .glo "check_within", .glo "is_bar", .glo "check_bars", .glo "do_fit", .glo "is_long", .glo "check_asked"]
def fa1 : List He.Fa := [.glo "is_number_pair", .glo "is_pairing", .glo "is_ban", .glo "_law_bag", .glo "_law_pick", .glo "_law_some", .glo "_law_fits", .glo "_law_is_long", .glo "_law_bar", .glo "_law_moved"]
def fa2 : List He.Fa := [.glo "_law_lists", .glo "_law_is_number", .glo "_law_is_pairing", .glo "_law_is_ban", .glo "_law_deep", .glo "_law_drawn", .glo "_law_bent", .glo "_law_is_flag", .glo "_law_lots", .glo "law"]
def fa3 : List He.Fa := [.glo "NoBars", .glo "NoNumber", .free "len", .free "range", .free "zip", .free "enumerate", .free "sum", .free "abs", .free "max", .free "min"]
def fa4 : List He.Fa := [.free "all", .free "any", .free "sorted", .free "isinstance", .free "int", .free "bool", .free "str", .free "tuple", .free "list", .free "dict"]
def fa5 : List He.Fa := [.free "set", .free "ValueError", .free "Exception", .int "MOST_BARS" 20, .int "FARTHEST" 1000, .int "MOST_DISTANCE" 2000]
def fa : List He.Fa := fa0 ++ fa1 ++ fa2 ++ fa3 ++ fa4 ++ fa5
def ex0 : List (PySem.W.Frag → Bool) := [excRB "NoBars", excRB "NoNumber"]
def ex : List (PySem.W.Frag → Bool) := ex0
def fn0 : List He.DefD := [defD "is_integer" t_is_integer, defD "is_within" t_is_within, defD "is_number" t_is_number, defD "is_lot" t_is_lot, defD "check_within" t_check_within, defD "is_bar" t_is_bar, defD "check_bars" t_check_bars, defD "do_fit" t_do_fit, defD "is_long" t_is_long, defD "check_asked" t_check_asked]
def fn1 : List He.DefD := [defD "is_number_pair" t_is_number_pair, defD "is_pairing" t_is_pairing, defD "is_ban" t_is_ban, defD "_law_bag" t_l_bag, defD "_law_pick" t_l_pick, defD "_law_some" t_l_some, defD "_law_fits" t_l_fits, defD "_law_is_long" t_l_is_long, defD "_law_bar" t_l_bar, defD "_law_moved" t_l_moved]
def fn2 : List He.DefD := [defD "_law_lists" t_l_lists, defD "_law_is_number" t_l_is_number, defD "_law_is_pairing" t_l_is_pairing, defD "_law_is_ban" t_l_is_ban, defD "_law_deep" t_l_deep, defD "_law_drawn" t_l_drawn, defD "_law_bent" t_l_bent, defD "_law_is_flag" t_l_is_flag, defD "_law_lots" t_l_lots, defD "law" t_law]
def fn : List He.DefD := fn0 ++ fn1 ++ fn2
def loose0 : List Str := ["WebError", "NoNumber", "NoBars", "is_integer", "is_within", "is_number", "check_within", "is_lot", "MOST_BARS", "FARTHEST"]
def loose1 : List Str := ["MOST_DISTANCE", "is_bar", "check_bars", "do_fit", "is_long", "check_asked", "is_number_pair", "is_pairing", "is_ban", "_law_bag"]
def loose2 : List Str := ["_law_pick", "_law_some", "_law_fits", "_law_is_long", "_law_paired", "_law_found_for", "_law_all_found", "_law_is_there", "_law_bar", "_law_moved"]
def loose3 : List Str := ["_law_lists", "_law_is_number", "_law_is_pairing", "_law_is_ban", "_law_deep", "_law_drawn", "_law_bent", "_law_is_flag", "_law_lots"]
def loose : List Str := loose0 ++ loose1 ++ loose2 ++ loose3
def hd : Hd := ⟨fa, ex, fn⟩
abbrev R : PySem.W.OpenRow := PySem.W.OpenLaw.row PySem.Challenge.rw_mapwebs_k46_whole_pairings_and_bans_judg
abbrev hk : PySem.W.Hook := hookY 4 hd tf
def ob (s : PySem.W.SharedT) : He.AlX := obsYG 4 hd tf (HandSHeadRun.getT s)
theorem ob_eq (s : PySem.W.SharedT) : ob s = hk.obs s.abs := obsYG_eq (HandSHeadRun.getT_eq s)
set_option maxHeartbeats 0 in
theorem run (w : World) : HandSHeadRun.RunEq R (PySem.W.view R.prog [43]) hk ob 6000 loose w := by
  intro os
  kernel_rfl
end K46

set_option maxRecDepth 100000
set_option maxHeartbeats 4000000
namespace Tb
open PySem PySem.Spec PyProof.Rows L2 Dl
/-! ### checks -/
abbrev sp_is_integer : DSpec := fun ds S _ => ∃ d, ds = [d] ∧ d.still = true ∧ d.kn = true ∧ S (.bl d.isN)
/-- an int within bounds -/
def inB (a b : Int) : D → Bool
  | .int i => decide (a ≤ i) && decide (i ≤ b)
  | _ => false
abbrev sp_is_within : DSpec := fun ds S _ => ∃ d a b, ds = [d, .int a, .int b] ∧ d.still = true ∧ d.kn = true ∧ S (.bl (inB a b d))
abbrev sp_is_number : DSpec := fun ds S _ => ∃ d b, ds = [d, .int b] ∧ d.still = true ∧ d.kn = true ∧ S (.bl (inB 0 b d))
abbrev primes : List Int := [2, 3, 5, 7, 11, 13]
def isP : D → Bool
  | .int i => primes.any (· == i)
  | _ => false
abbrev sp_is_prime : DSpec := fun ds S _ => ∃ d, ds = [d] ∧ d.still = true ∧ d.kn = true ∧ S (.bl (isP d))
abbrev sp_check_prime : DSpec := fun ds S _ => ∃ d, ds = [d] ∧ d.still = true ∧ d.kn = true ∧ isP d = true ∧ S .non
abbrev sp_check_within : DSpec := fun ds S _ => ∃ d a b, ds = [d, .int a, .int b] ∧ d.still = true ∧ d.kn = true ∧ inB a b d = true ∧ S .non
def isCol (p n : Int) : D → Bool
  | .tup xs => (decide ((xs.length : Int) = n)) && (xs.map (inB 0 (p - 1))).all id
  | _ => false
abbrev sp_is_column : DSpec := fun ds S _ => ∃ p n d, ds = [.int p, .int n, d] ∧ d.still = true ∧ d.kn = true ∧ (∀ xs, d = .tup xs → ∀ x ∈ xs, x.kn = true ∧ x.still = true) ∧ S (.bl (isCol p n d))

/-! ### tables -/
abbrev tabN : List Str := ["prime", "wide", "rows", "high"]
abbrev tab (C : Addr) (p w : Int) (rs : List (List Int)) : D := .obj C tabN [.int p, .int w, tII rs, .int rs.length]
structure TabC (K : PySem.W.Frag) (CT C : Addr) : Prop where
  ok : OkC K C tabN
  isT : PySem.W.kitOne K (.ref C) (.ref CT) = some true
/-- rows of a table -/
def Rows (p w : Int) (rs : List (List Int)) : Prop := p ∈ primes ∧ 0 ≤ w ∧ w ≤ 200 ∧ rs.length ≤ 200 ∧ ∀ r ∈ rs, (r.length : Int) = w ∧ ∀ v ∈ r, 0 ≤ v ∧ v < p
abbrev sp_keep (C : Addr) : DSpec := fun ds S _ => ∃ p w rs, ds = [.int p, .int w, tII rs] ∧ S (tab C p w rs)
abbrev sp_Table (C : Addr) : DSpec := fun ds S _ => ∃ p w rs, ds = [.int p, .int w, tII rs] ∧ Rows p w rs ∧ w ≤ 12 ∧ rs.length ≤ 12 ∧ S (tab C p w rs)
theorem prime_b {p : Int} (h : p ∈ primes) : 0 < p ∧ p ≤ 13 := by
  simp [primes] at h
  omega
theorem isP_of {p : Int} (h : p ∈ primes) : isP (.int p) = true := by
  simp [primes] at h
  simp [isP]
  omega
theorem kn_ints (x : List Int) : ∀ xs, tI x = .tup xs → ∀ y ∈ xs, y.kn = true ∧ y.still = true := fun xs e y hy => by
  cases e
  obtain ⟨v, _, rfl⟩ := List.mem_map.mp hy
  exact ⟨rfl, rfl⟩
/-! plain sums of rows -/
def dot (r x : List Int) : Int := ((r.zip x).map fun q => q.1 * q.2).sum
def ledR (p : Int) (rs : List (List Int)) (x : List Int) : List Int := rs.map fun r => dot r x % p
/-- the i-th of each row -/
def colAt (rs : List (List Int)) (j : Nat) : List Int := rs.map fun r => r.getD j 0
def colsR (w : Nat) (rs : List (List Int)) : List (List Int) := (List.range w).map fun j => colAt rs j

abbrev sp_led_on (K : PySem.W.Frag) : DSpec := fun ds S _ => ∃ C p w rs x, ds = [tab C p w rs, tI x] ∧ OkC K C tabN ∧ Rows p w rs ∧ S (tI (ledR p rs x))
abbrev sp_led (K : PySem.W.Frag) : DSpec := fun ds S _ => ∃ C p w rs x, ds = [tab C p w rs, tI x] ∧ OkC K C tabN ∧ Rows p w rs ∧ ((x.length : Int) = w ∧ ∀ v ∈ x, 0 ≤ v ∧ v < p) ∧ S (tI (ledR p rs x))
abbrev sp_columns_of (K : PySem.W.Frag) : DSpec := fun ds S _ => ∃ C p w rs, ds = [tab C p w rs] ∧ OkC K C tabN ∧ Rows p w rs ∧ S (tII (colsR w.toNat rs))
/-- columns of h each -/
abbrev sp_columns_table (CR : Addr) : DSpec := fun ds S _ => ∃ p h cs d, ds = [.int p, .int h, d] ∧ (d = tII cs ∨ d = lT cs) ∧ p ∈ primes ∧ 0 ≤ h ∧ h ≤ 200 ∧ cs.length ≤ 200 ∧ (∀ c ∈ cs, (c.length : Int) = h) ∧ S (tab CR p cs.length (colsR h.toNat cs))
abbrev sp_raw_times (K : PySem.W.Frag) (CR : Addr) : DSpec := fun ds S _ => ∃ C C' p w w' rs rs', ds = [tab C p w rs, tab C' p w' rs'] ∧ OkC K C tabN ∧ OkC K C' tabN ∧ Rows p w rs ∧ Rows p w' rs' ∧ w = rs'.length ∧ S (tab CR p w' (colsR rs.length ((colsR w'.toNat rs').map (ledR p rs))))

def timesR (p : Int) (rs rs' : List (List Int)) (w' : Nat) : List (List Int) := colsR rs.length ((colsR w' rs').map (ledR p rs))
def plusR (p : Int) (rs rs' : List (List Int)) : List (List Int) := (rs.zip rs').map fun q => (q.1.zip q.2).map fun q => (q.1 + q.2) % p
def scaledR (p n : Int) (rs : List (List Int)) : List (List Int) := rs.map fun r => r.map fun v => v * n % p
def unitR (n i : Nat) : List Int := (List.range n).map fun (j : Nat) => if decide ((0 : Int) + j = 0 + i) = true then 1 else 0
def plainR (n : Nat) : List (List Int) := (List.range n).map (unitR n)
def noughtR (h w : Nat) : List (List Int) := (List.range h).map fun _ => zeros w
def cornerR (rs rs' : List (List Int)) (w w' : Nat) : List (List Int) := (rs.map fun r => r ++ zeros w') ++ rs'.map fun r => zeros w ++ r
abbrev sp_times (K : PySem.W.Frag) (CR : Addr) : DSpec := fun ds S _ => ∃ C C' p w w' rs rs', ds = [tab C p w rs, tab C' p w' rs'] ∧ OkC K C tabN ∧ OkC K C' tabN ∧ Rows p w rs ∧ Rows p w' rs' ∧ w = rs'.length ∧ S (tab CR p w' (timesR p rs rs' w'.toNat))
abbrev sp_plus (K : PySem.W.Frag) (CR : Addr) : DSpec := fun ds S _ => ∃ C C' p w rs rs', ds = [tab C p w rs, tab C' p w rs'] ∧ OkC K C tabN ∧ OkC K C' tabN ∧ Rows p w rs ∧ Rows p w rs' ∧ rs.length = rs'.length ∧ S (tab CR p w (plusR p rs rs'))
abbrev sp_scaled (K : PySem.W.Frag) (CR : Addr) : DSpec := fun ds S _ => ∃ C p w rs n, ds = [tab C p w rs, .int n] ∧ OkC K C tabN ∧ Rows p w rs ∧ S (tab CR p w (scaledR p n rs))
abbrev sp_turned (K : PySem.W.Frag) (CR : Addr) : DSpec := fun ds S _ => ∃ C p w rs, ds = [tab C p w rs] ∧ OkC K C tabN ∧ Rows p w rs ∧ S (tab CR p rs.length (colsR w.toNat rs))
abbrev sp_plain (CR : Addr) : DSpec := fun ds S _ => ∃ p n, ds = [.int p, .int n] ∧ p ∈ primes ∧ 0 ≤ n ∧ n ≤ 12 ∧ S (tab CR p n (plainR n.toNat))
abbrev sp_nought (CR : Addr) : DSpec := fun ds S _ => ∃ p h w, ds = [.int p, .int h, .int w] ∧ p ∈ primes ∧ 0 ≤ h ∧ h ≤ 12 ∧ 0 ≤ w ∧ w ≤ 12 ∧ S (tab CR p w (noughtR h.toNat w.toNat))
abbrev sp_corner (K : PySem.W.Frag) (CR : Addr) : DSpec := fun ds S _ => ∃ C C' p w w' rs rs', ds = [tab C p w rs, tab C' p w' rs'] ∧ OkC K C tabN ∧ OkC K C' tabN ∧ Rows p w rs ∧ Rows p w' rs' ∧ S (tab CR p (w + w') (cornerR rs rs' w.toNat w'.toNat))

abbrev sp_eq (K : PySem.W.Frag) (CT : Addr) : DSpec := fun ds S _ => ∃ C C' p w rs p' w' rs', ds = [tab C p w rs, tab C' p' w' rs'] ∧ OkC K C tabN ∧ TabC K CT C' ∧ S (.bl (decide (p = p' ∧ w = w' ∧ rs = rs')))
/-- == of two tables -/
abbrev sp_eq2 (CT CR : Addr) : DSpec := fun ds S _ => ∃ C C' p w rs p' w' rs', ds = [tab C p w rs, tab C' p' w' rs'] ∧ (C = CT ∨ C = CR) ∧ (C' = CT ∨ C' = CR ∧ C = CR) ∧ S (.bl (decide (p = p' ∧ w = w' ∧ rs = rs')))
abbrev sp_l_is (CR : Addr) : DSpec := fun ds S _ => ∃ p w rs e, ds = [tab CR p w rs, .int p, .int w, e] ∧ (e = tII rs ∨ e = lT rs) ∧ Rows p w rs ∧ w ≤ 12 ∧ rs.length ≤ 12 ∧ S (.bl true)
abbrev sp_l_led : DSpec := fun ds S _ => ∃ p w rs x, ds = [tII rs, tI x, .int p] ∧ Rows p w rs ∧ S (tI (ledR p rs x))
def timesL (p : Int) (rs rs' : List (List Int)) (w : Nat) : List (List Int) := rs.map fun r => (List.range w).map fun j => ((List.range rs'.length).map fun k => r.getD k 0 * (rs'.getD k []).getD j 0).sum % p
abbrev sp_l_times : DSpec := fun ds S _ => ∃ p w w' rs rs', ds = [tII rs, tII rs', .int w', .int p] ∧ Rows p w rs ∧ Rows p w' rs' ∧ w = rs'.length ∧ S (tII (timesL p rs rs' w'.toNat))
abbrev sp_l_columns_of : DSpec := fun ds S _ => ∃ p w rs, ds = [tII rs, .int w] ∧ Rows p w rs ∧ S (tII (colsR w.toNat rs))
theorem flat_le {m n : Nat} : ∀ (l : List (List Int)), l.length ≤ m → (∀ r ∈ l, r.length ≤ n) → l.flatten.length ≤ m * n := fun l h1 h2 => by
  have : ∀ l : List (List Int), (∀ r ∈ l, r.length ≤ n) → l.flatten.length ≤ l.length * n := fun l => by
    induction l with
    | nil => simp
    | cons r l ih =>
      intro h
      have := ih fun x hx => h x (List.mem_cons_of_mem _ hx)
      have := h r List.mem_cons_self
      rw [List.flatten_cons, List.length_append, List.length_cons, Nat.succ_mul]
      omega
  exact Nat.le_trans (this l h2) (Nat.mul_le_mul_right n h1)

/-! ### draws -/
abbrev sp_draw : DSpec := fun ds S _ => ∃ m, ds = [.pur, .int m] ∧ 0 < m ∧ m < 1000000 ∧ ∀ v : Int, 0 ≤ v → v < m → S (.int v)
abbrev sp_any : DSpec := fun ds S _ => ∃ xs, ds = [.pur, .lst xs] ∧ 0 < xs.length ∧ xs.length < 1000000 ∧ ∀ x ∈ xs, S x
abbrev sp_size : DSpec := fun ds S _ => ds = [.pur] ∧ ∀ v : Int, 0 ≤ v → v ≤ 12 → S (.int v)
abbrev sp_some_rows : DSpec := fun ds S _ => ∃ p h w, ds = [.pur, .int p, .int h, .int w] ∧ p ∈ primes ∧ 0 ≤ h ∧ h ≤ 12 ∧ 0 ≤ w ∧ w ≤ 12 ∧ ∀ rs, Rows p w rs → (rs.length : Int) = h → S (tII rs)
theorem noL_tI (r : List Int) : (tI r).noL = true := by
  unfold tI D.noL
  exact noLs_map D.int (fun _ => by unfold D.noL; rfl) r
end Tb

set_option maxRecDepth 100000
set_option maxHeartbeats 4000000
/-! # Plain data; dict comprehensions with numbers as keys, as loops; ascending lists -/
namespace Dl
open PySem PySem.Spec PyProof.Rows L2
mutual
/-- data without objects, without lists of one's own -/
def D.pl : D → Bool
  | .non => true
  | .bl _ => true
  | .int _ => true
  | .str _ => true
  | .tup xs => decide (xs.length ≤ 1000000) && pls xs
  | .lst xs => decide (xs.length ≤ 1000000) && pls xs
  | .dck _ _ => true
  | _ => false
def pls : List D → Bool
  | [] => true
  | d :: ds => d.pl && pls ds
end
theorem pls_iff : ∀ {xs : List D}, pls xs = true ↔ ∀ x ∈ xs, x.pl = true
  | [] => by simp [pls]
  | d :: ds => by simp [pls, pls_iff (xs := ds)]
theorem pl_tup {xs : List D} : (D.tup xs).pl = true ↔ xs.length ≤ 1000000 ∧ ∀ x ∈ xs, x.pl = true := by
  show (decide (xs.length ≤ 1000000) && pls xs) = true ↔ _
  rw [Bool.and_eq_true, decide_eq_true_iff, pls_iff]
theorem pl_lst {xs : List D} : (D.lst xs).pl = true ↔ xs.length ≤ 1000000 ∧ ∀ x ∈ xs, x.pl = true := by
  show (decide (xs.length ≤ 1000000) && pls xs) = true ↔ _
  rw [Bool.and_eq_true, decide_eq_true_iff, pls_iff]
theorem pl_st {d : D} (h : d.pl = true) : d.still = true := by cases d <;> first | rfl | cases h
theorem pl_k {d : D} (h : d.pl = true) : d.kn = true := by cases d <;> first | rfl | cases h
theorem pl_ints (ns : List Int) : ∀ x ∈ ns.map D.int, x.pl = true := fun x h => by
  obtain ⟨n, _, rfl⟩ := List.mem_map.mp h
  rfl
theorem any_int (ns : List Int) (k : Int) : ((ns.map D.int).any fun e => e.eqv (.int k)) = decide (k ∈ ns) := by
  rw [Bool.eq_iff_iff, List.any_eq_true, decide_eq_true_iff]
  constructor
  · rintro ⟨d, h1, h2⟩
    obtain ⟨n, hn, rfl⟩ := List.mem_map.mp h1
    have : n = k := by simpa [D.eqv] using h2
    exact this ▸ hn
  · intro h
    exact ⟨.int k, List.mem_map.mpr ⟨k, h, rfl⟩, by simp [D.eqv]⟩
theorem flat_ints (ns : List Int) : (ns.map D.int).all D.flat = true := by
  rw [List.all_eq_true]
  intro d h
  obtain ⟨n, _, rfl⟩ := List.mem_map.mp h
  rfl
/-! ### keys put one by one -/
@[elab_as_elim] theorem snocRec {α : Type} {P : List α → Prop} (nil : P []) (append_singleton : ∀ xs x, P xs → P (xs ++ [x])) (xs : List α) : P xs := by
  have h : ∀ ys : List α, P ys.reverse := fun ys => by
    induction ys with
    | nil => exact nil
    | cons y r ih => rw [List.reverse_cons]; exact append_singleton _ _ ih
  have := h xs.reverse
  rwa [List.reverse_reverse] at this
def keysI (ns : List Int) : List Key := ns.foldl (fun ks n => putKs ks (.inl n)) []
theorem keysI_snoc (ns : List Int) (n : Int) : keysI (ns ++ [n]) = putKs (keysI ns) (.inl n) := by simp [keysI]
theorem mem_keysI (ns : List Int) : ∀ k : Key, k ∈ keysI ns ↔ ∃ n ∈ ns, k = .inl n := by
  induction ns using snocRec with
  | nil => intro k; simp [keysI]
  | append_singleton ns n ih =>
    intro k
    rw [keysI_snoc, mem_putKs, ih]
    constructor
    · rintro (h | ⟨m, h1, h2⟩)
      · exact ⟨n, by simp, h⟩
      · exact ⟨m, by simp [h1], h2⟩
    · rintro ⟨m, h1, h2⟩
      rcases List.mem_append.mp h1 with h1 | h1
      · exact .inr ⟨m, h1, h2⟩
      · rw [List.mem_singleton.mp h1] at h2
        exact .inl h2
theorem keysI_nodup (ns : List Int) : (keysI ns).Nodup := by
  induction ns using snocRec with
  | nil => exact List.nodup_nil
  | append_singleton ns n ih =>
    rw [keysI_snoc]
    exact putKs_nodup ih
theorem keysI_len (ns : List Int) : (keysI ns).length ≤ ns.length ∧ ((keysI ns).length = ns.length ↔ ns.Nodup) := by
  induction ns using snocRec with
  | nil => simp [keysI]
  | append_singleton ns n ih =>
    rw [keysI_snoc]
    unfold putKs
    have nd : (ns ++ [n]).Nodup ↔ ns.Nodup ∧ n ∉ ns := by
      rw [List.nodup_append]
      constructor
      · rintro ⟨h1, _, h3⟩
        exact ⟨h1, fun h => h3 n h n (by simp) rfl⟩
      · rintro ⟨h1, h2⟩
        exact ⟨h1, by simp, fun a ha b hb e => h2 (by rw [List.mem_singleton.mp hb] at e; exact e ▸ ha)⟩
    split
    · rename_i h
      obtain ⟨m, h1, h2⟩ := (mem_keysI ns _).mp h
      have e : n = m := Sum.inl.inj h2
      subst e
      rw [nd]
      simp only [List.length_append, List.length_singleton]
      refine ⟨by omega, ⟨fun q => by omega, fun q => absurd h1 q.2⟩⟩
    · rename_i h
      have hn : n ∉ ns := fun q => h ((mem_keysI ns _).mpr ⟨n, q, rfl⟩)
      rw [nd]
      simp only [List.length_append, List.length_singleton]
      refine ⟨by omega, ⟨fun q => ⟨ih.2.mp (by omega), hn⟩, fun q => by have := ih.2.mpr q.1; omega⟩⟩
/-- each turn gives a number as the key and a value -/
theorem Rd.tdck {α : Type} {tg : RdG} {k1 elt : RdE} {δ : List (Option D)} {S : List Key → List D → Prop} {ds : List D} (k : α → Int) (v : α → D) (enc : α → D) (xs : List α) (hds : ds = xs.map enc) (hst : ∀ x ∈ xs, (v x).still = true)
    (h : ∀ x, x ∈ xs → ∀ (S' : Key → D → Prop), S' (.inl (k x)) (v x) → tg δ (enc x) fun δ2 => k1 noX δ2 fun x1 => ∃ kk, keyD x1 = some kk ∧ elt noX δ2 (S' kk))
    (hS : ∀ ys : List D, ys.length = (keysI (xs.map k)).length → (∀ n : Int, dkGet (keysI (xs.map k)) ys (.inl n) = (xs.reverse.find? fun x => decide (k x = n)).map v) → S (keysI (xs.map k)) ys) : Rd.turnsK tg k1 elt δ S ds := by
  subst hds
  unfold Rd.turnsK
  refine ⟨fun i ks ys => ks = keysI ((xs.take i).map k) ∧ ∀ n : Int, dkGet ks ys (.inl n) = ((xs.take i).reverse.find? fun x => decide (k x = n)).map v, ⟨rfl, fun n => rfl⟩, fun i d ks ys hd hl hlen p => ?_, fun ks ys hl hlen p => ?_⟩
  · rw [List.getElem?_map] at hd
    cases q : xs[i]? with
    | none => rw [q] at hd; cases hd
    | some x =>
      rw [q] at hd
      cases hd
      obtain ⟨rfl, hv⟩ := p
      have hm := List.mem_of_getElem? q
      have et : xs.take (i + 1) = xs.take i ++ [x] := by rw [List.take_add_one, q]; rfl
      refine h x hm (fun kk y => y.still = true ∧ putKs (keysI ((xs.take i).map k)) kk = keysI ((xs.take (i + 1)).map k) ∧ ∀ n : Int, dkGet (putKs (keysI ((xs.take i).map k)) kk) (Dl.putDs (keysI ((xs.take i).map k)) ys kk y) (.inl n) = ((xs.take (i + 1)).reverse.find? fun x => decide (k x = n)).map v) ⟨hst x hm, ?_, fun n => ?_⟩
      · rw [et, List.map_append, List.map_singleton, keysI_snoc]
      · rw [dkGet_put hlen, hv, et, List.reverse_append]
        simp only [List.reverse_singleton, List.singleton_append, List.find?_cons]
        by_cases e : k x = n
        · simp [e]
        · simp [e]
  · obtain ⟨rfl, hv⟩ := p
    rw [List.length_map] at hl hlen hv ⊢
    rw [List.take_length] at hl hlen hv ⊢
    exact hS ys hlen.symm hv
/-! ### ascending -/
theorem asc_range (ns : List Int) : (((List.range (ns.length - 1)).map fun k => decide (ns.getD k 0 < ns.getD (k + 1) 0)).all id) = decide (ns.Pairwise (· < ·)) := by
  rw [Bool.eq_iff_iff, decide_eq_true_iff]
  simp only [List.all_map, List.all_eq_true, List.mem_range, Function.comp, id, decide_eq_true_iff]
  induction ns with
  | nil => simp
  | cons a r ih =>
    cases r with
    | nil => simp
    | cons b r =>
      rw [List.pairwise_cons, ← ih]
      constructor
      · intro h
        have h' : ∀ k < (b :: r).length - 1, (b :: r).getD k 0 < (b :: r).getD (k + 1) 0 := fun k hk => by
          have := h (k + 1) (by simp at hk ⊢; omega)
          simpa using this
        have pw := ih.mp h'
        have h0 : a < b := by simpa using h 0 (by simp)
        refine ⟨fun x hx => ?_, h'⟩
        rcases List.mem_cons.mp hx with e | hx
        · rw [e]; exact h0
        · have := (List.pairwise_cons.mp pw).1 x hx
          omega
      · rintro ⟨h1, h2⟩ k hk
        cases k with
        | zero => simpa using h1 b (by simp)
        | succ k =>
          have := h2 k (by simp at hk ⊢; omega)
          simpa using this
end Dl

set_option maxRecDepth 100000
set_option maxHeartbeats 4000000
namespace K46
open PySem PySem.Spec PyProof.Rows L2 Dl Tb
local macro_rules | `(tactic| wtm_at "wh") => `(tactic| conv => whnf)
local macro_rules | `(tactic| wtm_at "ln") => `(tactic| (simp only [List.length_map, List.length_append, List.length_replicate, List.length_range, List.length_take, List.length_cons, List.length_nil, List.length_zip, sizeLine_eq]; omega))
local macro_rules | `(tactic| wtm_at "sd") => `(tactic| first | (with_reducible assumption) | (with_reducible rfl) | exact (rfl : (_ : Bool) = _) | omega | exact CMul.l (by omega) (by omega) | exact CMul.r (by omega) (by omega) | exact And.intro (by omega) (by omega) | exact Or.inl rfl | exact Or.inr rfl | exact Or.inr (And.intro rfl rfl) | exact And.intro rfl rfl | exact And.intro (fit_tII _ _) (fit_tII _ _) | exact And.intro (fit_tI _ _) (fit_tI _ _) | wtm_at "ln" | assumption)
local macro_rules | `(tactic| wtm_at "s1") => `(tactic| first
  | refine And.intro (show OkC _ _ _ by assumption) (And.intro rfl (Exists.intro _ (And.intro rfl ?_)))
  | (with_reducible first | refine Exists.intro _ (And.intro rfl ?_) | refine ⟨_, _, rfl, ?_⟩ | refine ⟨_, _, _, rfl, ?_⟩ | refine ⟨_, _, _, _, rfl, ?_⟩ | refine ⟨_, _, _, _, _, rfl, ?_⟩ | refine ⟨_, _, _, _, _, _, rfl, ?_⟩ | refine ⟨_, _, _, _, _, _, _, rfl, ?_⟩ | refine ⟨_, _, _, _, _, _, _, _, rfl, ?_⟩ | refine ⟨_, _, _, _, _, _, _, _, _, rfl, ?_⟩)
  | refine And.intro (by wtm_at "sd") ?_
  | (refine brB_t (by with_reducible assumption) ?_) | (refine brB_f (by with_reducible assumption) ?_) | (refine brB_xt (by with_reducible assumption) ?_) | (refine brB_xf (by with_reducible assumption) ?_)
  | (refine brB_pt (by first | (with_reducible assumption) | omega) ?_) | (refine brB_pf (by first | (with_reducible assumption) | omega) ?_) | (refine brB_nt (by first | (with_reducible assumption) | omega) ?_) | (refine brB_nf (by first | (with_reducible assumption) | omega) ?_))
local macro_rules | `(tactic| wtm_at "w") => `(tactic| (wtm_at "wh"; repeat (wtm_at "s1"; wtm_at "wh")))
def r_is_integer (K : PySem.W.Frag)    : RdS := (Rd.ret (Rd.and (Rd.isTyA K "int" Rd.pInt (Rd.v 0)) (Rd.not (Rd.isTyA K "bool" Rd.pBool (Rd.v 0)))))
def r_is_within   (s_is_integer : DSpec) : RdS := (Rd.ret (Rd.and (Rd.call s_is_integer (Rd.cons (Rd.v 0) Rd.nil)) (Rd.chain Op.le Op.le (Rd.v 1) (Rd.v 0) (Rd.v 2))))
def r_is_number   (s_is_within : DSpec) : RdS := (Rd.ret (Rd.call s_is_within (Rd.cons (Rd.v 0) (Rd.cons (Rd.g (.int 0)) (Rd.cons (Rd.v 1) Rd.nil)))))
def r_is_lot (K : PySem.W.Frag)   (s_is_number : DSpec) : RdS := (Rd.sq (Rd.cond (Rd.tor (Rd.tnot (Rd.tval (Rd.isTyA K "tuple" Rd.pTup (Rd.v 0)))) (Rd.tnot (Rd.tval (Rd.blt Bi.all (Rd.cons (Rd.lc [3] (Rd.seqJ (Rd.v 0)) (Rd.tv 3) Rd.noT (Rd.call s_is_number (Rd.cons (Rd.v 3) (Rd.cons (Rd.bin Op.sub (Rd.v 1) (Rd.g (.int 1))) Rd.nil)))) Rd.nil))))) (Rd.ret (Rd.g (.bl false))) Rd.skip) (Rd.ret (Rd.blt Bi.all (Rd.cons (Rd.lc [2] (Rd.rng2 (Rd.g (.int 1)) (Rd.blt Bi.len (Rd.cons (Rd.v 0) Rd.nil))) (Rd.tv 2) Rd.noT (Rd.bin Op.lt (Rd.ix (Rd.v 0) (Rd.bin Op.sub (Rd.v 2) (Rd.g (.int 1)))) (Rd.ix (Rd.v 0) (Rd.v 2)))) Rd.nil))))
def r_check_within  (EN : Addr) (s_is_within : DSpec) : RdS := (Rd.cond (Rd.tnot (Rd.tval (Rd.call s_is_within (Rd.cons (Rd.v 0) (Rd.cons (Rd.v 1) (Rd.cons (Rd.v 2) Rd.nil)))))) (Rd.raise EN) Rd.skip)
def r_is_bar (K : PySem.W.Frag)   (s_is_within : DSpec) : RdS := (Rd.sq (Rd.cond (Rd.tor (Rd.tnot (Rd.tval (Rd.isTyA K "tuple" Rd.pTup (Rd.v 0)))) (Rd.tor (Rd.tcmp Op.ne (Rd.blt Bi.len (Rd.cons (Rd.v 0) Rd.nil)) (Rd.g (.int 2))) (Rd.tnot (Rd.tval (Rd.call s_is_within (Rd.cons (Rd.ix (Rd.v 0) (Rd.g (.int 0))) (Rd.cons (Rd.un Op.neg (Rd.g (.int 1000))) (Rd.cons (Rd.g (.int 1000)) Rd.nil)))))))) (Rd.ret (Rd.g (.bl false))) Rd.skip) (Rd.ret (Rd.or (Rd.isN (Rd.ix (Rd.v 0) (Rd.g (.int 1)))) (Rd.call s_is_within (Rd.cons (Rd.ix (Rd.v 0) (Rd.g (.int 1))) (Rd.cons (Rd.bin Op.add (Rd.ix (Rd.v 0) (Rd.g (.int 0))) (Rd.g (.int 1))) (Rd.cons (Rd.g (.int 1000)) Rd.nil)))))))
def r_check_bars (K : PySem.W.Frag)  (EB : Addr) (s_is_bar : DSpec) : RdS := (Rd.cond (Rd.tor (Rd.tnot (Rd.tval (Rd.isTT K "list" "tuple" (Rd.v 0)))) (Rd.tor (Rd.tcmp Op.gt (Rd.blt Bi.len (Rd.cons (Rd.v 0) Rd.nil)) (Rd.g (.int 20))) (Rd.tnot (Rd.tval (Rd.blt Bi.all (Rd.cons (Rd.lc [1] (Rd.seqJ (Rd.v 0)) (Rd.tv 1) Rd.noT (Rd.call s_is_bar (Rd.cons (Rd.v 1) Rd.nil))) Rd.nil)))))) (Rd.raise EB) Rd.skip)
def r_do_fit    : RdS := (Rd.sq (Rd.cond (Rd.tor (Rd.tcmp Op.gt (Rd.blt Bi.abs (Rd.cons (Rd.bin Op.sub (Rd.ix (Rd.v 0) (Rd.g (.int 0))) (Rd.ix (Rd.v 1) (Rd.g (.int 0)))) Rd.nil)) (Rd.v 2)) (Rd.tcmp Op.ne (Rd.isN (Rd.ix (Rd.v 0) (Rd.g (.int 1)))) (Rd.isN (Rd.ix (Rd.v 1) (Rd.g (.int 1)))))) (Rd.ret (Rd.g (.bl false))) Rd.skip) (Rd.ret (Rd.or (Rd.isN (Rd.ix (Rd.v 0) (Rd.g (.int 1)))) (Rd.bin Op.le (Rd.blt Bi.abs (Rd.cons (Rd.bin Op.sub (Rd.ix (Rd.v 0) (Rd.g (.int 1))) (Rd.ix (Rd.v 1) (Rd.g (.int 1)))) Rd.nil)) (Rd.v 2)))))
def r_is_long    : RdS := (Rd.ret (Rd.or (Rd.isN (Rd.ix (Rd.v 0) (Rd.g (.int 1)))) (Rd.bin Op.gt (Rd.bin Op.sub (Rd.ix (Rd.v 0) (Rd.g (.int 1))) (Rd.ix (Rd.v 0) (Rd.g (.int 0)))) (Rd.bin Op.mul (Rd.g (.int 2)) (Rd.v 1)))))
def r_check_asked   (s_check_bars : DSpec) (s_check_within : DSpec) : RdS := (Rd.sq (Rd.ex (Rd.call s_check_bars (Rd.cons (Rd.v 0) Rd.nil))) (Rd.sq (Rd.ex (Rd.call s_check_bars (Rd.cons (Rd.v 1) Rd.nil))) (Rd.ex (Rd.call s_check_within (Rd.cons (Rd.v 2) (Rd.cons (Rd.g (.int 0)) (Rd.cons (Rd.g (.int 2000)) Rd.nil)))))))
def r_is_number_pair (K : PySem.W.Frag)   (s_is_number : DSpec) : RdS := (Rd.sq (Rd.cond (Rd.tor (Rd.tnot (Rd.tval (Rd.isTyA K "tuple" Rd.pTup (Rd.v 0)))) (Rd.tcmp Op.ne (Rd.blt Bi.len (Rd.cons (Rd.v 0) Rd.nil)) (Rd.g (.int 2)))) (Rd.ret (Rd.g (.bl false))) Rd.skip) (Rd.ret (Rd.and (Rd.call s_is_number (Rd.cons (Rd.ix (Rd.v 0) (Rd.g (.int 0))) (Rd.cons (Rd.bin Op.sub (Rd.v 1) (Rd.g (.int 1))) Rd.nil))) (Rd.call s_is_number (Rd.cons (Rd.ix (Rd.v 0) (Rd.g (.int 1))) (Rd.cons (Rd.bin Op.sub (Rd.v 2) (Rd.g (.int 1))) Rd.nil))))))
def r_is_pairing (K : PySem.W.Frag)   (s_check_asked : DSpec) (s_is_number_pair : DSpec) (s_do_fit : DSpec) (s_is_long : DSpec) : RdS := (Rd.sq (Rd.ex (Rd.call s_check_asked (Rd.cons (Rd.v 0) (Rd.cons (Rd.v 1) (Rd.cons (Rd.v 2) Rd.nil))))) (Rd.sq (Rd.cond (Rd.tor (Rd.tnot (Rd.tval (Rd.isTyA K "tuple" Rd.pTup (Rd.v 3)))) (Rd.tnot (Rd.tval (Rd.blt Bi.all (Rd.cons (Rd.lc [10] (Rd.seqJ (Rd.v 3)) (Rd.tv 10) Rd.noT (Rd.call s_is_number_pair (Rd.cons (Rd.v 10) (Rd.cons (Rd.blt Bi.len (Rd.cons (Rd.v 0) Rd.nil)) (Rd.cons (Rd.blt Bi.len (Rd.cons (Rd.v 1) Rd.nil)) Rd.nil))))) Rd.nil))))) (Rd.ret (Rd.g (.bl false))) Rd.skip) (Rd.sq (Rd.cond (Rd.tnot (Rd.tval (Rd.blt Bi.all (Rd.cons (Rd.lc [9] (Rd.rng2 (Rd.g (.int 1)) (Rd.blt Bi.len (Rd.cons (Rd.v 3) Rd.nil))) (Rd.tv 9) Rd.noT (Rd.bin Op.lt (Rd.ix (Rd.ix (Rd.v 3) (Rd.bin Op.sub (Rd.v 9) (Rd.g (.int 1)))) (Rd.g (.int 0))) (Rd.ix (Rd.ix (Rd.v 3) (Rd.v 9)) (Rd.g (.int 0))))) Rd.nil)))) (Rd.ret (Rd.g (.bl false))) Rd.skip) (Rd.sq (Rd.set 4 (Rd.dck [6, 7] (Rd.seqJ (Rd.v 3)) (Rd.tt 2 (Rd.gC (Rd.tv 6) (Rd.gC (Rd.tv 7) Rd.gN))) (Rd.v 7) (Rd.v 6))) (Rd.sq (Rd.cond (Rd.tor (Rd.tcmp Op.lt (Rd.blt Bi.lenA (Rd.cons (Rd.v 4) Rd.nil)) (Rd.blt Bi.len (Rd.cons (Rd.v 3) Rd.nil))) (Rd.tnot (Rd.tval (Rd.blt Bi.all (Rd.cons (Rd.lc [6, 7] (Rd.seqJ (Rd.v 3)) (Rd.tt 2 (Rd.gC (Rd.tv 6) (Rd.gC (Rd.tv 7) Rd.gN))) Rd.noT (Rd.call s_do_fit (Rd.cons (Rd.ix (Rd.v 0) (Rd.v 6)) (Rd.cons (Rd.ix (Rd.v 1) (Rd.v 7)) (Rd.cons (Rd.v 2) Rd.nil))))) Rd.nil))))) (Rd.ret (Rd.g (.bl false))) Rd.skip) (Rd.sq (Rd.set 5 (Rd.lc [6, 7] (Rd.seqJ (Rd.v 3)) (Rd.tt 2 (Rd.gC (Rd.tv 6) (Rd.gC (Rd.tv 7) Rd.gN))) Rd.noT (Rd.v 6))) (Rd.sq (Rd.cond (Rd.tval (Rd.blt Bi.any (Rd.cons (Rd.lc [6, 8] (Rd.enum (Rd.v 0)) (Rd.tt 2 (Rd.gC (Rd.tv 6) (Rd.gC (Rd.tv 8) Rd.gN))) Rd.noT (Rd.and (Rd.call s_is_long (Rd.cons (Rd.v 8) (Rd.cons (Rd.v 2) Rd.nil))) (Rd.bin Op.nin (Rd.v 6) (Rd.v 5)))) Rd.nil))) (Rd.ret (Rd.g (.bl false))) Rd.skip) (Rd.ret (Rd.not (Rd.blt Bi.any (Rd.cons (Rd.lc [7, 8] (Rd.enum (Rd.v 1)) (Rd.tt 2 (Rd.gC (Rd.tv 7) (Rd.gC (Rd.tv 8) Rd.gN))) Rd.noT (Rd.and (Rd.call s_is_long (Rd.cons (Rd.v 8) (Rd.cons (Rd.v 2) Rd.nil))) (Rd.bin Op.ninK (Rd.v 7) (Rd.v 4)))) Rd.nil)))))))))))
def r_is_ban (K : PySem.W.Frag)   (s_check_asked : DSpec) (s_is_integer : DSpec) (s_is_lot : DSpec) (s_is_long : DSpec) (s_do_fit : DSpec) : RdS := (Rd.sq (Rd.ex (Rd.call s_check_asked (Rd.cons (Rd.v 0) (Rd.cons (Rd.v 1) (Rd.cons (Rd.v 2) Rd.nil))))) (Rd.sq (Rd.cond (Rd.tor (Rd.tnot (Rd.tval (Rd.isTyA K "tuple" Rd.pTup (Rd.v 3)))) (Rd.tor (Rd.tcmp Op.ne (Rd.blt Bi.len (Rd.cons (Rd.v 3) Rd.nil)) (Rd.g (.int 2))) (Rd.tor (Rd.tnot (Rd.tval (Rd.call s_is_integer (Rd.cons (Rd.ix (Rd.v 3) (Rd.g (.int 0))) Rd.nil)))) (Rd.tcmp Op.nin (Rd.ix (Rd.v 3) (Rd.g (.int 0))) (Rd.tup (Rd.cons (Rd.g (.int 0)) (Rd.cons (Rd.g (.int 1)) Rd.nil))))))) (Rd.ret (Rd.g (.bl false))) Rd.skip) (Rd.sq (Rd.unp (Rd.ite (Rd.tcmp Op.eq (Rd.ix (Rd.v 3) (Rd.g (.int 0))) (Rd.g (.int 0))) (Rd.tup (Rd.cons (Rd.v 0) (Rd.cons (Rd.v 1) Rd.nil))) (Rd.tup (Rd.cons (Rd.v 1) (Rd.cons (Rd.v 0) Rd.nil)))) (Rd.tt 2 (Rd.gC (Rd.tv 4) (Rd.gC (Rd.tv 5) Rd.gN)))) (Rd.sq (Rd.cond (Rd.tor (Rd.tnot (Rd.tval (Rd.call s_is_lot (Rd.cons (Rd.ix (Rd.v 3) (Rd.g (.int 1))) (Rd.cons (Rd.blt Bi.len (Rd.cons (Rd.v 4) Rd.nil)) Rd.nil))))) (Rd.tnot (Rd.tval (Rd.blt Bi.all (Rd.cons (Rd.lc [7] (Rd.seqJ (Rd.ix (Rd.v 3) (Rd.g (.int 1)))) (Rd.tv 7) Rd.noT (Rd.call s_is_long (Rd.cons (Rd.ix (Rd.v 4) (Rd.v 7)) (Rd.cons (Rd.v 2) Rd.nil)))) Rd.nil))))) (Rd.ret (Rd.g (.bl false))) Rd.skip) (Rd.ret (Rd.bin Op.lt (Rd.blt Bi.len (Rd.cons (Rd.lc [6] (Rd.seqJ (Rd.v 5)) (Rd.tv 6) (Rd.tval (Rd.blt Bi.any (Rd.cons (Rd.lc [7] (Rd.seqJ (Rd.ix (Rd.v 3) (Rd.g (.int 1)))) (Rd.tv 7) Rd.noT (Rd.call s_do_fit (Rd.cons (Rd.ix (Rd.v 4) (Rd.v 7)) (Rd.cons (Rd.v 6) (Rd.cons (Rd.v 2) Rd.nil))))) Rd.nil))) (Rd.v 6)) Rd.nil)) (Rd.blt Bi.len (Rd.cons (Rd.ix (Rd.v 3) (Rd.g (.int 1))) Rd.nil))))))))
def r_l_some   (s_l_pick : DSpec) : RdS := (Rd.ret (Rd.ix (Rd.v 1) (Rd.call s_l_pick (Rd.cons (Rd.v 0) (Rd.cons (Rd.blt Bi.len (Rd.cons (Rd.v 1) Rd.nil)) Rd.nil)))))
def r_l_fits    : RdS := (Rd.sq (Rd.cond (Rd.tcmp Op.gt (Rd.blt Bi.abs (Rd.cons (Rd.bin Op.sub (Rd.ix (Rd.v 0) (Rd.g (.int 0))) (Rd.ix (Rd.v 1) (Rd.g (.int 0)))) Rd.nil)) (Rd.v 2)) (Rd.ret (Rd.g (.bl false))) Rd.skip) (Rd.sq (Rd.cond (Rd.tor (Rd.tisN (Rd.ix (Rd.v 0) (Rd.g (.int 1)))) (Rd.tisN (Rd.ix (Rd.v 1) (Rd.g (.int 1))))) (Rd.ret (Rd.and (Rd.isN (Rd.ix (Rd.v 0) (Rd.g (.int 1)))) (Rd.isN (Rd.ix (Rd.v 1) (Rd.g (.int 1)))))) Rd.skip) (Rd.ret (Rd.bin Op.le (Rd.blt Bi.abs (Rd.cons (Rd.bin Op.sub (Rd.ix (Rd.v 0) (Rd.g (.int 1))) (Rd.ix (Rd.v 1) (Rd.g (.int 1)))) Rd.nil)) (Rd.v 2)))))
def r_l_is_long    : RdS := (Rd.ret (Rd.or (Rd.isN (Rd.ix (Rd.v 0) (Rd.g (.int 1)))) (Rd.bin Op.gt (Rd.bin Op.sub (Rd.ix (Rd.v 0) (Rd.g (.int 1))) (Rd.ix (Rd.v 0) (Rd.g (.int 0)))) (Rd.bin Op.mul (Rd.g (.int 2)) (Rd.v 1)))))
def r_l_bar   (s_l_pick : DSpec) (s_l_some : DSpec) : RdS := (Rd.sq (Rd.set 2 (Rd.bin Op.sub (Rd.call s_l_pick (Rd.cons (Rd.v 0) (Rd.cons (Rd.bin Op.add (Rd.bin Op.mul (Rd.g (.int 2)) (Rd.v 1)) (Rd.g (.int 1))) Rd.nil))) (Rd.v 1))) (Rd.sq (Rd.cond (Rd.tor (Rd.tcmp Op.eq (Rd.call s_l_pick (Rd.cons (Rd.v 0) (Rd.cons (Rd.g (.int 4)) Rd.nil))) (Rd.g (.int 0))) (Rd.tcmp Op.eq (Rd.v 2) (Rd.v 1))) (Rd.ret (Rd.tup (Rd.cons (Rd.blt Bi.min (Rd.cons (Rd.v 2) (Rd.cons (Rd.g (.int 999)) Rd.nil))) (Rd.cons (Rd.g .non) Rd.nil)))) Rd.skip) (Rd.ret (Rd.tup (Rd.cons (Rd.v 2) (Rd.cons (Rd.bin Op.add (Rd.bin Op.add (Rd.v 2) (Rd.g (.int 1))) (Rd.call s_l_pick (Rd.cons (Rd.v 0) (Rd.cons (Rd.blt Bi.min (Rd.cons (Rd.bin Op.sub (Rd.v 1) (Rd.v 2)) (Rd.cons (Rd.bin Op.add (Rd.g (.int 1)) (Rd.call s_l_some (Rd.cons (Rd.v 0) (Rd.cons (Rd.lst (Rd.cons (Rd.g (.int 2)) (Rd.cons (Rd.g (.int 6)) (Rd.cons (Rd.bin Op.mul (Rd.g (.int 2)) (Rd.v 1)) Rd.nil)))) Rd.nil)))) Rd.nil))) Rd.nil)))) Rd.nil))))))
def r_l_moved   (s_l_pick : DSpec) : RdS := (Rd.sq (Rd.set 3 (Rd.blt Bi.max (Rd.cons (Rd.un Op.neg (Rd.v 2)) (Rd.cons (Rd.blt Bi.min (Rd.cons (Rd.bin Op.sub (Rd.v 2) (Rd.g (.int 1))) (Rd.cons (Rd.bin Op.sub (Rd.bin Op.add (Rd.ix (Rd.v 1) (Rd.g (.int 0))) (Rd.call s_l_pick (Rd.cons (Rd.v 0) (Rd.cons (Rd.g (.int 5)) Rd.nil)))) (Rd.g (.int 2))) Rd.nil))) Rd.nil)))) (Rd.sq (Rd.cond (Rd.tisN (Rd.ix (Rd.v 1) (Rd.g (.int 1)))) (Rd.ret (Rd.tup (Rd.cons (Rd.v 3) (Rd.cons (Rd.g .non) Rd.nil)))) Rd.skip) (Rd.ret (Rd.tup (Rd.cons (Rd.v 3) (Rd.cons (Rd.blt Bi.max (Rd.cons (Rd.bin Op.add (Rd.v 3) (Rd.g (.int 1))) (Rd.cons (Rd.blt Bi.min (Rd.cons (Rd.v 2) (Rd.cons (Rd.bin Op.sub (Rd.bin Op.add (Rd.ix (Rd.v 1) (Rd.g (.int 1))) (Rd.call s_l_pick (Rd.cons (Rd.v 0) (Rd.cons (Rd.g (.int 5)) Rd.nil)))) (Rd.g (.int 2))) Rd.nil))) Rd.nil))) Rd.nil))))))
def r_l_lists   (s_l_pick : DSpec) (s_l_bar : DSpec) (s_l_moved : DSpec) : RdS := (Rd.sq (Rd.setL 3 (Rd.lcF [6] (Rd.rng1 (Rd.call s_l_pick (Rd.cons (Rd.v 0) (Rd.cons (Rd.bin Op.add (Rd.v 2) (Rd.g (.int 1))) Rd.nil)))) (Rd.tv 6) Rd.noT (Rd.call s_l_bar (Rd.cons (Rd.v 0) (Rd.cons (Rd.v 1) Rd.nil))))) (Rd.sq (Rd.setF 4 (Rd.dsp Rd.nil)) (Rd.sq (Rd.loop (Rd.seq (Rd.v 3)) (Rd.tv 5) (Rd.cond (Rd.tcmp Op.gt (Rd.call s_l_pick (Rd.cons (Rd.v 0) (Rd.cons (Rd.g (.int 6)) Rd.nil))) (Rd.g (.int 0))) (Rd.ins 4 (Rd.call s_l_pick (Rd.cons (Rd.v 0) (Rd.cons (Rd.bin Op.add (Rd.blt Bi.len (Rd.cons (Rd.v 4) Rd.nil)) (Rd.g (.int 1))) Rd.nil))) (Rd.call s_l_moved (Rd.cons (Rd.v 0) (Rd.cons (Rd.v 5) (Rd.cons (Rd.v 1) Rd.nil))))) Rd.skip)) (Rd.sq (Rd.whil (Rd.tand (Rd.tcmp Op.lt (Rd.blt Bi.len (Rd.cons (Rd.v 4) Rd.nil)) (Rd.v 2)) (Rd.tcmp Op.eq (Rd.call s_l_pick (Rd.cons (Rd.v 0) (Rd.cons (Rd.g (.int 3)) Rd.nil))) (Rd.g (.int 0)))) (Rd.app 4 (Rd.call s_l_bar (Rd.cons (Rd.v 0) (Rd.cons (Rd.v 1) Rd.nil))))) (Rd.ret (Rd.tup (Rd.cons (Rd.v 3) (Rd.cons (Rd.v 4) Rd.nil))))))))
def r_l_is_number (K : PySem.W.Frag)    : RdS := (Rd.ret (Rd.and (Rd.isTyA K "int" Rd.pInt (Rd.v 0)) (Rd.and (Rd.not (Rd.isTyA K "bool" Rd.pBool (Rd.v 0))) (Rd.chain Op.le Op.lt (Rd.g (.int 0)) (Rd.v 0) (Rd.v 1)))))
def r_l_is_pairing (K : PySem.W.Frag)   (s_l_is_number : DSpec) (s_l_fits : DSpec) (s_l_is_long : DSpec) : RdS := (Rd.sq (Rd.cond (Rd.tnot (Rd.tval (Rd.isTyA K "tuple" Rd.pTup (Rd.v 3)))) (Rd.ret (Rd.g (.bl false))) Rd.skip) (Rd.sq (Rd.par2EF 4 5 (Rd.un Op.neg (Rd.g (.int 1))) (Rd.dsp Rd.nil)) (Rd.sq (Rd.loop (Rd.seq (Rd.v 3)) (Rd.tv 6) (Rd.sq (Rd.cond (Rd.tor (Rd.tnot (Rd.tval (Rd.isTyA K "tuple" Rd.pTup (Rd.v 6)))) (Rd.tor (Rd.tcmp Op.ne (Rd.blt Bi.len (Rd.cons (Rd.v 6) Rd.nil)) (Rd.g (.int 2))) (Rd.tnot (Rd.tval (Rd.call s_l_is_number (Rd.cons (Rd.ix (Rd.v 6) (Rd.g (.int 0))) (Rd.cons (Rd.blt Bi.len (Rd.cons (Rd.v 0) Rd.nil)) Rd.nil))))))) (Rd.ret (Rd.g (.bl false))) Rd.skip) (Rd.sq (Rd.cond (Rd.tor (Rd.tnot (Rd.tval (Rd.call s_l_is_number (Rd.cons (Rd.ix (Rd.v 6) (Rd.g (.int 1))) (Rd.cons (Rd.blt Bi.len (Rd.cons (Rd.v 1) Rd.nil)) Rd.nil))))) (Rd.tor (Rd.tcmp Op.le (Rd.ix (Rd.v 6) (Rd.g (.int 0))) (Rd.v 4)) (Rd.tcmp Op.isin (Rd.ix (Rd.v 6) (Rd.g (.int 1))) (Rd.v 5)))) (Rd.ret (Rd.g (.bl false))) Rd.skip) (Rd.sq (Rd.cond (Rd.tnot (Rd.tval (Rd.call s_l_fits (Rd.cons (Rd.ix (Rd.v 0) (Rd.ix (Rd.v 6) (Rd.g (.int 0)))) (Rd.cons (Rd.ix (Rd.v 1) (Rd.ix (Rd.v 6) (Rd.g (.int 1)))) (Rd.cons (Rd.v 2) Rd.nil)))))) (Rd.ret (Rd.g (.bl false))) Rd.skip) (Rd.sq (Rd.set 4 (Rd.ix (Rd.v 6) (Rd.g (.int 0)))) (Rd.app 5 (Rd.ix (Rd.v 6) (Rd.g (.int 1))))))))) (Rd.sq (Rd.set 7 (Rd.lc [6] (Rd.seqJ (Rd.v 3)) (Rd.tv 6) Rd.noT (Rd.ix (Rd.v 6) (Rd.g (.int 0))))) (Rd.sq (Rd.cond (Rd.tval (Rd.blt Bi.any (Rd.cons (Rd.lc [8, 9] (Rd.enum (Rd.v 0)) (Rd.tt 2 (Rd.gC (Rd.tv 8) (Rd.gC (Rd.tv 9) Rd.gN))) (Rd.tcmp Op.nin (Rd.v 8) (Rd.v 7)) (Rd.call s_l_is_long (Rd.cons (Rd.v 9) (Rd.cons (Rd.v 2) Rd.nil)))) Rd.nil))) (Rd.ret (Rd.g (.bl false))) Rd.skip) (Rd.ret (Rd.not (Rd.blt Bi.any (Rd.cons (Rd.lc [8, 9] (Rd.enum (Rd.v 1)) (Rd.tt 2 (Rd.gC (Rd.tv 8) (Rd.gC (Rd.tv 9) Rd.gN))) (Rd.tcmp Op.nin (Rd.v 8) (Rd.v 5)) (Rd.call s_l_is_long (Rd.cons (Rd.v 9) (Rd.cons (Rd.v 2) Rd.nil)))) Rd.nil)))))))))
def r_l_is_ban (K : PySem.W.Frag)   (s_l_is_number : DSpec) (s_l_is_long : DSpec) (s_l_fits : DSpec) : RdS := (Rd.sq (Rd.cond (Rd.tor (Rd.tnot (Rd.tval (Rd.isTyA K "tuple" Rd.pTup (Rd.v 3)))) (Rd.tor (Rd.tcmp Op.ne (Rd.blt Bi.len (Rd.cons (Rd.v 3) Rd.nil)) (Rd.g (.int 2))) (Rd.tor (Rd.tnot (Rd.tval (Rd.call s_l_is_number (Rd.cons (Rd.ix (Rd.v 3) (Rd.g (.int 0))) (Rd.cons (Rd.g (.int 2)) Rd.nil))))) (Rd.tnot (Rd.tval (Rd.isTyA K "tuple" Rd.pTup (Rd.ix (Rd.v 3) (Rd.g (.int 1))))))))) (Rd.ret (Rd.g (.bl false))) Rd.skip) (Rd.sq (Rd.unp (Rd.ite (Rd.tcmp Op.eq (Rd.ix (Rd.v 3) (Rd.g (.int 0))) (Rd.g (.int 0))) (Rd.tup (Rd.cons (Rd.v 0) (Rd.cons (Rd.v 1) Rd.nil))) (Rd.tup (Rd.cons (Rd.v 1) (Rd.cons (Rd.v 0) Rd.nil)))) (Rd.tt 2 (Rd.gC (Rd.tv 4) (Rd.gC (Rd.tv 5) Rd.gN)))) (Rd.sq (Rd.par2EF 6 7 (Rd.un Op.neg (Rd.g (.int 1))) (Rd.dsp Rd.nil)) (Rd.sq (Rd.loop (Rd.seq (Rd.ix (Rd.v 3) (Rd.g (.int 1)))) (Rd.tv 8) (Rd.sq (Rd.cond (Rd.tor (Rd.tnot (Rd.tval (Rd.call s_l_is_number (Rd.cons (Rd.v 8) (Rd.cons (Rd.blt Bi.len (Rd.cons (Rd.v 4) Rd.nil)) Rd.nil))))) (Rd.tor (Rd.tcmp Op.le (Rd.v 8) (Rd.v 6)) (Rd.tnot (Rd.tval (Rd.call s_l_is_long (Rd.cons (Rd.ix (Rd.v 4) (Rd.v 8)) (Rd.cons (Rd.v 2) Rd.nil))))))) (Rd.ret (Rd.g (.bl false))) Rd.skip) (Rd.sq (Rd.set 6 (Rd.v 8)) (Rd.app 7 (Rd.ix (Rd.v 4) (Rd.v 8)))))) (Rd.sq (Rd.setL 9 (Rd.lcF [10] (Rd.seqJ (Rd.v 5)) (Rd.tv 10) (Rd.tval (Rd.blt Bi.any (Rd.cons (Rd.lc [11] (Rd.seqJ (Rd.v 7)) (Rd.tv 11) Rd.noT (Rd.call s_l_fits (Rd.cons (Rd.v 11) (Rd.cons (Rd.v 10) (Rd.cons (Rd.v 2) Rd.nil))))) Rd.nil))) (Rd.v 10))) (Rd.ret (Rd.bin Op.lt (Rd.blt Bi.len (Rd.cons (Rd.v 9) Rd.nil)) (Rd.blt Bi.len (Rd.cons (Rd.ix (Rd.v 3) (Rd.g (.int 1))) Rd.nil)))))))))
def r_l_deep   (s_l_some : DSpec) (s_l_pick : DSpec) : RdS := (Rd.sq (Rd.set 1 (Rd.call s_l_some (Rd.cons (Rd.v 0) (Rd.cons (Rd.lst (Rd.cons (Rd.g (.int 0)) (Rd.cons (Rd.g (.str "x")) (Rd.cons (Rd.g .non) Rd.nil)))) Rd.nil)))) (Rd.sq (Rd.loop (Rd.rng1 (Rd.bin Op.add (Rd.g (.int 1)) (Rd.call s_l_pick (Rd.cons (Rd.v 0) (Rd.cons (Rd.g (.int 38)) Rd.nil))))) (Rd.tv 2) (Rd.set 1 (Rd.ite (Rd.tcmp Op.eq (Rd.call s_l_pick (Rd.cons (Rd.v 0) (Rd.cons (Rd.g (.int 2)) Rd.nil))) (Rd.g (.int 0))) (Rd.lst (Rd.cons (Rd.v 1) Rd.nil)) (Rd.tup (Rd.cons (Rd.v 1) Rd.nil))))) (Rd.ret (Rd.v 1))))
def r_l_drawn   (s_l_fits : DSpec) (s_l_pick : DSpec) (s_l_some : DSpec) : RdS := (Rd.sq (Rd.par2F 4 5 (Rd.dsp Rd.nil) (Rd.dsp Rd.nil)) (Rd.sq (Rd.loop (Rd.enum (Rd.v 1)) (Rd.tt 2 (Rd.gC (Rd.tv 6) (Rd.gC (Rd.tv 7) Rd.gN))) (Rd.sq (Rd.setL 8 (Rd.lcF [9, 10] (Rd.enum (Rd.v 2)) (Rd.tt 2 (Rd.gC (Rd.tv 9) (Rd.gC (Rd.tv 10) Rd.gN))) (Rd.tand (Rd.tcmp Op.nin (Rd.v 9) (Rd.v 5)) (Rd.tval (Rd.call s_l_fits (Rd.cons (Rd.v 7) (Rd.cons (Rd.v 10) (Rd.cons (Rd.v 3) Rd.nil)))))) (Rd.v 9))) (Rd.cond (Rd.tand (Rd.tcmp Op.gt (Rd.blt Bi.len (Rd.cons (Rd.v 8) Rd.nil)) (Rd.g (.int 0))) (Rd.tcmp Op.gt (Rd.call s_l_pick (Rd.cons (Rd.v 0) (Rd.cons (Rd.g (.int 6)) Rd.nil))) (Rd.g (.int 0)))) (Rd.sq (Rd.app 5 (Rd.call s_l_some (Rd.cons (Rd.v 0) (Rd.cons (Rd.v 8) Rd.nil)))) (Rd.app 4 (Rd.tup (Rd.cons (Rd.v 6) (Rd.cons (Rd.ix (Rd.v 5) (Rd.un Op.neg (Rd.g (.int 1)))) Rd.nil))))) Rd.skip))) (Rd.ret (Rd.v 4))))
def r_l_bent   (s_l_pick : DSpec) (s_l_some : DSpec) : RdS := (Rd.sq (Rd.set 4 (Rd.call s_l_pick (Rd.cons (Rd.v 0) (Rd.cons (Rd.bin Op.add (Rd.blt Bi.len (Rd.cons (Rd.v 1) Rd.nil)) (Rd.g (.int 1))) Rd.nil)))) (Rd.sq (Rd.set 5 (Rd.tup (Rd.cons (Rd.bin Op.sub (Rd.call s_l_pick (Rd.cons (Rd.v 0) (Rd.cons (Rd.bin Op.add (Rd.v 2) (Rd.g (.int 2))) Rd.nil))) (Rd.g (.int 1))) (Rd.cons (Rd.bin Op.sub (Rd.call s_l_pick (Rd.cons (Rd.v 0) (Rd.cons (Rd.bin Op.add (Rd.v 3) (Rd.g (.int 2))) Rd.nil))) (Rd.g (.int 1))) Rd.nil)))) (Rd.sq (Rd.set 6 (Rd.call s_l_pick (Rd.cons (Rd.v 0) (Rd.cons (Rd.g (.int 9)) Rd.nil)))) (Rd.sq (Rd.cond (Rd.tor (Rd.tcmp Op.eq (Rd.v 6) (Rd.g (.int 0))) (Rd.tcmp Op.eq (Rd.blt Bi.len (Rd.cons (Rd.v 1) Rd.nil)) (Rd.g (.int 0)))) (Rd.ret (Rd.blt Bi.tuple (Rd.cons (Rd.blt Bi.sorted (Rd.cons (Rd.bin Op.add (Rd.v 1) (Rd.lst (Rd.cons (Rd.v 5) Rd.nil))) Rd.nil)) Rd.nil))) Rd.skip) (Rd.sq (Rd.set 7 (Rd.ix (Rd.v 1) (Rd.blt Bi.min (Rd.cons (Rd.v 4) (Rd.cons (Rd.bin Op.sub (Rd.blt Bi.len (Rd.cons (Rd.v 1) Rd.nil)) (Rd.g (.int 1))) Rd.nil))))) (Rd.sq (Rd.setL 8 (Rd.lcF [9] (Rd.seqJ (Rd.v 1)) (Rd.tv 9) (Rd.tcmp Op.ne (Rd.v 9) (Rd.v 7)) (Rd.v 9))) (Rd.sq (Rd.cond (Rd.tcmp Op.eq (Rd.v 6) (Rd.g (.int 1))) (Rd.ret (Rd.blt Bi.tuple (Rd.cons (Rd.v 8) Rd.nil))) Rd.skip) (Rd.sq (Rd.cond (Rd.tcmp Op.eq (Rd.v 6) (Rd.g (.int 2))) (Rd.ret (Rd.blt Bi.tuple (Rd.cons (Rd.blt Bi.sorted (Rd.cons (Rd.bin Op.add (Rd.v 8) (Rd.lst (Rd.cons (Rd.v 5) Rd.nil))) Rd.nil)) Rd.nil))) Rd.skip) (Rd.sq (Rd.cond (Rd.tcmp Op.eq (Rd.v 6) (Rd.g (.int 3))) (Rd.ret (Rd.blt Bi.tuple (Rd.cons (Rd.rev (Rd.v 1)) Rd.nil))) Rd.skip) (Rd.sq (Rd.cond (Rd.tcmp Op.eq (Rd.v 6) (Rd.g (.int 4))) (Rd.ret (Rd.blt Bi.tuple (Rd.cons (Rd.blt Bi.sorted (Rd.cons (Rd.bin Op.add (Rd.v 1) (Rd.lst (Rd.cons (Rd.v 7) Rd.nil))) Rd.nil)) Rd.nil))) Rd.skip) (Rd.sq (Rd.cond (Rd.tcmp Op.eq (Rd.v 6) (Rd.g (.int 5))) (Rd.ret (Rd.blt Bi.list (Rd.cons (Rd.v 1) Rd.nil))) Rd.skip) (Rd.sq (Rd.cond (Rd.tcmp Op.eq (Rd.v 6) (Rd.g (.int 6))) (Rd.ret (Rd.blt Bi.tuple (Rd.cons (Rd.bin Op.add (Rd.v 8) (Rd.lst (Rd.cons (Rd.call s_l_some (Rd.cons (Rd.v 0) (Rd.cons (Rd.lst (Rd.cons (Rd.blt Bi.list (Rd.cons (Rd.v 7) Rd.nil)) (Rd.cons (Rd.bin Op.add (Rd.v 7) (Rd.tup (Rd.cons (Rd.g (.int 0)) Rd.nil))) (Rd.cons (Rd.slc (Rd.v 7) Rd.noP (Rd.atP (Rd.g (.int 1)))) (Rd.cons (Rd.g .non) (Rd.cons (Rd.tup (Rd.cons (Rd.ix (Rd.v 7) (Rd.g (.int 0))) (Rd.cons (Rd.g .non) Rd.nil))) (Rd.cons (Rd.tup (Rd.cons (Rd.v 7) Rd.nil)) Rd.nil))))))) Rd.nil))) Rd.nil))) Rd.nil))) Rd.skip) (Rd.sq (Rd.cond (Rd.tcmp Op.eq (Rd.v 6) (Rd.g (.int 7))) (Rd.ret (Rd.blt Bi.tuple (Rd.cons (Rd.bin Op.add (Rd.lst (Rd.cons (Rd.revT (Rd.v 7)) Rd.nil)) (Rd.v 8)) Rd.nil))) Rd.skip) (Rd.ret (Rd.blt Bi.tuple (Rd.cons (Rd.lc [9] (Rd.seqJ (Rd.v 1)) (Rd.tv 9) Rd.noT (Rd.ite (Rd.tcmp Op.lt (Rd.ix (Rd.v 9) (Rd.g (.int 0))) (Rd.g (.int 2))) (Rd.tup (Rd.cons (Rd.blt Bi.bool (Rd.cons (Rd.ix (Rd.v 9) (Rd.g (.int 0))) Rd.nil)) (Rd.cons (Rd.ix (Rd.v 9) (Rd.g (.int 1))) Rd.nil))) (Rd.v 9))) Rd.nil))))))))))))))))
def r_l_is_flag (K : PySem.W.Frag)    : RdS := (Rd.ret (Rd.and (Rd.isTyA K "bool" Rd.pBool (Rd.v 0)) (Rd.bin Op.eq (Rd.v 0) (Rd.v 1))))
def r_l_lots    : RdS := (Rd.sq (Rd.set 1 (Rd.lst (Rd.cons (Rd.tup Rd.nil) Rd.nil))) (Rd.sq (Rd.loop (Rd.rng1 (Rd.v 0)) (Rd.tv 2) (Rd.set 1 (Rd.bin Op.add (Rd.v 1) (Rd.lc [3] (Rd.seqJ (Rd.v 1)) (Rd.tv 3) (Rd.tcmp Op.lt (Rd.blt Bi.len (Rd.cons (Rd.v 3) Rd.nil)) (Rd.g (.int 4))) (Rd.bin Op.add (Rd.v 3) (Rd.tup (Rd.cons (Rd.v 2) Rd.nil))))))) (Rd.ret (Rd.v 1))))
def r_law   (s_l_some : DSpec) (s_l_pick : DSpec) (s_l_lists : DSpec) (s_l_deep : DSpec) (s_l_drawn : DSpec) (s_l_bent : DSpec) (s_l_lots : DSpec) (s_is_pairing : DSpec) (s_l_is_pairing : DSpec) (s_l_is_flag : DSpec) (s_is_ban : DSpec) (s_l_is_ban : DSpec) : RdS := (Rd.sq (Rd.unp (Rd.call s_l_lists (Rd.cons (Rd.v 1) (Rd.cons (Rd.call s_l_some (Rd.cons (Rd.v 1) (Rd.cons (Rd.lst (Rd.cons (Rd.g (.int 4)) (Rd.cons (Rd.g (.int 8)) Rd.nil))) Rd.nil))) (Rd.cons (Rd.ite (Rd.tcmp Op.eq (Rd.call s_l_pick (Rd.cons (Rd.v 1) (Rd.cons (Rd.g (.int 6)) Rd.nil))) (Rd.g (.int 3))) (Rd.g (.int 10)) (Rd.g (.int 4))) Rd.nil)))) (Rd.tt 2 (Rd.gC (Rd.tv 2) (Rd.gC (Rd.tv 3) Rd.gN)))) (Rd.sq (Rd.set 4 (Rd.call s_l_pick (Rd.cons (Rd.v 1) (Rd.cons (Rd.g (.int 5)) Rd.nil)))) (Rd.sq (Rd.set 5 (Rd.lst (Rd.cons (Rd.tup Rd.nil) (Rd.cons (Rd.g .non) (Rd.cons (Rd.g (.int 0)) (Rd.cons (Rd.g (.str "")) (Rd.cons (Rd.lst Rd.nil) (Rd.cons (Rd.g (.dck [] [])) (Rd.cons (Rd.g (.dck [.inl 0] [.int 1])) (Rd.cons (Rd.tup (Rd.cons (Rd.g .non) Rd.nil)) (Rd.cons (Rd.tup (Rd.cons (Rd.tup Rd.nil) Rd.nil)) (Rd.cons (Rd.tup (Rd.cons (Rd.tup (Rd.cons (Rd.g (.int 0)) Rd.nil)) Rd.nil)) (Rd.cons (Rd.tup (Rd.cons (Rd.g (.int 0)) (Rd.cons (Rd.g (.int 0)) Rd.nil))) (Rd.cons (Rd.tup (Rd.cons (Rd.tup (Rd.cons (Rd.g (.int 0)) (Rd.cons (Rd.g (.int 0)) Rd.nil))) Rd.nil)) (Rd.cons (Rd.tup (Rd.cons (Rd.tup (Rd.cons (Rd.g (.bl true)) (Rd.cons (Rd.g (.bl false)) Rd.nil))) Rd.nil)) (Rd.cons (Rd.tup (Rd.cons (Rd.tup (Rd.cons (Rd.g (.int 0)) (Rd.cons (Rd.g (.int 0)) Rd.nil))) (Rd.cons (Rd.tup (Rd.cons (Rd.g (.int 0)) (Rd.cons (Rd.g (.int 0)) Rd.nil))) Rd.nil))) (Rd.cons (Rd.call s_l_deep (Rd.cons (Rd.v 1) Rd.nil)) Rd.nil))))))))))))))))) (Rd.sq (Rd.loop (Rd.rng1 (Rd.g (.int 6))) (Rd.tv 6) (Rd.sq (Rd.set 7 (Rd.call s_l_drawn (Rd.cons (Rd.v 1) (Rd.cons (Rd.v 2) (Rd.cons (Rd.v 3) (Rd.cons (Rd.v 4) Rd.nil)))))) (Rd.set 5 (Rd.bin Op.add (Rd.v 5) (Rd.lst (Rd.cons (Rd.blt Bi.tuple (Rd.cons (Rd.v 7) Rd.nil)) (Rd.cons (Rd.call s_l_bent (Rd.cons (Rd.v 1) (Rd.cons (Rd.v 7) (Rd.cons (Rd.blt Bi.len (Rd.cons (Rd.v 2) Rd.nil)) (Rd.cons (Rd.blt Bi.len (Rd.cons (Rd.v 3) Rd.nil)) Rd.nil))))) Rd.nil))))))) (Rd.sq (Rd.loop (Rd.seq (Rd.tup (Rd.cons (Rd.g (.int 0)) (Rd.cons (Rd.g (.int 1)) Rd.nil)))) (Rd.tv 8) (Rd.sq (Rd.set 9 (Rd.ite (Rd.tcmp Op.eq (Rd.v 8) (Rd.g (.int 0))) (Rd.v 2) (Rd.v 3))) (Rd.sq (Rd.set 5 (Rd.bin Op.add (Rd.v 5) (Rd.lc [10] (Rd.seqJ (Rd.call s_l_lots (Rd.cons (Rd.blt Bi.len (Rd.cons (Rd.v 9) Rd.nil)) Rd.nil))) (Rd.tv 10) Rd.noT (Rd.tup (Rd.cons (Rd.v 8) (Rd.cons (Rd.v 10) Rd.nil)))))) (Rd.sq (Rd.set 10 (Rd.tupR1 (Rd.blt Bi.len (Rd.cons (Rd.v 9) Rd.nil)))) (Rd.sq (Rd.set 11 (Rd.lst (Rd.cons (Rd.blt Bi.list (Rd.cons (Rd.v 10) Rd.nil)) (Rd.cons (Rd.revT (Rd.v 10)) (Rd.cons (Rd.bin Op.add (Rd.v 10) (Rd.tup (Rd.cons (Rd.blt Bi.len (Rd.cons (Rd.v 9) Rd.nil)) Rd.nil))) (Rd.cons (Rd.bin Op.add (Rd.v 10) (Rd.slc (Rd.v 10) (Rd.atP (Rd.un Op.neg (Rd.g (.int 1)))) Rd.noP)) (Rd.cons (Rd.g .non) (Rd.cons (Rd.tup (Rd.cons (Rd.un Op.neg (Rd.g (.int 1))) Rd.nil)) (Rd.cons (Rd.tup (Rd.cons (Rd.g (.bl true)) Rd.nil)) (Rd.cons (Rd.tup (Rd.cons (Rd.g .non) Rd.nil)) (Rd.cons (Rd.tup (Rd.cons (Rd.tup (Rd.cons (Rd.g (.int 0)) Rd.nil)) Rd.nil)) Rd.nil))))))))))) (Rd.set 5 (Rd.bin Op.add (Rd.v 5) (Rd.lc [12] (Rd.seqJ (Rd.v 11)) (Rd.tv 12) Rd.noT (Rd.tup (Rd.cons (Rd.v 8) (Rd.cons (Rd.v 12) Rd.nil))))))))))) (Rd.sq (Rd.set 5 (Rd.bin Op.add (Rd.v 5) (Rd.lst (Rd.cons (Rd.tup (Rd.cons (Rd.g (.bl true)) (Rd.cons (Rd.tup (Rd.cons (Rd.g (.int 0)) Rd.nil)) Rd.nil))) (Rd.cons (Rd.tup (Rd.cons (Rd.g (.int 2)) (Rd.cons (Rd.tup (Rd.cons (Rd.g (.int 0)) Rd.nil)) Rd.nil))) (Rd.cons (Rd.tup (Rd.cons (Rd.un Op.neg (Rd.g (.int 1))) (Rd.cons (Rd.tup (Rd.cons (Rd.g (.int 0)) Rd.nil)) Rd.nil))) (Rd.cons (Rd.tup (Rd.cons (Rd.g .non) (Rd.cons (Rd.tup (Rd.cons (Rd.g (.int 0)) Rd.nil)) Rd.nil))) (Rd.cons (Rd.lst (Rd.cons (Rd.g (.int 0)) (Rd.cons (Rd.tup (Rd.cons (Rd.g (.int 0)) Rd.nil)) Rd.nil))) (Rd.cons (Rd.tup (Rd.cons (Rd.g (.int 0)) (Rd.cons (Rd.tup (Rd.cons (Rd.g (.int 0)) Rd.nil)) (Rd.cons (Rd.tup Rd.nil) Rd.nil)))) (Rd.cons (Rd.tup (Rd.cons (Rd.g (.int 0)) Rd.nil)) (Rd.cons (Rd.tup (Rd.cons (Rd.g (.str "0")) (Rd.cons (Rd.tup (Rd.cons (Rd.g (.int 0)) Rd.nil)) Rd.nil))) (Rd.cons (Rd.tup (Rd.cons (Rd.g (.bl false)) (Rd.cons (Rd.tup (Rd.cons (Rd.g (.int 0)) (Rd.cons (Rd.g (.int 1)) Rd.nil))) Rd.nil))) Rd.nil)))))))))))) (Rd.sq (Rd.loop (Rd.seq (Rd.v 5)) (Rd.tv 12) (Rd.sq (Rd.cond (Rd.tnot (Rd.tval (Rd.call s_l_is_flag (Rd.cons (Rd.call s_is_pairing (Rd.cons (Rd.v 2) (Rd.cons (Rd.v 3) (Rd.cons (Rd.v 4) (Rd.cons (Rd.v 12) Rd.nil))))) (Rd.cons (Rd.call s_l_is_pairing (Rd.cons (Rd.v 2) (Rd.cons (Rd.v 3) (Rd.cons (Rd.v 4) (Rd.cons (Rd.v 12) Rd.nil))))) Rd.nil))))) (Rd.ret (Rd.g (.bl false))) Rd.skip) (Rd.cond (Rd.tnot (Rd.tval (Rd.call s_l_is_flag (Rd.cons (Rd.call s_is_ban (Rd.cons (Rd.v 2) (Rd.cons (Rd.v 3) (Rd.cons (Rd.v 4) (Rd.cons (Rd.v 12) Rd.nil))))) (Rd.cons (Rd.call s_l_is_ban (Rd.cons (Rd.v 2) (Rd.cons (Rd.v 3) (Rd.cons (Rd.v 4) (Rd.cons (Rd.v 12) Rd.nil))))) Rd.nil))))) (Rd.ret (Rd.g (.bl false))) Rd.skip))) (Rd.ret (Rd.g (.bl true))))))))))
theorem calS_ok {sp : DSpec} {S : D → Prop} {T : XD} {ds : List D} (h : stills ds = true) (k : sp ds S T) : calR sp S T ds := by
  unfold calR
  rw [h]
  exact k
theorem stiS_ok {b : Bool} {A : Prop} (h : b = true) (k : A) : Rd.stiD b A := by rw [h]; exact k
theorem stS_ok {d : D} {A : Prop} (h : d.still = true) (k : A) : stP d A := by
  cases d <;> first | exact k | cases h
/-- an own class: none of its objects is an int, a flag, a tuple -/
structure ObJ (K : PySem.W.Frag) (C : Addr) : Prop where
  o : ObT K C
  int : PySem.W.kitOne K (.ref C) (.type "int") = some false
  bl : PySem.W.kitOne K (.ref C) (.type "bool") = some false
  tup : PySem.W.kitOne K (.ref C) (.type "tuple") = some false
/-- data of a kind that is known, or an object of an own class -/
def knO (K : PySem.W.Frag) (d : D) : Prop := d.still = true ∧ (d.kn = true ∨ ∃ C ns ds, d = .obj C ns ds ∧ ObJ K C)
theorem knO.k {K : PySem.W.Frag} {d : D} (h1 : d.still = true) (h2 : d.kn = true) : knO K d := ⟨h1, .inl h2⟩
theorem knO.obj {K : PySem.W.Frag} {C : Addr} {ns : List Str} {ds : List D} (h : ObJ K C) : knO K (.obj C ns ds) := ⟨rfl, .inr ⟨C, ns, ds, rfl, h⟩⟩
theorem knO.st {K : PySem.W.Frag} {d : D} (h : knO K d) : stills [d] = true := by
  simp only [stills, List.all_cons, List.all_nil, h.1]
  rfl
theorem knO.cases {K : PySem.W.Frag} {d : D} (h : knO K d) : (∃ C ns ds, d = .obj C ns ds ∧ ObJ K C) ∨ d.kn = true := h.2.elim .inr .inl
abbrev sp_is_integer (K : PySem.W.Frag) : DSpec := fun ds S _ => ∃ d, ds = [d] ∧ knO K d ∧ S (.bl d.isN)
theorem ok_is_integer (K : PySem.W.Frag) : Okd 1 (r_is_integer K) (sp_is_integer K) := by
  intro T ds S h
  obtain ⟨d, rfl, hk, hs⟩ := h
  rcases hk.cases with ⟨C, ns, ds, rfl, o⟩ | k
  · obtain ⟨o1, o2, o3, o4⟩ := o
    wtm_at "w"
    exact hs
  · have hst := hk.1
    wtm_at "w"
    cases d <;> first | exact hs | cases k
abbrev sp_is_within (K : PySem.W.Frag) : DSpec := fun ds S _ => ∃ d a b, ds = [d, .int a, .int b] ∧ knO K d ∧ S (.bl (inB a b d))
theorem ok_is_within (K : PySem.W.Frag) : Okd 3 (r_is_within (sp_is_integer K)) (sp_is_within K) := by
  intro T ds S h
  obtain ⟨d, a, b, rfl, hk, hs⟩ := h
  have h1 := hk.1
  have h2 := hk
  wtm_at "w"
  rw [frz_still hk.1]
  refine calS_ok hk.st ?_
  refine ⟨d, rfl, hk, ?_⟩
  cases d with
  | int i =>
    wtm_at "w"
    refine brB_p (fun h1 => ?_) (fun h1 => ?_)
    · wtm_at "w"
      refine eqS hs ?_
      simp_all [inB]
    · wtm_at "w"
      refine eqS hs ?_
      simp_all [inB]
      omega
  | own _ => cases h1
  | odk _ _ => cases h1
  | _ =>
    wtm_at "w"
    exact hs
abbrev sp_is_number (K : PySem.W.Frag) : DSpec := fun ds S _ => ∃ d b, ds = [d, .int b] ∧ knO K d ∧ S (.bl (inB 0 b d))
theorem ok_is_number (K : PySem.W.Frag) : Okd 2 (r_is_number (sp_is_within K)) (sp_is_number K) := by
  intro T ds S h
  obtain ⟨d, b, rfl, hk, hs⟩ := h
  wtm_at "w"
  rw [frz_still hk.1]
  refine calS_ok (by simp only [stills, List.all_cons, List.all_nil, hk.1]; rfl) ?_
  exact ⟨d, 0, b, rfl, hk, hs⟩
/-! ### bars -/
abbrev Bar := Int × Option Int
def oD : Option Int → D
  | none => .non
  | some j => .int j
def bD (b : Bar) : D := .tup [.int b.1, oD b.2]
def fitB (a b : Bar) (e : Int) : Bool := decide ((if a.1 - b.1 < 0 then -(a.1 - b.1) else a.1 - b.1) ≤ e) && (match a.2, b.2 with
  | none, none => true
  | some x, some y => decide ((if x - y < 0 then -(x - y) else x - y) ≤ e)
  | _, _ => false)
def longB (a : Bar) (e : Int) : Bool := match a.2 with
  | none => true
  | some g => decide (g - a.1 > 2 * e)
def BarOk (b : Bar) : Prop := -1000 ≤ b.1 ∧ b.1 ≤ 1000 ∧ ∀ g, b.2 = some g → b.1 + 1 ≤ g ∧ g ≤ 1000
/-- is a bar -/
def barST : D → D → Bool
  | .int i, .non => inB (-1000) 1000 (.int i)
  | .int i, t => inB (-1000) 1000 (.int i) && inB (i + 1) 1000 t
  | _, _ => false
def isBar : D → Bool
  | .tup xs => match xs with
    | [s, t] => barST s t
    | _ => false
  | _ => false
theorem isBar_bD {b : Bar} (h : BarOk b) : isBar (bD b) = true := by
  obtain ⟨i, g⟩ := b
  obtain ⟨h1, h2, h3⟩ := h
  cases g with
  | none => simp [bD, oD, isBar, barST, inB]; omega
  | some j =>
    have := h3 j rfl
    simp [bD, oD, isBar, barST, inB]
    omega
/-- a list of bars -/
def areBars : D → Bool
  | .lst xs => decide (xs.length ≤ 20) && xs.all isBar
  | .tup xs => decide (xs.length ≤ 20) && xs.all isBar
  | _ => false
def BarsOk (l : List Bar) : Prop := l.length ≤ 20 ∧ ∀ b ∈ l, BarOk b
theorem areBars_lst {l : List Bar} (h : BarsOk l) : areBars (.lst (l.map bD)) = true := by
  simp only [areBars, List.length_map, decide_eq_true h.1, Bool.true_and, List.all_eq_true, List.mem_map]
  rintro x ⟨b, hb, rfl⟩
  exact isBar_bD (h.2 b hb)
theorem bD_pl (b : Bar) : (bD b).pl = true := by
  obtain ⟨i, g⟩ := b
  cases g <;> rfl
theorem bars_pl {l : List Bar} (h : BarsOk l) : (D.lst (l.map bD)).pl = true := pl_lst.mpr ⟨by rw [List.length_map]; have := h.1; omega, fun x h => by
  obtain ⟨b, _, rfl⟩ := List.mem_map.mp h
  exact bD_pl b⟩
theorem plK {K : PySem.W.Frag} {d : D} (h : d.pl = true) : knO K d := .k (pl_st h) (pl_k h)
abbrev sp_check_within (K : PySem.W.Frag) (EN : Addr) : DSpec := fun ds S T => ∃ d a b, ds = [d, .int a, .int b] ∧ knO K d ∧ (inB a b d = true → S .non) ∧ (inB a b d = false → T (.ref EN) none)
theorem ok_check_within (K : PySem.W.Frag) (EN : Addr) : Okd 3 (r_check_within EN (sp_is_within K)) (sp_check_within K EN) := by
  intro T ds S h
  obtain ⟨d, a, b, rfl, hk, h1, h2⟩ := h
  have hs := hk.1
  wtm_at "w"

  refine calS_ok (by simp only [stills, List.all_cons, List.all_nil, hs]; rfl) ?_
  refine ⟨d, a, b, rfl, hk, ?_⟩
  cases e : inB a b d with
  | true =>
    wtm_at "w"
    exact h1 e
  | false =>
    wtm_at "w"
    exact h2 e
abbrev sp_is_bar (K : PySem.W.Frag) : DSpec := fun ds S _ => ∃ d, ds = [d] ∧ d.pl = true ∧ S (.bl (isBar d))
theorem ok_is_bar (K : PySem.W.Frag) : Okd 1 (r_is_bar K (sp_is_within K)) (sp_is_bar K) := by
  intro T ds S h
  obtain ⟨d, rfl, hp, hs⟩ := h
  have hst := (pl_st hp)
  cases d with
  | tup xs =>
    have ⟨hz, hx⟩ := pl_tup.mp hp
    wtm_at "w"
    refine brB_p (fun hl => ?_) (fun hl => ?_)
    · wtm_at "w"
      refine eqS hs ?_
      have : xs.length ≠ 2 := fun e => hl (by rw [e]; rfl)
      match xs, this with
      | [], _ => rfl
      | [_], _ => rfl
      | _ :: _ :: _ :: _, _ => rfl
    · obtain ⟨s, t, rfl⟩ : ∃ s t, xs = [s, t] := by
        match xs, hl with
        | [s, t], _ => exact ⟨s, t, rfl⟩
        | [], hl => simp at hl
        | [_], hl => simp at hl
        | _ :: _ :: _ :: _, hl => simp at hl; omega
      have ks := hx s (by simp)
      have kt := hx t (by simp)
      wtm_at "w"
      refine calS_ok (by simp only [stills, List.all_cons, List.all_nil, (pl_st ks)]; rfl) ?_
      refine ⟨s, -1000, 1000, rfl, plK ks, ?_⟩
      cases e : inB (-1000) 1000 s with
      | false =>
        wtm_at "w"
        refine eqS hs ?_
        cases s <;> first | rfl | skip
        cases t <;> simp [isBar, barST, e]
      | true =>
        cases s with
        | int i =>
          cases t with
          | non =>
            wtm_at "w"
            refine eqS hs ?_
            simp [isBar, barST, e]
          | own _ => cases (pl_st kt)
          | odk _ _ => cases (pl_st kt)
          | pur => cases (pl_k kt)
          | any _ => cases (pl_k kt)
          | obj _ _ _ => cases (pl_k kt)
          | _ =>
            wtm_at "w"
            refine ⟨plK kt, ?_⟩
            refine eqS hs ?_
            simp [isBar, barST, e]
        | _ => simp [inB] at e
  | pur => cases hp
  | any _ => cases hp
  | obj _ _ _ => cases hp
  | own _ => cases hst
  | odk _ _ => cases hst
  | _ =>
    wtm_at "w"
    exact hs
abbrev sp_check_bars (K : PySem.W.Frag) (EB : Addr) : DSpec := fun ds S T => ∃ d, ds = [d] ∧ d.pl = true ∧ (areBars d = true → S .non) ∧ (areBars d = false → T (.ref EB) none)
theorem ok_check_bars (K : PySem.W.Frag) (EB : Addr) : Okd 2 (r_check_bars K EB (sp_is_bar K)) (sp_check_bars K EB) := by
  intro T ds S h
  obtain ⟨d, rfl, hp, h1, h2⟩ := h
  have hst := (pl_st hp)
  have go : ∀ xs : List D, (∀ x ∈ xs, x.pl = true) → ∀ (S' : List D → Prop), S' (xs.map fun x => D.bl (isBar x)) → Rd.turns (Rd.tv 1) Rd.noT (Rd.call (sp_is_bar K) (Rd.cons (Rd.v 1) Rd.nil)) [some d, none] S' xs := fun xs hx S' k => by
    refine Rd.tmap D.bl isBar id xs (List.map_id _).symm (fun x hx' S'' k' => ?_) (by rw [List.map_map]; exact k)
    have kx := hx x hx'
    wtm_at "w"
    refine calS_ok (by simp only [stills, List.all_cons, List.all_nil, id, (pl_st kx)]; rfl) ?_
    exact ⟨x, rfl, kx, k'⟩
  have fin : ∀ xs : List D, (decide (xs.length ≤ 20) && xs.all isBar) = areBars d → brB (!decide ((xs.length : Int) > 20)) (brB (xs.all isBar) (S .non) (T (.ref EB) none)) (T (.ref EB) none) := fun xs e => by
    refine brB_n (fun h => ?_) (fun h => ?_)
    · have h' : xs.length ≤ 20 := by omega
      rw [decide_eq_true h', Bool.true_and] at e
      cases q : xs.all isBar with
      | true => exact h1 (by rw [← e, q])
      | false => exact h2 (by rw [← e, q])
    · have h' : ¬ xs.length ≤ 20 := by omega
      rw [decide_eq_false h', Bool.false_and] at e
      exact h2 e.symm
  have alls : ∀ xs : List D, ((xs.map fun x => isBar x).all id) = xs.all isBar := fun xs => by simp [List.all_map]
  cases d with
  | tup xs =>
    have ⟨hz, hx⟩ := pl_tup.mp hp
    have f := fin xs rfl
    wtm_at "w"
    refine brB_p (fun h => ?_) (fun h => ?_)
    · wtm_at "w"
      refine h2 ?_
      have h' : ¬ xs.length ≤ 20 := by omega
      simp [areBars, h']
    · wtm_at "w"
      refine go xs hx _ ?_
      wtm_at "w"
      refine ⟨xs.map isBar, by rw [List.map_map]; rfl, ?_⟩
      rw [alls]
      have h' : xs.length ≤ 20 := by omega
      cases q : xs.all isBar with
      | true =>
        wtm_at "w"
        exact h1 (by simp [areBars, h', q])
      | false =>
        wtm_at "w"
        exact h2 (by simp [areBars, h', q])
  | lst xs =>
    have ⟨hz, hx⟩ := pl_lst.mp hp
    wtm_at "w"
    refine brB_p (fun h => ?_) (fun h => ?_)
    · wtm_at "w"
      refine h2 ?_
      have h' : ¬ xs.length ≤ 20 := by omega
      simp [areBars, h']
    · wtm_at "w"
      refine go xs hx _ ?_
      wtm_at "w"
      refine ⟨xs.map isBar, by rw [List.map_map]; rfl, ?_⟩
      rw [alls]
      have h' : xs.length ≤ 20 := by omega
      cases q : xs.all isBar with
      | true =>
        wtm_at "w"
        exact h1 (by simp [areBars, h', q])
      | false =>
        wtm_at "w"
        exact h2 (by simp [areBars, h', q])
  | pur => cases hp
  | any _ => cases hp
  | obj _ _ _ => cases hp
  | own _ => cases hst
  | odk _ _ => cases hst
  | _ =>
    wtm_at "w"
    exact h2 rfl
abbrev sp_check_asked (K : PySem.W.Frag) (EB EN : Addr) : DSpec := fun ds S T => ∃ x y d, ds = [x, y, d] ∧ x.pl = true ∧ y.pl = true ∧ d.pl = true ∧ ((areBars x && areBars y) = true → inB 0 2000 d = true → S .non) ∧ ((areBars x && areBars y) = false → T (.ref EB) none) ∧ ((areBars x && areBars y) = true → inB 0 2000 d = false → T (.ref EN) none)
theorem ok_check_asked (K : PySem.W.Frag) (EB EN : Addr) : Okd 3 (r_check_asked (sp_check_bars K EB) (sp_check_within K EN)) (sp_check_asked K EB EN) := by
  intro T ds S h
  obtain ⟨x, y, d, rfl, hx, hy, hd, h1, h2, h3⟩ := h
  wtm_at "w"
  refine calS_ok (by simp only [stills, List.all_cons, List.all_nil, (pl_st hx)]; rfl) ?_
  refine ⟨x, rfl, hx, fun e1 => ?_, fun e1 => h2 (by rw [e1]; rfl)⟩
  wtm_at "w"
  refine calS_ok (by simp only [stills, List.all_cons, List.all_nil, (pl_st hy)]; rfl) ?_
  refine ⟨y, rfl, hy, fun e2 => ?_, fun e2 => h2 (by rw [e1, e2]; rfl)⟩
  wtm_at "w"
  refine calS_ok (by simp only [stills, List.all_cons, List.all_nil, (pl_st hd)]; rfl) ?_
  refine ⟨d, 0, 2000, rfl, plK hd, fun e3 => ?_, fun e3 => h3 (by rw [e1, e2]; rfl) e3⟩
  wtm_at "w"
  exact h1 (by rw [e1, e2]; rfl) e3
abbrev sp_do_fit : DSpec := fun ds S _ => ∃ a b e, ds = [bD a, bD b, .int e] ∧ S (.bl (fitB a b e))
theorem ok_do_fit : Okd 3 r_do_fit sp_do_fit := by
  intro T ds S h
  obtain ⟨⟨i, g⟩, ⟨j, k⟩, e, rfl, hs⟩ := h
  cases g <;> cases k <;> wtm_at "w"
  all_goals
    refine brB_p (fun h => ?_) (fun h => ?_)
    · wtm_at "w"
      refine eqS hs ?_
      have h' : ¬ (if i - j < 0 then -(i - j) else i - j) ≤ e := by omega
      simp [fitB, h']
    · have h' : (if i - j < 0 then -(i - j) else i - j) ≤ e := by omega
      wtm_at "w"
      refine eqS hs ?_
      simp [fitB, h']
abbrev sp_is_long : DSpec := fun ds S _ => ∃ a e, ds = [bD a, .int e] ∧ S (.bl (longB a e))
theorem ok_is_long : Okd 2 r_is_long sp_is_long := by
  intro T ds S h
  obtain ⟨⟨i, g⟩, e, rfl, hs⟩ := h
  cases g <;> wtm_at "w" <;> exact hs
end K46

set_option maxRecDepth 100000
set_option maxHeartbeats 4000000
namespace K46
open PySem PySem.Spec PyProof.Rows L2 Dl Tb
local macro_rules | `(tactic| wtm_at "wh") => `(tactic| conv => whnf)
local macro_rules | `(tactic| wtm_at "ln") => `(tactic| (simp only [List.length_map, List.length_append, List.length_replicate, List.length_range, List.length_take, List.length_cons, List.length_nil, List.length_zip, sizeLine_eq]; omega))
local macro_rules | `(tactic| wtm_at "sd") => `(tactic| first | (with_reducible assumption) | (with_reducible rfl) | exact (rfl : (_ : Bool) = _) | omega | exact CMul.l (by omega) (by omega) | exact CMul.r (by omega) (by omega) | exact And.intro (by omega) (by omega) | exact Or.inl rfl | exact Or.inr rfl | exact Or.inr (And.intro rfl rfl) | exact And.intro rfl rfl | exact And.intro (fit_tII _ _) (fit_tII _ _) | exact And.intro (fit_tI _ _) (fit_tI _ _) | wtm_at "ln" | assumption)
local macro_rules | `(tactic| wtm_at "s1") => `(tactic| first
  | refine And.intro (show OkC _ _ _ by assumption) (And.intro rfl (Exists.intro _ (And.intro rfl ?_)))
  | (with_reducible first | refine Exists.intro _ (And.intro rfl ?_) | refine ⟨_, _, rfl, ?_⟩ | refine ⟨_, _, _, rfl, ?_⟩ | refine ⟨_, _, _, _, rfl, ?_⟩ | refine ⟨_, _, _, _, _, rfl, ?_⟩ | refine ⟨_, _, _, _, _, _, rfl, ?_⟩ | refine ⟨_, _, _, _, _, _, _, rfl, ?_⟩ | refine ⟨_, _, _, _, _, _, _, _, rfl, ?_⟩ | refine ⟨_, _, _, _, _, _, _, _, _, rfl, ?_⟩)
  | refine And.intro (by wtm_at "sd") ?_
  | (refine brB_t (by with_reducible assumption) ?_) | (refine brB_f (by with_reducible assumption) ?_) | (refine brB_xt (by with_reducible assumption) ?_) | (refine brB_xf (by with_reducible assumption) ?_)
  | (refine brB_pt (by first | (with_reducible assumption) | omega) ?_) | (refine brB_pf (by first | (with_reducible assumption) | omega) ?_) | (refine brB_nt (by first | (with_reducible assumption) | omega) ?_) | (refine brB_nf (by first | (with_reducible assumption) | omega) ?_))
local macro_rules | `(tactic| wtm_at "w") => `(tactic| (wtm_at "wh"; repeat (wtm_at "s1"; wtm_at "wh")))
/-! ### a lot, a pair of numbers, a pairing, a ban -/
theorem all_id {α : Type} (xs : List α) (f : α → Bool) : ((xs.map f).all id) = xs.all f := by rw [List.all_map]; rfl
theorem any_id {α : Type} (xs : List α) (f : α → Bool) : ((xs.map f).any id) = xs.any f := by rw [List.any_map]; rfl
def D.i : D → Int
  | .int i => i
  | _ => 0
def D.ij : D → Int × Int
  | .tup xs => match xs with
    | [.int i, .int j] => (i, j)
    | _ => (0, 0)
  | _ => (0, 0)
def pD (p : Int × Int) : D := .tup [.int p.1, .int p.2]
theorem inB_ints {a b : Int} : ∀ {xs : List D}, xs.all (inB a b) = true → ∃ ns : List Int, xs = ns.map D.int ∧ ∀ n ∈ ns, a ≤ n ∧ n ≤ b
  | [], _ => ⟨[], rfl, fun _ h => by cases h⟩
  | x :: xs, h => by
    simp only [List.all_cons, Bool.and_eq_true] at h
    obtain ⟨ns, rfl, hn⟩ := inB_ints h.2
    cases x with
    | int i =>
      have h1 := h.1
      simp [inB] at h1
      exact ⟨i :: ns, rfl, fun n hm => by
        rcases List.mem_cons.mp hm with e | hm
        · rw [e]; exact h1
        · exact hn n hm⟩
    | _ => simp [inB] at h
theorem ints_i : ∀ ns : List Int, (ns.map D.int).map D.i = ns
  | [] => rfl
  | n :: r => by
    rw [List.map_cons, List.map_cons, ints_i r]
    rfl
/-- an ascending tuple of numbers below n -/
def lotB (n : Int) : D → Bool
  | .tup xs => xs.all (inB 0 (n - 1)) && decide ((xs.map D.i).Pairwise (· < ·))
  | _ => false
/-- a pair of numbers below m, n -/
def npB (m n : Int) : D → Bool
  | .tup xs => match xs with
    | [s, t] => inB 0 (m - 1) s && inB 0 (n - 1) t
    | _ => false
  | _ => false
theorem npB_pairs {m n : Int} : ∀ {xs : List D}, xs.all (npB m n) = true → ∃ ps : List (Int × Int), xs = ps.map pD ∧ ∀ p ∈ ps, (0 ≤ p.1 ∧ p.1 < m) ∧ 0 ≤ p.2 ∧ p.2 < n
  | [], _ => ⟨[], rfl, fun _ h => by cases h⟩
  | x :: xs, h => by
    simp only [List.all_cons, Bool.and_eq_true] at h
    obtain ⟨ps, rfl, hn⟩ := npB_pairs h.2
    have h1 := h.1
    have key : ∃ i j, x = pD (i, j) ∧ (0 ≤ i ∧ i < m) ∧ 0 ≤ j ∧ j < n := by
      cases x with
      | tup ys =>
        match ys, h1 with
        | [.int i, .int j], h1 =>
          simp [npB, inB] at h1
          exact ⟨i, j, rfl, by omega, by omega⟩
        | [], h1 => cases h1
        | [_], h1 => cases h1
        | _ :: _ :: _ :: _, h1 => cases h1
        | [s, t], h1 =>
          cases s <;> cases t <;> simp [npB, inB] at h1
          exact ⟨_, _, rfl, by omega, by omega⟩
      | _ => cases h1
    obtain ⟨i, j, rfl, h2⟩ := key
    exact ⟨(i, j) :: ps, rfl, fun p hm => by
      rcases List.mem_cons.mp hm with e | hm
      · rw [e]; exact h2
      · exact hn p hm⟩
theorem pD_ij : ∀ ps : List (Int × Int), (ps.map pD).map D.ij = ps
  | [] => rfl
  | p :: r => by
    rw [List.map_cons, List.map_cons, pD_ij r]
    rfl
def atB (l : List Bar) (i : Int) : Bar := l.getD i.toNat (0, none)
theorem atB_at {l : List Bar} {i : Int} (h0 : 0 ≤ i) (h1 : i < l.length) : atI (l.map bD) i = some (bD (atB l i)) := by
  refine atI_of i.toNat (by omega) ?_
  rw [List.getElem?_map, List.getElem?_eq_getElem (by omega)]
  unfold atB
  rw [List.getD_eq_getElem?_getD, List.getElem?_eq_getElem (by omega)]
  rfl
/-- all long bars are among some -/
def allLong (l : List Bar) (e : Int) (ns : List Int) : Bool := (l.zipIdx).all fun p => !longB p.1 e || decide (((p.2 : Nat) : Int) ∈ ns)
def pairP (one other : List Bar) (e : Int) (ps : List (Int × Int)) : Bool :=
  decide ((ps.map (·.1)).Pairwise (· < ·)) && (decide ((ps.map (·.2)).Nodup) && (ps.all (fun p => fitB (atB one p.1) (atB other p.2) e) && (allLong one e (ps.map (·.1)) && allLong other e (ps.map (·.2)))))
/-- a pairing -/
def pairB (one other : List Bar) (e : Int) : D → Bool
  | .tup xs => xs.all (npB one.length other.length) && pairP one other e (xs.map D.ij)
  | _ => false
def banP (mine others : List Bar) (e : Int) (ns : List Int) : Bool :=
  ns.all (fun n => longB (atB mine n) e) && decide ((others.filter fun b => ns.any fun n => fitB (atB mine n) b e).length < ns.length)
def banL (mine others : List Bar) (e : Int) (d : D) : Bool := lotB mine.length d && (match d with
  | .tup xs => banP mine others e (xs.map D.i)
  | _ => false)
/-- a ban -/
def banST (one other : List Bar) (e : Int) (s t : D) : Bool := match s with
  | .int i => if i = 0 then banL one other e t else if i = 1 then banL other one e t else false
  | _ => false
def banB (one other : List Bar) (e : Int) : D → Bool
  | .tup xs => match xs with
    | [s, t] => banST one other e s t
    | _ => false
  | _ => false
abbrev sp_is_lot (K : PySem.W.Frag) : DSpec := fun ds S _ => ∃ d n, ds = [d, .int n] ∧ d.pl = true ∧ S (.bl (lotB n d))
theorem ok_is_lot (K : PySem.W.Frag) : Okd 4 (r_is_lot K (sp_is_number K)) (sp_is_lot K) := by
  intro T ds S h
  obtain ⟨d, n, rfl, hp, hs⟩ := h
  have hst := pl_st hp
  cases d with
  | tup xs =>
    have ⟨hz, hx⟩ := pl_tup.mp hp
    wtm_at "w"
    refine Rd.tmap D.bl (inB 0 (n - 1)) id xs (List.map_id _).symm (fun x hx' S' k => ?_) ?_
    · have kx := hx x hx'
      wtm_at "w"
      refine calS_ok (by simp only [stills, List.all_cons, List.all_nil, id, pl_st kx]; rfl) ?_
      exact ⟨x, n - 1, rfl, plK kx, k⟩
    · wtm_at "w"
      rw [all_id]
      cases e : xs.all (inB 0 (n - 1)) with
      | false =>
        wtm_at "w"
        refine eqS hs ?_
        simp [lotB, e]
      | true =>
        obtain ⟨ns, rfl, hn⟩ := inB_ints e
        have hz' := hz
        rw [List.length_map] at hz'
        wtm_at "w"
        refine Rd.tmap D.bl (fun k => decide (ns.getD k 0 < ns.getD (k + 1) 0)) (fun k : Nat => D.int (1 + k)) (List.range (ns.length - 1)) ?_ (fun k hk S' k' => ?_) ?_
        · rw [show (((ns.map D.int).length : Int) - 1).toNat = ns.length - 1 by rw [List.length_map]; omega]
        · have hk' := List.mem_range.mp hk
          have g : ∀ (i : Int) (j : Nat), i = j → j < ns.length → atI (ns.map D.int) i = some (.int (ns.getD j 0)) := fun i j e hj => atI_of j e (by rw [List.getElem?_map, List.getElem?_eq_getElem hj, List.getD_eq_getElem?_getD, List.getElem?_eq_getElem hj]; rfl)
          wtm_at "w"
          refine ⟨_, g _ k (by omega) (by omega), ?_⟩
          wtm_at "w"
          refine ⟨_, g _ (k + 1) (by omega) (by omega), ?_⟩
          wtm_at "w"
          exact k'
        · wtm_at "w"
          rw [asc_range]
          refine eqS hs ?_
          simp only [lotB, e, Bool.true_and, ints_i]
  | pur => cases hp
  | any _ => cases hp
  | obj _ _ _ => cases hp
  | own _ => cases hst
  | odk _ _ => cases hst
  | _ =>
    wtm_at "w"
    exact hs
abbrev sp_is_number_pair (K : PySem.W.Frag) : DSpec := fun ds S _ => ∃ d m n, ds = [d, .int m, .int n] ∧ d.pl = true ∧ S (.bl (npB m n d))
theorem ok_is_number_pair (K : PySem.W.Frag) : Okd 3 (r_is_number_pair K (sp_is_number K)) (sp_is_number_pair K) := by
  intro T ds S h
  obtain ⟨d, m, n, rfl, hp, hs⟩ := h
  have hst := pl_st hp
  cases d with
  | tup xs =>
    have ⟨hz, hx⟩ := pl_tup.mp hp
    wtm_at "w"
    refine brB_p (fun hl => ?_) (fun hl => ?_)
    · wtm_at "w"
      refine eqS hs ?_
      have : xs.length ≠ 2 := fun e => hl (by rw [e]; rfl)
      match xs, this with
      | [], _ => rfl
      | [_], _ => rfl
      | _ :: _ :: _ :: _, _ => rfl
    · obtain ⟨s, t, rfl⟩ : ∃ s t, xs = [s, t] := by
        match xs, hl with
        | [s, t], _ => exact ⟨s, t, rfl⟩
        | [], hl => simp at hl
        | [_], hl => simp at hl
        | _ :: _ :: _ :: _, hl => simp at hl; omega
      have ks := hx s (by simp)
      have kt := hx t (by simp)
      wtm_at "w"
      refine calS_ok (by simp only [stills, List.all_cons, List.all_nil, pl_st ks]; rfl) ?_
      refine ⟨s, m - 1, rfl, plK ks, ?_⟩
      cases e : inB 0 (m - 1) s with
      | false =>
        wtm_at "w"
        refine eqS hs ?_
        simp [npB, e]
      | true =>
        wtm_at "w"
        refine calS_ok (by simp only [stills, List.all_cons, List.all_nil, pl_st kt]; rfl) ?_
        refine ⟨t, n - 1, rfl, plK kt, ?_⟩
        refine eqS hs ?_
        simp [npB, e]
  | pur => cases hp
  | any _ => cases hp
  | obj _ _ _ => cases hp
  | own _ => cases hst
  | odk _ _ => cases hst
  | _ =>
    wtm_at "w"
    exact hs
theorem st2 {one other : List Bar} {e : Int} {d : D} (h : d.still = true) : stills [.lst (one.map bD), .lst (other.map bD), .int e, d] = true := by
  simp only [stills, List.all_cons, List.all_nil, h]
  rfl
theorem getI (ps : List (Int × Int)) : ∀ (i : Int) (j : Nat), i = j → j < ps.length → atI (ps.map pD) i = some (pD (ps.getD j (0, 0))) := fun i j e hj => atI_of j e (by rw [List.getElem?_map, List.getElem?_eq_getElem hj, List.getD_eq_getElem?_getD, List.getElem?_eq_getElem hj]; rfl)
theorem getD_fst (ps : List (Int × Int)) (j : Nat) (h : j < ps.length) : (ps.getD j (0, 0)).1 = (ps.map (·.1)).getD j 0 := by
  rw [List.getD_eq_getElem?_getD, List.getD_eq_getElem?_getD, List.getElem?_map, List.getElem?_eq_getElem h]
  rfl
theorem any_not {α : Type} (xs : List α) (f g : α → Bool) : (xs.any fun x => f x && !g x) = !(xs.all fun x => !f x || g x) := by
  induction xs with
  | nil => rfl
  | cons x r ih =>
    simp only [List.any_cons, List.all_cons, ih]
    cases f x <;> cases g x <;> rfl
theorem asked_ok {one other : List Bar} {e : Int} {A B N : Prop} (h1 : BarsOk one) (h2 : BarsOk other) (e0 : 0 ≤ e) (e1 : e ≤ 2000) (h : A) : (D.lst (one.map bD)).pl = true ∧ (D.lst (other.map bD)).pl = true ∧ (D.int e).pl = true ∧ ((areBars (.lst (one.map bD)) && areBars (.lst (other.map bD))) = true → inB 0 2000 (.int e) = true → A) ∧ ((areBars (.lst (one.map bD)) && areBars (.lst (other.map bD))) = false → B) ∧ ((areBars (.lst (one.map bD)) && areBars (.lst (other.map bD))) = true → inB 0 2000 (.int e) = false → N) :=
  ⟨bars_pl h1, bars_pl h2, rfl, fun _ _ => h, fun q => (by rw [areBars_lst h1, areBars_lst h2] at q; cases q), fun _ q => (by simp [inB] at q; omega)⟩
abbrev sp_is_pairing (K : PySem.W.Frag) : DSpec := fun ds S _ => ∃ one other e d, ds = [.lst (one.map bD), .lst (other.map bD), .int e, d] ∧ BarsOk one ∧ BarsOk other ∧ (0 ≤ e ∧ e ≤ 2000) ∧ d.pl = true ∧ S (.bl (pairB one other e d))
theorem ok_is_pairing (K : PySem.W.Frag) (EB EN : Addr) : Okd 11 (r_is_pairing K (sp_check_asked K EB EN) (sp_is_number_pair K) sp_do_fit sp_is_long) (sp_is_pairing K) := by
  intro T ds S h
  obtain ⟨one, other, e, d, rfl, h1, h2, ⟨e0, e1⟩, hp, hs⟩ := h
  have hst := pl_st hp
  cases d with
  | tup xs =>
    have ⟨hz, hx⟩ := pl_tup.mp hp
    wtm_at "w"
    refine asked_ok h1 h2 e0 e1 ?_
    wtm_at "w"
    refine Rd.tmap D.bl (npB one.length other.length) id xs (List.map_id _).symm (fun x hx' S' k => ?_) ?_
    · have kx := hx x hx'
      wtm_at "w"
      refine calS_ok (by simp only [stills, List.all_cons, List.all_nil, id, pl_st kx]; rfl) ?_
      refine ⟨x, _, _, rfl, kx, ?_⟩
      simp only [List.length_map]
      exact k
    · wtm_at "w"
      rw [all_id]
      cases en : xs.all (npB one.length other.length) with
      | false =>
        wtm_at "w"
        refine eqS hs ?_
        simp only [pairB, en, Bool.false_and]
      | true =>
        obtain ⟨ps, rfl, hn⟩ := npB_pairs en
        have hs' : S (.bl (pairP one other e ps)) := by
          refine eqS hs ?_
          simp only [pairB, en, Bool.true_and, pD_ij]
        clear hs
        wtm_at "w"
        refine Rd.tmap D.bl (fun k => decide ((ps.map (·.1)).getD k 0 < (ps.map (·.1)).getD (k + 1) 0)) (fun k : Nat => D.int (1 + k)) (List.range ((ps.map (·.1)).length - 1)) ?_ (fun k hk S' k' => ?_) ?_
        · rw [show (((ps.map pD).length : Int) - 1).toNat = (ps.map (·.1)).length - 1 by rw [List.length_map, List.length_map]; omega]
        · have hk' := List.mem_range.mp hk
          rw [List.length_map] at hk'
          wtm_at "w"
          refine ⟨_, getI ps _ k (by omega) (by omega), ?_⟩
          wtm_at "w"
          refine ⟨_, getI ps _ (k + 1) (by omega) (by omega), ?_⟩
          wtm_at "w"
          rw [getD_fst _ _ (by omega), getD_fst _ _ (by omega)]
          exact k'
        · wtm_at "w"
          rw [asc_range]
          refine brB_n (fun ha => ?_) (fun ha => ?_)
          · wtm_at "w"
            refine eqS hs' ?_
            simp [pairP, ha]
          · wtm_at "w"
            refine Rd.tdck (fun p : Int × Int => p.2) (fun p => D.int p.1) pD ps rfl (fun _ _ => rfl) (fun p hp S' k => ?_) (fun ys hys hv => ?_)
            · wtm_at "w"
              exact k
            · wtm_at "w"
              refine brB_p (fun hl => ?_) (fun hl => ?_)
              · wtm_at "w"
                refine eqS hs' ?_
                have : ¬ (ps.map (·.2)).Nodup := fun q => by
                  have q2 := (keysI_len (ps.map (·.2))).2.mpr q
                  simp only [List.length_map] at q2 hl
                  omega
                simp [pairP, this]
              · have nd : (ps.map (·.2)).Nodup := (keysI_len (ps.map (·.2))).2.mp (by
                  have q2 := (keysI_len (ps.map (·.2))).1
                  simp only [List.length_map] at q2 hl ⊢
                  omega)
                wtm_at "w"
                refine Rd.tmap D.bl (fun p => fitB (atB one p.1) (atB other p.2) e) pD ps rfl (fun p hp S' k => ?_) ?_
                · obtain ⟨⟨p0, p1⟩, p2, p3⟩ := hn p hp
                  wtm_at "w"
                  refine ⟨_, atB_at p0 p1, ?_⟩
                  wtm_at "w"
                  refine ⟨_, atB_at p2 p3, ?_⟩
                  wtm_at "w"
                  exact k
                · wtm_at "w"
                  rw [all_id]
                  cases ef : ps.all (fun p => fitB (atB one p.1) (atB other p.2) e) with
                  | false =>
                    wtm_at "w"
                    refine eqS hs' ?_
                    simp [pairP, ef]
                  | true =>
                    wtm_at "w"
                    refine Rd.tmap D.int (fun p : Int × Int => p.1) pD ps rfl (fun p hp S' k => ?_) ?_
                    · wtm_at "w"
                      exact k
                    · wtm_at "w"
                      rw [numbered_map]
                      refine Rd.tmap D.bl (fun p : Bar × Nat => longB p.1 e && !decide (((p.2 : Nat) : Int) ∈ ps.map (·.1))) (fun p => D.tup [.int (p.2 : Nat), bD p.1]) one.zipIdx rfl (fun p hp S' k => ?_) ?_
                      · wtm_at "w"
                        cases el : longB p.1 e with
                        | false =>
                          wtm_at "w"
                          rw [el] at k
                          exact k
                        | true =>
                          wtm_at "w"
                          refine ⟨⟨rfl, flat_ints _⟩, ?_⟩
                          rw [any_int]
                          rw [el] at k
                          exact k
                      · wtm_at "w"
                        rw [any_id, any_not]
                        cases eo : one.zipIdx.all fun x => !longB x.1 e || decide (((x.2 : Nat) : Int) ∈ ps.map (·.1)) with
                        | false =>
                          wtm_at "w"
                          refine eqS hs' ?_
                          simp only [pairP, allLong, eo, Bool.false_and, Bool.and_false]
                        | true =>
                          wtm_at "w"
                          rw [numbered_map]
                          refine Rd.tmap D.bl (fun p : Bar × Nat => longB p.1 e && !decide (((p.2 : Nat) : Int) ∈ ps.map (·.2))) (fun p => D.tup [.int (p.2 : Nat), bD p.1]) other.zipIdx rfl (fun p hp S' k => ?_) ?_
                          · wtm_at "w"
                            cases el : longB p.1 e with
                            | false =>
                              wtm_at "w"
                              rw [el] at k
                              exact k
                            | true =>
                              wtm_at "w"
                              rw [el] at k
                              refine eqS k ?_
                              congr 2
                              rw [Bool.eq_iff_iff, dkGet_isSome hys.symm, mem_keysI, decide_eq_true_iff]
                              constructor
                              · rintro ⟨n, q1, q2⟩
                                rw [Sum.inl.inj q2]; exact q1
                              · exact fun q => ⟨_, q, rfl⟩
                          · wtm_at "w"
                            rw [any_id, any_not, Bool.not_not]
                            refine eqS hs' ?_
                            simp only [pairP, allLong, eo, ef, Bool.true_and, decide_eq_true ha, decide_eq_true nd]
  | pur => cases hp
  | any _ => cases hp
  | obj _ _ _ => cases hp
  | own _ => cases hst
  | odk _ _ => cases hst
  | _ =>
    wtm_at "w"
    refine asked_ok h1 h2 e0 e1 ?_
    wtm_at "w"
    exact hs
abbrev sp_is_ban (K : PySem.W.Frag) : DSpec := fun ds S _ => ∃ one other e d, ds = [.lst (one.map bD), .lst (other.map bD), .int e, d] ∧ BarsOk one ∧ BarsOk other ∧ (0 ≤ e ∧ e ≤ 2000) ∧ d.pl = true ∧ S (.bl (banB one other e d))
theorem ok_is_ban (K : PySem.W.Frag) (EB EN : Addr) : Okd 8 (r_is_ban K (sp_check_asked K EB EN) (sp_is_integer K) (sp_is_lot K) sp_is_long sp_do_fit) (sp_is_ban K) := by
  intro T ds S h
  obtain ⟨one, other, e, d, rfl, h1, h2, ⟨e0, e1⟩, hp, hs⟩ := h
  have hst := pl_st hp
  cases d with
  | tup xs =>
    have ⟨hz, hx⟩ := pl_tup.mp hp
    wtm_at "w"
    refine asked_ok h1 h2 e0 e1 ?_
    wtm_at "w"
    refine brB_p (fun hl => ?_) (fun hl => ?_)
    · wtm_at "w"
      refine eqS hs ?_
      have : xs.length ≠ 2 := fun e => hl (by rw [e]; rfl)
      match xs, this with
      | [], _ => rfl
      | [_], _ => rfl
      | _ :: _ :: _ :: _, _ => rfl
    · obtain ⟨s, t, rfl⟩ : ∃ s t, xs = [s, t] := by
        match xs, hl with
        | [s, t], _ => exact ⟨s, t, rfl⟩
        | [], hl => simp at hl
        | [_], hl => simp at hl
        | _ :: _ :: _ :: _, hl => simp at hl; omega
      have ks := hx s (by simp)
      have kt := hx t (by simp)
      have kts := pl_st kt
      wtm_at "w"
      refine calS_ok (by simp only [stills, List.all_cons, List.all_nil, pl_st ks]; rfl) ?_
      refine ⟨s, rfl, plK ks, ?_⟩
      cases s with
      | int i =>
        wtm_at "w"
        have hin : ([D.int 0, D.int 1].any fun e => e.eqv (D.int i)) = decide (i = 0 ∨ i = 1) := by
          simp only [List.any_cons, List.any_nil, D.eqv, Bool.or_false]
          by_cases q0 : i = 0
          · simp [q0]
          · by_cases q1 : i = 1
            · simp [q1]
            · have q2 : ¬ 0 = i := fun q => q0 q.symm
              have q3 : ¬ 1 = i := fun q => q1 q.symm
              simp [q0, q1, q2, q3]
        rw [hin]
        refine brB_n (fun q => ?_) (fun q => ?_)
        · wtm_at "w"
          refine eqS hs ?_
          have q0 : ¬ i = 0 := fun z => q (.inl z)
          have q1 : ¬ i = 1 := fun z => q (.inr z)
          simp [banB, banST, q0, q1]
        · wtm_at "w"
          refine brB_p (fun q0 => ?_) (fun q0 => ?_)
          · wtm_at "w"
            have hb : S (.bl (banL one other e t)) := by simpa [banB, banST, q0] using hs
            refine calS_ok (by simp only [stills, List.all_cons, List.all_nil, kts]; rfl) ?_
            refine ⟨t, _, rfl, kt, ?_⟩
            simp only [List.length_map]
            cases el : lotB one.length t with
            | false =>
              wtm_at "w"
              refine eqS hb ?_
              simp only [banL, el, Bool.false_and]
            | true =>
              cases t with
              | tup ts =>
                simp only [lotB, Bool.and_eq_true, decide_eq_true_iff] at el
                obtain ⟨ns, rfl, hn⟩ := inB_ints el.1
                have hb' : S (.bl (banP one other e ns)) := by
                  refine eqS hb ?_
                  simp only [banL, lotB, el.1, ints_i, Bool.true_and]
                  rw [ints_i] at el
                  rw [decide_eq_true el.2, Bool.true_and]
                wtm_at "w"
                refine Rd.tmap D.bl (fun n => longB (atB one n) e) D.int ns rfl (fun n hn' S' k => ?_) ?_
                · obtain ⟨n0, n1⟩ := hn n hn'
                  wtm_at "w"
                  refine ⟨_, atB_at n0 (by omega), ?_⟩
                  wtm_at "w"
                  exact k
                · wtm_at "w"
                  rw [all_id]
                  cases ea : ns.all (fun n => longB (atB one n) e) with
                  | false =>
                    wtm_at "w"
                    refine eqS hb' ?_
                    simp only [banP, ea, Bool.false_and]
                  | true =>
                    wtm_at "w"
                    refine Rd.tif bD id (fun b => ns.any fun n => fitB (atB one n) b e) bD other rfl (fun b hb1 S' A k1 k2 => ?_) ?_ (fun b => pl_st (bD_pl b))
                    · wtm_at "w"
                      refine Rd.tmap D.bl (fun n => fitB (atB one n) b e) D.int ns rfl (fun n hn' S'' k => ?_) ?_
                      · obtain ⟨n0, n1⟩ := hn n hn'
                        wtm_at "w"
                        refine ⟨_, atB_at n0 (by omega), ?_⟩
                        wtm_at "w"
                        exact k
                      · wtm_at "w"
                        rw [any_id]
                        cases ey : ns.any (fun n => fitB (atB one n) b e) with
                        | true =>
                          wtm_at "w"
                          exact k1 ey
                        | false =>
                          wtm_at "w"
                          exact k2 ey
                    · wtm_at "w"
                      refine eqS hb' ?_
                      simp only [banP, ea, Bool.true_and, List.map_id, List.length_map]
                      congr 1
                      rw [Bool.eq_iff_iff, decide_eq_true_iff, decide_eq_true_iff]
                      omega
              | _ => cases el
          · wtm_at "w"
            have hb : S (.bl (banL other one e t)) := by simpa [banB, banST, q0, q.resolve_left q0] using hs
            refine calS_ok (by simp only [stills, List.all_cons, List.all_nil, kts]; rfl) ?_
            refine ⟨t, _, rfl, kt, ?_⟩
            simp only [List.length_map]
            cases el : lotB other.length t with
            | false =>
              wtm_at "w"
              refine eqS hb ?_
              simp only [banL, el, Bool.false_and]
            | true =>
              cases t with
              | tup ts =>
                simp only [lotB, Bool.and_eq_true, decide_eq_true_iff] at el
                obtain ⟨ns, rfl, hn⟩ := inB_ints el.1
                have hb' : S (.bl (banP other one e ns)) := by
                  refine eqS hb ?_
                  simp only [banL, lotB, el.1, ints_i, Bool.true_and]
                  rw [ints_i] at el
                  rw [decide_eq_true el.2, Bool.true_and]
                wtm_at "w"
                refine Rd.tmap D.bl (fun n => longB (atB other n) e) D.int ns rfl (fun n hn' S' k => ?_) ?_
                · obtain ⟨n0, n1⟩ := hn n hn'
                  wtm_at "w"
                  refine ⟨_, atB_at n0 (by omega), ?_⟩
                  wtm_at "w"
                  exact k
                · wtm_at "w"
                  rw [all_id]
                  cases ea : ns.all (fun n => longB (atB other n) e) with
                  | false =>
                    wtm_at "w"
                    refine eqS hb' ?_
                    simp only [banP, ea, Bool.false_and]
                  | true =>
                    wtm_at "w"
                    refine Rd.tif bD id (fun b => ns.any fun n => fitB (atB other n) b e) bD one rfl (fun b hb1 S' A k1 k2 => ?_) ?_ (fun b => pl_st (bD_pl b))
                    · wtm_at "w"
                      refine Rd.tmap D.bl (fun n => fitB (atB other n) b e) D.int ns rfl (fun n hn' S'' k => ?_) ?_
                      · obtain ⟨n0, n1⟩ := hn n hn'
                        wtm_at "w"
                        refine ⟨_, atB_at n0 (by omega), ?_⟩
                        wtm_at "w"
                        exact k
                      · wtm_at "w"
                        rw [any_id]
                        cases ey : ns.any (fun n => fitB (atB other n) b e) with
                        | true =>
                          wtm_at "w"
                          exact k1 ey
                        | false =>
                          wtm_at "w"
                          exact k2 ey
                    · wtm_at "w"
                      refine eqS hb' ?_
                      simp only [banP, ea, Bool.true_and, List.map_id, List.length_map]
                      congr 1
                      rw [Bool.eq_iff_iff, decide_eq_true_iff, decide_eq_true_iff]
                      omega
              | _ => cases el
      | pur => cases ks
      | any _ => cases ks
      | obj _ _ _ => cases ks
      | own _ => cases pl_st ks
      | odk _ _ => cases pl_st ks
      | _ =>
        wtm_at "w"
        exact hs
  | pur => cases hp
  | any _ => cases hp
  | obj _ _ _ => cases hp
  | own _ => cases hst
  | odk _ _ => cases hst
  | _ =>
    wtm_at "w"
    refine asked_ok h1 h2 e0 e1 ?_
    wtm_at "w"
    exact hs
end K46

set_option maxRecDepth 100000
set_option maxHeartbeats 4000000
namespace K46
open PySem PySem.Spec PyProof.Rows L2 Dl Tb
local macro_rules | `(tactic| wtm_at "wh") => `(tactic| conv => whnf)
local macro_rules | `(tactic| wtm_at "ln") => `(tactic| (simp only [List.length_map, List.length_append, List.length_replicate, List.length_range, List.length_take, List.length_cons, List.length_nil, List.length_zip, sizeLine_eq]; omega))
local macro_rules | `(tactic| wtm_at "sd") => `(tactic| first | (with_reducible assumption) | (with_reducible rfl) | exact (rfl : (_ : Bool) = _) | omega | exact CMul.l (by omega) (by omega) | exact CMul.r (by omega) (by omega) | exact And.intro (by omega) (by omega) | exact Or.inl rfl | exact Or.inr rfl | exact Or.inr (And.intro rfl rfl) | exact And.intro rfl rfl | exact And.intro (fit_tII _ _) (fit_tII _ _) | exact And.intro (fit_tI _ _) (fit_tI _ _) | wtm_at "ln" | assumption)
local macro_rules | `(tactic| wtm_at "s1") => `(tactic| first
  | refine And.intro (show OkC _ _ _ by assumption) (And.intro rfl (Exists.intro _ (And.intro rfl ?_)))
  | (with_reducible first | refine Exists.intro _ (And.intro rfl ?_) | refine ⟨_, _, rfl, ?_⟩ | refine ⟨_, _, _, rfl, ?_⟩ | refine ⟨_, _, _, _, rfl, ?_⟩ | refine ⟨_, _, _, _, _, rfl, ?_⟩ | refine ⟨_, _, _, _, _, _, rfl, ?_⟩ | refine ⟨_, _, _, _, _, _, _, rfl, ?_⟩ | refine ⟨_, _, _, _, _, _, _, _, rfl, ?_⟩ | refine ⟨_, _, _, _, _, _, _, _, _, rfl, ?_⟩)
  | refine And.intro (by wtm_at "sd") ?_
  | (refine brB_t (by with_reducible assumption) ?_) | (refine brB_f (by with_reducible assumption) ?_) | (refine brB_xt (by with_reducible assumption) ?_) | (refine brB_xf (by with_reducible assumption) ?_)
  | (refine brB_pt (by first | (with_reducible assumption) | omega) ?_) | (refine brB_pf (by first | (with_reducible assumption) | omega) ?_) | (refine brB_nt (by first | (with_reducible assumption) | omega) ?_) | (refine brB_nf (by first | (with_reducible assumption) | omega) ?_))
local macro_rules | `(tactic| wtm_at "w") => `(tactic| (wtm_at "wh"; repeat (wtm_at "s1"; wtm_at "wh")))
/-! ### the law's drawings: bars, lists of bars, things within things -/
theorem whilP {t : RdT} {body : RdS} {T : XD} {δ : List (Option D)} {E : SE} (I : Nat → List (Option D) → Prop) (m0 : Nat) (h0 : I m0 δ) (hs : ∀ m δ', I m δ' → t T δ' fun b => brB b (body T δ' { E with nx := fun δ2 => ∃ m', m' < m ∧ I m' δ2, ct := fun δ2 => ∃ m', m' < m ∧ I m' δ2, bk := E.nx }) (E.nx δ')) : Rd.whilG t body T δ E := by
  unfold Rd.whilG
  exact ⟨I, m0, h0, hs⟩
abbrev sp_any : DSpec := fun ds S _ => ∃ xs, ds = [.pur, .lst xs] ∧ (0 < xs.length ∧ xs.length < 1000000) ∧ ∀ x ∈ xs, S x
theorem ok_l_some : Okd 2 (r_l_some spDraw) sp_any := by
  intro T ds S h
  obtain ⟨xs, rfl, ⟨h0, h1⟩, hs⟩ := h
  wtm_at "w"
  intro v v0 v1
  have hv : v.toNat < xs.length := by omega
  refine ⟨xs[v.toNat], atI_of v.toNat (by omega) (List.getElem?_eq_getElem hv), hs _ (List.getElem_mem hv)⟩
abbrev sp_l_fits : DSpec := fun ds S _ => ∃ a b e, ds = [bD a, bD b, .int e] ∧ S (.bl (fitB a b e))
theorem ok_l_fits : Okd 3 r_l_fits sp_l_fits := by
  intro T ds S h
  obtain ⟨⟨i, g⟩, ⟨j, k⟩, e, rfl, hs⟩ := h
  cases g <;> cases k <;> wtm_at "w"
  all_goals
    refine brB_p (fun h => ?_) (fun h => ?_)
    · wtm_at "w"
      refine eqS hs ?_
      have h' : ¬ (if i - j < 0 then -(i - j) else i - j) ≤ e := by omega
      simp [fitB, h']
    · have h' : (if i - j < 0 then -(i - j) else i - j) ≤ e := by omega
      wtm_at "w"
      refine eqS hs ?_
      simp [fitB, h']
abbrev sp_l_is_long : DSpec := fun ds S _ => ∃ a e, ds = [bD a, .int e] ∧ S (.bl (longB a e))
theorem ok_l_is_long : Okd 2 r_l_is_long sp_l_is_long := by
  intro T ds S h
  obtain ⟨⟨i, g⟩, e, rfl, hs⟩ := h
  cases g <;> wtm_at "w" <;> exact hs
/-- a bar within bounds -/
def BarW (w : Int) (b : Bar) : Prop := -w ≤ b.1 ∧ b.1 ≤ w ∧ b.1 ≤ 999 ∧ ∀ g, b.2 = some g → b.1 < g ∧ g ≤ w
theorem BarW.ok {w : Int} {b : Bar} (h : BarW w b) (hw : w ≤ 1000) : BarOk b := ⟨by have := h.1; omega, by have := h.2.2.1; omega, fun g e => by have := h.2.2.2 g e; omega⟩
abbrev sp_l_bar : DSpec := fun ds S _ => ∃ w, ds = [.pur, .int w] ∧ (1 ≤ w ∧ w ≤ 1000) ∧ ∀ b, BarW w b → S (bD b)
theorem ok_l_bar : Okd 3 (r_l_bar spDraw sp_any) sp_l_bar := by
  intro T ds S h
  obtain ⟨w, rfl, ⟨w0, w1⟩, hs⟩ := h
  wtm_at "w"
  intro v v0 v1
  wtm_at "w"
  intro u u0 u1
  wtm_at "w"
  refine brB_p (fun hu => ?_) (fun hu => ?_)
  · wtm_at "w"
    exact hs ((if 999 < v - w then 999 else v - w), none) ⟨by dsimp only; split <;> omega, by dsimp only; split <;> omega, by dsimp only; split <;> omega, fun g e => by cases e⟩
  · wtm_at "w"
    refine brB_p (fun hb => ?_) (fun hb => ?_)
    · wtm_at "w"
      exact hs ((if 999 < v - w then 999 else v - w), none) ⟨by dsimp only; split <;> omega, by dsimp only; split <;> omega, by dsimp only; split <;> omega, fun g e => by cases e⟩
    · wtm_at "w"
      intro x hx
      obtain ⟨z, rfl, z0⟩ : ∃ z, x = D.int z ∧ 1 ≤ z := by
        simp only [List.mem_cons, List.not_mem_nil, or_false] at hx
        rcases hx with rfl | rfl | rfl
        · exact ⟨_, rfl, by omega⟩
        · exact ⟨_, rfl, by omega⟩
        · exact ⟨_, rfl, by omega⟩
      wtm_at "w"
      intro y y0 y1
      wtm_at "w"
      refine hs (v - w, some (v - w + 1 + y)) ⟨by dsimp only; omega, by dsimp only; omega, by dsimp only; omega, fun g e => ?_⟩
      cases e
      dsimp only
      split at y1 <;> omega
abbrev sp_l_moved : DSpec := fun ds S _ => ∃ w b, ds = [.pur, bD b, .int w] ∧ (1 ≤ w ∧ w ≤ 1000) ∧ BarW w b ∧ ∀ b', BarW w b' → S (bD b')
theorem ok_l_moved : Okd 4 (r_l_moved spDraw) sp_l_moved := by
  intro T ds S h
  obtain ⟨w, ⟨i, g⟩, rfl, ⟨w0, w1⟩, ⟨b0, b1, b2, b3⟩, hs⟩ := h
  dsimp only at b0 b1 b2 b3
  cases g with
  | none =>
    wtm_at "w"
    intro v v0 v1
    wtm_at "w"
    generalize eb : (if (if i + v - 2 < w - 1 then i + v - 2 else w - 1) > -w then (if i + v - 2 < w - 1 then i + v - 2 else w - 1) else -w) = born
    have hb : -w ≤ born ∧ born ≤ w - 1 := by
      rw [← eb]
      split <;> split <;> omega
    exact hs (born, none) ⟨hb.1, by dsimp only; omega, by dsimp only; omega, fun g e => by cases e⟩
  | some j =>
    wtm_at "w"
    intro v v0 v1
    wtm_at "w"
    generalize eb : (if (if i + v - 2 < w - 1 then i + v - 2 else w - 1) > -w then (if i + v - 2 < w - 1 then i + v - 2 else w - 1) else -w) = born
    have hb : -w ≤ born ∧ born ≤ w - 1 := by
      rw [← eb]
      split <;> split <;> omega
    intro u u0 u1
    wtm_at "w"
    refine hs (born, some _) ⟨hb.1, by dsimp only; omega, by dsimp only; omega, fun g e => ?_⟩
    cases e
    dsimp only
    split <;> split <;> omega
abbrev sp_l_lists : DSpec := fun ds S _ => ∃ w m, ds = [.pur, .int w, .int m] ∧ (1 ≤ w ∧ w ≤ 1000) ∧ (0 ≤ m ∧ m ≤ 20) ∧ ∀ one other : List Bar, one.length ≤ m → other.length ≤ m → (∀ b ∈ one, BarW w b) → (∀ b ∈ other, BarW w b) → S (.tup [.lst (one.map bD), .lst (other.map bD)])
theorem ok_l_lists : Okd 7 (r_l_lists spDraw sp_l_bar sp_l_moved) sp_l_lists := by
  intro T ds S h
  obtain ⟨w, m, rfl, ⟨w0, w1⟩, ⟨m0, m1⟩, hs⟩ := h
  wtm_at "w"
  intro v v0 v1
  wtm_at "w"
  refine Rd.tsomeN bD (BarW w) _ _ rfl (fun x hx S' k => ?_) (fun one ho1 ho2 => ?_)
  · wtm_at "w"
    exact fun b hb => k b hb
  · have hol : (one.length : Int) ≤ m := by
      rw [ho1]
      simp only [List.length_range]
      omega
    wtm_at "w"
    refine Rd.for_ bD one (fun i δ' => ∃ (bs : List Bar) (a5 a6 : Option D), δ' = [some .pur, some (.int w), some (.int m), some (.lst (one.map bD)), some (.own (bs.map bD)), a5, a6] ∧ bs.length ≤ i ∧ ∀ b ∈ bs, BarW w b) rfl ⟨[], _, _, rfl, Nat.le_refl _, fun _ h => by cases h⟩ ?_ ?_
    · rintro i b δ' hb ⟨bs, a5, a6, rfl, hl, hbs⟩
      have hbw := ho2 b (List.mem_of_getElem? hb)
      have hi : i < one.length := (List.getElem?_eq_some_iff.mp hb).1
      wtm_at "w"
      intro u u0 u1
      wtm_at "w"
      refine brB_p (fun hu => ?_) (fun hu => ?_)
      · wtm_at "w"
        intro n n0 n1
        wtm_at "w"
        intro b' hb'
        wtm_at "w"
        simp only [List.length_map] at n1
        refine ⟨⟨n0, by omega, by rw [List.length_map, sizeLine_eq]; omega⟩, ?_⟩
        wtm_at "w"
        refine ⟨bs.take n.toNat ++ [b'] ++ bs.drop n.toNat, some (bD b), a6, by simp only [List.map_append, List.map_take, List.map_drop, List.map_cons, List.map_nil], ?_, fun c hc => ?_⟩
        · simp only [List.length_append, List.length_take, List.length_drop, List.length_singleton]
          omega
        · simp only [List.mem_append, List.mem_singleton] at hc
          rcases hc with (hc | hc) | hc
          · exact hbs c (List.mem_of_mem_take hc)
          · rw [hc]; exact hb'
          · exact hbs c (List.mem_of_mem_drop hc)
      · wtm_at "w"
        exact hbs
    · rintro δ' ⟨bs, a5, a6, rfl, hl, hbs⟩
      wtm_at "w"
      refine whilP (fun k δ' => ∃ (bs : List Bar), δ' = [some .pur, some (.int w), some (.int m), some (.lst (one.map bD)), some (.own (bs.map bD)), a5, a6] ∧ (bs.length : Int) ≤ m ∧ k = m.toNat - bs.length ∧ ∀ b ∈ bs, BarW w b) _ ⟨bs, rfl, by omega, rfl, hbs⟩ ?_
      rintro k δ' ⟨bs, rfl, hl, rfl, hbs⟩
      wtm_at "w"
      refine brB_p (fun hm => ?_) (fun hm => ?_)
      · wtm_at "w"
        intro u u0 u1
        simp only [List.length_map] at hm
        wtm_at "w"
        refine brB_p (fun hu => ?_) (fun hu => ?_)
        · wtm_at "w"
          intro b hb
          refine ⟨by rw [List.length_map, sizeLine_eq]; omega, ?_⟩
          wtm_at "w"
          refine ⟨m.toNat - (bs.length + 1), by omega, bs ++ [b], by simp, by simp; omega, by simp, fun c hc => ?_⟩
          simp only [List.mem_append, List.mem_singleton] at hc
          rcases hc with hc | hc
          · exact hbs c hc
          · rw [hc]; exact hb
        · wtm_at "w"
          exact hs one bs hol hl ho2 hbs
      · wtm_at "w"
        exact hs one bs hol hl ho2 hbs
abbrev sp_l_deep : DSpec := fun ds S _ => ds = [.pur] ∧ ∀ d : D, d.pl = true → S d
theorem ok_l_deep : Okd 3 (r_l_deep sp_any spDraw) sp_l_deep := by
  intro T ds S h
  obtain ⟨rfl, hs⟩ := h
  wtm_at "w"
  intro x hx
  have hxp : x.pl = true := by
    simp only [List.mem_cons, List.not_mem_nil, or_false] at hx
    rcases hx with rfl | rfl | rfl <;> rfl
  refine stS_ok (pl_st hxp) ?_
  wtm_at "w"
  intro v v0 v1
  wtm_at "w"
  refine Rd.for_ _ _ (fun i δ' => ∃ (d : D) (a2 : Option D), δ' = [some .pur, some d, a2] ∧ d.pl = true) rfl ⟨x, _, rfl, hxp⟩ ?_ ?_
  · rintro i y δ' hy ⟨d, a2, rfl, hd⟩
    have hst := pl_st hd
    wtm_at "w"
    intro u u0 u1
    wtm_at "w"
    refine brB_p (fun hu => ?_) (fun hu => ?_)
    · wtm_at "w"
      refine stiS_ok (by simp only [stills, List.all_cons, List.all_nil, hst]; rfl) ?_
      wtm_at "w"
      exact pl_lst.mpr ⟨by simp, fun z hz => by rw [List.mem_singleton.mp hz]; exact hd⟩
    · wtm_at "w"
      refine stiS_ok (by simp only [stills, List.all_cons, List.all_nil, hst]; rfl) ?_
      wtm_at "w"
      exact pl_tup.mpr ⟨by simp, fun z hz => by rw [List.mem_singleton.mp hz]; exact hd⟩
  · rintro δ' ⟨d, a2, rfl, hd⟩
    have hst := pl_st hd
    wtm_at "w"
    rw [frz_still hst]
    exact hs d hd
end K46

set_option maxRecDepth 100000
set_option maxHeartbeats 4000000
namespace K46
open PySem PySem.Spec PyProof.Rows L2 Dl Tb
local macro_rules | `(tactic| wtm_at "wh") => `(tactic| conv => whnf)
local macro_rules | `(tactic| wtm_at "ln") => `(tactic| (simp only [List.length_map, List.length_append, List.length_replicate, List.length_range, List.length_take, List.length_cons, List.length_nil, List.length_zip, sizeLine_eq]; omega))
local macro_rules | `(tactic| wtm_at "sd") => `(tactic| first | (with_reducible assumption) | (with_reducible rfl) | exact (rfl : (_ : Bool) = _) | omega | exact CMul.l (by omega) (by omega) | exact CMul.r (by omega) (by omega) | exact And.intro (by omega) (by omega) | exact Or.inl rfl | exact Or.inr rfl | exact Or.inr (And.intro rfl rfl) | exact And.intro rfl rfl | exact And.intro (fit_tII _ _) (fit_tII _ _) | exact And.intro (fit_tI _ _) (fit_tI _ _) | wtm_at "ln" | assumption)
local macro_rules | `(tactic| wtm_at "s1") => `(tactic| first
  | refine And.intro (show OkC _ _ _ by assumption) (And.intro rfl (Exists.intro _ (And.intro rfl ?_)))
  | (with_reducible first | refine Exists.intro _ (And.intro rfl ?_) | refine ⟨_, _, rfl, ?_⟩ | refine ⟨_, _, _, rfl, ?_⟩ | refine ⟨_, _, _, _, rfl, ?_⟩ | refine ⟨_, _, _, _, _, rfl, ?_⟩ | refine ⟨_, _, _, _, _, _, rfl, ?_⟩ | refine ⟨_, _, _, _, _, _, _, rfl, ?_⟩ | refine ⟨_, _, _, _, _, _, _, _, rfl, ?_⟩ | refine ⟨_, _, _, _, _, _, _, _, _, rfl, ?_⟩)
  | refine And.intro (by wtm_at "sd") ?_
  | (refine brB_t (by with_reducible assumption) ?_) | (refine brB_f (by with_reducible assumption) ?_) | (refine brB_xt (by with_reducible assumption) ?_) | (refine brB_xf (by with_reducible assumption) ?_)
  | (refine brB_pt (by first | (with_reducible assumption) | omega) ?_) | (refine brB_pf (by first | (with_reducible assumption) | omega) ?_) | (refine brB_nt (by first | (with_reducible assumption) | omega) ?_) | (refine brB_nf (by first | (with_reducible assumption) | omega) ?_))
local macro_rules | `(tactic| wtm_at "w") => `(tactic| (wtm_at "wh"; repeat (wtm_at "s1"; wtm_at "wh")))
/-! ### k46: the law's own words -/
abbrev sp_l_is_number (K : PySem.W.Frag) : DSpec := fun ds S _ => ∃ d n, ds = [d, .int n] ∧ d.pl = true ∧ S (.bl (inB 0 (n - 1) d))
theorem ok_l_is_number (K : PySem.W.Frag) : Okd 2 (r_l_is_number K) (sp_l_is_number K) := by
  intro T ds S h
  obtain ⟨d, n, rfl, hp, hs⟩ := h
  have hst := pl_st hp
  cases d with
  | int i =>
    wtm_at "w"
    refine brB_p (fun h1 => ?_) (fun h1 => ?_)
    · wtm_at "w"
      refine eqS hs ?_
      congr 1
      simp only [inB]
      rw [Bool.eq_iff_iff]
      simp
      omega
    · wtm_at "w"
      refine eqS hs ?_
      simp [inB]
      omega
  | pur => cases hp
  | any _ => cases hp
  | obj _ _ _ => cases hp
  | own _ => cases hst
  | odk _ _ => cases hst
  | _ =>
    wtm_at "w"
    exact hs
/-- one pair after the others, all of them read -/
theorem pairP_pre {one other : List Bar} {e : Int} {xs : List D} {ps : List (Int × Int)} {k : Nat} {x : D} (hk : k = ps.length) (hx : xs[k]? = some x) (ht : xs.take k = ps.map pD) (hbad : ∀ q, x = pD q → ((0 ≤ q.1 ∧ q.1 < one.length) ∧ 0 ≤ q.2 ∧ q.2 < other.length) → (∃ p, ps.getLast? = some p ∧ q.1 ≤ p.1) ∨ q.2 ∈ ps.map (·.2) ∨ fitB (atB one q.1) (atB other q.2) e = false) : pairB one other e (.tup xs) = false := by
  cases en : xs.all (npB one.length other.length) with
  | false => simp only [pairB, en, Bool.false_and]
  | true =>
    obtain ⟨qs, rfl, hn⟩ := npB_pairs en
    simp only [pairB, en, Bool.true_and, pD_ij]
    rw [List.getElem?_map] at hx
    obtain ⟨q, hq, rfl⟩ := Option.map_eq_some_iff.mp hx
    have hps : qs.take k = ps := by
      rw [← List.map_take] at ht
      have := congrArg (List.map D.ij) ht
      rwa [pD_ij, pD_ij] at this
    have hsplit : qs = ps ++ q :: qs.drop (k + 1) := by
      rw [← hps]
      have hk2 : k < qs.length := (List.getElem?_eq_some_iff.mp hq).1
      rw [← (List.getElem?_eq_some_iff.mp hq).2, List.getElem_cons_drop, List.take_append_drop]
    have hqm : q ∈ qs := List.mem_of_getElem? hq
    rcases hbad q rfl (hn q hqm) with ⟨p, hp, hle⟩ | hm | hf
    · have hpm : p ∈ ps := List.mem_of_getLast? hp
      have : ¬ (qs.map (·.1)).Pairwise (· < ·) := fun pw => by
        rw [hsplit, List.map_append, List.pairwise_append] at pw
        have := pw.2.2 p.1 (List.mem_map.mpr ⟨p, hpm, rfl⟩) q.1 (by simp)
        omega
      simp [pairP, this]
    · have : ¬ (qs.map (·.2)).Nodup := fun nd => by
        rw [hsplit, List.map_append, List.nodup_append] at nd
        exact nd.2.2 q.2 hm q.2 (by simp) rfl
      simp [pairP, this]
    · have : (qs.all fun p => fitB (atB one p.1) (atB other p.2) e) = false := by
        rw [← Bool.not_eq_true, List.all_eq_true]
        intro h
        rw [h q hqm] at hf
        cases hf
      simp [pairP, this]
theorem npB_bad {one other : List Bar} {e : Int} {xs : List D} {k : Nat} {x : D} (hx : xs[k]? = some x) (h : npB one.length other.length x = false) : pairB one other e (.tup xs) = false := by
  have : xs.all (npB one.length other.length) = false := by
    rw [← Bool.not_eq_true, List.all_eq_true]
    intro q
    rw [q x (List.mem_of_getElem? hx)] at h
    cases h
  simp only [pairB, this, Bool.false_and]
def lastI (ps : List (Int × Int)) : Int := match ps.getLast? with
  | some p => p.1
  | none => -1
theorem lastI_snoc (ps : List (Int × Int)) (q : Int × Int) : lastI (ps ++ [q]) = q.1 := by simp [lastI]
/-- what was read of a pairing stands -/
def PairI (one other : List Bar) (e : Int) (ps : List (Int × Int)) : Prop := (∀ p ∈ ps, (0 ≤ p.1 ∧ p.1 < one.length) ∧ 0 ≤ p.2 ∧ p.2 < other.length) ∧ (ps.map (·.1)).Pairwise (· < ·) ∧ (ps.map (·.2)).Nodup ∧ ∀ p ∈ ps, fitB (atB one p.1) (atB other p.2) e = true
theorem PairI.nil {one other : List Bar} {e : Int} : PairI one other e [] := ⟨fun _ h => (by cases h), List.Pairwise.nil, List.nodup_nil, fun _ h => (by cases h)⟩
theorem PairI.snoc {one other : List Bar} {e : Int} {ps : List (Int × Int)} {q : Int × Int} (h : PairI one other e ps) (h1 : (0 ≤ q.1 ∧ q.1 < one.length) ∧ 0 ≤ q.2 ∧ q.2 < other.length) (h2 : lastI ps < q.1) (h3 : q.2 ∉ ps.map (·.2)) (h4 : fitB (atB one q.1) (atB other q.2) e = true) : PairI one other e (ps ++ [q]) := by
  obtain ⟨g1, g2, g3, g4⟩ := h
  have mem : ∀ p ∈ ps ++ [q], p ∈ ps ∨ p = q := fun p hp => by simpa using hp
  refine ⟨fun p hp => (mem p hp).elim (g1 p) (fun z => z ▸ h1), ?_, ?_, fun p hp => (mem p hp).elim (g4 p) (fun z => z ▸ h4)⟩
  · rw [List.map_append, List.pairwise_append]
    refine ⟨g2, by simp, fun a ha b hb => ?_⟩
    simp only [List.map_cons, List.map_nil, List.mem_singleton] at hb
    subst hb
    cases ps using snocRec with
    | nil => cases ha
    | append_singleton ps p =>
      rw [lastI_snoc] at h2
      rw [List.map_append, List.pairwise_append] at g2
      rw [List.map_append, List.mem_append] at ha
      rcases ha with ha | ha
      · have := g2.2.2 a ha p.1 (by simp)
        omega
      · simp only [List.map_cons, List.map_nil, List.mem_singleton] at ha
        omega
  · rw [List.map_append, List.nodup_append]
    refine ⟨g3, by simp, fun a ha b hb => ?_⟩
    simp only [List.map_cons, List.map_nil, List.mem_singleton] at hb
    subst hb
    exact fun z => h3 (z ▸ ha)
theorem fil_any {α : Type} (xs : List α) (f g : α → Bool) : ((xs.filter fun x => !f x).map g).any id = xs.any fun x => g x && !f x := by
  induction xs with
  | nil => rfl
  | cons x r ih =>
    rw [List.filter_cons]
    cases e : f x
    · simp [ih, e]
    · simp [ih, e]
abbrev sp_l_is_pairing (K : PySem.W.Frag) : DSpec := fun ds S _ => ∃ one other e d, ds = [.lst (one.map bD), .lst (other.map bD), .int e, d] ∧ (BarsOk one ∧ BarsOk other) ∧ d.pl = true ∧ S (.bl (pairB one other e d))
theorem ok_l_is_pairing (K : PySem.W.Frag) : Okd 10 (r_l_is_pairing K (sp_l_is_number K) sp_l_fits sp_l_is_long) (sp_l_is_pairing K) := by
  intro T ds S h
  obtain ⟨one, other, e, d, rfl, ⟨h1, h2⟩, hp, hs⟩ := h
  have hst := pl_st hp
  cases d with
  | tup xs =>
    have ⟨hz, hx⟩ := pl_tup.mp hp
    have bad : pairB one other e (.tup xs) = false → S (.bl false) := fun q => by rw [q] at hs; exact hs
    wtm_at "w"
    refine Rd.for_ (fun d : D => d) xs (fun i δ' => ∃ (ps : List (Int × Int)) (a6 a7 a8 a9 : Option D), δ' = [some (.lst (one.map bD)), some (.lst (other.map bD)), some (.int e), some (.tup xs), some (.int (lastI ps)), some (.own ((ps.map (·.2)).map D.int)), a6, a7, a8, a9] ∧ ps.length = i ∧ xs.take i = ps.map pD ∧ PairI one other e ps) (List.map_id _).symm ⟨[], _, _, _, _, rfl, rfl, rfl, PairI.nil⟩ ?_ ?_
    · rintro i x δ' hxi ⟨ps, a6, a7, a8, a9, rfl, hl, ht, hI⟩
      have hxm := List.mem_of_getElem? hxi
      have hi : i < xs.length := (List.getElem?_eq_some_iff.mp hxi).1
      have hxp := hx x hxm
      have hxs := pl_st hxp
      cases en : npB one.length other.length x with
      | false =>
        have bad := bad (npB_bad hxi en)
        cases x with
        | tup ys =>
          have ⟨_, hy⟩ := pl_tup.mp hxp
          wtm_at "w"
          refine brB_p (fun hl => ?_) (fun hl => ?_)
          · wtm_at "w"
            exact bad
          · obtain ⟨s, t, rfl⟩ : ∃ s t, ys = [s, t] := by
              match ys, hl with
              | [s, t], _ => exact ⟨s, t, rfl⟩
              | [], hl => simp at hl
              | [_], hl => simp at hl
              | _ :: _ :: _ :: _, hl => simp at hl; omega
            have ks := hy s (by simp)
            have kt := hy t (by simp)
            wtm_at "w"
            refine calS_ok (by simp only [stills, List.all_cons, List.all_nil, pl_st ks]; rfl) ?_
            refine ⟨s, _, rfl, ks, ?_⟩
            simp only [List.length_map]
            cases e1 : inB 0 ((one.length : Int) - 1) s with
            | false =>
              wtm_at "w"
              exact bad
            | true =>
              wtm_at "w"
              refine calS_ok (by simp only [stills, List.all_cons, List.all_nil, pl_st kt]; rfl) ?_
              refine ⟨t, _, rfl, kt, ?_⟩
              simp only [List.length_map]
              have e2 : inB 0 ((other.length : Int) - 1) t = false := by simpa [npB, e1] using en
              rw [e2]
              wtm_at "w"
              exact bad
        | pur => cases hxp
        | any _ => cases hxp
        | obj _ _ _ => cases hxp
        | own _ => cases hxs
        | odk _ _ => cases hxs
        | _ =>
          wtm_at "w"
          exact bad
      | true =>
        obtain ⟨qs, e1, hq⟩ := npB_pairs (m := one.length) (n := other.length) (xs := [x]) (by simp [en])
        obtain ⟨q, rfl⟩ : ∃ q, x = pD q := by
          match qs, e1 with
          | [q], e1 => exact ⟨q, by simpa using e1⟩
          | [], e1 => exact absurd (congrArg List.length e1) (by simp)
          | _ :: _ :: _, e1 => exact absurd (congrArg List.length e1) (by simp)
        have hq : (0 ≤ q.1 ∧ q.1 < one.length) ∧ 0 ≤ q.2 ∧ q.2 < other.length := by
          match qs, e1, hq with
          | [q'], e1, hq =>
            have : q = q' := by
              have := List.cons.inj e1
              have := this.1
              simp only [pD] at this
              have := D.tup.inj this
              simp only [List.cons.injEq, D.int.injEq, and_true] at this
              exact Prod.ext this.1 this.2
            rw [this]
            exact hq q' (by simp)
          | [], e1, _ => exact absurd (congrArg List.length e1) (by simp)
          | _ :: _ :: _, e1, _ => exact absurd (congrArg List.length e1) (by simp)
        have b1 : inB 0 ((one.length : Int) - 1) (.int q.1) = true := by simp [inB]; omega
        have b2 : inB 0 ((other.length : Int) - 1) (.int q.2) = true := by simp [inB]; omega
        have pre := fun h => bad (pairP_pre (x := pD q) hl.symm hxi ht h)
        have hinj : ∀ q', pD q = pD q' → q = q' := fun q' z => by
          simp only [pD] at z
          have := D.tup.inj z
          simp only [List.cons.injEq, D.int.injEq, and_true] at this
          exact Prod.ext this.1 this.2
        wtm_at "w"
        simp only [List.length_map]
        rw [b1]
        wtm_at "w"
        simp only [List.length_map]
        rw [b2]
        wtm_at "w"
        refine brB_p (fun hle => ?_) (fun hle => ?_)
        · wtm_at "w"
          refine pre fun q' z _ => ?_
          rw [← hinj q' z]
          cases ps using snocRec with
          | nil =>
            have : lastI [] = -1 := rfl
            omega
          | append_singleton ps p =>
            rw [lastI_snoc] at hle
            exact .inl ⟨p, by simp, hle⟩
        · wtm_at "w"
          refine ⟨⟨rfl, flat_ints _⟩, ?_⟩
          rw [any_int]
          refine brB_p (fun hm => ?_) (fun hm => ?_)
          · wtm_at "w"
            refine pre fun q' z _ => ?_
            rw [← hinj q' z]
            exact .inr (.inl hm)
          · wtm_at "w"
            refine ⟨_, atB_at hq.1.1 hq.1.2, ?_⟩
            wtm_at "w"
            refine ⟨_, atB_at hq.2.1 hq.2.2, ?_⟩
            wtm_at "w"
            cases ef : fitB (atB one q.1) (atB other q.2) e with
            | false =>
              wtm_at "w"
              refine pre fun q' z _ => ?_
              rw [← hinj q' z]
              exact .inr (.inr ef)
            | true =>
              wtm_at "w"
              refine ⟨ps ++ [q], some (pD q), a7, a8, a9, by rw [lastI_snoc, List.map_append, List.map_append]; rfl, by simp [hl], ?_, hI.snoc hq (by omega) hm ef⟩
              rw [List.take_add_one, ht, hxi, List.map_append]
              rfl
    · rintro δ' ⟨ps, a6, a7, a8, a9, rfl, hl, ht, hI⟩
      rw [List.take_length] at ht
      subst ht
      obtain ⟨g1, g2, g3, g4⟩ := hI
      have np : (ps.map pD).all (npB one.length other.length) = true := by
        rw [List.all_eq_true]
        intro x hx
        obtain ⟨p, hp, rfl⟩ := List.mem_map.mp hx
        have := g1 p hp
        simp [pD, npB, inB]
        omega
      have ff : (ps.all fun p => fitB (atB one p.1) (atB other p.2) e) = true := List.all_eq_true.mpr g4
      have hs' : S (.bl (allLong one e (ps.map (·.1)) && allLong other e (ps.map (·.2)))) := by
        refine eqS hs ?_
        simp only [pairB, np, pD_ij, pairP, decide_eq_true g2, decide_eq_true g3, ff, Bool.true_and]
      wtm_at "w"
      refine Rd.tmap D.int (fun p : Int × Int => p.1) pD ps rfl (fun p hp S' k => ?_) ?_
      · wtm_at "w"
        exact k
      · wtm_at "w"
        rw [numbered_map]
        refine Rd.tif D.bl (fun p : Bar × Nat => longB p.1 e) (fun p => !decide (((p.2 : Nat) : Int) ∈ ps.map (·.1))) (fun p => D.tup [.int (p.2 : Nat), bD p.1]) one.zipIdx rfl (fun p hp S' A k1 k2 => ?_) ?_
        · wtm_at "w"
          refine ⟨⟨rfl, flat_ints _⟩, ?_⟩
          rw [any_int]
          cases em : decide (((p.2 : Nat) : Int) ∈ ps.map (·.1)) with
          | false =>
            wtm_at "w"
            exact k1 (by rw [em]; rfl)
          | true =>
            wtm_at "w"
            exact k2 (by rw [em]; rfl)
        · wtm_at "w"
          rw [fil_any, any_not]
          cases eo : one.zipIdx.all fun x => !longB x.1 e || decide (((x.2 : Nat) : Int) ∈ ps.map (·.1)) with
          | false =>
            wtm_at "w"
            refine eqS hs' ?_
            simp only [allLong, eo, Bool.false_and]
          | true =>
            wtm_at "w"
            rw [numbered_map]
            refine Rd.tif D.bl (fun p : Bar × Nat => longB p.1 e) (fun p => !decide (((p.2 : Nat) : Int) ∈ ps.map (·.2))) (fun p => D.tup [.int (p.2 : Nat), bD p.1]) other.zipIdx rfl (fun p hp S' A k1 k2 => ?_) ?_
            · wtm_at "w"
              refine ⟨⟨rfl, flat_ints _⟩, ?_⟩
              rw [any_int]
              cases em : decide (((p.2 : Nat) : Int) ∈ ps.map (·.2)) with
              | false =>
                wtm_at "w"
                exact k1 (by rw [em]; rfl)
              | true =>
                wtm_at "w"
                exact k2 (by rw [em]; rfl)
            · wtm_at "w"
              rw [fil_any, any_not, Bool.not_not]
              refine eqS hs' ?_
              simp only [allLong, eo, Bool.true_and]
  | pur => cases hp
  | any _ => cases hp
  | obj _ _ _ => cases hp
  | own _ => cases hst
  | odk _ _ => cases hst
  | _ =>
    wtm_at "w"
    exact hs
/-- what was read of a lot stands -/
def lastN (ns : List Int) : Int := match ns.getLast? with
  | some n => n
  | none => -1
theorem lastN_snoc (ns : List Int) (q : Int) : lastN (ns ++ [q]) = q := by simp [lastN]
def LotI (mine : List Bar) (e : Int) (ns : List Int) : Prop := (∀ n ∈ ns, 0 ≤ n ∧ n < mine.length) ∧ ns.Pairwise (· < ·) ∧ ∀ n ∈ ns, longB (atB mine n) e = true
theorem LotI.nil {mine : List Bar} {e : Int} : LotI mine e [] := ⟨fun _ h => (by cases h), List.Pairwise.nil, fun _ h => (by cases h)⟩
theorem LotI.snoc {mine : List Bar} {e : Int} {ns : List Int} {q : Int} (h : LotI mine e ns) (h1 : 0 ≤ q ∧ q < mine.length) (h2 : lastN ns < q) (h4 : longB (atB mine q) e = true) : LotI mine e (ns ++ [q]) := by
  obtain ⟨g1, g2, g4⟩ := h
  have mem : ∀ p ∈ ns ++ [q], p ∈ ns ∨ p = q := fun p hp => by simpa using hp
  refine ⟨fun p hp => (mem p hp).elim (g1 p) (fun z => z ▸ h1), ?_, fun p hp => (mem p hp).elim (g4 p) (fun z => z ▸ h4)⟩
  rw [List.pairwise_append]
  refine ⟨g2, by simp, fun a ha b hb => ?_⟩
  rw [List.mem_singleton.mp hb]
  cases ns using snocRec with
  | nil => cases ha
  | append_singleton ps p =>
    rw [lastN_snoc] at h2
    rw [List.pairwise_append] at g2
    rcases List.mem_append.mp ha with ha | ha
    · have := g2.2.2 a ha p (by simp)
      omega
    · rw [List.mem_singleton.mp ha]
      exact h2
theorem lot_bad {mine others : List Bar} {e : Int} {xs : List D} {k : Nat} {x : D} (hx : xs[k]? = some x) (h : inB 0 ((mine.length : Int) - 1) x = false) : banL mine others e (.tup xs) = false := by
  have : xs.all (inB 0 ((mine.length : Int) - 1)) = false := by
    rw [← Bool.not_eq_true, List.all_eq_true]
    intro q
    rw [q x (List.mem_of_getElem? hx)] at h
    cases h
  simp only [banL, lotB, this, Bool.false_and]
theorem lot_pre {mine others : List Bar} {e : Int} {xs : List D} {ns : List Int} {k : Nat} {q : Int} (hx : xs[k]? = some (.int q)) (ht : xs.take k = ns.map D.int) (hbad : (∃ p, ns.getLast? = some p ∧ q ≤ p) ∨ longB (atB mine q) e = false) : banL mine others e (.tup xs) = false := by
  cases en : xs.all (inB 0 ((mine.length : Int) - 1)) with
  | false => simp only [banL, lotB, en, Bool.false_and]
  | true =>
    obtain ⟨qs, rfl, hn⟩ := inB_ints en
    simp only [banL, lotB, en, Bool.true_and, ints_i]
    rw [List.getElem?_map] at hx
    obtain ⟨q', hq, e1⟩ := Option.map_eq_some_iff.mp hx
    cases e1
    have hps : qs.take k = ns := by
      rw [← List.map_take] at ht
      have := congrArg (List.map D.i) ht
      rwa [ints_i, ints_i] at this
    have hk2 : k < qs.length := (List.getElem?_eq_some_iff.mp hq).1
    have hsplit : qs = ns ++ q :: qs.drop (k + 1) := by
      rw [← hps, ← (List.getElem?_eq_some_iff.mp hq).2, List.getElem_cons_drop, List.take_append_drop]
    have hqm : q ∈ qs := List.mem_of_getElem? hq
    rcases hbad with ⟨p, hp, hle⟩ | hf
    · have hpm : p ∈ ns := List.mem_of_getLast? hp
      have : ¬ qs.Pairwise (· < ·) := fun pw => by
        rw [hsplit, List.pairwise_append] at pw
        have := pw.2.2 p hpm q (by simp)
        omega
      simp [this]
    · have : (qs.all fun n => longB (atB mine n) e) = false := by
        rw [← Bool.not_eq_true, List.all_eq_true]
        intro h
        rw [h q hqm] at hf
        cases hf
      simp [banP, this]
abbrev sp_l_is_ban (K : PySem.W.Frag) : DSpec := fun ds S _ => ∃ one other e d, ds = [.lst (one.map bD), .lst (other.map bD), .int e, d] ∧ (BarsOk one ∧ BarsOk other) ∧ d.pl = true ∧ S (.bl (banB one other e d))
theorem ok_l_is_ban (K : PySem.W.Frag) : Okd 12 (r_l_is_ban K (sp_l_is_number K) sp_l_is_long sp_l_fits) (sp_l_is_ban K) := by
  intro T ds S h
  obtain ⟨one, other, e, d, rfl, ⟨h1, h2⟩, hp, hs⟩ := h
  have hst := pl_st hp
  cases d with
  | tup xs =>
    have ⟨hz, hx⟩ := pl_tup.mp hp
    wtm_at "w"
    refine brB_p (fun hl => ?_) (fun hl => ?_)
    · wtm_at "w"
      refine eqS hs ?_
      have : xs.length ≠ 2 := fun e => hl (by rw [e]; rfl)
      match xs, this with
      | [], _ => rfl
      | [_], _ => rfl
      | _ :: _ :: _ :: _, _ => rfl
    · obtain ⟨s, t, rfl⟩ : ∃ s t, xs = [s, t] := by
        match xs, hl with
        | [s, t], _ => exact ⟨s, t, rfl⟩
        | [], hl => simp at hl
        | [_], hl => simp at hl
        | _ :: _ :: _ :: _, hl => simp at hl; omega
      have ks := hx s (by simp)
      have kt := hx t (by simp)
      have kts := pl_st kt
      clear hx hz hl
      wtm_at "w"
      refine calS_ok (by simp only [stills, List.all_cons, List.all_nil, pl_st ks]; rfl) ?_
      refine ⟨s, _, rfl, ks, ?_⟩
      cases e1 : inB 0 (2 - 1) s with
      | false =>
        wtm_at "w"
        refine eqS hs ?_
        cases s with
        | int i =>
          simp [inB] at e1
          have q0 : ¬ i = 0 := by omega
          have q1 : ¬ i = 1 := by omega
          simp [banB, banST, q0, q1]
        | _ => rfl
      | true =>
        obtain ⟨i0, rfl, hi0⟩ : ∃ i0, s = .int i0 ∧ (i0 = 0 ∨ i0 = 1) := by
          cases s with
          | int i =>
            simp [inB] at e1
            exact ⟨i, rfl, by omega⟩
          | _ => simp [inB] at e1
        by_cases q0 : i0 = 0
        · have hb : S (.bl (banL one other e t)) := by simpa [banB, banST, q0] using hs
          have hq0 : decide (i0 = 0) = true := decide_eq_true q0
          by_cases qt : ∃ ts, t = .tup ts
          · obtain ⟨ts, rfl⟩ := qt
            have bad : banL one other e (.tup ts) = false → S (.bl false) := fun q => by rw [q] at hb; exact hb
            have ⟨hz, hx⟩ := pl_tup.mp kt
            wtm_at "w"
            refine Rd.for_ (fun d : D => d) ts (fun i δ' => ∃ (ns : List Int) (a8 a9 a10 a11 : Option D), δ' = [some (.lst (one.map bD)), some (.lst (other.map bD)), some (.int e), some (.tup [.int i0, .tup ts]), some (.lst (one.map bD)), some (.lst (other.map bD)), some (.int (lastN ns)), some (.own ((ns.map (atB one)).map bD)), a8, a9, a10, a11] ∧ ns.length = i ∧ ts.take i = ns.map D.int ∧ LotI one e ns) (List.map_id _).symm ⟨[], _, _, _, _, rfl, rfl, rfl, LotI.nil⟩ ?_ ?_
            · rintro i x δ' hxi ⟨ns, a8, a9, a10, a11, rfl, hl, ht, hI⟩
              have hxm := List.mem_of_getElem? hxi
              have hi : i < ts.length := (List.getElem?_eq_some_iff.mp hxi).1
              have hxp := hx x hxm
              have hxs := pl_st hxp
              wtm_at "w"
              refine calS_ok (by simp only [stills, List.all_cons, List.all_nil, hxs]; rfl) ?_
              refine ⟨x, _, rfl, hxp, ?_⟩
              simp only [List.length_map]
              cases e1 : inB 0 ((one.length : Int) - 1) x with
              | false =>
                wtm_at "w"
                exact bad (lot_bad hxi e1)
              | true =>
                obtain ⟨q, rfl, q0, q1⟩ : ∃ q, x = .int q ∧ 0 ≤ q ∧ q < one.length := by
                  cases x with
                  | int q =>
                    simp [inB] at e1
                    exact ⟨q, rfl, by omega, by omega⟩
                  | _ => simp [inB] at e1
                wtm_at "w"
                refine brB_p (fun hle => ?_) (fun hle => ?_)
                · wtm_at "w"
                  refine bad (lot_pre hxi ht (.inl ?_))
                  cases ns using snocRec with
                  | nil =>
                    have : lastN [] = -1 := rfl
                    omega
                  | append_singleton ns p =>
                    rw [lastN_snoc] at hle
                    exact ⟨p, by simp, hle⟩
                · wtm_at "w"
                  refine ⟨_, atB_at q0 q1, ?_⟩
                  wtm_at "w"
                  cases ef : longB (atB one q) e with
                  | false =>
                    wtm_at "w"
                    exact bad (lot_pre hxi ht (.inr ef))
                  | true =>
                    wtm_at "w"
                    refine ⟨_, atB_at q0 q1, ?_⟩
                    wtm_at "w"
                    refine ⟨ns ++ [q], some (.int q), a9, a10, a11, by rw [lastN_snoc, List.map_append, List.map_append]; rfl, by simp [hl], ?_, hI.snoc ⟨q0, q1⟩ (by omega) ef⟩
                    rw [List.take_add_one, ht, hxi, List.map_append]
                    rfl
            · rintro δ' ⟨ns, a8, a9, a10, a11, rfl, hl, ht, hI⟩
              rw [List.take_length] at ht
              subst ht
              obtain ⟨g1, g2, g4⟩ := hI
              have np : (ns.map D.int).all (inB 0 ((one.length : Int) - 1)) = true := by
                rw [List.all_eq_true]
                intro x hx
                obtain ⟨p, hp, rfl⟩ := List.mem_map.mp hx
                have := g1 p hp
                simp [inB]
                omega
              have ff : (ns.all fun n => longB (atB one n) e) = true := List.all_eq_true.mpr g4
              have hs' : S (.bl (decide ((other.filter fun b => ns.any fun n => fitB (atB one n) b e).length < ns.length))) := by
                refine eqS hb ?_
                simp only [banL, lotB, np, ints_i, banP, decide_eq_true g2, ff, Bool.true_and]
              wtm_at "w"
              refine Rd.tif bD id (fun b => ns.any fun n => fitB (atB one n) b e) bD other rfl (fun b hb1 S' A k1 k2 => ?_) ?_ (fun b => pl_st (bD_pl b))
              · wtm_at "w"
                refine Rd.tmap D.bl (fun a => fitB a b e) bD (ns.map (atB one)) rfl (fun a hn' S'' k => ?_) ?_
                · wtm_at "w"
                  exact k
                · wtm_at "w"
                  rw [any_id, List.any_map]
                  cases ey : ns.any ((fun a => fitB a b e) ∘ atB one) with
                  | true =>
                    wtm_at "w"
                    exact k1 ey
                  | false =>
                    wtm_at "w"
                    exact k2 ey
              · wtm_at "w"
                refine eqS hs' ?_
                simp only [List.map_id, List.length_map]
                congr 1
                rw [Bool.eq_iff_iff, decide_eq_true_iff, decide_eq_true_iff]
                omega
          · have bad : S (.bl false) := by
              refine eqS hb ?_
              cases t <;> first | rfl | exact absurd ⟨_, rfl⟩ qt
            cases t with
            | pur => cases kt
            | any _ => cases kt
            | obj _ _ _ => cases kt
            | own _ => cases kts
            | odk _ _ => cases kts
            | tup ts => exact absurd ⟨_, rfl⟩ qt
            | _ =>
              wtm_at "w"
              exact bad
        · have hb : S (.bl (banL other one e t)) := by simpa [banB, banST, q0, hi0.resolve_left q0] using hs
          have hq0 : decide (i0 = 0) = false := decide_eq_false q0
          by_cases qt : ∃ ts, t = .tup ts
          · obtain ⟨ts, rfl⟩ := qt
            have bad : banL other one e (.tup ts) = false → S (.bl false) := fun q => by rw [q] at hb; exact hb
            have ⟨hz, hx⟩ := pl_tup.mp kt
            wtm_at "w"
            refine Rd.for_ (fun d : D => d) ts (fun i δ' => ∃ (ns : List Int) (a8 a9 a10 a11 : Option D), δ' = [some (.lst (one.map bD)), some (.lst (other.map bD)), some (.int e), some (.tup [.int i0, .tup ts]), some (.lst (other.map bD)), some (.lst (one.map bD)), some (.int (lastN ns)), some (.own ((ns.map (atB other)).map bD)), a8, a9, a10, a11] ∧ ns.length = i ∧ ts.take i = ns.map D.int ∧ LotI other e ns) (List.map_id _).symm ⟨[], _, _, _, _, rfl, rfl, rfl, LotI.nil⟩ ?_ ?_
            · rintro i x δ' hxi ⟨ns, a8, a9, a10, a11, rfl, hl, ht, hI⟩
              have hxm := List.mem_of_getElem? hxi
              have hi : i < ts.length := (List.getElem?_eq_some_iff.mp hxi).1
              have hxp := hx x hxm
              have hxs := pl_st hxp
              wtm_at "w"
              refine calS_ok (by simp only [stills, List.all_cons, List.all_nil, hxs]; rfl) ?_
              refine ⟨x, _, rfl, hxp, ?_⟩
              simp only [List.length_map]
              cases e1 : inB 0 ((other.length : Int) - 1) x with
              | false =>
                wtm_at "w"
                exact bad (lot_bad hxi e1)
              | true =>
                obtain ⟨q, rfl, q0, q1⟩ : ∃ q, x = .int q ∧ 0 ≤ q ∧ q < other.length := by
                  cases x with
                  | int q =>
                    simp [inB] at e1
                    exact ⟨q, rfl, by omega, by omega⟩
                  | _ => simp [inB] at e1
                wtm_at "w"
                refine brB_p (fun hle => ?_) (fun hle => ?_)
                · wtm_at "w"
                  refine bad (lot_pre hxi ht (.inl ?_))
                  cases ns using snocRec with
                  | nil =>
                    have : lastN [] = -1 := rfl
                    omega
                  | append_singleton ns p =>
                    rw [lastN_snoc] at hle
                    exact ⟨p, by simp, hle⟩
                · wtm_at "w"
                  refine ⟨_, atB_at q0 q1, ?_⟩
                  wtm_at "w"
                  cases ef : longB (atB other q) e with
                  | false =>
                    wtm_at "w"
                    exact bad (lot_pre hxi ht (.inr ef))
                  | true =>
                    wtm_at "w"
                    refine ⟨_, atB_at q0 q1, ?_⟩
                    wtm_at "w"
                    refine ⟨ns ++ [q], some (.int q), a9, a10, a11, by rw [lastN_snoc, List.map_append, List.map_append]; rfl, by simp [hl], ?_, hI.snoc ⟨q0, q1⟩ (by omega) ef⟩
                    rw [List.take_add_one, ht, hxi, List.map_append]
                    rfl
            · rintro δ' ⟨ns, a8, a9, a10, a11, rfl, hl, ht, hI⟩
              rw [List.take_length] at ht
              subst ht
              obtain ⟨g1, g2, g4⟩ := hI
              have np : (ns.map D.int).all (inB 0 ((other.length : Int) - 1)) = true := by
                rw [List.all_eq_true]
                intro x hx
                obtain ⟨p, hp, rfl⟩ := List.mem_map.mp hx
                have := g1 p hp
                simp [inB]
                omega
              have ff : (ns.all fun n => longB (atB other n) e) = true := List.all_eq_true.mpr g4
              have hs' : S (.bl (decide ((one.filter fun b => ns.any fun n => fitB (atB other n) b e).length < ns.length))) := by
                refine eqS hb ?_
                simp only [banL, lotB, np, ints_i, banP, decide_eq_true g2, ff, Bool.true_and]
              wtm_at "w"
              refine Rd.tif bD id (fun b => ns.any fun n => fitB (atB other n) b e) bD one rfl (fun b hb1 S' A k1 k2 => ?_) ?_ (fun b => pl_st (bD_pl b))
              · wtm_at "w"
                refine Rd.tmap D.bl (fun a => fitB a b e) bD (ns.map (atB other)) rfl (fun a hn' S'' k => ?_) ?_
                · wtm_at "w"
                  exact k
                · wtm_at "w"
                  rw [any_id, List.any_map]
                  cases ey : ns.any ((fun a => fitB a b e) ∘ atB other) with
                  | true =>
                    wtm_at "w"
                    exact k1 ey
                  | false =>
                    wtm_at "w"
                    exact k2 ey
              · wtm_at "w"
                refine eqS hs' ?_
                simp only [List.map_id, List.length_map]
                congr 1
                rw [Bool.eq_iff_iff, decide_eq_true_iff, decide_eq_true_iff]
                omega
          · have bad : S (.bl false) := by
              refine eqS hb ?_
              cases t <;> first | rfl | exact absurd ⟨_, rfl⟩ qt
            cases t with
            | pur => cases kt
            | any _ => cases kt
            | obj _ _ _ => cases kt
            | own _ => cases kts
            | odk _ _ => cases kts
            | tup ts => exact absurd ⟨_, rfl⟩ qt
            | _ =>
              wtm_at "w"
              exact bad
  | pur => cases hp
  | any _ => cases hp
  | obj _ _ _ => cases hp
  | own _ => cases hst
  | odk _ _ => cases hst
  | _ =>
    wtm_at "w"
    exact hs
end K46

set_option maxRecDepth 100000
set_option maxHeartbeats 4000000
namespace K46
open PySem PySem.Spec PyProof.Rows L2 Dl Tb
local macro_rules | `(tactic| wtm_at "wh") => `(tactic| conv => whnf)
local macro_rules | `(tactic| wtm_at "ln") => `(tactic| (simp only [List.length_map, List.length_append, List.length_replicate, List.length_range, List.length_take, List.length_cons, List.length_nil, List.length_zip, sizeLine_eq]; omega))
local macro_rules | `(tactic| wtm_at "sd") => `(tactic| first | (with_reducible assumption) | (with_reducible rfl) | exact (rfl : (_ : Bool) = _) | omega | exact CMul.l (by omega) (by omega) | exact CMul.r (by omega) (by omega) | exact And.intro (by omega) (by omega) | exact Or.inl rfl | exact Or.inr rfl | exact Or.inr (And.intro rfl rfl) | exact And.intro rfl rfl | exact And.intro (fit_tII _ _) (fit_tII _ _) | exact And.intro (fit_tI _ _) (fit_tI _ _) | wtm_at "ln" | assumption)
local macro_rules | `(tactic| wtm_at "s1") => `(tactic| first
  | refine And.intro (show OkC _ _ _ by assumption) (And.intro rfl (Exists.intro _ (And.intro rfl ?_)))
  | (with_reducible first | refine Exists.intro _ (And.intro rfl ?_) | refine ⟨_, _, rfl, ?_⟩ | refine ⟨_, _, _, rfl, ?_⟩ | refine ⟨_, _, _, _, rfl, ?_⟩ | refine ⟨_, _, _, _, _, rfl, ?_⟩ | refine ⟨_, _, _, _, _, _, rfl, ?_⟩ | refine ⟨_, _, _, _, _, _, _, rfl, ?_⟩ | refine ⟨_, _, _, _, _, _, _, _, rfl, ?_⟩ | refine ⟨_, _, _, _, _, _, _, _, _, rfl, ?_⟩)
  | refine And.intro (by wtm_at "sd") ?_
  | (refine brB_t (by with_reducible assumption) ?_) | (refine brB_f (by with_reducible assumption) ?_) | (refine brB_xt (by with_reducible assumption) ?_) | (refine brB_xf (by with_reducible assumption) ?_)
  | (refine brB_pt (by first | (with_reducible assumption) | omega) ?_) | (refine brB_pf (by first | (with_reducible assumption) | omega) ?_) | (refine brB_nt (by first | (with_reducible assumption) | omega) ?_) | (refine brB_nf (by first | (with_reducible assumption) | omega) ?_))
local macro_rules | `(tactic| wtm_at "w") => `(tactic| (wtm_at "wh"; repeat (wtm_at "s1"; wtm_at "wh")))
/-! ### k46: the law's things, the law -/
theorem pl_tupL {xs : List D} (h : xs.length ≤ 1000) (k : ∀ x ∈ xs, x.pl = true) : (D.tup xs).pl = true := pl_tup.mpr ⟨by omega, k⟩
theorem pl_lstL {xs : List D} (h : xs.length ≤ 1000) (k : ∀ x ∈ xs, x.pl = true) : (D.lst xs).pl = true := pl_lst.mpr ⟨by omega, k⟩
theorem pD_pl (p : Int × Int) : (pD p).pl = true := rfl
theorem pDs_pl (ps : List (Int × Int)) : ∀ x ∈ ps.map pD, x.pl = true := fun x h => by
  obtain ⟨p, _, rfl⟩ := List.mem_map.mp h
  rfl
theorem tI_pl {l : List Int} (h : l.length ≤ 1000) : (tI l).pl = true := pl_tupL (by rw [List.length_map]; exact h) (pl_ints l)
abbrev sp_l_is_flag : DSpec := fun ds S _ => ∃ a b, ds = [.bl a, .bl b] ∧ S (.bl (a == b))
theorem ok_l_is_flag (K : PySem.W.Frag) : Okd 2 (r_l_is_flag K) sp_l_is_flag := by
  intro T ds S h
  obtain ⟨a, b, rfl, hs⟩ := h
  cases a <;> cases b <;> wtm_at "w" <;> exact hs
abbrev sp_l_lots : DSpec := fun ds S _ => ∃ n, ds = [.int n] ∧ (0 ≤ n ∧ n ≤ 10) ∧ ∀ ls : List (List Int), ls.length ≤ 1024 → (∀ l ∈ ls, l.length ≤ 4) → S (.lst (ls.map tI))
theorem ok_l_lots : Okd 4 r_l_lots sp_l_lots := by
  intro T ds S h
  obtain ⟨n, rfl, ⟨n0, n1⟩, hs⟩ := h
  wtm_at "w"
  refine Rd.for_ _ _ (fun i δ' => ∃ (ls : List (List Int)) (a2 a3 : Option D), δ' = [some (.int n), some (.lst (ls.map tI)), a2, a3] ∧ ls.length ≤ 2 ^ i ∧ ∀ l ∈ ls, l.length ≤ 4) rfl ⟨[[]], _, _, rfl, by simp, fun l hl => by rw [List.mem_singleton.mp hl]; simp⟩ ?_ ?_
  · rintro i y δ' hy ⟨ls, a2, a3, rfl, hl, h4⟩
    have hi : i < n.toNat := by
      have := (List.getElem?_eq_some_iff.mp hy).1
      simpa using this
    have h2 : 2 ^ i ≤ 512 := by
      have : 2 ^ i ≤ 2 ^ 9 := Nat.pow_le_pow_right (by omega) (by omega)
      simpa using this
    obtain ⟨z, rfl⟩ : ∃ z : Int, z = 0 + (y : Int) := ⟨_, rfl⟩
    wtm_at "w"
    refine Rd.tif tI (fun l => l ++ [(0 + (y : Int))]) (fun l => decide (l.length < 4)) tI ls rfl (fun l hl' S' A k1 k2 => ?_) ?_
    · wtm_at "w"
      refine brB_p (fun h => ?_) (fun h => ?_)
      · have h' : l.length < 4 := by simp only [List.length_map] at h; omega
        wtm_at "w"
        refine eqS (k1 (decide_eq_true h')) ?_
        simp [tI]
      · have h' : ¬ l.length < 4 := by simp only [List.length_map] at h; omega
        exact k2 (decide_eq_false h')
    · have hlen : ((ls.filter fun l => decide (l.length < 4)).map fun l => l ++ [(0 + (y : Int))]).length ≤ ls.length := by rw [List.length_map]; exact List.length_filter_le ..
      wtm_at "w"
      refine ⟨by rw [List.length_map, List.length_map, sizeLine_eq]; omega, ?_⟩
      wtm_at "w"
      refine ⟨ls ++ ((ls.filter fun l => decide (l.length < 4)).map fun l => l ++ [(0 + (y : Int))]), some (.int _), a3, by rw [List.map_append], ?_, fun l hl' => ?_⟩
      · rw [List.length_append, Nat.pow_succ]
        omega
      · rcases List.mem_append.mp hl' with h | h
        · exact h4 l h
        · obtain ⟨k, hk, rfl⟩ := List.mem_map.mp h
          have := of_decide_eq_true (List.mem_filter.mp hk).2
          simp
          omega
  · rintro δ' ⟨ls, a2, a3, rfl, hl, h4⟩
    wtm_at "w"
    refine hs ls (Nat.le_trans hl ?_) h4
    have : (List.range n.toNat).length ≤ 10 := by simp; omega
    have : 2 ^ (List.range n.toNat).length ≤ 2 ^ 10 := Nat.pow_le_pow_right (by omega) this
    simpa using this
theorem at_last {α : Type} (xs : List α) (x : α) : atI (xs ++ [x]) (-1) = some x := by
  have h : (-1 + ((xs.length : Int) + 1)).toNat = xs.length := by omega
  have h2 : (1 : Int) ≤ xs.length + 1 := by omega
  unfold atI
  simp [ixN, h, h2]
abbrev sp_l_drawn : DSpec := fun ds S _ => ∃ (one other : List Bar) (e : Int), ds = [.pur, .lst (one.map bD), .lst (other.map bD), .int e] ∧ one.length ≤ 20 ∧ other.length ≤ 20 ∧ ∀ ps : List (Int × Int), ps.length ≤ one.length → S (.lst (ps.map pD))
theorem ok_l_drawn : Okd 11 (r_l_drawn sp_l_fits spDraw sp_any) sp_l_drawn := by
  intro T ds S h
  obtain ⟨one, other, e, rfl, ho, hp, hs⟩ := h
  wtm_at "w"
  rw [numbered_map]
  refine Rd.for_ (fun p : Bar × Nat => D.tup [.int (p.2 : Nat), bD p.1]) one.zipIdx (fun i δ' => ∃ (ps : List (Int × Int)) (us : List Int) (a6 a7 a8 a9 a10 : Option D), δ' = [some .pur, some (.lst (one.map bD)), some (.lst (other.map bD)), some (.int e), some (.own (ps.map pD)), some (.own (us.map D.int)), a6, a7, a8, a9, a10] ∧ ps.length ≤ i ∧ us.length ≤ i) rfl ⟨[], [], _, _, _, _, _, rfl, Nat.le_refl _, Nat.le_refl _⟩ ?_ ?_
  · rintro i ⟨b, at_⟩ δ' hb ⟨ps, us, a6, a7, a8, a9, a10, rfl, hl, hu⟩
    have hi : i < 20 := by
      have := (List.getElem?_eq_some_iff.mp hb).1
      rw [List.length_zipIdx] at this
      omega
    wtm_at "w"
    rw [numbered_map]
    refine Rd.tif (fun p : Bar × Nat => D.int (p.2 : Nat)) id (fun p : Bar × Nat => !decide (((p.2 : Nat) : Int) ∈ us) && fitB b p.1 e) (fun p => D.tup [.int (p.2 : Nat), bD p.1]) other.zipIdx rfl (fun p hp' S' A k1 k2 => ?_) ?_
    · wtm_at "w"
      refine ⟨⟨rfl, flat_ints _⟩, ?_⟩
      rw [any_int]
      cases em : decide (((p.2 : Nat) : Int) ∈ us) with
      | true =>
        wtm_at "w"
        exact k2 (by rw [em]; rfl)
      | false =>
        wtm_at "w"
        cases ef : fitB b p.1 e with
        | true =>
          wtm_at "w"
          exact k1 (by rw [em, ef]; rfl)
        | false =>
          wtm_at "w"
          exact k2 (by rw [em, ef]; rfl)
    · rw [List.map_id]
      obtain ⟨fs, efs⟩ : ∃ fs : List Int, fs = (other.zipIdx.filter fun p => !decide (((p.2 : Nat) : Int) ∈ us) && fitB b p.1 e).map fun p => ((p.2 : Nat) : Int) := ⟨_, rfl⟩
      have efd : ((other.zipIdx.filter fun p => !decide (((p.2 : Nat) : Int) ∈ us) && fitB b p.1 e).map fun p => D.int (p.2 : Nat)) = fs.map D.int := by rw [efs, List.map_map]; rfl
      have hfl : fs.length ≤ 20 := by
        rw [efs, List.length_map]
        have := List.length_filter_le (fun p : Bar × Nat => !decide (((p.2 : Nat) : Int) ∈ us) && fitB b p.1 e) other.zipIdx
        rw [List.length_zipIdx] at this
        omega
      rw [efd]
      wtm_at "w"
      refine brB_p (fun h0 => ?_) (fun h0 => ?_)
      · wtm_at "w"
        intro v v0 v1
        wtm_at "w"
        refine brB_p (fun h1 => ?_) (fun h1 => ?_)
        · wtm_at "w"
          simp only [List.length_map] at h0
          refine ⟨⟨by rw [List.length_map]; omega, by rw [List.length_map]; omega⟩, fun x hx => ?_⟩
          obtain ⟨z, _, rfl⟩ := List.mem_map.mp hx
          wtm_at "w"
          refine ⟨_, at_last _ _, ?_⟩
          wtm_at "w"
          refine ⟨ps ++ [(_, z)], us ++ [z], some (.int _), some (bD b), some (.lst _), a9, a10, by rw [List.map_append, List.map_append]; rfl, by simp; omega, by simp; omega⟩
        · wtm_at "w"
          exact Nat.le_succ_of_le hu
      · wtm_at "w"
        exact Nat.le_succ_of_le hu
  · rintro δ' ⟨ps, us, a6, a7, a8, a9, a10, rfl, hl, hu⟩
    wtm_at "w"
    exact hs ps (by rw [List.length_zipIdx] at hl; exact hl)
theorem sortP {S : D → Prop} {xs : List D} {ps : List (Int × Int)} (e : xs = ps.map pD) (h : ∀ qs : List (List Int), qs.length = ps.length → (∀ q ∈ qs, q.length = 2) → S (.lst (qs.map tI))) : Bi.sorted [.lst xs] S := by
  subst e
  unfold Bi.sorted
  refine ⟨_, _, rfl, .lst _, .inr ⟨ps.map fun p => [p.1, p.2], by rw [List.map_map]; rfl, fun b hb => ?_, fun cs pm _ => h cs (by rw [pm.length_eq, List.length_map]) fun q hq => ?_⟩⟩
  · obtain ⟨p, _, rfl⟩ := List.mem_map.mp hb
    simp
  · obtain ⟨p, _, rfl⟩ := List.mem_map.mp (pm.mem_iff.mp hq)
    rfl
theorem tIs_pl {qs : List (List Int)} (h : ∀ q ∈ qs, q.length = 2) : ∀ x ∈ qs.map tI, x.pl = true := fun x hx => by
  obtain ⟨q, hq, rfl⟩ := List.mem_map.mp hx
  exact tI_pl (by have := h q hq; omega)
abbrev sp_l_bent : DSpec := fun ds S _ => ∃ (ps : List (Int × Int)) (m n : Int), ds = [.pur, .lst (ps.map pD), .int m, .int n] ∧ ps.length ≤ 20 ∧ (0 ≤ m ∧ m ≤ 20) ∧ (0 ≤ n ∧ n ≤ 20) ∧ ∀ d : D, d.pl = true → S d
theorem ok_l_bent : Okd 10 (r_l_bent spDraw sp_any) sp_l_bent := by
  intro T ds S h
  obtain ⟨ps, m, n, rfl, hl, ⟨m0, m1⟩, ⟨n0, n1⟩, hs⟩ := h
  have hpl := pDs_pl ps
  have stl : ∀ qs : List (List Int), qs.length ≤ 100 → (∀ q ∈ qs, q.length = 2) → S (.tup (qs.map tI)) := fun qs h1 h2 => hs _ (pl_tupL (by rw [List.length_map]; omega) (tIs_pl h2))
  have stp : ∀ qs : List (Int × Int), qs.length ≤ 100 → S (.tup (qs.map pD)) := fun qs h1 => hs _ (pl_tupL (by rw [List.length_map]; omega) (pDs_pl qs))
  wtm_at "w"
  simp only [List.length_map]
  intro at_ at0 at1
  wtm_at "w"
  intro x x0 x1
  wtm_at "w"
  intro y y0 y1
  wtm_at "w"
  intro way w0 w1
  wtm_at "w"
  have first : ∀ {S' : D → Prop}, (∀ qs : List (List Int), qs.length ≤ 100 → (∀ q ∈ qs, q.length = 2) → S' (.lst (qs.map tI))) → ∀ (rs : List (Int × Int)) (q : Int × Int), rs.length ≤ 20 → Bi.sorted [.lst (rs.map pD ++ [pD q])] S' := fun {S'} k rs q hr => sortP (ps := rs ++ [q]) (by rw [List.map_append]; rfl) fun qs h1 h2 => k qs (by rw [h1, List.length_append]; show rs.length + 1 ≤ _; omega) h2
  refine brB_p (fun h0 => ?_) (fun h0 => ?_)
  · wtm_at "w"
    refine first (fun qs h1 h2 => ?_) ps (x - 1, y - 1) hl
    wtm_at "w"
    exact stl qs h1 h2
  · wtm_at "w"
    refine brB_p (fun h1 => ?_) (fun h1 => ?_)
    · wtm_at "w"
      refine first (fun qs h1 h2 => ?_) ps (x - 1, y - 1) hl
      wtm_at "w"
      exact stl qs h1 h2
    · have hne : 0 < ps.length := by simp only [List.length_map] at h1; omega
      wtm_at "w"
      have hix : ∃ q, q ∈ ps ∧ atI (ps.map pD) (if ((ps.map pD).length : Int) - 1 < at_ then ((ps.map pD).length : Int) - 1 else at_) = some (pD q) := by
        generalize ej : (if ((ps.map pD).length : Int) - 1 < at_ then ((ps.map pD).length : Int) - 1 else at_) = j
        have hj : 0 ≤ j ∧ j < ps.length := by
          rw [List.length_map] at ej
          split at ej <;> omega
        have hj' : j.toNat < ps.length := by omega
        exact ⟨ps[j.toNat], List.getElem_mem hj', atI_of j.toNat (by omega) (by rw [List.getElem?_map, List.getElem?_eq_getElem hj']; rfl)⟩
      obtain ⟨q, hq, hix⟩ := hix
      refine ⟨_, hix, ?_⟩
      wtm_at "w"
      refine Rd.tif pD id (fun p => !(pD p).eqv (pD q)) pD ps rfl (fun p hp S' A k1 k2 => ?_) ?_
      · wtm_at "w"
        cases e : (pD p).eqv (pD q) with
        | true =>
          wtm_at "w"
          exact k2 (by rw [e]; rfl)
        | false =>
          wtm_at "w"
          exact k1 (by rw [e]; rfl)
      · have hf : (ps.filter fun p => !(pD p).eqv (pD q)).length ≤ 20 := Nat.le_trans (List.length_filter_le ..) hl
        rw [List.map_id]
        generalize (ps.filter fun p => !(pD p).eqv (pD q)) = fs at hf
        wtm_at "w"
        refine brB_p (fun h2 => ?_) (fun h2 => ?_)
        · wtm_at "w"
          exact stp fs (by omega)
        · wtm_at "w"
          refine brB_p (fun h3 => ?_) (fun h3 => ?_)
          · wtm_at "w"
            refine first (fun qs h1 h2 => ?_) fs (x - 1, y - 1) hf
            wtm_at "w"
            exact stl qs h1 h2
          · wtm_at "w"
            refine brB_p (fun h4 => ?_) (fun h4 => ?_)
            · wtm_at "w"
              refine eqS (stp ps.reverse (by simp; omega)) ?_
              rw [List.map_reverse]
            · wtm_at "w"
              refine brB_p (fun h5 => ?_) (fun h5 => ?_)
              · wtm_at "w"
                refine first (fun qs h1 h2 => ?_) ps q hl
                wtm_at "w"
                exact stl qs h1 h2
              · wtm_at "w"
                refine brB_p (fun h6 => ?_) (fun h6 => ?_)
                · wtm_at "w"
                  exact hs _ (pl_lstL (by rw [List.length_map]; omega) hpl)
                · wtm_at "w"
                  refine brB_p (fun h7 => ?_) (fun h7 => ?_)
                  · wtm_at "w"
                    intro z hz
                    have hzp : z.pl = true := by
                      simp only [List.mem_cons, List.not_mem_nil, or_false] at hz
                      rcases hz with rfl | rfl | rfl | rfl | rfl | rfl <;> rfl
                    wtm_at "w"
                    refine stiS_ok (by simp only [stills, List.all_cons, List.all_nil, pl_st hzp]; rfl) ?_
                    wtm_at "w"
                    refine hs _ (pl_tupL (by rw [List.length_append, List.length_map]; show fs.length + 1 ≤ _; omega) fun u hu => ?_)
                    rcases List.mem_append.mp hu with hu | hu
                    · exact pDs_pl fs u hu
                    · rw [List.mem_singleton.mp hu]; exact hzp
                  · wtm_at "w"
                    refine brB_p (fun h8 => ?_) (fun h8 => ?_)
                    · wtm_at "w"
                      refine hs _ (pl_tupL (by rw [List.length_append, List.length_map]; show 1 + fs.length ≤ _; omega) fun u hu => ?_)
                      rcases List.mem_append.mp hu with hu | hu
                      · rw [List.mem_singleton.mp hu]; rfl
                      · exact pDs_pl fs u hu
                    · wtm_at "w"
                      refine Rd.tmap (fun z : (Bool ⊕ Int) × Int => D.tup [(match z.1 with | .inl b => D.bl b | .inr i => D.int i), .int z.2]) (fun p : Int × Int => if p.1 < 2 then (.inl (p.1 != 0), p.2) else (.inr p.1, p.2)) pD ps rfl (fun p hp S' k => ?_) ?_
                      · wtm_at "w"
                        refine brB_p (fun h9 => ?_) (fun h9 => ?_)
                        · rw [if_pos h9] at k
                          wtm_at "w"
                          exact k
                        · rw [if_neg h9] at k
                          wtm_at "w"
                          exact k
                      · wtm_at "w"
                        refine hs _ (pl_tupL (by rw [List.length_map, List.length_map]; omega) fun u hu => ?_)
                        obtain ⟨z, _, rfl⟩ := List.mem_map.mp hu
                        obtain ⟨z1, z2⟩ := z
                        cases z1 <;> rfl
end K46

set_option maxRecDepth 100000
set_option maxHeartbeats 4000000
namespace K46
open PySem PySem.Spec PyProof.Rows L2 Dl Tb
local macro_rules | `(tactic| wtm_at "wh") => `(tactic| conv => whnf)
local macro_rules | `(tactic| wtm_at "ln") => `(tactic| (simp only [List.length_map, List.length_append, List.length_replicate, List.length_range, List.length_take, List.length_cons, List.length_nil, List.length_zip, sizeLine_eq]; omega))
local macro_rules | `(tactic| wtm_at "sd") => `(tactic| first | (with_reducible assumption) | (with_reducible rfl) | exact (rfl : (_ : Bool) = _) | omega | exact CMul.l (by omega) (by omega) | exact CMul.r (by omega) (by omega) | exact And.intro (by omega) (by omega) | exact Or.inl rfl | exact Or.inr rfl | exact Or.inr (And.intro rfl rfl) | exact And.intro rfl rfl | exact And.intro (fit_tII _ _) (fit_tII _ _) | exact And.intro (fit_tI _ _) (fit_tI _ _) | wtm_at "ln" | assumption)
local macro_rules | `(tactic| wtm_at "s1") => `(tactic| first
  | refine And.intro (show OkC _ _ _ by assumption) (And.intro rfl (Exists.intro _ (And.intro rfl ?_)))
  | (with_reducible first | refine Exists.intro _ (And.intro rfl ?_) | refine ⟨_, _, rfl, ?_⟩ | refine ⟨_, _, _, rfl, ?_⟩ | refine ⟨_, _, _, _, rfl, ?_⟩ | refine ⟨_, _, _, _, _, rfl, ?_⟩ | refine ⟨_, _, _, _, _, _, rfl, ?_⟩ | refine ⟨_, _, _, _, _, _, _, rfl, ?_⟩ | refine ⟨_, _, _, _, _, _, _, _, rfl, ?_⟩ | refine ⟨_, _, _, _, _, _, _, _, _, rfl, ?_⟩)
  | refine And.intro (by wtm_at "sd") ?_
  | (refine brB_t (by with_reducible assumption) ?_) | (refine brB_f (by with_reducible assumption) ?_) | (refine brB_xt (by with_reducible assumption) ?_) | (refine brB_xf (by with_reducible assumption) ?_)
  | (refine brB_pt (by first | (with_reducible assumption) | omega) ?_) | (refine brB_pf (by first | (with_reducible assumption) | omega) ?_) | (refine brB_nt (by first | (with_reducible assumption) | omega) ?_) | (refine brB_nf (by first | (with_reducible assumption) | omega) ?_))
local macro_rules | `(tactic| wtm_at "w") => `(tactic| (wtm_at "wh"; repeat (wtm_at "s1"; wtm_at "wh")))
theorem add_pl {xs ys : List D} (h : ∀ t ∈ xs, t.pl = true) (k : ∀ t ∈ ys, t.pl = true) : ∀ t ∈ xs ++ ys, t.pl = true := fun t m => (List.mem_append.mp m).elim (h t) (k t)
theorem rgD_ints (n : Nat) : ∃ is : List Int, rgD 0 (n : Int) = is.map D.int ∧ is.length = n := ⟨(List.range ((n : Int) - 0).toNat).map fun k : Nat => (0 : Int) + k, by rw [List.map_map]; rfl, by simp⟩
theorem cut_size (n : Nat) (h : n ≤ 100) : (rgD 0 (n : Int)).length + (cutD (rgD 0 (n : Int)) (some (-1)) none).length ≤ sizeLine := by
  obtain ⟨is, e, hl⟩ := rgD_ints n
  rw [e]
  obtain ⟨ms, em, hml⟩ := cut_ints is (some (-1)) none
  rw [em, List.length_map, List.length_map, sizeLine_eq]
  omega
theorem odd_pl (n : Nat) (h : n ≤ 100) : ∀ d ∈ [D.lst (rgD 0 (n : Int)), D.tup (rgD 0 (n : Int)).reverse, D.tup (rgD 0 (n : Int) ++ [D.int (n : Int)]), D.tup (rgD 0 (n : Int) ++ cutD (rgD 0 (n : Int)) (some (-1)) none), D.non, D.tup [D.int (-1)], D.tup [D.bl true], D.tup [D.non], D.tup [D.tup [D.int 0]]], d.pl = true := fun d hd => by
  obtain ⟨is, e, hl⟩ := rgD_ints n
  rw [e] at hd
  obtain ⟨ms, em, hml⟩ := cut_ints is (some (-1)) none
  rw [em] at hd
  simp only [List.mem_cons, List.not_mem_nil, or_false] at hd
  rcases hd with rfl | rfl | rfl | rfl | rfl | rfl | rfl | rfl | rfl
  · exact pl_lstL (by rw [List.length_map]; omega) (pl_ints _)
  · rw [← List.map_reverse]
    exact tI_pl (by rw [List.length_reverse]; omega)
  · refine pl_tupL (by simp; omega) (add_pl (pl_ints _) (pl_ints [(n : Int)]))
  · refine pl_tupL (by simp; omega) (add_pl (pl_ints _) (pl_ints _))
  all_goals rfl
theorem ok_law (K : PySem.W.Frag) : fc (none :: some .pur :: List.replicate 11 none) fun δ => r_law sp_any spDraw sp_l_lists sp_l_deep sp_l_drawn sp_l_bent sp_l_lots (sp_is_pairing K) (sp_l_is_pairing K) sp_l_is_flag (sp_is_ban K) (sp_l_is_ban K) noX δ { nx := fun _ => False, rt := fun d => d = .bl true } := by
  wtm_at "w"
  intro wd hwd
  obtain ⟨w, rfl, w0, w1⟩ : ∃ w, wd = D.int w ∧ 1 ≤ w ∧ w ≤ 1000 := by
    simp only [List.mem_cons, List.not_mem_nil, or_false] at hwd
    rcases hwd with rfl | rfl <;> exact ⟨_, rfl, by omega, by omega⟩
  wtm_at "w"
  intro z z0 z1
  wtm_at "w"
  generalize hmo : decide (z = 3) = mo
  have go : ∀ m : Int, 0 ≤ m → m ≤ 10 → ∀ one other : List Bar, (one.length : Int) ≤ m → (other.length : Int) ≤ m → (∀ b ∈ one, BarW w b) → (∀ b ∈ other, BarW w b) → BarsOk one ∧ BarsOk other ∧ one.length ≤ 10 ∧ other.length ≤ 10 := fun m m0 m1 one other h1 h2 h3 h4 => ⟨⟨by omega, fun b hb => (h3 b hb).ok w1⟩, ⟨by omega, fun b hb => (h4 b hb).ok w1⟩, by omega, by omega⟩
  cases mo
  all_goals
    wtm_at "w"
    intro one other ho1 ho2 ho3 ho4
    obtain ⟨hb1, hb2, hl1, hl2⟩ := go _ (by omega) (by omega) one other ho1 ho2 ho3 ho4
    clear ho1 ho2 ho3 ho4
    wtm_at "w"
    intro e e0 e1
    wtm_at "w"
    intro dp hdp
    have hdps := pl_st hdp
    refine stiS_ok (by simp only [stills, List.all_cons, List.all_nil, hdps]; rfl) ?_
    wtm_at "w"
    refine Rd.for_ _ _ (fun i δ' => ∃ (ts : List D) (a0 a6 a7 a8 a9 a10 a11 a12 : Option D), δ' = [a0, some .pur, some (.lst (one.map bD)), some (.lst (other.map bD)), some (.int e), some (.lst ts), a6, a7, a8, a9, a10, a11, a12] ∧ ts.length ≤ 15 + 2 * i ∧ ∀ t ∈ ts, t.pl = true) rfl ⟨_, _, _, _, _, _, _, _, _, rfl, by simp, fun t ht => by
      simp only [List.mem_cons, List.not_mem_nil, or_false] at ht
      rcases ht with rfl | rfl | rfl | rfl | rfl | rfl | rfl | rfl | rfl | rfl | rfl | rfl | rfl | rfl | rfl
      all_goals first | exact hdp | rfl⟩ ?_ ?_
    · rintro i y δ' hy ⟨ts, a0, a6, a7, a8, a9, a10, a11, a12, rfl, hl, hp⟩
      have hi : i < 6 := by
        have := (List.getElem?_eq_some_iff.mp hy).1
        simpa using this
      wtm_at "w"
      intro ps hps
      wtm_at "w"
      intro bt hbt
      have hbts := pl_st hbt
      wtm_at "w"
      refine stiS_ok (by simp only [stills, List.all_cons, List.all_nil, hbts]; rfl) ?_
      wtm_at "w"
      refine add_pl hp fun t ht => ?_
      simp only [List.mem_cons, List.not_mem_nil, or_false] at ht
      rcases ht with rfl | rfl
      · exact pl_tupL (by rw [List.length_map]; omega) (pDs_pl ps)
      · exact hbt
    · rintro δ' ⟨ts, a0, a6, a7, a8, a9, a10, a11, a12, rfl, hl, hp⟩
      have hl : ts.length ≤ 27 := by simpa using hl
      wtm_at "w"
      refine Rd.for_ D.int [0, 1] (fun i δ' => ∃ (ts : List D) (a0 a6 a7 a8 a9 a10 a11 a12 : Option D), δ' = [a0, some .pur, some (.lst (one.map bD)), some (.lst (other.map bD)), some (.int e), some (.lst ts), a6, a7, a8, a9, a10, a11, a12] ∧ ts.length ≤ 27 + 2000 * i ∧ ∀ t ∈ ts, t.pl = true) rfl ⟨_, _, _, _, _, _, _, _, _, rfl, hl, hp⟩ ?_ ?_
      · rintro i sd δ' hy ⟨ts, a0, a6, a7, a8, a9, a10, a11, a12, rfl, hl, hp⟩
        have hi : i < 2 := by
          have := (List.getElem?_eq_some_iff.mp hy).1
          simpa using this
        wtm_at "w"
        have side : ∀ here : List Bar, here.length ≤ 10 → True := fun _ _ => trivial
        generalize hsd : decide (sd = 0) = sb
        cases sb
        all_goals
          wtm_at "w"
          intro ls hls1 hls2
          wtm_at "w"
          refine Rd.tmap (fun l : List Int => D.tup [.int sd, tI l]) id tI ls rfl (fun l hl' S' k => ?_) ?_
          · wtm_at "w"
            exact k
          · rw [List.map_id]
            wtm_at "w"
            refine ⟨cut_size _ (by simp only [List.length_map]; omega), ?_⟩
            wtm_at "w"
            refine Rd.tmap (fun d : D => D.tup [.int sd, d]) id (fun d => d) _ (List.map_id _).symm (fun d hd S' k => ?_) ?_
            · have hdp := odd_pl _ (by simp only [List.length_map]; omega) d hd
              have hds := pl_st hdp
              wtm_at "w"
              refine stiS_ok (by simp only [stills, List.all_cons, List.all_nil, hds]; rfl) ?_
              exact k
            · rw [List.map_id]
              wtm_at "w"
              refine add_pl (add_pl hp fun t ht => ?_) fun t ht => ?_
              · obtain ⟨l, hl', rfl⟩ := List.mem_map.mp ht
                exact pl_tupL (by simp) fun u hu => by
                  simp only [List.mem_cons, List.not_mem_nil, or_false] at hu
                  rcases hu with rfl | rfl
                  · rfl
                  · exact tI_pl (by have := hls2 l hl'; omega)
              · obtain ⟨d, hd, rfl⟩ := List.mem_map.mp ht
                exact pl_tupL (by simp) fun u hu => by
                  simp only [List.mem_cons, List.not_mem_nil, or_false] at hu
                  rcases hu with rfl | rfl
                  · rfl
                  · exact odd_pl _ (by simp only [List.length_map]; omega) _ hd
      · rintro δ' ⟨ts, a0, a6, a7, a8, a9, a10, a11, a12, rfl, hl, hp⟩
        have hl : ts.length ≤ 4027 := by simpa using hl
        have hp9 := add_pl hp (ys := [D.tup [D.bl true, D.tup [D.int 0]], D.tup [D.int 2, D.tup [D.int 0]], D.tup [D.int (-1), D.tup [D.int 0]], D.tup [D.non, D.tup [D.int 0]], D.lst [D.int 0, D.tup [D.int 0]], D.tup [D.int 0, D.tup [D.int 0], D.tup []], D.tup [D.int 0], D.tup [D.str "0", D.tup [D.int 0]], D.tup [D.bl false, D.tup [D.int 0, D.int 1]]]) fun t ht => by
          simp only [List.mem_cons, List.not_mem_nil, or_false] at ht
          rcases ht with rfl | rfl | rfl | rfl | rfl | rfl | rfl | rfl | rfl <;> rfl
        wtm_at "w"
        revert hp9
        generalize (ts ++ [D.tup [D.bl true, D.tup [D.int 0]], _, _, _, _, _, _, _, _]) = us
        intro hp
        refine Rd.for_ (fun d : D => d) us (fun i δ' => ∃ (a12 : Option D), δ' = [a0, some .pur, some (.lst (one.map bD)), some (.lst (other.map bD)), some (.int e), some (.lst us), a6, a7, a8, a9, a10, a11, a12]) (List.map_id _).symm ⟨_, rfl⟩ ?_ ?_
        · rintro i d δ' hd ⟨a12, rfl⟩
          have hdp := hp d (List.mem_of_getElem? hd)
          have hds := pl_st hdp
          wtm_at "w"
          refine calS_ok (st2 hds) ?_
          refine ⟨one, other, e, d, rfl, hb1, hb2, ⟨by omega, by omega⟩, hdp, ?_⟩
          wtm_at "w"
          refine calS_ok (st2 hds) ?_
          refine ⟨one, other, e, d, rfl, ⟨hb1, hb2⟩, hdp, ?_⟩
          wtm_at "w"
          rw [beq_self_eq_true]
          wtm_at "w"
          refine calS_ok (st2 hds) ?_
          refine ⟨one, other, e, d, rfl, hb1, hb2, ⟨by omega, by omega⟩, hdp, ?_⟩
          wtm_at "w"
          refine calS_ok (st2 hds) ?_
          refine ⟨one, other, e, d, rfl, ⟨hb1, hb2⟩, hdp, ?_⟩
          wtm_at "w"
          rw [beq_self_eq_true]
          wtm_at "w"
          exact ⟨_, rfl⟩
        · rintro δ' ⟨a12, rfl⟩
          wtm_at "w"
end K46

set_option maxRecDepth 100000
set_option maxHeartbeats 4000000
namespace K46
open PySem PySem.Spec PyProof.Rows L2 Dl Tb
section
variable {P : Program} {w : World} {K : PySem.W.Frag} {mg : Str → Option Value} {base : Heap} {U : Pu} {EB EN : Addr} {eo : DSpec} {Tb : List (Addr × Str)}
theorem F_is_integer (hb : Blt mg)  (A : DefAt K mg "is_integer" t_is_integer ["thing"]) (ok : Okd 1 (r_is_integer K   ) (sp_is_integer K)) : Fn P w K mg base U 1 "is_integer" 1 (sp_is_integer K) :=
  fnR A sc_is_integer rfl (by decide) (De.slast (De.ret (De.and2 (De.isTyA De.tyInt bt_int hb.isinstance hb.int (De.v 0)) (De.one (De.not (De.isTyA De.tyBool bt_bool hb.isinstance hb.bool (De.v 0))))))) ok
theorem F_is_within (hb : Blt mg) (h_is_integer : Fn P w K mg base U 1 "is_integer" 1 (sp_is_integer K)) (A : DefAt K mg "is_within" t_is_within ["thing", "least", "most"]) (ok : Okd 3 (r_is_within   (sp_is_integer K)) (sp_is_within K)) : Fn P w K mg base U 2 "is_within" 3 (sp_is_within K) :=
  fnR A sc_is_within rfl (by decide) (De.slast (De.ret (De.and2 (De.call h_is_integer (De.cons (De.v 0) De.nil)) (De.one (De.chain De.o_le De.o_le (De.v 1) (De.v 0) (De.v 2)))))) ok
theorem F_is_number (hb : Blt mg) (h_is_within : Fn P w K mg base U 2 "is_within" 3 (sp_is_within K)) (A : DefAt K mg "is_number" t_is_number ["thing", "most"]) (ok : Okd 2 (r_is_number   (sp_is_within K)) (sp_is_number K)) : Fn P w K mg base U 3 "is_number" 2 (sp_is_number K) :=
  fnR A sc_is_number rfl (by decide) (De.slast (De.ret (De.call h_is_within (De.cons (De.v 0) (De.cons De.int (De.cons (De.v 1) De.nil)))))) ok
theorem F_is_lot (hb : Blt mg) (h_is_number : Fn P w K mg base U 3 "is_number" 2 (sp_is_number K)) (A : DefAt K mg "is_lot" t_is_lot ["thing", "many"]) (ok : Okd 4 (r_is_lot K   (sp_is_number K)) (sp_is_lot K)) : Fn P w K mg base U 4 "is_lot" 2 (sp_is_lot K) :=
  fnR A sc_is_lot rfl (by decide) (De.scons (De.cond (De.tof (De.wor (De.tnot (De.tval (De.isTyA De.tyTup bt_tuple hb.isinstance hb.tuple (De.v 0)))) (De.wor1 (De.tnot (De.tval (De.bAll hb (De.cons (De.lc [("one", 3)] (De.seqJ (De.v 0)) (De.tv 3) De.ts0 (De.call h_is_number (De.cons (De.v 3) (De.cons (De.bin De.o_sub (De.v 1) De.int) De.nil)))) De.nil))))))) (De.slast (De.ret De.bl)) De.snil) (De.slast (De.ret (De.bAll hb (De.cons (De.lc [("at", 2)] (De.toJ (De.rng2 hb.range De.int (De.bLen hb (De.cons (De.v 0) De.nil)))) (De.tv 2) De.ts0 (De.cmp De.o_lt (De.ix (De.v 0) (De.bin De.o_sub (De.v 2) De.int)) (De.ix (De.v 0) (De.v 2)))) De.nil))))) ok
theorem F_check_within (hb : Blt mg) (h_is_within : Fn P w K mg base U 2 "is_within" 3 (sp_is_within K)) (e_NoNumber : ExR K mg "NoNumber" EN) (A : DefAt K mg "check_within" t_check_within ["thing", "least", "most"]) (ok : Okd 3 (r_check_within  EN (sp_is_within K)) (sp_check_within K EN)) : Fn P w K mg base U 3 "check_within" 3 (sp_check_within K EN) :=
  fnR A sc_check_within rfl (by decide) (De.slast (De.cond (De.tnot (De.tval (De.call h_is_within (De.cons (De.v 0) (De.cons (De.v 1) (De.cons (De.v 2) De.nil)))))) (De.slast (De.raise0 e_NoNumber)) De.snil)) ok
theorem F_is_bar (hb : Blt mg) (h_is_within : Fn P w K mg base U 2 "is_within" 3 (sp_is_within K)) (c_FARTHEST : Glb K mg "FARTHEST" (.int 1000)) (A : DefAt K mg "is_bar" t_is_bar ["thing"]) (ok : Okd 1 (r_is_bar K   (sp_is_within K)) (sp_is_bar K)) : Fn P w K mg base U 3 "is_bar" 1 (sp_is_bar K) :=
  fnR A sc_is_bar rfl (by decide) (De.scons (De.cond (De.tof (De.wor (De.tnot (De.tval (De.isTyA De.tyTup bt_tuple hb.isinstance hb.tuple (De.v 0)))) (De.wor (De.tcmp De.o_ne (De.bLen hb (De.cons (De.v 0) De.nil)) De.int) (De.wor1 (De.tnot (De.tval (De.call h_is_within (De.cons (De.ix (De.v 0) De.int) (De.cons (De.neg (De.glb c_FARTHEST)) (De.cons (De.glb c_FARTHEST) De.nil)))))))))) (De.slast (De.ret De.bl)) De.snil) (De.slast (De.ret (De.or2 (De.isN (De.ix (De.v 0) De.int)) (De.one (De.call h_is_within (De.cons (De.ix (De.v 0) De.int) (De.cons (De.bin De.o_add (De.ix (De.v 0) De.int) De.int) (De.cons (De.glb c_FARTHEST) De.nil))))))))) ok
theorem F_check_bars (hb : Blt mg) (h_is_bar : Fn P w K mg base U 3 "is_bar" 1 (sp_is_bar K)) (c_MOST_BARS : Glb K mg "MOST_BARS" (.int 20)) (e_NoBars : ExR K mg "NoBars" EB) (A : DefAt K mg "check_bars" t_check_bars ["thing"]) (ok : Okd 2 (r_check_bars K  EB (sp_is_bar K)) (sp_check_bars K EB)) : Fn P w K mg base U 4 "check_bars" 1 (sp_check_bars K EB) :=
  fnR A sc_check_bars rfl (by decide) (De.slast (De.cond (De.tof (De.wor (De.tnot (De.tval (De.isTT bt_list bt_tuple hb.isinstance hb.list hb.tuple (De.v 0)))) (De.wor (De.tcmp De.o_gt (De.bLen hb (De.cons (De.v 0) De.nil)) (De.glb c_MOST_BARS)) (De.wor1 (De.tnot (De.tval (De.bAll hb (De.cons (De.lc [("bar", 1)] (De.seqJ (De.v 0)) (De.tv 1) De.ts0 (De.call h_is_bar (De.cons (De.v 1) De.nil))) De.nil)))))))) (De.slast (De.raise0 e_NoBars)) De.snil)) ok
theorem F_do_fit (hb : Blt mg)  (A : DefAt K mg "do_fit" t_do_fit ["bar", "other", "e"]) (ok : Okd 3 (r_do_fit   ) (sp_do_fit)) : Fn P w K mg base U 1 "do_fit" 3 (sp_do_fit) :=
  fnR A sc_do_fit rfl (by decide) (De.scons (De.cond (De.tof (De.wor (De.tcmp De.o_gt (De.bAbs hb (De.cons (De.bin De.o_sub (De.ix (De.v 0) De.int) (De.ix (De.v 1) De.int)) De.nil)) (De.v 2)) (De.wor1 (De.tcmp De.o_ne (De.isN (De.ix (De.v 0) De.int)) (De.isN (De.ix (De.v 1) De.int)))))) (De.slast (De.ret De.bl)) De.snil) (De.slast (De.ret (De.or2 (De.isN (De.ix (De.v 0) De.int)) (De.one (De.cmp De.o_le (De.bAbs hb (De.cons (De.bin De.o_sub (De.ix (De.v 0) De.int) (De.ix (De.v 1) De.int)) De.nil)) (De.v 2))))))) ok
theorem F_is_long (hb : Blt mg)  (A : DefAt K mg "is_long" t_is_long ["bar", "e"]) (ok : Okd 2 (r_is_long   ) (sp_is_long)) : Fn P w K mg base U 1 "is_long" 2 (sp_is_long) :=
  fnR A sc_is_long rfl (by decide) (De.slast (De.ret (De.or2 (De.isN (De.ix (De.v 0) De.int)) (De.one (De.cmp De.o_gt (De.bin De.o_sub (De.ix (De.v 0) De.int) (De.ix (De.v 0) De.int)) (De.bin De.o_mul De.int (De.v 1))))))) ok
theorem F_check_asked (hb : Blt mg) (h_check_bars : Fn P w K mg base U 4 "check_bars" 1 (sp_check_bars K EB)) (h_check_within : Fn P w K mg base U 3 "check_within" 3 (sp_check_within K EN)) (c_MOST_DISTANCE : Glb K mg "MOST_DISTANCE" (.int 2000)) (A : DefAt K mg "check_asked" t_check_asked ["one", "other", "e"]) (ok : Okd 3 (r_check_asked   (sp_check_bars K EB) (sp_check_within K EN)) (sp_check_asked K EB EN)) : Fn P w K mg base U 5 "check_asked" 3 (sp_check_asked K EB EN) :=
  fnR A sc_check_asked rfl (by decide) (De.scons (De.ex (De.call h_check_bars (De.cons (De.v 0) De.nil))) (De.scons (De.ex (De.call h_check_bars (De.cons (De.v 1) De.nil))) (De.slast (De.ex (De.call h_check_within (De.cons (De.v 2) (De.cons De.int (De.cons (De.glb c_MOST_DISTANCE) De.nil)))))))) ok
theorem F_is_number_pair (hb : Blt mg) (h_is_number : Fn P w K mg base U 3 "is_number" 2 (sp_is_number K)) (A : DefAt K mg "is_number_pair" t_is_number_pair ["thing", "many", "more"]) (ok : Okd 3 (r_is_number_pair K   (sp_is_number K)) (sp_is_number_pair K)) : Fn P w K mg base U 4 "is_number_pair" 3 (sp_is_number_pair K) :=
  fnR A sc_is_number_pair rfl (by decide) (De.scons (De.cond (De.tof (De.wor (De.tnot (De.tval (De.isTyA De.tyTup bt_tuple hb.isinstance hb.tuple (De.v 0)))) (De.wor1 (De.tcmp De.o_ne (De.bLen hb (De.cons (De.v 0) De.nil)) De.int)))) (De.slast (De.ret De.bl)) De.snil) (De.slast (De.ret (De.and2 (De.call h_is_number (De.cons (De.ix (De.v 0) De.int) (De.cons (De.bin De.o_sub (De.v 1) De.int) De.nil))) (De.one (De.call h_is_number (De.cons (De.ix (De.v 0) De.int) (De.cons (De.bin De.o_sub (De.v 2) De.int) De.nil)))))))) ok
theorem F_is_pairing (hb : Blt mg) (h_check_asked : Fn P w K mg base U 5 "check_asked" 3 (sp_check_asked K EB EN)) (h_is_number_pair : Fn P w K mg base U 4 "is_number_pair" 3 (sp_is_number_pair K)) (h_do_fit : Fn P w K mg base U 1 "do_fit" 3 (sp_do_fit)) (h_is_long : Fn P w K mg base U 1 "is_long" 2 (sp_is_long)) (A : DefAt K mg "is_pairing" t_is_pairing ["one", "other", "e", "thing"]) (ok : Okd 11 (r_is_pairing K   (sp_check_asked K EB EN) (sp_is_number_pair K) (sp_do_fit) (sp_is_long)) (sp_is_pairing K)) : Fn P w K mg base U 6 "is_pairing" 4 (sp_is_pairing K) :=
  fnR A sc_is_pairing rfl (by decide) (De.scons (De.ex (De.call h_check_asked (De.cons (De.v 0) (De.cons (De.v 1) (De.cons (De.v 2) De.nil))))) (De.scons (De.cond (De.tof (De.wor (De.tnot (De.tval (De.isTyA De.tyTup bt_tuple hb.isinstance hb.tuple (De.v 3)))) (De.wor1 (De.tnot (De.tval (De.bAll hb (De.cons (De.lc [("pair", 10)] (De.seqJ (De.v 3)) (De.tv 10) De.ts0 (De.call h_is_number_pair (De.cons (De.v 10) (De.cons (De.bLen hb (De.cons (De.v 0) De.nil)) (De.cons (De.bLen hb (De.cons (De.v 1) De.nil)) De.nil))))) De.nil))))))) (De.slast (De.ret De.bl)) De.snil) (De.scons (De.cond (De.tnot (De.tval (De.bAll hb (De.cons (De.lc [("at", 9)] (De.toJ (De.rng2 hb.range De.int (De.bLen hb (De.cons (De.v 3) De.nil)))) (De.tv 9) De.ts0 (De.cmp De.o_lt (De.ix (De.ix (De.v 3) (De.bin De.o_sub (De.v 9) De.int)) De.int) (De.ix (De.ix (De.v 3) (De.v 9)) De.int))) De.nil)))) (De.slast (De.ret De.bl)) De.snil) (De.scons (De.setDC 4 (De.dck [("here", 6), ("there", 7)] (De.seqJ (De.v 3)) (De.tgt 2 (De.gC (De.tv 6) (De.gC (De.tv 7) De.gN))) (De.v 7) (De.v 6))) (De.scons (De.cond (De.tof (De.wor (De.tcmp De.o_lt (De.bLenA hb (De.cons (De.v 4) De.nil)) (De.bLen hb (De.cons (De.v 3) De.nil))) (De.wor1 (De.tnot (De.tval (De.bAll hb (De.cons (De.lc [("here", 6), ("there", 7)] (De.seqJ (De.v 3)) (De.tgt 2 (De.gC (De.tv 6) (De.gC (De.tv 7) De.gN))) De.ts0 (De.call h_do_fit (De.cons (De.ix (De.v 0) (De.v 6)) (De.cons (De.ix (De.v 1) (De.v 7)) (De.cons (De.v 2) De.nil))))) De.nil))))))) (De.slast (De.ret De.bl)) De.snil) (De.scons (De.setC 5 (De.lc [("here", 6), ("there", 7)] (De.seqJ (De.v 3)) (De.tgt 2 (De.gC (De.tv 6) (De.gC (De.tv 7) De.gN))) De.ts0 (De.v 6))) (De.scons (De.cond (De.tval (De.bAny hb (De.cons (De.lc [("here", 6), ("bar", 8)] (De.toJ (De.enum hb.enumerate (De.v 0))) (De.tgt 2 (De.gC (De.tv 6) (De.gC (De.tv 8) De.gN))) De.ts0 (De.and2 (De.call h_is_long (De.cons (De.v 8) (De.cons (De.v 2) De.nil))) (De.one (De.cmp De.o_nin (De.v 6) (De.v 5))))) De.nil))) (De.slast (De.ret De.bl)) De.snil) (De.slast (De.ret (De.not (De.bAny hb (De.cons (De.lc [("there", 7), ("bar", 8)] (De.toJ (De.enum hb.enumerate (De.v 1))) (De.tgt 2 (De.gC (De.tv 7) (De.gC (De.tv 8) De.gN))) De.ts0 (De.and2 (De.call h_is_long (De.cons (De.v 8) (De.cons (De.v 2) De.nil))) (De.one (De.cmp De.o_ninK (De.v 7) (De.v 4))))) De.nil)))))))))))) ok
theorem F_is_ban (hb : Blt mg) (h_check_asked : Fn P w K mg base U 5 "check_asked" 3 (sp_check_asked K EB EN)) (h_is_integer : Fn P w K mg base U 1 "is_integer" 1 (sp_is_integer K)) (h_is_lot : Fn P w K mg base U 4 "is_lot" 2 (sp_is_lot K)) (h_is_long : Fn P w K mg base U 1 "is_long" 2 (sp_is_long)) (h_do_fit : Fn P w K mg base U 1 "do_fit" 3 (sp_do_fit)) (A : DefAt K mg "is_ban" t_is_ban ["one", "other", "e", "thing"]) (ok : Okd 8 (r_is_ban K   (sp_check_asked K EB EN) (sp_is_integer K) (sp_is_lot K) (sp_is_long) (sp_do_fit)) (sp_is_ban K)) : Fn P w K mg base U 6 "is_ban" 4 (sp_is_ban K) :=
  fnR A sc_is_ban rfl (by decide) (De.scons (De.ex (De.call h_check_asked (De.cons (De.v 0) (De.cons (De.v 1) (De.cons (De.v 2) De.nil))))) (De.scons (De.cond (De.tof (De.wor (De.tnot (De.tval (De.isTyA De.tyTup bt_tuple hb.isinstance hb.tuple (De.v 3)))) (De.wor (De.tcmp De.o_ne (De.bLen hb (De.cons (De.v 3) De.nil)) De.int) (De.wor (De.tnot (De.tval (De.call h_is_integer (De.cons (De.ix (De.v 3) De.int) De.nil)))) (De.wor1 (De.tcmp De.o_nin (De.ix (De.v 3) De.int) (De.tup (De.cons De.int (De.cons De.int De.nil))))))))) (De.slast (De.ret De.bl)) De.snil) (De.scons (De.unp (List.range 8) (De.ite (De.tcmp De.o_eq (De.ix (De.v 3) De.int) De.int) (De.tup (De.cons (De.v 0) (De.cons (De.v 1) De.nil))) (De.tup (De.cons (De.v 1) (De.cons (De.v 0) De.nil)))) (De.tgt 2 (De.gC (De.tv 4) (De.gC (De.tv 5) De.gN)))) (De.scons (De.cond (De.tof (De.wor (De.tnot (De.tval (De.call h_is_lot (De.cons (De.ix (De.v 3) De.int) (De.cons (De.bLen hb (De.cons (De.v 4) De.nil)) De.nil))))) (De.wor1 (De.tnot (De.tval (De.bAll hb (De.cons (De.lc [("at", 7)] (De.seqJ (De.ix (De.v 3) De.int)) (De.tv 7) De.ts0 (De.call h_is_long (De.cons (De.ix (De.v 4) (De.v 7)) (De.cons (De.v 2) De.nil)))) De.nil))))))) (De.slast (De.ret De.bl)) De.snil) (De.slast (De.ret (De.cmp De.o_lt (De.bLen hb (De.cons (De.lc [("bar", 6)] (De.seqJ (De.v 5)) (De.tv 6) (De.ts1 (De.tval (De.bAny hb (De.cons (De.lc [("at", 7)] (De.seqJ (De.ix (De.v 3) De.int)) (De.tv 7) De.ts0 (De.call h_do_fit (De.cons (De.ix (De.v 4) (De.v 7)) (De.cons (De.v 6) (De.cons (De.v 2) De.nil))))) De.nil)))) (De.v 6)) De.nil)) (De.bLen hb (De.cons (De.ix (De.v 3) De.int) De.nil))))))))) ok
theorem F_l_some (hb : Blt mg) (h_l_pick : Fn P w K mg base U 1 "_law_pick" 2 (spDraw)) (A : DefAt K mg "_law_some" t_l_some ["_law_bag_here", "_law_things"]) (ok : Okd 2 (r_l_some   (spDraw)) (sp_any)) : Fn P w K mg base U 2 "_law_some" 2 (sp_any) :=
  fnR A sc_l_some rfl (by decide) (De.slast (De.ret (De.ix (De.v 1) (De.call h_l_pick (De.cons (De.v 0) (De.cons (De.bLen hb (De.cons (De.v 1) De.nil)) De.nil)))))) ok
theorem F_l_fits (hb : Blt mg)  (A : DefAt K mg "_law_fits" t_l_fits ["_law_bar", "_law_other", "_law_e"]) (ok : Okd 3 (r_l_fits   ) (sp_l_fits)) : Fn P w K mg base U 1 "_law_fits" 3 (sp_l_fits) :=
  fnR A sc_l_fits rfl (by decide) (De.scons (De.cond (De.tcmp De.o_gt (De.bAbs hb (De.cons (De.bin De.o_sub (De.ix (De.v 0) De.int) (De.ix (De.v 1) De.int)) De.nil)) (De.v 2)) (De.slast (De.ret De.bl)) De.snil) (De.scons (De.cond (De.tof (De.wor (De.tisN (De.ix (De.v 0) De.int)) (De.wor1 (De.tisN (De.ix (De.v 1) De.int))))) (De.slast (De.ret (De.and2 (De.isN (De.ix (De.v 0) De.int)) (De.one (De.isN (De.ix (De.v 1) De.int)))))) De.snil) (De.slast (De.ret (De.cmp De.o_le (De.bAbs hb (De.cons (De.bin De.o_sub (De.ix (De.v 0) De.int) (De.ix (De.v 1) De.int)) De.nil)) (De.v 2)))))) ok
theorem F_l_is_long (hb : Blt mg)  (A : DefAt K mg "_law_is_long" t_l_is_long ["_law_bar", "_law_e"]) (ok : Okd 2 (r_l_is_long   ) (sp_l_is_long)) : Fn P w K mg base U 1 "_law_is_long" 2 (sp_l_is_long) :=
  fnR A sc_l_is_long rfl (by decide) (De.slast (De.ret (De.or2 (De.isN (De.ix (De.v 0) De.int)) (De.one (De.cmp De.o_gt (De.bin De.o_sub (De.ix (De.v 0) De.int) (De.ix (De.v 0) De.int)) (De.bin De.o_mul De.int (De.v 1))))))) ok
theorem F_l_bar (hb : Blt mg) (h_l_pick : Fn P w K mg base U 1 "_law_pick" 2 (spDraw)) (h_l_some : Fn P w K mg base U 2 "_law_some" 2 (sp_any)) (A : DefAt K mg "_law_bar" t_l_bar ["_law_bag_here", "_law_wide"]) (ok : Okd 3 (r_l_bar   (spDraw) (sp_any)) (sp_l_bar)) : Fn P w K mg base U 3 "_law_bar" 2 (sp_l_bar) :=
  fnR A sc_l_bar rfl (by decide) (De.scons (De.set 2 (De.bin De.o_sub (De.call h_l_pick (De.cons (De.v 0) (De.cons (De.bin De.o_add (De.bin De.o_mul De.int (De.v 1)) De.int) De.nil))) (De.v 1))) (De.scons (De.cond (De.tof (De.wor (De.tcmp De.o_eq (De.call h_l_pick (De.cons (De.v 0) (De.cons De.int De.nil))) De.int) (De.wor1 (De.tcmp De.o_eq (De.v 2) (De.v 1))))) (De.slast (De.ret (De.tup (De.cons (De.bMin hb (De.cons (De.v 2) (De.cons De.int De.nil))) (De.cons De.non De.nil))))) De.snil) (De.slast (De.ret (De.tup (De.cons (De.v 2) (De.cons (De.bin De.o_add (De.bin De.o_add (De.v 2) De.int) (De.call h_l_pick (De.cons (De.v 0) (De.cons (De.bMin hb (De.cons (De.bin De.o_sub (De.v 1) (De.v 2)) (De.cons (De.bin De.o_add De.int (De.call h_l_some (De.cons (De.v 0) (De.cons (De.lst (De.cons De.int (De.cons De.int (De.cons (De.bin De.o_mul De.int (De.v 1)) De.nil)))) De.nil)))) De.nil))) De.nil)))) De.nil))))))) ok
theorem F_l_moved (hb : Blt mg) (h_l_pick : Fn P w K mg base U 1 "_law_pick" 2 (spDraw)) (A : DefAt K mg "_law_moved" t_l_moved ["_law_bag_here", "_law_bar_here", "_law_wide"]) (ok : Okd 4 (r_l_moved   (spDraw)) (sp_l_moved)) : Fn P w K mg base U 2 "_law_moved" 3 (sp_l_moved) :=
  fnR A sc_l_moved rfl (by decide) (De.scons (De.set 3 (De.bMax hb (De.cons (De.neg (De.v 2)) (De.cons (De.bMin hb (De.cons (De.bin De.o_sub (De.v 2) De.int) (De.cons (De.bin De.o_sub (De.bin De.o_add (De.ix (De.v 1) De.int) (De.call h_l_pick (De.cons (De.v 0) (De.cons De.int De.nil)))) De.int) De.nil))) De.nil)))) (De.scons (De.cond (De.tisN (De.ix (De.v 1) De.int)) (De.slast (De.ret (De.tup (De.cons (De.v 3) (De.cons De.non De.nil))))) De.snil) (De.slast (De.ret (De.tup (De.cons (De.v 3) (De.cons (De.bMax hb (De.cons (De.bin De.o_add (De.v 3) De.int) (De.cons (De.bMin hb (De.cons (De.v 2) (De.cons (De.bin De.o_sub (De.bin De.o_add (De.ix (De.v 1) De.int) (De.call h_l_pick (De.cons (De.v 0) (De.cons De.int De.nil)))) De.int) De.nil))) De.nil))) De.nil))))))) ok
theorem F_l_lists (hb : Blt mg) (h_l_pick : Fn P w K mg base U 1 "_law_pick" 2 (spDraw)) (h_l_bar : Fn P w K mg base U 3 "_law_bar" 2 (sp_l_bar)) (h_l_moved : Fn P w K mg base U 2 "_law_moved" 3 (sp_l_moved)) (A : DefAt K mg "_law_lists" t_l_lists ["_law_bag_here", "_law_wide", "_law_most"]) (ok : Okd 7 (r_l_lists   (spDraw) (sp_l_bar) (sp_l_moved)) (sp_l_lists)) : Fn P w K mg base U 4 "_law_lists" 3 (sp_l_lists) :=
  fnR A sc_l_lists rfl (by decide) (De.scons (De.setLc 3 [("_law_turn", 6)] (De.toJ (De.rng1 hb.range (De.call h_l_pick (De.cons (De.v 0) (De.cons (De.bin De.o_add (De.v 2) De.int) De.nil))))) (De.tv 6) De.ts0 (De.call h_l_bar (De.cons (De.v 0) (De.cons (De.v 1) De.nil)))) (De.scons (De.setF 4 (De.dsp De.nil)) (De.scons (De.loop (De.seq (De.v 3)) (De.tv 5) (De.slast (De.cond (De.tcmp De.o_gt (De.call h_l_pick (De.cons (De.v 0) (De.cons De.int De.nil))) De.int) (De.slast (De.ins 4 (De.call h_l_pick (De.cons (De.v 0) (De.cons (De.bin De.o_add (De.bLen hb (De.cons (De.v 4) De.nil)) De.int) De.nil))) (De.call h_l_moved (De.cons (De.v 0) (De.cons (De.v 5) (De.cons (De.v 1) De.nil)))))) De.snil))) (De.scons (De.whil (De.tof (De.wand (De.tcmp De.o_lt (De.bLen hb (De.cons (De.v 4) De.nil)) (De.v 2)) (De.wand1 (De.tcmp De.o_eq (De.call h_l_pick (De.cons (De.v 0) (De.cons De.int De.nil))) De.int)))) (De.slast (De.app 4 (De.call h_l_bar (De.cons (De.v 0) (De.cons (De.v 1) De.nil)))))) (De.slast (De.ret (De.tup (De.cons (De.v 3) (De.cons (De.v 4) De.nil))))))))) ok
theorem F_l_is_number (hb : Blt mg)  (A : DefAt K mg "_law_is_number" t_l_is_number ["_law_thing", "_law_below"]) (ok : Okd 2 (r_l_is_number K   ) (sp_l_is_number K)) : Fn P w K mg base U 1 "_law_is_number" 2 (sp_l_is_number K) :=
  fnR A sc_l_is_number rfl (by decide) (De.slast (De.ret (De.and2 (De.isTyA De.tyInt bt_int hb.isinstance hb.int (De.v 0)) (De.and2 (De.not (De.isTyA De.tyBool bt_bool hb.isinstance hb.bool (De.v 0))) (De.one (De.chain De.o_le De.o_lt De.int (De.v 0) (De.v 1))))))) ok
theorem F_l_is_pairing (hb : Blt mg) (h_l_is_number : Fn P w K mg base U 1 "_law_is_number" 2 (sp_l_is_number K)) (h_l_fits : Fn P w K mg base U 1 "_law_fits" 3 (sp_l_fits)) (h_l_is_long : Fn P w K mg base U 1 "_law_is_long" 2 (sp_l_is_long)) (A : DefAt K mg "_law_is_pairing" t_l_is_pairing ["_law_one", "_law_other", "_law_e", "_law_thing"]) (ok : Okd 10 (r_l_is_pairing K   (sp_l_is_number K) (sp_l_fits) (sp_l_is_long)) (sp_l_is_pairing K)) : Fn P w K mg base U 2 "_law_is_pairing" 4 (sp_l_is_pairing K) :=
  fnR A sc_l_is_pairing rfl (by decide) (De.scons (De.cond (De.tnot (De.tval (De.isTyA De.tyTup bt_tuple hb.isinstance hb.tuple (De.v 3)))) (De.slast (De.ret De.bl)) De.snil) (De.scons (De.par2EFT 4 5 (De.neg De.int) (De.dsp De.nil)) (De.scons (De.loop (De.seq (De.v 3)) (De.tv 6) (De.scons (De.cond (De.tof (De.wor (De.tnot (De.tval (De.isTyA De.tyTup bt_tuple hb.isinstance hb.tuple (De.v 6)))) (De.wor (De.tcmp De.o_ne (De.bLen hb (De.cons (De.v 6) De.nil)) De.int) (De.wor1 (De.tnot (De.tval (De.call h_l_is_number (De.cons (De.ix (De.v 6) De.int) (De.cons (De.bLen hb (De.cons (De.v 0) De.nil)) De.nil))))))))) (De.slast (De.ret De.bl)) De.snil) (De.scons (De.cond (De.tof (De.wor (De.tnot (De.tval (De.call h_l_is_number (De.cons (De.ix (De.v 6) De.int) (De.cons (De.bLen hb (De.cons (De.v 1) De.nil)) De.nil))))) (De.wor (De.tcmp De.o_le (De.ix (De.v 6) De.int) (De.v 4)) (De.wor1 (De.tcmp De.o_isin (De.ix (De.v 6) De.int) (De.v 5)))))) (De.slast (De.ret De.bl)) De.snil) (De.scons (De.cond (De.tnot (De.tval (De.call h_l_fits (De.cons (De.ix (De.v 0) (De.ix (De.v 6) De.int)) (De.cons (De.ix (De.v 1) (De.ix (De.v 6) De.int)) (De.cons (De.v 2) De.nil)))))) (De.slast (De.ret De.bl)) De.snil) (De.scons (De.set 4 (De.ix (De.v 6) De.int)) (De.slast (De.app 5 (De.ix (De.v 6) De.int)))))))) (De.scons (De.setC 7 (De.lc [("_law_pair", 6)] (De.seqJ (De.v 3)) (De.tv 6) De.ts0 (De.ix (De.v 6) De.int))) (De.scons (De.cond (De.tval (De.bAny hb (De.cons (De.lc [("_law_at", 8), ("_law_bar_here", 9)] (De.toJ (De.enum hb.enumerate (De.v 0))) (De.tgt 2 (De.gC (De.tv 8) (De.gC (De.tv 9) De.gN))) (De.ts1 (De.tcmp De.o_nin (De.v 8) (De.v 7))) (De.call h_l_is_long (De.cons (De.v 9) (De.cons (De.v 2) De.nil)))) De.nil))) (De.slast (De.ret De.bl)) De.snil) (De.slast (De.ret (De.not (De.bAny hb (De.cons (De.lc [("_law_at", 8), ("_law_bar_here", 9)] (De.toJ (De.enum hb.enumerate (De.v 1))) (De.tgt 2 (De.gC (De.tv 8) (De.gC (De.tv 9) De.gN))) (De.ts1 (De.tcmp De.o_nin (De.v 8) (De.v 5))) (De.call h_l_is_long (De.cons (De.v 9) (De.cons (De.v 2) De.nil)))) De.nil)))))))))) ok
theorem F_l_is_ban (hb : Blt mg) (h_l_is_number : Fn P w K mg base U 1 "_law_is_number" 2 (sp_l_is_number K)) (h_l_is_long : Fn P w K mg base U 1 "_law_is_long" 2 (sp_l_is_long)) (h_l_fits : Fn P w K mg base U 1 "_law_fits" 3 (sp_l_fits)) (A : DefAt K mg "_law_is_ban" t_l_is_ban ["_law_one", "_law_other", "_law_e", "_law_thing"]) (ok : Okd 12 (r_l_is_ban K   (sp_l_is_number K) (sp_l_is_long) (sp_l_fits)) (sp_l_is_ban K)) : Fn P w K mg base U 2 "_law_is_ban" 4 (sp_l_is_ban K) :=
  fnR A sc_l_is_ban rfl (by decide) (De.scons (De.cond (De.tof (De.wor (De.tnot (De.tval (De.isTyA De.tyTup bt_tuple hb.isinstance hb.tuple (De.v 3)))) (De.wor (De.tcmp De.o_ne (De.bLen hb (De.cons (De.v 3) De.nil)) De.int) (De.wor (De.tnot (De.tval (De.call h_l_is_number (De.cons (De.ix (De.v 3) De.int) (De.cons De.int De.nil))))) (De.wor1 (De.tnot (De.tval (De.isTyA De.tyTup bt_tuple hb.isinstance hb.tuple (De.ix (De.v 3) De.int))))))))) (De.slast (De.ret De.bl)) De.snil) (De.scons (De.unp (List.range 12) (De.ite (De.tcmp De.o_eq (De.ix (De.v 3) De.int) De.int) (De.tup (De.cons (De.v 0) (De.cons (De.v 1) De.nil))) (De.tup (De.cons (De.v 1) (De.cons (De.v 0) De.nil)))) (De.tgt 2 (De.gC (De.tv 4) (De.gC (De.tv 5) De.gN)))) (De.scons (De.par2EFT 6 7 (De.neg De.int) (De.dsp De.nil)) (De.scons (De.loop (De.seq (De.ix (De.v 3) De.int)) (De.tv 8) (De.scons (De.cond (De.tof (De.wor (De.tnot (De.tval (De.call h_l_is_number (De.cons (De.v 8) (De.cons (De.bLen hb (De.cons (De.v 4) De.nil)) De.nil))))) (De.wor (De.tcmp De.o_le (De.v 8) (De.v 6)) (De.wor1 (De.tnot (De.tval (De.call h_l_is_long (De.cons (De.ix (De.v 4) (De.v 8)) (De.cons (De.v 2) De.nil))))))))) (De.slast (De.ret De.bl)) De.snil) (De.scons (De.set 6 (De.v 8)) (De.slast (De.app 7 (De.ix (De.v 4) (De.v 8))))))) (De.scons (De.setLc 9 [("_law_bar_here", 10)] (De.seqJ (De.v 5)) (De.tv 10) (De.ts1 (De.tval (De.bAny hb (De.cons (De.lc [("_law_lone", 11)] (De.seqJ (De.v 7)) (De.tv 11) De.ts0 (De.call h_l_fits (De.cons (De.v 11) (De.cons (De.v 10) (De.cons (De.v 2) De.nil))))) De.nil)))) (De.v 10)) (De.slast (De.ret (De.cmp De.o_lt (De.bLen hb (De.cons (De.v 9) De.nil)) (De.bLen hb (De.cons (De.ix (De.v 3) De.int) De.nil)))))))))) ok
theorem F_l_deep (hb : Blt mg) (h_l_some : Fn P w K mg base U 2 "_law_some" 2 (sp_any)) (h_l_pick : Fn P w K mg base U 1 "_law_pick" 2 (spDraw)) (A : DefAt K mg "_law_deep" t_l_deep ["_law_bag_here"]) (ok : Okd 3 (r_l_deep   (sp_any) (spDraw)) (sp_l_deep)) : Fn P w K mg base U 3 "_law_deep" 1 (sp_l_deep) :=
  fnR A sc_l_deep rfl (by decide) (De.scons (De.set 1 (De.call h_l_some (De.cons (De.v 0) (De.cons (De.lst (De.cons De.int (De.cons De.str (De.cons De.non De.nil)))) De.nil)))) (De.scons (De.loop (De.rng1 hb.range (De.bin De.o_add De.int (De.call h_l_pick (De.cons (De.v 0) (De.cons De.int De.nil))))) (De.tv 2) (De.slast (De.set 1 (De.ite (De.tcmp De.o_eq (De.call h_l_pick (De.cons (De.v 0) (De.cons De.int De.nil))) De.int) (De.lst (De.cons (De.v 1) De.nil)) (De.tup (De.cons (De.v 1) De.nil)))))) (De.slast (De.ret (De.v 1))))) ok
theorem F_l_drawn (hb : Blt mg) (h_l_fits : Fn P w K mg base U 1 "_law_fits" 3 (sp_l_fits)) (h_l_pick : Fn P w K mg base U 1 "_law_pick" 2 (spDraw)) (h_l_some : Fn P w K mg base U 2 "_law_some" 2 (sp_any)) (A : DefAt K mg "_law_drawn" t_l_drawn ["_law_bag_here", "_law_one", "_law_other", "_law_e"]) (ok : Okd 11 (r_l_drawn   (sp_l_fits) (spDraw) (sp_any)) (sp_l_drawn)) : Fn P w K mg base U 3 "_law_drawn" 4 (sp_l_drawn) :=
  fnR A sc_l_drawn rfl (by decide) (De.scons (De.par2FT 4 5 (De.dsp De.nil) (De.dsp De.nil)) (De.scons (De.loop (De.enum hb.enumerate (De.v 1)) (De.tgt 2 (De.gC (De.tv 6) (De.gC (De.tv 7) De.gN))) (De.scons (De.setLc 8 [("_law_to", 9), ("_law_there", 10)] (De.toJ (De.enum hb.enumerate (De.v 2))) (De.tgt 2 (De.gC (De.tv 9) (De.gC (De.tv 10) De.gN))) (De.ts1 (De.tof (De.wand (De.tcmp De.o_nin (De.v 9) (De.v 5)) (De.wand1 (De.tval (De.call h_l_fits (De.cons (De.v 7) (De.cons (De.v 10) (De.cons (De.v 3) De.nil))))))))) (De.v 9)) (De.slast (De.cond (De.tof (De.wand (De.tcmp De.o_gt (De.bLen hb (De.cons (De.v 8) De.nil)) De.int) (De.wand1 (De.tcmp De.o_gt (De.call h_l_pick (De.cons (De.v 0) (De.cons De.int De.nil))) De.int)))) (De.scons (De.app 5 (De.call h_l_some (De.cons (De.v 0) (De.cons (De.v 8) De.nil)))) (De.slast (De.app 4 (De.tup (De.cons (De.v 6) (De.cons (De.ix (De.v 5) (De.neg De.int)) De.nil)))))) De.snil)))) (De.slast (De.ret (De.v 4))))) ok
theorem F_l_bent (hb : Blt mg) (h_l_pick : Fn P w K mg base U 1 "_law_pick" 2 (spDraw)) (h_l_some : Fn P w K mg base U 2 "_law_some" 2 (sp_any)) (A : DefAt K mg "_law_bent" t_l_bent ["_law_bag_here", "_law_pairs", "_law_many", "_law_more"]) (ok : Okd 10 (r_l_bent   (spDraw) (sp_any)) (sp_l_bent)) : Fn P w K mg base U 3 "_law_bent" 4 (sp_l_bent) :=
  fnR A sc_l_bent rfl (by decide) (De.scons (De.set 4 (De.call h_l_pick (De.cons (De.v 0) (De.cons (De.bin De.o_add (De.bLen hb (De.cons (De.v 1) De.nil)) De.int) De.nil)))) (De.scons (De.set 5 (De.tup (De.cons (De.bin De.o_sub (De.call h_l_pick (De.cons (De.v 0) (De.cons (De.bin De.o_add (De.v 2) De.int) De.nil))) De.int) (De.cons (De.bin De.o_sub (De.call h_l_pick (De.cons (De.v 0) (De.cons (De.bin De.o_add (De.v 3) De.int) De.nil))) De.int) De.nil)))) (De.scons (De.set 6 (De.call h_l_pick (De.cons (De.v 0) (De.cons De.int De.nil)))) (De.scons (De.cond (De.tof (De.wor (De.tcmp De.o_eq (De.v 6) De.int) (De.wor1 (De.tcmp De.o_eq (De.bLen hb (De.cons (De.v 1) De.nil)) De.int)))) (De.slast (De.ret (De.tTup hb (De.cons (De.bSorted hb (De.cons (De.bin De.o_add (De.v 1) (De.lst (De.cons (De.v 5) De.nil))) De.nil)) De.nil)))) De.snil) (De.scons (De.set 7 (De.ix (De.v 1) (De.bMin hb (De.cons (De.v 4) (De.cons (De.bin De.o_sub (De.bLen hb (De.cons (De.v 1) De.nil)) De.int) De.nil))))) (De.scons (De.setLc 8 [("_law_other", 9)] (De.seqJ (De.v 1)) (De.tv 9) (De.ts1 (De.tcmp De.o_ne (De.v 9) (De.v 7))) (De.v 9)) (De.scons (De.cond (De.tcmp De.o_eq (De.v 6) De.int) (De.slast (De.ret (De.tTup hb (De.cons (De.v 8) De.nil)))) De.snil) (De.scons (De.cond (De.tcmp De.o_eq (De.v 6) De.int) (De.slast (De.ret (De.tTup hb (De.cons (De.bSorted hb (De.cons (De.bin De.o_add (De.v 8) (De.lst (De.cons (De.v 5) De.nil))) De.nil)) De.nil)))) De.snil) (De.scons (De.cond (De.tcmp De.o_eq (De.v 6) De.int) (De.slast (De.ret (De.tTup hb (De.cons (De.rev (De.v 1)) De.nil)))) De.snil) (De.scons (De.cond (De.tcmp De.o_eq (De.v 6) De.int) (De.slast (De.ret (De.tTup hb (De.cons (De.bSorted hb (De.cons (De.bin De.o_add (De.v 1) (De.lst (De.cons (De.v 7) De.nil))) De.nil)) De.nil)))) De.snil) (De.scons (De.cond (De.tcmp De.o_eq (De.v 6) De.int) (De.slast (De.ret (De.tLst hb (De.cons (De.v 1) De.nil)))) De.snil) (De.scons (De.cond (De.tcmp De.o_eq (De.v 6) De.int) (De.slast (De.ret (De.tTup hb (De.cons (De.bin De.o_add (De.v 8) (De.lst (De.cons (De.call h_l_some (De.cons (De.v 0) (De.cons (De.lst (De.cons (De.tLst hb (De.cons (De.v 7) De.nil)) (De.cons (De.bin De.o_add (De.v 7) (De.tup (De.cons De.int De.nil))) (De.cons (De.slc (De.v 7) De.noP (De.atP De.int)) (De.cons De.non (De.cons (De.tup (De.cons (De.ix (De.v 7) De.int) (De.cons De.non De.nil))) (De.cons (De.tup (De.cons (De.v 7) De.nil)) De.nil))))))) De.nil))) De.nil))) De.nil)))) De.snil) (De.scons (De.cond (De.tcmp De.o_eq (De.v 6) De.int) (De.slast (De.ret (De.tTup hb (De.cons (De.bin De.o_add (De.lst (De.cons (De.revT (De.v 7)) De.nil)) (De.v 8)) De.nil)))) De.snil) (De.slast (De.ret (De.tTup hb (De.cons (De.lc [("_law_other", 9)] (De.seqJ (De.v 1)) (De.tv 9) De.ts0 (De.ite (De.tcmp De.o_lt (De.ix (De.v 9) De.int) De.int) (De.tup (De.cons (De.tBool hb (De.cons (De.ix (De.v 9) De.int) De.nil)) (De.cons (De.ix (De.v 9) De.int) De.nil))) (De.v 9))) De.nil))))))))))))))))) ok
theorem F_l_is_flag (hb : Blt mg)  (A : DefAt K mg "_law_is_flag" t_l_is_flag ["_law_told", "_law_due"]) (ok : Okd 2 (r_l_is_flag K   ) (sp_l_is_flag)) : Fn P w K mg base U 1 "_law_is_flag" 2 (sp_l_is_flag) :=
  fnR A sc_l_is_flag rfl (by decide) (De.slast (De.ret (De.and2 (De.isTyA De.tyBool bt_bool hb.isinstance hb.bool (De.v 0)) (De.one (De.cmp De.o_eq (De.v 0) (De.v 1)))))) ok
theorem F_l_lots (hb : Blt mg)  (A : DefAt K mg "_law_lots" t_l_lots ["_law_many"]) (ok : Okd 4 (r_l_lots   ) (sp_l_lots)) : Fn P w K mg base U 1 "_law_lots" 1 (sp_l_lots) :=
  fnR A sc_l_lots rfl (by decide) (De.scons (De.set 1 (De.lst (De.cons (De.tup De.nil) De.nil))) (De.scons (De.loop (De.rng1 hb.range (De.v 0)) (De.tv 2) (De.slast (De.set 1 (De.bin De.o_add (De.v 1) (De.lc [("_law_lot", 3)] (De.seqJ (De.v 1)) (De.tv 3) (De.ts1 (De.tcmp De.o_lt (De.bLen hb (De.cons (De.v 3) De.nil)) De.int)) (De.bin De.o_add (De.v 3) (De.tup (De.cons (De.v 2) De.nil)))))))) (De.slast (De.ret (De.v 1))))) ok
theorem F_law {f fp : Addr} {fd fdp : FuncData} (hb : Blt mg) (h_l_some : Fn P w K mg base (bagU Tb) 2 "_law_some" 2 (sp_any)) (h_l_pick : Fn P w K mg base (bagU Tb) 1 "_law_pick" 2 (spDraw)) (h_l_lists : Fn P w K mg base (bagU Tb) 4 "_law_lists" 3 (sp_l_lists)) (h_l_deep : Fn P w K mg base (bagU Tb) 3 "_law_deep" 1 (sp_l_deep)) (h_l_drawn : Fn P w K mg base (bagU Tb) 3 "_law_drawn" 4 (sp_l_drawn)) (h_l_bent : Fn P w K mg base (bagU Tb) 3 "_law_bent" 4 (sp_l_bent)) (h_l_lots : Fn P w K mg base (bagU Tb) 1 "_law_lots" 1 (sp_l_lots)) (h_is_pairing : Fn P w K mg base (bagU Tb) 6 "is_pairing" 4 (sp_is_pairing K)) (h_l_is_pairing : Fn P w K mg base (bagU Tb) 2 "_law_is_pairing" 4 (sp_l_is_pairing K)) (h_l_is_flag : Fn P w K mg base (bagU Tb) 1 "_law_is_flag" 2 (sp_l_is_flag)) (h_is_ban : Fn P w K mg base (bagU Tb) 6 "is_ban" 4 (sp_is_ban K)) (h_l_is_ban : Fn P w K mg base (bagU Tb) 2 "_law_is_ban" 4 (sp_l_is_ban K)) (F : Fun K "law" "law" t_law f fd) (Pot : FnOk P w K mg base (L2.CX P w) 1 fp fdp ["_law_script"] (spBag Tb K)) (gP : mg "_law_bag" = some (.ref fp)) (kP : PySem.W.keepIn K (.ref fp) = true) (bP : Binds K fdp ["_law_script"] []) (ok : fc (none :: some .pur :: List.replicate 11 none) fun δ => r_law   (sp_any) (spDraw) (sp_l_lists) (sp_l_deep) (sp_l_drawn) (sp_l_bent) (sp_l_lots) (sp_is_pairing K) (sp_l_is_pairing K) (sp_l_is_flag) (sp_is_ban K) (sp_l_is_ban K) noX δ { nx := fun _ => False, rt := fun d => d = .bl true }) : FnOk P w K mg base L2.CX0 7 f fd ["_law_script"] (spLaw Tb K) :=
  lawTopC F sc_law rfl Pot gP kP bP (by decide) (by decide +kernel) (by decide +kernel) (by decide +kernel) (De.scons (De.unp (List.range 13) (De.call h_l_lists (De.cons (De.v 1) (De.cons (De.call h_l_some (De.cons (De.v 1) (De.cons (De.lst (De.cons De.int (De.cons De.int De.nil))) De.nil))) (De.cons (De.ite (De.tcmp De.o_eq (De.call h_l_pick (De.cons (De.v 1) (De.cons De.int De.nil))) De.int) De.int De.int) De.nil)))) (De.tgt 2 (De.gC (De.tv 2) (De.gC (De.tv 3) De.gN)))) (De.scons (De.set 4 (De.call h_l_pick (De.cons (De.v 1) (De.cons De.int De.nil)))) (De.scons (De.set 5 (De.lst (De.cons (De.tup De.nil) (De.cons De.non (De.cons De.int (De.cons De.str (De.cons (De.lst De.nil) (De.cons De.dict0 (De.cons De.disp1 (De.cons (De.tup (De.cons De.non De.nil)) (De.cons (De.tup (De.cons (De.tup De.nil) De.nil)) (De.cons (De.tup (De.cons (De.tup (De.cons De.int De.nil)) De.nil)) (De.cons (De.tup (De.cons De.int (De.cons De.int De.nil))) (De.cons (De.tup (De.cons (De.tup (De.cons De.int (De.cons De.int De.nil))) De.nil)) (De.cons (De.tup (De.cons (De.tup (De.cons De.bl (De.cons De.bl De.nil))) De.nil)) (De.cons (De.tup (De.cons (De.tup (De.cons De.int (De.cons De.int De.nil))) (De.cons (De.tup (De.cons De.int (De.cons De.int De.nil))) De.nil))) (De.cons (De.call h_l_deep (De.cons (De.v 1) De.nil)) De.nil))))))))))))))))) (De.scons (De.loop (De.rng1 hb.range De.int) (De.tv 6) (De.scons (De.set 7 (De.call h_l_drawn (De.cons (De.v 1) (De.cons (De.v 2) (De.cons (De.v 3) (De.cons (De.v 4) De.nil)))))) (De.slast (De.set 5 (De.bin De.o_add (De.v 5) (De.lst (De.cons (De.tTup hb (De.cons (De.v 7) De.nil)) (De.cons (De.call h_l_bent (De.cons (De.v 1) (De.cons (De.v 7) (De.cons (De.bLen hb (De.cons (De.v 2) De.nil)) (De.cons (De.bLen hb (De.cons (De.v 3) De.nil)) De.nil))))) De.nil)))))))) (De.scons (De.loop (De.seq (De.tup (De.cons De.int (De.cons De.int De.nil)))) (De.tv 8) (De.scons (De.set 9 (De.ite (De.tcmp De.o_eq (De.v 8) De.int) (De.v 2) (De.v 3))) (De.scons (De.set 5 (De.bin De.o_add (De.v 5) (De.lc [("_law_lot", 10)] (De.seqJ (De.call h_l_lots (De.cons (De.bLen hb (De.cons (De.v 9) De.nil)) De.nil))) (De.tv 10) De.ts0 (De.tup (De.cons (De.v 8) (De.cons (De.v 10) De.nil)))))) (De.scons (De.set 10 (De.tupR1 hb (De.bLen hb (De.cons (De.v 9) De.nil)))) (De.scons (De.set 11 (De.lst (De.cons (De.tLst hb (De.cons (De.v 10) De.nil)) (De.cons (De.revT (De.v 10)) (De.cons (De.bin De.o_add (De.v 10) (De.tup (De.cons (De.bLen hb (De.cons (De.v 9) De.nil)) De.nil))) (De.cons (De.bin De.o_add (De.v 10) (De.slc (De.v 10) (De.atP (De.neg De.int)) De.noP)) (De.cons De.non (De.cons (De.tup (De.cons (De.neg De.int) De.nil)) (De.cons (De.tup (De.cons De.bl De.nil)) (De.cons (De.tup (De.cons De.non De.nil)) (De.cons (De.tup (De.cons (De.tup (De.cons De.int De.nil)) De.nil)) De.nil))))))))))) (De.slast (De.set 5 (De.bin De.o_add (De.v 5) (De.lc [("_law_thing", 12)] (De.seqJ (De.v 11)) (De.tv 12) De.ts0 (De.tup (De.cons (De.v 8) (De.cons (De.v 12) De.nil)))))))))))) (De.scons (De.set 5 (De.bin De.o_add (De.v 5) (De.lst (De.cons (De.tup (De.cons De.bl (De.cons (De.tup (De.cons De.int De.nil)) De.nil))) (De.cons (De.tup (De.cons De.int (De.cons (De.tup (De.cons De.int De.nil)) De.nil))) (De.cons (De.tup (De.cons (De.neg De.int) (De.cons (De.tup (De.cons De.int De.nil)) De.nil))) (De.cons (De.tup (De.cons De.non (De.cons (De.tup (De.cons De.int De.nil)) De.nil))) (De.cons (De.lst (De.cons De.int (De.cons (De.tup (De.cons De.int De.nil)) De.nil))) (De.cons (De.tup (De.cons De.int (De.cons (De.tup (De.cons De.int De.nil)) (De.cons (De.tup De.nil) De.nil)))) (De.cons (De.tup (De.cons De.int De.nil)) (De.cons (De.tup (De.cons De.str (De.cons (De.tup (De.cons De.int De.nil)) De.nil))) (De.cons (De.tup (De.cons De.bl (De.cons (De.tup (De.cons De.int (De.cons De.int De.nil))) De.nil))) De.nil)))))))))))) (De.scons (De.loop (De.seq (De.v 5)) (De.tv 12) (De.scons (De.cond (De.tnot (De.tval (De.call h_l_is_flag (De.cons (De.call h_is_pairing (De.cons (De.v 2) (De.cons (De.v 3) (De.cons (De.v 4) (De.cons (De.v 12) De.nil))))) (De.cons (De.call h_l_is_pairing (De.cons (De.v 2) (De.cons (De.v 3) (De.cons (De.v 4) (De.cons (De.v 12) De.nil))))) De.nil))))) (De.slast (De.ret De.bl)) De.snil) (De.slast (De.cond (De.tnot (De.tval (De.call h_l_is_flag (De.cons (De.call h_is_ban (De.cons (De.v 2) (De.cons (De.v 3) (De.cons (De.v 4) (De.cons (De.v 12) De.nil))))) (De.cons (De.call h_l_is_ban (De.cons (De.v 2) (De.cons (De.v 3) (De.cons (De.v 4) (De.cons (De.v 12) De.nil))))) De.nil))))) (De.slast (De.ret De.bl)) De.snil)))) (De.slast (De.ret De.bl))))))))) ok
end
end K46

set_option maxRecDepth 100000
set_option maxHeartbeats 4000000
namespace K46
open PySem PySem.Spec PyProof.Rows L2 Dl
local macro_rules | `(tactic| wtm_at "wh") => `(tactic| conv => whnf)
local macro_rules | `(tactic| wtm_at "cmp") => `(tactic| first | assumption | omega | (simp only [Int.reduceToNat, Int.reducePow]; omega))
local macro_rules | `(tactic| wtm_at "v1") => `(tactic| first
  | refine ⟨true, congrArg V.bl (decide_eq_true (by wtm_at "cmp")), ?_⟩
  | refine ⟨false, congrArg V.bl (decide_eq_false (by wtm_at "cmp")), ?_⟩
  | refine ⟨_, rfl, ?_⟩
  | refine ⟨_, _, _, _, rfl, rfl, SqL.of upd_same, rfl, ?_⟩
  | refine ⟨_, _, _, _, rfl, rfl, SqL.of (by refine (upd_ne (by assumption)).trans ?_; assumption), (by assumption), ?_⟩
  | refine ⟨_, _, rfl, .inl (SqL.of (by refine (upd_ne (by assumption)).trans ?_; assumption)), ?_⟩
  | refine ⟨_, _, rfl, rfl, ?_⟩
  | refine .inl ⟨_, rfl, ?_⟩
  | refine ⟨_, _, _, _, rfl, rfl, upd_same, rfl, ?_⟩
  | refine And.intro (by first | exact CMul.r (by omega) (by omega) | exact CMul.l (by omega) (by omega) | omega | exact ⟨by omega, by omega⟩ | exact ⟨by omega, by omega, by decide⟩) ?_)
local macro_rules | `(tactic| wtm_at "v") => `(tactic| (wtm_at "wh"; repeat (wtm_at "v1"; wtm_at "wh")))
theorem ixN_lt {n k : Nat} (h : k < n) : ixN n (k : Int) = some k := by
  unfold ixN
  simp
  omega
theorem seq0 {n : Nat} (h : 0 < n) : seqIndex? 0 n = some 0 := by
  simp [seqIndex?, h]
theorem erase0 (xs : List Int) : (xs.map V.int).eraseIdx 0 = (xs.eraseIdx 0).map V.int := by cases xs <;> rfl
theorem drawC {P : Program} {w : World} {K : PySem.W.Frag} {mg : Str → Option Value} {base : Heap} {f : Addr} {fd : FuncData} (hb : Blt mg) (F : Fun K "_law_pick" "_law_pick" t_l_pick f fd) : FnOk P w K mg base (L2.CX P w) 1 f fd ["_law_bag_here", "_law_many"] (spDrawC K) := by
  refine F.okX sc_l_pick (fun vs H Q E h => ?_) (fun cdv A outer s H vs Q E hr h => ?_)
  · obtain ⟨a, c, m, ns, i1, i2, i3, rfl, _⟩ := h
    rfl
  · obtain ⟨a, c, m, ns, i1, i2, i3, rfl, ha, hc, ⟨hl, hns⟩, ⟨p1, p2, p3, p4⟩, m0, m1, q⟩ := h
    have hca : c ≠ a := fun e => by
      rw [e, ha] at hc
      have := Option.some.inj hc
      have := HO.lst.inj this
      cases ns <;> simp at this
    refine ⟨_, (pss_cons (ps_if (pt_cmpR op_eqI (pe_ix ix_list (pv 0) pe_int (by intro _ _; rfl)) pe_int (nomark _)) (pss_cons (ps_ret pe_int)
    pss_nil) pss_nil)
    (pss_cons (ps_if (pt_cmpR op_gt (pe_callB call_len_seq rfl hb.len boot_len (pa_cons (pe_ix ix_list (pv 0) pe_int (by intro _ _; rfl)) pa_nil)) pe_int (nomark _)) (pss_cons (ps_set (i := 2) sc_l_pick.nd rfl (.inl rfl) (pe_ix ix_list (pe_ix ix_list (pv 0) pe_int (by intro _ _; rfl)) pe_int (by intro _ _; rfl)))
    (pss_cons (ps_asg (pe_op op_fdiv (pv 2) (pv 1)) (pg_sub (pe_ix ix_list (pv 0) pe_int (by intro _ _; rfl)) pe_int set_list (by intro _; rfl)))
    (pss_cons (ps_if (pt_cmpR op_lt (pv 2) (pv 1) (nomark _)) (pss_cons (ps_expr (pe_bm PySem.F.plainAttrs_list PySem.F.slot_list_pop PySem.F.type_list_pop mt_popAt (pe_ix ix_list (pv 0) pe_int (by intro _ _; rfl)) (pa_cons pe_int pa_nil)) (by rfl))
    pss_nil) pss_nil)
    (pss_cons (ps_ret (pe_op op_mod (pe_callTy call_int1 rfl hb.int bt_int (pa_cons (pv 2) pa_nil)) (pv 1)))
    pss_nil)))) pss_nil)
    (pss_cons (ps_asg (pe_op op_add (pe_ix ix_list (pv 0) pe_int (by intro _ _; rfl)) pe_int) (pg_sub (pv 0) pe_int set_list (by intro _; rfl)))
    (pss_cons (ps_set (i := 2) sc_l_pick.nd rfl (.inl rfl) (pe_op op_mod (pe_callTy call_int1 rfl hb.int bt_int (pa_cons (pe_op op_add (pe_op op_mul (pe_op op_add (pe_ix ix_list (pv 0) pe_int (by intro _ _; rfl)) (pe_op op_mul pe_int (pe_ix ix_list (pv 0) pe_int (by intro _ _; rfl)))) pe_int) pe_int) pa_nil)) pe_int))
    (pss_cons (ps_set (i := 2) sc_l_pick.nd rfl (.inl rfl) (pe_op op_mod (pe_callTy call_int1 rfl hb.int bt_int (pa_cons (pe_op op_add (pe_op op_mul (pv 2) (pe_op op_add (pe_op op_fdiv (pv 2) pe_int) pe_int)) (pe_ix ix_list (pv 0) pe_int (by intro _ _; rfl))) pa_nil)) pe_int))
    (pss_cons (ps_asg (pe_op op_mod (pe_callTy call_int1 rfl hb.int bt_int (pa_cons (pe_op op_add (pe_ix ix_list (pv 0) pe_int (by intro _ _; rfl)) (pv 2)) pa_nil)) pe_int) (pg_sub (pv 0) pe_int set_list (by intro _; rfl)))
    (pss_cons (ps_ret (pe_op op_mod (pe_callTy call_int1 rfl hb.int bt_int (pa_cons (pe_op op_fdiv (pv 2) pe_int) pa_nil)) (pv 1)))
    pss_nil))))))), ?_⟩
    rw [← upd_self ha]
    have hC : ∀ o, upd H a o c = some (.lst (ns.map V.int)) := fun o => (upd_ne hca).trans hc
    have e1 : ((ns.map V.int).length : Int) = ns.length := by simp
    by_cases h1 : i2 = 0
    · subst h1
      wtm_at "v"
      have z := q 0 i1 0 i3 ns (by omega) m0 ⟨p1, p2, by omega, p4⟩ ⟨hl, hns⟩
      rw [upd_self (hC _)] at z
      exact z
    · by_cases h2 : 0 < ((ns.map V.int).length : Int)
      · have hc1 : 0 < ns.length := by omega
        have hcell : atI (ns.map V.int) 0 = some (.int ns[0]) := atI_of 0 rfl (by rw [List.getElem?_map, List.getElem?_eq_getElem hc1]; rfl)
        have hcn := hns _ (List.getElem_mem hc1)
        generalize ns[0] = n at hcell hcn
        have hix : ixN (ns.map V.int).length ((0 : Nat) : Int) = some 0 := ixN_lt (by omega)
        have ca : ∀ o u, upd (upd H a o) c u a = some o := fun o u => by
          rw [upd_ne hca.symm, upd_same]
        have es : ∀ x, (ns.map V.int).set 0 (V.int x) = (ns.set 0 x).map V.int := fun x => (List.map_set ..).symm
        have gs : ∀ x, 0 ≤ x → GrI (ns.set 0 x) := fun x hx => ⟨by rw [List.length_set]; exact hl, fun y hy => (List.mem_or_eq_of_mem_set hy).elim (hns y) fun z => by rw [z]; exact hx⟩
        have hq0 : 0 ≤ n / m := Int.ediv_nonneg hcn (by omega)
        by_cases h3 : n < m
        · wtm_at "v"
          refine ⟨c, _, 0, 0, rfl, rfl, hC _, hix, ?_⟩
          wtm_at "v"
          refine ⟨a, _, 0, _, rfl, rfl, SqL.of (ca _ _), rfl, ?_⟩
          refine ⟨tyL upd_same, ?_⟩
          conv => whnf
          refine ⟨c, _, 0, 0, V.int (n / m), rfl, rfl, upd_same, by decide, by decide, ?_, List.getElem?_set_self (by rw [List.length_map]; exact hc1), ?_⟩
          · exact seq0 (by rw [List.length_set, List.length_map]; exact hc1)
          simp only [upd_upd]
          wtm_at "v"
          have z := q (n % m) i1 i2 i3 ((ns.set 0 (n / m)).eraseIdx 0) (Int.emod_nonneg _ (by omega)) (Int.emod_lt_of_pos _ m0) ⟨p1, p2, p3, p4⟩ ⟨by have := List.length_eraseIdx_le (ns.set 0 (n / m)) 0; have := (gs _ hq0).1; omega, fun y hy => (gs _ hq0).2 y (List.mem_of_mem_eraseIdx hy)⟩
          rw [← erase0, ← es] at z
          exact z
        · wtm_at "v"
          refine ⟨c, _, 0, 0, rfl, rfl, hC _, hix, ?_⟩
          wtm_at "v"
          have z := q (n % m) i1 i2 i3 (ns.set 0 (n / m)) (Int.emod_nonneg _ (by omega)) (Int.emod_lt_of_pos _ m0) ⟨p1, p2, p3, p4⟩ (gs _ hq0)
          rw [← es] at z
          exact z
      · wtm_at "v"
        simp only [upd_upd]
        have z := fun v v0 v1 j1 pj => q v j1 i2 (i3 + 1) ns v0 v1 pj ⟨hl, hns⟩
        simp only [upd_self (hC _)] at z
        exact z _ (Int.emod_nonneg _ (by omega)) (Int.emod_lt_of_pos _ m0) _ (by refine ⟨?_, ?_, ?_, ?_⟩ <;> omega)
theorem bagC {P : Program} {w : World} {K : PySem.W.Frag} {mg : Str → Option Value} {base : Heap} {Tb : List (Addr × Str)} {f : Addr} {fd : FuncData} (hb : Blt mg) (F : Fun K "_law_bag" "_law_bag" t_l_bag f fd) : FnOk P w K mg base (L2.CX P w) 1 f fd ["_law_script"] (spBag Tb K) := by
  refine fnScrC F sc_l_bag rfl fun X H0 c f h0 hl a ns hS hz => ?_
  have hS' : SqL X.K c.Hb a (ns.map V.int) := by rw [f.k, h0]; exact hS
  obtain ⟨ms, hms, hml⟩ := cut_ints ns none (some 63)
  have f' : (⟨P, w, K, mg, base, n_l_bag, defScope t_l_bag, .top, bagN Tb H0, 0⟩ : Fr).X X := f
  have scr : ∀ {T : XD} (c : Ct X (bagN Tb H0) 0 T), SqL X.K c.Hb a (ns.map V.int) → ∀ {δ : List (Option D)} {S : D → Prop} {p p1 p2 p3 : Pos} {j : Nat}, δ[0]? = some (some (.any (.ref a))) → S (.lst (ms.map D.int)) → WE c (.Subscript (.Name "_law_script" p) (.Slice none (some (.Constant (.int 63) j p1)) none p2) p3) δ S := fun {T} c hS {δ S p p1 p2 p3 j} h0 h => by
    refine WE_scr (i := none) (j := some 63) hS hz ?_ (WP_none rfl) (WP_some (WE_int ⟨63, rfl, rfl⟩)) (by rw [hms]; exact h)
    exact WE_var 0 h0 rfl (by rw [f.n]; rfl) (f.vis (by decide +kernel)) (by decide +kernel) (by decide +kernel)
  show WSs c (defBody t_l_bag) [some (.any (.ref a)), none, none, none] _
  refine WSs_cons ?_
  refine WS_setLc 1 [("_law_cell", 3)] [3] (S := fun ds => ∃ gs : List Int, ds = gs.map D.int ∧ GrI gs) (WJ_mono (WJ_lst (scr c hS' rfl ⟨_, rfl, ?_⟩)) fun ds h => turns_of f (De.lcTurns (f := ⟨P, w, K, mg, base, n_l_bag, defScope t_l_bag, .top, bagN Tb H0, 0⟩) (De.tv 3) (De.ts1 (De.tcmp De.o_ge (De.bAbs hb (De.cons (De.tInt hb (De.cons (De.v 3) De.nil)) De.nil)) (De.bin De.o_pow De.int De.int))) (De.bAbs hb (De.cons (De.tInt hb (De.cons (De.v 3) De.nil)) De.nil)) h)) (.inl fun ds h => ?_) (by rw [f.n, f.s]; exact blkOk_by (by decide +kernel)) (by simp) (by rw [f.n]; rfl) (by rw [f.s]; decide +kernel) (sw_true (by rw [f.s]; rfl) (by rw [f.s]; decide +kernel) rfl (by decide +kernel)) (by intro _; rfl)
  · refine Rd.tif D.int (fun m => if m < 0 then -m else m) (fun m => decide ((if m < 0 then -m else m) ≥ (10 : Int) ^ 18)) _ _ rfl (fun m hm S' A k1 k2 => ?_) ?_
    · wtm_at "wh"
      refine ⟨⟨by decide, by decide, by decide⟩, ?_⟩
      wtm_at "wh"
      refine brB_p (fun h => ?_) (fun h => ?_)
      · wtm_at "wh"
        exact k1 (decide_eq_true h)
      · exact k2 (decide_eq_false h)
    · refine ⟨_, rfl, ?_, fun n hn => ?_⟩
      · rw [List.length_map]
        exact Nat.le_trans (List.length_filter_le ..) (by omega)
      · obtain ⟨m, _, rfl⟩ := List.mem_map.mp hn
        split <;> omega
  · obtain ⟨gs, rfl, hg⟩ := h
    refine WSs_cons ((De.set (f := ⟨P, w, K, mg, base, n_l_bag, defScope t_l_bag, .top, bagN Tb H0, 0⟩) 2 De.int) c f' _ _ ?_)
    wtm_at "wh"
    refine WSs_cons (WS_for (List.range 4) (WI_lst (scr c hS' rfl ⟨_, rfl, ?_⟩)) (by intro _; rfl))
    refine ⟨fun i δ' => ∃ s e, δ' = [some (.any (.ref a)), some (.own (gs.map D.int)), some (.int s), e] ∧ 0 ≤ s ∧ s < 4294967296, ⟨_, _, rfl, by omega, by omega⟩, ?_, ?_⟩
    · rintro i d δ' hd hst ⟨s, e, rfl, s0, s1⟩ B hs
      obtain ⟨m, rfl⟩ : ∃ m, d = .int m := by
        rw [List.getElem?_map] at hd
        obtain ⟨m, _, e⟩ := Option.map_eq_some_iff.mp hd
        exact ⟨m, e.symm⟩
      refine (De.tv (f := ⟨P, w, K, mg, base, n_l_bag, defScope t_l_bag, .top, bagN Tb H0, 0⟩) 3) (c.at_ B hs) f' _ _ _ ?_
      wtm_at "wh"
      refine (De.slast (De.set (f := ⟨P, w, K, mg, base, n_l_bag, defScope t_l_bag, .top, bagN Tb H0, 0⟩) 2 (De.bin De.o_mod (De.tInt hb (De.cons (De.bin De.o_add (De.bin De.o_add (De.bin De.o_add (De.bin De.o_mul (De.v 2) De.int) (De.bin De.o_mul (De.bAbs hb (De.cons (De.tInt hb (De.cons (De.v 3) De.nil)) De.nil)) De.int)) (De.tInt hb (De.cons (De.cmp De.o_lt (De.tInt hb (De.cons (De.v 3) De.nil)) De.int) De.nil))) De.int) De.nil)) De.int))) (c.at_ B hs) f' _ _ ?_
      wtm_at "wh"
      refine ⟨CMul.l (by omega) (by omega), ?_⟩
      wtm_at "wh"
      refine ⟨CMul.r (by omega) (by omega), ?_⟩
      wtm_at "wh"
      refine ⟨by omega, ?_⟩
      wtm_at "wh"
      exact ⟨_, _, rfl, Int.emod_nonneg _ (by omega), Int.lt_of_lt_of_le (Int.emod_lt_of_pos _ (by omega)) (by omega)⟩
    · rintro δ' ⟨s, e, rfl, s0, s1⟩
      refine WSs_cons (WS_retBag h0 hl (WA_cons ((De.v (f := ⟨P, w, K, mg, base, n_l_bag, defScope t_l_bag, .top, bagN Tb H0, 0⟩) 1) c f' _ _ ?_) rfl) rfl)
      wtm_at "wh"
      refine WA_cons ((De.v (f := ⟨P, w, K, mg, base, n_l_bag, defScope t_l_bag, .top, bagN Tb H0, 0⟩) 2) c f' _ _ ?_) rfl
      wtm_at "wh"
      refine WA_cons (eB f hb.len (id := "len") boot_len (by decide +kernel) (WA_cons (WE_var 0 rfl ?_ (by rw [f.n]; rfl) (f.vis (by decide +kernel)) (by decide +kernel) (by decide +kernel)) rfl) rfl rfl) rfl
      refine WA_nil (CD_lenScr hS' ?_)
      refine WA_cons (WE_int (WA_nil ?_)) rfl
      exact ⟨gs, s, _, rfl, hg, s0, s1, by omega, by omega⟩
end K46

set_option maxRecDepth 100000
set_option maxHeartbeats 4000000
namespace K46
open PySem PySem.Spec PyProof.Rows L2 Dl Tb 
section
variable {P : Program} {w : World} {K : PySem.W.Frag} {mg : Str → Option Value} {h : Heap}
theorem facts (X : K.In h) (G : h.Ns mainGlobals mg) (c0 : SaysY hd tf w h K) {f : Addr} (hfa : mg "law" = some (.ref f)) : ∃ fd : FuncData, (∀ (s : Shared) (v : Value), BindsTo s fd ⟨[v], []⟩ [("_law_script", v)]) ∧ ∀ base : Heap, (∀ p ∈ tf.map (He.cT K), LamX.TabB base mg p.1 p.2) → FnOk P w K mg base L2.CX0 7 f fd ["_law_script"] (spLaw (tabsT K tf) K) := by
  have c := c0.x
  have hb : Blt mg := blt_of X G c (by decide +kernel)
  obtain ⟨fd, F0⟩ := c.def_ 29 (x := defD "law" t_law)
  have F := fun_of (x := "law") (q := "law") (st := t_law) F0
  have e := hfa.symm.trans (He.glo_ok X G (c.fact 29 (f := .glo "law")))
  cases e
  refine ⟨fd, law_binds F (fun _ _ _ _ _ _ us hl => match us, hl with | [_], _ => rfl), fun base TB => ?_⟩
  have hT : ∀ H, (bagU (tabsT K tf)).G H ↔ LamX.Tabs (tabsT K tf) H := fun _ => Iff.rfl
  have C_MOST_BARS := int_of X G c (x := "MOST_BARS") 53
  have C_FARTHEST := int_of X G c (x := "FARTHEST") 54
  have C_MOST_DISTANCE := int_of X G c (x := "MOST_DISTANCE") 55
  have e_NoBars : ExR K mg "NoBars" (He.ga K "NoBars") := excR_of X G c 0 30
  have e_NoNumber : ExR K mg "NoNumber" (He.ga K "NoNumber") := excR_of X G c 1 31
  obtain ⟨fp, fdp, FP, gP, bP⟩ := (defAt_of X G c (x := "_law_bag") (st := t_l_bag) (ps := ["_law_script"]) 13 13 (fun _ _ _ _ _ _ us hl => match us, hl with | [_], _ => rfl)).ex
  have kP := FP.kp
  have HP := bagC (P := P) (w := w) (base := base) (Tb := tabsT K tf) hb FP
  obtain ⟨fr, fdr, FR, gR, bR⟩ := (defAt_of X G c (x := "_law_pick") (st := t_l_pick) (ps := ["_law_bag_here", "_law_many"]) 14 14 (fun _ _ _ _ _ _ us hl => match us, hl with | [_, _], _ => rfl)).ex
  have H_l_pick : Fn P w K mg base (bagU (tabsT K tf)) 1 "_law_pick" 2 spDraw := ⟨fr, fdr, _, gR, FR.kp, bR, drawC_told rfl (drawC (P := P) (w := w) (base := base) hb FR)⟩
  have A_is_integer := defAt_of X G c (x := "is_integer") (st := t_is_integer) (ps := ["thing"]) 0 0 (fun _ _ _ _ _ _ us hl => match us, hl with | [_], _ => rfl)
  have H_is_integer := F_is_integer (P := P) (w := w) (base := base) (U := bagU (tabsT K tf)) hb  A_is_integer (ok_is_integer K)
  have A_is_within := defAt_of X G c (x := "is_within") (st := t_is_within) (ps := ["thing", "least", "most"]) 1 1 (fun _ _ _ _ _ _ us hl => match us, hl with | [_, _, _], _ => rfl)
  have H_is_within := F_is_within (P := P) (w := w) (base := base) (U := bagU (tabsT K tf)) hb H_is_integer A_is_within (ok_is_within K)
  have A_is_number := defAt_of X G c (x := "is_number") (st := t_is_number) (ps := ["thing", "most"]) 2 2 (fun _ _ _ _ _ _ us hl => match us, hl with | [_, _], _ => rfl)
  have H_is_number := F_is_number (P := P) (w := w) (base := base) (U := bagU (tabsT K tf)) hb H_is_within A_is_number (ok_is_number K)
  have A_is_lot := defAt_of X G c (x := "is_lot") (st := t_is_lot) (ps := ["thing", "many"]) 3 3 (fun _ _ _ _ _ _ us hl => match us, hl with | [_, _], _ => rfl)
  have H_is_lot := F_is_lot (P := P) (w := w) (base := base) (U := bagU (tabsT K tf)) hb H_is_number A_is_lot (ok_is_lot K)
  have A_check_within := defAt_of X G c (x := "check_within") (st := t_check_within) (ps := ["thing", "least", "most"]) 4 4 (fun _ _ _ _ _ _ us hl => match us, hl with | [_, _, _], _ => rfl)
  have H_check_within := F_check_within (P := P) (w := w) (base := base) (U := bagU (tabsT K tf)) hb H_is_within e_NoNumber A_check_within (ok_check_within K (He.ga K "NoNumber"))
  have A_is_bar := defAt_of X G c (x := "is_bar") (st := t_is_bar) (ps := ["thing"]) 5 5 (fun _ _ _ _ _ _ us hl => match us, hl with | [_], _ => rfl)
  have H_is_bar := F_is_bar (P := P) (w := w) (base := base) (U := bagU (tabsT K tf)) hb H_is_within C_FARTHEST A_is_bar (ok_is_bar K)
  have A_check_bars := defAt_of X G c (x := "check_bars") (st := t_check_bars) (ps := ["thing"]) 6 6 (fun _ _ _ _ _ _ us hl => match us, hl with | [_], _ => rfl)
  have H_check_bars := F_check_bars (P := P) (w := w) (base := base) (U := bagU (tabsT K tf)) hb H_is_bar C_MOST_BARS e_NoBars A_check_bars (ok_check_bars K (He.ga K "NoBars"))
  have A_do_fit := defAt_of X G c (x := "do_fit") (st := t_do_fit) (ps := ["bar", "other", "e"]) 7 7 (fun _ _ _ _ _ _ us hl => match us, hl with | [_, _, _], _ => rfl)
  have H_do_fit := F_do_fit (P := P) (w := w) (base := base) (U := bagU (tabsT K tf)) hb  A_do_fit (ok_do_fit)
  have A_is_long := defAt_of X G c (x := "is_long") (st := t_is_long) (ps := ["bar", "e"]) 8 8 (fun _ _ _ _ _ _ us hl => match us, hl with | [_, _], _ => rfl)
  have H_is_long := F_is_long (P := P) (w := w) (base := base) (U := bagU (tabsT K tf)) hb  A_is_long (ok_is_long)
  have A_check_asked := defAt_of X G c (x := "check_asked") (st := t_check_asked) (ps := ["one", "other", "e"]) 9 9 (fun _ _ _ _ _ _ us hl => match us, hl with | [_, _, _], _ => rfl)
  have H_check_asked := F_check_asked (P := P) (w := w) (base := base) (U := bagU (tabsT K tf)) hb H_check_bars H_check_within C_MOST_DISTANCE A_check_asked (ok_check_asked K (He.ga K "NoBars") (He.ga K "NoNumber"))
  have A_is_number_pair := defAt_of X G c (x := "is_number_pair") (st := t_is_number_pair) (ps := ["thing", "many", "more"]) 10 10 (fun _ _ _ _ _ _ us hl => match us, hl with | [_, _, _], _ => rfl)
  have H_is_number_pair := F_is_number_pair (P := P) (w := w) (base := base) (U := bagU (tabsT K tf)) hb H_is_number A_is_number_pair (ok_is_number_pair K)
  have A_is_pairing := defAt_of X G c (x := "is_pairing") (st := t_is_pairing) (ps := ["one", "other", "e", "thing"]) 11 11 (fun _ _ _ _ _ _ us hl => match us, hl with | [_, _, _, _], _ => rfl)
  have H_is_pairing := F_is_pairing (P := P) (w := w) (base := base) (U := bagU (tabsT K tf)) hb H_check_asked H_is_number_pair H_do_fit H_is_long A_is_pairing (ok_is_pairing K (He.ga K "NoBars") (He.ga K "NoNumber"))
  have A_is_ban := defAt_of X G c (x := "is_ban") (st := t_is_ban) (ps := ["one", "other", "e", "thing"]) 12 12 (fun _ _ _ _ _ _ us hl => match us, hl with | [_, _, _, _], _ => rfl)
  have H_is_ban := F_is_ban (P := P) (w := w) (base := base) (U := bagU (tabsT K tf)) hb H_check_asked H_is_integer H_is_lot H_is_long H_do_fit A_is_ban (ok_is_ban K (He.ga K "NoBars") (He.ga K "NoNumber"))
  have A_l_some := defAt_of X G c (x := "_law_some") (st := t_l_some) (ps := ["_law_bag_here", "_law_things"]) 15 15 (fun _ _ _ _ _ _ us hl => match us, hl with | [_, _], _ => rfl)
  have H_l_some := F_l_some (P := P) (w := w) (base := base) (U := bagU (tabsT K tf)) hb H_l_pick A_l_some (ok_l_some)
  have A_l_fits := defAt_of X G c (x := "_law_fits") (st := t_l_fits) (ps := ["_law_bar", "_law_other", "_law_e"]) 16 16 (fun _ _ _ _ _ _ us hl => match us, hl with | [_, _, _], _ => rfl)
  have H_l_fits := F_l_fits (P := P) (w := w) (base := base) (U := bagU (tabsT K tf)) hb  A_l_fits (ok_l_fits)
  have A_l_is_long := defAt_of X G c (x := "_law_is_long") (st := t_l_is_long) (ps := ["_law_bar", "_law_e"]) 17 17 (fun _ _ _ _ _ _ us hl => match us, hl with | [_, _], _ => rfl)
  have H_l_is_long := F_l_is_long (P := P) (w := w) (base := base) (U := bagU (tabsT K tf)) hb  A_l_is_long (ok_l_is_long)
  have A_l_bar := defAt_of X G c (x := "_law_bar") (st := t_l_bar) (ps := ["_law_bag_here", "_law_wide"]) 18 18 (fun _ _ _ _ _ _ us hl => match us, hl with | [_, _], _ => rfl)
  have H_l_bar := F_l_bar (P := P) (w := w) (base := base) (U := bagU (tabsT K tf)) hb H_l_pick H_l_some A_l_bar (ok_l_bar)
  have A_l_moved := defAt_of X G c (x := "_law_moved") (st := t_l_moved) (ps := ["_law_bag_here", "_law_bar_here", "_law_wide"]) 19 19 (fun _ _ _ _ _ _ us hl => match us, hl with | [_, _, _], _ => rfl)
  have H_l_moved := F_l_moved (P := P) (w := w) (base := base) (U := bagU (tabsT K tf)) hb H_l_pick A_l_moved (ok_l_moved)
  have A_l_lists := defAt_of X G c (x := "_law_lists") (st := t_l_lists) (ps := ["_law_bag_here", "_law_wide", "_law_most"]) 20 20 (fun _ _ _ _ _ _ us hl => match us, hl with | [_, _, _], _ => rfl)
  have H_l_lists := F_l_lists (P := P) (w := w) (base := base) (U := bagU (tabsT K tf)) hb H_l_pick H_l_bar H_l_moved A_l_lists (ok_l_lists)
  have A_l_is_number := defAt_of X G c (x := "_law_is_number") (st := t_l_is_number) (ps := ["_law_thing", "_law_below"]) 21 21 (fun _ _ _ _ _ _ us hl => match us, hl with | [_, _], _ => rfl)
  have H_l_is_number := F_l_is_number (P := P) (w := w) (base := base) (U := bagU (tabsT K tf)) hb  A_l_is_number (ok_l_is_number K)
  have A_l_is_pairing := defAt_of X G c (x := "_law_is_pairing") (st := t_l_is_pairing) (ps := ["_law_one", "_law_other", "_law_e", "_law_thing"]) 22 22 (fun _ _ _ _ _ _ us hl => match us, hl with | [_, _, _, _], _ => rfl)
  have H_l_is_pairing := F_l_is_pairing (P := P) (w := w) (base := base) (U := bagU (tabsT K tf)) hb H_l_is_number H_l_fits H_l_is_long A_l_is_pairing (ok_l_is_pairing K)
  have A_l_is_ban := defAt_of X G c (x := "_law_is_ban") (st := t_l_is_ban) (ps := ["_law_one", "_law_other", "_law_e", "_law_thing"]) 23 23 (fun _ _ _ _ _ _ us hl => match us, hl with | [_, _, _, _], _ => rfl)
  have H_l_is_ban := F_l_is_ban (P := P) (w := w) (base := base) (U := bagU (tabsT K tf)) hb H_l_is_number H_l_is_long H_l_fits A_l_is_ban (ok_l_is_ban K)
  have A_l_deep := defAt_of X G c (x := "_law_deep") (st := t_l_deep) (ps := ["_law_bag_here"]) 24 24 (fun _ _ _ _ _ _ us hl => match us, hl with | [_], _ => rfl)
  have H_l_deep := F_l_deep (P := P) (w := w) (base := base) (U := bagU (tabsT K tf)) hb H_l_some H_l_pick A_l_deep (ok_l_deep)
  have A_l_drawn := defAt_of X G c (x := "_law_drawn") (st := t_l_drawn) (ps := ["_law_bag_here", "_law_one", "_law_other", "_law_e"]) 25 25 (fun _ _ _ _ _ _ us hl => match us, hl with | [_, _, _, _], _ => rfl)
  have H_l_drawn := F_l_drawn (P := P) (w := w) (base := base) (U := bagU (tabsT K tf)) hb H_l_fits H_l_pick H_l_some A_l_drawn (ok_l_drawn)
  have A_l_bent := defAt_of X G c (x := "_law_bent") (st := t_l_bent) (ps := ["_law_bag_here", "_law_pairs", "_law_many", "_law_more"]) 26 26 (fun _ _ _ _ _ _ us hl => match us, hl with | [_, _, _, _], _ => rfl)
  have H_l_bent := F_l_bent (P := P) (w := w) (base := base) (U := bagU (tabsT K tf)) hb H_l_pick H_l_some A_l_bent (ok_l_bent)
  have A_l_is_flag := defAt_of X G c (x := "_law_is_flag") (st := t_l_is_flag) (ps := ["_law_told", "_law_due"]) 27 27 (fun _ _ _ _ _ _ us hl => match us, hl with | [_, _], _ => rfl)
  have H_l_is_flag := F_l_is_flag (P := P) (w := w) (base := base) (U := bagU (tabsT K tf)) hb  A_l_is_flag (ok_l_is_flag K)
  have A_l_lots := defAt_of X G c (x := "_law_lots") (st := t_l_lots) (ps := ["_law_many"]) 28 28 (fun _ _ _ _ _ _ us hl => match us, hl with | [_], _ => rfl)
  have H_l_lots := F_l_lots (P := P) (w := w) (base := base) (U := bagU (tabsT K tf)) hb  A_l_lots (ok_l_lots)
  have HL := F_law (P := P) (w := w) (base := base) (Tb := tabsT K tf) hb H_l_some H_l_pick H_l_lists H_l_deep H_l_drawn H_l_bent H_l_lots H_is_pairing H_l_is_pairing H_l_is_flag H_is_ban H_l_is_ban F HP gP kP bP (ok_law K)
  exact HL
end
end K46
open PySem PySem.W PySem.Calls PyProof.Rows
set_option maxRecDepth 100000 in
set_option maxHeartbeats 0 in
theorem PySem.Challenge.cw_mapwebs_k46_whole_pairings_and_bans_judg_holds : PySem.Challenge.rw_mapwebs_k46_whole_pairings_and_bans_judg.Holds := by
  w_on; o_law
  refine HandSHeadRun.head_any (r := OpenLaw.row PySem.Challenge.rw_mapwebs_k46_whole_pairings_and_bans_judg) (q := view (OpenLaw.row PySem.Challenge.rw_mapwebs_k46_whole_pairings_and_bans_judg).prog [43]) (H := K46.hk) (ob := K46.ob) (M := 6000) (loose := K46.loose) (d := HandSHeadRun.topDef (OpenLaw.row PySem.Challenge.rw_mapwebs_k46_whole_pairings_and_bans_judg).prog 43) (kwd := []) K46.ob_eq
    (by kernel_rfl) (fun s => by kernel_rfl) K46.run (by kernel_rfl) (by kernel_rfl) (by kernel_rfl) (by rfl) (by first | assumption | decide +kernel) (by decide +kernel) ⟨rfl, rfl, rfl, rfl, rfl, by decide +kernel⟩ ?hw ?hc
  case hw => w_witness2
  case hc =>
    refine LamX.walk_ofTsE (l := PySem.Challenge.rw_mapwebs_k46_whole_pairings_and_bans_judg) (n := 63) (k := 7) (x := "_law_script") (CX := fun _ => L2.CX0) rfl (by decide) (by kernel_rfl) ⟨rfl, by decide, by decide⟩ ?F (fun _ _ _ _ _ z => z)
    intro w mg fa h Y G hmg0
    obtain ⟨K, KX, c⟩ := Y
    have hmg : mg ("law" : PySem.Str) = some (.ref fa) := by
      have e : (HandSHeadRun.topDef (OpenLaw.row PySem.Challenge.rw_mapwebs_k46_whole_pairings_and_bans_judg).prog 43).name = ("law" : PySem.Str) := by kernel_rfl
      rw [← e]
      exact hmg0
    obtain ⟨fd, hb, hF⟩ := K46.facts (P := (PySem.Challenge.rw_mapwebs_k46_whole_pairings_and_bans_judg).prog) (w := w) KX G c hmg
    exact ⟨K, KX, Dl.lawY KX c hb fun base KB GB TB => hF base TB⟩

