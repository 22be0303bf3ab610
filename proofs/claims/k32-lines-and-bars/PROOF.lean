import PyProof.Rows.All
import Wide.All
import OpenK.AllK
import Wide.FinOn
import HandS.ForMost
import HandS.ForExc
import HandS.IsInst
import HandS.Zip
import HandS.TupAny
import HandS.TupMul
import HandS.Wide
import HandS.Flow
import HandS.Small
import HandS.CallSlots
import HandS.EndBits
import HandS.Conv
import HandS.OwnEq
import KE.GoesEnum
import HandS.Style
import HandS.Lambda
import HandS.Head0
import HandS.Head1
import HandS.Head2
import HandS.HeadEnd
import HandS.HeadHook1
import HandS.HeadHook2
import HandS.ExcIs
import HandS.NestedK
import HandS.HeadHook4
import HandS.HeadWalk
import HandS.Deep
import HandS.Text
import HandS.More
import PyProof.StrOps2
import PySem.Challenge.RW_mapwebs_k32_lines_and_their_bars_built
set_option Elab.async false
set_option linter.all false
set_option maxRecDepth 100000
set_option maxHeartbeats 4000000
set_option maxRecDepth 100000
set_option maxHeartbeats 1000000
/-! # Data (D) in the place of values and heaps -/
namespace Dl
open PySem PySem.Spec PyProof.Rows L2

/-- plain data: what a name may hold. own: a list that this frame alone holds and may change; pur: the law's source of draws; any: exactly this value -/
inductive D where
  | non | bl (b : Bool) | int (i : Int) | str (x : Str)
  | tup (xs : List D) | lst (xs : List D) | own (xs : List D)
  | obj (C : Addr) (ns : List Str) (ds : List D)
  | dck (ks : List Key) (ds : List D) | dct (ks : List (List Key)) (ds : List D)
  | pur | any (v : V)

/-- no table of code objects -/
def notT : HO → Bool
  | .tbl _ => false
  | _ => true
/-- all but tables stays -/
def SameK (H H' : Hp) : Prop := ∀ b o, H b = some o → notT o = true → H' b = some o
theorem SameK.at {H H' : Hp} (e : SameK H H') (b : Addr) (o : HO) (h : H b = some o) (n : notT o = true := by rfl) : H' b = some o := e b o h n
theorem SameK.refl (H : Hp) : SameK H H := fun _ _ h _ => h
theorem SameK.trans {H H1 H2 : Hp} (a : SameK H H1) (b : SameK H1 H2) : SameK H H2 := fun c o h n => b c o (a c o h n) n
/-- all stays -/
def Ext (H H' : Hp) : Prop := ∀ b o, H b = some o → H' b = some o
theorem Ext.refl (H : Hp) : Ext H H := fun _ _ h => h
theorem Ext.trans {H H1 H2 : Hp} (a : Ext H H1) (b : Ext H1 H2) : Ext H H2 := fun c o h => b c o (a c o h)
theorem Ext.k {H H' : Hp} (e : Ext H H') : SameK H H' := fun b o h _ => e b o h
def mutO : HO → Bool
  | .lst _ => true
  | .ins _ _ _ => true
  | .own _ => true
  | _ => false
def MutAt (H : Hp) (l : Addr) : Prop := ∃ o, mutO o = true ∧ H l = some o
def hide (L : List Addr) (H : Hp) : Hp := fun b => if b ∈ L then none else H b
structure Pu where
  P : V → Hp → Prop
  mono : ∀ v H H', SameK H H' → P v H → P v H'
  G : Hp → Prop := fun _ => True
  ge : ∀ H H', Ext H H' → G H → G H' := by exact fun _ _ _ z => z
  gu : ∀ (H : Hp) (l : Addr) (o : HO), MutAt H l → mutO o = true → G H → G (upd H l o) := by exact fun _ _ _ _ _ z => z
  gh : ∀ (L : List Addr) (H : Hp), (∀ l ∈ L, MutAt H l) → G H → G (hide L H) := by exact fun _ _ _ z => z
/-- what a step leaves: all but tables, and what holds of the whole heap -/
structure Same (U : Pu) (H H' : Hp) : Prop where
  k : SameK H H'
  g : U.G H → U.G H'
theorem Same.refl {U : Pu} (H : Hp) : Same U H H := ⟨SameK.refl H, fun z => z⟩
theorem Same.trans {U : Pu} {H H1 H2 : Hp} (a : Same U H H1) (b : Same U H1 H2) : Same U H H2 := ⟨a.k.trans b.k, fun z => b.g (a.g z)⟩
/-- nothing but a table of code objects stands there -/
def NoA (H : Hp) (l : Addr) : Prop := ∀ o, H l = some o → notT o = false
theorem NoA.of {H : Hp} {l : Addr} (h : H l = none) : NoA H l := fun o e => by
  rw [h] at e
  cases e
theorem NoA.ne {H : Hp} {b l : Addr} {o : HO} (h : NoA H l) (e : H b = some o) (n : notT o = true := by rfl) : b ≠ l := fun z => by
  rw [z] at e
  have := h o e
  rw [n] at this
  cases this
theorem Ext.s {U : Pu} {H H' : Hp} (e : Ext H H') : Same U H H' := ⟨e.k, U.ge _ _ e⟩
theorem Same.at {U : Pu} {H H' : Hp} (e : Same U H H') (b : Addr) (o : HO) (h : H b = some o) (n : notT o = true := by rfl) : H' b = some o := e.k b o h n
theorem Same.free {U : Pu} {H H' : Hp} (e : Same U H H') {l : Addr} (h : NoA H' l) : NoA H l := fun o q => by
  cases n : notT o with
  | false => rfl
  | true => exact absurd rfl (h.ne (e.k _ _ q n) n)
/-- a list that was not there is changed -/
theorem Same.set {U : Pu} {A H : Hp} {l : Addr} {o : HO} (s : Same U A H) (hl : MutAt H l) (hA : NoA A l) (m : mutO o = true) : Same U A (upd H l o) :=
  ⟨fun b u h n => by
    rw [upd_ne (hA.ne h n)]
    exact s.k b u h n, fun z => U.gu _ _ _ hl m (s.g z)⟩
instance {U : Pu} {H H' : Hp} : CoeOut (Same U H H') (SameK H H') := ⟨Same.k⟩

section
variable (K : PySem.W.Frag) (U : Pu) (H : Hp)
mutual
def Rep : D → V → Prop
  | .non, v => v = .non
  | .bl b, v => v = .bl b
  | .int i, v => v = .int i
  | .str x, v => v = .str x
  | .tup xs, v => ∃ a vs, v = .ref a ∧ SqT K H a vs ∧ Reps xs vs ∧ xs.length ≤ sizeLine
  | .lst xs, v => ∃ a vs, v = .ref a ∧ H a = some (.lst vs) ∧ Reps xs vs ∧ xs.length ≤ sizeLine
  | .own _, _ => False
  | .obj C ns ds, v => ∃ a dx vs, v = .ref a ∧ H a = some (.ins C dx (ns.zip vs)) ∧ H dx = some (.own a) ∧ Reps ds vs
  | .dck ks ds, v => ∃ a vs, v = .ref a ∧ H a = some (.dK (ks.zip vs)) ∧ Reps ds vs ∧ ks.length = ds.length
  | .dct ks ds, v => ∃ a vs, v = .ref a ∧ H a = some (.dT (ks.zip vs)) ∧ Reps ds vs ∧ ks.length = ds.length
  | .pur, v => U.P v H
  | .any w, v => v = w
def Reps : List D → List V → Prop
  | [], vs => vs = []
  | d :: ds, vs => ∃ v r, vs = v :: r ∧ Rep d v ∧ Reps ds r
end
end

theorem hide_nil (H : Hp) : hide [] H = H := by funext b; simp [hide]
theorem hide_same {L : List Addr} {H H' : Hp} (e : SameK H H') : SameK (hide L H) (hide L H') := fun b o h n => by
  unfold hide at h ⊢
  split at h
  · cases h
  · rename_i hb
    rw [if_neg hb]
    exact e b o h n
theorem hide_ext {L : List Addr} {H : Hp} : Ext (hide L H) H := fun b o h => by
  unfold hide at h
  split at h
  · cases h
  · exact h
theorem hide_at {L : List Addr} {H : Hp} {b : Addr} {o : HO} (h : hide L H b = some o) : b ∉ L ∧ H b = some o := by
  unfold hide at h
  split at h
  · cases h
  · rename_i hb
    exact ⟨hb, h⟩
theorem hide_ne {L : List Addr} {H : Hp} {b : Addr} (hb : b ∉ L) : hide L H b = H b := by
  unfold hide
  rw [if_neg hb]

section
variable {K : PySem.W.Frag} {U : Pu} {H H' : Hp}
theorem seqL_mono {a : Addr} {xs : List V} (e : SameK H H') (h : SqL K H a xs) : SqL K H' a xs := by
  rcases h with (h | ⟨o, h⟩) | h
  · exact .inl (.inl (e.at _ _ h))
  · exact .inl (.inr ⟨o, e.at _ _ h⟩)
  · exact .inr h
theorem seqT_mono {a : Addr} {xs : List V} (e : SameK H H') (h : SqT K H a xs) : SqT K H' a xs := by
  rcases h with (h | ⟨o, h⟩) | h
  · exact .inl (.inl (e.at _ _ h))
  · exact .inl (.inr ⟨o, e.at _ _ h⟩)
  · exact .inr h
mutual
theorem Rep.mono (e : SameK H H') : ∀ (d : D) (v : V), Rep K U H d v → Rep K U H' d v
  | .non, v, h => h
  | .bl b, v, h => h
  | .int i, v, h => h
  | .str x, v, h => h
  | .tup xs, v, h => by
    obtain ⟨a, vs, h1, h2, h3, h4⟩ := h
    exact ⟨a, vs, h1, seqT_mono e h2, Reps.mono e xs vs h3, h4⟩
  | .lst xs, v, h => by
    obtain ⟨a, vs, h1, h2, h3, h4⟩ := h
    exact ⟨a, vs, h1, e.at _ _ h2, Reps.mono e xs vs h3, h4⟩
  | .own _, v, h => h
  | .obj C ns ds, v, h => by
    obtain ⟨a, dx, vs, h1, h2, h3, h4⟩ := h
    exact ⟨a, dx, vs, h1, e.at _ _ h2, e.at _ _ h3, Reps.mono e ds vs h4⟩
  | .dck ks ds, v, h => by
    obtain ⟨a, vs, h1, h2, h3, h4⟩ := h
    exact ⟨a, vs, h1, e.at _ _ h2, Reps.mono e ds vs h3, h4⟩
  | .dct ks ds, v, h => by
    obtain ⟨a, vs, h1, h2, h3, h4⟩ := h
    exact ⟨a, vs, h1, e.at _ _ h2, Reps.mono e ds vs h3, h4⟩
  | .pur, v, h => U.mono _ _ _ e h
  | .any w, v, h => h
theorem Reps.mono (e : SameK H H') : ∀ (ds : List D) (vs : List V), Reps K U H ds vs → Reps K U H' ds vs
  | [], vs, h => h
  | d :: ds, vs, h => by
    obtain ⟨v, r, h1, h2, h3⟩ := h
    exact ⟨v, r, h1, Rep.mono e d v h2, Reps.mono e ds r h3⟩
end
theorem Reps.len : ∀ {ds : List D} {vs : List V}, Reps K U H ds vs → ds.length = vs.length
  | [], vs, h => by
    rw [show vs = [] from h]
    rfl
  | d :: ds, vs, h => by
    obtain ⟨v, r, rfl, _, h3⟩ := h
    simp [Reps.len h3]
theorem Reps.get : ∀ {ds : List D} {vs : List V} {i : Nat} {d : D}, Reps K U H ds vs → ds[i]? = some d → ∃ v, vs[i]? = some v ∧ Rep K U H d v
  | [], vs, i, d, _, e => by simp at e
  | d :: ds, vs, 0, d', h, e => by
    obtain ⟨v, r, rfl, h2, h3⟩ := h
    simp at e
    subst e
    exact ⟨v, by simp, h2⟩
  | d :: ds, vs, i + 1, d', h, e => by
    obtain ⟨v, r, rfl, h2, h3⟩ := h
    obtain ⟨w, g1, g2⟩ := Reps.get (i := i) h3 (by simpa using e)
    exact ⟨w, by simpa using g1, g2⟩
theorem Reps.getV : ∀ {ds : List D} {vs : List V} {i : Nat} {v : V}, Reps K U H ds vs → vs[i]? = some v → ∃ d, ds[i]? = some d ∧ Rep K U H d v
  | [], vs, i, v, h, e => by rw [show vs = [] from h] at e; simp at e
  | d :: ds, vs, 0, v', h, e => by
    obtain ⟨v, r, rfl, h2, h3⟩ := h
    simp at e
    subst e
    exact ⟨d, by simp, h2⟩
  | d :: ds, vs, i + 1, v', h, e => by
    obtain ⟨v, r, rfl, h2, h3⟩ := h
    obtain ⟨w, g1, g2⟩ := Reps.getV (i := i) h3 (by simpa using e)
    exact ⟨w, by simpa using g1, g2⟩
theorem Reps.app : ∀ {ds es : List D} {vs ws : List V}, Reps K U H ds vs → Reps K U H es ws → Reps K U H (ds ++ es) (vs ++ ws)
  | [], es, vs, ws, h, g => by rw [show vs = [] from h]; exact g
  | d :: ds, es, vs, ws, h, g => by
    obtain ⟨v, r, rfl, h2, h3⟩ := h
    exact ⟨v, r ++ ws, rfl, h2, Reps.app h3 g⟩
theorem Reps.one {d : D} {v : V} (h : Rep K U H d v) : Reps K U H [d] [v] := ⟨v, [], rfl, h, rfl⟩
theorem Reps.cons {d : D} {v : V} {ds : List D} {vs : List V} (h : Rep K U H d v) (g : Reps K U H ds vs) : Reps K U H (d :: ds) (v :: vs) := ⟨v, vs, rfl, h, g⟩
theorem Reps.take : ∀ (n : Nat) {ds : List D} {vs : List V}, Reps K U H ds vs → Reps K U H (ds.take n) (vs.take n)
  | 0, _, _, _ => by simp [Reps]
  | n + 1, [], vs, h => by rw [show vs = [] from h]; simp [Reps]
  | n + 1, d :: ds, vs, h => by
    obtain ⟨v, r, rfl, h2, h3⟩ := h
    exact ⟨v, r.take n, by simp, h2, Reps.take n h3⟩
theorem Reps.drop : ∀ (n : Nat) {ds : List D} {vs : List V}, Reps K U H ds vs → Reps K U H (ds.drop n) (vs.drop n)
  | 0, _, _, h => by simpa using h
  | n + 1, [], vs, h => by rw [show vs = [] from h]; simp [Reps]
  | n + 1, d :: ds, vs, h => by
    obtain ⟨v, r, rfl, h2, h3⟩ := h
    simpa using Reps.drop n h3
theorem Reps.set : ∀ (n : Nat) {ds : List D} {vs : List V} {d : D} {v : V}, Reps K U H ds vs → Rep K U H d v → Reps K U H (ds.set n d) (vs.set n v)
  | _, [], vs, _, _, h, _ => by rw [show vs = [] from h]; simp [Reps]
  | 0, d :: ds, vs, d', v', h, g => by
    obtain ⟨v, r, rfl, h2, h3⟩ := h
    exact ⟨v', r, by simp, g, h3⟩
  | n + 1, d :: ds, vs, d', v', h, g => by
    obtain ⟨v, r, rfl, h2, h3⟩ := h
    exact ⟨v, r.set n v', by simp, h2, Reps.set n h3 g⟩
theorem Reps.rev : ∀ {ds : List D} {vs : List V}, Reps K U H ds vs → Reps K U H ds.reverse vs.reverse
  | [], vs, h => by rw [show vs = [] from h]; simp [Reps]
  | d :: ds, vs, h => by
    obtain ⟨v, r, rfl, h2, h3⟩ := h
    rw [List.reverse_cons, List.reverse_cons]
    exact Reps.app (Reps.rev h3) (Reps.one h2)
theorem Reps.rept {d : D} {v : V} (h : Rep K U H d v) : ∀ n, Reps K U H (List.replicate n d) (List.replicate n v)
  | 0 => by simp [Reps]
  | n + 1 => ⟨v, List.replicate n v, by simp [List.replicate_succ], h, Reps.rept h n⟩
theorem Reps.ints : ∀ (ns : List Int) {vs : List V}, Reps K U H (ns.map D.int) vs → vs = ns.map V.int
  | [], vs, h => h
  | n :: ns, vs, h => by
    obtain ⟨v, r, rfl, h2, h3⟩ := h
    rw [show v = .int n from h2, Reps.ints ns h3]
    rfl
theorem Reps.of_ints : ∀ (ns : List Int), Reps K U H (ns.map D.int) (ns.map V.int)
  | [] => rfl
  | n :: ns => ⟨.int n, ns.map V.int, rfl, rfl, Reps.of_ints ns⟩
theorem Reps.bls : ∀ (bs : List Bool) {vs : List V}, Reps K U H (bs.map D.bl) vs → vs = bs.map V.bl
  | [], vs, h => h
  | n :: ns, vs, h => by
    obtain ⟨v, r, rfl, h2, h3⟩ := h
    rw [show v = .bl n from h2, Reps.bls ns h3]
    rfl
theorem Reps.strs : ∀ (bs : List Str) {vs : List V}, Reps K U H (bs.map D.str) vs → vs = bs.map V.str
  | [], vs, h => h
  | n :: ns, vs, h => by
    obtain ⟨v, r, rfl, h2, h3⟩ := h
    rw [show v = .str n from h2, Reps.strs ns h3]
    rfl
end

/-- what a value is; L the lists that may change, Lb those of the callers among them -/
def RepO (K : PySem.W.Frag) (U : Pu) (Lb L : List Addr) (H : Hp) (d : D) (v : V) : Prop := match d with
  | .own xs => ∃ l vs, v = .ref l ∧ l ∈ L ∧ l ∉ Lb ∧ H l = some (.lst vs) ∧ Reps K U (hide L H) xs vs ∧ xs.length ≤ sizeLine
  | d => Rep K U (hide L H) d v
theorem MutAt.mono {H H' : Hp} {l : Addr} (e : SameK H H') (h : MutAt H l) : MutAt H' l := let ⟨o, m, g⟩ := h; ⟨o, m, e _ _ g (by cases o <;> first | rfl | cases m)⟩
theorem MutAt.lst {H : Hp} {l : Addr} {xs : List V} (h : H l = some (.lst xs)) : MutAt H l := ⟨_, rfl, h⟩
theorem MutAt.no {H : Hp} {l : Addr} (h : MutAt H l) (e : H l = none) : False := by
  obtain ⟨o, _, g⟩ := h
  rw [e] at g
  cases g
theorem MutAt.tup {H : Hp} {l : Addr} {xs : List V} (h : MutAt H l) (e : H l = some (.tup xs)) : False := by
  obtain ⟨o, m, g⟩ := h
  rw [e] at g
  cases g
  cases m
/-- not own -/
def D.still : D → Bool
  | .own _ => false
  | _ => true
/-- own lists no longer changed -/
def D.frz : D → D
  | .own xs => .lst xs
  | d => d
theorem hide_le {L Lb : List Addr} {H : Hp} (h : ∀ l ∈ Lb, l ∈ L) : SameK (hide L H) (hide Lb H) := fun b o e n => by
  obtain ⟨h1, h2⟩ := hide_at e
  rw [hide_ne fun z => h1 (h b z)]
  exact h2
section
variable {K : PySem.W.Frag} {U : Pu} {Lb L : List Addr} {H H' : Hp}
theorem RepO.monoK (e : SameK H H') {d : D} {v : V} (h : RepO K U Lb L H d v) : RepO K U Lb L H' d v := by
  cases d with
  | own xs =>
    obtain ⟨l, vs, h1, h2, h2', h3, h4, h5⟩ := h
    exact ⟨l, vs, h1, h2, h2', e.at _ _ h3, Reps.mono (hide_same e) _ _ h4, h5⟩
  | _ => exact Rep.mono (hide_same e) _ _ h
theorem RepO.mono (e : Same U H H') {d : D} {v : V} (h : RepO K U Lb L H d v) : RepO K U Lb L H' d v := h.monoK e.k
theorem RepO.of_rep {d : D} {v : V} (h : Rep K U (hide L H) d v) : RepO K U Lb L H d v := by
  cases d with
  | own xs => exact False.elim h
  | _ => exact h
theorem RepO.rep {d : D} {v : V} (h : RepO K U Lb L H d v) (s : d.still = true) : Rep K U (hide L H) d v := by
  cases d with
  | own xs => cases s
  | _ => exact h
theorem RepO.frz {d : D} {v : V} (hs : ∀ l ∈ Lb, l ∈ L) (h : RepO K U Lb L H d v) : Rep K U (hide Lb H) d.frz v := by
  cases d with
  | own xs =>
    obtain ⟨l, vs, h1, h2, h2', h3, h4, h5⟩ := h
    exact ⟨l, vs, h1, (hide_ne h2').trans h3, Reps.mono (hide_le hs) _ _ h4, h5⟩
  | _ => exact Rep.mono (hide_le hs) _ _ h
/-- a sequence that is read: its items -/
theorem RepO.lst {xs : List D} {v : V} (h : RepO K U Lb L H (.lst xs) v) : ∃ a vs, v = .ref a ∧ H a = some (.lst vs) ∧ Reps K U (hide L H) xs vs ∧ xs.length ≤ sizeLine := by
  obtain ⟨a, vs, h1, h2, h3⟩ := h
  exact ⟨a, vs, h1, (hide_at h2).2, h3⟩
theorem RepO.ownl {xs : List D} {v : V} (h : RepO K U Lb L H (.own xs) v) : ∃ a vs, v = .ref a ∧ H a = some (.lst vs) ∧ Reps K U (hide L H) xs vs ∧ xs.length ≤ sizeLine := by
  obtain ⟨l, vs, h1, h2, h2', h3, h4⟩ := h
  exact ⟨l, vs, h1, h3, h4⟩
theorem RepO.tup {xs : List D} {v : V} (h : RepO K U Lb L H (.tup xs) v) : ∃ a vs, v = .ref a ∧ SqT K H a vs ∧ Reps K U (hide L H) xs vs ∧ xs.length ≤ sizeLine := by
  obtain ⟨a, vs, h1, h2, h3⟩ := h
  exact ⟨a, vs, h1, seqT_mono hide_ext.k h2, h3⟩
/-- a new object behind the hidden ones -/
theorem hide_new {p : Addr} {o : HO} (hp : H p = none) (hl : p ∉ L) : hide L (upd H p o) p = some o := by
  rw [hide_ne hl, upd_same]
end
/-- a list's items; a list's or a tuple's -/
inductive IsL : D → List D → Prop
  | lst (xs : List D) : IsL (.lst xs) xs
  | own (xs : List D) : IsL (.own xs) xs
inductive Seq : D → List D → Prop
  | lst (xs : List D) : Seq (.lst xs) xs
  | own (xs : List D) : Seq (.own xs) xs
  | tup (xs : List D) : Seq (.tup xs) xs
section
variable {K : PySem.W.Frag} {U : Pu} {Lb L : List Addr} {H : Hp}
theorem IsL.rep {d : D} {xs : List D} {v : V} (s : IsL d xs) (h : RepO K U Lb L H d v) : ∃ a vs, v = .ref a ∧ H a = some (.lst vs) ∧ Reps K U (hide L H) xs vs ∧ xs.length ≤ sizeLine := by
  cases s with
  | lst xs => exact h.lst
  | own xs => exact h.ownl
theorem Seq.rep {d : D} {xs : List D} {v : V} (s : Seq d xs) (h : RepO K U Lb L H d v) : ∃ a vs, v = .ref a ∧ (SqL K H a vs ∨ SqT K H a vs) ∧ Reps K U (hide L H) xs vs ∧ xs.length ≤ sizeLine := by
  cases s with
  | lst xs =>
    obtain ⟨a, vs, h1, h2, h3⟩ := h.lst
    exact ⟨a, vs, h1, .inl (SqL.of h2), h3⟩
  | own xs =>
    obtain ⟨a, vs, h1, h2, h3⟩ := h.ownl
    exact ⟨a, vs, h1, .inl (SqL.of h2), h3⟩
  | tup xs =>
    obtain ⟨a, vs, h1, h2, h3⟩ := h.tup
    exact ⟨a, vs, h1, .inr h2, h3⟩
end
end Dl

set_option maxRecDepth 100000
set_option maxHeartbeats 1000000
/-! # What an expression comes to, told by data -/
namespace Dl
open PySem PySem.Spec PyProof.Rows L2

/-! ### the weakest readings -/
def runE (X : Cx) (e : Expr) : TE := fun σ H Q => ∀ (pins : List (Addr × Obj)) (s : Shared), Inv X pins σ H s → wpAny (model X.prog X.w) X.A (eval e X.env) (EP X pins σ Q) X.xe s
def runT (X : Cx) (e : Expr) : TT := fun σ H Q => ∀ (pins : List (Addr × Obj)) (s : Shared), Inv X pins σ H s → wpAny (model X.prog X.w) X.A (isTrue e X.env (eval e X.env)) (TP X pins σ Q) X.xe s
def runW (X : Cx) (e : Expr) : TT := fun σ H Q => ∀ (whole : Sem Value) (pins : List (Addr × Obj)) (s : Shared), Inv X pins σ H s → wpAny (model X.prog X.w) X.A (isTrue e X.env whole) (TP X pins σ Q) X.xe s
def runA (X : Cx) (es : List Expr) : TA := fun σ H Q => ∀ (pos : Pos) (pins : List (Addr × Obj)) (s : Shared), Inv X pins σ H s → wpAny (model X.prog X.w) X.A (spliced (backTo pos (starEach es X.env))) (AP X pins σ Q) X.xe s
section
variable {X : Cx} {e : Expr} {es : List Expr}
theorem pe_run : PE X e (runE X e) := ⟨fun pins s _ _ _ I h => h pins s I⟩
theorem pt_run : PT X e (runT X e) := ⟨fun pins s _ _ _ I h => h pins s I⟩
theorem pw_run : PW X e (runW X e) := ⟨fun wh pins s _ _ _ I h => h wh pins s I⟩
theorem pa_run : PA X es (runA X es) := ⟨fun pos pins s _ _ _ I h => h pos pins s I⟩
theorem runE_of {t : TE} {σ : L2.St} {H : Hp} {Q : VK} (h : PE X e t) (q : t σ H Q) : runE X e σ H Q := fun pins s I => h.run pins s σ H Q I q
theorem runT_of {t : TT} {σ : L2.St} {H : Hp} {Q : Bool → Hp → Prop} (h : PT X e t) (q : t σ H Q) : runT X e σ H Q := fun pins s I => h.run pins s σ H Q I q
theorem runW_of {t : TT} {σ : L2.St} {H : Hp} {Q : Bool → Hp → Prop} (h : PW X e t) (q : t σ H Q) : runW X e σ H Q := fun wh pins s I => h.run wh pins s σ H Q I q
theorem runA_of {t : TA} {σ : L2.St} {H : Hp} {Q : List V → Hp → Prop} (h : PA X es t) (q : t σ H Q) : runA X es σ H Q := fun pos pins s I => h.run pos pins s σ H Q I q
end
/-- by values -/
def opRun (X : Cx) (f : Value → Value → Sem Value) : R2 := fun x y H Q => ∀ (pins : List (Addr × Obj)) (s : Shared) (σ : L2.St) (v u : Value), Inv X pins σ H s → RelV x v → RelV y u → wpAny (model X.prog X.w) X.A (f v u) (EP X pins σ Q) X.xe s
def unRun (X : Cx) (f : Value → Sem Value) : V → Hp → VK → Prop := fun x H Q => ∀ (pins : List (Addr × Obj)) (s : Shared) (σ : L2.St) (v : Value), Inv X pins σ H s → RelV x v → wpAny (model X.prog X.w) X.A (f v) (EP X pins σ Q) X.xe s
def callRun (X : Cx) (f : Value) : List V → Hp → VK → Prop := fun xs H Q => ∀ (pins : List (Addr × Obj)) (s : Shared) (σ : L2.St) (us : List Value), Inv X pins σ H s → Vals xs us → wpAny (model X.prog X.w) X.A (call f us) (EP X pins σ Q) X.xe s
def mtRun (X : Cx) (id : String) : V → List V → Hp → VK → Prop := fun x xs H Q => ∀ (pins : List (Addr × Obj)) (s : Shared) (σ : L2.St) (v : Value) (us : List Value), Inv X pins σ H s → RelV x v → Vals xs us → wpAny (model X.prog X.w) X.A (call (.builtin id) (v :: us)) (EP X pins σ Q) X.xe s
def ixRun (X : Cx) : R2 := fun x y H Q => ∀ (value slice : Expr) (pins : List (Addr × Obj)) (s : Shared) (σ : L2.St) (v u : Value), Inv X pins σ H s → RelV x v → RelV y u →
  subscripted slice false v u = operate [v, u] (getItem v u) → wpAny (model X.prog X.w) X.A (subscriptTail value slice v u) (EP X pins σ Q) X.xe s
section
variable {X : Cx}
theorem opR_run {f : Value → Value → Sem Value} : OpR X f (opRun X f) := fun pins s σ _ _ _ v u _ I rx ry h => h pins s σ v u I rx ry
theorem unR_run {f : Value → Sem Value} : UnR X f (unRun X f) := fun pins s σ _ _ v _ I rx h => h pins s σ v I rx
theorem callR_run {f : Value} : CallR X f (callRun X f) := fun pins s σ _ _ us _ I r h => h pins s σ us I r
theorem mtR_run {id : String} : MtR X id (mtRun X id) := fun pins s σ _ _ _ v us _ I rx r h => h pins s σ v us I rx r
theorem ixR_run : IxR X (ixRun X) := fun value slice pins s σ _ _ _ v u _ I rx ry h hs => h value slice pins s σ v u I rx ry hs
end

/-! ### contexts -/
/-- what is wanted of an exception: its class, its own attributes -/
abbrev XD := Value → Option (List Str × List D) → Prop
def RepX (K : PySem.W.Frag) (U : Pu) (H : Hp) : Option Addr → Option (List Str × List D) → Prop
  | none, none => True
  | some d, some (ns, ds) => ∃ vs, H d = some (.xd (ns.zip vs)) ∧ Reps K U H ds vs
  | _, _ => False
theorem RepX.mono {K : PySem.W.Frag} {U : Pu} {H H' : Hp} (e : SameK H H') : ∀ {od : Option Addr} {fl : Option (List Str × List D)}, RepX K U H od fl → RepX K U H' od fl
  | none, none, h => h
  | some d, some (ns, ds), ⟨vs, h1, h2⟩ => ⟨vs, e.at _ _ h1, Reps.mono e _ _ h2⟩
  | none, some _, h => h
  | some _, none, h => h
structure Ct (X : Cx) (U : Pu) (lv : Nat) (T : XD) where
  Hb : Hp
  Lb : List Addr
  g : U.G Hb
  calm : X.calm = true
  nd : X.N.Nodup
  room : Room lv X.A
  own : PassesOwn (model X.prog X.w) X.A X.env X.xe
  tk : Takes X (fun cls od _ H => Same U Hb H ∧ ∃ fl, RepX X.K U (hide Lb H) od fl ∧ T cls fl)
/-- the heap in a context -/
structure Ok {X : Cx} {U : Pu} {lv : Nat} {T : XD} (c : Ct X U lv T) (L : List Addr) (H : Hp) : Prop where
  base : Same U c.Hb H
  lb : ∀ l ∈ c.Lb, l ∈ L
  new : ∀ l ∈ L, l ∈ c.Lb ∨ NoA c.Hb l
  lsts : ∀ l ∈ L, MutAt H l
/-- the slots -/
structure En {X : Cx} {U : Pu} {lv : Nat} {T : XD} (c : Ct X U lv T) (L : List Addr) (H : Hp) (σ : L2.St) (δ : List (Option D)) : Prop where
  ok : Ok c L H
  len : σ.length = δ.length
  rep : ∀ (i : Nat) (d : D), δ[i]? = some (some d) → ∃ v, σ[i]? = some (some v) ∧ RepO X.K U c.Lb L H d v
  sep : ∀ (i j : Nat) (xs ys : List D) (l : Addr), δ[i]? = some (some (.own xs)) → δ[j]? = some (some (.own ys)) → σ[i]? = some (some (.ref l)) → σ[j]? = some (some (.ref l)) → i = j
theorem new_ext {H : Hp} {p : Addr} {o : HO} (h : H p = none) : Ext H (upd H p o) := fun a u e => by
  rw [upd_ne (ne_of_none e h)]
  exact e
theorem same_new {U : Pu} {H : Hp} {p : Addr} {o : HO} (h : H p = none) : Same U H (upd H p o) := (new_ext h).s
theorem new_k {H : Hp} {p : Addr} {o : HO} (h : H p = none) : SameK H (upd H p o) := (new_ext h).k
section
variable {X : Cx} {U : Pu} {lv : Nat} {T : XD} {c : Ct X U lv T} {L : List Addr} {H H' : Hp} {σ : L2.St} {δ : List (Option D)}
theorem Ok.mono (e : Same U H H') (k : Ok c L H) : Ok c L H' := ⟨k.base.trans e, k.lb, k.new, fun l hl => (k.lsts l hl).mono e.k⟩
theorem Ok.fresh (k : Ok c L H) {p : Addr} (h : H p = none) : p ∉ L := fun z => by
  exact (k.lsts p z).no h
theorem Ok.freshN (k : Ok c L H) {p : Addr} (h : NoA H p) : p ∉ L := fun z => by
  obtain ⟨o, m, e⟩ := k.lsts p z
  exact absurd rfl (h.ne e (by cases o <;> first | rfl | cases m))
theorem En.mono (e : Same U H H') (E : En c L H σ δ) : En c L H' σ δ := ⟨E.ok.mono e, E.len, fun i d h => let ⟨v, h1, h2⟩ := E.rep i d h; ⟨v, h1, h2.mono e⟩, E.sep⟩
theorem Ok.tupNew (k : Ok c L H) {ds : List D} {vs : List V} {p : Addr} (r : Reps X.K U (hide L H) ds vs) (hz : ds.length ≤ sizeLine) (hp : H p = none) : RepO X.K U c.Lb L (upd H p (.tup vs)) (.tup ds) (.ref p) :=
  ⟨p, vs, rfl, SqT.of (hide_new hp (k.fresh hp)), Reps.mono (hide_same (new_k hp)) _ _ r, hz⟩
theorem Ok.lstNew (k : Ok c L H) {ds : List D} {vs : List V} {p : Addr} (r : Reps X.K U (hide L H) ds vs) (hz : ds.length ≤ sizeLine) (hp : H p = none) : RepO X.K U c.Lb L (upd H p (.lst vs)) (.lst ds) (.ref p) :=
  ⟨p, vs, rfl, hide_new hp (k.fresh hp), Reps.mono (hide_same (new_k hp)) _ _ r, hz⟩
end
/-- a list of results -/
def RepOs (K : PySem.W.Frag) (U : Pu) (Lb L : List Addr) (H : Hp) : List D → List V → Prop
  | [], vs => vs = []
  | d :: ds, vs => ∃ v r, vs = v :: r ∧ RepO K U Lb L H d v ∧ RepOs K U Lb L H ds r
section
variable {K : PySem.W.Frag} {U : Pu} {Lb L : List Addr} {H H' : Hp}
theorem RepOs.mono (e : Same U H H') : ∀ {ds : List D} {vs : List V}, RepOs K U Lb L H ds vs → RepOs K U Lb L H' ds vs
  | [], vs, h => h
  | d :: ds, vs, ⟨v, r, h1, h2, h3⟩ => ⟨v, r, h1, h2.mono e, RepOs.mono e h3⟩
theorem RepOs.one {d : D} {vs : List V} (h : RepOs K U Lb L H [d] vs) : ∃ v, vs = [v] ∧ RepO K U Lb L H d v := by
  obtain ⟨v, r, rfl, h2, rfl⟩ := h
  exact ⟨v, rfl, h2⟩
theorem RepOs.two {d e : D} {vs : List V} (h : RepOs K U Lb L H [d, e] vs) : ∃ v u, vs = [v, u] ∧ RepO K U Lb L H d v ∧ RepO K U Lb L H e u := by
  obtain ⟨v, r, rfl, h2, u, r', rfl, h3, rfl⟩ := h
  exact ⟨v, u, rfl, h2, h3⟩
def stills (ds : List D) : Bool := ds.all D.still
theorem RepOs.reps : ∀ {ds : List D} {vs : List V}, RepOs K U Lb L H ds vs → stills ds = true → Reps K U (hide L H) ds vs
  | [], vs, h, _ => h
  | d :: ds, vs, ⟨v, r, h1, h2, h3⟩, s => by
    simp only [stills, List.all_cons, Bool.and_eq_true] at s
    exact ⟨v, r, h1, h2.rep s.1, RepOs.reps h3 s.2⟩
end

/-! ### judgements -/
section
variable {X : Cx} {U : Pu} {lv : Nat} {T : XD}
def WE (c : Ct X U lv T) (e : Expr) (δ : List (Option D)) (S : D → Prop) : Prop := ∀ (L : List Addr) (σ : L2.St) (H : Hp) (Q : VK), En c L H σ δ →
  (∀ v H' d, Same U H H' → RepO X.K U c.Lb L H' d v → S d → Q v H') → runE X e σ H Q
def WT (c : Ct X U lv T) (e : Expr) (δ : List (Option D)) (S : Bool → Prop) : Prop := ∀ (L : List Addr) (σ : L2.St) (H : Hp) (Q : Bool → Hp → Prop), En c L H σ δ →
  (∀ b H', Same U H H' → S b → Q b H') → runT X e σ H Q
def WW (c : Ct X U lv T) (e : Expr) (δ : List (Option D)) (S : Bool → Prop) : Prop := ∀ (L : List Addr) (σ : L2.St) (H : Hp) (Q : Bool → Hp → Prop), En c L H σ δ →
  (∀ b H', Same U H H' → S b → Q b H') → runW X e σ H Q
def WA (c : Ct X U lv T) (es : List Expr) (δ : List (Option D)) (S : List D → Prop) : Prop := ∀ (L : List Addr) (σ : L2.St) (H : Hp) (Q : List V → Hp → Prop), En c L H σ δ →
  (∀ vs H' ds, Same U H H' → RepOs X.K U c.Lb L H' ds vs → S ds → Q vs H') → runA X es σ H Q
def OD (c : Ct X U lv T) (f : Value → Value → Sem Value) (x y : D) (S : D → Prop) : Prop := ∀ (L : List Addr) (H : Hp) (vx vy : V) (Q : VK), Ok c L H → RepO X.K U c.Lb L H x vx → RepO X.K U c.Lb L H y vy →
  (∀ v H' d, Same U H H' → RepO X.K U c.Lb L H' d v → S d → Q v H') → opRun X f vx vy H Q
def UD (c : Ct X U lv T) (f : Value → Sem Value) (x : D) (S : D → Prop) : Prop := ∀ (L : List Addr) (H : Hp) (vx : V) (Q : VK), Ok c L H → RepO X.K U c.Lb L H x vx →
  (∀ v H' d, Same U H H' → RepO X.K U c.Lb L H' d v → S d → Q v H') → unRun X f vx H Q
def CD (c : Ct X U lv T) (f : Value) (ds : List D) (S : D → Prop) : Prop := ∀ (L : List Addr) (H : Hp) (vs : List V) (Q : VK), Ok c L H → RepOs X.K U c.Lb L H ds vs →
  (∀ v H' d, Same U H H' → RepO X.K U c.Lb L H' d v → S d → Q v H') → callRun X f vs H Q
def ID (c : Ct X U lv T) (x y : D) (S : D → Prop) : Prop := ∀ (L : List Addr) (H : Hp) (vx vy : V) (Q : VK), Ok c L H → RepO X.K U c.Lb L H x vx → RepO X.K U c.Lb L H y vy →
  (∀ v H' d, Same U H H' → RepO X.K U c.Lb L H' d v → S d → Q v H') → ixRun X vx vy H Q
variable {c : Ct X U lv T} {e a b : Expr} {es : List Expr} {δ : List (Option D)} {S S' : D → Prop} {pos : Pos}

theorem WE.mono (h : WE c e δ S) (k : ∀ d, S d → S' d) : WE c e δ S' := fun L σ H Q E q => h L σ H Q E fun v H' d s r z => q v H' d s r (k d z)
theorem WT.mono {S S' : Bool → Prop} (h : WT c e δ S) (k : ∀ d, S d → S' d) : WT c e δ S' := fun L σ H Q E q => h L σ H Q E fun v H' s z => q v H' s (k v z)
theorem WA.mono {S S' : List D → Prop} (h : WA c es δ S) (k : ∀ d, S d → S' d) : WA c es δ S' := fun L σ H Q E q => h L σ H Q E fun v H' d s r z => q v H' d s r (k d z)
theorem od_of {f : Value → Value → Sem Value} {r : R2} {x y : D} (ho : OpR X f r) (h : ∀ (L : List Addr) (H : Hp) (vx vy : V) (Q : VK), Ok c L H → RepO X.K U c.Lb L H x vx → RepO X.K U c.Lb L H y vy →
    (∀ v H' d, Same U H H' → RepO X.K U c.Lb L H' d v → S d → Q v H') → r vx vy H Q) : OD c f x y S := fun L H vx vy Q k rx ry q pins s σ v u I hx hy => ho pins s σ H vx vy v u Q I hx hy (h L H vx vy Q k rx ry q)
theorem cd_of {f : Value} {r : List V → Hp → VK → Prop} {ds : List D} (ho : CallR X f r) (h : ∀ (L : List Addr) (H : Hp) (vs : List V) (Q : VK), Ok c L H → RepOs X.K U c.Lb L H ds vs →
    (∀ v H' d, Same U H H' → RepO X.K U c.Lb L H' d v → S d → Q v H') → r vs H Q) : CD c f ds S := fun L H vs Q k rx q pins s σ us I hx => ho pins s σ H vs us Q I hx (h L H vs Q k rx q)
theorem id_of {r : R2} {x y : D} (ho : IxR X r) (h : ∀ (L : List Addr) (H : Hp) (vx vy : V) (Q : VK), Ok c L H → RepO X.K U c.Lb L H x vx → RepO X.K U c.Lb L H y vy →
    (∀ v H' d, Same U H H' → RepO X.K U c.Lb L H' d v → S d → Q v H') → r vx vy H Q) : ID c x y S := fun L H vx vy Q k rx ry q value slice pins s σ v u I hx hy hs => ho value slice pins s σ H vx vy v u Q I hx hy (h L H vx vy Q k rx ry q) hs
theorem ud_of {f : Value → Sem Value} {r : V → Hp → VK → Prop} {x : D} (ho : UnR X f r) (h : ∀ (L : List Addr) (H : Hp) (vx : V) (Q : VK), Ok c L H → RepO X.K U c.Lb L H x vx →
    (∀ v H' d, Same U H H' → RepO X.K U c.Lb L H' d v → S d → Q v H') → r vx H Q) : UD c f x S := fun L H vx Q k rx q pins s σ v I hx => ho pins s σ H vx v Q I hx (h L H vx Q k rx q)

/-! names, constants -/
theorem WE_var (i : Nat) {x : Str} {d : D} (hi : δ[i]? = some (some d)) (h : S d) (hN : X.N[i]? = some x) (hv : Vis X.env.scope x) (hd : (x == ("__debug__" : Str)) = false) (hcd : (x == ("__classdict__" : Str)) = false) : WE c (.Name x pos) δ S :=
  fun L σ H Q E q => runE_of (pe_var hN hv hd hcd) (let ⟨v, h1, h2⟩ := E.rep i d hi; ⟨v, h1, q v H d (Same.refl H) h2 h⟩)
theorem WE_int {i : Int} {j} (h : S (.int i)) : WE c (.Constant (.int i) j pos) δ S := fun L σ H Q E q => runE_of pe_int (q _ H (.int i) (Same.refl H) rfl h)
theorem WE_bl {b : Bool} {j} (h : S (.bl b)) : WE c (.Constant (.bool b) j pos) δ S := fun L σ H Q E q => runE_of pe_bl (q _ H (.bl b) (Same.refl H) rfl h)
theorem WE_non {j} (h : S .non) : WE c (.Constant .none j pos) δ S := fun L σ H Q E q => runE_of pe_non (q _ H .non (Same.refl H) rfl h)
theorem WE_str {x : Str} {j} (h : S (.str x)) : WE c (.Constant (.str x) j pos) δ S := fun L σ H Q E q => runE_of pe_str (q _ H (.str x) (Same.refl H) rfl h)
/-- a module's name: d, in every heap -/
def Glb (K : PySem.W.Frag) (mg : Str → Option Value) (x : Str) (d : D) : Prop := ∃ u v, mg x = some u ∧ RelV v u ∧ ∀ (U : Pu) (H : Hp), Rep K U H d v
theorem WE_glb {x : Str} {d : D} (g : Glb X.K X.mg x d) (h : S d) (hg : Gl X x) (hd : (x == ("__debug__" : Str)) = false) : WE c (.Name x pos) δ S := fun L σ H Q E q => by
  obtain ⟨u, v, h1, h2, h3⟩ := g
  exact runE_of (pe_glob hg h1 h2 hd) (q v H d (Same.refl H) (.of_rep (h3 U _)) h)
theorem WE_ty {x : Str} {T : String} (hm : X.mg x = none) (h : S (.any (.ty T))) (hv : bootBuiltins x = some (.type T)) (hg : Gl X x) (hn : x ≠ "__name__") (hd : (x == ("__debug__" : Str)) = false) : WE c (.Name x pos) δ S :=
  fun L σ H Q E q => runE_of (pe_bltn hg hm hv (show RelV (.ty T) (.type T) from rfl) hn hd) (q _ H (.any (.ty T)) (Same.refl H) rfl h)

/-! operators -/
theorem WE_bin {op : Operator} (h : WE c a δ fun x => WE c b δ fun y => OD c (binaryOp op) x y S) : WE c (.BinOp a op b pos) δ S := fun L σ H Q E q =>
  runE_of (pe_op opR_run pe_run pe_run) (h L σ H _ E fun v H1 d s1 r1 z => z L σ H1 _ (E.mono s1) fun u H2 d2 s2 r2 z2 => z2 L H2 v u Q ((E.ok.mono s1).mono s2) (r1.mono s2) r2 fun w H3 d3 s3 r3 z3 => q w H3 d3 ((s1.trans s2).trans s3) r3 z3)
theorem WE_cmp {op : CmpOp} (h : WE c a δ fun x => WE c b δ fun y => OD c (compareOp op) x y S) (hm : behindInMarks op b = false) : WE c (.Compare a [op] [b] pos) δ S := fun L σ H Q E q =>
  runE_of (pe_cmpR opR_run pe_run pe_run hm) (h L σ H _ E fun v H1 d s1 r1 z => z L σ H1 _ (E.mono s1) fun u H2 d2 s2 r2 z2 => z2 L H2 v u Q ((E.ok.mono s1).mono s2) (r1.mono s2) r2 fun w H3 d3 s3 r3 z3 => q w H3 d3 ((s1.trans s2).trans s3) r3 z3)
theorem WE_chain {b' : Expr} {op op' : CmpOp} (h : WE c a δ fun x => WE c b δ fun y => OD c (compareOp op) x y fun z => ∃ k, z = .bl k ∧ if k = true then WE c b' δ fun y' => OD c (compareOp op') y y' S else S (.bl false))
    (hm : lastMarks [op, op'] [b, b'] = false := by with_unfolding_all rfl) : WE c (.Compare a [op, op'] [b, b'] pos) δ S := fun L σ H Q E q =>
  runE_of (pe_chain opR_run opR_run pe_run pe_run pe_run hm) (h L σ H _ E fun v H1 d s1 r1 z => z L σ H1 _ (E.mono s1) fun u H2 d2 s2 r2 z2 => z2 L H2 v u _ ((E.ok.mono s1).mono s2) (r1.mono s2) r2 fun w H3 d3 s3 r3 z3 => by
    obtain ⟨k, rfl, z3⟩ := z3
    refine ⟨k, r3, ?_⟩
    have e3 := (s1.trans s2).trans s3
    cases k with
    | true =>
      rw [if_pos rfl] at z3 ⊢
      exact z3 L σ H3 _ (E.mono e3) fun u4 H4 d4 s4 r4 z4 => z4 L H4 u u4 Q ((E.ok.mono e3).mono s4) ((r2.mono s3).mono s4) r4 fun w5 H5 d5 s5 r5 z5 => q w5 H5 d5 ((e3.trans s4).trans s5) r5 z5
    | false =>
      rw [if_neg Bool.false_ne_true] at z3 ⊢
      exact q _ H3 (.bl false) e3 rfl z3)
theorem WE_un {op : UnaryOp} (h : WE c a δ fun x => UD c (unaryOp op) x S) : WE c (.UnaryOp op a pos) δ S := fun L σ H Q E q =>
  runE_of (pe_un unR_run pe_run) (h L σ H _ E fun v H1 d s1 r1 z => z L H1 v Q (E.ok.mono s1) r1 fun w H3 d3 s3 r3 z3 => q w H3 d3 (s1.trans s3) r3 z3)
/-- x is None, x is not None -/
theorem WE_isN {j p2} (h : WE c a δ fun x => ∃ k : Bool, (∀ (L : List Addr) (H : Hp) (v : V), RepO X.K U c.Lb L H x v → decide (v = .non) = k) ∧ S (.bl k)) : WE c (.Compare a [.Is] [.Constant .none j p2] pos) δ S := fun L σ H Q E q =>
  runE_of (pe_cmp (pc_isN pe_run) rfl) (h L σ H _ E fun v H1 d s1 r1 ⟨k, hk, z⟩ => by
    rw [hk L H1 v r1]
    exact q _ H1 (.bl k) s1 rfl z)
theorem WE_notN {j p2} (h : WE c a δ fun x => ∃ k : Bool, (∀ (L : List Addr) (H : Hp) (v : V), RepO X.K U c.Lb L H x v → decide (v = .non) = k) ∧ S (.bl (!k))) : WE c (.Compare a [.IsNot] [.Constant .none j p2] pos) δ S := fun L σ H Q E q =>
  runE_of (pe_cmp (pc_notN pe_run) rfl) (h L σ H _ E fun v H1 d s1 r1 ⟨k, hk, z⟩ => by
    rw [hk L H1 v r1]
    exact q _ H1 (.bl (!k)) s1 rfl z)

/-! tests -/
theorem WT_val {S : Bool → Prop} (h : WE c e δ fun z => ∃ k, z = .bl k ∧ S k) (he : ∀ whole, isTrue e X.env whole = (do let v ← whole; standAt e.pos; holding [v] (truthy v))) : WT c e δ S := fun L σ H Q E q =>
  runT_of (pt_val pe_run he) (h L σ H _ E fun v H1 d s1 r1 ⟨k, hk, z⟩ => by
    subst hk
    exact ⟨k, r1, q k H1 s1 z⟩)
/-- a comparison -/
theorem WT_cmpR {S : Bool → Prop} {op : CmpOp} (h : WE c a δ fun x => WE c b δ fun y => OD c (compareOp op) x y fun z => ∃ k, z = .bl k ∧ S k) (hm : behindInMarks op b = false) : WT c (.Compare a [op] [b] pos) δ S := fun L σ H Q E q =>
  runT_of (pt_cmpR opR_run pe_run pe_run hm) (h L σ H _ E fun v H1 d s1 r1 z => z L σ H1 _ (E.mono s1) fun u H2 d2 s2 r2 z2 => z2 L H2 v u _ ((E.ok.mono s1).mono s2) (r1.mono s2) r2 fun w H3 d3 s3 r3 z3 => by
    obtain ⟨k, rfl, z3⟩ := z3
    exact ⟨k, r3, q k H3 ((s1.trans s2).trans s3) z3⟩)
theorem WT_isN {S : Bool → Prop} {j p2} (h : WE c a δ fun x => ∃ k : Bool, (∀ (L : List Addr) (H : Hp) (v : V), RepO X.K U c.Lb L H x v → decide (v = .non) = k) ∧ S k) : WT c (.Compare a [.Is] [.Constant .none j p2] pos) δ S := fun L σ H Q E q =>
  runT_of (pt_cmp (pc_isN pe_run) rfl) (h L σ H _ E fun v H1 d s1 r1 ⟨k, hk, z⟩ => ⟨k, by rw [hk L H1 v r1], q k H1 s1 z⟩)
theorem WT_notN {S : Bool → Prop} {j p2} (h : WE c a δ fun x => ∃ k : Bool, (∀ (L : List Addr) (H : Hp) (v : V), RepO X.K U c.Lb L H x v → decide (v = .non) = k) ∧ S (!k)) : WT c (.Compare a [.IsNot] [.Constant .none j p2] pos) δ S := fun L σ H Q E q =>
  runT_of (pt_cmp (pc_notN pe_run) rfl) (h L σ H _ E fun v H1 d s1 r1 ⟨k, hk, z⟩ => ⟨!k, by rw [hk L H1 v r1], q (!k) H1 s1 z⟩)
theorem WT_not {S : Bool → Prop} (h : WT c a δ fun k => S (!k)) : WT c (.UnaryOp .Not a pos) δ S := fun L σ H Q E q =>
  runT_of (pt_not pt_run) (h L σ H _ E fun k H1 s1 z => q (!k) H1 s1 z)
theorem WT_of {S : Bool → Prop} (h : WW c a δ S) : WT c a δ S := fun L σ H Q E q => runT_of (PW.pt pw_run) (h L σ H _ E q)
theorem WW_and1 {S : Bool → Prop} (h : WT c a δ S) : WW c (.BoolOp .And [a] pos) δ S := fun L σ H Q E q => runW_of (pw_and1 pt_run) (h L σ H _ E q)
theorem WW_or1 {S : Bool → Prop} (h : WT c a δ S) : WW c (.BoolOp .Or [a] pos) δ S := fun L σ H Q E q => runW_of (pw_or1 pt_run) (h L σ H _ E q)
theorem WW_and {S : Bool → Prop} {rest : List Expr} (h : WT c a δ fun k => if k = true then WW c (.BoolOp .And (b :: rest) pos) δ S else S false) : WW c (.BoolOp .And (a :: b :: rest) pos) δ S := fun L σ H Q E q =>
  runW_of (pw_and pt_run pw_run) (h L σ H _ E fun k H1 s1 z => by
    cases k with
    | true =>
      rw [if_pos rfl] at z ⊢
      exact z L σ H1 _ (E.mono s1) fun b H2 s2 z2 => q b H2 (s1.trans s2) z2
    | false =>
      rw [if_neg Bool.false_ne_true] at z ⊢
      exact q false H1 s1 z)
theorem WW_or {S : Bool → Prop} {rest : List Expr} (h : WT c a δ fun k => if k = true then S true else WW c (.BoolOp .Or (b :: rest) pos) δ S) : WW c (.BoolOp .Or (a :: b :: rest) pos) δ S := fun L σ H Q E q =>
  runW_of (pw_or pt_run pw_run) (h L σ H _ E fun k H1 s1 z => by
    cases k with
    | true =>
      rw [if_pos rfl] at z ⊢
      exact q true H1 s1 z
    | false =>
      rw [if_neg Bool.false_ne_true] at z ⊢
      exact z L σ H1 _ (E.mono s1) fun b H2 s2 z2 => q b H2 (s1.trans s2) z2)
/-! and, or, not as values (bools) -/
theorem WE_one {op} (h : WE c a δ S) : WE c (.BoolOp op [a] pos) δ S := fun L σ H Q E q => runE_of (pe_one pe_run) (h L σ H _ E q)
theorem WE_and {rest : List Expr} (h : WE c a δ fun x => ∃ k, x = .bl k ∧ if k = true then WE c (.BoolOp .And (b :: rest) pos) δ S else S (.bl false)) : WE c (.BoolOp .And (a :: b :: rest) pos) δ S := fun L σ H Q E q =>
  runE_of (pe_and pe_run pe_run) (h L σ H _ E fun v H1 d s1 r1 ⟨k, hk, z⟩ => by
    subst hk
    refine ⟨k, r1, ?_⟩
    cases k with
    | true =>
      rw [if_pos rfl] at z ⊢
      exact z L σ H1 _ (E.mono s1) fun b H2 d2 s2 r2 z2 => q b H2 d2 (s1.trans s2) r2 z2
    | false =>
      rw [if_neg Bool.false_ne_true] at z ⊢
      exact q _ H1 (.bl false) s1 rfl z)
theorem WE_or {rest : List Expr} (h : WE c a δ fun x => ∃ k, x = .bl k ∧ if k = true then S (.bl true) else WE c (.BoolOp .Or (b :: rest) pos) δ S) : WE c (.BoolOp .Or (a :: b :: rest) pos) δ S := fun L σ H Q E q =>
  runE_of (pe_or pe_run pe_run) (h L σ H _ E fun v H1 d s1 r1 ⟨k, hk, z⟩ => by
    subst hk
    refine ⟨k, r1, ?_⟩
    cases k with
    | true =>
      rw [if_pos rfl] at z ⊢
      exact q _ H1 (.bl true) s1 rfl z
    | false =>
      rw [if_neg Bool.false_ne_true] at z ⊢
      exact z L σ H1 _ (E.mono s1) fun b H2 d2 s2 r2 z2 => q b H2 d2 (s1.trans s2) r2 z2)
theorem WE_not (h : WE c a δ fun x => ∃ k, x = .bl k ∧ S (.bl (!k))) : WE c (.UnaryOp .Not a pos) δ S := fun L σ H Q E q =>
  runE_of (pe_not pe_run) (h L σ H _ E fun v H1 d s1 r1 ⟨k, hk, z⟩ => by
    subst hk
    exact ⟨k, r1, q _ H1 (.bl (!k)) s1 rfl z⟩)
theorem WE_if {t : Expr} (h : WT c t δ fun k => if k = true then WE c a δ S else WE c b δ S) : WE c (.IfExp t a b pos) δ S := fun L σ H Q E q =>
  runE_of (pe_ifExp pt_run pe_run pe_run) (h L σ H _ E fun k H1 s1 z => by
    cases k with
    | true =>
      rw [if_pos rfl] at z ⊢
      exact z L σ H1 _ (E.mono s1) fun b H2 d2 s2 r2 z2 => q b H2 d2 (s1.trans s2) r2 z2
    | false =>
      rw [if_neg Bool.false_ne_true] at z ⊢
      exact z L σ H1 _ (E.mono s1) fun b H2 d2 s2 r2 z2 => q b H2 d2 (s1.trans s2) r2 z2)

/-! arguments, displays -/
theorem WA_nil {S : List D → Prop} (h : S []) : WA c [] δ S := fun L σ H Q E q => runA_of pa_nil (q [] H [] (Same.refl H) rfl h)
theorem WA_cons {S : List D → Prop} (h : WE c e δ fun d => WA c es δ fun ds => S (d :: ds)) (hs : starEach (e :: es) X.env = (false, eval e X.env) :: starEach es X.env := by rfl) : WA c (e :: es) δ S := fun L σ H Q E q =>
  runA_of (pa_cons pe_run pa_run hs) (h L σ H _ E fun v H1 d s1 r1 z => z L σ H1 _ (E.mono s1) fun vs H2 ds s2 r2 z2 => q (v :: vs) H2 (d :: ds) (s1.trans s2) ⟨v, vs, rfl, r1.mono s2, r2⟩ z2)
theorem WE_tup {x1} (h : WA c es δ fun ds => stills ds = true ∧ ds.length ≤ sizeLine ∧ S (.tup ds)) : WE c (.Tuple es x1 pos) δ S := fun L σ H Q E q =>
  runE_of (pe_tup pa_run) (h L σ H _ E fun vs H1 ds s1 r1 ⟨z0, z1, z⟩ => ⟨by rw [← (r1.reps z0).len]; exact z1, fun p hp => q _ _ (.tup ds) (s1.trans (same_new hp)) ((E.ok.mono s1).tupNew (r1.reps z0) z1 hp) z⟩)
theorem WE_lst (h : WA c es δ fun ds => stills ds = true ∧ ds.length ≤ sizeLine ∧ S (.lst ds)) : WE c (.List es pos) δ S := fun L σ H Q E q =>
  runE_of (pe_lst pa_run) (h L σ H _ E fun vs H1 ds s1 r1 ⟨z0, z1, z⟩ => ⟨by rw [← (r1.reps z0).len]; exact z1, fun p hp => q _ _ (.lst ds) (s1.trans (same_new hp)) ((E.ok.mono s1).lstNew (r1.reps z0) z1 hp) z⟩)

/-! subscripts, attributes -/
theorem WE_ix (h : WE c a δ fun x => WE c b δ fun y => ID c x y S) (hs : PlainIx b) : WE c (.Subscript a b pos) δ S := fun L σ H Q E q =>
  runE_of (pe_ix ixR_run pe_run pe_run hs) (h L σ H _ E fun v H1 d s1 r1 z => z L σ H1 _ (E.mono s1) fun u H2 d2 s2 r2 z2 => z2 L H2 v u Q ((E.ok.mono s1).mono s2) (r1.mono s2) r2 fun w H3 d3 s3 r3 z3 => q w H3 d3 ((s1.trans s2).trans s3) r3 z3)
theorem lookZip : ∀ (ns : List Str) (ds : List D) (vs : List V) {K : PySem.W.Frag} {H : Hp} {f : Str} {d : D}, Reps K U H ds vs → (ns.zip ds).lookup f = some d → ∃ v, (ns.zip vs).lookup f = some v ∧ Rep K U H d v
  | [], ds, vs, _, _, f, d, r, h => by simp at h
  | n :: ns, [], vs, _, _, f, d, r, h => by simp at h
  | n :: ns, d' :: ds, vs, K, H, f, d, r, h => by
    obtain ⟨v, w, rfl, r1, r2⟩ := r
    rw [List.zip_cons_cons, List.lookup_cons] at h ⊢
    by_cases e : f == n
    · rw [e] at h ⊢
      cases h
      exact ⟨v, rfl, r1⟩
    · have e' : (f == n) = false := by simpa using e
      rw [e'] at h ⊢
      exact lookZip ns ds w r2 h
theorem WE_fld {f : Str} (h : WE c e δ fun x => ∃ C ns ds d, x = .obj C ns ds ∧ Cls X.K C ∧ NoAttr X.K C f ∧ (ns.zip ds).lookup f = some d ∧ S d) (hb : attributeBase e f X.env (eval e X.env) = eval e X.env) : WE c (.Attribute e f pos) δ S := fun L σ H Q E q =>
  runE_of (pe_fld pe_run hb) (h L σ H _ E fun v H1 d s1 r1 ⟨C, ns, ds, d', hd, h1, h2, h3, z⟩ => by
    subst hd
    obtain ⟨a, dx, vs, g1, g2, g3, g4⟩ := r1
    obtain ⟨w, g5, g6⟩ := lookZip ns ds vs g4 h3
    exact ⟨a, C, dx, ns.zip vs, w, g1, (hide_at g2).2, h1, h2, g5, q w H1 d' s1 (.of_rep g6) z⟩)

/-! calls -/
theorem WE_blt {x : Str} {id : String} {p : Pos} (hm : X.mg x = none) (h : WA c (e :: es) δ fun ds => CD c (.builtin id) ds S) (hv : bootBuiltins x = some (.builtin id)) (hg : Gl X x) (hn : x ≠ "__name__") (hd : (x == ("__debug__" : Str)) = false)
    (he : starEach (e :: es) X.env = (false, eval e X.env) :: starEach es X.env) (hpl : (backTo pos (starEach es X.env)).any (·.1) = false) : WE c (.Call (.Name x p) (e :: es) [] pos) δ S := fun L σ H Q E q =>
  runE_of (pe_callB callR_run hg hm hv pa_run hn hd he hpl) (h L σ H _ E fun vs H1 ds s1 r1 z => z L H1 vs Q (E.ok.mono s1) r1 fun w H3 d3 s3 r3 z3 => q w H3 d3 (s1.trans s3) r3 z3)
theorem WE_bty {x : Str} {T : String} {p : Pos} (hm : X.mg x = none) (h : WA c (e :: es) δ fun ds => CD c (.type T) ds S) (hv : bootBuiltins x = some (.type T)) (hg : Gl X x) (hn : x ≠ "__name__") (hd : (x == ("__debug__" : Str)) = false)
    (he : starEach (e :: es) X.env = (false, eval e X.env) :: starEach es X.env) (hpl : (backTo pos (starEach es X.env)).any (·.1) = false) : WE c (.Call (.Name x p) (e :: es) [] pos) δ S := fun L σ H Q E q =>
  runE_of (pe_callTy callR_run hg hm hv pa_run hn hd he hpl) (h L σ H _ E fun vs H1 ds s1 r1 z => z L H1 vs Q (E.ok.mono s1) r1 fun w H3 d3 s3 r3 z3 => q w H3 d3 (s1.trans s3) r3 z3)
end
end Dl

set_option maxRecDepth 100000
set_option maxHeartbeats 1000000
/-! # Operators, built-in calls, subscripts by data -/
namespace Dl
open PySem PySem.Spec PyProof.Rows L2

/-! ### == -/
mutual
def D.py : D → PyData
  | .non => .none
  | .bl b => .bool b
  | .int i => .int i
  | .str x => .str x
  | .tup xs => .tuple (pys xs)
  | .lst xs => .list (pys xs)
  | .own xs => .list (pys xs)
  | .obj _ _ _ => .none
  | .pur => .none
  | .dck _ _ => .none
  | .dct _ _ => .none
  | .any _ => .none
def pys : List D → List PyData
  | [] => []
  | d :: ds => d.py :: pys ds
end
mutual
/-- data of at most n levels -/
def fit : Nat → D → Bool
  | _, .non => true
  | _, .bl _ => true
  | _, .int _ => true
  | _, .str x => PyData.strOk x
  | n + 1, .tup xs => fits n xs
  | n + 1, .lst xs => fits n xs
  | n + 1, .own xs => fits n xs
  | _, _ => false
def fits : Nat → List D → Bool
  | _, [] => true
  | n, d :: ds => fit n d && fits n ds
end
mutual
def D.eqv : D → D → Bool
  | .non, .non => true
  | .bl a, .bl b => a == b
  | .bl a, .int j => (if a then 1 else 0) == j
  | .int i, .bl b => i == (if b then 1 else 0)
  | .int i, .int j => i == j
  | .str x, .str y => x == y
  | .lst xs, .lst ys => eqvs xs ys
  | .own xs, .lst ys => eqvs xs ys
  | .lst xs, .own ys => eqvs xs ys
  | .own xs, .own ys => eqvs xs ys
  | .tup xs, .tup ys => eqvs xs ys
  | _, _ => false
def eqvs : List D → List D → Bool
  | [], [] => true
  | x :: xs, y :: ys => x.eqv y && eqvs xs ys
  | _, _ => false
end
mutual
theorem fit_lay : ∀ (n : Nat) (d : D), fit n d = true → d.py.canLay0 = true ∧ d.py.depth ≤ n
  | n, .non, _ => ⟨rfl, Nat.zero_le _⟩
  | n, .bl _, _ => ⟨rfl, Nat.zero_le _⟩
  | n, .int _, _ => ⟨rfl, Nat.zero_le _⟩
  | n, .str x, h => ⟨(by cases n <;> exact h), Nat.zero_le _⟩
  | n + 1, .tup xs, h => let ⟨a, b⟩ := fits_lay n xs h; ⟨a, Nat.succ_le_succ b⟩
  | n + 1, .lst xs, h => let ⟨a, b⟩ := fits_lay n xs h; ⟨a, Nat.succ_le_succ b⟩
  | n + 1, .own xs, h => let ⟨a, b⟩ := fits_lay n xs h; ⟨a, Nat.succ_le_succ b⟩
  | 0, .tup xs, h => by simp [fit] at h
  | 0, .lst xs, h => by simp [fit] at h
  | 0, .own xs, h => by simp [fit] at h
  | n, .obj _ _ _, h => by cases n <;> simp [fit] at h
  | n, .pur, h => by cases n <;> simp [fit] at h
  | n, .dck _ _, h => by cases n <;> simp [fit] at h
  | n, .dct _ _, h => by cases n <;> simp [fit] at h
  | n, .any _, h => by cases n <;> simp [fit] at h
theorem fits_lay : ∀ (n : Nat) (ds : List D), fits n ds = true → PyData.canLayAll0 (pys ds) = true ∧ PyData.depthAll (pys ds) ≤ n
  | n, [], _ => ⟨rfl, Nat.zero_le _⟩
  | n, d :: ds, h => by
    simp only [fits, Bool.and_eq_true] at h
    obtain ⟨a, b⟩ := fit_lay n d h.1
    obtain ⟨a', b'⟩ := fits_lay n ds h.2
    refine ⟨?_, Nat.max_le.mpr ⟨b, b'⟩⟩
    show (PyData.canLay0 d.py && PyData.canLayAll0 (pys ds)) = true
    rw [a, a'] <;> rfl
end
theorem fit_shaped {d : D} (h : fit 64 d = true) : SeqAt.shaped d.py = true := by
  obtain ⟨a, b⟩ := fit_lay 64 d h
  unfold SeqAt.shaped
  rw [a, decide_eq_true b] <;> rfl
mutual
theorem eqv_py : ∀ (n m : Nat) (d e : D), fit n d = true → fit m e = true → PyData.eqv d.py e.py = d.eqv e := fun n m d e h g => by
  cases d with
  | obj _ _ _ => cases n <;> simp [fit] at h
  | pur => cases n <;> simp [fit] at h
  | dck _ _ => cases n <;> simp [fit] at h
  | dct _ _ => cases n <;> simp [fit] at h
  | any _ => cases n <;> simp [fit] at h
  | tup xs =>
    cases n with
    | zero => simp [fit] at h
    | succ n =>
      cases e with
      | tup ys =>
        cases m with
        | zero => simp [fit] at g
        | succ m => exact eqvs_py n m xs ys h g
      | obj _ _ _ => cases m <;> simp [fit] at g
      | pur => cases m <;> simp [fit] at g
      | dck _ _ => cases m <;> simp [fit] at g
      | dct _ _ => cases m <;> simp [fit] at g
      | any _ => cases m <;> simp [fit] at g
      | _ => rfl
  | lst xs =>
    cases n with
    | zero => simp [fit] at h
    | succ n =>
      cases e with
      | lst ys =>
        cases m with
        | zero => simp [fit] at g
        | succ m => exact eqvs_py n m xs ys h g
      | own ys =>
        cases m with
        | zero => simp [fit] at g
        | succ m => exact eqvs_py n m xs ys h g
      | obj _ _ _ => cases m <;> simp [fit] at g
      | pur => cases m <;> simp [fit] at g
      | dck _ _ => cases m <;> simp [fit] at g
      | dct _ _ => cases m <;> simp [fit] at g
      | any _ => cases m <;> simp [fit] at g
      | _ => rfl
  | own xs =>
    cases n with
    | zero => simp [fit] at h
    | succ n =>
      cases e with
      | lst ys =>
        cases m with
        | zero => simp [fit] at g
        | succ m => exact eqvs_py n m xs ys h g
      | own ys =>
        cases m with
        | zero => simp [fit] at g
        | succ m => exact eqvs_py n m xs ys h g
      | obj _ _ _ => cases m <;> simp [fit] at g
      | pur => cases m <;> simp [fit] at g
      | dck _ _ => cases m <;> simp [fit] at g
      | dct _ _ => cases m <;> simp [fit] at g
      | any _ => cases m <;> simp [fit] at g
      | _ => rfl
  | _ =>
    cases e with
    | obj _ _ _ => cases m <;> simp [fit] at g
    | pur => cases m <;> simp [fit] at g
    | dck _ _ => cases m <;> simp [fit] at g
    | dct _ _ => cases m <;> simp [fit] at g
    | any _ => cases m <;> simp [fit] at g
    | _ => rfl
theorem eqvs_py : ∀ (n m : Nat) (ds es : List D), fits n ds = true → fits m es = true → PyData.eqvAll (pys ds) (pys es) = eqvs ds es
  | n, m, [], [], _, _ => rfl
  | n, m, [], _ :: _, _, _ => rfl
  | n, m, _ :: _, [], _, _ => rfl
  | n, m, d :: ds, e :: es, h, g => by
    simp only [fits, Bool.and_eq_true] at h g
    show (PyData.eqv d.py e.py && PyData.eqvAll (pys ds) (pys es)) = (d.eqv e && eqvs ds es)
    rw [eqv_py n m d e h.1 g.1, eqvs_py n m ds es h.2 g.2]
end
section
variable {K : PySem.W.Frag} {U : Pu} {Lb L : List Addr} {H : Hp}
mutual
theorem Rep.dp : ∀ (n : Nat) (d : D) (v : V), fit n d = true → Rep K U H d v → Dp K H v d.py
  | n, .non, v, _, h => by rw [show v = .non from h]; exact .non
  | n, .bl b, v, _, h => by rw [show v = .bl b from h]; exact .bl b
  | n, .int i, v, _, h => by rw [show v = .int i from h]; exact .int i
  | n, .str x, v, _, h => by rw [show v = .str x from h]; exact .str x
  | n + 1, .tup xs, v, g, h => by
    obtain ⟨a, vs, rfl, h2, h3, _⟩ := h
    exact .tup h2 (Reps.dps n xs vs g h3)
  | n + 1, .lst xs, v, g, h => by
    obtain ⟨a, vs, rfl, h2, h3, _⟩ := h
    exact .lst (SqL.of h2) (Reps.dps n xs vs g h3)
  | n, .own xs, v, _, h => False.elim h
  | 0, .tup xs, v, g, h => by simp [fit] at g
  | 0, .lst xs, v, g, h => by simp [fit] at g
  | n, .obj _ _ _, v, g, h => by cases n <;> simp [fit] at g
  | n, .pur, v, g, h => by cases n <;> simp [fit] at g
  | n, .dck _ _, v, g, h => by cases n <;> simp [fit] at g
  | n, .dct _ _, v, g, h => by cases n <;> simp [fit] at g
  | n, .any _, v, g, h => by cases n <;> simp [fit] at g
theorem Reps.dps : ∀ (n : Nat) (ds : List D) (vs : List V), fits n ds = true → Reps K U H ds vs → DpAll K H vs (pys ds)
  | n, [], vs, _, h => by rw [show vs = [] from h]; exact .nil
  | n, d :: ds, vs, g, h => by
    obtain ⟨v, r, rfl, h2, h3⟩ := h
    simp only [fits, Bool.and_eq_true] at g
    exact .cons (Rep.dp n d v g.1 h2) (Reps.dps n ds r g.2 h3)
end
theorem RepO.dp {n : Nat} {d : D} {v : V} (g : fit n d = true) (h : RepO K U Lb L H d v) : Dp K H v d.py := by
  cases d with
  | own xs =>
    cases n with
    | zero => simp [fit] at g
    | succ n =>
      obtain ⟨a, vs, rfl, h2, h3, _⟩ := h.ownl
      exact .lst (SqL.of h2) (Reps.dps n xs vs g (Reps.mono hide_ext.k _ _ h3))
  | _ => exact Rep.dp (U := U) n _ v g (Rep.mono (H := hide L H) hide_ext.k _ _ h)
end
/-! what == comes to -/
theorem fits_ints (n : Nat) : ∀ ns : List Int, fits n (ns.map D.int) = true
  | [] => by cases n <;> rfl
  | a :: r => by
    have := fits_ints n r
    cases n <;> simp [fits, fit, this]
theorem fits_all (n : Nat) : ∀ ds : List D, (∀ d ∈ ds, fit n d = true) → fits n ds = true
  | [], _ => by cases n <;> rfl
  | a :: r, h => by
    have := fits_all n r fun d hd => h d (List.mem_cons_of_mem _ hd)
    simp [fits, h a List.mem_cons_self, this]
theorem eqvs_ints : ∀ ns ms : List Int, eqvs (ns.map D.int) (ms.map D.int) = decide (ns = ms)
  | [], [] => rfl
  | [], _ :: _ => rfl
  | _ :: _, [] => rfl
  | a :: r, b :: t => by
    show ((D.int a).eqv (D.int b) && eqvs (r.map D.int) (t.map D.int)) = _
    rw [eqvs_ints r t]
    show ((a == b) && decide (r = t)) = _
    by_cases e : a = b
    · subst e; simp
    · simp [e]
/-- a == b of lists, where the items' == is an equality -/
theorem eqvs_map {α : Type} [DecidableEq α] (f : α → D) (h : ∀ a b, (f a).eqv (f b) = decide (a = b)) : ∀ xs ys : List α, eqvs (xs.map f) (ys.map f) = decide (xs = ys)
  | [], [] => rfl
  | [], _ :: _ => rfl
  | _ :: _, [] => rfl
  | a :: r, b :: t => by
    show ((f a).eqv (f b) && eqvs (r.map f) (t.map f)) = _
    rw [eqvs_map f h r t, h]
    by_cases e : a = b
    · subst e; simp
    · simp [e]

/-! ### operators -/
section
variable {X : Cx} {U : Pu} {lv : Nat} {T : XD} {c : Ct X U lv T} {S : D → Prop}
theorem OD_add_int {i j : Int} (h : S (.int (i + j))) : OD c (binaryOp .Add) (.int i) (.int j) S := od_of op_add fun L H vx vy Q k rx ry q => ⟨i, j, rx, ry, q _ H (.int (i + j)) (Same.refl H) rfl h⟩
theorem OD_sub_int {i j : Int} (h : S (.int (i - j))) : OD c (binaryOp .Sub) (.int i) (.int j) S := od_of op_sub fun L H vx vy Q k rx ry q => ⟨i, j, rx, ry, q _ H (.int (i - j)) (Same.refl H) rfl h⟩
theorem OD_mul_int {i j : Int} (hc : CMul i j) (h : S (.int (i * j))) : OD c (binaryOp .Mult) (.int i) (.int j) S := od_of op_mul fun L H vx vy Q k rx ry q => ⟨i, j, rx, ry, hc, q _ H (.int (i * j)) (Same.refl H) rfl h⟩
theorem OD_div_int {i j : Int} (h0 : 0 < j) (h1 : j < 1073741824) (h : S (.int (i / j))) : OD c (binaryOp .FloorDiv) (.int i) (.int j) S := od_of op_fdiv fun L H vx vy Q k rx ry q => ⟨i, j, rx, ry, ⟨h0, h1⟩, q _ H (.int (i / j)) (Same.refl H) rfl h⟩
theorem OD_mod_int {i j : Int} (h0 : 0 < j) (h : S (.int (i % j))) : OD c (binaryOp .Mod) (.int i) (.int j) S := od_of op_mod fun L H vx vy Q k rx ry q => ⟨i, j, rx, ry, h0, q _ H (.int (i % j)) (Same.refl H) rfl h⟩
theorem OD_pow_int {i j : Int} (hc : CPow i j) (h : S (.int (i ^ j.toNat))) : OD c (binaryOp .Pow) (.int i) (.int j) S := od_of op_pow fun L H vx vy Q k rx ry q => ⟨i, j, rx, ry, hc, q _ H (.int (i ^ j.toNat)) (Same.refl H) rfl h⟩
theorem OD_lt_int {i j : Int} (h : S (.bl (decide (i < j)))) : OD c (compareOp .Lt) (.int i) (.int j) S := od_of op_lt fun L H vx vy Q k rx ry q => ⟨i, j, rx, ry, q _ H (.bl _) (Same.refl H) rfl h⟩
theorem OD_le_int {i j : Int} (h : S (.bl (decide (i ≤ j)))) : OD c (compareOp .LtE) (.int i) (.int j) S := od_of op_le fun L H vx vy Q k rx ry q => ⟨i, j, rx, ry, q _ H (.bl _) (Same.refl H) rfl h⟩
theorem OD_gt_int {i j : Int} (h : S (.bl (decide (j < i)))) : OD c (compareOp .Gt) (.int i) (.int j) S := od_of op_gt fun L H vx vy Q k rx ry q => ⟨i, j, rx, ry, q _ H (.bl _) (Same.refl H) rfl h⟩
theorem OD_ge_int {i j : Int} (h : S (.bl (decide (j ≤ i)))) : OD c (compareOp .GtE) (.int i) (.int j) S := od_of op_ge fun L H vx vy Q k rx ry q => ⟨i, j, rx, ry, q _ H (.bl _) (Same.refl H) rfl h⟩
theorem units64 (c : Ct X U lv T) : X.A.units + 64 < cLine := c.room.units
theorem OD_eq {x y : D} (hx : fit 64 x = true) (hy : fit 64 y = true) (h : S (.bl (x.eqv y))) : OD c (compareOp .Eq) x y S := od_of (op_eqD (units64 c)) fun L H vx vy Q k rx ry q =>
  ⟨_, _, rx.dp hx, ry.dp hy, fit_shaped hx, fit_shaped hy, by rw [eqv_py 64 64 x y hx hy]; exact q _ H (.bl _) (Same.refl H) rfl h⟩
theorem OD_ne {x y : D} (hx : fit 64 x = true) (hy : fit 64 y = true) (h : S (.bl (!x.eqv y))) : OD c (compareOp .NotEq) x y S := od_of (op_neD (units64 c)) fun L H vx vy Q k rx ry q =>
  ⟨_, _, rx.dp hx, ry.dp hy, fit_shaped hx, fit_shaped hy, by rw [eqv_py 64 64 x y hx hy]; exact q _ H (.bl _) (Same.refl H) rfl h⟩
theorem OD_add_str {i j : Str} (hz : i.length + j.length ≤ sizeLine) (h : S (.str (i ++ j))) : OD c (binaryOp .Add) (.str i) (.str j) S := od_of op_add_str fun L H vx vy Q k rx ry q => ⟨i, j, rx, ry, hz, q _ H (.str (i ++ j)) (Same.refl H) rfl h⟩
theorem OD_add_tup {xs ys : List D} (hz : xs.length + ys.length ≤ sizeLine) (h : S (.tup (xs ++ ys))) : OD c (binaryOp .Add) (.tup xs) (.tup ys) S := od_of op_catA fun L H vx vy Q k rx ry q => by
  obtain ⟨a, vs, rfl, ha, ra, za⟩ := rx.tup
  obtain ⟨b, ws, rfl, hb, rb, zb⟩ := ry.tup
  have e1 := ra.len
  have e2 := rb.len
  refine ⟨a, b, vs, ws, rfl, rfl, ha, hb, by omega, fun e => ?_, fun _ e => ?_, fun _ _ p hp => ?_⟩
  · have : xs = [] := List.eq_nil_of_length_eq_zero (by rw [e1, e]; rfl)
    subst this
    exact q _ H (.tup ys) (Same.refl H) ry h
  · have : ys = [] := List.eq_nil_of_length_eq_zero (by rw [e2, e]; rfl)
    subst this
    rw [List.append_nil] at h
    exact q _ H (.tup xs) (Same.refl H) rx h
  · exact q _ _ (.tup (xs ++ ys)) (same_new hp) (k.tupNew (ra.app rb) (by rw [List.length_append]; exact hz) hp) h
theorem OD_add_lst {x y : D} {xs ys : List D} (sx : IsL x xs) (sy : IsL y ys) (hz : xs.length + ys.length ≤ sizeLine) (h : S (.lst (xs ++ ys))) : OD c (binaryOp .Add) x y S := od_of op_cat fun L H vx vy Q k rx ry q => by
  obtain ⟨a, vs, rfl, ha, ra, za⟩ := sx.rep rx
  obtain ⟨b, ws, rfl, hb, rb, zb⟩ := sy.rep ry
  have e1 := ra.len
  have e2 := rb.len
  exact ⟨a, b, vs, ws, rfl, rfl, ha, hb, by omega, fun p hp => q _ _ (.lst (xs ++ ys)) (same_new hp) (k.lstNew (ra.app rb) (by rw [List.length_append]; exact hz) hp) h⟩
theorem Reps.flat {K : PySem.W.Frag} {H : Hp} {xs : List D} {vs : List V} (r : Reps K U H xs vs) : ∀ n, Reps K U H (List.replicate n xs).flatten (List.replicate n vs).flatten
  | 0 => rfl
  | n + 1 => by
    rw [List.replicate_succ, List.replicate_succ, List.flatten_cons, List.flatten_cons]
    exact r.app (Reps.flat r n)
theorem flat_len {α : Type} (xs : List α) : ∀ n, (List.replicate n xs).flatten.length = xs.length * n
  | 0 => rfl
  | n + 1 => by
    rw [List.replicate_succ, List.flatten_cons, List.length_append, flat_len xs n]
    rw [Nat.mul_succ]
    omega
theorem OD_mul_lst {x : D} {xs : List D} {n : Int} (sx : IsL x xs) (h1 : -(2 ^ 63) ≤ n) (h2 : n < 2 ^ 63) (hz : xs.length * n.toNat ≤ sizeLine) (h : S (.lst (List.replicate n.toNat xs).flatten)) : OD c (binaryOp .Mult) x (.int n) S := od_of op_rep fun L H vx vy Q k rx ry q => by
  obtain ⟨a, vs, rfl, ha, ra, za⟩ := sx.rep rx
  exact ⟨a, n, vs, rfl, ry, ha, h1, h2, by rw [← ra.len]; exact hz, fun p hp => q _ _ (.lst _) (same_new hp) (k.lstNew (ra.flat _) (by rw [flat_len]; exact hz) hp) h⟩
theorem UD_neg {i : Int} (h : S (.int (-i))) : UD c (unaryOp .USub) (.int i) S := ud_of un_neg fun L H vx Q k rx q => ⟨i, rx, q _ H (.int (-i)) (Same.refl H) rfl h⟩

/-! in, not in -/
def D.flat : D → Bool
  | .non => true
  | .bl _ => true
  | .int _ => true
  | .str _ => true
  | _ => false
theorem flat_rep {K : PySem.W.Frag} {Lb L : List Addr} {H : Hp} {d : D} {v : V} (f : d.flat = true) (h : RepO K U Lb L H d v) : flatV v = true ∧ ∀ {e : D} {u : V} {K' : PySem.W.Frag} {H' : Hp}, e.flat = true → Rep K' U H' e u → eqV u v = e.eqv d := by
  cases d with
  | non =>
    rw [show v = .non from h]
    exact ⟨rfl, fun {e u K' H'} g r => by cases e <;> first | (rw [show u = _ from r]; rfl) | cases g⟩
  | bl b =>
    rw [show v = .bl b from h]
    exact ⟨rfl, fun {e u K' H'} g r => by cases e <;> first | (rw [show u = _ from r]; rfl) | cases g⟩
  | int b =>
    rw [show v = .int b from h]
    exact ⟨rfl, fun {e u K' H'} g r => by cases e <;> first | (rw [show u = _ from r]; rfl) | cases g⟩
  | str b =>
    rw [show v = .str b from h]
    exact ⟨rfl, fun {e u K' H'} g r => by cases e <;> first | (rw [show u = _ from r]; rfl) | cases g⟩
  | _ => cases f
theorem flats_rep {K : PySem.W.Frag} {H : Hp} : ∀ {ds : List D} {vs : List V}, ds.all D.flat = true → Reps K U H ds vs → vs.all flatV = true
  | [], vs, _, h => by rw [show vs = [] from h]; rfl
  | d :: ds, vs, f, h => by
    obtain ⟨v, r, rfl, h2, h3⟩ := h
    simp only [List.all_cons, Bool.and_eq_true] at f ⊢
    refine ⟨(flat_rep (Lb := []) (L := []) f.1 (.of_rep (by rw [hide_nil]; exact h2))).1, flats_rep f.2 h3⟩
theorem inV_rep {K : PySem.W.Frag} {Lb L : List Addr} {H : Hp} {d : D} {v : V} (f : d.flat = true) (h : RepO K U Lb L H d v) : ∀ {ds : List D} {vs : List V}, ds.all D.flat = true → Reps K U (hide L H) ds vs → inV v vs = ds.any fun e => e.eqv d
  | [], vs, _, g => by rw [show vs = [] from g]; rfl
  | e :: ds, vs, fs, g => by
    obtain ⟨u, r, rfl, h2, h3⟩ := g
    simp only [List.all_cons, Bool.and_eq_true] at fs
    have ih := inV_rep f h fs.2 h3
    show (eqV u v || inV v r) = (e.eqv d || ds.any fun e => e.eqv d)
    rw [ih, (flat_rep f h).2 fs.1 h2]
theorem OD_in {x y : D} {ys : List D} (sy : Seq y ys) (fx : x.flat = true) (fy : ys.all D.flat = true) (h : S (.bl (ys.any fun e => e.eqv x))) : OD c (compareOp .In) x y S := od_of op_in_seq fun L H vx vy Q k rx ry q => by
  obtain ⟨b, ws, rfl, hb, rb, zb⟩ := sy.rep ry
  refine ⟨b, ws, rfl, hb, (flat_rep fx rx).1, flats_rep fy rb, ?_⟩
  show Q (.bl (if false = true then _ else inV vx ws)) H
  rw [if_neg Bool.false_ne_true, inV_rep fx rx fy rb]
  exact q _ H (.bl _) (Same.refl H) rfl h
theorem OD_nin {x y : D} {ys : List D} (sy : Seq y ys) (fx : x.flat = true) (fy : ys.all D.flat = true) (h : S (.bl (!ys.any fun e => e.eqv x))) : OD c (compareOp .NotIn) x y S := od_of op_notIn_seq fun L H vx vy Q k rx ry q => by
  obtain ⟨b, ws, rfl, hb, rb, zb⟩ := sy.rep ry
  refine ⟨b, ws, rfl, hb, (flat_rep fx rx).1, flats_rep fy rb, ?_⟩
  show Q (.bl (if true = true then !inV vx ws else _)) H
  rw [if_pos rfl, inV_rep fx rx fy rb]
  exact q _ H (.bl _) (Same.refl H) rfl h

/-! subscripts -/
theorem atI_rep {K : PySem.W.Frag} {H : Hp} {ds : List D} {vs : List V} {i : Int} {d : D} (r : Reps K U H ds vs) (h : atI ds i = some d) : ∃ v, atI vs i = some v ∧ Rep K U H d v := by
  unfold atI at h ⊢
  rw [← r.len]
  cases e : ixN ds.length i with
  | none => rw [e] at h; cases h
  | some j =>
    rw [e] at h
    obtain ⟨v, h1, h2⟩ := r.get (i := j) h
    exact ⟨v, h1, h2⟩
theorem ID_seq {x d : D} {xs : List D} {i : Int} (sx : Seq x xs) (hi : atI xs i = some d) (h : S d) : ID c x (.int i) S := id_of ix_seq fun L H vx vy Q k rx ry q => by
  obtain ⟨a, vs, rfl, ha, ra, za⟩ := sx.rep rx
  obtain ⟨v, h1, h2⟩ := atI_rep ra hi
  rcases ha with ha | ha
  · exact .inl ⟨a, vs, i, v, rfl, ry, ha, h1, q v H d (Same.refl H) (.of_rep h2) h⟩
  · exact .inr (.inl ⟨a, vs, i, v, rfl, ry, ha, h1, q v H d (Same.refl H) (.of_rep h2) h⟩)
theorem ID_str {z : Str} {ch : Nat} {i : Int} (hz : z.length ≤ sizeLine) (hi : atI z.cps.toList i = some ch) (h : S (.str ⟨#[ch]⟩)) : ID c (.str z) (.int i) S := id_of ix_str fun L H vx vy Q k rx ry q =>
  ⟨z, i, ch, rx, ry, hz, hi, q _ H (.str _) (Same.refl H) rfl h⟩
/-- an item by its place from ahead -/
theorem atI_of {α : Type} {xs : List α} {i : Int} {d : α} (j : Nat) (hj : i = (j : Int)) (h : xs[j]? = some d) : atI xs i = some d := by
  rw [hj]
  exact atI_nat h

/-! built-in calls -/
theorem CD_len {x : D} {xs : List D} (sx : Seq x xs) (h : S (.int xs.length)) : CD c (.builtin "len") [x] S := cd_of call_len_seq fun L H vs Q k r q => by
  obtain ⟨v, rfl, rx⟩ := r.one
  obtain ⟨a, ws, rfl, ha, ra, za⟩ := sx.rep rx
  refine ⟨a, ws, rfl, ha, ?_⟩
  rw [← ra.len]
  exact q _ H (.int _) (Same.refl H) rfl h
theorem CD_len_str {z : Str} (hz : z.length ≤ sizeLine) (h : S (.int z.length)) : CD c (.builtin "len") [.str z] S := cd_of call_len_str fun L H vs Q k r q => by
  obtain ⟨v, rfl, rx⟩ := r.one
  exact ⟨z, by rw [show v = _ from rx], hz, q _ H (.int _) (Same.refl H) rfl h⟩
theorem CD_abs {i : Int} (h : S (.int (if i < 0 then -i else i))) : CD c (.builtin "abs") [.int i] S := cd_of call_abs fun L H vs Q k r q => by
  obtain ⟨v, rfl, rx⟩ := r.one
  exact ⟨i, by rw [show v = _ from rx], q _ H (.int _) (Same.refl H) rfl h⟩
theorem CD_max2 {i j : Int} (h : S (.int (if j > i then j else i))) : CD c (.builtin "max") [.int i, .int j] S := cd_of (call_max2 c.calm) fun L H vs Q k r q => by
  obtain ⟨v, u, rfl, rx, ry⟩ := r.two
  exact ⟨i, j, by rw [show v = _ from rx, show u = _ from ry], q _ H (.int _) (Same.refl H) rfl h⟩
theorem CD_min2 {i j : Int} (h : S (.int (if j < i then j else i))) : CD c (.builtin "min") [.int i, .int j] S := cd_of (call_min2 c.calm) fun L H vs Q k r q => by
  obtain ⟨v, u, rfl, rx, ry⟩ := r.two
  exact ⟨i, j, by rw [show v = _ from rx, show u = _ from ry], q _ H (.int _) (Same.refl H) rfl h⟩
theorem CD_int {i : Int} (h : S (.int i)) : CD c (.type "int") [.int i] S := cd_of call_int1 fun L H vs Q k r q => by
  obtain ⟨v, rfl, rx⟩ := r.one
  exact .inl ⟨i, by rw [show v = _ from rx], q _ H (.int _) (Same.refl H) rfl h⟩
theorem CD_intb {b : Bool} (h : S (.int (if b then 1 else 0))) : CD c (.type "int") [.bl b] S := cd_of call_int1 fun L H vs Q k r q => by
  obtain ⟨v, rfl, rx⟩ := r.one
  exact .inr ⟨b, by rw [show v = _ from rx], q _ H (.int _) (Same.refl H) rfl h⟩
theorem CD_boolb {b : Bool} (h : S (.bl b)) : CD c (.type "bool") [.bl b] S := cd_of call_bool1 fun L H vs Q k r q => by
  obtain ⟨v, rfl, rx⟩ := r.one
  exact .inr ⟨b, by rw [show v = _ from rx], q _ H (.bl _) (Same.refl H) rfl h⟩
theorem CD_booli {i : Int} (h : S (.bl (i != 0))) : CD c (.type "bool") [.int i] S := cd_of call_bool1 fun L H vs Q k r q => by
  obtain ⟨v, rfl, rx⟩ := r.one
  exact .inl ⟨i, by rw [show v = _ from rx], q _ H (.bl _) (Same.refl H) rfl h⟩
theorem CD_tup {x : D} {xs : List D} (sx : Seq x xs) (h : S (.tup xs)) : CD c (.type "tuple") [x] S := cd_of call_tuple_of fun L H vs Q k r q => by
  obtain ⟨v, rfl, rx⟩ := r.one
  cases sx with
  | tup xs =>
    obtain ⟨a, ws, rfl, ha, ra, za⟩ := rx.tup
    exact ⟨a, ws, rfl, .inr ⟨ha, q _ H (.tup xs) (Same.refl H) rx h⟩⟩
  | lst xs =>
    obtain ⟨a, ws, rfl, ha, ra, za⟩ := rx.lst
    exact ⟨a, ws, rfl, .inl ⟨SqL.of ha, fun p hp => q _ _ (.tup xs) (same_new hp) (k.tupNew ra za hp) h⟩⟩
  | own xs =>
    obtain ⟨a, ws, rfl, ha, ra, za⟩ := rx.ownl
    exact ⟨a, ws, rfl, .inl ⟨SqL.of ha, fun p hp => q _ _ (.tup xs) (same_new hp) (k.tupNew ra za hp) h⟩⟩
theorem CD_lst {x : D} {xs : List D} (sx : Seq x xs) (h : S (.lst xs)) : CD c (.type "list") [x] S := cd_of call_list_of fun L H vs Q k r q => by
  obtain ⟨v, rfl, rx⟩ := r.one
  obtain ⟨a, ws, rfl, ha, ra, za⟩ := sx.rep rx
  exact ⟨a, ws, rfl, ha, fun p hp => q _ _ (.lst xs) (same_new hp) (k.lstNew ra za hp) h⟩
theorem CD_sum {x : D} {xs : List D} {ns : List Int} (sx : IsL x xs) (e : xs = ns.map D.int) (h : S (.int ns.sum)) : CD c (.builtin "sum") [x] S := cd_of (cr_sum c.calm) fun L H vs Q k r q => by
  obtain ⟨v, rfl, rx⟩ := r.one
  obtain ⟨a, ws, rfl, ha, ra, za⟩ := sx.rep rx
  subst e
  rw [ra.ints] at ha
  exact ⟨a, ns, rfl, SqL.of ha, q _ H (.int _) (Same.refl H) rfl h⟩
theorem CD_all {x : D} {xs : List D} {bs : List Bool} (sx : IsL x xs) (e : xs = bs.map D.bl) (h : S (.bl (bs.all id))) : CD c (.builtin "all") [x] S := cd_of (cr_all c.calm) fun L H vs Q k r q => by
  obtain ⟨v, rfl, rx⟩ := r.one
  obtain ⟨a, ws, rfl, ha, ra, za⟩ := sx.rep rx
  subst e
  rw [ra.bls] at ha
  exact ⟨a, bs, rfl, SqL.of ha, q _ H (.bl _) (Same.refl H) rfl h⟩
theorem CD_any {x : D} {xs : List D} {bs : List Bool} (sx : IsL x xs) (e : xs = bs.map D.bl) (h : S (.bl (bs.any id))) : CD c (.builtin "any") [x] S := cd_of (cr_any c.calm) fun L H vs Q k r q => by
  obtain ⟨v, rfl, rx⟩ := r.one
  obtain ⟨a, ws, rfl, ha, ra, za⟩ := sx.rep rx
  subst e
  rw [ra.bls] at ha
  exact ⟨a, bs, rfl, SqL.of ha, q _ H (.bl _) (Same.refl H) rfl h⟩
theorem CD_max {x : D} {xs : List D} {ns : List Int} (sx : IsL x xs) (e : xs = ns.map D.int) (h0 : 0 < ns.length) (h : ∀ m, m ∈ ns → (∀ y, y ∈ ns → y ≤ m) → S (.int m)) : CD c (.builtin "max") [x] S := cd_of (cr_max c.calm) fun L H vs Q k r q => by
  obtain ⟨v, rfl, rx⟩ := r.one
  obtain ⟨a, ws, rfl, ha, ra, za⟩ := sx.rep rx
  subst e
  rw [ra.ints] at ha
  exact ⟨a, ns, rfl, SqL.of ha, h0, fun m h1 h2 => q _ H (.int _) (Same.refl H) rfl (h m h1 h2)⟩
theorem CD_min {x : D} {xs : List D} {ns : List Int} (sx : IsL x xs) (e : xs = ns.map D.int) (h0 : 0 < ns.length) (h : ∀ m, m ∈ ns → (∀ y, y ∈ ns → m ≤ y) → S (.int m)) : CD c (.builtin "min") [x] S := cd_of (cr_min c.calm) fun L H vs Q k r q => by
  obtain ⟨v, rfl, rx⟩ := r.one
  obtain ⟨a, ws, rfl, ha, ra, za⟩ := sx.rep rx
  subst e
  rw [ra.ints] at ha
  exact ⟨a, ns, rfl, SqL.of ha, h0, fun m h1 h2 => q _ H (.int _) (Same.refl H) rfl (h m h1 h2)⟩

/-! isinstance -/
/-- of which built-in type data are -/
def D.ty : D → Option String
  | .non => some "NoneType"
  | .bl _ => some "bool"
  | .int _ => some "int"
  | .str _ => some "str"
  | .tup _ => some "tuple"
  | .lst _ => some "list"
  | .own _ => some "list"
  | .dck _ _ => some "dict"
  | .dct _ _ => some "dict"
  | _ => none
theorem tyx_of {K : PySem.W.Frag} {Lb L : List Addr} {H : Hp} {d : D} {v : V} {t : String} (e : d.ty = some t) (h : RepO K U Lb L H d v) : TyX K H v (.type t) := by
  cases d with
  | non => cases e; rw [show v = _ from h]; exact .base .non
  | bl b => cases e; rw [show v = _ from h]; exact .base (.bl b)
  | int b => cases e; rw [show v = _ from h]; exact .base (.int b)
  | str b => cases e; rw [show v = _ from h]; exact .base (.str b)
  | tup xs =>
    cases e
    obtain ⟨a, vs, rfl, ha, _⟩ := h.tup
    rcases ha with (ha | ⟨o, ha⟩) | ⟨o, its, n, hk, hc, _⟩
    · exact .base (.tup ha)
    · exact .fTuple ha
    · exact .kTuple hk hc
  | lst xs =>
    cases e
    obtain ⟨a, vs, rfl, ha, _⟩ := h.lst
    exact .base (.lst ha)
  | own xs =>
    cases e
    obtain ⟨a, vs, rfl, ha, _⟩ := h.ownl
    exact .base (.lst ha)
  | dck ks ds =>
    cases e
    obtain ⟨a, vs, rfl, ha, _⟩ := h
    exact .base (.dK (hide_at ha).2)
  | dct ks ds =>
    cases e
    obtain ⟨a, vs, rfl, ha, _⟩ := h
    exact .base (.dT (hide_at ha).2)
  | _ => cases e
theorem CD_isi {x : D} {t n : String} {b : Bool} (e : x.ty = some t) (k1 : kitB t n = some b) (h : S (.bl b)) : CD c (.builtin "isinstance") [x, .any (.ty n)] S := cd_of call_isi fun L H vs Q k r q => by
  obtain ⟨v, u, rfl, rx, ry⟩ := r.two
  exact ⟨v, .ty n, .type t, .type n, b, by rw [show u = _ from ry], .ty n, tyx_of e rx, kit_ty k1, q _ H (.bl b) (Same.refl H) rfl h⟩
end
end Dl

set_option maxRecDepth 100000
set_option maxHeartbeats 1000000
/-! # What is walked; targets; comprehensions -/
namespace Dl
open PySem PySem.Spec PyProof.Rows L2

def runI (X : Cx) (tg iter : Expr) : TI := fun σ H R => ∀ (pins : List (Addr × Obj)) (s : Shared), Inv X pins σ H s →
  wpAny (model X.prog X.w) X.A (eval iter X.env) (fun v s1 => wpAny (model X.prog X.w) X.A (pyIter v) (PIE X pins σ tg R) X.xe s1) X.xe s
def runG (X : Cx) (tg : Expr) : TG := fun v σ H Q => ∀ (pins : List (Addr × Obj)) (s : Shared) (u : Value), Inv X pins σ H s → RelV v u → wpAny (model X.prog X.w) X.A (assign tg X.env u) (fun _ s' => ∃ σ' H', Inv X pins σ' H' s' ∧ Q σ' H') X.xe s
def runGs (X : Cx) (ts : List Expr) : TGs := fun vs σ H Q => ∀ (pins : List (Addr × Obj)) (s : Shared) (us : List Value), Inv X pins σ H s → Vals vs us → wpAny (model X.prog X.w) X.A (assignInOrder ((assignEach ts X.env).map (·.2)) us) (fun _ s' => ∃ σ' H', Inv X pins σ' H' s' ∧ Q σ' H') X.xe s
def runTs (X : Cx) (ifs : List Expr) : TT := fun σ H Q => ∀ (pins : List (Addr × Obj)) (s : Shared), Inv X pins σ H s →
  wpAny (model X.prog X.w) X.A (forIn ifs true fun c r => if r = true then do let ok ← isTrue c X.env (eval c X.env); pure (ForInStep.yield ok) else pure (ForInStep.yield r)) (TP X pins σ Q) X.xe s
section
variable {X : Cx} {tg iter : Expr} {ts ifs : List Expr}
theorem pi_run : PI X tg iter (runI X tg iter) := ⟨fun pins s _ _ _ I h => h pins s I⟩
theorem pg_run : PG X tg (runG X tg) := ⟨fun pins s _ _ _ u _ I r h => h pins s u I r⟩
theorem pgs_run : PGs X ts (runGs X ts) := ⟨fun pins s _ _ _ us _ I r h => h pins s us I r⟩
theorem pts_run : PTs X ifs (runTs X ifs) := ⟨fun pins s _ _ _ I h => h pins s I⟩
theorem runI_of {t : TI} {σ : L2.St} {H : Hp} {R : It → Hp → Prop} (h : PI X tg iter t) (q : t σ H R) : runI X tg iter σ H R := fun pins s I => h.run pins s σ H R I q
theorem runG_of {t : TG} {v : V} {σ : L2.St} {H : Hp} {Q : L2.St → Hp → Prop} (h : PG X tg t) (q : t v σ H Q) : runG X tg v σ H Q := fun pins s u I r => h.run pins s σ H v u Q I r q
theorem runGs_of {t : TGs} {vs : List V} {σ : L2.St} {H : Hp} {Q : L2.St → Hp → Prop} (h : PGs X ts t) (q : t vs σ H Q) : runGs X ts vs σ H Q := fun pins s us I r => h.run pins s σ H vs us Q I r q
theorem runTs_of {t : TT} {σ : L2.St} {H : Hp} {Q : Bool → Hp → Prop} (h : PTs X ifs t) (q : t σ H Q) : runTs X ifs σ H Q := fun pins s I => h.run pins s σ H Q I q
end

/-! ### heaps with lists hidden -/
theorem hide_cons {L : List Addr} {H H' : Hp} {p : Addr} (hp : NoA H p) (e : SameK H H') : SameK (hide L H) (hide (p :: L) H') := fun b o h n => by
  obtain ⟨h1, h2⟩ := hide_at h
  rw [hide_ne (fun z => (List.mem_cons.mp z).elim (fun y => absurd y (hp.ne h2 n)) h1)]
  exact e b o h2 n
theorem hide_upd {L : List Addr} {H : Hp} {p : Addr} {o : HO} (hp : p ∈ L) : hide L (upd H p o) = hide L H := by
  funext b
  unfold hide
  by_cases hb : b ∈ L
  · rw [if_pos hb, if_pos hb]
  · rw [if_neg hb, if_neg hb, upd_ne (fun z => hb (by rw [z]; exact hp))]
section
variable {K : PySem.W.Frag} {U : Pu} {Lb L : List Addr} {H H' : Hp}
theorem Rep.still : ∀ {d : D} {v : V}, Rep K U H d v → d.still = true := fun {d v} h => by
  cases d with
  | own xs => exact False.elim h
  | _ => rfl
theorem RepO.grow {p : Addr} (hp : NoA H p) (e : SameK H H') {d : D} {v : V} (h : RepO K U Lb L H d v) : RepO K U Lb (p :: L) H' d v := by
  cases d with
  | own xs =>
    obtain ⟨l, vs, h1, h2, h2', h3, h4, h5⟩ := h
    exact ⟨l, vs, h1, List.mem_cons_of_mem _ h2, h2', e.at _ _ h3, Reps.mono (hide_cons hp e) _ _ h4, h5⟩
  | _ => exact Rep.mono (hide_cons hp e) _ _ h
end

/-! ### what is walked -/
structure Walk (K : PySem.W.Frag) (U : Pu) (L : List Addr) (H B : Hp) (J : It) (ds : List D) : Prop where
  size : ds.length ≤ sizeLine
  go : ∀ i H2, SameK B H2 → i < ds.length → J.go i H2
  stop : ∀ H2, SameK B H2 → J.stop ds.length H2
  yld : ∀ i x H2 H3, SameK B H2 → i < ds.length → J.yld i H2 x H3 → Ext H2 H3 ∧ ∃ d, ds[i]? = some d ∧ d.still = true ∧ ∀ L', (∀ l ∈ L', MutAt H2 l) → SameK (hide L H) (hide L' H2) → Rep K U (hide L' H3) d x
theorem Walk.base {K : PySem.W.Frag} {U : Pu} {L : List Addr} {H B B' : Hp} {J : It} {ds : List D} (w : Walk K U L H B J ds) (e : SameK B B') : Walk K U L H B' J ds :=
  ⟨w.size, fun i H2 h => w.go i H2 (e.trans h), fun H2 h => w.stop H2 (e.trans h), fun i x H2 H3 h => w.yld i x H2 H3 (e.trans h)⟩
section
variable {X : Cx} {U : Pu} {lv : Nat} {T : XD}
def WI (c : Ct X U lv T) (tg iter : Expr) (δ : List (Option D)) (S : List D → Prop) : Prop := ∀ (L : List Addr) (σ : L2.St) (H : Hp) (R : It → Hp → Prop), En c L H σ δ →
  (∀ J H' ds, Same U H H' → Walk X.K U L H' (hide L H') J ds → S ds → R J H') → runI X tg iter σ H R
def WJ (c : Ct X U lv T) (tg iter : Expr) (δ : List (Option D)) (S : List D → Prop) : Prop := ∀ (L : List Addr) (σ : L2.St) (H : Hp) (R : It → Hp → Prop), En c L H σ δ →
  (∀ J H' ds, Same U H H' → Walk X.K U L H' H' J ds → S ds → R J H') → runI X tg iter σ H R
def Dif (ts : List Nat) (σ σ' : L2.St) : Prop := σ'.length = σ.length ∧ ∀ j : Nat, j ∉ ts → σ'[j]? = σ[j]?
def AG (c : Ct X U lv T) (tg : Expr) (δ : List (Option D)) (d : D) (ts : List Nat) (K : List (Option D) → Prop) : Prop := ∀ (L : List Addr) (σ : L2.St) (H : Hp) (v : V) (Q : L2.St → Hp → Prop), En c L H σ δ → Rep X.K U (hide L H) d v →
  (∀ σ' δ', Dif ts σ σ' → En c L H σ' δ' → K δ' → Q σ' H) → runG X tg v σ H Q
def AGs (c : Ct X U lv T) (tgs : List Expr) (δ : List (Option D)) (ds : List D) (ts : List Nat) (K : List (Option D) → Prop) : Prop := ∀ (L : List Addr) (σ : L2.St) (H : Hp) (vs : List V) (Q : L2.St → Hp → Prop), En c L H σ δ → Reps X.K U (hide L H) ds vs →
  (∀ σ' δ', Dif ts σ σ' → En c L H σ' δ' → K δ' → Q σ' H) → runGs X tgs vs σ H Q
def WTs (c : Ct X U lv T) (ifs : List Expr) (δ : List (Option D)) (S : Bool → Prop) : Prop := ∀ (L : List Addr) (σ : L2.St) (H : Hp) (Q : Bool → Hp → Prop), En c L H σ δ →
  (∀ b H', Same U H H' → S b → Q b H') → runTs X ifs σ H Q
/-- a new list -/
def WF (c : Ct X U lv T) (e : Expr) (δ : List (Option D)) (S : List D → Prop) : Prop := ∀ (L : List Addr) (σ : L2.St) (H : Hp) (Q : VK), En c L H σ δ →
  (∀ l H' vs ds, Same U H H' → NoA H l → H' l = some (.lst vs) → Reps X.K U (hide (l :: L) H') ds vs → ds.length ≤ sizeLine → S ds → Q (.ref l) H') → runE X e σ H Q
variable {c : Ct X U lv T} {tg iter e : Expr} {δ : List (Option D)} {S : List D → Prop} {pos : Pos}
theorem WJ_of (h : WI c tg iter δ S) : WJ c tg iter δ S := fun L σ H R E q => h L σ H R E fun J H' ds s w z => q J H' ds s (w.base hide_ext.k) z
theorem WE_of_F {S : D → Prop} (h : WF c e δ fun ds => S (.lst ds)) : WE c e δ S := fun L σ H Q E q => h L σ H Q E fun l H' vs ds s hl hl' r z k => by
  have hL : l ∉ L := E.ok.freshN hl
  exact q _ H' (.lst ds) s ⟨l, vs, rfl, (hide_ne hL).trans hl', Reps.mono (hide_le fun b hb => List.mem_cons_of_mem _ hb) _ _ r, z⟩ k
theorem WF_lst {es : List Expr} (h : WA c es δ fun ds => stills ds = true ∧ ds.length ≤ sizeLine ∧ S ds) : WF c (.List es pos) δ S := fun L σ H Q E q =>
  runE_of (pe_lst pa_run) (h L σ H _ E fun vs H1 ds s1 r1 ⟨z0, z1, z⟩ => ⟨by rw [← (r1.reps z0).len]; exact z1, fun p hp => q p _ vs ds (s1.trans (same_new hp)) (Same.free s1 (.of hp)) upd_same (Reps.mono (hide_cons (.of hp) (new_k hp)) _ _ (r1.reps z0)) z1 z⟩)

/-! sources -/
theorem walk_l {K : PySem.W.Frag} {L : List Addr} {H B : Hp} {a : Addr} {vs : List V} {ds : List D} (hb : SameK (hide L H) B) (ha : B a = some (.lst vs)) (r : Reps K U (hide L H) ds vs) (z : ds.length ≤ sizeLine) : Walk K U L H B (Itl K a) ds :=
  ⟨z, fun i H2 e hi => ⟨vs, vs[i]'(by rw [← r.len]; exact hi), SqL.of (e.at _ _ ha), by simp⟩, fun H2 e => ⟨vs, SqL.of (e.at _ _ ha), by rw [← r.len]; exact Nat.le_refl _⟩, fun i x H2 H3 e hi y => by
    obtain ⟨rfl, y⟩ := y
    obtain ⟨d, h1, h2⟩ := r.getV (y vs (SqL.of (e.at _ _ ha)))
    exact ⟨Ext.refl _, d, h1, h2.still, fun L' _ s => Rep.mono s _ _ h2⟩⟩
theorem walk_t {K : PySem.W.Frag} {L : List Addr} {H B : Hp} {a : Addr} {vs : List V} {ds : List D} (ha : SqT K B a vs) (r : Reps K U (hide L H) ds vs) (z : ds.length ≤ sizeLine) : Walk K U L H B (Itt K a) ds :=
  ⟨z, fun i H2 e hi => ⟨vs, vs[i]'(by rw [← r.len]; exact hi), seqT_mono e ha, by simp⟩, fun H2 e => ⟨vs, seqT_mono e ha, by rw [← r.len]; exact Nat.le_refl _⟩, fun i x H2 H3 e hi y => by
    obtain ⟨rfl, y⟩ := y
    obtain ⟨d, h1, h2⟩ := r.getV (y vs (seqT_mono e ha))
    exact ⟨Ext.refl _, d, h1, h2.still, fun L' _ s => Rep.mono s _ _ h2⟩⟩
theorem WI_lst (h : WE c e δ fun x => ∃ ds, x = .lst ds ∧ S ds) : WI c tg e δ S := fun L σ H R E q =>
  runI_of (pi_list pe_run) (h L σ H _ E fun v H1 d s1 r1 ⟨ds, hd, z⟩ => by
    subst hd
    obtain ⟨a, vs, rfl, ha, ra, za⟩ := r1
    exact ⟨a, rfl, ⟨vs, SqL.of (hide_at ha).2⟩, q _ H1 ds s1 (walk_l (SameK.refl _) ha ra za) z⟩)
theorem WJ_own (h : WE c e δ fun x => ∃ ds, x = .own ds ∧ S ds) : WJ c tg e δ S := fun L σ H R E q =>
  runI_of (pi_list pe_run) (h L σ H _ E fun v H1 d s1 r1 ⟨ds, hd, z⟩ => by
    subst hd
    obtain ⟨a, vs, rfl, ha, ra, za⟩ := r1.ownl
    exact ⟨a, rfl, ⟨vs, SqL.of ha⟩, q _ H1 ds s1 (walk_l hide_ext.k ha ra za) z⟩)
theorem WI_tup (h : WE c e δ fun x => ∃ ds, x = .tup ds ∧ S ds) : WI c tg e δ S := fun L σ H R E q =>
  runI_of (pi_tup pe_run) (h L σ H _ E fun v H1 d s1 r1 ⟨ds, hd, z⟩ => by
    subst hd
    obtain ⟨a, vs, rfl, ha, ra, za⟩ := r1
    exact ⟨a, rfl, ⟨vs, seqT_mono hide_ext.k ha⟩, q _ H1 ds s1 (walk_t ha ra za) z⟩)
theorem walk_r {K : PySem.W.Frag} {L : List Addr} {H B : Hp} (lo : Int) {n : Nat} (z : n ≤ sizeLine) : Walk K U L H B (Itr lo n) ((List.range n).map fun (k : Nat) => D.int (lo + k)) := by
  have hl : ((List.range n).map fun (k : Nat) => D.int (lo + k)).length = n := by simp
  refine ⟨by rw [hl]; exact z, fun i H2 e hi => by rw [hl] at hi; exact hi, fun H2 e => by rw [hl]; exact Nat.le_refl _, fun i x H2 H3 e hi y => ?_⟩
  obtain ⟨rfl, rfl⟩ := y
  rw [hl] at hi
  exact ⟨Ext.refl _, .int (lo + i), by simp [hi], rfl, fun L' _ s => rfl⟩
theorem WI_rng1 {a : Expr} {p : Pos} (hm : X.mg "range" = none) (h : WA c [a] δ fun ds => ∃ n : Int, ds = [.int n] ∧ n ≤ 16777216 ∧ -16777216 ≤ n ∧ S ((List.range n.toNat).map fun (k : Nat) => D.int (0 + k))) (hg : Gl X "range") (hs : starEach [a] X.env = [(false, eval a X.env)] := by rfl) :
    WI c tg (.Call (.Name "range" p) [a] [] pos) δ S := fun L σ H R E q =>
  runI_of (pi_range1 hg hm pa_run hs) (h L σ H _ E fun vs H1 ds s1 r1 ⟨n, hd, z0, z1, z⟩ => by
    subst hd
    obtain ⟨v, rfl, rv⟩ := r1.one
    exact ⟨n, by rw [show v = _ from rv], by omega, by omega, q _ H1 _ s1 (walk_r 0 (by rw [sizeLine_eq]; omega)) z⟩)
theorem WI_rng2 {a b : Expr} {p : Pos} (hm : X.mg "range" = none) (h : WA c [a, b] δ fun ds => ∃ m n : Int, ds = [.int m, .int n] ∧ n ≤ 8000000 ∧ -8000000 ≤ n ∧ m ≤ 8000000 ∧ -8000000 ≤ m ∧ S ((List.range (n - m).toNat).map fun (k : Nat) => D.int (m + k))) (hg : Gl X "range")
    (hs : starEach [a, b] X.env = [(false, eval a X.env), (false, eval b X.env)] := by rfl) (hs2 : starEach [b] X.env = [(false, eval b X.env)] := by rfl) :
    WI c tg (.Call (.Name "range" p) [a, b] [] pos) δ S := fun L σ H R E q =>
  runI_of (pi_range2 hg hm pa_run hs hs2) (h L σ H _ E fun vs H1 ds s1 r1 ⟨m, n, hd, z0, z1, z2, z3, z⟩ => by
    subst hd
    obtain ⟨v, u, rfl, rv, ru⟩ := r1.two
    exact ⟨m, n, by rw [show v = _ from rv, show u = _ from ru], ⟨by omega, by omega, by omega, by omega⟩, q _ H1 _ s1 (walk_r m (by rw [sizeLine_eq]; omega)) z⟩)
/-- a new pair at each turn -/
theorem pair_rep {K : PySem.W.Frag} {L L' : List Addr} {H H2 : Hp} {T : Addr} {x y : V} {d e : D} (hT : H2 T = none) (hl : ∀ l ∈ L', MutAt H2 l) (s : SameK (hide L H) (hide L' H2)) (rx : Rep K U (hide L H) d x) (ry : Rep K U (hide L H) e y) :
    Rep K U (hide L' (upd H2 T (.tup [x, y]))) (.tup [d, e]) (.ref T) := by
  have nT : T ∉ L' := fun z => by
    exact (hl T z).no hT
  have s2 : SameK (hide L H) (hide L' (upd H2 T (.tup [x, y]))) := s.trans (hide_same (new_k hT))
  exact ⟨T, [x, y], rfl, SqT.of (by rw [hide_ne nT, upd_same]), ⟨x, [y], rfl, Rep.mono s2 _ _ rx, y, [], rfl, Rep.mono s2 _ _ ry, rfl⟩, by show 2 ≤ sizeLine; decide⟩
def pairs (xs ys : List D) : List D := List.zipWith (fun x y => D.tup [x, y]) xs ys
theorem pairs_len (xs ys : List D) : (pairs xs ys).length = min xs.length ys.length := List.length_zipWith
theorem pairs_get {xs ys : List D} {i : Nat} {x y : D} (h1 : xs[i]? = some x) (h2 : ys[i]? = some y) : (pairs xs ys)[i]? = some (.tup [x, y]) := by
  unfold pairs
  rw [List.getElem?_zipWith, h1, h2]
theorem walk_zl {K : PySem.W.Frag} {L : List Addr} {H B : Hp} {a b : Addr} {vs ws : List V} {ds es : List D} (ha : B a = some (.lst vs)) (hb : B b = some (.lst ws)) (ra : Reps K U (hide L H) ds vs) (rb : Reps K U (hide L H) es ws) (z : ds.length ≤ sizeLine) :
    Walk K U L H B (Itz K a b) (pairs ds es) := by
  have e1 := ra.len
  have e2 := rb.len
  refine ⟨by rw [pairs_len]; omega, fun i H2 e hi => ?_, fun H2 e => ?_, fun i x H2 H3 e hi y => ?_⟩
  · rw [pairs_len] at hi
    exact ⟨vs, ws, vs[i]'(by omega), ws[i]'(by omega), SqL.of (e.at _ _ ha), SqL.of (e.at _ _ hb), by simp, by simp⟩
  · refine ⟨vs, ws, SqL.of (e.at _ _ ha), SqL.of (e.at _ _ hb), ?_⟩
    rw [pairs_len]
    omega
  · obtain ⟨T, x1, x2, rfl, hT, rfl, f1, f2⟩ := y
    obtain ⟨d1, g1, r1⟩ := ra.getV (f1 vs (SqL.of (e.at _ _ ha)))
    obtain ⟨d2, g2, r2⟩ := rb.getV (f2 ws (SqL.of (e.at _ _ hb)))
    exact ⟨new_ext hT, .tup [d1, d2], pairs_get g1 g2, rfl, fun L' hl s => pair_rep hT hl s r1 r2⟩
theorem walk_zt {K : PySem.W.Frag} {L : List Addr} {H B : Hp} {a b : Addr} {vs ws : List V} {ds es : List D} (ha : SqT K B a vs) (hb : SqT K B b ws) (ra : Reps K U (hide L H) ds vs) (rb : Reps K U (hide L H) es ws) (z : ds.length ≤ sizeLine) :
    Walk K U L H B (RZ.ItzT K a b) (pairs ds es) := by
  have e1 := ra.len
  have e2 := rb.len
  refine ⟨by rw [pairs_len]; omega, fun i H2 e hi => ?_, fun H2 e => ?_, fun i x H2 H3 e hi y => ?_⟩
  · rw [pairs_len] at hi
    exact ⟨vs, ws, vs[i]'(by omega), ws[i]'(by omega), seqT_mono e ha, seqT_mono e hb, by simp, by simp⟩
  · refine ⟨vs, ws, seqT_mono e ha, seqT_mono e hb, ?_⟩
    rw [pairs_len]
    omega
  · obtain ⟨T, x1, x2, rfl, hT, rfl, f1, f2⟩ := y
    obtain ⟨d1, g1, r1⟩ := ra.getV (f1 vs (seqT_mono e ha))
    obtain ⟨d2, g2, r2⟩ := rb.getV (f2 ws (seqT_mono e hb))
    exact ⟨new_ext hT, .tup [d1, d2], pairs_get g1 g2, rfl, fun L' hl s => pair_rep hT hl s r1 r2⟩
/-- zip of two lists or of two tuples -/
theorem WI_zip {a b : Expr} {elts : List Expr} {kk : Nat} {tpos p : Pos} (hm : X.mg "zip" = none) (h : WA c [a, b] δ fun ds => ∃ xs ys, (ds = [.lst xs, .lst ys] ∨ ds = [.tup xs, .tup ys]) ∧ S (pairs xs ys)) (hg : Gl X "zip")
    (hs : starEach [a, b] X.env = (false, eval a X.env) :: starEach [b] X.env := by rfl) (hpl : (backTo pos (starEach [b] X.env)).any (·.1) = false := by rfl) :
    WI c (.Tuple elts kk tpos) (.Call (.Name "zip" p) [a, b] [] pos) δ S := fun L σ H R E q =>
  runI_of (RZ.pi_zipA hg hm pa_run hs hpl) (h L σ H _ E fun vs H1 ds s1 r1 ⟨xs, ys, hd, z⟩ => by
    rcases hd with hd | hd
    · subst hd
      obtain ⟨v, u, rfl, rv, ru⟩ := r1.two
      obtain ⟨a, vs, rfl, ha, ra, za⟩ := rv
      obtain ⟨b, ws, rfl, hb, rb, zb⟩ := ru
      exact ⟨a, b, vs, ws, rfl, .inl ⟨SqL.of (hide_at ha).2, SqL.of (hide_at hb).2, q _ H1 _ s1 (walk_zl ha hb ra rb za) z⟩⟩
    · subst hd
      obtain ⟨v, u, rfl, rv, ru⟩ := r1.two
      obtain ⟨a, vs, rfl, ha, ra, za⟩ := rv
      obtain ⟨b, ws, rfl, hb, rb, zb⟩ := ru
      exact ⟨a, b, vs, ws, rfl, .inr ⟨seqT_mono hide_ext.k ha, seqT_mono hide_ext.k hb, q _ H1 _ s1 (walk_zt ha hb ra rb za) z⟩⟩)
def numbered (xs : List D) : List D := xs.zipIdx.map fun p => D.tup [.int (p.2 : Nat), p.1]
theorem numbered_len (xs : List D) : (numbered xs).length = xs.length := by simp [numbered]
theorem numbered_get {xs : List D} {i : Nat} {x : D} (h : xs[i]? = some x) : (numbered xs)[i]? = some (.tup [.int (i : Nat), x]) := by
  simp [numbered, List.getElem?_zipIdx, h]
theorem walk_el {K : PySem.W.Frag} {L : List Addr} {H B : Hp} {a : Addr} {vs : List V} {ds : List D} (ha : B a = some (.lst vs)) (ra : Reps K U (hide L H) ds vs) (z : ds.length ≤ sizeLine) : Walk K U L H B (Ite K a) (numbered ds) := by
  have e1 := ra.len
  refine ⟨by rw [numbered_len]; exact z, fun i H2 e hi => ?_, fun H2 e => ?_, fun i x H2 H3 e hi y => ?_⟩
  · rw [numbered_len] at hi
    exact ⟨vs, vs[i]'(by omega), SqL.of (e.at _ _ ha), by simp⟩
  · refine ⟨vs, SqL.of (e.at _ _ ha), ?_⟩
    rw [numbered_len]
    omega
  · obtain ⟨T, x1, rfl, hT, rfl, f1⟩ := y
    obtain ⟨d1, g1, r1⟩ := ra.getV (f1 vs (SqL.of (e.at _ _ ha)))
    exact ⟨new_ext hT, .tup [.int (i : Nat), d1], numbered_get g1, rfl, fun L' hl s => pair_rep hT hl s (d := .int (i : Nat)) rfl r1⟩
/-- enumerate of a list -/
theorem WI_enum {a : Expr} {elts : List Expr} {kk : Nat} {tpos p : Pos} (hm : X.mg "enumerate" = none) (h : WA c [a] δ fun ds => ∃ xs, ds = [.lst xs] ∧ S (numbered xs)) (hg : Gl X "enumerate") (hs : starEach [a] X.env = [(false, eval a X.env)] := by rfl) :
    WI c (.Tuple elts kk tpos) (.Call (.Name "enumerate" p) [a] [] pos) δ S := fun L σ H R E q =>
  runI_of (pi_enum hg hm pa_run hs) (h L σ H _ E fun vs H1 ds s1 r1 ⟨xs, hd, z⟩ => by
    subst hd
    obtain ⟨v, rfl, a, vs, rfl, ha, ra, za⟩ := r1.one
    exact ⟨a, vs, rfl, SqL.of (hide_at ha).2, q _ H1 _ s1 (walk_el ha ra za) z⟩)

/-! targets -/
theorem Dif.refl (ts : List Nat) (σ : L2.St) : Dif ts σ σ := ⟨rfl, fun _ _ => rfl⟩
theorem Dif.set {ts : List Nat} {σ : L2.St} {i : Nat} {o : Option V} (h : i ∈ ts) : Dif ts σ (σ.set i o) := ⟨List.length_set, fun j hj => by
  rw [List.getElem?_set_ne (fun z => hj (by rw [← z]; exact h))]⟩
theorem Dif.trans {ts : List Nat} {σ σ1 σ2 : L2.St} (a : Dif ts σ σ1) (b : Dif ts σ1 σ2) : Dif ts σ σ2 := ⟨b.1.trans a.1, fun j hj => (b.2 j hj).trans (a.2 j hj)⟩
theorem Dif.mono {ts ts' : List Nat} {σ σ1 : L2.St} (a : Dif ts σ σ1) (h : ∀ i ∈ ts, i ∈ ts') : Dif ts' σ σ1 := ⟨a.1, fun j hj => a.2 j fun z => hj (h j z)⟩
theorem En.set {L : List Addr} {H : Hp} {σ : L2.St} {i : Nat} {d : D} {v : V} (E : En c L H σ δ) (h : Rep X.K U (hide L H) d v) : En c L H (σ.set i (some v)) (δ.set i (some d)) := by
  refine ⟨E.ok, by simp [E.len], fun j e he => ?_, fun j k xs ys l h1 h2 h3 h4 => ?_⟩
  · by_cases hj : i = j
    · subst hj
      by_cases hi : i < δ.length
      · rw [List.getElem?_set_self hi] at he
        cases he
        exact ⟨v, by rw [List.getElem?_set_self (by rw [E.len]; exact hi)], .of_rep h⟩
      · rw [List.getElem?_eq_none (by simpa using hi)] at he
        cases he
    · rw [List.getElem?_set_ne hj] at he ⊢
      exact E.rep j e he
  · have s := h.still
    have hj : i ≠ j := fun z => by
      subst z
      by_cases hi : i < δ.length
      · rw [List.getElem?_set_self hi] at h1
        cases h1
        cases s
      · rw [List.getElem?_eq_none (by simpa using hi)] at h1
        cases h1
    have hk : i ≠ k := fun z => by
      subst z
      by_cases hi : i < δ.length
      · rw [List.getElem?_set_self hi] at h2
        cases h2
        cases s
      · rw [List.getElem?_eq_none (by simpa using hi)] at h2
        cases h2
    rw [List.getElem?_set_ne hj] at h1 h3
    rw [List.getElem?_set_ne hk] at h2 h4
    exact E.sep j k xs ys l h1 h2 h3 h4
theorem AG_name (i : Nat) {x : Str} {d : D} {K : List (Option D) → Prop} (h : K (δ.set i (some d))) (hi : X.N[i]? = some x) (hx : Loc X.env.scope x) (hf : X.fn x = true ∨ X.env.scope.names.lookup x = some .local) : AG c (.Name x pos) δ d [i] K := fun L σ H v Q E r q =>
  runG_of (pg_name c.nd hi hx hf) (q _ _ (Dif.set (by simp)) (E.set r) h)
theorem AGs_nil {K : List (Option D) → Prop} (h : K δ) : AGs c [] δ [] [] K := fun L σ H vs Q E r q => runGs_of pgs_nil ⟨r, q σ δ (Dif.refl _ _) E h⟩
theorem AGs_cons {tgs : List Expr} {d : D} {ds : List D} {t1 ts : List Nat} {K : List (Option D) → Prop} (h : AG c tg δ d t1 fun δ1 => AGs c tgs δ1 ds ts K) (hs : (assignEach (tg :: tgs) X.env).map (·.2) = assign tg X.env :: (assignEach tgs X.env).map (·.2) := by rfl) : AGs c (tg :: tgs) δ (d :: ds) (t1 ++ ts) K := fun L σ H vs Q E r q => by
  obtain ⟨v, w, rfl, r1, r2⟩ := r
  exact runGs_of (pgs_cons pg_run pgs_run hs) ⟨v, w, rfl, h L σ H v _ E r1 fun σ1 δ1 d1 E1 z => z L σ1 H w Q E1 r2 fun σ2 δ2 d2 E2 z2 => q σ2 δ2 ((d1.mono fun i hi => List.mem_append_left _ hi).trans (d2.mono fun i hi => List.mem_append_right _ hi)) E2 z2⟩
theorem AG_tup {es : List Expr} {k : Nat} {d : D} {ds : List D} {ts : List Nat} {K : List (Option D) → Prop} (hd : d = .tup ds) (h : AGs c es δ ds ts K) (hn : (assignEach es X.env).length = ds.length) (hst : (assignEach es X.env).findIdx? (·.1) = none := by rfl) : AG c (.Tuple es k pos) δ d ts K := fun L σ H v Q E r q => by
  subst hd
  obtain ⟨a, vs, rfl, ha, ra, za⟩ := r
  exact runG_of (pg_tup c.calm pgs_run hn hst) ⟨a, vs, rfl, seqT_mono hide_ext.k ha, ra.len.symm, h L σ H vs Q E ra q⟩

/-! tests of a comprehension -/
theorem WTs_nil {S : Bool → Prop} (h : S true) : WTs c [] δ S := fun L σ H Q E q => runTs_of pts_nil (q true H (Same.refl H) h)
theorem WTs_one {t : Expr} {S : Bool → Prop} (h : WT c t δ S) : WTs c [t] δ S := fun L σ H Q E q => runTs_of (pts_one pt_run) (h L σ H Q E q)

/-! ### list comprehensions -/
def noX : XD := fun _ _ => False
def Blk (c : Ct X U lv T) (scope : Scope) (φ : ∀ {X' : Cx}, Ct X' U lv noX → Prop) : Prop := ∀ (s : Shared) (H : Hp) (C : Addr) (cl : List (Str × Addr)) (fp : List Addr) (c' : Ct (X.blk s H scope (compEnvC scope cl C X.env) fp) U lv noX), c'.Hb = c.Hb → c'.Lb = c.Lb → φ c'
def blkCt (c : Ct X U lv T) (scope : Scope) (s : Shared) (H : Hp) (C : Addr) (cl : List (Str × Addr)) (fp : List Addr) : Ct (X.blk s H scope (compEnvC scope cl C X.env) fp) U lv noX where
  Hb := c.Hb
  Lb := c.Lb
  g := c.g
  calm := c.calm
  nd := c.nd
  room := c.room
  own := PassesOwn.never
  tk := fun u s' x => by
    obtain ⟨_, _, _, _, _, _, _, _, _, _, _, _, _, _, _, _, z⟩ := x
    obtain ⟨_, _, _, z⟩ := z
    exact z.elim
def wipeD (δ : List (Option D)) : List Nat → List (Option D)
  | [] => δ
  | v :: vs => (wipeD δ vs).set v none
theorem wipeD_len (δ : List (Option D)) : ∀ vs, (wipeD δ vs).length = δ.length
  | [] => rfl
  | v :: vs => by
    unfold wipeD
    rw [List.length_set, wipeD_len δ vs]
theorem wipeD_some {δ : List (Option D)} {i : Nat} {x : D} : ∀ {vs : List Nat}, (wipeD δ vs)[i]? = some (some x) → δ[i]? = some (some x) ∧ i ∉ vs
  | [], h => ⟨h, by simp⟩
  | v :: vs, h => by
    unfold wipeD at h
    by_cases hi : v = i
    · subst hi
      by_cases hv : v < (wipeD δ vs).length
      · rw [List.getElem?_set_self hv] at h
        cases h
      · rw [List.getElem?_eq_none (by simpa using hv)] at h
        cases h
    · rw [List.getElem?_set_ne hi] at h
      obtain ⟨h1, h2⟩ := wipeD_some h
      exact ⟨h1, fun z => (List.mem_cons.mp z).elim (fun y => hi y.symm) h2⟩
theorem En.wipe {L : List Addr} {H : Hp} {σ : L2.St} (E : En c L H σ δ) (vs : List Nat) : En c L H (wipe σ vs) (wipeD δ vs) :=
  ⟨E.ok, by rw [wipe_length, wipeD_len]; exact E.len, fun i d h => by
    obtain ⟨h1, h2⟩ := wipeD_some h
    obtain ⟨v, g1, g2⟩ := E.rep i d h1
    exact ⟨v, by rw [wipe_out h2]; exact g1, g2⟩, fun i j xs ys l h1 h2 h3 h4 => by
    obtain ⟨a1, b1⟩ := wipeD_some h1
    obtain ⟨a2, b2⟩ := wipeD_some h2
    rw [wipe_out b1] at h3
    rw [wipe_out b2] at h4
    exact E.sep i j xs ys l a1 a2 h3 h4⟩
theorem wipe_set_none : ∀ (vs : List Nat) (σ : L2.St) (j : Nat), j ∈ vs → j < σ.length → (wipe σ vs)[j]? = some none
  | [], _, _, h, _ => by simp at h
  | v :: vs, σ, j, h, hj => by
    unfold wipe
    by_cases e : v = j
    · subst e
      rw [List.getElem?_set_self (by rw [wipe_length]; exact hj)]
    · rw [List.getElem?_set_ne e]
      exact wipe_set_none vs σ j ((List.mem_cons.mp h).elim (fun z => absurd z.symm e) id) hj
theorem wipe_dif {σ σ2 : L2.St} {ts vs : List Nat} (d : Dif ts (wipe σ vs) σ2) (h : ∀ i ∈ ts, i ∈ vs) : wipe σ2 vs = wipe σ vs := by
  refine List.ext_getElem? fun j => ?_
  by_cases hj : j ∈ vs
  · by_cases hl : j < σ.length
    · rw [wipe_set_none vs σ j hj hl, wipe_set_none vs σ2 j hj (by rw [d.1, wipe_length]; exact hl)]
    · rw [List.getElem?_eq_none (by rw [wipe_length, d.1, wipe_length]; omega), List.getElem?_eq_none (by rw [wipe_length]; omega)]
  · rw [wipe_out hj, d.2 j (fun z => hj (h j z))]
/-- the context of a block, from that of the frame -/
theorem En.blk {X' : Cx} {c' : Ct X' U lv noX} {L : List Addr} {H H' : Hp} {σ : L2.St} {p : Addr} (E : En c L H σ δ) (hK : X'.K = X.K) (hb : c'.Hb = c.Hb) (hl : c'.Lb = c.Lb) (hp : H p = none) (s : Same U H H') (hp' : ∃ xs, H' p = some (.lst xs)) : En c' (p :: L) H' σ δ := by
  refine ⟨⟨by rw [hb]; exact E.ok.base.trans s, fun l h => ?_, fun l h => ?_, fun l h => ?_⟩, E.len, fun i d h => ?_, E.sep⟩
  · rw [hl] at h
    exact List.mem_cons_of_mem _ (E.ok.lb l h)
  · rw [hl, hb]
    rcases List.mem_cons.mp h with z | z
    · right
      exact E.ok.base.free (by rw [z]; exact .of hp)
    · exact E.ok.new l z
  · rcases List.mem_cons.mp h with z | z
    · rw [z]
      exact MutAt.lst hp'.choose_spec
    · exact (E.ok.lsts l z).mono s
  · obtain ⟨v, h1, h2⟩ := E.rep i d h
    rw [hK, hl]
    exact ⟨v, h1, h2.grow (.of hp) s⟩
def lcG (X : Cx) (scope : Scope) (tg : Expr) : TG := fun v σ H Q => ∀ (s : Shared) (H0 : Hp) (C : Addr) (cl : List (Str × Addr)) (fp : List Addr), runG (X.blk s H0 scope (compEnvC scope cl C X.env) fp) tg v σ H Q
def lcT (X : Cx) (scope : Scope) (ifs : List Expr) : TT := fun σ H Q => ∀ (s : Shared) (H0 : Hp) (C : Addr) (cl : List (Str × Addr)) (fp : List Addr), runTs (X.blk s H0 scope (compEnvC scope cl C X.env) fp) ifs σ H Q
def lcE (X : Cx) (scope : Scope) (elt : Expr) : TE := fun σ H Q => ∀ (s : Shared) (H0 : Hp) (C : Addr) (cl : List (Str × Addr)) (fp : List Addr), runE (X.blk s H0 scope (compEnvC scope cl C X.env) fp) elt σ H Q
/-- what a turn of a comprehension is to show -/
def LcTurn (c : Ct X U lv T) (tg : Expr) (ifs : List Expr) (elt : Expr) (scope : Scope) (δ : List (Option D)) (ts : List Nat) (S : List D → Prop) (ds : List D) : Prop :=
  ∃ Pv : Nat → List D → Prop, Pv 0 [] ∧ (∀ (i : Nat) (d : D) (ys : List D), ds[i]? = some d → ys.length ≤ i → Pv i ys → Blk c scope fun c1 => AG c1 tg δ d ts fun δ2 => Blk c scope fun c2 => WTs c2 ifs δ2 fun b =>
      if b = true then Blk c scope fun c3 => WE c3 elt δ2 fun y => y.still = true ∧ Pv (i + 1) (ys ++ [y]) else Pv (i + 1) ys) ∧ ∀ ys, ys.length ≤ ds.length → Pv ds.length ys → S ys
theorem lc_read {elt : Expr} {ifs : List Expr} {scope : Scope} {vs0 ts : List Nat} (hi : WJ c tg iter δ (LcTurn c tg ifs elt scope (wipeD δ vs0) ts S)) (hts : ∀ i ∈ ts, i ∈ vs0) {L : List Addr} {σ : L2.St} {H : Hp} {Q : VK} (E : En c L H σ δ)
    (q : ∀ l H' vs ds, Same U H H' → NoA H l → H' l = some (.lst vs) → Reps X.K U (hide (l :: L) H') ds vs → ds.length ≤ sizeLine → S ds → Q (.ref l) H') : tLc (runI X tg iter) (lcG X scope tg) (lcT X scope ifs) (lcE X scope elt) vs0 σ H Q := by
  refine hi L σ H _ E fun J H1 ds s1 w ⟨Pv, p0, step, fin⟩ => ?_
  intro Dl hD
  have E1 := E.mono s1
  have nl : Dl ∉ L := E1.ok.fresh hD
  refine ⟨fun i m H2 => m = ds.length - i ∧ i ≤ ds.length ∧ Same U H1 H2 ∧ ∃ ys vs, Pv i ys ∧ ys.length ≤ i ∧ H2 Dl = some (.lst vs) ∧ Reps X.K U (hide (Dl :: L) H2) ys vs, ⟨ds.length, by simp, Nat.zero_le _, same_new hD, [], [], p0, Nat.le_refl _, upd_same, rfl⟩, ?_⟩
  rintro i m H2 ⟨rfl, hi, s2, ys, vs, pv, hy, hd, rp⟩
  have hys := rp.len
  by_cases hlt : i < ds.length
  · refine .inr ⟨w.go i H2 s2 hlt, fun H3 => i + 1 ≤ ds.length ∧ Same U H1 H3 ∧ ∃ ys vs, Pv (i + 1) ys ∧ ys.length ≤ i + 1 ∧ H3 Dl = some (.lst vs) ∧ Reps X.K U (hide (Dl :: L) H3) ys vs, fun H3 h3 => ⟨ds.length - (i + 1), by omega, rfl, h3⟩, fun x H3 y => ?_⟩
    obtain ⟨s3, d, hd1, hst, hrep⟩ := w.yld i x H2 H3 s2 hlt y
    have hrep := hrep (Dl :: L) (fun l hl => by
      rcases List.mem_cons.mp hl with z | z
      · rw [z]; exact .lst hd
      · exact (E1.ok.lsts l z).mono s2) (hide_cons (.of hD) s2)
    intro sa Ha Ca cla fpa
    have key := step i d ys hd1 hy pv sa Ha Ca cla fpa (blkCt c scope sa Ha Ca cla fpa) rfl rfl
    have s13 := s2.trans s3.s
    refine key (Dl :: L) (wipe σ (vs0)) H3 x _ ((E1.wipe (vs0)).blk (X' := X.blk sa Ha scope (compEnvC scope cla Ca X.env) fpa) rfl rfl rfl hD s13 ⟨vs, s3 _ _ hd⟩) hrep fun σ2 δ2 df E2 k2 => ?_
    refine ⟨wipe_dif df hts, ?_⟩
    intro sb Hb Cb clb fpb
    have E2' : En (blkCt c scope sb Hb Cb clb fpb) (Dl :: L) H3 σ2 δ2 := ⟨⟨E2.ok.base, E2.ok.lb, E2.ok.new, E2.ok.lsts⟩, E2.len, E2.rep, E2.sep⟩
    refine k2 sb Hb Cb clb fpb (blkCt c scope sb Hb Cb clb fpb) rfl rfl (Dl :: L) σ2 H3 _ E2' fun b H4 s4 z => ?_
    have rp4 : Reps X.K U (hide (Dl :: L) H4) ys vs := Reps.mono (hide_same (s3.k.trans s4.k)) _ _ rp
    cases b with
    | true =>
      rw [if_pos rfl] at z ⊢
      intro sc Hc Cc clc fpc
      have E3 : En (blkCt c scope sc Hc Cc clc fpc) (Dl :: L) H4 σ2 δ2 := ⟨⟨(E2.ok.mono s4).base, E2.ok.lb, E2.ok.new, (E2.ok.mono s4).lsts⟩, E2.len, (E2.mono s4).rep, E2.sep⟩
      refine z sc Hc Cc clc fpc (blkCt c scope sc Hc Cc clc fpc) rfl rfl (Dl :: L) σ2 H4 _ E3 fun y H5 e s5 r5 ⟨st, p5⟩ => ?_
      refine ⟨vs, s5.at _ _ (s4.at _ _ (s3 _ _ hd)), by have := w.size; omega, by omega, ?_, ys ++ [e], vs ++ [y], p5, by simp; omega, upd_same, ?_⟩
      · exact ((s13.trans s4).trans s5).set (.lst (s5.at _ _ (s4.at _ _ (s3 _ _ hd)))) (.of hD) rfl
      · rw [hide_upd List.mem_cons_self]
        exact (Reps.mono (hide_same s5.k) _ _ rp4).app (Reps.one (r5.rep st))
    | false =>
      rw [if_neg Bool.false_ne_true] at z ⊢
      exact ⟨by omega, s13.trans s4, ys, vs, z, by omega, s4.at _ _ (s3 _ _ hd), rp4⟩
  · have e : i = ds.length := by omega
    subst e
    refine .inl ⟨w.stop H2 s2.k, q Dl H2 vs ys (s1.trans s2) (Same.free s1 (.of hD)) hd rp (by have := w.size; omega) (fin ys hy pv)⟩
theorem WF_lc {elt : Expr} {ifs : List Expr} {scope : Scope} (own : List (Str × Nat)) (ts : List Nat) (hi : WJ c tg iter δ (LcTurn c tg ifs elt scope (wipeD δ (own.map (·.2))) ts S))
    (ok : BlkOk X.N X.env.scope scope own) (hts : ∀ i ∈ ts, i ∈ own.map (·.2)) (hs : ∀ x, foldedSetIterable iter X.env x = pure x := by intro _; rfl) : WF c (.ListComp elt [⟨tg, iter, ifs, 0⟩] scope pos) δ S := fun L σ H Q E q =>
  runE_of (pe_lc (own := own) c.calm c.nd pi_run ok (fun s H0 C cl fp => ⟨fun pins s1 σ1 H1 v u Q1 I r h => h s H0 C cl fp pins s1 u I r⟩) (fun s H0 C cl fp => ⟨fun pins s1 σ1 H1 Q1 I h => h s H0 C cl fp pins s1 I⟩)
    (fun s H0 C cl fp => ⟨fun pins s1 σ1 H1 Q1 I h => h s H0 C cl fp pins s1 I⟩) hs) (lc_read hi hts E q)
theorem WE_lc {elt : Expr} {ifs : List Expr} {scope : Scope} {S : D → Prop} (own : List (Str × Nat)) (ts : List Nat) (hi : WJ c tg iter δ (LcTurn c tg ifs elt scope (wipeD δ (own.map (·.2))) ts fun ys => S (.lst ys)))
    (ok : BlkOk X.N X.env.scope scope own) (hts : ∀ i ∈ ts, i ∈ own.map (·.2)) (hs : ∀ x, foldedSetIterable iter X.env x = pure x := by intro _; rfl) : WE c (.ListComp elt [⟨tg, iter, ifs, 0⟩] scope pos) δ S :=
  WE_of_F (WF_lc own ts hi ok hts hs)
end
end Dl

set_option maxRecDepth 100000
set_option maxHeartbeats 1000000
/-! # Statements, defs, calls -/
namespace Dl
open PySem PySem.Spec PyProof.Rows L2

def runS (X : Cx) (st : Stmt) : TS := fun D σ H => ∀ (pins : List (Addr × Obj)) (s : Shared), Inv X pins σ H s → wpAny (model X.prog X.w) X.A (exec st X.env) (SP X pins D) X.xe s
def runSs (X : Cx) (st : List Stmt) : TS := fun D σ H => ∀ (pins : List (Addr × Obj)) (s : Shared), Inv X pins σ H s → wpAny (model X.prog X.w) X.A (execs st X.env) (SP X pins D) X.xe s
section
variable {X : Cx} {st : Stmt} {sts : List Stmt}
theorem ps_run : PS X st (runS X st) := ⟨fun pins s _ _ _ I h => h pins s I⟩
theorem pss_run : PSs X sts (runSs X sts) := ⟨fun pins s _ _ _ I h => h pins s I⟩
theorem runS_of {t : TS} {D : Ends} {σ : L2.St} {H : Hp} (h : PS X st t) (q : t D σ H) : runS X st D σ H := fun pins s I => h.run pins s σ H D I q
theorem runSs_of {t : TS} {D : Ends} {σ : L2.St} {H : Hp} (h : PSs X sts t) (q : t D σ H) : runSs X sts D σ H := fun pins s I => h.run pins s σ H D I q
end

structure SE where
  nx : List (Option D) → Prop
  rt : D → Prop
  bk : List (Option D) → Prop := fun _ => False
  ct : List (Option D) → Prop := fun _ => False
section
variable {X : Cx} {U : Pu} {lv : Nat} {T : XD}
structure Cmp (c : Ct X U lv T) (E : SE) (D : Ends) : Prop where
  nx : ∀ L' σ' H' δ', En c L' H' σ' δ' → E.nx δ' → D.nx σ' H'
  rt : ∀ v H' d, Same U c.Hb H' → Rep X.K U (hide c.Lb H') d v → E.rt d → D.rt v H'
  bk : ∀ L' σ' H' δ', En c L' H' σ' δ' → E.bk δ' → D.bk σ' H'
  ct : ∀ L' σ' H' δ', En c L' H' σ' δ' → E.ct δ' → D.ct σ' H'
def WS (c : Ct X U lv T) (st : Stmt) (δ : List (Option D)) (E : SE) : Prop := ∀ (L : List Addr) (σ : L2.St) (H : Hp) (D : Ends), En c L H σ δ → Cmp c E D → runS X st D σ H
def WSs (c : Ct X U lv T) (st : List Stmt) (δ : List (Option D)) (E : SE) : Prop := ∀ (L : List Addr) (σ : L2.St) (H : Hp) (D : Ends), En c L H σ δ → Cmp c E D → runSs X st D σ H
variable {c : Ct X U lv T} {δ : List (Option D)} {E : SE} {e : Expr} {pos : Pos} {st : Stmt} {rest : List Stmt}

theorem WSs_nil (h : E.nx δ) : WSs c [] δ E := fun L σ H D N C => runSs_of pss_nil (C.nx L σ H δ N h)
theorem WSs_cons (h : WS c st δ { E with nx := fun δ' => WSs c rest δ' E }) : WSs c (st :: rest) δ E := fun L σ H D N C =>
  runSs_of (pss_cons ps_run pss_run) (h L σ H _ N ⟨fun L' σ' H' δ' N' k => k L' σ' H' D N' C, C.rt, C.bk, C.ct⟩)
theorem WSs_mono {E' : SE} (h : WSs c rest δ E) (k1 : ∀ δ', E.nx δ' → E'.nx δ') (k2 : ∀ d, E.rt d → E'.rt d) (k3 : ∀ δ', E.bk δ' → E'.bk δ') (k4 : ∀ δ', E.ct δ' → E'.ct δ') : WSs c rest δ E' := fun L σ H D N C =>
  h L σ H D N ⟨fun L' σ' H' δ' N' k => C.nx L' σ' H' δ' N' (k1 _ k), fun v H' d s r k => C.rt v H' d s r (k2 _ k), fun L' σ' H' δ' N' k => C.bk L' σ' H' δ' N' (k3 _ k), fun L' σ' H' δ' N' k => C.ct L' σ' H' δ' N' (k4 _ k)⟩
theorem WS_pass (h : E.nx δ) : WS c (.Pass pos) δ E := fun L σ H D N C => runS_of ps_pass (C.nx L σ H δ N h)
theorem WS_break (h : E.bk δ) : WS c (.Break pos) δ E := fun L σ H D N C => runS_of ps_break (C.bk L σ H δ N h)
theorem WS_continue (h : E.ct δ) : WS c (.Continue pos) δ E := fun L σ H D N C => runS_of ps_continue (C.ct L σ H δ N h)
/-- forgetting what the names hold, or no longer changing a list -/
theorem En.frz {L : List Addr} {H : Hp} {σ : L2.St} (N : En c L H σ δ) : En c c.Lb H σ (δ.map (Option.map D.frz)) := by
  refine ⟨⟨N.ok.base, fun l h => h, fun l h => .inl h, fun l h => N.ok.lsts l (N.ok.lb l h)⟩, by simp [N.len], fun i d h => ?_, fun i j xs ys l h => ?_⟩
  · rw [List.getElem?_map] at h
    cases g : δ[i]? with
    | none =>
      rw [g] at h
      cases h
    | some o =>
      rw [g] at h
      cases o with
      | none => cases h
      | some d' =>
        cases h
        obtain ⟨v, h1, h2⟩ := N.rep i d' g
        exact ⟨v, h1, .of_rep (h2.frz N.ok.lb)⟩
  · rw [List.getElem?_map] at h
    cases g : δ[i]? with
    | none =>
      rw [g] at h
      cases h
    | some o =>
      rw [g] at h
      cases o with
      | none => cases h
      | some d' =>
        cases d' with
        | own xs => cases h
        | _ => cases h
theorem repB {K : PySem.W.Frag} {Lb : List Addr} {H : Hp} {d : D} {v : V} (h : RepO K U Lb Lb H d v) : Rep K U (hide Lb H) d v := by
  cases d with
  | own xs =>
    obtain ⟨l, vs, h1, h2, h3, _⟩ := h
    exact absurd h2 h3
  | _ => exact h
theorem WS_ret (h : WE c e (δ.map (Option.map D.frz)) E.rt) : WS c (.Return (some e) pos) δ E := fun L σ H D N C =>
  runS_of (ps_ret pe_run) (h c.Lb σ H _ N.frz fun v H' d s r k => C.rt v H' d (N.ok.base.trans s) (repB r) k)
theorem WS_retN (h : E.rt .non) : WS c (.Return none pos) δ E := fun L σ H D N C => runS_of ps_retN (C.rt .non H .non N.ok.base rfl h)
/-- no list is changed any more -/
theorem WSs_frz (h : WSs c rest (δ.map (Option.map D.frz)) E) : WSs c rest δ E := fun L σ H D N C => h c.Lb σ H D N.frz C
theorem WS_expr (h : WE c e δ fun _ => E.nx δ) (hs : swapsWith e none pos.line X.env = pure false) : WS c (.Expr e pos) δ E := fun L σ H D N C =>
  runS_of (ps_expr pe_run hs) (h L σ H _ N fun v H' d s r k => C.nx L σ H' δ (N.mono s) k)
theorem WS_if {t : Expr} {a b : List Stmt} (h : WT c t δ fun k => if k = true then WSs c a δ E else WSs c b δ E) : WS c (.If t a b pos) δ E := fun L σ H D N C =>
  runS_of (ps_if pt_run pss_run pss_run) (h L σ H _ N fun k H1 s1 z => by
    cases k with
    | true =>
      rw [if_pos rfl] at z ⊢
      exact z L σ H1 D (N.mono s1) C
    | false =>
      rw [if_neg Bool.false_ne_true] at z ⊢
      exact z L σ H1 D (N.mono s1) C)

/-! ### what is stored: data that stay, or a new list -/
def OutO (K : PySem.W.Frag) (U : Pu) (L : List Addr) (H H' : Hp) (d : D) (v : V) : Prop := match d with
  | .own ds => ∃ l vs, v = .ref l ∧ NoA H l ∧ H' l = some (.lst vs) ∧ Reps K U (hide (l :: L) H') ds vs ∧ ds.length ≤ sizeLine
  | d => Rep K U (hide L H') d v
def WO (c : Ct X U lv T) (e : Expr) (δ : List (Option D)) (S : D → Prop) : Prop := ∀ (L : List Addr) (σ : L2.St) (H : Hp) (Q : VK), En c L H σ δ →
  (∀ v H' d, Same U H H' → OutO X.K U L H H' d v → S d → Q v H') → runE X e σ H Q
theorem WO_of {S : D → Prop} (h : WE c e δ fun d => d.still = true ∧ S d) : WO c e δ S := fun L σ H Q N q => h L σ H Q N fun v H' d s r ⟨z, k⟩ => q v H' d s (by
  cases d with
  | own xs => cases z
  | _ => exact r) k
theorem WO_new {S : D → Prop} (h : WF c e δ fun ds => S (.own ds)) : WO c e δ S := fun L σ H Q N q => h L σ H Q N fun l H' vs ds s hl hl' r z k => q _ H' (.own ds) s ⟨l, vs, rfl, hl, hl', r, z⟩ k
/-- a value that may be stored -/
def Held (c : Ct X U lv T) (L : List Addr) (H : Hp) (σ : L2.St) (δ : List (Option D)) (d : D) (v : V) : Prop :=
  RepO X.K U c.Lb L H d v ∧ ∀ xs l, d = .own xs → v = .ref l → ∀ (j : Nat) ys, δ[j]? = some (some (.own ys)) → σ[j]? ≠ some (some (.ref l))
theorem En.put {L : List Addr} {H : Hp} {σ : L2.St} {i : Nat} {d : D} {v : V} (N : En c L H σ δ) (h : Held c L H σ δ d v) : En c L H (σ.set i (some v)) (δ.set i (some d)) := by
  obtain ⟨r, hn⟩ := h
  have out : ∀ (j k : Nat) xs ys l, i = j → i ≠ k → (δ.set i (some d))[j]? = some (some (.own xs)) → (δ.set i (some d))[k]? = some (some (.own ys)) → (σ.set i (some v))[j]? = some (some (.ref l)) → (σ.set i (some v))[k]? = some (some (.ref l)) → False := fun j k xs ys l hj hk g1 g2 g3 g4 => by
    subst hj
    rw [List.getElem?_set_ne hk] at g2 g4
    have hi : i < δ.length := by
      by_cases hi : i < δ.length
      · exact hi
      · rw [List.getElem?_eq_none (by simpa using hi)] at g1
        cases g1
    rw [List.getElem?_set_self hi] at g1
    rw [List.getElem?_set_self (by rw [N.len]; exact hi)] at g3
    cases g1
    cases g3
    exact hn xs l rfl rfl k ys g2 g4
  refine ⟨N.ok, by simp [N.len], fun j e he => ?_, fun j k xs ys l g1 g2 g3 g4 => ?_⟩
  · by_cases hj : i = j
    · subst hj
      by_cases hi : i < δ.length
      · rw [List.getElem?_set_self hi] at he
        cases he
        exact ⟨v, by rw [List.getElem?_set_self (by rw [N.len]; exact hi)], r⟩
      · rw [List.getElem?_eq_none (by simpa using hi)] at he
        cases he
    · rw [List.getElem?_set_ne hj] at he ⊢
      exact N.rep j e he
  · by_cases hj : i = j
    · by_cases hk : i = k
      · omega
      · exact (out j k xs ys l hj hk g1 g2 g3 g4).elim
    · by_cases hk : i = k
      · exact (out k j ys xs l hk hj g2 g1 g4 g3).elim
      · rw [List.getElem?_set_ne hj] at g1 g3
        rw [List.getElem?_set_ne hk] at g2 g4
        exact N.sep j k xs ys l g1 g2 g3 g4
theorem En.hold {L : List Addr} {H H' : Hp} {σ : L2.St} {d : D} {v : V} (N : En c L H σ δ) (s : Same U H H') (r : OutO X.K U L H H' d v) : ∃ L1, En c L1 H' σ δ ∧ Held c L1 H' σ δ d v ∧ (∀ e u, RepO X.K U c.Lb L H e u → RepO X.K U c.Lb L1 H' e u) ∧ ∀ xs l, d = .own xs → v = .ref l → l ∉ L := by
  cases d with
  | own ds =>
    obtain ⟨l, vs, rfl, h1, h2, h3, h4⟩ := r
    have nl := N.ok.freshN h1
    have hbl : NoA c.Hb l := Same.free N.ok.base h1
    refine ⟨l :: L, ⟨⟨N.ok.base.trans s, fun b h => List.mem_cons_of_mem _ (N.ok.lb b h), fun b h => ?_, fun b h => ?_⟩, N.len, fun j e he => ?_, N.sep⟩, ⟨⟨l, vs, rfl, List.mem_cons_self, fun z => nl (N.ok.lb l z), h2, h3, h4⟩, fun xs l' _ e2 j ys g1 g2 => ?_⟩, fun e u h => h.grow h1 s, fun xs l' _ e2 => ?_⟩
    · rcases List.mem_cons.mp h with z | z
      · rw [z]; exact .inr hbl
      · exact N.ok.new b z
    · rcases List.mem_cons.mp h with z | z
      · rw [z]; exact .lst h2
      · exact (N.ok.lsts b z).mono s
    · obtain ⟨u, e1, e2⟩ := N.rep j e he
      exact ⟨u, e1, e2.grow h1 s⟩
    · cases e2
      obtain ⟨u, f1, l', vs', f2, f3, _⟩ := N.rep j _ g1
      rw [g2] at f1
      cases f1
      cases f2
      exact nl f3
    · cases e2
      exact nl
  | _ => exact ⟨L, N.mono s, ⟨r, fun xs l e => nomatch e⟩, fun e u h => h.mono s, fun xs l e => nomatch e⟩
theorem En.out {L : List Addr} {H H' : Hp} {σ : L2.St} {i : Nat} {d : D} {v : V} (N : En c L H σ δ) (s : Same U H H') (r : OutO X.K U L H H' d v) : ∃ L', En c L' H' (σ.set i (some v)) (δ.set i (some d)) :=
  let ⟨L1, N1, h, _⟩ := N.hold s r; ⟨L1, N1.put h⟩
theorem WS_set (i : Nat) {x : Str} {p : Pos} (h : WO c e δ fun d => E.nx (δ.set i (some d))) (hi : X.N[i]? = some x) (hx : Loc X.env.scope x) (hs : swapsWith e (some (.Name x p)) pos.line X.env = pure false) (hf : X.fn x = true ∨ X.env.scope.names.lookup x = some .local) :
    WS c (.Assign [.Name x p] e pos) δ E := fun L σ H D N C =>
  runS_of (ps_set c.nd hi hx pe_run hs hf) (h L σ H _ N fun v H' d s r k => let ⟨L', N'⟩ := N.out (i := i) s r; C.nx L' _ H' _ N' k)
/-- y = [..] on one line -/
theorem WS_setLc (i : Nat) {y : Str} {py spos : Pos} {elt tg iter : Expr} {ifs : List Expr} {scope : Scope} (own : List (Str × Nat)) (ts : List Nat) {S : List D → Prop} (hi : WJ c tg iter δ (LcTurn c tg ifs elt scope (wipeD δ (own.map (·.2))) ts S))
    (hS : (∀ ds, S ds → E.nx (δ.set i (some (.own ds)))) ∨ ∀ ds, S ds → E.nx (δ.set i (some (.lst ds)))) (ok : BlkOk X.N X.env.scope scope own) (hts : ∀ i ∈ ts, i ∈ own.map (·.2)) (hN : X.N[i]? = some y) (hy : X.env.scope.names.lookup y = some .local)
    (hsw : swapsWith (.ListComp elt [⟨tg, iter, ifs, 0⟩] scope pos) (some (.Name y py)) spos.line X.env = pure true) (hs : ∀ x, foldedSetIterable iter X.env x = pure x := by intro _; rfl) : WS c (.Assign [.Name y py] (.ListComp elt [⟨tg, iter, ifs, 0⟩] scope pos) spos) δ E := fun L σ H D N C =>
  runS_of (ps_setLc (own := own) c.calm c.nd hN hy hsw pi_run ok (fun s H0 C cl fp => ⟨fun pins s1 σ1 H1 v u Q1 I r h => h s H0 C cl fp pins s1 u I r⟩) (fun s H0 C cl fp => ⟨fun pins s1 σ1 H1 Q1 I h => h s H0 C cl fp pins s1 I⟩)
    (fun s H0 C cl fp => ⟨fun pins s1 σ1 H1 Q1 I h => h s H0 C cl fp pins s1 I⟩) hs) (lc_read (Q := fun x H1 => gName i x σ H1 D.nx) hi hts N fun l H' vs ds s hl hl' r z k => by
    rcases hS with hS | hS
    · obtain ⟨L', N'⟩ := N.out (i := i) (d := .own ds) s ⟨l, vs, rfl, hl, hl', r, z⟩
      exact C.nx L' _ H' _ N' (hS ds k)
    · have hL : l ∉ L := N.ok.freshN hl
      obtain ⟨L', N'⟩ := N.out (i := i) (d := .lst ds) (v := .ref l) s ⟨l, vs, rfl, (hide_ne hL).trans hl', Reps.mono (hide_le fun b hb => List.mem_cons_of_mem _ hb) _ _ r, z⟩
      exact C.nx L' _ H' _ N' (hS ds k))
/-- targets of any form -/
theorem WS_asg {tg : Expr} (ts : List Nat) (h : WE c e δ fun d => d.still = true ∧ AG c tg δ d ts E.nx) (hs : swapsWithSole [tg] e pos.line X.env = pure false) (hw : swappedStores [tg] e X.env = pure none) (h1 : (assignEach [tg] X.env).map (·.2) = [assign tg X.env]) :
    WS c (.Assign [tg] e pos) δ E := fun L σ H D N C =>
  runS_of (ps_asg pe_run pg_run hs hw h1) (h L σ H _ N fun v H' d s r ⟨z, k⟩ => k L σ H' v _ (N.mono s) (r.rep z) fun σ' δ' _ N' k' => C.nx L σ' H' δ' N' k')
/-- a, b = x, y -/
theorem WS_par (i j : Nat) {x y : Str} {a b : Expr} {px py pt : Pos} {kt k2 pt2} (h : WO c a δ fun d1 => WO c b δ fun d2 => E.nx ((δ.set i (some d1)).set j (some d2))) (hi : X.N[i]? = some x) (hj : X.N[j]? = some y) (hij : i ≠ j)
    (hx : X.env.scope.names.lookup x = some .local) (hy : X.env.scope.names.lookup y = some .local) (hw : swappedStores [.Tuple [.Name x px, .Name y py] kt pt] (.Tuple [a, b] k2 pt2) X.env = pure (some [x, y]))
    (hs : swapsWithSole [.Tuple [.Name x px, .Name y py] kt pt] (.Tuple [a, b] k2 pt2) pos.line X.env = pure false) (s1 : starEach (a :: [b]) X.env = (false, eval a X.env) :: starEach [b] X.env := by rfl) (s2 : starEach (b :: []) X.env = (false, eval b X.env) :: starEach [] X.env := by rfl) :
    WS c (.Assign [.Tuple [.Name x px, .Name y py] kt pt] (.Tuple [a, b] k2 pt2) pos) δ E := fun L σ H D N C =>
  runS_of (ps_par c.calm c.nd hi hj hij hx hy (pa_cons pe_run (pa_cons pe_run pa_nil s2) s1) hw hs) (by
    refine h L σ H _ N fun v H1 d1 e1 r1 z => ?_
    obtain ⟨L1, N1, hd1, tr1, fr1⟩ := N.hold e1 r1
    refine z L1 σ H1 _ N1 fun u H2 d2 e2 r2 z2 => ?_
    obtain ⟨L2, N2, hd2, tr2, fr2⟩ := N1.hold e2 r2
    refine ⟨v, u, rfl, ?_⟩
    have hd1' : Held c L2 H2 σ δ d1 v := ⟨tr2 _ _ hd1.1, hd1.2⟩
    have N3 := N2.put (i := i) hd1'
    refine C.nx L2 _ H2 _ (N3.put (i := j) ⟨hd2.1, fun xs l ex el k ys g1 g2 => ?_⟩) z2
    by_cases hk : i = k
    · subst hk
      have hil : i < δ.length := by
        by_cases hil : i < δ.length
        · exact hil
        · rw [List.getElem?_eq_none (by simpa using hil)] at g1
          cases g1
      rw [List.getElem?_set_self hil] at g1
      rw [List.getElem?_set_self (by rw [N.len]; exact hil)] at g2
      cases g1
      cases g2
      obtain ⟨l', vs', f2, f3, _⟩ := hd1.1
      cases f2
      exact fr2 xs l ex el f3
    · rw [List.getElem?_set_ne hk] at g1 g2
      exact hd2.2 xs l ex el k ys g1 g2)
end
end Dl

set_option maxRecDepth 100000
set_option maxHeartbeats 1000000
/-! # Own lists changed; loops; calls; defs -/
namespace Dl
open PySem PySem.Spec PyProof.Rows L2
section
variable {X : Cx} {U : Pu} {lv : Nat} {T : XD} {c : Ct X U lv T} {δ : List (Option D)} {E : SE} {e : Expr} {pos : Pos} {st : Stmt} {rest : List Stmt}

/-! ### a list of one's own is changed -/
theorem En.change {L : List Addr} {H : Hp} {σ : L2.St} {i : Nat} {l : Addr} {xs ys : List D} {ws : List V} (N : En c L H σ δ) (hi : δ[i]? = some (some (.own xs))) (hσ : σ[i]? = some (some (.ref l))) (hl : l ∈ L) (hlb : l ∉ c.Lb) (r : Reps X.K U (hide L H) ys ws) (z : ys.length ≤ sizeLine) :
    En c L (upd H l (.lst ws)) σ (δ.set i (some (.own ys))) := by
  have hbl : NoA c.Hb l := (N.ok.new l hl).resolve_left hlb
  have hu : hide L (upd H l (.lst ws)) = hide L H := hide_upd hl
  have hlen : i < δ.length := by
    by_cases q : i < δ.length
    · exact q
    · rw [List.getElem?_eq_none (by simpa using q)] at hi
      cases hi
  refine ⟨⟨?_, N.ok.lb, N.ok.new, fun b h => ?_⟩, by simp [N.len], fun j e he => ?_, fun j k as bs b g1 g2 g3 g4 => ?_⟩
  · exact N.ok.base.set (N.ok.lsts l hl) hbl rfl
  · by_cases q : b = l
    · rw [q]; exact .lst upd_same
    · obtain ⟨o, m, g⟩ := N.ok.lsts b h
      exact ⟨o, m, by rw [upd_ne q]; exact g⟩
  · by_cases hj : i = j
    · subst hj
      rw [List.getElem?_set_self hlen] at he
      cases he
      exact ⟨.ref l, hσ, l, ws, rfl, hl, hlb, upd_same, by rw [hu]; exact r, z⟩
    · rw [List.getElem?_set_ne hj] at he
      obtain ⟨v, h1, h2⟩ := N.rep j e he
      refine ⟨v, h1, ?_⟩
      cases e with
      | own zs =>
        obtain ⟨l', vs', q1, q2, q3, q4, q5, q6⟩ := h2
        have hne : l' ≠ l := fun q => hj (N.sep i j xs zs l hi he hσ (by rw [h1, q1, q]))
        exact ⟨l', vs', q1, q2, q3, by rw [upd_ne hne]; exact q4, by rw [hu]; exact q5, q6⟩
      | _ =>
        show Rep X.K U (hide L (upd H l (.lst ws))) _ v
        rw [hu]
        exact h2
  · have own : ∀ (m : Nat) (zs : List D), (δ.set i (some (.own ys)))[m]? = some (some (.own zs)) → ∃ zs', δ[m]? = some (some (.own zs')) := fun m zs h => by
      by_cases hm : i = m
      · subst hm
        exact ⟨xs, hi⟩
      · rw [List.getElem?_set_ne hm] at h
        exact ⟨zs, h⟩
    obtain ⟨a1, f1⟩ := own j as g1
    obtain ⟨a2, f2⟩ := own k bs g2
    exact N.sep j k a1 a2 b f1 f2 g3 g4
theorem tyL {K : PySem.W.Frag} {H : Hp} {l : Addr} {xs : List V} (h : H l = some (.lst xs)) : tyV K "list" (.ref l) H := .inl ⟨rfl, _, SqL.of h⟩
/-- xs.append(e) -/
theorem WS_append (i : Nat) {x : Str} {xs : List D} {p apos cpos : Pos} (hi : δ[i]? = some (some (.own xs))) (h : WE c e δ fun d => d.still = true ∧ xs.length < sizeLine ∧ E.nx (δ.set i (some (.own (xs ++ [d]))))) (hN : X.N[i]? = some x) (hv : Vis X.env.scope x) (hd : (x == ("__debug__" : Str)) = false) (hcd : (x == ("__classdict__" : Str)) = false)
    (hs : swapsWith (.Call (.Attribute (.Name x p) "append" apos) [e] [] cpos) none pos.line X.env = pure false)
    (hbase : attributeBase (.Name x p) "append" X.env (eval (.Name x p) X.env) = eval (.Name x p) X.env := by rfl) (hfew : ((backTo cpos (starEach [e] X.env)).all (fun x => !x.1) && (backToKw cpos (keywordEach [] X.env)).all (fun x => x.1.isSome) && decide (([e] : List Expr).length + ([] : List Keyword).length + (if ([] : List Keyword).isEmpty then 0 else 1) < 30)) = true := by rfl) (hline : (apos.endLine == cpos.line) = true := by rfl) (he : starEach (e :: []) X.env = (false, eval e X.env) :: starEach [] X.env := by rfl) (hpl : (backTo cpos (starEach [] X.env)).any (·.1) = false := by rfl) :
    WS c (.Expr (.Call (.Attribute (.Name x p) "append" apos) [e] [] cpos) pos) δ E := fun L σ H D N C => by
  obtain ⟨v, hσ, l, vs, rfl, hl, hlb, hH, r, z⟩ := N.rep i _ hi
  refine runS_of (ps_expr (pe_bm PySem.F.plainAttrs_list PySem.F.slot_list_append PySem.F.type_list_append mt_append (pe_var hN hv hd hcd) (pa_cons pe_run pa_nil he) hbase hfew hline he hpl) hs) ?_
  refine ⟨.ref l, hσ, tyL hH, ?_⟩
  refine h L σ H _ N fun w H1 d s1 r1 ⟨st, zz, k⟩ => ?_
  have r' := Reps.mono (hide_same s1.k) _ _ r
  refine ⟨l, vs, w, rfl, rfl, s1.at _ _ hH, by rw [← r.len]; exact zz, ?_⟩
  exact C.nx L σ _ _ ((N.mono s1).change hi hσ hl hlb (r'.app (Reps.one (r1.rep st))) (by rw [List.length_append]; exact zz)) k
/-- xs.extend(e), e a list -/
theorem WS_extend (i : Nat) {x : Str} {xs : List D} {p apos cpos : Pos} (hi : δ[i]? = some (some (.own xs))) (h : WE c e δ fun d => ∃ ys, d = .lst ys ∧ xs.length + ys.length ≤ sizeLine ∧ E.nx (δ.set i (some (.own (xs ++ ys))))) (hN : X.N[i]? = some x) (hv : Vis X.env.scope x) (hd : (x == ("__debug__" : Str)) = false) (hcd : (x == ("__classdict__" : Str)) = false)
    (hs : swapsWith (.Call (.Attribute (.Name x p) "extend" apos) [e] [] cpos) none pos.line X.env = pure false)
    (hbase : attributeBase (.Name x p) "extend" X.env (eval (.Name x p) X.env) = eval (.Name x p) X.env := by rfl) (hfew : ((backTo cpos (starEach [e] X.env)).all (fun x => !x.1) && (backToKw cpos (keywordEach [] X.env)).all (fun x => x.1.isSome) && decide (([e] : List Expr).length + ([] : List Keyword).length + (if ([] : List Keyword).isEmpty then 0 else 1) < 30)) = true := by rfl) (hline : (apos.endLine == cpos.line) = true := by rfl) (he : starEach (e :: []) X.env = (false, eval e X.env) :: starEach [] X.env := by rfl) (hpl : (backTo cpos (starEach [] X.env)).any (·.1) = false := by rfl) :
    WS c (.Expr (.Call (.Attribute (.Name x p) "extend" apos) [e] [] cpos) pos) δ E := fun L σ H D N C => by
  obtain ⟨v, hσ, l, vs, rfl, hl, hlb, hH, r, z⟩ := N.rep i _ hi
  refine runS_of (ps_expr (pe_bm PySem.F.plainAttrs_list PySem.F.slot_list_extend PySem.F.type_list_extend mt_extend (pe_var hN hv hd hcd) (pa_cons pe_run pa_nil he) hbase hfew hline he hpl) hs) ?_
  refine ⟨.ref l, hσ, tyL hH, ?_⟩
  refine h L σ H _ N fun w H1 d s1 r1 ⟨ys, hd, zz, k⟩ => ?_
  subst hd
  obtain ⟨b, ws, rfl, hb, rb, zb⟩ := r1.lst
  have r' := Reps.mono (hide_same s1.k) _ _ r
  refine ⟨l, b, vs, ws, rfl, rfl, s1.at _ _ hH, hb, by rw [← r.len, ← rb.len]; exact zz, ?_⟩
  exact C.nx L σ _ _ ((N.mono s1).change hi hσ hl hlb (r'.app rb) (by rw [List.length_append]; exact zz)) k
/-- xs[k] = e -/
theorem WS_setItem (i : Nat) {x : Str} {xs : List D} {p spos : Pos} {ix : Expr} (hi : δ[i]? = some (some (.own xs))) (h : WE c e δ fun d => d.still = true ∧ WE c ix δ fun y => ∃ (k : Int) (j : Nat), y = .int k ∧ ixN xs.length k = some j ∧ E.nx (δ.set i (some (.own (xs.set j d))))) (hN : X.N[i]? = some x) (hv : Vis X.env.scope x) (hd : (x == ("__debug__" : Str)) = false) (hcd : (x == ("__classdict__" : Str)) = false)
    (ha : ∀ v, assign (.Subscript (.Name x p) ix spos) X.env v = (do
      let ov ← holding [v] (eval (.Name x p) X.env)
      let iv ← holding [v, ov] (eval ix X.env)
      standAt spos
      holding [v, ov, iv] (setItem ov iv v)
      release [v, ov, iv] []) := by intro _; rfl)
    (hs : swapsWithSole [.Subscript (.Name x p) ix spos] e pos.line X.env = pure false := by rfl) (hw : swappedStores [.Subscript (.Name x p) ix spos] e X.env = pure none := by rfl) (h1 : (assignEach [.Subscript (.Name x p) ix spos] X.env).map (·.2) = [assign (.Subscript (.Name x p) ix spos) X.env] := by rfl) :
    WS c (.Assign [.Subscript (.Name x p) ix spos] e pos) δ E := fun L σ H D N C => by
  obtain ⟨v, hσ, l, vs, rfl, hl, hlb, hH, r, z⟩ := N.rep i _ hi
  refine runS_of (ps_asg pe_run (pg_sub (pe_var hN hv hd hcd) pe_run set_list ha) hs hw h1) ?_
  refine h L σ H _ N fun w H1 d s1 r1 ⟨st, k⟩ => ?_
  refine ⟨.ref l, hσ, ?_⟩
  refine k L σ H1 _ (N.mono s1) fun y H2 dy s2 r2 ⟨kk, j, hy, hj, k2⟩ => ?_
  subst hy
  have r' := Reps.mono (hide_same (s1.k.trans s2.k)) _ _ r
  refine ⟨l, vs, kk, j, rfl, r2, s2.at _ _ (s1.at _ _ hH), by rw [← r.len]; exact hj, ?_⟩
  exact C.nx L σ _ _ ((N.mono (s1.trans s2)).change hi hσ hl hlb (r'.set j ((r1.mono s2).rep st)) (by rw [List.length_set]; exact z)) k2
/-- n += e, n -= e -/
theorem WS_augAdd (i : Nat) {x : Str} {n : Int} {p : Pos} (hi : δ[i]? = some (some (.int n))) (h : WE c e δ fun d => ∃ m, d = .int m ∧ E.nx (δ.set i (some (.int (n + m))))) (hN : X.N[i]? = some x) (hx : Loc X.env.scope x) (hf : X.fn x = true ∨ X.env.scope.names.lookup x = some .local) : WS c (.AugAssign (.Name x p) .Add e pos) δ E := fun L σ H D N C => by
  obtain ⟨v, hσ, rv⟩ := N.rep i _ hi
  refine runS_of (ps_aug c.nd hN hx pe_run ip_add hf) ⟨v, hσ, h L σ H _ N fun w H1 d s1 r1 ⟨m, hd, k⟩ => ?_⟩
  subst hd
  exact ⟨n, m, rv, r1, C.nx L _ H1 _ ((N.mono s1).set (d := .int (n + m)) rfl) k⟩
theorem WS_augSub (i : Nat) {x : Str} {n : Int} {p : Pos} (hi : δ[i]? = some (some (.int n))) (h : WE c e δ fun d => ∃ m, d = .int m ∧ E.nx (δ.set i (some (.int (n - m))))) (hN : X.N[i]? = some x) (hx : Loc X.env.scope x) (hf : X.fn x = true ∨ X.env.scope.names.lookup x = some .local) : WS c (.AugAssign (.Name x p) .Sub e pos) δ E := fun L σ H D N C => by
  obtain ⟨v, hσ, rv⟩ := N.rep i _ hi
  refine runS_of (ps_aug c.nd hN hx pe_run ip_sub hf) ⟨v, hσ, h L σ H _ N fun w H1 d s1 r1 ⟨m, hd, k⟩ => ?_⟩
  subst hd
  exact ⟨n, m, rv, r1, C.nx L _ H1 _ ((N.mono s1).set (d := .int (n - m)) rfl) k⟩

/-! ### loops -/
theorem WS_while {t : Expr} {body : List Stmt} (I : Nat → List (Option D) → Prop) (m0 : Nat) (h0 : I m0 δ)
    (hs : ∀ m δ', I m δ' → WT c t δ' fun b => if b = true then WSs c body δ' { E with nx := fun δ2 => ∃ m', m' < m ∧ I m' δ2, ct := fun δ2 => ∃ m', m' < m ∧ I m' δ2, bk := E.nx } else E.nx δ') : WS c (.While t body [] pos) δ E := fun L σ H D N C => by
  refine runS_of (ps_while c.own pt_run pss_run) ⟨fun m σ' H' => ∃ L' δ', En c L' H' σ' δ' ∧ I m δ', ⟨m0, L, δ, N, h0⟩, ?_⟩
  rintro m σ' H' ⟨L', δ', N', i'⟩
  refine hs m δ' i' L' σ' H' _ N' fun b H1 s1 z => ?_
  cases b with
  | true =>
    rw [if_pos rfl] at z ⊢
    refine ⟨fun σ2 H2 => ∃ m', m' < m ∧ ∃ L2 δ2, En c L2 H2 σ2 δ2 ∧ I m' δ2, fun σ2 H2 h => h, ?_⟩
    exact z L' σ' H1 _ (N'.mono s1) ⟨fun L2 σ2 H2 δ2 N2 ⟨m', h1, h2⟩ => ⟨m', h1, L2, δ2, N2, h2⟩, C.rt, C.nx, fun L2 σ2 H2 δ2 N2 ⟨m', h1, h2⟩ => ⟨m', h1, L2, δ2, N2, h2⟩⟩
  | false =>
    rw [if_neg Bool.false_ne_true] at z ⊢
    exact C.nx L' σ' H1 δ' (N'.mono s1) z
/-- the context within a loop: what stands at its start stays -/
def Ct.at_ (c : Ct X U lv T) (B : Hp) (hs : Same U c.Hb B) : Ct X U lv T where
  Hb := B
  Lb := c.Lb
  g := hs.g c.g
  calm := c.calm
  nd := c.nd
  room := c.room
  own := c.own
  tk := c.tk.imp fun cls od σ H ⟨s, fl, r, t⟩ => ⟨hs.trans s, fl, r, t⟩
def baseOf (c : Ct X U lv T) (L : List Addr) (H : Hp) : Hp := fun b => if b ∈ L ∧ b ∉ c.Lb then none else H b
theorem baseOf_hide {L : List Addr} {H : Hp} : baseOf c L H = hide (L.filter fun l => !decide (l ∈ c.Lb)) H := by
  funext b
  unfold baseOf hide
  by_cases h : b ∈ L ∧ b ∉ c.Lb
  · rw [if_pos h, if_pos (List.mem_filter.mpr ⟨h.1, by simpa using h.2⟩)]
  · rw [if_neg h, if_neg (fun z => h ⟨(List.mem_filter.mp z).1, by simpa using (List.mem_filter.mp z).2⟩)]
theorem baseOf_same {L : List Addr} {H : Hp} (k : Ok c L H) : Same U c.Hb (baseOf c L H) := by
  refine ⟨fun b o h n => ?_, fun z => ?_⟩
  · unfold baseOf
    rw [if_neg]
    · exact k.base.at b o h n
    · rintro ⟨h1, h2⟩
      rcases k.new b h1 with z | z
      · exact h2 z
      · exact absurd rfl (z.ne h n)
  · rw [baseOf_hide]
    exact U.gh _ _ (fun l hl => k.lsts l (List.mem_filter.mp hl).1) (k.base.g z)
theorem baseOf_ext {L : List Addr} {H : Hp} : Ext (baseOf c L H) H := fun b o h => by
  unfold baseOf at h
  split at h
  · cases h
  · exact h
theorem En.rebase {L : List Addr} {H : Hp} {σ : L2.St} (N : En c L H σ δ) : En (c.at_ (baseOf c L H) (baseOf_same N.ok)) L H σ δ :=
  ⟨⟨baseOf_ext.s, N.ok.lb, fun l h => by
    by_cases q : l ∈ c.Lb
    · exact .inl q
    · right
      refine .of (show baseOf c L H l = none from ?_)
      unfold baseOf
      rw [if_pos ⟨h, q⟩], N.ok.lsts⟩, N.len, N.rep, N.sep⟩
theorem En.unbase {B : Hp} {hs : Same U c.Hb B} {L : List Addr} {H : Hp} {σ : L2.St} (N : En (c.at_ B hs) L H σ δ) : En c L H σ δ :=
  ⟨⟨hs.trans N.ok.base, N.ok.lb, fun l h => by
    rcases N.ok.new l h with z | z
    · exact .inl z
    · exact .inr (Same.free hs z), N.ok.lsts⟩, N.len, N.rep, N.sep⟩
theorem base_hide {L L' : List Addr} {H H' : Hp} {hs : Same U c.Hb (baseOf c L H)} (k0 : Ok c L H) (k : Ok (c.at_ (baseOf c L H) hs) L' H') : SameK (hide L H) (hide L' H') := fun b o h n => by
  obtain ⟨h1, h2⟩ := hide_at h
  have hb : baseOf c L H b = some o := by
    unfold baseOf
    rw [if_neg (fun z => h1 z.1)]
    exact h2
  have h3 : b ∉ L' := fun z => by
    rcases k.new b z with q | q
    · exact h1 (k0.lb b q)
    · exact absurd rfl (NoA.ne (H := baseOf c L H) q hb n)
  rw [hide_ne h3]
  exact k.base.at b o hb n
theorem WS_for {tg iter : Expr} {body : List Stmt} (ts : List Nat)
    (h : WI c tg iter δ fun ds => ∃ I : Nat → List (Option D) → Prop, I 0 δ ∧ (∀ (i : Nat) (d : D) (δ' : List (Option D)), ds[i]? = some d → d.still = true → I i δ' → ∀ (B : Hp) (hs : Same U c.Hb B), AG (c.at_ B hs) tg δ' d ts fun δ2 => WSs (c.at_ B hs) body δ2 { E with nx := I (i + 1), ct := I (i + 1), bk := E.nx }) ∧ ∀ δ', I ds.length δ' → E.nx δ')
    (hs : ∀ x, foldedSetIterable iter X.env x = pure x := by intro _; rfl) : WS c (.For tg iter body [] pos) δ E := fun L σ H D N C => by
  refine runS_of (ps_for c.own c.calm pi_run pg_run pss_run hs) ?_
  refine h L σ H _ N fun J H1 ds s1 w ⟨I, i0, step, fin⟩ => ?_
  have N1 := N.mono s1
  have hB := baseOf_same N1.ok
  refine ⟨fun i m σ' H' => m = ds.length - i ∧ i ≤ ds.length ∧ ∃ L' δ', En (c.at_ (baseOf c L H1) hB) L' H' σ' δ' ∧ I i δ', ⟨ds.length, by simp, Nat.zero_le _, L, δ, N1.rebase, i0⟩, ?_⟩
  rintro i m σ' H' ⟨rfl, hi, L', δ', N', i'⟩
  have hh := base_hide N1.ok N'.ok
  have hB2 : SameK (hide L H1) H' := hh.trans hide_ext.k
  by_cases hlt : i < ds.length
  · refine .inr ⟨w.go i H' hB2 hlt, fun σ2 H2 => i + 1 ≤ ds.length ∧ ∃ L2 δ2, En (c.at_ (baseOf c L H1) hB) L2 H2 σ2 δ2 ∧ I (i + 1) δ2, fun σ2 H2 h2 => ⟨ds.length - (i + 1), by omega, rfl, h2⟩, fun x H3 y => ?_⟩
    obtain ⟨s3, d, hd1, hst, hrep⟩ := w.yld i x H' H3 hB2 hlt y
    have hrep := hrep L' N'.ok.lsts hh
    refine step i d δ' hd1 hst i' _ hB L' σ' H3 x _ (N'.mono s3.s) hrep fun σ2 δ2 _ N2 k2 => ?_
    have next : ∀ L2 σ2 H2 δ2, En (c.at_ (baseOf c L H1) hB) L2 H2 σ2 δ2 → I (i + 1) δ2 → i + 1 ≤ ds.length ∧ ∃ L2 δ2, En (c.at_ (baseOf c L H1) hB) L2 H2 σ2 δ2 ∧ I (i + 1) δ2 := fun L2 σ2 H2 δ2 N2 h2 => ⟨by omega, L2, δ2, N2, h2⟩
    exact k2 L' σ2 H3 _ N2 ⟨next, fun v H4 d s r k => C.rt v H4 d (hB.trans s) r k, fun L2 σ2 H2 δ2 N2 k => C.nx L2 σ2 H2 δ2 N2.unbase k, next⟩
  · have e : i = ds.length := by omega
    subst e
    exact .inl ⟨w.stop H' hB2, C.nx L' σ' H' δ' N'.unbase (fin δ' i')⟩

/-! ### calls of defs -/
abbrev DSpec := List D → (D → Prop) → XD → Prop
def spD (K : PySem.W.Frag) (U : Pu) (n : Nat) (sp : DSpec) : Sp := fun vs H Q E => ∃ (L : List Addr) (ds : List D) (S : D → Prop) (T : XD), (ds.length = n ∧ U.G H) ∧ (∀ l ∈ L, MutAt H l) ∧ Reps K U (hide L H) ds vs ∧ sp ds S T ∧
  (∀ v H' d, Same U H H' → Rep K U (hide L H') d v → S d → Q v H') ∧ ∀ cls od fl H', Same U H H' → RepX K U (hide L H') od fl → T cls fl → E cls od H'
structure Fn (P : Program) (w : World) (K : PySem.W.Frag) (mg : Str → Option Value) (base : Heap) (U : Pu) (k : Nat) (x : Str) (n : Nat) (sp : DSpec) : Prop where
  ex : ∃ (f : Addr) (fd : FuncData) (ps : List Str), mg x = some (.ref f) ∧ PySem.W.keepIn K (.ref f) = true ∧ Binds K fd ps [] ∧ FnOk P w K mg base (L2.CX P w) k f fd ps (spD K U n sp)
theorem Fn.mono {P : Program} {w : World} {K : PySem.W.Frag} {mg : Str → Option Value} {base : Heap} {k k' : Nat} {x : Str} {n : Nat} {sp : DSpec} (F : Fn P w K mg base U k x n sp) (h : k ≤ k') : Fn P w K mg base U k' x n sp := by
  obtain ⟨f, fd, ps, h1, h2, h3, h4⟩ := F.ex
  exact ⟨f, fd, ps, h1, h2, h3, h4.mono h⟩
theorem WE_call {x : Str} {n k : Nat} {sp : DSpec} {es : List Expr} {p : Pos} (F : Fn X.prog X.w X.K X.mg X.base U k x n sp) (h : WA c (e :: es) δ fun ds => ds.length = n ∧ stills ds = true ∧ sp ds S T) (hk : k ≤ lv) (hg : Gl X x) (hd : (x == ("__debug__" : Str)) = false)
    (he : starEach (e :: es) X.env = (false, eval e X.env) :: starEach es X.env) (hpl : (backTo pos (starEach es X.env)).any (·.1) = false) : WE c (.Call (.Name x p) (e :: es) [] pos) δ S := fun L σ H Q N q => by
  obtain ⟨f, fd, ps, h1, h2, h3, h4⟩ := F.ex
  refine runE_of (pe_callS h4 (c.room.mono hk) hg h1 h2 h3 (fun σ => passAt c.tk σ) pa_run hd he hpl) (h L σ H _ N fun vs H1 ds s1 r1 ⟨hn, st, hsp⟩ => ?_)
  refine ⟨L, ds, S, T, ⟨hn, (N.ok.base.trans s1).g c.g⟩, (N.ok.mono s1).lsts, r1.reps st, hsp, fun v H' d s r k => q v H' d (s1.trans s) (.of_rep r) k, fun cls od fl H' s r t => ⟨(N.ok.base.trans s1).trans s, fl, RepX.mono (hide_le N.ok.lb) r, t⟩⟩

/-! ### a def -/
def startD (N : List Str) (ds : List D) : List (Option D) := ds.map some ++ List.replicate (N.length - ds.length) none
theorem start_en {N : List Str} {ds : List D} {vs : List V} {L : List Addr} {H : Hp} (ok : Ok c L H) (r : Reps X.K U (hide L H) ds vs) : En c L H (L2.start N vs) (startD N ds) := by
  have hl := r.len
  refine ⟨ok, by simp [L2.start, startD, hl], fun i d h => ?_, fun i j xs ys l h => ?_⟩
  · unfold startD at h
    by_cases hi : i < ds.length
    · rw [List.getElem?_append_left (by simpa using hi), List.getElem?_map] at h
      cases g : ds[i]? with
      | none => rw [g] at h; cases h
      | some d' =>
        rw [g] at h
        cases h
        obtain ⟨v, h1, h2⟩ := r.get g
        refine ⟨v, ?_, .of_rep h2⟩
        unfold L2.start
        rw [List.getElem?_append_left (by simp; omega), List.getElem?_map, h1]
        rfl
    · rw [List.getElem?_append_right (by simpa using hi), List.getElem?_replicate] at h
      split at h <;> cases h
  · unfold startD at h
    by_cases hi : i < ds.length
    · rw [List.getElem?_append_left (by simpa using hi), List.getElem?_map] at h
      cases g : ds[i]? with
      | none => rw [g] at h; cases h
      | some d' =>
        rw [g] at h
        cases h
        obtain ⟨v, h1, h2⟩ := r.get g
        exact False.elim h2
    · rw [List.getElem?_append_right (by simpa using hi), List.getElem?_replicate] at h
      split at h <;> cases h
end
section
variable {P : Program} {w : World} {K : PySem.W.Frag} {mg : Str → Option Value} {base : Heap} {U : Pu}
theorem fnD {x qual : Str} {st : Stmt} {f : Addr} {fd : FuncData} {N ps : List Str} {n k : Nat} {sp : DSpec} (F : Fun K x qual st f fd) (Sc : FnScope N ps (defScope st)) (hn : ps.length = n)
    (body : ∀ (cdv : Value) (A : Around) (outer : List Env) (s : Shared) (H : Hp) (E : XK) (T : XD) (c : Ct (cxOf (L2.CX P w) P w K mg base N qual (defScope st) f cdv A outer s H E) U k T) (ds : List D) (S : D → Prop), ds.length = n → sp ds S T →
      WSs c (defBody st) (startD N ds) { nx := fun _ => S .non, rt := S }) : FnOk P w K mg base (L2.CX P w) (k + 1) f fd ps (spD K U n sp) := by
  refine F.okX Sc (fun vs H Q E h => ?_) (fun cdv A outer s H vs Q E hr h => ?_)
  · obtain ⟨L, ds, S, T, ⟨h1, _⟩, _, h2, _⟩ := h
    rw [← h2.len, h1, hn]
  · obtain ⟨L, ds, S, T, ⟨h1, hG⟩, hl, h2, h3, q1, q2⟩ := h
    let c : Ct (cxOf (L2.CX P w) P w K mg base N qual (defScope st) f cdv A outer s H E) U k T :=
      { Hb := H, Lb := L, g := hG, calm := rfl, nd := Sc.nd, room := hr, own := passes_of rfl, tk := (takes_of (E := E) rfl rfl rfl rfl).imp fun cls od σ H' ⟨s1, fl, r, t⟩ => q2 cls od fl H' s1 r t }
    have ok : Ok c L H := ⟨Same.refl H, fun l h => h, fun l h => .inl h, hl⟩
    refine ⟨_, pss_run, ?_⟩
    refine body cdv A outer s H E T c ds S h1 h3 L (L2.start N vs) H _ (start_en ok h2) ⟨fun L' σ' H' δ' N' k => ?_, fun v H' d s r k => q1 v H' d s r k, fun L' σ' H' δ' N' k => k.elim, fun L' σ' H' δ' N' k => k.elim⟩
    exact q1 .non H' .non N'.ok.base rfl k
theorem fn_mk {x qual : Str} {st : Stmt} {f : Addr} {fd : FuncData} {N ps : List Str} {n k : Nat} {sp : DSpec} (F : Fun K x qual st f fd) (hg : mg x = some (.ref f)) (hb : Binds K fd ps []) (h : FnOk P w K mg base (L2.CX P w) (k + 1) f fd ps (spD K U n sp)) : Fn P w K mg base U (k + 1) x n sp :=
  ⟨f, fd, ps, hg, F.kp, hb, h⟩
end
end Dl

set_option maxRecDepth 100000
set_option maxHeartbeats 4000000
/-! # tuple * int; slices; objects; raises -/
namespace Dl
open PySem PySem.Spec PyProof.Rows L2
open AutoSeq1 (wpAny_loadPart')

/-! ### tuple * int where nothing or the tuple itself comes back -/
theorem tupOnce (l : Addr) (its : Array Value) (n : Nat) (dd : Option Addr) (sl : Array (Option Value)) (x : Int) (u : Tok) (b0 : (decide (x < -(2 ^ 63)) || decide (x ≥ 2 ^ 63)) = false) (b1 : (its.isEmpty || x == 1) = true) :
    Meets (Builtin.«tuple.__mul__» ⟨[.ref l, .int x u], []⟩) (fun _ R s => s.heap.get? l = some { cls := .type "tuple", dict := dd, data := .seq its n, slots := sl } ∧ R (.ok (.ret (Value.ref l))) s) :=
  .of_wp fun prog w A R s h => by
    obtain ⟨hp, g, d, tk, os⟩ := s
    obtain ⟨hl, h⟩ := h
    have j1 := AutoSeq1.idx_int
    wp_walk using wpAny_loadPart' hl
    repeat (first
      | (refine wpAny_ite_false (decide_eq_false (by rw [b0]; exact Bool.false_ne_true)) ?_; wp_walk using wpAny_loadPart' hl)
      | (refine wpAny_ite_true (decide_eq_true b1) ?_; wp_walk using wpAny_loadPart' hl))
    exact ⟨_, rfl, h⟩
theorem tupNone (l : Addr) (its : Array Value) (n : Nat) (dd : Option Addr) (sl : Array (Option Value)) (x : Int) (u : Tok) (b0 : (decide (x < -(2 ^ 63)) || decide (x ≥ 2 ^ 63)) = false) (b1 : (its.isEmpty || x == 1) = false) (b2 : (decide (x ≤ 0) || its.isEmpty) = true) :
    Meets (Builtin.«tuple.__mul__» ⟨[.ref l, .int x u], []⟩) (fun _ R s => s.heap.get? l = some { cls := .type "tuple", dict := dd, data := .seq its n, slots := sl } ∧
      R (.ok (.ret (Value.ref s.heap.objs.size))) { s with heap := s.heap.push { cls := Value.type "tuple", data := Data.seq #[] }, toks := s.toks }) :=
  .of_wp fun prog w A R s h => by
    obtain ⟨hp, g, d, tk, os⟩ := s
    obtain ⟨hl, h⟩ := h
    have j1 := AutoSeq1.idx_int
    wp_walk using wpAny_loadPart' hl
    repeat (first
      | (refine wpAny_ite_false (decide_eq_false (by rw [b0]; exact Bool.false_ne_true)) ?_; wp_walk using wpAny_loadPart' hl)
      | (refine wpAny_ite_false (decide_eq_false (by rw [b1]; exact Bool.false_ne_true)) ?_; wp_walk using wpAny_loadPart' hl)
      | (refine wpAny_ite_true (decide_eq_true b2) ?_; wp_walk using wpAny_loadPart' hl))
    exact ⟨_, rfl, h⟩

/-- tuple * int: any number up to 1000 -/
def rMulT (K : PySem.W.Frag) : R2 := fun x y H Q => ∃ l k xs, x = .ref l ∧ y = .int k ∧ SqT K H l xs ∧ -1000 ≤ k ∧ k ≤ 1000 ∧ xs.length ≤ 1000 ∧ ((k = 1 ∨ xs = []) → Q (.ref l) H) ∧ (k ≠ 1 → xs ≠ [] → ∀ p, H p = none → Q (.ref p) (upd H p (.tup (List.replicate k.toNat xs).flatten)))
theorem op_mulT {X : Cx} : OpR X (binaryOp .Mult) (rMulT X.K) := by
  intro pins s σ H x y v u Q I rx ry h
  obtain ⟨l, k, xs, rfl, rfl, hT, h0, h1, hz, q1, q2⟩ := h
  by_cases h2 : 2 ≤ k ∧ xs ≠ []
  · exact op_repT pins s σ H _ _ v u Q I rx ry ⟨l, k, xs, rfl, rfl, hT, h2.2, h2.1, h1, hz, q2 (by omega) h2.2⟩
  · cases rx
    obtain ⟨t, rfl⟩ := ry
    obtain ⟨its, r, ⟨⟨cls, dd, data, sl⟩, ho, hc, n, hd⟩, hs⟩ := I.tuple hT
    simp only at hc hd
    subst hc hd
    have b0 : (decide (k < -(2 ^ 63)) || decide (k ≥ 2 ^ 63)) = false := by
      rw [decide_eq_false (by omega), decide_eq_false (by omega)] <;> rfl
    by_cases h3 : k = 1 ∨ xs = []
    · have b1 : (its.toArray.isEmpty || k == 1) = true := by
        rcases h3 with e | e
        · rw [e]; simp
        · subst e
          cases r
          rfl
      refine wpAny_binaryOp_repeat_ref (T := "tuple") (U := "int") (by decide) ⟨_, ho, rfl⟩ (fun s' => typeIs_int s' k t) noFill_tuple_mul F.fills_int_mul F.slot_int_rmul repeat_tuple F.slot_int_index.lookup
        (call_meets F.slot_int_rmul (typeIs_int s k t) F.entry_int_rmul (F.args_int_rmul_2 _ _) (int_rmul_tuple k t l its.toArray n dd sl)
          ⟨ho, rfl, ⟨_, ho, rfl⟩, call_meets F.slot_tuple_mul ⟨_, ho, rfl⟩ F.entry_tuple_mul (F.args_tuple_mul_2 _ _) (tupOnce l its.toArray n dd sl k t b0 b1) ⟨ho, ?_⟩⟩)
      exact ⟨.ref l, H, I, rfl, q1 h3⟩
    · have hk : k ≤ 0 := by
        by_cases hk : k ≤ 0
        · exact hk
        · exact (h2 ⟨by omega, fun e => h3 (.inr e)⟩).elim
      have hx : xs ≠ [] := fun e => h3 (.inr e)
      have hi : its.toArray.isEmpty = false := by
        cases r with
        | nil => exact absurd rfl hx
        | cons _ _ => rfl
      have b1 : (its.toArray.isEmpty || k == 1) = false := by
        rw [hi, Bool.false_or]
        exact beq_eq_false_iff_ne.mpr (by omega)
      have b2 : (decide (k ≤ 0) || its.toArray.isEmpty) = true := by
        rw [decide_eq_true hk] <;> rfl
      refine wpAny_binaryOp_repeat_ref (T := "tuple") (U := "int") (by decide) ⟨_, ho, rfl⟩ (fun s' => typeIs_int s' k t) noFill_tuple_mul F.fills_int_mul F.slot_int_rmul repeat_tuple F.slot_int_index.lookup
        (call_meets F.slot_int_rmul (typeIs_int s k t) F.entry_int_rmul (F.args_int_rmul_2 _ _) (int_rmul_tuple k t l its.toArray n dd sl)
          ⟨ho, rfl, ⟨_, ho, rfl⟩, call_meets F.slot_tuple_mul ⟨_, ho, rfl⟩ F.entry_tuple_mul (F.args_tuple_mul_2 _ _) (tupNone l its.toArray n dd sl k t b0 b1 b2) ⟨ho, ?_⟩⟩)
      have hp : H s.heap.objs.size = none := I.hok.fresh (Nat.le_refl _)
      have e0 : (List.replicate k.toNat xs).flatten = [] := by
        rw [show k.toNat = 0 by omega]
        rfl
      have q := q2 (by omega) hx s.heap.objs.size hp
      rw [e0] at q
      refine ⟨.ref s.heap.objs.size, upd H s.heap.objs.size (.tup []), I.laid (t' := s.toks) (fun b o e => Heap.get?_push_of_some _ e) (Nat.le_refl _) ?_, rfl, q⟩
      exact ⟨Nat.zero_le _, [], .nil, ⟨_, Heap.get?_push_size _ rfl, rfl, _, rfl⟩⟩
section
variable {X : Cx} {U : Pu} {lv : Nat} {T : XD} {c : Ct X U lv T} {δ : List (Option D)} {S : D → Prop} {e : Expr} {pos : Pos}
theorem OD_mul_tup {xs : List D} {n : Int} (h0 : -1000 ≤ n) (h1 : n ≤ 1000) (hz : xs.length ≤ 1000) (h : S (.tup (List.replicate n.toNat xs).flatten)) : OD c (binaryOp .Mult) (.tup xs) (.int n) S := od_of op_mulT fun L H vx vy Q k rx ry q => by
  obtain ⟨a, vs, rfl, ha, ra, za⟩ := rx.tup
  refine ⟨a, n, vs, rfl, ry, ha, h0, h1, by rw [← ra.len]; exact hz, fun z => ?_, fun _ _ p hp => ?_⟩
  · have e : (List.replicate n.toNat xs).flatten = xs := by
      rcases z with z | z
      · subst z
        simp
      · have : xs = [] := List.eq_nil_of_length_eq_zero (by rw [ra.len, z]; rfl)
        subst this
        simp
    rw [e] at h
    exact q _ H (.tup xs) (Same.refl H) rx h
  · refine q _ _ (.tup _) (same_new hp) (k.tupNew (ra.flat _) ?_ hp) h
    rw [flat_len, sizeLine_eq]
    have : xs.length * n.toNat ≤ 1000 * 1000 := Nat.mul_le_mul hz (by omega)
    omega

/-! ### slices -/
def slRun (X : Cx) : V → Option Int → Option Int → Hp → VK → Prop := fun x lo hi H Q => ∀ (pins : List (Addr × Obj)) (s : Shared) (σ : L2.St) (v vl vu : Value) (sl : Addr), Inv X pins σ H s → RelV x v → s.heap.IsSliceOf sl vl vu .none → IsPart vl lo → IsPart vu hi →
  ∃ T id, typeLookup (.type T) "__getitem__" = pure (some (.builtin id)) ∧ s.TypeIs v T ∧ wpAny (model X.prog X.w) X.A (getItem v (.ref sl)) (EP X pins σ Q) X.xe s
def runO (X : Cx) (e : Option Expr) : TO := fun σ H Q => ∀ (pins : List (Addr × Obj)) (s : Shared), Inv X pins σ H s → wpAny (model X.prog X.w) X.A (evalPart e X.env) (fun u s' => ∃ o H', Inv X pins σ H' s' ∧ IsPart u o ∧ Q o H') X.xe s
theorem slR_run : SlR X (slRun X) := fun pins s σ _ _ v vl vu _ _ sl _ I rx hs pl pu h => h pins s σ v vl vu sl I rx hs pl pu
theorem po_run {o : Option Expr} : PO X o (runO X o) := ⟨fun pins s _ _ _ I h => h pins s I⟩
def WP (c : Ct X U lv T) (o : Option Expr) (δ : List (Option D)) (S : Option Int → Prop) : Prop := ∀ (L : List Addr) (σ : L2.St) (H : Hp) (Q : Option Int → Hp → Prop), En c L H σ δ → (∀ i H', Same U H H' → S i → Q i H') → runO X o σ H Q
theorem WP_none {S : Option Int → Prop} (h : S none) : WP c none δ S := fun L σ H Q E q pins s I => po_none.run pins s σ H Q I (q none H (Same.refl H) h)
theorem WP_some {S : Option Int → Prop} (h : WE c e δ fun d => ∃ i, d = .int i ∧ S (some i)) : WP c (some e) δ S := fun L σ H Q E q pins s I => (po_some pe_run).run pins s σ H Q I (h L σ H _ E fun v H1 d s1 r1 ⟨i, hd, z⟩ => by
  subst hd
  exact ⟨i, r1, q _ H1 s1 z⟩)
def SD (c : Ct X U lv T) (x : D) (lo hi : Option Int) (S : D → Prop) : Prop := ∀ (L : List Addr) (H : Hp) (vx : V) (Q : VK), Ok c L H → RepO X.K U c.Lb L H x vx → (∀ v H' d, Same U H H' → RepO X.K U c.Lb L H' d v → S d → Q v H') → slRun X vx lo hi H Q
theorem WE_sl {lo hi : Option Expr} {p2 : Pos} (h : WE c e δ fun x => WP c lo δ fun i => WP c hi δ fun j => SD c x i j S) : WE c (.Subscript e (.Slice lo hi none p2) pos) δ S := fun L σ H Q E q =>
  runE_of (pe_slice slR_run pe_run po_run po_run) (h L σ H _ E fun v H1 d s1 r1 z => z L σ H1 _ (E.mono s1) fun i H2 s2 z2 => z2 L σ H2 _ (E.mono (s1.trans s2)) fun j H3 s3 z3 =>
    z3 L H3 v Q (E.ok.mono ((s1.trans s2).trans s3)) ((r1.mono s2).mono s3) fun w H4 d4 s4 r4 z4 => q w H4 d4 (((s1.trans s2).trans s3).trans s4) r4 z4)
def cutD (xs : List D) (lo hi : Option Int) : List D := (xs.drop (HT.sIx xs.length 0 lo)).take (HT.sIx xs.length xs.length hi - HT.sIx xs.length 0 lo)
theorem cut_rep {K : PySem.W.Frag} {H : Hp} {xs : List D} {vs : List V} (r : Reps K U H xs vs) (lo hi : Option Int) : Reps K U H (cutD xs lo hi) (cutV vs lo hi) := by
  unfold cutD cutV
  rw [← r.len]
  exact Reps.take _ (Reps.drop _ r)
theorem cut_len (xs : List D) (lo hi : Option Int) : (cutD xs lo hi).length ≤ xs.length := by
  unfold cutD
  rw [List.length_take, List.length_drop]
  omega
theorem sd_of {r : V → Option Int → Option Int → Hp → VK → Prop} {x : D} {lo hi : Option Int} (ho : SlR X r) (h : ∀ (L : List Addr) (H : Hp) (vx : V) (Q : VK), Ok c L H → RepO X.K U c.Lb L H x vx → (∀ v H' d, Same U H H' → RepO X.K U c.Lb L H' d v → S d → Q v H') → r vx lo hi H Q) : SD c x lo hi S :=
  fun L H vx Q k rx q pins s σ v vl vu sl I hx hs pl pu => ho pins s σ H vx v vl vu lo hi sl Q I hx hs pl pu (h L H vx Q k rx q)
theorem SD_tup {xs : List D} {lo hi : Option Int} (h : S (.tup (cutD xs lo hi))) : SD c (.tup xs) lo hi S := sd_of sl_tupA fun L H vx Q k rx q => by
  obtain ⟨a, vs, rfl, ha, ra, za⟩ := rx.tup
  refine ⟨a, vs, rfl, ha, fun z => ?_, fun _ p hp => ?_⟩
  · have e : cutD xs lo hi = xs := by
      unfold cutD
      rw [ra.len, z.1, z.2, List.drop_zero, Nat.sub_zero, ← ra.len, List.take_length]
    rw [e] at h
    exact q _ H (.tup xs) (Same.refl H) rx h
  · exact q _ _ (.tup _) (same_new hp) (k.tupNew (cut_rep ra lo hi) (Nat.le_trans (cut_len xs lo hi) za) hp) h
theorem SD_lst {x : D} {xs : List D} {lo hi : Option Int} (sx : IsL x xs) (h : S (.lst (cutD xs lo hi))) : SD c x lo hi S := sd_of sl_list fun L H vx Q k rx q => by
  obtain ⟨a, vs, rfl, ha, ra, za⟩ := sx.rep rx
  exact ⟨a, vs, rfl, SqL.of ha, fun p hp => q _ _ (.lst _) (same_new hp) (k.lstNew (cut_rep ra lo hi) (Nat.le_trans (cut_len xs lo hi) za) hp) h⟩

/-! ### objects -/
/-- what isinstance asks of an own class -/
structure ObT (K : PySem.W.Frag) (C : Addr) : Prop where
  cl : Cls K C
  ha : PySem.W.findIn K (.ref C) "__class__" = some (some (.builtin "object.__class__"))
  hn : PySem.W.specialIn K (.builtin "object.__class__") "__get__" = some (some (.builtin "getset_descriptor.__get__"))
  ht : PySem.W.takesIn K (.builtin "object.__class__") = some true
  hm : PySem.W.mroIn K C (.type "object") = some true
theorem CD_isiO {C : Addr} {ns : List Str} {ds : List D} {cl : V} {cv : Value} {b : Bool} (o : ObT X.K C) (k : ClsV cl cv) (k1 : PySem.W.kitOne X.K (.ref C) cv = some b) (h : S (.bl b)) : CD c (.builtin "isinstance") [.obj C ns ds, .any cl] S := cd_of call_isi fun L H vs Q kk r q => by
  obtain ⟨v, u, rfl, rx, ry⟩ := r.two
  obtain ⟨a, dx, ws, rfl, ha, hd, _⟩ := rx
  exact ⟨.ref a, cl, .ref C, cv, b, by rw [show u = _ from ry], k, .base (.ins (hide_at ha).2 o.cl o.ha o.hn o.ht o.hm), k1, q _ H (.bl b) (Same.refl H) rfl h⟩
theorem CD_isiC {x : D} {t : String} {C : Addr} {b : Bool} (e : x.ty = some t) (k1 : PySem.W.kitOne X.K (.type t) (.ref C) = some b) (h : S (.bl b)) : CD c (.builtin "isinstance") [x, .any (.ref C)] S := cd_of call_isi fun L H vs Q k r q => by
  obtain ⟨v, u, rfl, rx, ry⟩ := r.two
  exact ⟨v, .ref C, .type t, .ref C, b, by rw [show u = _ from ry], .own C, tyx_of e rx, k1, q _ H (.bl b) (Same.refl H) rfl h⟩
/-- a method of the class at C -/
structure Mt (P : Program) (w : World) (K : PySem.W.Frag) (mg : Str → Option Value) (base : Heap) (U : Pu) (k : Nat) (C : Addr) (m : Str) (n : Nat) (sp : DSpec) : Prop where
  ex : ∃ (f : Addr) (fd : FuncData) (ps : List Str), PySem.W.findIn K (.ref C) m = some (some (.ref f)) ∧ PySem.W.isFn K (.ref f) = true ∧ PySem.W.keepIn K (.ref f) = true ∧ Binds K fd ps [] ∧ FnOk P w K mg base (L2.CX P w) k f fd ps (spD K U n sp)
/-- x == y, x an object whose class tells == -/
theorem OD_eqO {C : Addr} {ns : List Str} {ds : List D} {y : D} {k : Nat} {sp : DSpec} (M : Mt X.prog X.w X.K X.mg X.base U k C "__eq__" 2 sp) (hk : k ≤ lv) (o : Cls X.K C) (tb : Value) (hs : y.still = true)
    (ht : ∀ (L : List Addr) (H : Hp) (pins : List (Addr × Obj)) (s : Shared) (σ : L2.St) (v : V) (u : Value), Inv X pins σ H s → RepO X.K U c.Lb L H y v → RelV v u → PySem.W.Looks (model X.prog X.w) s.heap (typeOf u) tb) (hn : PySem.W.notFirst X.K C tb = true)
    (h : sp [.obj C ns ds, y] (fun d => ∃ b, d = .bl b ∧ S (.bl b)) T) : OD c (compareOp .Eq) (.obj C ns ds) y S := fun L H vx vy Q kk rx ry q pins s σ v u I hx hy => by
  obtain ⟨f, fd, ps, h1, h2, h3, h4, F⟩ := M.ex
  have rx0 := rx
  obtain ⟨a, dx, ws, rfl, ha, hd, rw'⟩ := rx
  cases hx
  obtain ⟨mA, J, _⟩ := ins_get I.hok (hide_at ha).2
  obtain ⟨od, J, _⟩ := J.look
  obtain ⟨m, hF⟩ := I.fr
  have hr : Room k X.A := c.room.mono hk
  show wpAny (model X.prog X.w) X.A (richCompare .Eq (.ref a) u) (EP X pins σ Q) X.xe s
  refine PySem.W.cmp_K (op := .Eq) hr.units0 hF I.ok.mod.kin J (ht L H pins s σ vy u I ry hy) hn h1 h2 ?_
  have hsp : spD X.K U 2 sp [.ref a, vy] H (fun v H' => ∃ b, v = .bl b ∧ Q (.bl b) H') (L2.WE (fun cls od _ H' => Same U c.Hb H' ∧ ∃ fl, RepX X.K U (hide c.Lb H') od fl ∧ T cls fl) σ) :=
    ⟨L, [.obj C ns ds, y], _, T, ⟨rfl, kk.base.g c.g⟩, kk.lsts, ⟨.ref a, [vy], rfl, rx0, vy, [], rfl, ry.rep hs, rfl⟩, h, fun v' H' d s1 r1 ⟨b, hb, z⟩ => by
      subst hb
      exact ⟨b, r1, q _ H' (.bl b) s1 rfl z⟩, fun cls od fl H' s1 r1 t => ⟨kk.base.trans s1, fl, RepX.mono (hide_le kk.lb) r1, t⟩⟩
  refine wpAny_mono (run_fnS F hr h4 (passAt c.tk σ) I (.cons (show RelV (.ref a) (.ref a) from rfl) (.cons hy .nil)) hsp) (fun r s' z => ?_) fun _ _ z => z
  obtain ⟨v', H', I', r', b, rfl, q'⟩ := z
  cases r'
  exact ⟨.bl b, H', I', rfl, q'⟩
theorem looks_obj {C : Addr} {ns : List Str} {ds : List D} : ∀ (L : List Addr) (H : Hp) (pins : List (Addr × Obj)) (s : Shared) (σ : L2.St) (v : V) (u : Value), Inv X pins σ H s → RepO X.K U c.Lb L H (.obj C ns ds) v → RelV v u → PySem.W.Looks (model X.prog X.w) s.heap (typeOf u) (.ref C) := fun L H pins s σ v u I r rv => by
  obtain ⟨a, dx, ws, rfl, ha, _⟩ := r
  cases rv
  obtain ⟨mA, J, _⟩ := ins_get I.hok (hide_at ha).2
  obtain ⟨od, J, _⟩ := J.look
  exact J.type
/-! ### making an object -/
/-- what __init__ promises: at x a new instance, sp as for a def (self left out) -/
def spI (K : PySem.W.Frag) (U : Pu) (C : Addr) (n : Nat) (sp : DSpec) : Sp := fun vs H Q E => ∃ (x dx : Addr) (us : List V) (L : List Addr) (ds : List D) (S : D → Prop) (T : XD), vs = .ref x :: us ∧ (ds.length = n ∧ U.G (hide [x] H)) ∧ H x = some (.ins C dx []) ∧ H dx = some (.own x) ∧ dx ≠ x ∧ x ∉ L ∧ dx ∉ L ∧ (∀ l ∈ L, MutAt H l) ∧
  Reps K U (hide (x :: dx :: L) H) ds us ∧ sp ds S T ∧ (∀ H' d, Same U (hide [x] H) H' → Rep K U (hide L H') d (.ref x) → S d → Q .non H') ∧ ∀ cls od fl H', Same U (hide [x] H) H' → RepX K U (hide L H') od fl → T cls fl → E cls od H'
structure Maker (P : Program) (w : World) (K : PySem.W.Frag) (mg : Str → Option Value) (base : Heap) (U : Pu) (k : Nat) (x : Str) (n : Nat) (sp : DSpec) : Prop where
  ex : ∃ (C f : Addr) (fd : FuncData) (ps : List Str), mg x = some (.ref C) ∧ Mk K C f ∧ Binds K fd ps [] ∧ FnOk P w K mg base (L2.CX P w) k f fd ps (spI K U C n sp)
theorem hide_two {L : List Addr} {H : Hp} {x dx C : Addr} (hx : H x = none) (hd : H dx = none) : hide (x :: dx :: L) (upd (upd H dx (.own x)) x (.ins C dx [])) = hide L H := by
  funext b
  unfold hide
  by_cases h1 : b = x
  · subst h1
    rw [if_pos List.mem_cons_self]
    split
    · rfl
    · exact hx.symm
  · by_cases h2 : b = dx
    · subst h2
      rw [if_pos (List.mem_cons_of_mem _ List.mem_cons_self)]
      split
      · rfl
      · exact hd.symm
    · rw [upd_ne h1, upd_ne h2]
      by_cases h3 : b ∈ L
      · rw [if_pos h3, if_pos (List.mem_cons_of_mem _ (List.mem_cons_of_mem _ h3))]
      · rw [if_neg h3, if_neg (fun z => (List.mem_cons.mp z).elim h1 fun z => (List.mem_cons.mp z).elim h2 h3)]
theorem WE_make {x : Str} {n k : Nat} {sp : DSpec} {es : List Expr} {p : Pos} (F : Maker X.prog X.w X.K X.mg X.base U k x n sp) (h : WA c (e :: es) δ fun ds => ds.length = n ∧ stills ds = true ∧ sp ds S T) (hk : k + 1 ≤ lv) (hg : Gl X x) (hd : (x == ("__debug__" : Str)) = false)
    (he : starEach (e :: es) X.env = (false, eval e X.env) :: starEach es X.env) (hpl : (backTo pos (starEach es X.env)).any (·.1) = false) : WE c (.Call (.Name x p) (e :: es) [] pos) δ S := fun L σ H Q N q => by
  obtain ⟨C, f, fd, ps, h1, h2, h3, h4⟩ := F.ex
  refine runE_of (pe_make (dvs := []) (E := fun cls od H' => Same U c.Hb H' ∧ ∃ fl, RepX X.K U (hide c.Lb H') od fl ∧ T cls fl) h2 h4 (c.room.mono hk) hg h1 h3 .nil (passes_call c.tk fun _ _ _ _ z => z) pa_run hd he hpl) (h L σ H _ N fun vs H1 ds s1 r1 ⟨hn, st, hsp⟩ => ?_)
  intro y dx hy hdx hne
  have ok1 := N.ok.mono s1
  have sm0 : Ext H1 (hide [y] (upd (upd H1 dx (.own y)) y (.ins C dx []))) := fun b o hb => by
    have b1 : b ≠ y := ne_of_none hb hy
    have b2 : b ≠ dx := ne_of_none hb hdx
    rw [hide_ne (by simpa using b1), upd_ne b1, upd_ne b2]
    exact hb
  have sm : Same U H1 (hide [y] (upd (upd H1 dx (.own y)) y (.ins C dx []))) := sm0.s
  refine ⟨y, dx, vs ++ [], L, ds, S, T, rfl, ⟨hn, (N.ok.base.trans (s1.trans sm)).g c.g⟩, upd_same, by rw [upd_ne hne, upd_same], hne, ok1.fresh hy, ok1.fresh hdx, fun l hl => ?_, ?_, hsp, fun H' d s2 r2 z => ⟨rfl, q _ H' d (s1.trans (sm.trans s2)) (.of_rep r2) z⟩, fun cls od fl H' s2 r2 t => ⟨N.ok.base.trans (s1.trans (sm.trans s2)), fl, RepX.mono (hide_le N.ok.lb) r2, t⟩⟩
  · obtain ⟨xs, m, g⟩ := ok1.lsts l hl
    exact ⟨xs, m, by rw [upd_ne (ne_of_none g hy), upd_ne (ne_of_none g hdx)]; exact g⟩
  · rw [List.append_nil, hide_two hy hdx]
    exact r1.reps st
end
end Dl

set_option maxRecDepth 100000
set_option maxHeartbeats 4000000
/-! # The rules in short: names by the def's own list of names -/
namespace Dl
open PySem PySem.Spec PyProof.Rows L2

inductive Nth {α : Type} : List α → Nat → α → Prop
  | here {x : α} {r : List α} : Nth (x :: r) 0 x
  | next {x y : α} {r : List α} {i : Nat} : Nth r i x → Nth (y :: r) (i + 1) x
theorem Nth.get {α : Type} {l : List α} {i : Nat} {x : α} (h : Nth l i x) : l[i]? = some x := by
  induction h with
  | here => rfl
  | next _ ih => simpa using ih
/-- whose names: a def's; .. its code object told; a comprehension's block -/
inductive Zk where
  | top
  | code (cd : Value) (q : Str)
  | blk (s : Scope)
/-- what is known of a context's names -/
structure Fx (X : Cx) (P : Program) (w : World) (K : PySem.W.Frag) (mg : Str → Option Value) (base : Heap) (N : List Str) (sc : Scope) (z : Zk) : Prop where
  p : X.prog = P
  w : X.w = w
  k : X.K = K
  m : X.mg = mg
  b : X.base = base
  n : X.N = N
  s : X.env.scope = sc
  f : match z with
    | .top => ∀ x, X.fn x = true
    | .code cd q => (∀ x, X.fn x = true) ∧ X.env.code = cd ∧ X.env.qual = q
    | .blk s0 => (∀ x, X.fn x = (s0.names.lookup x == some .cell)) ∧ ∀ x k, sc.names.lookup x = some k → s0.names.lookup x = some k ∨ s0.names.lookup x = some .free
def visB (sc : Scope) (x : Str) : Bool := (match sc.names.lookup x with
  | some .local => true
  | some .cell => true
  | some .free => true
  | _ => false) && !(x == ("__debug__" : Str)) && !(x == ("__classdict__" : Str))
def locB (sc : Scope) (x : Str) : Bool := match sc.names.lookup x with
  | some .local => true
  | some .cell => true
  | _ => false
def tgB (z : Zk) (sc : Scope) (x : Str) : Bool := locB sc x && (match z with
  | .top => true
  | .code _ _ => true
  | .blk s0 => !(s0.names.lookup x == some .free))
theorem tgB_code {cd : Value} {q : Str} {sc : Scope} {x : Str} (h : tgB .top sc x = true) : tgB (.code cd q) sc x = true := h
def glbB (sc : Scope) (x : Str) : Bool := (match sc.names.lookup x with
  | some .globalImplicit => true
  | _ => false) && !(x == ("__debug__" : Str)) && !(x == ("__name__" : Str))
theorem visB_ok {sc : Scope} {x : Str} (h : visB sc x = true) : Vis sc x ∧ (x == ("__debug__" : Str)) = false ∧ (x == ("__classdict__" : Str)) = false := by
  unfold visB at h
  simp only [Bool.and_eq_true, Bool.not_eq_true'] at h
  obtain ⟨⟨h1, h2⟩, h3⟩ := h
  refine ⟨?_, h2, h3⟩
  unfold Vis
  split at h1
  · rename_i e; exact .inl e
  · rename_i e; exact .inr (.inl e)
  · rename_i e; exact .inr (.inr e)
  · cases h1
theorem locB_ok {sc : Scope} {x : Str} (h : locB sc x = true) : L2.Loc sc x := by
  unfold locB at h
  unfold L2.Loc
  split at h
  · rename_i e; exact .inl e
  · rename_i e; exact .inr e
  · cases h
theorem glbB_ok {sc : Scope} {x : Str} (h : glbB sc x = true) : sc.names.lookup x = some .globalImplicit ∧ (x == ("__debug__" : Str)) = false ∧ x ≠ "__name__" := by
  unfold glbB at h
  simp only [Bool.and_eq_true, Bool.not_eq_true'] at h
  obtain ⟨⟨h1, h2⟩, h3⟩ := h
  refine ⟨?_, h2, fun e => by rw [e] at h3; simp at h3⟩
  split at h1
  · rename_i e; exact e
  · cases h1
section
variable {X : Cx} {P : Program} {w : World} {K : PySem.W.Frag} {mg : Str → Option Value} {base : Heap} {N : List Str} {sc : Scope} {z : Zk} {U : Pu} {lv : Nat} {T : XD} {c : Ct X U lv T} {δ : List (Option D)} {S : D → Prop} {E : SE} {e a b : Expr} {pos p : Pos} {es : List Expr} {x : Str} {i : Nat}
theorem Fx.gl (f : Fx X P w K mg base N sc z) (h : glbB sc x = true) : Gl X x := by
  show X.env.scope.names.lookup x = _
  rw [f.s]
  exact (glbB_ok h).1
theorem Fx.loc (f : Fx X P w K mg base N sc z) (h : locB sc x = true) : L2.Loc X.env.scope x := by
  rw [f.s]
  exact locB_ok h
theorem Fx.vis (f : Fx X P w K mg base N sc z) (h : visB sc x = true) : Vis X.env.scope x := by
  rw [f.s]
  exact (visB_ok h).1
theorem Fx.tl (_f : Fx X P w K mg base N sc z) (h : tgB z sc x = true) : locB sc x = true := by
  unfold tgB at h
  simp only [Bool.and_eq_true] at h
  exact h.1
theorem Fx.fn (f : Fx X P w K mg base N sc z) (h : tgB z sc x = true) : X.fn x = true ∨ X.env.scope.names.lookup x = some .local := by
  have hl := f.tl h
  rw [f.s]
  rcases locB_ok hl with e | e
  · exact .inr e
  · left
    have g := f.f
    unfold tgB at h
    cases z with
    | top => exact g x
    | code _ _ => exact g.1 x
    | blk s0 =>
      simp only [Bool.and_eq_true, Bool.not_eq_true', beq_eq_false_iff_ne, ne_eq] at h
      rw [g.1 x]
      rcases g.2 x _ e with k | k
      · rw [k]; rfl
      · exact absurd k h.2
theorem Fx.at_ (f : Fx X P w K mg base N sc z) (h : Nth N i x) : X.N[i]? = some x := by
  rw [f.n]
  exact h.get
theorem eN {d : D} (f : Fx X P w K mg base N sc z) (hn : Nth N i x) (hd : Nth δ i (some d)) (hv : visB sc x = true) (h : S d) : WE c (.Name x pos) δ S :=
  WE_var i hd.get h (f.at_ hn) (f.vis hv) (visB_ok hv).2.1 (visB_ok hv).2.2
theorem eG {d : D} (f : Fx X P w K mg base N sc z) (g : Glb K mg x d) (hg : glbB sc x = true) (h : S d) : WE c (.Name x pos) δ S :=
  WE_glb (by rw [f.k, f.m]; exact g) h (f.gl hg) (glbB_ok hg).2.1
theorem eT {t : String} (f : Fx X P w K mg base N sc z) (hm : mg x = none) (hv : bootBuiltins x = some (.type t)) (hg : glbB sc x = true) (h : S (.any (.ty t))) : WE c (.Name x pos) δ S :=
  WE_ty (by rw [f.m]; exact hm) h hv (f.gl hg) (glbB_ok hg).2.2 (glbB_ok hg).2.1
theorem eB {id : String} (f : Fx X P w K mg base N sc z) (hm : mg x = none) (hv : bootBuiltins x = some (.builtin id)) (hg : glbB sc x = true) (h : WA c (e :: es) δ fun ds => CD c (.builtin id) ds S)
    (he : starEach (e :: es) X.env = (false, eval e X.env) :: starEach es X.env := by rfl) (hpl : (backTo pos (starEach es X.env)).any (·.1) = false := by rfl) : WE c (.Call (.Name x p) (e :: es) [] pos) δ S :=
  WE_blt (by rw [f.m]; exact hm) h hv (f.gl hg) (glbB_ok hg).2.2 (glbB_ok hg).2.1 he hpl
theorem eBT {t : String} (f : Fx X P w K mg base N sc z) (hm : mg x = none) (hv : bootBuiltins x = some (.type t)) (hg : glbB sc x = true) (h : WA c (e :: es) δ fun ds => CD c (.type t) ds S)
    (he : starEach (e :: es) X.env = (false, eval e X.env) :: starEach es X.env := by rfl) (hpl : (backTo pos (starEach es X.env)).any (·.1) = false := by rfl) : WE c (.Call (.Name x p) (e :: es) [] pos) δ S :=
  WE_bty (by rw [f.m]; exact hm) h hv (f.gl hg) (glbB_ok hg).2.2 (glbB_ok hg).2.1 he hpl
theorem eC {n k : Nat} {sp : DSpec} (f : Fx X P w K mg base N sc z) (F : Fn P w K mg base U k x n sp) (hk : k ≤ lv) (hg : glbB sc x = true) (h : WA c (e :: es) δ fun ds => ds.length = n ∧ stills ds = true ∧ sp ds S T)
    (he : starEach (e :: es) X.env = (false, eval e X.env) :: starEach es X.env := by rfl) (hpl : (backTo pos (starEach es X.env)).any (·.1) = false := by rfl) : WE c (.Call (.Name x p) (e :: es) [] pos) δ S :=
  WE_call (by rw [f.p, f.w, f.k, f.m, f.b]; exact F) h hk (f.gl hg) (glbB_ok hg).2.1 he hpl
theorem eM {n k : Nat} {sp : DSpec} (f : Fx X P w K mg base N sc z) (F : Maker P w K mg base U k x n sp) (hk : k + 1 ≤ lv) (hg : glbB sc x = true) (h : WA c (e :: es) δ fun ds => ds.length = n ∧ stills ds = true ∧ sp ds S T)
    (he : starEach (e :: es) X.env = (false, eval e X.env) :: starEach es X.env := by rfl) (hpl : (backTo pos (starEach es X.env)).any (·.1) = false := by rfl) : WE c (.Call (.Name x p) (e :: es) [] pos) δ S :=
  WE_make (by rw [f.p, f.w, f.k, f.m, f.b]; exact F) h hk (f.gl hg) (glbB_ok hg).2.1 he hpl
theorem eF {g : Str} (f : Fx X P w K mg base N sc z) (h : WE c e δ fun x => ∃ C ns ds d, x = .obj C ns ds ∧ Cls K C ∧ NoAttr K C g ∧ (ns.zip ds).lookup g = some d ∧ S d) (hb : attributeBase e g X.env (eval e X.env) = eval e X.env := by rfl) : WE c (.Attribute e g pos) δ S :=
  WE_fld (by rw [f.k]; exact h) hb
theorem EqO {C : Addr} {ns : List Str} {ds : List D} {y : D} {k : Nat} {sp : DSpec} (f : Fx X P w K mg base N sc z) (M : Mt P w K mg base U k C "__eq__" 2 sp) (hk : k ≤ lv) (o : Cls K C) {C' : Addr} {ns' : List Str} {ds' : List D} (hy : y = .obj C' ns' ds') (hn : PySem.W.notFirst K C (.ref C') = true)
    (h : sp [.obj C ns ds, y] (fun d => ∃ b, d = .bl b ∧ S (.bl b)) T) : OD c (compareOp .Eq) (.obj C ns ds) y S := by
  subst hy
  exact OD_eqO (by rw [f.p, f.w, f.k, f.m, f.b]; exact M) hk (by rw [f.k]; exact o) (.ref C') rfl looks_obj (by rw [f.k]; exact hn) h
theorem IsO {C : Addr} {ns : List Str} {ds : List D} {cl : V} {cv : Value} {b : Bool} (f : Fx X P w K mg base N sc z) (o : ObT K C) (k : ClsV cl cv) (k1 : PySem.W.kitOne K (.ref C) cv = some b) (h : S (.bl b)) : CD c (.builtin "isinstance") [.obj C ns ds, .any cl] S :=
  CD_isiO (by rw [f.k]; exact o) k (by rw [f.k]; exact k1) h
theorem IsC {x : D} {t : String} {C : Addr} {b : Bool} (f : Fx X P w K mg base N sc z) (e : x.ty = some t) (k1 : PySem.W.kitOne K (.type t) (.ref C) = some b) (h : S (.bl b)) : CD c (.builtin "isinstance") [x, .any (.ref C)] S :=
  CD_isiC e (by rw [f.k]; exact k1) h

/-! targets, stores -/
theorem tN {d : D} {Q : List (Option D) → Prop} (f : Fx X P w K mg base N sc z) (hn : Nth N i x) (hl : tgB z sc x = true) (h : Q (δ.set i (some d))) : AG c (.Name x pos) δ d [i] Q :=
  AG_name i h (f.at_ hn) (f.loc (f.tl hl)) (f.fn hl)
theorem sSet {p' : Pos} (f : Fx X P w K mg base N sc z) (hn : Nth N i x) (hl : tgB z sc x = true) (h : WO c e δ fun d => E.nx (δ.set i (some d))) (hs : swapsWith e (some (.Name x p')) pos.line X.env = pure false := by rfl) : WS c (.Assign [.Name x p'] e pos) δ E :=
  WS_set i h (f.at_ hn) (f.loc (f.tl hl)) hs (f.fn hl)
theorem sApp {xs : List D} {p' apos cpos : Pos} (f : Fx X P w K mg base N sc z) (hn : Nth N i x) (hd : Nth δ i (some (.own xs))) (hv : visB sc x = true) (h : WE c e δ fun d => d.still = true ∧ xs.length < sizeLine ∧ E.nx (δ.set i (some (.own (xs ++ [d])))))
    (hs : swapsWith (.Call (.Attribute (.Name x p') "append" apos) [e] [] cpos) none pos.line X.env = pure false := by rfl)
    (hbase : attributeBase (.Name x p') "append" X.env (eval (.Name x p') X.env) = eval (.Name x p') X.env := by rfl) (hfew : ((backTo cpos (starEach [e] X.env)).all (fun x => !x.1) && (backToKw cpos (keywordEach [] X.env)).all (fun x => x.1.isSome) && decide (([e] : List Expr).length + ([] : List Keyword).length + (if ([] : List Keyword).isEmpty then 0 else 1) < 30)) = true := by rfl)
    (hline : (apos.endLine == cpos.line) = true := by rfl) (he : starEach (e :: []) X.env = (false, eval e X.env) :: starEach [] X.env := by rfl) (hpl : (backTo cpos (starEach [] X.env)).any (·.1) = false := by rfl) :
    WS c (.Expr (.Call (.Attribute (.Name x p') "append" apos) [e] [] cpos) pos) δ E :=
  WS_append i hd.get h (f.at_ hn) (f.vis hv) (visB_ok hv).2.1 (visB_ok hv).2.2 hs hbase hfew hline he hpl
theorem sExt {xs : List D} {p' apos cpos : Pos} (f : Fx X P w K mg base N sc z) (hn : Nth N i x) (hd : Nth δ i (some (.own xs))) (hv : visB sc x = true) (h : WE c e δ fun d => ∃ ys, d = .lst ys ∧ xs.length + ys.length ≤ sizeLine ∧ E.nx (δ.set i (some (.own (xs ++ ys)))))
    (hs : swapsWith (.Call (.Attribute (.Name x p') "extend" apos) [e] [] cpos) none pos.line X.env = pure false := by rfl)
    (hbase : attributeBase (.Name x p') "extend" X.env (eval (.Name x p') X.env) = eval (.Name x p') X.env := by rfl) (hfew : ((backTo cpos (starEach [e] X.env)).all (fun x => !x.1) && (backToKw cpos (keywordEach [] X.env)).all (fun x => x.1.isSome) && decide (([e] : List Expr).length + ([] : List Keyword).length + (if ([] : List Keyword).isEmpty then 0 else 1) < 30)) = true := by rfl)
    (hline : (apos.endLine == cpos.line) = true := by rfl) (he : starEach (e :: []) X.env = (false, eval e X.env) :: starEach [] X.env := by rfl) (hpl : (backTo cpos (starEach [] X.env)).any (·.1) = false := by rfl) :
    WS c (.Expr (.Call (.Attribute (.Name x p') "extend" apos) [e] [] cpos) pos) δ E :=
  WS_extend i hd.get h (f.at_ hn) (f.vis hv) (visB_ok hv).2.1 (visB_ok hv).2.2 hs hbase hfew hline he hpl
theorem sPut {xs : List D} {p' spos : Pos} {ix : Expr} (f : Fx X P w K mg base N sc z) (hn : Nth N i x) (hd : Nth δ i (some (.own xs))) (hv : visB sc x = true) (h : WE c e δ fun d => d.still = true ∧ WE c ix δ fun y => ∃ (k : Int) (j : Nat), y = .int k ∧ ixN xs.length k = some j ∧ E.nx (δ.set i (some (.own (xs.set j d)))))
    (ha : ∀ v, assign (.Subscript (.Name x p') ix spos) X.env v = (do
      let ov ← holding [v] (eval (.Name x p') X.env)
      let iv ← holding [v, ov] (eval ix X.env)
      standAt spos
      holding [v, ov, iv] (setItem ov iv v)
      release [v, ov, iv] []) := by intro _; rfl)
    (hs : swapsWithSole [.Subscript (.Name x p') ix spos] e pos.line X.env = pure false := by rfl) (hw : swappedStores [.Subscript (.Name x p') ix spos] e X.env = pure none := by rfl) (h1 : (assignEach [.Subscript (.Name x p') ix spos] X.env).map (·.2) = [assign (.Subscript (.Name x p') ix spos) X.env] := by rfl) :
    WS c (.Assign [.Subscript (.Name x p') ix spos] e pos) δ E :=
  WS_setItem i hd.get h (f.at_ hn) (f.vis hv) (visB_ok hv).2.1 (visB_ok hv).2.2 ha hs hw h1
theorem sAug {n : Int} (f : Fx X P w K mg base N sc z) (hn : Nth N i x) (hd : Nth δ i (some (.int n))) (hl : tgB z sc x = true) (h : WE c e δ fun d => ∃ m, d = .int m ∧ E.nx (δ.set i (some (.int (n + m))))) : WS c (.AugAssign (.Name x p) .Add e pos) δ E :=
  WS_augAdd i hd.get h (f.at_ hn) (f.loc (f.tl hl)) (f.fn hl)
/-- a, b = x, y -/
def env0 (sc : Scope) (env : Env) : Env := env
theorem swapped_of {env env' : Env} (h : env.scope = env'.scope) (ts : List Expr) (v : Expr) : swappedStores ts v env = swappedStores ts v env' := by
  unfold swappedStores Env.kindOf Env.blockKind
  rw [h]
theorem sPar {j : Nat} {y : Str} {px py pt : Pos} {kt k2 pt2} (f : Fx X P w K mg base N sc z) (hi : Nth N i x) (hj : Nth N j y) (hij : i ≠ j) (hx : sc.names.lookup x = some .local) (hy : sc.names.lookup y = some .local) (h : WO c a δ fun d1 => WO c b δ fun d2 => E.nx ((δ.set i (some d1)).set j (some d2)))
    (hw : ∀ env : Env, env.scope = sc → swappedStores [.Tuple [.Name x px, .Name y py] kt pt] (.Tuple [a, b] k2 pt2) env = pure (some [x, y]))
    (hs : swapsWithSole [.Tuple [.Name x px, .Name y py] kt pt] (.Tuple [a, b] k2 pt2) pos.line X.env = pure false := by rfl) (s1 : starEach (a :: [b]) X.env = (false, eval a X.env) :: starEach [b] X.env := by rfl) (s2 : starEach (b :: []) X.env = (false, eval b X.env) :: starEach [] X.env := by rfl) :
    WS c (.Assign [.Tuple [.Name x px, .Name y py] kt pt] (.Tuple [a, b] k2 pt2) pos) δ E :=
  WS_par i j h (f.at_ hi) (f.at_ hj) hij (by rw [f.s]; exact hx) (by rw [f.s]; exact hy) (hw _ f.s) hs s1 s2

/-! sources -/
theorem iR1 {tg : Expr} {S : List D → Prop} (f : Fx X P w K mg base N sc z) (hm : mg "range" = none) (hg : glbB sc "range" = true) (h : WA c [a] δ fun ds => ∃ n : Int, ds = [.int n] ∧ n ≤ 16777216 ∧ -16777216 ≤ n ∧ S ((List.range n.toNat).map fun (k : Nat) => D.int (0 + k))) (hs : starEach [a] X.env = [(false, eval a X.env)] := by rfl) :
    WI c tg (.Call (.Name "range" p) [a] [] pos) δ S := WI_rng1 (by rw [f.m]; exact hm) h (f.gl hg) hs
theorem iR2 {tg : Expr} {S : List D → Prop} (f : Fx X P w K mg base N sc z) (hm : mg "range" = none) (hg : glbB sc "range" = true) (h : WA c [a, b] δ fun ds => ∃ m n : Int, ds = [.int m, .int n] ∧ n ≤ 8000000 ∧ -8000000 ≤ n ∧ m ≤ 8000000 ∧ -8000000 ≤ m ∧ S ((List.range (n - m).toNat).map fun (k : Nat) => D.int (m + k)))
    (hs : starEach [a, b] X.env = [(false, eval a X.env), (false, eval b X.env)] := by rfl) (hs2 : starEach [b] X.env = [(false, eval b X.env)] := by rfl) : WI c tg (.Call (.Name "range" p) [a, b] [] pos) δ S := WI_rng2 (by rw [f.m]; exact hm) h (f.gl hg) hs hs2
theorem iZip {S : List D → Prop} {elts : List Expr} {kk : Nat} {tpos : Pos} (f : Fx X P w K mg base N sc z) (hm : mg "zip" = none) (hg : glbB sc "zip" = true) (h : WA c [a, b] δ fun ds => ∃ xs ys, (ds = [.lst xs, .lst ys] ∨ ds = [.tup xs, .tup ys]) ∧ S (pairs xs ys))
    (hs : starEach [a, b] X.env = (false, eval a X.env) :: starEach [b] X.env := by rfl) (hpl : (backTo pos (starEach [b] X.env)).any (·.1) = false := by rfl) : WI c (.Tuple elts kk tpos) (.Call (.Name "zip" p) [a, b] [] pos) δ S := WI_zip (by rw [f.m]; exact hm) h (f.gl hg) hs hpl
theorem iEnu {S : List D → Prop} {elts : List Expr} {kk : Nat} {tpos : Pos} (f : Fx X P w K mg base N sc z) (hm : mg "enumerate" = none) (hg : glbB sc "enumerate" = true) (h : WA c [a] δ fun ds => ∃ xs, ds = [.lst xs] ∧ S (numbered xs)) (hs : starEach [a] X.env = [(false, eval a X.env)] := by rfl) :
    WI c (.Tuple elts kk tpos) (.Call (.Name "enumerate" p) [a] [] pos) δ S := WI_enum (by rw [f.m]; exact hm) h (f.gl hg) hs

/-! ### comprehensions, the block's context told by its facts alone -/
def BlkO (P : Program) (w : World) (K : PySem.W.Frag) (mg : Str → Option Value) (base : Heap) (N : List Str) (U : Pu) (lv : Nat) (s0 sc : Scope) (φ : ∀ {X' : Cx}, Ct X' U lv noX → Prop) : Prop := ∀ (X' : Cx) (c' : Ct X' U lv noX), Fx X' P w K mg base N (relS s0 sc) (.blk s0) → φ c'
theorem blk_of (f : Fx X P w K mg base N sc z) {scope : Scope} {φ : ∀ {X' : Cx}, Ct X' U lv noX → Prop} (h : BlkO P w K mg base N U lv scope sc φ) : Blk c scope φ := fun s H C cl fp c' _ _ => h _ c' ⟨f.p, f.w, f.k, f.m, f.b, f.n, by show relS scope X.env.scope = _; rw [f.s], ⟨fun _ => rfl, fun x k e => by
  obtain ⟨k', h1, h2⟩ := lookup_relS e
  rcases h2 with rfl | ⟨rfl, _⟩
  · exact .inl h1
  · exact .inr h1⟩⟩
/-- a comprehension's turns -/
def Turns (P : Program) (w : World) (K : PySem.W.Frag) (mg : Str → Option Value) (base : Heap) (N : List Str) (U : Pu) (lv : Nat) (tg : Expr) (ifs : List Expr) (elt : Expr) (scope sc : Scope) (δ : List (Option D)) (ts : List Nat) (S : List D → Prop) (ds : List D) : Prop :=
  ∃ Pv : Nat → List D → Prop, Pv 0 [] ∧ (∀ (i : Nat) (d : D) (ys : List D), ds[i]? = some d → ys.length ≤ i → Pv i ys → BlkO P w K mg base N U lv scope sc fun c1 => AG c1 tg δ d ts fun δ2 => BlkO P w K mg base N U lv scope sc fun c2 => WTs c2 ifs δ2 fun b =>
      if b = true then BlkO P w K mg base N U lv scope sc fun c3 => WE c3 elt δ2 fun y => y.still = true ∧ Pv (i + 1) (ys ++ [y]) else Pv (i + 1) ys) ∧ ∀ ys, ys.length ≤ ds.length → Pv ds.length ys → S ys
theorem turns_of (f : Fx X P w K mg base N sc z) {tg elt : Expr} {ifs : List Expr} {scope : Scope} {ts : List Nat} {S : List D → Prop} {ds : List D} (h : Turns P w K mg base N U lv tg ifs elt scope sc δ ts S ds) : LcTurn c tg ifs elt scope δ ts S ds := by
  obtain ⟨Pv, h0, hs, hd⟩ := h
  refine ⟨Pv, h0, fun i d ys h1 h2 h3 => ?_, hd⟩
  refine blk_of f fun X1 c1 f1 => fun L σ H v Q En r q => hs i d ys h1 h2 h3 X1 c1 f1 L σ H v Q En r fun σ' δ' df En' k => q σ' δ' df En' ?_
  refine blk_of f fun X2 c2 f2 => WTs_mono' (k X2 c2 f2) fun b z => ?_
  cases b with
  | true =>
    rw [if_pos rfl] at z ⊢
    exact blk_of f fun X3 c3 f3 => z X3 c3 f3
  | false =>
    rw [if_neg Bool.false_ne_true] at z ⊢
    exact z
where WTs_mono' {X : Cx} {c : Ct X U lv noX} {ifs : List Expr} {δ : List (Option D)} {S S' : Bool → Prop} (h : WTs c ifs δ S) (k : ∀ b, S b → S' b) : WTs c ifs δ S' := fun L σ H Q En q => h L σ H Q En fun b H' s z => q b H' s (k b z)
theorem WJ_mono {tg iter : Expr} {S S' : List D → Prop} (h : WJ c tg iter δ S) (k : ∀ ds, S ds → S' ds) : WJ c tg iter δ S' := fun L σ H R En q => h L σ H R En fun J H' ds s w z => q J H' ds s w (k ds z)
theorem eLc {tg iter elt : Expr} {ifs : List Expr} {scope : Scope} (own : List (Str × Nat)) (ts : List Nat) (f : Fx X P w K mg base N sc z) (ok : blkC N sc scope own = true) (hts : ∀ i ∈ ts, i ∈ own.map (·.2)) (hi : WJ c tg iter δ (Turns P w K mg base N U lv tg ifs elt scope sc (wipeD δ (own.map (·.2))) ts fun ys => S (.lst ys)))
    (hs : ∀ x, foldedSetIterable iter X.env x = pure x := by intro _; rfl) : WE c (.ListComp elt [⟨tg, iter, ifs, 0⟩] scope pos) δ S :=
  WE_lc own ts (WJ_mono hi fun ds h => turns_of f h) (by rw [f.n, f.s]; exact blkOk_by ok) hts hs
theorem fLc {tg iter elt : Expr} {ifs : List Expr} {scope : Scope} {S : List D → Prop} (own : List (Str × Nat)) (ts : List Nat) (f : Fx X P w K mg base N sc z) (ok : blkC N sc scope own = true) (hts : ∀ i ∈ ts, i ∈ own.map (·.2)) (hi : WJ c tg iter δ (Turns P w K mg base N U lv tg ifs elt scope sc (wipeD δ (own.map (·.2))) ts S))
    (hs : ∀ x, foldedSetIterable iter X.env x = pure x := by intro _; rfl) : WF c (.ListComp elt [⟨tg, iter, ifs, 0⟩] scope pos) δ S :=
  WF_lc own ts (WJ_mono hi fun ds h => turns_of f h) (by rw [f.n, f.s]; exact blkOk_by ok) hts hs
theorem sLc {tg iter elt : Expr} {ifs : List Expr} {scope : Scope} {S : List D → Prop} {py : Pos} (own : List (Str × Nat)) (ts : List Nat) (f : Fx X P w K mg base N sc z) (hn : Nth N i x) (hS : (∀ ds, S ds → E.nx (δ.set i (some (.own ds)))) ∨ ∀ ds, S ds → E.nx (δ.set i (some (.lst ds)))) (ok : blkC N sc scope own = true) (hts : ∀ i ∈ ts, i ∈ own.map (·.2))
    (hy : sc.names.lookup x = some .local) (hk : sc.kind = .function) (hl : (py.line == p.line) = true) (ha : (scope.names.any fun (n, k) => n == x && (k == .local || k == .cell)) = false)
    (hi : WJ c tg iter δ (Turns P w K mg base N U lv tg ifs elt scope sc (wipeD δ (own.map (·.2))) ts S)) (hs : ∀ x, foldedSetIterable iter X.env x = pure x := by intro _; rfl) (hln : pos.line = pos.line := by rfl) : WS c (.Assign [.Name x py] (.ListComp elt [⟨tg, iter, ifs, 0⟩] scope p) pos) δ E :=
  WS_setLc i own ts (WJ_mono hi fun ds h => turns_of f h) hS (by rw [f.n, f.s]; exact blkOk_by ok) hts (f.at_ hn) (by rw [f.s]; exact hy) (sw_true (by rw [f.s]; exact hk) (by rw [f.s]; exact hy) hl ha) hs
/-! turns in the usual forms -/
section
variable {tg elt : Expr} {ifs : List Expr} {scope : Scope} {ts : List Nat} {S : List D → Prop} {ds : List D}
/-- each turn gives one item -/
theorem TurnsMap (f : D → D) (h : ∀ (i : Nat) (d : D), ds[i]? = some d → BlkO P w K mg base N U lv scope sc fun c1 => AG c1 tg δ d ts fun δ2 => BlkO P w K mg base N U lv scope sc fun c2 => WTs c2 ifs δ2 fun b => b = true ∧ BlkO P w K mg base N U lv scope sc fun c3 => WE c3 elt δ2 fun y => y.still = true ∧ y = f d) (hS : S (ds.map f)) :
    Turns P w K mg base N U lv tg ifs elt scope sc δ ts S ds := by
  refine ⟨fun i ys => ys = (ds.take i).map f, rfl, fun i d ys hd hy p => ?_, fun ys _ p => ?_⟩
  · intro X1 c1 f1 L σ H v Q En r q
    refine h i d hd X1 c1 f1 L σ H v Q En r fun σ' δ' df En' k => q σ' δ' df En' fun X2 c2 f2 L2 σ2 H2 Q2 En2 q2 => k X2 c2 f2 L2 σ2 H2 Q2 En2 fun b H3 s3 z => q2 b H3 s3 ?_
    obtain ⟨rfl, z⟩ := z
    rw [if_pos rfl]
    refine fun X3 c3 f3 => (z X3 c3 f3).mono fun y hyy => ⟨hyy.1, ?_⟩
    subst p
    rw [hyy.2, List.take_add_one, hd]
    simp
  · subst p
    rw [List.take_length]
    exact hS
/-- each turn gives one of some items -/
theorem TurnsSome (R : Nat → D → Prop) (h : ∀ (i : Nat) (d : D), ds[i]? = some d → BlkO P w K mg base N U lv scope sc fun c1 => AG c1 tg δ d ts fun δ2 => BlkO P w K mg base N U lv scope sc fun c2 => WTs c2 ifs δ2 fun b => b = true ∧ BlkO P w K mg base N U lv scope sc fun c3 => WE c3 elt δ2 fun y => y.still = true ∧ R i y) (hS : ∀ ys, ys.length = ds.length → (∀ (i : Nat) y, ys[i]? = some y → R i y) → S ys) :
    Turns P w K mg base N U lv tg ifs elt scope sc δ ts S ds := by
  refine ⟨fun i ys => ys.length = i ∧ ∀ (j : Nat) y, ys[j]? = some y → R j y, ⟨rfl, fun j y e => by simp at e⟩, fun i d ys hd hy p => ?_, fun ys _ p => hS ys p.1 p.2⟩
  intro X1 c1 f1 L σ H v Q En r q
  refine h i d hd X1 c1 f1 L σ H v Q En r fun σ' δ' df En' k => q σ' δ' df En' fun X2 c2 f2 L2 σ2 H2 Q2 En2 q2 => k X2 c2 f2 L2 σ2 H2 Q2 En2 fun b H3 s3 z => q2 b H3 s3 ?_
  obtain ⟨rfl, z⟩ := z
  rw [if_pos rfl]
  refine fun X3 c3 f3 => (z X3 c3 f3).mono fun y hyy => ⟨hyy.1, by simp [p.1], fun j y' e => ?_⟩
  by_cases hj : j < ys.length
  · rw [List.getElem?_append_left hj] at e
    exact p.2 j y' e
  · rw [List.getElem?_append_right (by omega)] at e
    by_cases h0 : j - ys.length = 0
    · rw [h0] at e
      simp at e
      have : j = i := by omega
      subst this
      subst e
      exact hyy.2
    · rw [List.getElem?_eq_none (by simp; omega)] at e
      cases e
/-- a test, then an item -/
theorem TurnsIf (g : D → Bool) (f : D → D) (h : ∀ (i : Nat) (d : D), ds[i]? = some d → BlkO P w K mg base N U lv scope sc fun c1 => AG c1 tg δ d ts fun δ2 => BlkO P w K mg base N U lv scope sc fun c2 => WTs c2 ifs δ2 fun b => b = g d ∧ (b = true → BlkO P w K mg base N U lv scope sc fun c3 => WE c3 elt δ2 fun y => y.still = true ∧ y = f d)) (hS : S ((ds.filter g).map f)) :
    Turns P w K mg base N U lv tg ifs elt scope sc δ ts S ds := by
  refine ⟨fun i ys => ys = ((ds.take i).filter g).map f, rfl, fun i d ys hd hy p => ?_, fun ys _ p => ?_⟩
  · intro X1 c1 f1 L σ H v Q En r q
    refine h i d hd X1 c1 f1 L σ H v Q En r fun σ' δ' df En' k => q σ' δ' df En' fun X2 c2 f2 L2 σ2 H2 Q2 En2 q2 => k X2 c2 f2 L2 σ2 H2 Q2 En2 fun b H3 s3 z => q2 b H3 s3 ?_
    obtain ⟨hb, z⟩ := z
    cases b with
    | true =>
      rw [if_pos rfl]
      refine fun X3 c3 f3 => (z rfl X3 c3 f3).mono fun y hyy => ⟨hyy.1, ?_⟩
      subst p
      rw [hyy.2, List.take_add_one, hd]
      simp [List.filter_append, ← hb]
    | false =>
      rw [if_neg Bool.false_ne_true]
      subst p
      rw [List.take_add_one, hd]
      simp [List.filter_append, ← hb]
  · subst p
    rw [List.take_length]
    exact hS
end
end
section
variable {P : Program} {w : World} {K : PySem.W.Frag} {mg : Str → Option Value} {base : Heap} {U : Pu}
/-- where a def stands -/
structure DefAt (K : PySem.W.Frag) (mg : Str → Option Value) (x : Str) (st : Stmt) (ps : List Str) : Prop where
  ex : ∃ (f : Addr) (fd : FuncData), Fun K x x st f fd ∧ mg x = some (.ref f) ∧ Binds K fd ps []
theorem fnO {x : Str} {st : Stmt} {N ps : List Str} {n k : Nat} {sp : DSpec} (A : DefAt K mg x st ps) (Sc : FnScope N ps (defScope st)) (hn : ps.length = n)
    (body : ∀ (X : Cx) (T : XD) (c : Ct X U k T), Fx X P w K mg base N (defScope st) .top → ∀ (ds : List D) (S : D → Prop), ds.length = n → sp ds S T → WSs c (defBody st) (startD N ds) { nx := fun _ => S .non, rt := S }) : Fn P w K mg base U (k + 1) x n sp := by
  obtain ⟨f, fd, F, hg, hb⟩ := A.ex
  exact fn_mk (N := N) F hg hb (fnD F Sc hn fun cdv A outer s H E T c ds S hl hs => body _ T c ⟨rfl, rfl, rfl, rfl, rfl, rfl, rfl, fun x => rfl⟩ ds S hl hs)
end
end Dl

set_option maxRecDepth 100000
set_option maxHeartbeats 4000000
/-! # Rules that a driver can apply -/
namespace Dl
open PySem PySem.Spec PyProof.Rows L2

/-! ### data without lists in them -/
mutual
def D.noL : D → Bool
  | .tup xs => noLs xs
  | .obj _ _ _ => false
  | .lst _ => false
  | .own _ => false
  | .pur => false
  | .dck _ _ => false
  | .dct _ _ => false
  | _ => true
def noLs : List D → Bool
  | [] => true
  | d :: ds => d.noL && noLs ds
end
theorem noLs_all : ∀ ds : List D, noLs ds = ds.all D.noL
  | [] => by simp [noLs]
  | d :: ds => by simp [noLs, noLs_all ds]
theorem noLs_map {α : Type} (e : α → D) (h : ∀ a, (e a).noL = true) (xs : List α) : noLs (xs.map e) = true := by
  rw [noLs_all, List.all_map, List.all_eq_true]
  exact fun a _ => h a
section
variable {K : PySem.W.Frag} {U : Pu} {H : Hp} {L : List Addr}
theorem sqt_hide (hl : ∀ l ∈ L, MutAt H l) {a : Addr} {vs : List V} (h : SqT K H a vs) : SqT K (hide L H) a vs := by
  rcases h with (h | ⟨o, h⟩) | h
  · exact .inl (.inl ((hide_ne fun z => (hl a z).tup h).trans h))
  · refine .inl (.inr ⟨o, (hide_ne fun z => ?_).trans h⟩)
    obtain ⟨xs, m, g⟩ := hl a z
    rw [h] at g
    cases g
    cases m
  · exact .inr h
mutual
theorem Rep.noL (hl : ∀ l ∈ L, MutAt H l) : ∀ (d : D) (v : V), d.noL = true → Rep K U H d v → Rep K U (hide L H) d v
  | .non, v, _, h => h
  | .bl b, v, _, h => h
  | .int i, v, _, h => h
  | .str x, v, _, h => h
  | .tup xs, v, n, h => by
    obtain ⟨a, vs, h1, h2, h3, h4⟩ := h
    unfold D.noL at n
    exact ⟨a, vs, h1, sqt_hide hl h2, Reps.noL hl xs vs n h3, h4⟩
  | .lst xs, v, n, h => by
    unfold D.noL at n
    cases n
  | .own xs, v, _, h => h
  | .obj C ns ds, v, n, h => by
    unfold D.noL at n
    cases n
  | .pur, v, n, h => by
    unfold D.noL at n
    cases n
  | .dck _ _, v, n, h => by
    unfold D.noL at n
    cases n
  | .dct _ _, v, n, h => by
    unfold D.noL at n
    cases n
  | .any w, v, _, h => h
theorem Reps.noL (hl : ∀ l ∈ L, MutAt H l) : ∀ (ds : List D) (vs : List V), noLs ds = true → Reps K U H ds vs → Reps K U (hide L H) ds vs
  | [], vs, _, h => h
  | d :: ds, vs, n, h => by
    obtain ⟨v, r, h1, h2, h3⟩ := h
    unfold noLs at n
    simp only [Bool.and_eq_true] at n
    exact ⟨v, r, h1, Rep.noL hl d v n.1 h2, Reps.noL hl ds r n.2 h3⟩
end
theorem RepOs.frzs {Lb : List Addr} : ∀ {ds : List D} {vs : List V}, RepOs K U Lb L H ds vs → Reps K U H (ds.map D.frz) vs
  | [], vs, h => h
  | d :: ds, vs, ⟨v, r, h1, h2, h3⟩ => by
    refine ⟨v, r, h1, ?_, RepOs.frzs h3⟩
    cases d with
    | own xs =>
      obtain ⟨a, us, g1, g2, g3, g4⟩ := h2.ownl
      exact ⟨a, us, g1, g2, Reps.mono hide_ext.k _ _ g3, g4⟩
    | non => exact h2
    | bl b => exact h2
    | int i => exact h2
    | str x => exact h2
    | any x => exact h2
    | _ => exact Rep.mono ((hide_ext (L := L)).k) _ _ h2
end
/-- exceptions that keep nothing that may change -/
def noLX (T : XD) : XD := fun cls fl => (∀ ns ds, fl = some (ns, ds) → noLs ds = true) ∧ T cls fl
section
variable {X : Cx} {U : Pu} {lv : Nat} {T : XD} {c : Ct X U lv T} {δ : List (Option D)} {S : D → Prop} {e : Expr} {es : List Expr} {pos : Pos}
/-- a call that reads lists of this frame: what it returns has no list in it -/
theorem WE_callO {x : Str} {n k : Nat} {sp : DSpec} {p : Pos} (F : Fn X.prog X.w X.K X.mg X.base U k x n sp) (h : WA c (e :: es) δ fun ds => ds.length = n ∧ sp (ds.map D.frz) (fun d => d.noL = true ∧ S d) (noLX T)) (hk : k ≤ lv) (hg : Gl X x) (hd : (x == ("__debug__" : Str)) = false)
    (he : starEach (e :: es) X.env = (false, eval e X.env) :: starEach es X.env) (hpl : (backTo pos (starEach es X.env)).any (·.1) = false) : WE c (.Call (.Name x p) (e :: es) [] pos) δ S := fun L σ H Q N q => by
  obtain ⟨f, fd, ps, h1, h2, h3, h4⟩ := F.ex
  refine runE_of (pe_callS h4 (c.room.mono hk) hg h1 h2 h3 (fun σ => passAt c.tk σ) pa_run hd he hpl) (h L σ H _ N fun vs H1 ds s1 r1 ⟨hn, hsp⟩ => ?_)
  have ok1 := N.ok.mono s1
  refine ⟨[], ds.map D.frz, fun d => d.noL = true ∧ S d, noLX T, ⟨by rw [List.length_map]; exact hn, (N.ok.base.trans s1).g c.g⟩, fun l hl => by simp at hl, by rw [hide_nil]; exact r1.frzs, hsp, fun v H' d s r k => ?_, fun cls od fl H' s r t => ?_⟩
  · rw [hide_nil] at r
    exact q v H' d (s1.trans s) (.of_rep (Rep.noL (ok1.mono s).lsts d v k.1 r)) k.2
  · rw [hide_nil] at r
    refine ⟨(N.ok.base.trans s1).trans s, fl, ?_, t.2⟩
    have ok2 := ok1.mono s
    cases od with
    | none => cases fl with
      | none => exact r
      | some _ => exact r
    | some d => cases fl with
      | none => exact r
      | some z =>
        obtain ⟨ns, ds'⟩ := z
        obtain ⟨vs', g1, g2⟩ := r
        have hlb : ∀ l ∈ c.Lb, MutAt H' l := fun l hl => ok2.lsts l (ok2.lb l hl)
        refine ⟨vs', (hide_ne fun z => ?_).trans g1, Reps.noL hlb _ _ (t.1 _ _ rfl) g2⟩
        obtain ⟨xs, m, g⟩ := hlb _ z
        rw [g1] at g
        cases g
        cases m
/-! ### targets -/
theorem AG.up {tg : Expr} {d : D} {ts ts' : List Nat} {Q : List (Option D) → Prop} (h : AG c tg δ d ts Q) (k : ∀ i ∈ ts, i ∈ ts') : AG c tg δ d ts' Q := fun L σ H v Q' E r q => h L σ H v Q' E r fun σ' δ' df => q σ' δ' (df.mono k)
theorem AGs.up {tg : List Expr} {d : List D} {ts ts' : List Nat} {Q : List (Option D) → Prop} (h : AGs c tg δ d ts Q) (k : ∀ i ∈ ts, i ∈ ts') : AGs c tg δ d ts' Q := fun L σ H v Q' E r q => h L σ H v Q' E r fun σ' δ' df => q σ' δ' (df.mono k)
theorem AGs_n {ts : List Nat} {Q : List (Option D) → Prop} (h : Q δ) : AGs c [] δ [] ts Q := (AGs_nil h).up fun i hi => by simp at hi
theorem AGs_c {tg : Expr} {tgs : List Expr} {d : D} {ds : List D} {ts : List Nat} {Q : List (Option D) → Prop} (h : AG c tg δ d ts fun δ1 => AGs c tgs δ1 ds ts Q) (hs : (assignEach (tg :: tgs) X.env).map (·.2) = assign tg X.env :: (assignEach tgs X.env).map (·.2) := by rfl) : AGs c (tg :: tgs) δ (d :: ds) ts Q :=
  (AGs_cons h hs).up fun i hi => (List.mem_append.mp hi).elim id id
theorem tT {es : List Expr} {k : Nat} {ds : List D} {ts : List Nat} {Q : List (Option D) → Prop} (h : AGs c es δ ds ts Q) (hn : (assignEach es X.env).length = ds.length) (hst : (assignEach es X.env).findIdx? (·.1) = none := by rfl) : AG c (.Tuple es k pos) δ (.tup ds) ts Q :=
  AG_tup rfl h hn hst
end
/-- the slots of a comprehension's own names -/
inductive Own (N : List Str) : List (Str × NameKind) → List (Str × Nat) → Prop
  | nil : Own N [] []
  | loc {x : Str} {i : Nat} {r : List (Str × NameKind)} {o : List (Str × Nat)} : Nth N i x → Own N r o → Own N ((x, .local) :: r) ((x, i) :: o)
  | cel {x : Str} {i : Nat} {r : List (Str × NameKind)} {o : List (Str × Nat)} : Nth N i x → Own N r o → Own N ((x, .cell) :: r) ((x, i) :: o)
  | skp {x : Str} {k : NameKind} {r : List (Str × NameKind)} {o : List (Str × Nat)} : Own N r o → Own N ((x, k) :: r) o
/-- a name is none of a module's -/
def bltN : List Str := ["len", "range", "zip", "enumerate", "sum", "abs", "max", "min", "all", "any", "sorted", "isinstance", "int", "bool", "str", "tuple", "list", "dict", "set", "ValueError", "Exception"]
def Blt (mg : Str → Option Value) : Prop := ∀ x ∈ bltN, mg x = none
theorem Blt.at {mg : Str → Option Value} (h : Blt mg) {x : Str} (k : decide (x ∈ bltN) = true) : mg x = none := h x (of_decide_eq_true k)
section
variable {X : Cx} {P : Program} {w : World} {K : PySem.W.Frag} {mg : Str → Option Value} {base : Heap} {N : List Str} {sc : Scope} {z : Zk} {U : Pu} {lv : Nat} {T : XD} {c : Ct X U lv T} {δ : List (Option D)} {S : D → Prop} {E : SE} {e a b : Expr} {pos p : Pos} {es : List Expr} {x : Str} {i : Nat}
theorem eCO {n k : Nat} {sp : DSpec} (f : Fx X P w K mg base N sc z) (F : Fn P w K mg base U k x n sp) (hk : k ≤ lv) (hg : glbB sc x = true) (h : WA c (e :: es) δ fun ds => ds.length = n ∧ sp (ds.map D.frz) (fun d => d.noL = true ∧ S d) (noLX T))
    (he : starEach (e :: es) X.env = (false, eval e X.env) :: starEach es X.env := by rfl) (hpl : (backTo pos (starEach es X.env)).any (·.1) = false := by rfl) : WE c (.Call (.Name x p) (e :: es) [] pos) δ S :=
  WE_callO (by rw [f.p, f.w, f.k, f.m, f.b]; exact F) h hk (f.gl hg) (glbB_ok hg).2.1 he hpl
theorem tN2 {d : D} {ts : List Nat} {Q : List (Option D) → Prop} (f : Fx X P w K mg base N sc z) (hn : Nth N i x) (hl : tgB z sc x = true) (hm : decide (i ∈ ts) = true) (h : Q (δ.set i (some d))) : AG c (.Name x pos) δ d ts Q :=
  (tN f hn hl h).up fun j hj => by
    rw [List.mem_singleton.mp hj]
    exact of_decide_eq_true hm
theorem eLc2 {tg iter elt : Expr} {ifs : List Expr} {scope : Scope} {own : List (Str × Nat)} (f : Fx X P w K mg base N sc z) (_ : Own N scope.names own) (ok : blkC N sc scope own = true) (hi : WJ c tg iter δ (Turns P w K mg base N U lv tg ifs elt scope sc (wipeD δ (own.map (·.2))) (own.map (·.2)) fun ys => S (.lst ys)))
    (hs : ∀ x, foldedSetIterable iter X.env x = pure x := by intro _; rfl) : WE c (.ListComp elt [⟨tg, iter, ifs, 0⟩] scope pos) δ S :=
  eLc own (own.map (·.2)) f ok (fun _ h => h) hi hs
theorem fLc2 {tg iter elt : Expr} {ifs : List Expr} {scope : Scope} {own : List (Str × Nat)} {S : List D → Prop} (f : Fx X P w K mg base N sc z) (_ : Own N scope.names own) (ok : blkC N sc scope own = true) (hi : WJ c tg iter δ (Turns P w K mg base N U lv tg ifs elt scope sc (wipeD δ (own.map (·.2))) (own.map (·.2)) S))
    (hs : ∀ x, foldedSetIterable iter X.env x = pure x := by intro _; rfl) : WF c (.ListComp elt [⟨tg, iter, ifs, 0⟩] scope pos) δ S :=
  fLc own (own.map (·.2)) f ok (fun _ h => h) hi hs
theorem sLc2 {tg iter elt : Expr} {ifs : List Expr} {scope : Scope} {own : List (Str × Nat)} {py : Pos} (f : Fx X P w K mg base N sc z) (hn : Nth N i x) (_ : Own N scope.names own) (ok : blkC N sc scope own = true)
    (hy : sc.names.lookup x = some .local) (hk : sc.kind = .function) (hl : (py.line == p.line) = true) (ha : (scope.names.any fun (n, k) => n == x && (k == .local || k == .cell)) = false)
    (hi : WJ c tg iter δ (Turns P w K mg base N U lv tg ifs elt scope sc (wipeD δ (own.map (·.2))) (own.map (·.2)) fun ds => E.nx (δ.set i (some (.lst ds))))) (hs : ∀ x, foldedSetIterable iter X.env x = pure x := by intro _; rfl) : WS c (.Assign [.Name x py] (.ListComp elt [⟨tg, iter, ifs, 0⟩] scope p) pos) δ E :=
  sLc own (own.map (·.2)) f hn (.inr fun _ h => h) ok (fun _ h => h) hy hk hl ha hi hs
theorem sLcO {tg iter elt : Expr} {ifs : List Expr} {scope : Scope} {own : List (Str × Nat)} {py : Pos} (f : Fx X P w K mg base N sc z) (hn : Nth N i x) (_ : Own N scope.names own) (ok : blkC N sc scope own = true)
    (hy : sc.names.lookup x = some .local) (hk : sc.kind = .function) (hl : (py.line == p.line) = true) (ha : (scope.names.any fun (n, k) => n == x && (k == .local || k == .cell)) = false)
    (hi : WJ c tg iter δ (Turns P w K mg base N U lv tg ifs elt scope sc (wipeD δ (own.map (·.2))) (own.map (·.2)) fun ds => E.nx (δ.set i (some (.own ds))))) (hs : ∀ x, foldedSetIterable iter X.env x = pure x := by intro _; rfl) : WS c (.Assign [.Name x py] (.ListComp elt [⟨tg, iter, ifs, 0⟩] scope p) pos) δ E :=
  sLc own (own.map (·.2)) f hn (.inl fun _ h => h) ok (fun _ h => h) hy hk hl ha hi hs
/-- classes of which an instance's attributes are read -/
structure OkC (K : PySem.W.Frag) (C : Addr) (ns : List Str) : Prop where
  cls : Cls K C
  ob : ObT K C
  na : ∀ g ∈ ns, NoAttr K C g
theorem eF2 {g : Str} (f : Fx X P w K mg base N sc z) (h : WE c e δ fun x => ∃ C ns ds d, x = .obj C ns ds ∧ OkC K C ns ∧ decide (g ∈ ns) = true ∧ (ns.zip ds).lookup g = some d ∧ S d) (hb : attributeBase e g X.env (eval e X.env) = eval e X.env := by rfl) : WE c (.Attribute e g pos) δ S :=
  eF f (h.mono fun x ⟨C, ns, ds, d, h1, h2, h3, h4, h5⟩ => ⟨C, ns, ds, d, h1, h2.cls, h2.na g (of_decide_eq_true h3), h4, h5⟩) hb
/-! ### turns told by what they give -/
section
variable {α : Type} {tg elt : Expr} {ifs : List Expr} {scope : Scope} {ts : List Nat} {S : List D → Prop} {ds : List D}
theorem tMap (enc : α → D) (xs : List α) (g : α → D) (hds : ds = xs.map enc) (h : ∀ x, x ∈ xs → BlkO P w K mg base N U lv scope sc fun c1 => AG c1 tg δ (enc x) ts fun δ2 => BlkO P w K mg base N U lv scope sc fun c3 => WE c3 elt δ2 fun y => y.still = true ∧ y = g x) (hS : S (xs.map g)) :
    Turns P w K mg base N U lv tg [] elt scope sc δ ts S ds := by
  refine ⟨fun i ys => ys = (xs.take i).map g, rfl, fun i d ys hd hy p => ?_, fun ys _ p => ?_⟩
  · have hx : ∃ x, xs[i]? = some x ∧ d = enc x := by
      rw [hds, List.getElem?_map] at hd
      cases q : xs[i]? with
      | none => rw [q] at hd; cases hd
      | some x => rw [q] at hd; cases hd; exact ⟨x, rfl, rfl⟩
    obtain ⟨x, hx, rfl⟩ := hx
    intro X1 c1 f1 L σ H v Q En r q
    refine h x (List.mem_of_getElem? hx) X1 c1 f1 L σ H v Q En r fun σ' δ' df En' k => q σ' δ' df En' fun X2 c2 f2 => WTs_nil ?_
    rw [if_pos rfl]
    refine fun X3 c3 f3 => (k X3 c3 f3).mono fun y hyy => ⟨hyy.1, ?_⟩
    subst p
    rw [hyy.2, List.take_add_one, hx]
    simp
  · subst p
    rw [hds, List.length_map, List.take_length]
    exact hS
theorem tIf {t : Expr} (enc : α → D) (xs : List α) (t2 : α → Bool) (g : α → D) (hds : ds = xs.map enc) (h : ∀ x, x ∈ xs → BlkO P w K mg base N U lv scope sc fun c1 => AG c1 tg δ (enc x) ts fun δ2 => BlkO P w K mg base N U lv scope sc fun c2 => WT c2 t δ2 fun b => b = t2 x ∧ (b = true → BlkO P w K mg base N U lv scope sc fun c3 => WE c3 elt δ2 fun y => y.still = true ∧ y = g x)) (hS : S ((xs.filter t2).map g)) :
    Turns P w K mg base N U lv tg [t] elt scope sc δ ts S ds := by
  refine ⟨fun i ys => ys = ((xs.take i).filter t2).map g, rfl, fun i d ys hd hy p => ?_, fun ys _ p => ?_⟩
  · have hx : ∃ x, xs[i]? = some x ∧ d = enc x := by
      rw [hds, List.getElem?_map] at hd
      cases q : xs[i]? with
      | none => rw [q] at hd; cases hd
      | some x => rw [q] at hd; cases hd; exact ⟨x, rfl, rfl⟩
    obtain ⟨x, hx, rfl⟩ := hx
    intro X1 c1 f1 L σ H v Q En r q
    refine h x (List.mem_of_getElem? hx) X1 c1 f1 L σ H v Q En r fun σ' δ' df En' k => q σ' δ' df En' fun X2 c2 f2 => WTs_one ((k X2 c2 f2).mono fun b z => ?_)
    obtain ⟨hb, z⟩ := z
    subst p
    cases b with
    | true =>
      rw [if_pos rfl]
      refine fun X3 c3 f3 => (z rfl X3 c3 f3).mono fun y hyy => ⟨hyy.1, ?_⟩
      show _ = ((xs.take (i + 1)).filter t2).map g
      rw [hyy.2, List.take_add_one, hx]
      simp [List.filter_append, ← hb]
    | false =>
      rw [if_neg Bool.false_ne_true]
      show _ = ((xs.take (i + 1)).filter t2).map g
      rw [List.take_add_one, hx]
      simp [List.filter_append, ← hb]
  · subst p
    rw [hds, List.length_map, List.take_length]
    exact hS
/-- each turn gives one of some items -/
theorem tSome (enc : α → D) (xs : List α) (R : α → D → Prop) (hds : ds = xs.map enc) (h : ∀ x, x ∈ xs → BlkO P w K mg base N U lv scope sc fun c1 => AG c1 tg δ (enc x) ts fun δ2 => BlkO P w K mg base N U lv scope sc fun c3 => WE c3 elt δ2 fun y => y.still = true ∧ R x y) (hS : ∀ ys, ys.length = xs.length → (∀ (i : Nat) x y, xs[i]? = some x → ys[i]? = some y → R x y) → S ys) :
    Turns P w K mg base N U lv tg [] elt scope sc δ ts S ds := by
  refine ⟨fun i ys => ys.length = i ∧ ∀ (j : Nat) x y, xs[j]? = some x → ys[j]? = some y → R x y, ⟨rfl, fun j x y _ e => by simp at e⟩, fun i d ys hd hy p => ?_, fun ys _ p => hS ys (by rw [p.1, hds, List.length_map]) p.2⟩
  have hx : ∃ x, xs[i]? = some x ∧ d = enc x := by
    rw [hds, List.getElem?_map] at hd
    cases q : xs[i]? with
    | none => rw [q] at hd; cases hd
    | some x => rw [q] at hd; cases hd; exact ⟨x, rfl, rfl⟩
  obtain ⟨x, hx, rfl⟩ := hx
  intro X1 c1 f1 L σ H v Q En r q
  refine h x (List.mem_of_getElem? hx) X1 c1 f1 L σ H v Q En r fun σ' δ' df En' k => q σ' δ' df En' fun X2 c2 f2 => WTs_nil ?_
  rw [if_pos rfl]
  refine fun X3 c3 f3 => (k X3 c3 f3).mono fun y hyy => ⟨hyy.1, by simp [p.1], fun j x' y' e' e => ?_⟩
  by_cases hj : j < ys.length
  · rw [List.getElem?_append_left hj] at e
    exact p.2 j x' y' e' e
  · rw [List.getElem?_append_right (by omega)] at e
    by_cases h0 : j - ys.length = 0
    · rw [h0] at e
      simp at e
      have : j = i := by omega
      subst this
      rw [hx] at e'
      cases e'
      subst e
      exact hyy.2
    · rw [List.getElem?_eq_none (by simp; omega)] at e
      cases e
end
theorem WT.mono2 : True := trivial
/-! ### loops -/
theorem sFor {α : Type} {tg iter : Expr} {body : List Stmt} (enc : α → D) (xs : List α) (I : Nat → List (Option D) → Prop)
    (h : WI c tg iter δ fun ds => ds = xs.map enc ∧ I 0 δ ∧ (∀ (i : Nat) (x : α) (δ' : List (Option D)), xs[i]? = some x → I i δ' → ∀ (B : Hp) (hs : Same U c.Hb B), AG (c.at_ B hs) tg δ' (enc x) (List.range N.length) fun δ2 => WSs (c.at_ B hs) body δ2 { E with nx := I (i + 1), ct := I (i + 1), bk := E.nx }) ∧ ∀ δ', I xs.length δ' → E.nx δ')
    (hs : ∀ x, foldedSetIterable iter X.env x = pure x := by intro _; rfl) : WS c (.For tg iter body [] pos) δ E := by
  refine WS_for (List.range N.length) (fun L σ H R En q => h L σ H R En fun J H' ds s w z => q J H' ds s w ?_) hs
  obtain ⟨rfl, h0, hst, hf⟩ := z
  refine ⟨I, h0, fun i d δ' hd _ hi B hB => ?_, fun δ' k => hf δ' (by rw [List.length_map] at k; exact k)⟩
  rw [List.getElem?_map] at hd
  cases q : xs[i]? with
  | none => rw [q] at hd; cases hd
  | some x => rw [q] at hd; cases hd; exact hst i x δ' q hi B hB
/-! ### branches -/
theorem ite_b {b : Bool} {A B : Prop} (h1 : b = true → A) (h2 : b = false → B) : if b = true then A else B := by
  cases b with
  | true => rw [if_pos rfl]; exact h1 rfl
  | false => rw [if_neg Bool.false_ne_true]; exact h2 rfl
theorem ite_t {A B : Prop} (h : A) : if true = true then A else B := by rw [if_pos rfl]; exact h
theorem ite_f {A B : Prop} (h : B) : if false = true then A else B := by rw [if_neg Bool.false_ne_true]; exact h
theorem ite_p {p : Prop} [Decidable p] {A B : Prop} (h1 : p → A) (h2 : ¬p → B) : if decide p = true then A else B :=
  ite_b (fun h => h1 (of_decide_eq_true h)) (fun h => h2 (of_decide_eq_false h))
theorem ite_n {p : Prop} [Decidable p] {A B : Prop} (h1 : ¬p → A) (h2 : p → B) : if (!decide p) = true then A else B :=
  ite_b (fun h => h1 (by simpa using h)) (fun h => h2 (by simpa using h))
end
def D.kn (d : D) : Bool := d.ty.isSome
def D.isInt : D → Bool
  | .int _ => true
  | .bl _ => true
  | _ => false
def D.isBool : D → Bool
  | .bl _ => true
  | _ => false
def D.isStr : D → Bool
  | .str _ => true
  | _ => false
def D.isTup : D → Bool
  | .tup _ => true
  | _ => false
def D.isLst : D → Bool
  | .lst _ => true
  | .own _ => true
  | _ => false
/-- is_integer: an int that is no flag -/
def D.isN : D → Bool
  | .int _ => true
  | _ => false
section
variable {X : Cx} {U : Pu} {lv : Nat} {T : XD} {c : Ct X U lv T} {S : D → Prop} {x : D}
theorem CD_isInt (e : x.kn = true) (h : S (.bl x.isInt)) : CD c (.builtin "isinstance") [x, .any (.ty "int")] S := by
  cases x with
  | obj C ns ds => cases e
  | pur => cases e
  | any v => cases e
  | bl b => exact CD_isi rfl (by decide +kernel : kitB "bool" "int" = some true) h
  | int b => exact CD_isi rfl (by decide +kernel : kitB "int" "int" = some true) h
  | non => exact CD_isi rfl (by decide +kernel : kitB "NoneType" "int" = some false) h
  | str b => exact CD_isi rfl (by decide +kernel : kitB "str" "int" = some false) h
  | tup b => exact CD_isi rfl (by decide +kernel : kitB "tuple" "int" = some false) h
  | lst b => exact CD_isi rfl (by decide +kernel : kitB "list" "int" = some false) h
  | own b => exact CD_isi rfl (by decide +kernel : kitB "list" "int" = some false) h
  | dck a b => exact CD_isi rfl (by decide +kernel : kitB "dict" "int" = some false) h
  | dct a b => exact CD_isi rfl (by decide +kernel : kitB "dict" "int" = some false) h
theorem CD_isBool (e : x.kn = true) (h : S (.bl x.isBool)) : CD c (.builtin "isinstance") [x, .any (.ty "bool")] S := by
  cases x with
  | obj C ns ds => cases e
  | pur => cases e
  | any v => cases e
  | bl b => exact CD_isi rfl (by decide +kernel : kitB "bool" "bool" = some true) h
  | int b => exact CD_isi rfl (by decide +kernel : kitB "int" "bool" = some false) h
  | non => exact CD_isi rfl (by decide +kernel : kitB "NoneType" "bool" = some false) h
  | str b => exact CD_isi rfl (by decide +kernel : kitB "str" "bool" = some false) h
  | tup b => exact CD_isi rfl (by decide +kernel : kitB "tuple" "bool" = some false) h
  | lst b => exact CD_isi rfl (by decide +kernel : kitB "list" "bool" = some false) h
  | own b => exact CD_isi rfl (by decide +kernel : kitB "list" "bool" = some false) h
  | dck a b => exact CD_isi rfl (by decide +kernel : kitB "dict" "bool" = some false) h
  | dct a b => exact CD_isi rfl (by decide +kernel : kitB "dict" "bool" = some false) h
theorem CD_isTup (e : x.kn = true) (h : S (.bl x.isTup)) : CD c (.builtin "isinstance") [x, .any (.ty "tuple")] S := by
  cases x with
  | obj C ns ds => cases e
  | pur => cases e
  | any v => cases e
  | bl b => exact CD_isi rfl (by decide +kernel : kitB "bool" "tuple" = some false) h
  | int b => exact CD_isi rfl (by decide +kernel : kitB "int" "tuple" = some false) h
  | non => exact CD_isi rfl (by decide +kernel : kitB "NoneType" "tuple" = some false) h
  | str b => exact CD_isi rfl (by decide +kernel : kitB "str" "tuple" = some false) h
  | tup b => exact CD_isi rfl (by decide +kernel : kitB "tuple" "tuple" = some true) h
  | lst b => exact CD_isi rfl (by decide +kernel : kitB "list" "tuple" = some false) h
  | own b => exact CD_isi rfl (by decide +kernel : kitB "list" "tuple" = some false) h
  | dck a b => exact CD_isi rfl (by decide +kernel : kitB "dict" "tuple" = some false) h
  | dct a b => exact CD_isi rfl (by decide +kernel : kitB "dict" "tuple" = some false) h
theorem CD_isLst (e : x.kn = true) (h : S (.bl x.isLst)) : CD c (.builtin "isinstance") [x, .any (.ty "list")] S := by
  cases x with
  | obj C ns ds => cases e
  | pur => cases e
  | any v => cases e
  | bl b => exact CD_isi rfl (by decide +kernel : kitB "bool" "list" = some false) h
  | int b => exact CD_isi rfl (by decide +kernel : kitB "int" "list" = some false) h
  | non => exact CD_isi rfl (by decide +kernel : kitB "NoneType" "list" = some false) h
  | str b => exact CD_isi rfl (by decide +kernel : kitB "str" "list" = some false) h
  | tup b => exact CD_isi rfl (by decide +kernel : kitB "tuple" "list" = some false) h
  | lst b => exact CD_isi rfl (by decide +kernel : kitB "list" "list" = some true) h
  | own b => exact CD_isi rfl (by decide +kernel : kitB "list" "list" = some true) h
  | dck a b => exact CD_isi rfl (by decide +kernel : kitB "dict" "list" = some false) h
  | dct a b => exact CD_isi rfl (by decide +kernel : kitB "dict" "list" = some false) h
theorem CD_isStr (e : x.kn = true) (h : S (.bl x.isStr)) : CD c (.builtin "isinstance") [x, .any (.ty "str")] S := by
  cases x with
  | obj C ns ds => cases e
  | pur => cases e
  | any v => cases e
  | bl b => exact CD_isi rfl (by decide +kernel : kitB "bool" "str" = some false) h
  | int b => exact CD_isi rfl (by decide +kernel : kitB "int" "str" = some false) h
  | non => exact CD_isi rfl (by decide +kernel : kitB "NoneType" "str" = some false) h
  | str b => exact CD_isi rfl (by decide +kernel : kitB "str" "str" = some true) h
  | tup b => exact CD_isi rfl (by decide +kernel : kitB "tuple" "str" = some false) h
  | lst b => exact CD_isi rfl (by decide +kernel : kitB "list" "str" = some false) h
  | own b => exact CD_isi rfl (by decide +kernel : kitB "list" "str" = some false) h
  | dck a b => exact CD_isi rfl (by decide +kernel : kitB "dict" "str" = some false) h
  | dct a b => exact CD_isi rfl (by decide +kernel : kitB "dict" "str" = some false) h
end
/-- slots at a return -/
inductive Frz : List (Option D) → List (Option D) → Prop
  | nil : Frz [] []
  | no {r r' : List (Option D)} : Frz r r' → Frz (none :: r) (none :: r')
  | own {xs : List D} {r r' : List (Option D)} : Frz r r' → Frz (some (.own xs) :: r) (some (.lst xs) :: r')
  | st {d : D} {r r' : List (Option D)} : d.still = true → Frz r r' → Frz (some d :: r) (some d :: r')
  | any {a : Option D} {r r' : List (Option D)} : Frz r r' → Frz (a :: r) (a.map D.frz :: r')
theorem frz_still {d : D} (h : d.still = true) : d.frz = d := by
  cases d with
  | own xs => cases h
  | _ => rfl
theorem Frz.eq {δ δ' : List (Option D)} (h : Frz δ δ') : δ.map (Option.map D.frz) = δ' := by
  induction h with
  | nil => rfl
  | no _ ih => rw [List.map_cons, ih]; rfl
  | own _ ih => rw [List.map_cons, ih]; rfl
  | st s _ ih => rw [List.map_cons, ih, Option.map_some, frz_still s]
  | any _ ih => rw [List.map_cons, ih]
theorem WS_retF {X : Cx} {U : Pu} {lv : Nat} {T : XD} {c : Ct X U lv T} {δ δ' : List (Option D)} {E : SE} {e : Expr} {pos : Pos} (z : Frz δ δ') (h : WE c e δ' E.rt) : WS c (.Return (some e) pos) δ E := WS_ret (by rw [z.eq]; exact h)
theorem WSs_frzF {X : Cx} {U : Pu} {lv : Nat} {T : XD} {c : Ct X U lv T} {δ δ' : List (Option D)} {E : SE} {rest : List Stmt} (z : Frz δ δ') (h : WSs c rest δ' E) : WSs c rest δ E := WSs_frz (by rw [z.eq]; exact h)
/-! ### data of numbers -/
theorem map_int {α : Type} (f : α → Int) (l : List α) : l.map (fun x => D.int (f x)) = (l.map f).map D.int := by rw [List.map_map]; rfl
theorem map_bl {α : Type} (f : α → Bool) (l : List α) : l.map (fun x => D.bl (f x)) = (l.map f).map D.bl := by rw [List.map_map]; rfl
theorem map_tup {α : Type} (f : α → List D) (l : List α) : l.map (fun x => D.tup (f x)) = (l.map f).map D.tup := by rw [List.map_map]; rfl
theorem pairs_map {α β : Type} (f : α → D) (g : β → D) : ∀ (xs : List α) (ys : List β), pairs (xs.map f) (ys.map g) = (xs.zip ys).map fun p => D.tup [f p.1, g p.2]
  | [], ys => by simp [pairs]
  | x :: xs, [] => by simp [pairs]
  | x :: xs, y :: ys => by
    have := pairs_map f g xs ys
    unfold pairs at this ⊢
    simp [this]
theorem numbered_map {α : Type} (f : α → D) (xs : List α) : numbered (xs.map f) = xs.zipIdx.map fun p => D.tup [.int (p.2 : Nat), f p.1] := by
  unfold numbered
  rw [List.zipIdx_map, List.map_map]
  rfl
end Dl

set_option maxRecDepth 100000
set_option maxHeartbeats 4000000
/-! # Objects being made: __init__ and what it calls -/
namespace Dl
open PySem PySem.Spec PyProof.Rows L2
/-- where the object stands, what the callers hide -/
structure Spot where
  C : Addr
  x : Addr
  dx : Addr
  L0 : List Addr
  ne : dx ≠ x
  xL : x ∉ L0
  dL : dx ∉ L0
section
variable {X : Cx} {U : Pu} {lv : Nat} {T : XD}
/-- how the body is to end -/
def Fin (X : Cx) (U : Pu) (o : Spot) (Hx : Hp) (De : Ends) (S : D → Prop) : Prop := ∀ σ' H' d, Same U Hx H' → Rep X.K U (hide o.L0 H') d (.ref o.x) → S d → De.nx σ' H'
/-- while its attributes are set; ns, ds: those that it has -/
def WB (c : Ct X U lv T) (o : Spot) (sts : List Stmt) (δ : List (Option D)) (ns : List Str) (ds : List D) (S : D → Prop) : Prop := ∀ (L : List Addr) (σ : L2.St) (H : Hp) (De : Ends) (vs : List V), En c L H σ δ → o.x ∈ L →
  H o.x = some (.ins o.C o.dx (ns.zip vs)) → H o.dx = some (.own o.x) → Reps X.K U (hide L H) ds vs → ns.length = ds.length → Fin X U o c.Hb De S → runSs X sts De σ H
/-- ahead of that -/
def WBs (c c2 : Ct X U lv T) (o : Spot) (sts : List Stmt) (δ : List (Option D)) (S : D → Prop) : Prop := ∀ (L : List Addr) (σ : L2.St) (H : Hp) (De : Ends), En c L H σ δ → Fin X U o c2.Hb De S → runSs X sts De σ H
variable {c c2 : Ct X U lv T} {o : Spot} {st : Stmt} {rest : List Stmt} {δ : List (Option D)} {S : D → Prop} {pos : Pos}
theorem WBs_cons (h : WS c st δ { nx := fun δ' => WBs c c2 o rest δ' S, rt := fun _ => False, bk := fun _ => False, ct := fun _ => False }) : WBs c c2 o (st :: rest) δ S := fun L σ H De N F =>
  runSs_of (pss_cons ps_run pss_run) (h L σ H _ N ⟨fun L' σ' H' δ' N' k => k L' σ' H' De N' F, fun v H' d s r k => k.elim, fun L' σ' H' δ' N' k => k.elim, fun L' σ' H' δ' N' k => k.elim⟩)
/-- what is known of the spot in the two contexts -/
structure Spo (c c2 : Ct X U lv T) (o : Spot) : Prop where
  at_ : c.Hb o.x = some (.ins o.C o.dx [])
  own : c.Hb o.dx = some (.own o.x)
  lb : c.Lb = o.x :: o.dx :: o.L0
  hb2 : c2.Hb = hide [o.x] c.Hb
  lb2 : c2.Lb = o.dx :: o.L0
theorem Spo.no (p : Spo c c2 o) : NoA c2.Hb o.x := by
  refine .of ?_
  rw [p.hb2]
  simp [hide]
theorem Spo.dx2 (p : Spo c c2 o) : c2.Hb o.dx = some (.own o.x) := by
  rw [p.hb2, hide_ne (by simpa using o.ne)]
  exact p.own
theorem En.poke (p : Spo c c2 o) {L : List Addr} {H : Hp} {σ : L2.St} (N : En c L H σ δ) : En c2 L H σ δ := by
  have sub : ∀ l ∈ c2.Lb, l ∈ c.Lb := fun l h => by
    rw [p.lb2] at h
    rw [p.lb]
    exact List.mem_cons_of_mem _ h
  refine ⟨⟨?_, fun l h => N.ok.lb l (sub l h), fun l h => ?_, N.ok.lsts⟩, N.len, fun i d h => ?_, N.sep⟩
  · rw [p.hb2]
    exact hide_ext.s.trans N.ok.base
  · by_cases hx : l = o.x
    · right
      rw [hx]
      exact p.no
    · rcases N.ok.new l h with z | z
      · left
        rw [p.lb] at z
        rw [p.lb2]
        exact (List.mem_cons.mp z).elim (fun q => absurd q hx) id
      · right
        rw [p.hb2]
        exact fun ob e => z ob (hide_at e).2
  · obtain ⟨v, h1, h2⟩ := N.rep i d h
    refine ⟨v, h1, ?_⟩
    cases d with
    | own xs =>
      obtain ⟨l, vs, g1, g2, g3, g4⟩ := h2
      exact ⟨l, vs, g1, g2, fun z => g3 (sub l z), g4⟩
    | _ => exact h2
theorem WBs_go (p : Spo c c2 o) (h : WB c2 o rest δ [] [] S) : WBs c c2 o rest δ S := fun L σ H De N F => by
  have hx : o.x ∈ c.Lb := by rw [p.lb]; exact List.mem_cons_self
  exact h L σ H De [] (N.poke p) (N.ok.lb _ hx) (N.ok.base.at _ _ p.at_) (N.ok.base.at _ _ p.own) rfl rfl F
theorem WB_nil (p : Spo c c2 o) {ns : List Str} {ds : List D} (h : S (.obj o.C ns ds)) : WB c2 o [] δ ns ds S := fun L σ H De vs N hx e1 e2 r hn F => by
  refine runSs_of pss_nil (F σ H (.obj o.C ns ds) N.ok.base ⟨o.x, o.dx, vs, rfl, (hide_ne o.xL).trans e1, (hide_ne o.dL).trans e2, ?_⟩ h)
  refine Reps.mono (hide_le fun l hl => N.ok.lb l ?_) _ _ r
  rw [p.lb2]
  exact List.mem_cons_of_mem _ hl
theorem putF_new (f : Str) (v : V) : ∀ (ns : List Str) (vs : List V), f ∉ ns → ns.length = vs.length → putF f v (ns.zip vs) = (ns ++ [f]).zip (vs ++ [v])
  | [], [], _, _ => rfl
  | [], v :: vs, _, h => by simp at h
  | n :: ns, [], _, h => by simp at h
  | n :: ns, u :: vs, hf, h => by
    have h1 : n ≠ f := fun e => hf (by rw [e]; exact List.mem_cons_self)
    show (if n = f then _ else (n, u) :: putF f v (ns.zip vs)) = _
    rw [if_neg h1, putF_new f v ns vs (fun z => hf (List.mem_cons_of_mem _ z)) (by simpa using h)]
    rfl
/-- self.f = e -/
theorem WB_set {f : Str} {e oe : Expr} {p' : Pos} {ns : List Str} {ds : List D} (p : Spo c c2 o) (hc : Cls X.K o.C) (hf : NoAttr X.K o.C f) (hnew : f ∉ ns) (hlen : ns.length < 999) (ho : WE c2 oe δ fun d => d = .any (.ref o.x))
    (h : WE c2 e δ fun d => d.still = true ∧ WB c2 o rest δ (ns ++ [f]) (ds ++ [d]) S) (hs : swapsWith e (some (.Attribute oe f p')) pos.line X.env = pure false := by rfl) : WB c2 o (.Assign [.Attribute oe f p'] e pos :: rest) δ ns ds S := fun L σ H De vs N hx e1 e2 r hn F => by
  refine runSs_of (pss_cons (ps_fld pe_run pe_run hs) pss_run) (h L σ H _ N fun v H1 d s1 r1 ⟨hst, k⟩ => ho L σ H1 _ (N.mono s1) fun u H2 d2 s2 r2 z2 => ?_)
  subst z2
  have s12 := s1.trans s2
  obtain rfl : u = .ref o.x := r2
  have hlv : ns.length = vs.length := hn.trans r.len
  have e1' := s12.at _ _ e1
  refine ⟨o.x, o.C, o.dx, ns.zip vs, rfl, e1', hc, hf, by rw [List.length_zip]; omega, ?_⟩
  rw [putF_new f v ns vs hnew hlv]
  have hid : hide L (upd H2 o.x (.ins o.C o.dx ((ns ++ [f]).zip (vs ++ [v])))) = hide L H2 := hide_upd hx
  have N2 := N.mono s12
  refine k L σ _ De (vs ++ [v]) ⟨⟨?_, N2.ok.lb, N2.ok.new, fun l hl => ?_⟩, N2.len, fun i d' hd' => ?_, N2.sep⟩ hx upd_same (by rw [upd_ne o.ne]; exact s12.at _ _ e2) ?_ (by simp [hn]) F
  · exact N2.ok.base.set ⟨_, rfl, e1'⟩ p.no rfl
  · by_cases q : l = o.x
    · rw [q]
      exact ⟨_, rfl, upd_same⟩
    · obtain ⟨ob, m, g⟩ := N2.ok.lsts l hl
      exact ⟨ob, m, by rw [upd_ne q]; exact g⟩
  · obtain ⟨w, h1, h2⟩ := N2.rep i d' hd'
    refine ⟨w, h1, ?_⟩
    cases d' with
    | own xs =>
      obtain ⟨l, us, g1, g2, g3, g4, g5, g6⟩ := h2
      have hl : l ≠ o.x := fun z => by
        rw [z, e1'] at g4
        cases g4
      exact ⟨l, us, g1, g2, g3, by rw [upd_ne hl]; exact g4, by rw [hid]; exact g5, g6⟩
    | _ =>
      show Rep X.K U (hide L (upd H2 o.x (.ins o.C o.dx ((ns ++ [f]).zip (vs ++ [v]))))) _ w
      rw [hid]
      exact h2
  · rw [hid]
    exact Reps.app (Reps.mono (hide_same s12) _ _ r) (Reps.one (Rep.mono (hide_same s2) _ _ (r1.rep hst)))
end
/-- a method that fills a new object -/
structure Mi (P : Program) (w : World) (K : PySem.W.Frag) (mg : Str → Option Value) (base : Heap) (U : Pu) (k : Nat) (C : Addr) (m : Str) (n : Nat) (sp : DSpec) : Prop where
  ex : ∃ (f : Addr) (fd : FuncData) (ps : List Str), Meth K C m f ∧ Binds K fd ps [] ∧ FnOk P w K mg base (L2.CX P w) k f fd ps (spI K U C n sp)
section
variable {X : Cx} {U : Pu} {lv : Nat} {T : XD} {c c2 : Ct X U lv T} {o : Spot} {δ : List (Option D)} {S : D → Prop} {pos : Pos}
/-- self.keep(..), at the end -/
theorem WB_keep {pl : Sem Bool} {m : Str} {n k : Nat} {sp : DSpec} {oe e : Expr} {es : List Expr} {apos cpos : Pos} (p : Spo c c2 o) (F : Mi X.prog X.w X.K X.mg X.base U k o.C m n sp) (hk : k ≤ lv) (hc : Cls X.K o.C) (ho : WE c2 oe δ fun d => d = .any (.ref o.x))
    (h : WA c2 (e :: es) δ fun as => as.length = n ∧ stills as = true ∧ sp as S noX) (hs : swapsWith (.Call (.Attribute oe m apos) (e :: es) [] cpos) none pos.line X.env = pure false := by rfl)
    (hst : starEach (e :: es) X.env = (false, eval e X.env) :: starEach es X.env := by rfl) (hpl : (backTo cpos (starEach es X.env)).any (·.1) = false := by rfl)
    (ht : eval (.Call (.Attribute oe m apos) (e :: es) [] cpos) X.env = (do
      let ov ← eval oe X.env
      standAt apos.atName
      let (f, first) ← holding [ov] (getMethod ov m pl)
      callWith cpos f first (backTo cpos (starEach (e :: es) X.env)) (backToKw cpos (keywordEach [] X.env))) := by rfl) :
    WB c2 o [.Expr (.Call (.Attribute oe m apos) (e :: es) [] cpos) pos] δ [] [] S := fun L σ H De vs N hx e1 e2 r hn Fi => by
  obtain ⟨f, fd, ps, hm, hb, Fk⟩ := F.ex
  refine runSs_of (pss_cons (ps_expr (pe_meth (dvs := []) (E := fun cls od H' => Same U c2.Hb H' ∧ ∃ fl, RepX X.K U (hide c2.Lb H') od fl ∧ T cls fl) pe_run hc hm Fk (c2.room.mono hk) hb .nil (passes_call c2.tk fun _ _ _ _ z => z) pa_run hst hpl ht) hs) pss_nil) ?_
  refine ho L σ H _ N fun u H1 d1 s1 r1 z1 => ?_
  subst z1
  obtain rfl : u = .ref o.x := r1
  refine ⟨o.x, o.dx, _, rfl, s1.at _ _ e1, rfl, h L σ H1 _ (N.mono s1) fun ws H2 as s2 r2 ⟨hn2, hst2, hsp⟩ => ?_⟩
  have N2 := (N.mono s1).mono s2
  have s12 := s1.trans s2
  have e1' : H2 o.x = some (.ins o.C o.dx []) := s12.at _ _ e1
  have e2' := s12.at _ _ e2
  have hdx : o.dx ∈ L := N.ok.lb _ (by rw [p.lb2]; exact List.mem_cons_self)
  let L1 := L.filter fun l => !(l == o.x) && !(l == o.dx)
  have m1 : ∀ l, l ∈ L1 ↔ l ∈ L ∧ l ≠ o.x ∧ l ≠ o.dx := fun l => by simp [L1]
  have hh : hide (o.x :: o.dx :: L1) H2 = hide L H2 := by
    funext b
    unfold hide
    by_cases hbL : b ∈ L
    · rw [if_pos hbL, if_pos]
      by_cases q1 : b = o.x
      · rw [q1]; exact List.mem_cons_self
      · by_cases q2 : b = o.dx
        · rw [q2]; exact List.mem_cons_of_mem _ List.mem_cons_self
        · exact List.mem_cons_of_mem _ (List.mem_cons_of_mem _ ((m1 b).mpr ⟨hbL, q1, q2⟩))
    · rw [if_neg hbL, if_neg]
      intro z
      rcases List.mem_cons.mp z with z | z
      · exact hbL (by rw [z]; exact hx)
      · rcases List.mem_cons.mp z with z | z
        · exact hbL (by rw [z]; exact hdx)
        · exact hbL ((m1 b).mp z).1
  have sub0 : ∀ l ∈ o.L0, l ∈ L1 := fun l hl => (m1 l).mpr ⟨N.ok.lb l (by rw [p.lb2]; exact List.mem_cons_of_mem _ hl), fun z => o.xL (by rw [← z]; exact hl), fun z => o.dL (by rw [← z]; exact hl)⟩
  have sb : ∀ {H'}, Same U (hide [o.x] H2) H' → Same U c2.Hb H' := fun s => Same.trans ⟨fun b ob hb n => by
    rw [hide_ne (by simpa using p.no.ne hb n)]
    exact N2.ok.base.at b ob hb n, fun z => U.gh _ _ (fun l hl => by
    rw [List.mem_singleton.mp hl]
    exact ⟨_, rfl, e1'⟩) (N2.ok.base.g z)⟩ s
  refine ⟨o.x, o.dx, ws ++ [], L1, as, S, noX, rfl, ⟨hn2, (sb (Same.refl _)).g c2.g⟩, e1', e2', o.ne, fun z => ((m1 _).mp z).2.1 rfl, fun z => ((m1 _).mp z).2.2 rfl, fun l hl => N2.ok.lsts l ((m1 l).mp hl).1, ?_, hsp, fun H' d s r' z => ?_, fun cls od fl H' s r' t => t.elim⟩
  · rw [List.append_nil, hh]
    exact r2.reps hst2
  · exact Fi σ H' d (sb s) (Rep.mono (hide_le sub0) _ _ r') z
end
/-! ### the contract of __init__ -/
section
variable {P : Program} {w : World} {K : PySem.W.Frag} {mg : Str → Option Value} {base : Heap} {U : Pu}
theorem fnI {x qual : Str} {st : Stmt} {f : Addr} {fd : FuncData} {N ps : List Str} {n k : Nat} {sp : DSpec} {C : Addr} (F : Fun K x qual st f fd) (Sc : FnScope N ps (defScope st)) (hn : ps.length = n + 1)
    (body : ∀ (X : Cx) (T : XD) (c c2 : Ct X U k T) (o : Spot), Fx X P w K mg base N (defScope st) .top → o.C = C → Spo c c2 o → ∀ (ds : List D) (S : D → Prop), ds.length = n → sp ds S T → WBs c c2 o (defBody st) (startD N (.any (.ref o.x) :: ds)) S) : FnOk P w K mg base (L2.CX P w) (k + 1) f fd ps (spI K U C n sp) := by
  refine F.okX Sc (fun vs H Q E h => ?_) (fun cdv A outer s H vs Q E hr h => ?_)
  · obtain ⟨x, dx, us, L, ds, S, T, rfl, ⟨h1, _⟩, _, _, _, _, _, _, h2, _⟩ := h
    rw [List.length_cons, ← h2.len, h1, hn]
  · obtain ⟨x, dx, us, L, ds, S, T, rfl, ⟨h1, hG⟩, e1, e2, hne, hxL, hdL, hl, h2, hsp, q1, q2⟩ := h
    let o : Spot := ⟨C, x, dx, L, hne, hxL, hdL⟩
    let X := cxOf (L2.CX P w) P w K mg base N qual (defScope st) f cdv A outer s H E
    have tk0 : Takes X (fun cls d _ H => E cls d H) := takes_of (E := E) rfl rfl rfl rfl
    have hsub : ∀ l ∈ L, l ∈ x :: dx :: L := fun l hl => List.mem_cons_of_mem _ (List.mem_cons_of_mem _ hl)
    have hsub2 : ∀ l ∈ L, l ∈ dx :: L := fun l hl => List.mem_cons_of_mem _ hl
    have hs0 : Same U (hide [x] H) H := hide_ext.s
    let c : Ct X U k T := { Hb := H, Lb := x :: dx :: L, g := hs0.g hG, calm := rfl, nd := Sc.nd, room := hr, own := passes_of rfl, tk := tk0.imp fun cls od σ H' ⟨s1, fl, r, t⟩ => q2 cls od fl H' (hs0.trans s1) (RepX.mono (hide_le hsub) r) t }
    let c2 : Ct X U k T := { Hb := hide [x] H, Lb := dx :: L, g := hG, calm := rfl, nd := Sc.nd, room := hr, own := passes_of rfl, tk := tk0.imp fun cls od σ H' ⟨s1, fl, r, t⟩ => q2 cls od fl H' s1 (RepX.mono (hide_le hsub2) r) t }
    have ok : Ok c (x :: dx :: L) H := ⟨Same.refl H, fun l h => h, fun l h => .inl h, fun l h => by
      rcases List.mem_cons.mp h with z | z
      · rw [z]; exact ⟨_, rfl, e1⟩
      · rcases List.mem_cons.mp z with z | z
        · rw [z]; exact ⟨_, rfl, e2⟩
        · exact hl l z⟩
    refine ⟨_, pss_run, ?_⟩
    refine body X T c c2 o ⟨rfl, rfl, rfl, rfl, rfl, rfl, rfl, fun x => rfl⟩ rfl ⟨e1, e2, rfl, rfl, rfl⟩ ds S h1 hsp (x :: dx :: L) (L2.start N (.ref x :: us)) H _ (start_en ok (Reps.cons rfl h2)) fun σ' H' d s1 r1 z => ?_
    exact q1 H' d s1 r1 z
/-- where a method stands (C: the class it is found from) -/
structure MethAt (K : PySem.W.Frag) (C : Addr) (m qual : Str) (st : Stmt) (ps : List Str) : Prop where
  ex : ∃ (f : Addr) (fd : FuncData), Meth K C m f ∧ Fun K m qual st f fd ∧ Binds K fd ps []
structure InitAt (K : PySem.W.Frag) (mg : Str → Option Value) (x : Str) (C : Addr) (qual : Str) (st : Stmt) (ps : List Str) : Prop where
  ex : ∃ (f : Addr) (fd : FuncData), mg x = some (.ref C) ∧ Mk K C f ∧ Fun K "__init__" qual st f fd ∧ Binds K fd ps []
theorem miO {m qual : Str} {st : Stmt} {N ps : List Str} {n k : Nat} {sp : DSpec} {C : Addr} (A : MethAt K C m qual st ps) (Sc : FnScope N ps (defScope st)) (hn : ps.length = n + 1)
    (body : ∀ (X : Cx) (T : XD) (c c2 : Ct X U k T) (o : Spot), Fx X P w K mg base N (defScope st) .top → o.C = C → Spo c c2 o → ∀ (ds : List D) (S : D → Prop), ds.length = n → sp ds S T → WBs c c2 o (defBody st) (startD N (.any (.ref o.x) :: ds)) S) : Mi P w K mg base U (k + 1) C m n sp := by
  obtain ⟨f, fd, h1, h2, h3⟩ := A.ex
  exact ⟨f, fd, ps, h1, h3, fnI h2 Sc hn body⟩
theorem makerO {x qual : Str} {st : Stmt} {N ps : List Str} {n k : Nat} {sp : DSpec} {C : Addr} (A : InitAt K mg x C qual st ps) (Sc : FnScope N ps (defScope st)) (hn : ps.length = n + 1)
    (body : ∀ (X : Cx) (T : XD) (c c2 : Ct X U k T) (o : Spot), Fx X P w K mg base N (defScope st) .top → o.C = C → Spo c c2 o → ∀ (ds : List D) (S : D → Prop), ds.length = n → sp ds S T → WBs c c2 o (defBody st) (startD N (.any (.ref o.x) :: ds)) S) : Maker P w K mg base U (k + 1) x n sp := by
  obtain ⟨f, fd, h0, h1, h2, h3⟩ := A.ex
  exact ⟨C, f, fd, ps, h0, h1, h3, fnI h2 Sc hn body⟩
theorem mtO {m qual : Str} {st : Stmt} {N ps : List Str} {n k : Nat} {sp : DSpec} {C : Addr} (A : MethAt K C m qual st ps) (Sc : FnScope N ps (defScope st)) (hn : ps.length = n)
    (body : ∀ (X : Cx) (T : XD) (c : Ct X U k T), Fx X P w K mg base N (defScope st) .top → ∀ (ds : List D) (S : D → Prop), ds.length = n → sp ds S T → WSs c (defBody st) (startD N ds) { nx := fun _ => S .non, rt := S }) : Mt P w K mg base U (k + 1) C m n sp := by
  obtain ⟨f, fd, h1, h2, h3⟩ := A.ex
  exact ⟨f, fd, ps, h1.at_, h1.fn, h1.kp, h3, fnD h2 Sc hn fun cdv A outer s H E T c ds S hl hs => body _ T c ⟨rfl, rfl, rfl, rfl, rfl, rfl, rfl, fun x => rfl⟩ ds S hl hs⟩
theorem Mi.mono {k k' : Nat} {C : Addr} {m : Str} {n : Nat} {sp : DSpec} (F : Mi P w K mg base U k C m n sp) (h : k ≤ k') : Mi P w K mg base U k' C m n sp := by
  obtain ⟨f, fd, ps, h1, h2, h3⟩ := F.ex
  exact ⟨f, fd, ps, h1, h2, h3.mono h⟩
end
end Dl
namespace Dl
open PySem PySem.Spec PyProof.Rows L2
theorem BlkO.of {P : Program} {w : World} {K : PySem.W.Frag} {mg : Str → Option Value} {base : Heap} {N : List Str} {U : Pu} {lv : Nat} {s0 sc : Scope} {φ : ∀ {X' : Cx}, Ct X' U lv noX → Prop} (h : ∀ (X' : Cx) (c' : Ct X' U lv noX), Fx X' P w K mg base N (relS s0 sc) (.blk s0) → φ c') : BlkO P w K mg base N U lv s0 sc φ := h
theorem eqS {S : D → Prop} {a b : D} (h : S a) (e : b = a) : S b := by rw [e]; exact h
theorem CMul.l {i j : Int} (h1 : -18446744073709551616 < i) (h2 : i < 18446744073709551616) : CMul i j := .inl ⟨h1, h2⟩
theorem CMul.r {i j : Int} (h1 : -18446744073709551616 < j) (h2 : j < 18446744073709551616) : CMul i j := .inr ⟨h1, h2⟩
/-! tuples and lists of ints -/
abbrev tI (xs : List Int) : D := .tup (xs.map .int)
abbrev tII (rs : List (List Int)) : D := .tup (rs.map tI)
abbrev lI (xs : List Int) : D := .lst (xs.map .int)
abbrev lT (rs : List (List Int)) : D := .lst (rs.map tI)
abbrev lL (rs : List (List Int)) : D := .lst (rs.map lI)
section
variable {X : Cx} {U : Pu} {lv : Nat} {T : XD} {c : Ct X U lv T} {S : D → Prop} {A B : Prop}
theorem ite_nt (h : B) : if (!true) = true then A else B := ite_f h
theorem ite_nf (h : A) : if (!false) = true then A else B := ite_t h
theorem eqv_int (i j : Int) : (D.int i).eqv (.int j) = decide (i = j) := by
  by_cases h : i = j <;> simp [D.eqv, h]
theorem OD_eq_int {i j : Int} (h : S (.bl (decide (i = j)))) : OD c (compareOp .Eq) (.int i) (.int j) S := OD_eq rfl rfl (by rw [eqv_int]; exact h)
theorem OD_ne_int {i j : Int} (h : S (.bl (decide (i ≠ j)))) : OD c (compareOp .NotEq) (.int i) (.int j) S := OD_ne rfl rfl (by rw [eqv_int]; simpa using h)
end
/-! the built-in names -/
theorem bt_len : bootBuiltins "len" = some (.builtin "len") := by rfl
theorem bt_sum : bootBuiltins "sum" = some (.builtin "sum") := by rfl
theorem bt_abs : bootBuiltins "abs" = some (.builtin "abs") := by rfl
theorem bt_max : bootBuiltins "max" = some (.builtin "max") := by rfl
theorem bt_min : bootBuiltins "min" = some (.builtin "min") := by rfl
theorem bt_all : bootBuiltins "all" = some (.builtin "all") := by rfl
theorem bt_any : bootBuiltins "any" = some (.builtin "any") := by rfl
theorem bt_sorted : bootBuiltins "sorted" = some (.builtin "sorted") := by rfl
theorem bt_isinstance : bootBuiltins "isinstance" = some (.builtin "isinstance") := by rfl
theorem bt_int : bootBuiltins "int" = some (.type "int") := by rfl
theorem bt_bool : bootBuiltins "bool" = some (.type "bool") := by rfl
theorem bt_str : bootBuiltins "str" = some (.type "str") := by rfl
theorem bt_tuple : bootBuiltins "tuple" = some (.type "tuple") := by rfl
theorem bt_list : bootBuiltins "list" = some (.type "list") := by rfl
theorem bt_dict : bootBuiltins "dict" = some (.type "dict") := by rfl
theorem bt_set : bootBuiltins "set" = some (.type "set") := by rfl
end Dl

set_option maxRecDepth 100000
set_option maxHeartbeats 4000000
/-! # Rules by search: slots stored, wiped -/
namespace Dl
open PySem PySem.Spec PyProof.Rows L2
inductive St : List (Option D) → Nat → Option D → List (Option D) → Prop
  | here {a o : Option D} {r : List (Option D)} : St (a :: r) 0 o (o :: r)
  | next {a o : Option D} {r r' : List (Option D)} {i : Nat} : St r i o r' → St (a :: r) (i + 1) o (a :: r')
theorem St.eq {δ δ' : List (Option D)} {i : Nat} {o : Option D} (h : St δ i o δ') : δ.set i o = δ' := by
  induction h with
  | here => rfl
  | next _ ih => rw [List.set_cons_succ, ih]
inductive Wp : List (Option D) → List (Str × Nat) → List (Option D) → Prop
  | nil {δ : List (Option D)} : Wp δ [] δ
  | cons {δ δ1 δ2 : List (Option D)} {x : Str} {i : Nat} {r : List (Str × Nat)} : Wp δ r δ1 → St δ1 i none δ2 → Wp δ ((x, i) :: r) δ2
theorem Wp.eq {δ δ' : List (Option D)} {own : List (Str × Nat)} (h : Wp δ own δ') : wipeD δ (own.map (·.2)) = δ' := by
  induction h with
  | nil => rfl
  | cons _ s ih =>
    show (wipeD _ _).set _ none = _
    rw [ih, s.eq]
/-- stored: at slot i -/
def Sto (δ : List (Option D)) (i : Nat) (d : D) (Q : List (Option D) → Prop) : Prop := Q (δ.set i (some d))
theorem Sto.by {δ δ' : List (Option D)} {i : Nat} {d : D} {Q : List (Option D) → Prop} (s : St δ i (some d) δ') (h : Q δ') : Sto δ i d Q := by
  unfold Sto
  rw [s.eq]
  exact h
section
variable {X : Cx} {P : Program} {w : World} {K : PySem.W.Frag} {mg : Str → Option Value} {base : Heap} {N : List Str} {sc : Scope} {z : Zk} {U : Pu} {lv : Nat} {T : XD} {c : Ct X U lv T} {δ δ' : List (Option D)} {S : D → Prop} {E : SE} {e a b : Expr} {pos p : Pos} {es : List Expr} {x : Str} {i : Nat}
theorem tN3 {d : D} {ts : List Nat} {Q : List (Option D) → Prop} (f : Fx X P w K mg base N sc z) (hn : Nth N i x) (hl : tgB z sc x = true) (hm : decide (i ∈ ts) = true) (h : Sto δ i d Q) : AG c (.Name x pos) δ d ts Q := tN2 f hn hl hm h
theorem eLc3 {tg iter elt : Expr} {ifs : List Expr} {scope : Scope} {own : List (Str × Nat)} (f : Fx X P w K mg base N sc z) (o : Own N scope.names own) (hw : Wp δ own δ') (ok : blkC N sc scope own = true) (hi : WJ c tg iter δ (Turns P w K mg base N U lv tg ifs elt scope sc δ' (own.map (·.2)) fun ys => S (.lst ys)))
    (hs : ∀ x, foldedSetIterable iter X.env x = pure x := by intro _; rfl) : WE c (.ListComp elt [⟨tg, iter, ifs, 0⟩] scope pos) δ S :=
  eLc2 f o ok (by rw [hw.eq]; exact hi) hs
theorem fLc3 {tg iter elt : Expr} {ifs : List Expr} {scope : Scope} {own : List (Str × Nat)} {S : List D → Prop} (f : Fx X P w K mg base N sc z) (o : Own N scope.names own) (hw : Wp δ own δ') (ok : blkC N sc scope own = true) (hi : WJ c tg iter δ (Turns P w K mg base N U lv tg ifs elt scope sc δ' (own.map (·.2)) S))
    (hs : ∀ x, foldedSetIterable iter X.env x = pure x := by intro _; rfl) : WF c (.ListComp elt [⟨tg, iter, ifs, 0⟩] scope pos) δ S :=
  fLc2 f o ok (by rw [hw.eq]; exact hi) hs
theorem sLc3 {tg iter elt : Expr} {ifs : List Expr} {scope : Scope} {own : List (Str × Nat)} {py : Pos} (f : Fx X P w K mg base N sc z) (hn : Nth N i x) (o : Own N scope.names own) (hw : Wp δ own δ') (ok : blkC N sc scope own = true)
    (hy : sc.names.lookup x = some .local) (hk : sc.kind = .function) (hl : (py.line == p.line) = true) (ha : (scope.names.any fun (n, k) => n == x && (k == .local || k == .cell)) = false)
    (hi : WJ c tg iter δ (Turns P w K mg base N U lv tg ifs elt scope sc δ' (own.map (·.2)) fun ds => Sto δ i (.lst ds) E.nx)) (hs : ∀ x, foldedSetIterable iter X.env x = pure x := by intro _; rfl) : WS c (.Assign [.Name x py] (.ListComp elt [⟨tg, iter, ifs, 0⟩] scope p) pos) δ E :=
  sLc2 f hn o ok hy hk hl ha (by rw [hw.eq]; exact hi) hs
theorem sLcO3 {tg iter elt : Expr} {ifs : List Expr} {scope : Scope} {own : List (Str × Nat)} {py : Pos} (f : Fx X P w K mg base N sc z) (hn : Nth N i x) (o : Own N scope.names own) (hw : Wp δ own δ') (ok : blkC N sc scope own = true)
    (hy : sc.names.lookup x = some .local) (hk : sc.kind = .function) (hl : (py.line == p.line) = true) (ha : (scope.names.any fun (n, k) => n == x && (k == .local || k == .cell)) = false)
    (hi : WJ c tg iter δ (Turns P w K mg base N U lv tg ifs elt scope sc δ' (own.map (·.2)) fun ds => Sto δ i (.own ds) E.nx)) (hs : ∀ x, foldedSetIterable iter X.env x = pure x := by intro _; rfl) : WS c (.Assign [.Name x py] (.ListComp elt [⟨tg, iter, ifs, 0⟩] scope p) pos) δ E :=
  sLcO f hn o ok hy hk hl ha (by rw [hw.eq]; exact hi) hs
/-- x = e: data that stay -/
theorem sSetE {p' : Pos} (f : Fx X P w K mg base N sc z) (hn : Nth N i x) (hl : tgB z sc x = true) (h : WE c e δ fun d => d.still = true ∧ Sto δ i d E.nx) (hs : swapsWith e (some (.Name x p')) pos.line X.env = pure false := by rfl) : WS c (.Assign [.Name x p'] e pos) δ E :=
  sSet f hn hl (WO_of h) hs
/-- x = a new list -/
theorem sSetF {p' : Pos} (f : Fx X P w K mg base N sc z) (hn : Nth N i x) (hl : tgB z sc x = true) (h : WF c e δ fun ds => Sto δ i (.own ds) E.nx) (hs : swapsWith e (some (.Name x p')) pos.line X.env = pure false := by rfl) : WS c (.Assign [.Name x p'] e pos) δ E :=
  sSet f hn hl (WO_new h) hs
theorem sApp2 {xs : List D} {p' apos cpos : Pos} (f : Fx X P w K mg base N sc z) (hn : Nth N i x) (hd : Nth δ i (some (.own xs))) (hv : visB sc x = true) (h : WE c e δ fun d => d.still = true ∧ xs.length < sizeLine ∧ Sto δ i (.own (xs ++ [d])) E.nx)
    (hs : swapsWith (.Call (.Attribute (.Name x p') "append" apos) [e] [] cpos) none pos.line X.env = pure false := by rfl)
    (hbase : attributeBase (.Name x p') "append" X.env (eval (.Name x p') X.env) = eval (.Name x p') X.env := by rfl) (hfew : ((backTo cpos (starEach [e] X.env)).all (fun x => !x.1) && (backToKw cpos (keywordEach [] X.env)).all (fun x => x.1.isSome) && decide (([e] : List Expr).length + ([] : List Keyword).length + (if ([] : List Keyword).isEmpty then 0 else 1) < 30)) = true := by rfl)
    (hline : (apos.endLine == cpos.line) = true := by rfl) (he : starEach (e :: []) X.env = (false, eval e X.env) :: starEach [] X.env := by rfl) (hpl : (backTo cpos (starEach [] X.env)).any (·.1) = false := by rfl) :
    WS c (.Expr (.Call (.Attribute (.Name x p') "append" apos) [e] [] cpos) pos) δ E := sApp f hn hd hv h hs hbase hfew hline he hpl
theorem sExt2 {xs : List D} {p' apos cpos : Pos} (f : Fx X P w K mg base N sc z) (hn : Nth N i x) (hd : Nth δ i (some (.own xs))) (hv : visB sc x = true) (h : WE c e δ fun d => ∃ ys, d = .lst ys ∧ xs.length + ys.length ≤ sizeLine ∧ Sto δ i (.own (xs ++ ys)) E.nx)
    (hs : swapsWith (.Call (.Attribute (.Name x p') "extend" apos) [e] [] cpos) none pos.line X.env = pure false := by rfl)
    (hbase : attributeBase (.Name x p') "extend" X.env (eval (.Name x p') X.env) = eval (.Name x p') X.env := by rfl) (hfew : ((backTo cpos (starEach [e] X.env)).all (fun x => !x.1) && (backToKw cpos (keywordEach [] X.env)).all (fun x => x.1.isSome) && decide (([e] : List Expr).length + ([] : List Keyword).length + (if ([] : List Keyword).isEmpty then 0 else 1) < 30)) = true := by rfl)
    (hline : (apos.endLine == cpos.line) = true := by rfl) (he : starEach (e :: []) X.env = (false, eval e X.env) :: starEach [] X.env := by rfl) (hpl : (backTo cpos (starEach [] X.env)).any (·.1) = false := by rfl) :
    WS c (.Expr (.Call (.Attribute (.Name x p') "extend" apos) [e] [] cpos) pos) δ E := sExt f hn hd hv h hs hbase hfew hline he hpl
theorem sPut2 {xs : List D} {p' spos : Pos} {ix : Expr} (f : Fx X P w K mg base N sc z) (hn : Nth N i x) (hd : Nth δ i (some (.own xs))) (hv : visB sc x = true) (h : WE c e δ fun d => d.still = true ∧ WE c ix δ fun y => ∃ (k : Int) (j : Nat), y = .int k ∧ ixN xs.length k = some j ∧ Sto δ i (.own (xs.set j d)) E.nx)
    (ha : ∀ v, assign (.Subscript (.Name x p') ix spos) X.env v = (do
      let ov ← holding [v] (eval (.Name x p') X.env)
      let iv ← holding [v, ov] (eval ix X.env)
      standAt spos
      holding [v, ov, iv] (setItem ov iv v)
      release [v, ov, iv] []) := by intro _; rfl)
    (hs : swapsWithSole [.Subscript (.Name x p') ix spos] e pos.line X.env = pure false := by rfl) (hw : swappedStores [.Subscript (.Name x p') ix spos] e X.env = pure none := by rfl) (h1 : (assignEach [.Subscript (.Name x p') ix spos] X.env).map (·.2) = [assign (.Subscript (.Name x p') ix spos) X.env] := by rfl) :
    WS c (.Assign [.Subscript (.Name x p') ix spos] e pos) δ E := sPut f hn hd hv h ha hs hw h1
theorem sAug2 {n : Int} (f : Fx X P w K mg base N sc z) (hn : Nth N i x) (hd : Nth δ i (some (.int n))) (hl : tgB z sc x = true) (h : WE c e δ fun d => ∃ m, d = .int m ∧ Sto δ i (.int (n + m)) E.nx) : WS c (.AugAssign (.Name x p) .Add e pos) δ E := sAug f hn hd hl h
/-- a, b = e, e a tuple -/
theorem sTup {es : List Expr} {kt pt} (n : Nat) (h : WE c e δ fun d => ∃ ds, d = .tup ds ∧ (assignEach es X.env).length = ds.length ∧ AGs c es δ ds (List.range n) E.nx) (hst : (assignEach es X.env).findIdx? (·.1) = none := by rfl)
    (hs : swapsWithSole [.Tuple es kt pt] e pos.line X.env = pure false := by rfl) (hw : swappedStores [.Tuple es kt pt] e X.env = pure none := by rfl) (h1 : (assignEach [.Tuple es kt pt] X.env).map (·.2) = [assign (.Tuple es kt pt) X.env] := by rfl) : WS c (.Assign [.Tuple es kt pt] e pos) δ E :=
  WS_asg (List.range n) (h.mono fun d ⟨ds, hd, hn, z⟩ => by
    subst hd
    exact ⟨rfl, tT z hn hst⟩) hs hw h1
/-- a, b = x, y -/
theorem sPar2 {j : Nat} {y : Str} {px py pt : Pos} {kt k2 pt2} (f : Fx X P w K mg base N sc z) (hi : Nth N i x) (hj : Nth N j y) (hij : i ≠ j) (hx : sc.names.lookup x = some .local) (hy : sc.names.lookup y = some .local) (h : WO c a δ fun d1 => WO c b δ fun d2 => Sto δ i d1 fun δ1 => Sto δ1 j d2 E.nx)
    (hw : ∀ env : Env, env.scope = sc → swappedStores [.Tuple [.Name x px, .Name y py] kt pt] (.Tuple [a, b] k2 pt2) env = pure (some [x, y]))
    (hs : swapsWithSole [.Tuple [.Name x px, .Name y py] kt pt] (.Tuple [a, b] k2 pt2) pos.line X.env = pure false := by rfl) (s1 : starEach (a :: [b]) X.env = (false, eval a X.env) :: starEach [b] X.env := by rfl) (s2 : starEach (b :: []) X.env = (false, eval b X.env) :: starEach [] X.env := by rfl) :
    WS c (.Assign [.Tuple [.Name x px, .Name y py] kt pt] (.Tuple [a, b] k2 pt2) pos) δ E := sPar f hi hj hij hx hy h hw hs s1 s2
end
end Dl

set_option maxRecDepth 100000
set_option maxHeartbeats 4000000
/-! # enumerate of a tuple -/
namespace Dl
open PySem PySem.Spec PyProof.Rows L2
theorem ckEnum (x : Value) : checkTypeCall "enumerate" ⟨[x], []⟩ = pure () := F.typeCall_enumerate_1 x
/-- enumerate.__new__ of what an iterator begins with -/
theorem newEnum {x : Value} {ob : Obj} {G : Heap → Prop} (Bg : Begins x ob G) : Meets (Builtin.«enumerate.__new__» ⟨[.type "enumerate", x], []⟩) (fun _ R st => G st.heap ∧
      R (.ok (.ret (.ref (st.heap.push ob).objs.size))) { st with heap := (st.heap.push ob).push { cls := .type "enumerate", data := .fields #[.none, .bool false, .ref st.heap.objs.size, rawInt 0, .none, .none] } }) :=
  .of_wp fun pr wd Ar R st hh => by
    obtain ⟨h0, gl, dn, tk, os⟩ := st; obtain ⟨g1, hR⟩ := hh
    have hsb := sub_enumerate
    have it1 : ∀ {A' : Around} {E' : Value → Shared → Prop} {Q' : Value → Shared → Prop}, Q' (.ref h0.objs.size) ⟨h0.push ob, gl, dn, tk, os⟩ → wpAny (model pr wd) A' (pyIter x) Q' E' ⟨h0, gl, dn, tk, os⟩ := fun q => Bg.iter pr wd _ _ ⟨h0, gl, dn, tk, os⟩ _ g1 q
    wp_walk using it1
    refine wpAny_stack_any fun sk => wpAny_pure ?_
    split
    · rename_i c _ _ _ _ _
      cases (c == Value.type "enumerate")
      · wp_walk using it1
        exact ⟨_, rfl, hR⟩
      · wp_walk using it1
        exact ⟨_, rfl, hR⟩
    · wp_walk using it1
      exact ⟨_, rfl, hR⟩
theorem enumBegins {pr : Program} {wd : World} {Ar : Around} {Ex : Value → Shared → Prop} {st : Shared} {x : Value} {ob : Obj} {G : Heap → Prop} {Q : Value → Shared → Prop} (Bg : Begins x ob G) (g1 : G st.heap)
    (hQ : ∀ h', IsEnum h' (st.heap.objs.size + 1) st.heap.objs.size 0 .none → h'.get? st.heap.objs.size = some ob → h'.objs.size = st.heap.objs.size + 2 → (∀ b o, st.heap.get? b = some o → h'.get? b = some o) → Q (.ref (st.heap.objs.size + 1)) { st with heap := h' }) : wpAny (model pr wd) Ar (call (.type "enumerate") [x]) Q Ex st := by
  have sz : (st.heap.push ob).objs.size = st.heap.objs.size + 1 := Heap.size_push ..
  refine callType_new F.called_enumerate (by decide) (ckEnum x) (F.newCall_enumerate_1 _) (fun obj => F.args_object_init_2 obj _) F.entry_enumerate_new (newEnum Bg) ⟨g1, ?_⟩
  show _ ∧ _
  rw [sz]
  have isE : IsEnum ((st.heap.push ob).push { cls := .type "enumerate", data := .fields #[.none, .bool false, .ref st.heap.objs.size, rawInt 0, .none, .none] }) (st.heap.objs.size + 1) st.heap.objs.size 0 .none := by
    have z := Heap.get?_push_size (st.heap.push ob) (o := { cls := .type "enumerate", data := .fields #[.none, .bool false, .ref st.heap.objs.size, rawInt 0, .none, .none] }) rfl
    rw [sz] at z
    exact z
  exact ⟨⟨_, isE, rfl⟩, hQ _ isE (Heap.get?_push_of_some _ (Heap.get?_push_size _ Bg.free)) (by rw [Heap.size_push, sz]) fun b o z => Heap.get?_push_of_some _ (Heap.get?_push_of_some _ z)⟩
/-- the tuple at t, its items numbered, each in a new pair -/
def IteT (K : PySem.W.Frag) (t : Addr) : It :=
  ⟨fun i H => ∃ (us : List V) (u : V), SqT K H t us ∧ us[i]? = some u,
    fun i H r H' => ∃ T u, r = .ref T ∧ H T = none ∧ H' = upd H T (.tup [.int (i : Nat), u]) ∧ ∀ us, SqT K H t us → us[i]? = some u,
    fun i H => ∃ us : List V, SqT K H t us ∧ us.length ≤ i⟩
theorem turnEnumT {P : Program} {w : World} {K : PySem.W.Frag} {elts : List Expr} {kk : Nat} {tp : Pos} (t e j : Addr) :
    Turn P w K (.Tuple elts kk tp) (IteT K t) [e, j] e (fun i h => (∃ old, IsEnum h e j ((i : Nat) : Int) old) ∧ h.IsTupleIter j t i ∧ e ≠ j ∧ t ≠ j ∧ e ≠ t) where
  mem := by simp
  obj := fun i h ⟨⟨old, isE⟩, ⟨o, o1, _, o3⟩, _⟩ b hb => by
    have cs : b = e ∨ b = j := by simpa using hb
    rcases cs with rfl | rfl
    · exact ⟨_, isE, fun v q => nomatch q⟩
    · exact ⟨o, o1, fun v q => by rw [o3] at q; cases q⟩
  keep := fun i h h' ⟨⟨old, isE⟩, hj, ne⟩ kp => ⟨⟨old, kp e (by simp) _ isE⟩, hj.at fun o q => kp j (by simp) o q, ne⟩
  item := by
    intro X hP hw hK hc i pins s σ H E I hf st hg
    subst hP hw hK
    obtain ⟨⟨old, isE⟩, hj, ne1, ne2, ne3⟩ := st
    obtain ⟨us, u, hq, hu⟩ := hg
    obtain ⟨its, rv, p, hz⟩ := I.tuple hq
    obtain ⟨u', hu', ru⟩ := rv.get hu
    have le : e < s.heap.objs.size := Heap.lt_size isE
    have lj : j < s.heap.objs.size := by obtain ⟨_, q, _⟩ := hj; exact Heap.lt_size q
    have lt : i < its.toArray.size := by
      have := (List.getElem?_eq_some_iff.mp hu').1
      simpa using this
    refine wpAny_pyNext_enum_itemD (Draws.tuple (A := X.A.in1) (I.ok.hd hc) j t ne2 its.toArray) isE ⟨hj, p⟩ lt ne1 (by simp [ne1, ne3]) fun x h' tk hx isO st' hT hsz hk => ?_
    obtain rfl : x = u' := by
      have hx : its.toArray[i]? = some x := hx
      rw [List.getElem?_toArray, hu'] at hx
      exact (Option.some.inj hx).symm
    refine ⟨_, rfl, wpAny_letOwnedTupleGo_enum (s := { s with heap := h', toks := tk + 1 }) isO fun h'' isE' sb => ?_⟩
    have hT2 : h''.get? s.heap.objs.size = some { cls := .type "tuple", data := .seq #[.int i tk, x] } := (sb.2 _ (Nat.ne_of_gt le)).trans hT
    have new : ObjOk X.prog X.w (upd H s.heap.objs.size (.tup [.int (i : Nat), u])) h'' s.heap.objs.size (.tup [.int (i : Nat), u]) := ⟨by show 2 ≤ sizeLine; decide, [.int i tk, x], .cons ⟨_, rfl⟩ (.cons ru .nil), ⟨_, hT2, rfl, _, rfl⟩⟩
    have I1 : Inv X pins σ (upd H s.heap.objs.size (.tup [.int (i : Nat), u])) { s with heap := h'', toks := tk + 1 } := I.turnedNew (ch := [e, j]) (fun b ob hb q => (sb.2 b (fun z => hb (by simp [z]))).trans (hk b ob (fun z => hb (by simp [z])) (fun z => hb (by simp [z])) q)) hf (Nat.le_refl _) new
    refine ⟨.ref s.heap.objs.size, _, I1, rfl, ⟨_, u, rfl, I.hok.fresh (Nat.le_refl _), rfl, fun ys hy => by rw [I.tuple_inj hy hq]; exact hu⟩, ⟨⟨x, ?_⟩, st'.1.at fun o q => (sb.2 j (Ne.symm ne1)).trans q, ne1, ne2, ne3⟩, fun b hb => ?_⟩
    · have e1 : ((i + 1 : Nat) : Int) = (i : Int) + 1 := by omega
      rw [e1]
      exact isE'
    · have cs : b = e ∨ b = j := by simpa using hb
      have lb : b < s.heap.objs.size := by rcases cs with rfl | rfl <;> assumption
      rw [upd_ne (Nat.ne_of_lt lb)]
      exact (hf b hb).1
  done := by
    intro X hP hw hK hc i pins s σ H E I hf st hg
    subst hP hw hK
    obtain ⟨⟨old, isE⟩, hj, ne1, ne2, ne3⟩ := st
    obtain ⟨us, hq, hu⟩ := hg
    obtain ⟨its, rv, p, hz⟩ := I.tuple hq
    obtain ⟨f0, f1, f2, f3, f4, f5⟩ := hf j (by simp)
    have hl := rv.length
    by_cases hi : i = its.toArray.size
    · subst hi
      exact wpAny_pyNext_enum_endD (Draws.tuple (A := X.A.in1) (I.ok.hd hc) j t ne2 its.toArray) isE ⟨hj, p⟩ fun h' eb => ⟨rfl, I.turned (t' := s.toks) (fun b o hb q => eb b o hb q) f0 f1 f3 f4 f5⟩
    · have hT : s.TypeIs (.ref e) "enumerate" := ⟨_, isE, rfl⟩
      unfold pyNext
      refine wpAny_bind (wpAny_attempt (wpAny_callSpecial?_slot (name := Str.ofString "__next__") hT F.slot_enumerate_next (wpAny_call_entry F.slot_enumerate_next hT F.entry_enumerate_next ?_ (F.args_enumerate_next_1 _))))
      show wpAny _ _ (field (.ref e) 2 >>= _) _ _ _
      refine wpAny_bind (wpAny_field isE rfl (x := .ref j) rfl ?_)
      refine wpAny_bind (wpAny_nextOf_tuple_end (A := X.A.in1) (I.ok.hd hc) hj (show s.heap.IsTuple t its.toArray from p) (by simp; omega) fun h' x eb hx' => ?_)
      obtain ⟨o, ho, hcl⟩ := hx'
      refine wpAny_bind (wpAny_isInstance (T := "StopIteration") (b := true) ⟨o, ho, hcl⟩ isSubtype_stop ?_)
      exact wpAny_pure ⟨rfl, I.turned (t' := s.toks) (fun b o hb q => eb b o hb q) f0 f1 f3 f4 f5⟩
  self := fun A i s Q E ⟨⟨_, isE⟩, _⟩ h => wpAny_pyIter_enum isE h
def iEnumT (K : PySem.W.Frag) (ta : TA) : TI := fun σ H R => ta σ H fun vs H1 => ∃ t us, vs = [.ref t] ∧ SqT K H1 t us ∧ R (IteT K t) H1
theorem piEnumT {X : Cx} {e : Expr} {ta : TA} {p pos tp : Pos} {elts : List Expr} {kk : Nat} (hg : Gl X "enumerate") (hm : X.mg "enumerate" = none) (ha : PA X [e] ta) (hs : starEach [e] X.env = [(false, eval e X.env)]) :
    PI X (.Tuple elts kk tp) (.Call (.Name "enumerate" p) [e] [] pos) (iEnumT X.K ta) := by
  refine ⟨fun pins s σ H R I h => ?_⟩
  refine Call_ (ld_blt I hg hm boot_enumerate (PyProof.Rows.callWith_type1 (thn (ha.run pos pins s σ H _ I h) fun us s1 ⟨vs, H1, I1, r1, t, xs, ex, hq, q⟩ => ?_) hs rfl))
  subst ex
  cases r1 with
  | cons r rr =>
    cases rr
    cases r
    obtain ⟨its, rv, p', hz⟩ := I1.tuple hq
    obtain ⟨ot, hot, _⟩ := id p'
    have lt : t < s1.heap.objs.size := Heap.lt_size hot
    refine enumBegins (begins_tuple t its.toArray) (show s1.heap.IsTuple t its.toArray from p') fun h' isE hj hsz hk => wpAny_pyIter_enum isE ?_
    have I2 : Inv X pins σ H1 { s1 with heap := h' } := I1.kept (t' := s1.toks) hk
    refine ⟨s1.heap.objs.size + 1, [s1.heap.objs.size + 1, s1.heap.objs.size], _, _, H1, rfl, I2, turnEnumT t (s1.heap.objs.size + 1) s1.heap.objs.size, ⟨⟨.none, isE⟩, ⟨_, hj, rfl, rfl⟩, Nat.succ_ne_self _, Nat.ne_of_lt lt, Nat.ne_of_gt (Nat.lt_succ_of_lt lt)⟩, fun b hb => ?_, q⟩
    have cs : b = s1.heap.objs.size + 1 ∨ b = s1.heap.objs.size := by simpa using hb
    have le : s1.heap.objs.size ≤ b := by
      rcases cs with rfl | rfl
      · exact Nat.le_succ _
      · exact Nat.le_refl _
    exact I1.fpOk le (I1.hok.fresh le)
section
variable {X : Cx} {U : Pu} {lv : Nat} {T : XD} {c : Ct X U lv T} {δ : List (Option D)} {S : List D → Prop} {pos : Pos}
theorem walk_et {K : PySem.W.Frag} {L : List Addr} {H B : Hp} {a : Addr} {vs : List V} {ds : List D} (ha : SqT K B a vs) (ra : Reps K U (hide L H) ds vs) (z : ds.length ≤ sizeLine) : Walk K U L H B (IteT K a) (numbered ds) := by
  have e1 := ra.len
  refine ⟨by rw [numbered_len]; exact z, fun i H2 e hi => ?_, fun H2 e => ?_, fun i x H2 H3 e hi y => ?_⟩
  · rw [numbered_len] at hi
    exact ⟨vs, vs[i]'(by omega), seqT_mono e ha, by simp⟩
  · refine ⟨vs, seqT_mono e ha, ?_⟩
    rw [numbered_len]
    omega
  · obtain ⟨T, x1, rfl, hT, rfl, f1⟩ := y
    obtain ⟨d1, g1, r1⟩ := ra.getV (f1 vs (seqT_mono e ha))
    exact ⟨new_ext hT, .tup [.int (i : Nat), d1], numbered_get g1, rfl, fun L' hl s => pair_rep hT hl s (d := .int (i : Nat)) rfl r1⟩
theorem WI_enumT {a : Expr} {elts : List Expr} {kk : Nat} {tpos p : Pos} (hm : X.mg "enumerate" = none) (h : WA c [a] δ fun ds => ∃ xs, ds = [.tup xs] ∧ S (numbered xs)) (hg : Gl X "enumerate") (hs : starEach [a] X.env = [(false, eval a X.env)]) :
    WI c (.Tuple elts kk tpos) (.Call (.Name "enumerate" p) [a] [] pos) δ S := fun L σ H R E q =>
  runI_of (piEnumT hg hm pa_run hs) (h L σ H _ E fun vs H1 ds s1 r1 ⟨xs, hd, z⟩ => by
    subst hd
    obtain ⟨v, rfl, a, vs, rfl, ha, ra, za⟩ := r1.one
    exact ⟨a, vs, rfl, seqT_mono hide_ext.k ha, q _ H1 _ s1 (walk_et ha ra za) z⟩)
theorem iEnT {P : Program} {w : World} {K : PySem.W.Frag} {mg : Str → Option Value} {base : Heap} {N : List Str} {sc : Scope} {z : Zk} {a : Expr} {p : Pos} {elts : List Expr} {kk : Nat} {tpos : Pos} (f : Fx X P w K mg base N sc z) (hm : mg "enumerate" = none) (hg : glbB sc "enumerate" = true) (h : WA c [a] δ fun ds => ∃ xs, ds = [.tup xs] ∧ S (numbered xs)) (hs : starEach [a] X.env = [(false, eval a X.env)] := by rfl) :
    WI c (.Tuple elts kk tpos) (.Call (.Name "enumerate" p) [a] [] pos) δ S := WI_enumT (by rw [f.m]; exact hm) h (f.gl hg) hs
end
section
variable {X : Cx} {P : Program} {w : World} {K : PySem.W.Frag} {mg : Str → Option Value} {base : Heap} {N : List Str} {sc : Scope} {z : Zk} {U : Pu} {lv : Nat} {T : XD} {c c2 : Ct X U lv T} {δ : List (Option D)} {S : D → Prop} {o : Spot} {rest : List Stmt} {pos : Pos}
/-- self.g = e, in the names of a class -/
theorem bSet {g : Str} {e oe : Expr} {p' : Pos} {ns names : List Str} {ds : List D} (f : Fx X P w K mg base N sc z) (p : Spo c c2 o) (hC : OkC K o.C names) (hm : decide (g ∈ names ∧ g ∉ ns ∧ ns.length < 999) = true) (ho : WE c2 oe δ fun d => d = .any (.ref o.x))
    (h : WE c2 e δ fun d => d.still = true ∧ WB c2 o rest δ (ns ++ [g]) (ds ++ [d]) S) (hs : swapsWith e (some (.Attribute oe g p')) pos.line X.env = pure false := by rfl) : WB c2 o (.Assign [.Attribute oe g p'] e pos :: rest) δ ns ds S := by
  have hm := of_decide_eq_true hm
  exact WB_set p (by rw [f.k]; exact hC.cls) (by rw [f.k]; exact hC.na g hm.1) hm.2.1 hm.2.2 ho h hs
theorem bKeep {pl : Sem Bool} {m : Str} {n k : Nat} {sp : DSpec} {oe e : Expr} {es : List Expr} {names : List Str} {apos cpos : Pos} (f : Fx X P w K mg base N sc z) (p : Spo c c2 o) (F : Mi P w K mg base U k o.C m n sp) (hk : k ≤ lv) (hC : OkC K o.C names) (ho : WE c2 oe δ fun d => d = .any (.ref o.x))
    (h : WA c2 (e :: es) δ fun as => as.length = n ∧ stills as = true ∧ sp as S noX) (hs : swapsWith (.Call (.Attribute oe m apos) (e :: es) [] cpos) none pos.line X.env = pure false := by rfl)
    (hst : starEach (e :: es) X.env = (false, eval e X.env) :: starEach es X.env := by rfl) (hpl : (backTo cpos (starEach es X.env)).any (·.1) = false := by rfl)
    (ht : eval (.Call (.Attribute oe m apos) (e :: es) [] cpos) X.env = (do
      let ov ← eval oe X.env
      standAt apos.atName
      let (f, first) ← holding [ov] (getMethod ov m pl)
      callWith cpos f first (backTo cpos (starEach (e :: es) X.env)) (backToKw cpos (keywordEach [] X.env))) := by rfl) :
    WB c2 o [.Expr (.Call (.Attribute oe m apos) (e :: es) [] cpos) pos] δ [] [] S :=
  WB_keep p (by rw [f.p, f.w, f.k, f.m, f.b]; exact F) hk (by rw [f.k]; exact hC.cls) ho h hs hst hpl ht
end
section
variable {X : Cx} {U : Pu} {lv : Nat} {T : XD} {c : Ct X U lv T} {S : D → Prop}
theorem isT1 {xs : List D} (h : S (.bl true)) : CD c (.builtin "isinstance") [.tup xs, .any (.ty "tuple")] S := CD_isTup rfl h
theorem isI1 {i : Int} (h : S (.bl true)) : CD c (.builtin "isinstance") [.int i, .any (.ty "int")] S := CD_isInt rfl h
theorem isI2 {i : Bool} (h : S (.bl true)) : CD c (.builtin "isinstance") [.bl i, .any (.ty "int")] S := CD_isInt rfl h
theorem isB1 {i : Bool} (h : S (.bl true)) : CD c (.builtin "isinstance") [.bl i, .any (.ty "bool")] S := CD_isBool rfl h
theorem isB0 {i : Int} (h : S (.bl false)) : CD c (.builtin "isinstance") [.int i, .any (.ty "bool")] S := CD_isBool rfl h
theorem isL1 {xs : List D} (h : S (.bl true)) : CD c (.builtin "isinstance") [.lst xs, .any (.ty "list")] S := CD_isLst rfl h
variable {b : Bool} {A B : Prop}
theorem ite_y (h : b = true) (k : A) : if b = true then A else B := by rw [if_pos h]; exact k
theorem ite_no (h : b = false) (k : B) : if b = true then A else B := by rw [h]; exact ite_f k
theorem ite_ny (h : b = true) (k : B) : if (!b) = true then A else B := by rw [h]; exact ite_f k
theorem ite_nno (h : b = false) (k : A) : if (!b) = true then A else B := by rw [h]; exact ite_t k
end
section
variable {X : Cx} {P : Program} {w : World} {K : PySem.W.Frag} {mg : Str → Option Value} {base : Heap} {N : List Str} {sc : Scope} {z : Zk} {U : Pu} {lv : Nat} {T : XD} {c : Ct X U lv T} {δ : List (Option D)} {E : SE} {pos : Pos}
/-- what a loop is to keep -/
def ForT (c : Ct X U lv T) (N : List Str) (tg : Expr) (body : List Stmt) (δ : List (Option D)) (E : SE) (ds : List D) : Prop := ∃ (α : Type) (enc : α → D) (xs : List α) (I : Nat → List (Option D) → Prop), ds = xs.map enc ∧ I 0 δ ∧
  (∀ (i : Nat) (x : α) (δ' : List (Option D)), xs[i]? = some x → I i δ' → ∀ (B : Hp) (hs : Same U c.Hb B), AG (c.at_ B hs) tg δ' (enc x) (List.range N.length) fun δ2 => WSs (c.at_ B hs) body δ2 { E with nx := I (i + 1), ct := I (i + 1), bk := E.nx }) ∧ ∀ δ', I xs.length δ' → E.nx δ'
theorem sFor2 {tg iter : Expr} {body : List Stmt} (f : Fx X P w K mg base N sc z) (h : WI c tg iter δ fun ds => ForT c N tg body δ E ds) (hs : ∀ x, foldedSetIterable iter X.env x = pure x := by intro _; rfl) : WS c (.For tg iter body [] pos) δ E := by
  refine WS_for (List.range N.length) (fun L σ H R En q => h L σ H R En fun J H' ds s w z => q J H' ds s w ?_) hs
  obtain ⟨α, enc, xs, I, rfl, h0, hst, hf⟩ := z
  refine ⟨I, h0, fun i d δ' hd _ hi B hB => ?_, fun δ' k => hf δ' (by rw [List.length_map] at k; exact k)⟩
  rw [List.getElem?_map] at hd
  cases q : xs[i]? with
  | none => rw [q] at hd; cases hd
  | some x => rw [q] at hd; cases hd; exact hst i x δ' q hi B hB
end
section
variable {P : Program} {w : World} {K : PySem.W.Frag} {mg : Str → Option Value} {base : Heap} {N : List Str} {sc : Scope} {U : Pu} {lv : Nat} {δ : List (Option D)} {α β : Type} {tg elt t : Expr} {scope : Scope} {ts : List Nat} {S : List D → Prop} {ds : List D}
theorem tMapE (e : β → D) (f : α → β) (enc : α → D) (xs : List α) (hds : ds = xs.map enc) (h : ∀ x, x ∈ xs → BlkO P w K mg base N U lv scope sc fun c1 => AG c1 tg δ (enc x) ts fun δ2 => BlkO P w K mg base N U lv scope sc fun c3 => WE c3 elt δ2 fun y => y.still = true ∧ y = e (f x)) (hS : S ((xs.map f).map e)) :
    Turns P w K mg base N U lv tg [] elt scope sc δ ts S ds := tMap enc xs (fun x => e (f x)) hds h (by rw [List.map_map] at hS; exact hS)
theorem tIfE (e : β → D) (f : α → β) (t2 : α → Bool) (enc : α → D) (xs : List α) (hds : ds = xs.map enc) (h : ∀ x, x ∈ xs → BlkO P w K mg base N U lv scope sc fun c1 => AG c1 tg δ (enc x) ts fun δ2 => BlkO P w K mg base N U lv scope sc fun c2 => WT c2 t δ2 fun b => b = t2 x ∧ (b = true → BlkO P w K mg base N U lv scope sc fun c3 => WE c3 elt δ2 fun y => y.still = true ∧ y = e (f x))) (hS : S (((xs.filter t2).map f).map e)) :
    Turns P w K mg base N U lv tg [t] elt scope sc δ ts S ds := tIf enc xs t2 (fun x => e (f x)) hds h (by rw [List.map_map] at hS; exact hS)
end
theorem take_snoc {α β : Type} {l : List α} {i : Nat} {x : α} (g : α → β) (h : l[i]? = some x) : (l.take (i + 1)).map g = (l.take i).map g ++ [g x] := by
  rw [List.take_add_one, h]
  simp
/-! ### tuples and lists of ints, joined -/
def zeros (n : Nat) : List Int := List.replicate n 0
theorem rep_zeros (n : Nat) : (List.replicate n [D.int 0]).flatten = (zeros n).map D.int := by
  induction n with
  | zero => rfl
  | succ n ih => rw [List.replicate_succ, List.flatten_cons, ih]; rfl
section
variable {X : Cx} {U : Pu} {lv : Nat} {T : XD} {c : Ct X U lv T} {S : D → Prop}
theorem OD_zeros {n : Int} (h0 : -1000 ≤ n) (h1 : n ≤ 1000) (h : S (tI (zeros n.toNat))) : OD c (binaryOp .Mult) (.tup [.int 0]) (.int n) S := OD_mul_tup h0 h1 (by decide) (by rw [rep_zeros]; exact h)
theorem OD_add_tM {α : Type} {e : α → D} {xs ys : List α} (hz : xs.length + ys.length ≤ 16777216) (h : S (.tup ((xs ++ ys).map e))) : OD c (binaryOp .Add) (.tup (xs.map e)) (.tup (ys.map e)) S := OD_add_tup (by simpa [sizeLine] using hz) (by rw [← List.map_append]; exact h)
theorem OD_add_lM {α : Type} {e : α → D} {xs ys : List α} (hz : xs.length + ys.length ≤ 16777216) (h : S (.lst ((xs ++ ys).map e))) : OD c (binaryOp .Add) (.lst (xs.map e)) (.lst (ys.map e)) S := OD_add_lst (.lst _) (.lst _) (by simpa [sizeLine] using hz) (by rw [← List.map_append]; exact h)
end
end Dl

set_option maxRecDepth 100000
set_option maxHeartbeats 4000000
/-! # More statements: xs.extend(tuple), a, b, c = x, y, z; draws in comprehensions -/
namespace Dl
open PySem PySem.Spec PyProof.Rows L2
theorem extTup (p : Addr) (its : Array Value) (n : Nat) (b : Addr) (us : Array Value) (n2 : Nat) (dd : Option Addr) (sl : Array (Option Value)) (h0 : ¬(!its.isEmpty && Builtin.List.listTooLong (its.size + us.size)) = true) (h1 : its.size ≤ sizeLine) (h2 : its.size + us.size ≤ sizeLine + 1) :
    Meets (Builtin.«list.extend» ⟨[.ref p, .ref b], []⟩) (fun _ R st => st.heap.get? p = some { cls := .type "list", dict := none, data := .seq its n, slots := #[] } ∧ st.heap.get? b = some { cls := .type "tuple", dict := dd, data := .seq us n2, slots := sl } ∧
      R (.ok (.ret Value.none)) { st with heap := st.heap.update p (Obj.mapSeq fun z => z ++ us), toks := st.toks }) :=
  .of_wp fun pr wd Ar R st hh => by
    obtain ⟨h0', gl, dn, tk, os⟩ := st; obtain ⟨hl, hb, hR⟩ := hh; have q1 := AutoSeq1.idx_int; have q2 := AutoSeq1.sub_tuple_tuple; have q3 := AutoSeq1.sub_list_list; have q4 := AutoSeq1.sub_tuple_list; have q5 := AutoSeq1.sub_list_tuple
    have hz : (its ++ us).size ≤ sizeLine + 1 := by rw [Array.size_append]; exact h2
    wp_walk using (wpAny_updateSeq hl rfl (hz := h1) (_hz' := hz)), AutoSeq1.wpAny_loadPart' hl, AutoSeq1.wpAny_loadPart' hb
    exact ⟨_, rfl, hR⟩
def rExtT (K : PySem.W.Frag) : V → List V → Hp → VK → Prop := fun x vs H Q => ∃ l b xs zs, x = .ref l ∧ vs = [.ref b] ∧ H l = some (.lst xs) ∧ SqT K H b zs ∧ xs.length + zs.length ≤ sizeLine ∧ Q .non (upd H l (.lst (xs ++ zs)))
theorem mtExtT {X : Cx} : MtM X "list.extend" (rExtT X.K) := by
  intro pins s σ H x vs v us Q I rx rv h
  obtain ⟨l, b, xs, zs, rfl, rfl, hH, hB, hz, q⟩ := h
  cases rx
  obtain ⟨u, rfl, ru⟩ := rv.one
  cases ru
  obtain ⟨z, its, n, r, hl, e⟩ := I.lstM hH
  obtain ⟨its2, r2, p2, hl2⟩ := I.tuple hB
  obtain ⟨o2, e2, c2, n2, d2⟩ := id p2
  have e2' : s.heap.get? b = some { cls := .type "tuple", dict := o2.dict, data := .seq its2.toArray n2, slots := o2.slots } := by
    rw [e2]
    cases o2
    cases c2
    cases d2
    rfl
  have l1 := r.length
  have l2 := r2.length
  have hsz : its.toArray.size + its2.toArray.size ≤ sizeLine := by rw [List.size_toArray, List.size_toArray]; omega
  have hlong : ¬ (!its.toArray.isEmpty && Builtin.List.listTooLong (its.toArray.size + its2.toArray.size)) = true := by
    have : Builtin.List.listTooLong (its.toArray.size + its2.toArray.size) = false := by
      unfold Builtin.List.listTooLong
      exact decide_eq_false (by omega)
    rw [this, Bool.and_false]
    exact Bool.false_ne_true
  refine call_meets F.slot_list_extend ⟨_, e, rfl⟩ F.entry_list_extend (F.args_list_extend_2 _ _) (extTup l its.toArray n b its2.toArray n2 _ _ hlong (by omega) (by omega)) ⟨e, e2', ?_⟩
  refine ⟨.non, _, I.lset (its' := its ++ its2) hH e (by simp) (r.append r2) ?_, rfl, q⟩
  rw [List.length_append]
  omega
theorem mtExtA {X : Cx} : MtM X "list.extend" (fun x vs H Q => rExtend x vs H Q ∨ rExtT X.K x vs H Q) := fun pins s σ H x vs v us Q I rx rv h => h.elim (mt_extend pins s σ H x vs v us Q I rx rv) (mtExtT pins s σ H x vs v us Q I rx rv)
section
variable {X : Cx} {U : Pu} {lv : Nat} {T : XD} {c : Ct X U lv T} {δ : List (Option D)} {E : SE} {e : Expr} {pos : Pos}
theorem WS_extT (i : Nat) {x : Str} {xs : List D} {p apos cpos : Pos} (hi : δ[i]? = some (some (.own xs))) (h : WE c e δ fun d => ∃ ys, (d = .lst ys ∨ d = .tup ys) ∧ xs.length + ys.length ≤ sizeLine ∧ E.nx (δ.set i (some (.own (xs ++ ys))))) (hN : X.N[i]? = some x) (hv : Vis X.env.scope x) (hd : (x == ("__debug__" : Str)) = false) (hcd : (x == ("__classdict__" : Str)) = false)
    (hs : swapsWith (.Call (.Attribute (.Name x p) "extend" apos) [e] [] cpos) none pos.line X.env = pure false)
    (hbase : attributeBase (.Name x p) "extend" X.env (eval (.Name x p) X.env) = eval (.Name x p) X.env) (hfew : ((backTo cpos (starEach [e] X.env)).all (fun x => !x.1) && (backToKw cpos (keywordEach [] X.env)).all (fun x => x.1.isSome) && decide (([e] : List Expr).length + ([] : List Keyword).length + (if ([] : List Keyword).isEmpty then 0 else 1) < 30)) = true)
    (hline : (apos.endLine == cpos.line) = true) (he : starEach (e :: []) X.env = (false, eval e X.env) :: starEach [] X.env) (hpl : (backTo cpos (starEach [] X.env)).any (·.1) = false) :
    WS c (.Expr (.Call (.Attribute (.Name x p) "extend" apos) [e] [] cpos) pos) δ E := fun L σ H De N Cm => by
  obtain ⟨v, hσ, l, vs, rfl, hl, hlb, hH, r, z⟩ := N.rep i _ hi
  refine runS_of (ps_expr (pe_bm PySem.F.plainAttrs_list PySem.F.slot_list_extend PySem.F.type_list_extend mtExtA (pe_var hN hv hd hcd) (pa_cons pe_run pa_nil he) hbase hfew hline he hpl) hs) ?_
  refine ⟨.ref l, hσ, tyL hH, ?_⟩
  refine h L σ H _ N fun w H1 d s1 r1 ⟨ys, hd, zz, k⟩ => ?_
  have r' := Reps.mono (hide_same s1.k) _ _ r
  rcases hd with rfl | rfl
  · obtain ⟨b, ws, rfl, hb, rb, zb⟩ := r1.lst
    refine .inl ⟨l, b, vs, ws, rfl, rfl, s1.at _ _ hH, hb, by rw [← r.len, ← rb.len]; exact zz, ?_⟩
    exact Cm.nx L σ _ _ ((N.mono s1).change hi hσ hl hlb (r'.app rb) (by rw [List.length_append]; exact zz)) k
  obtain ⟨b, ws, rfl, hb, rb, zb⟩ := r1.tup
  refine .inr ⟨l, b, vs, ws, rfl, rfl, s1.at _ _ hH, hb, by rw [← r.len, ← rb.len]; exact zz, ?_⟩
  exact Cm.nx L σ _ _ ((N.mono s1).change hi hσ hl hlb (r'.app rb) (by rw [List.length_append]; exact zz)) k
/-- a, b, c = x, y, z -/
theorem WS_par3 (i j l : Nat) {x y u : Str} {a b e3 : Expr} {px py pu pt : Pos} {kt k2 pt2} (h : WA c [a, b, e3] δ fun ds => ∃ d1 d2 d3, ds = [d1, d2, d3] ∧ d1.still = true ∧ d2.still = true ∧ d3.still = true ∧ E.nx (((δ.set i (some d1)).set j (some d2)).set l (some d3)))
    (hi : X.N[i]? = some x) (hj : X.N[j]? = some y) (hl : X.N[l]? = some u) (hij : i ≠ j) (hil : i ≠ l) (hjl : j ≠ l) (hx : X.env.scope.names.lookup x = some .local) (hy : X.env.scope.names.lookup y = some .local) (hu : X.env.scope.names.lookup u = some .local)
    (hw : swappedStores [.Tuple [.Name x px, .Name y py, .Name u pu] kt pt] (.Tuple [a, b, e3] k2 pt2) X.env = pure (some [x, y, u])) (hs : swapsWithSole [.Tuple [.Name x px, .Name y py, .Name u pu] kt pt] (.Tuple [a, b, e3] k2 pt2) pos.line X.env = pure false) :
    WS c (.Assign [.Tuple [.Name x px, .Name y py, .Name u pu] kt pt] (.Tuple [a, b, e3] k2 pt2) pos) δ E := fun L σ H De N Cm => by
  refine runS_of (ps_par3 c.calm c.nd hi hj hl hij hil hjl hx hy hu pa_run hw hs) (h L σ H _ N fun vs H1 ds s1 r1 ⟨d1, d2, d3, hd, t1, t2, t3, k⟩ => ?_)
  subst hd
  have N1 := N.mono s1
  obtain ⟨v1, r, rfl, q1, v2, r', rfl, q2, v3, r'', rfl, q3, rfl⟩ := r1
  refine ⟨v1, v2, v3, rfl, Cm.nx L _ H1 _ (((N1.set (q1.rep t1)).set (q2.rep t2)).set (q3.rep t3)) k⟩
/-- a call: lists of this frame are read alone -/
inductive FrzL : List D → List D → Prop
  | nil : FrzL [] []
  | own {xs : List D} {r r' : List D} : FrzL r r' → FrzL (.own xs :: r) (.lst xs :: r')
  | st {d : D} {r r' : List D} : d.still = true → FrzL r r' → FrzL (d :: r) (d :: r')
theorem FrzL.eq {ds ds' : List D} (h : FrzL ds ds') : ds.map D.frz = ds' := by
  induction h with
  | nil => rfl
  | own _ ih => rw [List.map_cons, ih]; rfl
  | st s _ ih => rw [List.map_cons, ih, frz_still s]
/-- how a call's arguments are handed on -/
def Pass (n : Nat) (sp : DSpec) (S : D → Prop) (T : XD) (ds : List D) : Prop := ds.length = n ∧ ((stills ds = true ∧ sp ds S T) ∨ ∃ ds', FrzL ds ds' ∧ sp ds' (fun d => d.noL = true ∧ S d) (noLX T))
theorem Pass.still {n : Nat} {sp : DSpec} {S : D → Prop} {T : XD} {ds : List D} (h1 : ds.length = n) (h2 : stills ds = true) (h : sp ds S T) : Pass n sp S T ds := ⟨h1, .inl ⟨h2, h⟩⟩
theorem Pass.own {n : Nat} {sp : DSpec} {S : D → Prop} {T : XD} {ds ds' : List D} (h1 : ds.length = n) (h2 : FrzL ds ds') (h : sp ds' (fun d => d.noL = true ∧ S d) (noLX T)) : Pass n sp S T ds := ⟨h1, .inr ⟨ds', h2, h⟩⟩
theorem WE_callP {x : Str} {n k : Nat} {sp : DSpec} {S : D → Prop} {p : Pos} {es : List Expr} (F : Fn X.prog X.w X.K X.mg X.base U k x n sp) (h : WA c (e :: es) δ (Pass n sp S T)) (hk : k ≤ lv) (hg : Gl X x) (hd : (x == ("__debug__" : Str)) = false)
    (he : starEach (e :: es) X.env = (false, eval e X.env) :: starEach es X.env) (hpl : (backTo pos (starEach es X.env)).any (·.1) = false) : WE c (.Call (.Name x p) (e :: es) [] pos) δ S := fun L σ H Q N q => by
  obtain ⟨f, fd, ps, h1, h2, h3, h4⟩ := F.ex
  refine runE_of (pe_callS h4 (c.room.mono hk) hg h1 h2 h3 (fun σ => passAt c.tk σ) pa_run hd he hpl) (h L σ H _ N fun vs H1 ds s1 r1 ⟨hn, hsp⟩ => ?_)
  have ok1 := N.ok.mono s1
  rcases hsp with ⟨st, hsp⟩ | ⟨ds', hf, hsp⟩
  · refine ⟨L, ds, S, T, ⟨hn, (N.ok.base.trans s1).g c.g⟩, ok1.lsts, r1.reps st, hsp, fun v H' d s r k => q v H' d (s1.trans s) (.of_rep r) k, fun cls od fl H' s r t => ⟨(N.ok.base.trans s1).trans s, fl, RepX.mono (hide_le N.ok.lb) r, t⟩⟩
  · have hf := hf.eq
    refine ⟨[], ds', fun d => d.noL = true ∧ S d, noLX T, ⟨by rw [← hf, List.length_map]; exact hn, (N.ok.base.trans s1).g c.g⟩, fun l hl => by simp at hl, by rw [hide_nil, ← hf]; exact r1.frzs, hsp, fun v H' d s r k => ?_, fun cls od fl H' s r t => ?_⟩
    · rw [hide_nil] at r
      exact q v H' d (s1.trans s) (.of_rep (Rep.noL (ok1.mono s).lsts d v k.1 r)) k.2
    · rw [hide_nil] at r
      refine ⟨(N.ok.base.trans s1).trans s, fl, ?_, t.2⟩
      have ok2 := ok1.mono s
      cases od with
      | none => cases fl with
        | none => exact r
        | some _ => exact r
      | some d => cases fl with
        | none => exact r
        | some z =>
          obtain ⟨ns, ds2⟩ := z
          obtain ⟨vs', g1, g2⟩ := r
          have hlb : ∀ l ∈ c.Lb, MutAt H' l := fun l hl => ok2.lsts l (ok2.lb l hl)
          refine ⟨vs', (hide_ne fun z => ?_).trans g1, Reps.noL hlb _ _ (t.1 _ _ rfl) g2⟩
          obtain ⟨o, m, g⟩ := hlb _ z
          rw [g1] at g
          cases g
          cases m
end
section
variable {X : Cx} {P : Program} {w : World} {K : PySem.W.Frag} {mg : Str → Option Value} {base : Heap} {N : List Str} {sc : Scope} {z : Zk} {U : Pu} {lv : Nat} {T : XD} {c : Ct X U lv T} {δ δ' : List (Option D)} {S : D → Prop} {E : SE} {e a b e3 : Expr} {pos p : Pos} {es : List Expr} {x y u : Str} {i j l : Nat}
theorem eCP {n k : Nat} {sp : DSpec} (f : Fx X P w K mg base N sc z) (F : Fn P w K mg base U k x n sp) (hk : k ≤ lv) (hg : glbB sc x = true) (h : WA c (e :: es) δ (Pass n sp S T))
    (he : starEach (e :: es) X.env = (false, eval e X.env) :: starEach es X.env := by rfl) (hpl : (backTo pos (starEach es X.env)).any (·.1) = false := by rfl) : WE c (.Call (.Name x p) (e :: es) [] pos) δ S :=
  WE_callP (by rw [f.p, f.w, f.k, f.m, f.b]; exact F) h hk (f.gl hg) (glbB_ok hg).2.1 he hpl
theorem sExtT {xs : List D} {p' apos cpos : Pos} (f : Fx X P w K mg base N sc z) (hn : Nth N i x) (hd : Nth δ i (some (.own xs))) (hv : visB sc x = true) (h : WE c e δ fun d => ∃ ys, (d = .lst ys ∨ d = .tup ys) ∧ xs.length + ys.length ≤ sizeLine ∧ Sto δ i (.own (xs ++ ys)) E.nx)
    (hs : swapsWith (.Call (.Attribute (.Name x p') "extend" apos) [e] [] cpos) none pos.line X.env = pure false := by rfl)
    (hbase : attributeBase (.Name x p') "extend" X.env (eval (.Name x p') X.env) = eval (.Name x p') X.env := by rfl) (hfew : ((backTo cpos (starEach [e] X.env)).all (fun x => !x.1) && (backToKw cpos (keywordEach [] X.env)).all (fun x => x.1.isSome) && decide (([e] : List Expr).length + ([] : List Keyword).length + (if ([] : List Keyword).isEmpty then 0 else 1) < 30)) = true := by rfl)
    (hline : (apos.endLine == cpos.line) = true := by rfl) (he : starEach (e :: []) X.env = (false, eval e X.env) :: starEach [] X.env := by rfl) (hpl : (backTo cpos (starEach [] X.env)).any (·.1) = false := by rfl) :
    WS c (.Expr (.Call (.Attribute (.Name x p') "extend" apos) [e] [] cpos) pos) δ E := WS_extT i hd.get h (f.at_ hn) (f.vis hv) (visB_ok hv).2.1 (visB_ok hv).2.2 hs hbase hfew hline he hpl
theorem sPar3 {px py pu pt : Pos} {kt k2 pt2} (f : Fx X P w K mg base N sc z) (hi : Nth N i x) (hj : Nth N j y) (hl : Nth N l u) (hne : decide (i ≠ j ∧ i ≠ l ∧ j ≠ l) = true) (hx : sc.names.lookup x = some .local) (hy : sc.names.lookup y = some .local) (hu : sc.names.lookup u = some .local)
    (hw : ∀ env : Env, env.scope = sc → swappedStores [.Tuple [.Name x px, .Name y py, .Name u pu] kt pt] (.Tuple [a, b, e3] k2 pt2) env = pure (some [x, y, u]))
    (h : WA c [a, b, e3] δ fun ds => ∃ d1 d2 d3, ds = [d1, d2, d3] ∧ d1.still = true ∧ d2.still = true ∧ d3.still = true ∧ Sto δ i d1 fun δ1 => Sto δ1 j d2 fun δ2 => Sto δ2 l d3 E.nx)
    (hs : swapsWithSole [.Tuple [.Name x px, .Name y py, .Name u pu] kt pt] (.Tuple [a, b, e3] k2 pt2) pos.line X.env = pure false := by rfl) : WS c (.Assign [.Tuple [.Name x px, .Name y py, .Name u pu] kt pt] (.Tuple [a, b, e3] k2 pt2) pos) δ E := by
  have hne := of_decide_eq_true hne
  exact WS_par3 i j l h (f.at_ hi) (f.at_ hj) (f.at_ hl) hne.1 hne.2.1 hne.2.2 (by rw [f.s]; exact hx) (by rw [f.s]; exact hy) (by rw [f.s]; exact hu) (hw _ f.s) hs
/-- a, b = x, y of data that stay -/
theorem sPar2S {px py pt : Pos} {kt k2 pt2} (f : Fx X P w K mg base N sc z) (hi : Nth N i x) (hj : Nth N j y) (hne : decide (i ≠ j) = true) (hx : sc.names.lookup x = some .local) (hy : sc.names.lookup y = some .local)
    (hw : ∀ env : Env, env.scope = sc → swappedStores [.Tuple [.Name x px, .Name y py] kt pt] (.Tuple [a, b] k2 pt2) env = pure (some [x, y]))
    (h : WE c a δ fun d1 => d1.still = true ∧ WE c b δ fun d2 => d2.still = true ∧ Sto δ i d1 fun δ1 => Sto δ1 j d2 E.nx)
    (hs : swapsWithSole [.Tuple [.Name x px, .Name y py] kt pt] (.Tuple [a, b] k2 pt2) pos.line X.env = pure false := by rfl) (s1 : starEach (a :: [b]) X.env = (false, eval a X.env) :: starEach [b] X.env := by rfl) (s2 : starEach (b :: []) X.env = (false, eval b X.env) :: starEach [] X.env := by rfl) :
    WS c (.Assign [.Tuple [.Name x px, .Name y py] kt pt] (.Tuple [a, b] k2 pt2) pos) δ E := sPar2 f hi hj (of_decide_eq_true hne) hx hy (WO_of (h.mono fun d ⟨q1, q2⟩ => ⟨q1, WO_of q2⟩)) hw hs s1 s2
end
section
variable {P : Program} {w : World} {K : PySem.W.Frag} {mg : Str → Option Value} {base : Heap} {N : List Str} {sc : Scope} {U : Pu} {lv : Nat} {δ : List (Option D)} {α β : Type} {tg elt t : Expr} {scope : Scope} {ts : List Nat} {S : List D → Prop} {ds : List D}
theorem all_of {e : β → D} {xs : List α} {Q : α → β → Prop} : ∀ {ys : List D} {xs : List α}, ys.length = xs.length → (∀ (i : Nat) x y, xs[i]? = some x → ys[i]? = some y → ∃ b, y = e b ∧ Q x b) → ∃ bs : List β, ys = bs.map e ∧ bs.length = xs.length ∧ ∀ (i : Nat) x b, xs[i]? = some x → bs[i]? = some b → Q x b
  | [], [], _, _ => ⟨[], rfl, rfl, fun i x b h => by simp at h⟩
  | [], x :: xs, h, _ => by simp at h
  | y :: ys, [], h, _ => by simp at h
  | y :: ys, x :: xs, h, k => by
    obtain ⟨b, rfl, hb⟩ := k 0 x y (by simp) (by simp)
    obtain ⟨bs, rfl, h2, h3⟩ := all_of (ys := ys) (xs := xs) (by simpa using h) fun i x' y' e1 e2 => k (i + 1) x' y' (by simpa using e1) (by simpa using e2)
    refine ⟨b :: bs, rfl, by simp [h2], fun i x' b' e1 e2 => ?_⟩
    cases i with
    | zero =>
      simp at e1 e2
      subst e1
      subst e2
      exact hb
    | succ i => exact h3 i x' b' (by simpa using e1) (by simpa using e2)
/-- each turn gives one of some items -/
theorem tSomeE (e : β → D) (Q : α → β → Prop) (enc : α → D) (xs : List α) (hds : ds = xs.map enc) (h : ∀ x, x ∈ xs → BlkO P w K mg base N U lv scope sc fun c1 => AG c1 tg δ (enc x) ts fun δ2 => BlkO P w K mg base N U lv scope sc fun c3 => WE c3 elt δ2 fun y => y.still = true ∧ ∃ b, y = e b ∧ Q x b)
    (hS : ∀ bs : List β, bs.length = xs.length → (∀ (i : Nat) x b, xs[i]? = some x → bs[i]? = some b → Q x b) → S (bs.map e)) : Turns P w K mg base N U lv tg [] elt scope sc δ ts S ds :=
  tSome enc xs (fun x y => ∃ b, y = e b ∧ Q x b) hds h fun ys h1 h2 => by
    obtain ⟨bs, rfl, h3, h4⟩ := all_of (e := e) (xs := xs) h1 h2
    exact hS bs h3 h4
end
section
variable {P : Program} {w : World} {K : PySem.W.Frag} {mg : Str → Option Value} {base : Heap} {N : List Str} {sc : Scope} {U : Pu} {lv : Nat} {δ : List (Option D)} {α β : Type} {tg elt t : Expr} {scope : Scope} {ts : List Nat} {S : List D → Prop} {ds : List D}
/-- each turn gives one of some items, the same ones at each turn -/
theorem tSomeN (e : β → D) (Q : β → Prop) (enc : α → D) (xs : List α) (hds : ds = xs.map enc) (h : ∀ x, x ∈ xs → BlkO P w K mg base N U lv scope sc fun c1 => AG c1 tg δ (enc x) ts fun δ2 => BlkO P w K mg base N U lv scope sc fun c3 => WE c3 elt δ2 fun y => y.still = true ∧ ∃ b, y = e b ∧ Q b)
    (hS : ∀ bs : List β, bs.length = xs.length → (∀ b ∈ bs, Q b) → S (bs.map e)) : Turns P w K mg base N U lv tg [] elt scope sc δ ts S ds :=
  tSomeE e (fun _ b => Q b) enc xs hds h fun bs h1 h2 => hS bs h1 fun b hb => by
    obtain ⟨i, hi, rfl⟩ := List.mem_iff_getElem.mp hb
    exact h2 i (xs[i]'(by omega)) _ (by simp) (by simp)
end
/-! ### == on data of ints -/
theorem fits_tI (n : Nat) (rs : List (List Int)) : fits (n + 1) (rs.map tI) = true := fits_all _ _ fun d hd => by
  obtain ⟨r, _, rfl⟩ := List.mem_map.mp hd
  show fits n (r.map D.int) = true
  exact fits_ints n r
theorem fit_tII (n : Nat) (rs : List (List Int)) : fit (n + 2) (tII rs) = true := fits_tI n rs
theorem fit_tI (n : Nat) (r : List Int) : fit (n + 1) (tI r) = true := fits_ints n r
theorem eqv_tI (r s : List Int) : (tI r).eqv (tI s) = decide (r = s) := by
  unfold tI D.eqv
  exact eqvs_ints r s
theorem eqv_tII (r s : List (List Int)) : (tII r).eqv (tII s) = decide (r = s) := by
  unfold tII D.eqv
  exact eqvs_map tI eqv_tI r s
theorem swapped_at {env : Env} {sc : Scope} (he : env.scope = sc) (ts : List Expr) (v : Expr) {r : Sem (Option (List Str))} (h : swappedStores ts v { scope := sc, locals := 0, globals := 0, cells := [] } = r) : swappedStores ts v env = r := by
  rw [← h]
  exact swapped_of (env := env) (env' := { scope := sc, locals := 0, globals := 0, cells := [] }) he ts v
end Dl

set_option maxRecDepth 100000
set_option maxHeartbeats 4000000
/-! # Readings over data: what a def's body asks, with no syntax in sight -/
namespace Dl
open PySem PySem.Spec PyProof.Rows L2

/-- what is fixed of a block -/
structure Fr where
  P : Program
  w : World
  K : PySem.W.Frag
  mg : Str → Option Value
  base : Heap
  N : List Str
  sc : Scope
  z : Zk
  U : Pu
  lv : Nat
abbrev Fr.X (f : Fr) (X : Cx) : Prop := Fx X f.P f.w f.K f.mg f.base f.N f.sc f.z
/-- a lambda's names, called by a def that it is handed to -/
def Fr.lam (f : Fr) (s : Scope) : Fr := { f with sc := s, z := .blk s, lv := f.lv - 2 }
def Fr.blk (f : Fr) (s : Scope) : Fr := { f with sc := relS s f.sc, z := .blk s }

abbrev RdE := XD → List (Option D) → (D → Prop) → Prop
abbrev RdOp := XD → D → D → (D → Prop) → Prop
abbrev RdT := XD → List (Option D) → (Bool → Prop) → Prop
abbrev RdA := XD → List (Option D) → (List D → Prop) → Prop
abbrev RdO := XD → List (Option D) → (Option Int → Prop) → Prop
abbrev RdG := List (Option D) → D → (List (Option D) → Prop) → Prop
abbrev RdGs := List (Option D) → List D → (List (Option D) → Prop) → Prop
abbrev RdS := XD → List (Option D) → SE → Prop

structure ReE (f : Fr) (e : Expr) (t : RdE)  : Prop where
  run : ∀ {X : Cx} {T : XD} (c : Ct X f.U f.lv T), f.X X → ∀ (δ : List (Option D)) (S : D → Prop), t T δ S → WE c e δ S
instance {f : Fr} {e : Expr} {t : RdE}  : CoeFun (ReE f e t) fun _ => ∀ {X : Cx} {T : XD} (c : Ct X f.U f.lv T), f.X X → ∀ (δ : List (Option D)) (S : D → Prop), t T δ S → WE c e δ S := ⟨fun h => h.run⟩
structure ReT (f : Fr) (e : Expr) (t : RdT)  : Prop where
  run : ∀ {X : Cx} {T : XD} (c : Ct X f.U f.lv T), f.X X → ∀ (δ : List (Option D)) (S : Bool → Prop), t T δ S → WT c e δ S
instance {f : Fr} {e : Expr} {t : RdT}  : CoeFun (ReT f e t) fun _ => ∀ {X : Cx} {T : XD} (c : Ct X f.U f.lv T), f.X X → ∀ (δ : List (Option D)) (S : Bool → Prop), t T δ S → WT c e δ S := ⟨fun h => h.run⟩
structure ReW (f : Fr) (e : Expr) (t : RdT)  : Prop where
  run : ∀ {X : Cx} {T : XD} (c : Ct X f.U f.lv T), f.X X → ∀ (δ : List (Option D)) (S : Bool → Prop), t T δ S → WW c e δ S
instance {f : Fr} {e : Expr} {t : RdT}  : CoeFun (ReW f e t) fun _ => ∀ {X : Cx} {T : XD} (c : Ct X f.U f.lv T), f.X X → ∀ (δ : List (Option D)) (S : Bool → Prop), t T δ S → WW c e δ S := ⟨fun h => h.run⟩
structure ReA (f : Fr) (es : List Expr) (t : RdA)  : Prop where
  run : ∀ {X : Cx} {T : XD} (c : Ct X f.U f.lv T), f.X X → ∀ (δ : List (Option D)) (S : List D → Prop), t T δ S → WA c es δ fun ds => ds.length = es.length ∧ S ds
instance {f : Fr} {es : List Expr} {t : RdA}  : CoeFun (ReA f es t) fun _ => ∀ {X : Cx} {T : XD} (c : Ct X f.U f.lv T), f.X X → ∀ (δ : List (Option D)) (S : List D → Prop), t T δ S → WA c es δ fun ds => ds.length = es.length ∧ S ds := ⟨fun h => h.run⟩
structure ReP (f : Fr) (e : Option Expr) (t : RdO)  : Prop where
  run : ∀ {X : Cx} {T : XD} (c : Ct X f.U f.lv T), f.X X → ∀ (δ : List (Option D)) (S : Option Int → Prop), t T δ S → WP c e δ S
instance {f : Fr} {e : Option Expr} {t : RdO}  : CoeFun (ReP f e t) fun _ => ∀ {X : Cx} {T : XD} (c : Ct X f.U f.lv T), f.X X → ∀ (δ : List (Option D)) (S : Option Int → Prop), t T δ S → WP c e δ S := ⟨fun h => h.run⟩
structure ReI (f : Fr) (tg e : Expr) (t : RdA)  : Prop where
  run : ∀ {X : Cx} {T : XD} (c : Ct X f.U f.lv T), f.X X → ∀ (δ : List (Option D)) (S : List D → Prop), t T δ S → WI c tg e δ S
instance {f : Fr} {tg e : Expr} {t : RdA}  : CoeFun (ReI f tg e t) fun _ => ∀ {X : Cx} {T : XD} (c : Ct X f.U f.lv T), f.X X → ∀ (δ : List (Option D)) (S : List D → Prop), t T δ S → WI c tg e δ S := ⟨fun h => h.run⟩
structure ReJ (f : Fr) (tg e : Expr) (t : RdA)  : Prop where
  run : ∀ {X : Cx} {T : XD} (c : Ct X f.U f.lv T), f.X X → ∀ (δ : List (Option D)) (S : List D → Prop), t T δ S → WJ c tg e δ S
instance {f : Fr} {tg e : Expr} {t : RdA}  : CoeFun (ReJ f tg e t) fun _ => ∀ {X : Cx} {T : XD} (c : Ct X f.U f.lv T), f.X X → ∀ (δ : List (Option D)) (S : List D → Prop), t T δ S → WJ c tg e δ S := ⟨fun h => h.run⟩
structure ReF (f : Fr) (e : Expr) (t : RdA)  : Prop where
  run : ∀ {X : Cx} {T : XD} (c : Ct X f.U f.lv T), f.X X → ∀ (δ : List (Option D)) (S : List D → Prop), t T δ S → WF c e δ S
instance {f : Fr} {e : Expr} {t : RdA}  : CoeFun (ReF f e t) fun _ => ∀ {X : Cx} {T : XD} (c : Ct X f.U f.lv T), f.X X → ∀ (δ : List (Option D)) (S : List D → Prop), t T δ S → WF c e δ S := ⟨fun h => h.run⟩
structure ReO (f : Fr) (e : Expr) (t : RdE)  : Prop where
  run : ∀ {X : Cx} {T : XD} (c : Ct X f.U f.lv T), f.X X → ∀ (δ : List (Option D)) (S : D → Prop), t T δ S → WO c e δ S
instance {f : Fr} {e : Expr} {t : RdE}  : CoeFun (ReO f e t) fun _ => ∀ {X : Cx} {T : XD} (c : Ct X f.U f.lv T), f.X X → ∀ (δ : List (Option D)) (S : D → Prop), t T δ S → WO c e δ S := ⟨fun h => h.run⟩
structure ReG (f : Fr) (tg : Expr) (ts : List Nat) (t : RdG)  : Prop where
  run : ∀ {X : Cx} {T : XD} (c : Ct X f.U f.lv T), f.X X → ∀ (δ : List (Option D)) (d : D) (Q : List (Option D) → Prop), t δ d Q → AG c tg δ d ts Q
instance {f : Fr} {tg : Expr} {ts : List Nat} {t : RdG}  : CoeFun (ReG f tg ts t) fun _ => ∀ {X : Cx} {T : XD} (c : Ct X f.U f.lv T), f.X X → ∀ (δ : List (Option D)) (d : D) (Q : List (Option D) → Prop), t δ d Q → AG c tg δ d ts Q := ⟨fun h => h.run⟩
structure ReGs (f : Fr) (tgs : List Expr) (ts : List Nat) (t : RdGs)  : Prop where
  run : ∀ {X : Cx} {T : XD} (c : Ct X f.U f.lv T), f.X X → ∀ (δ : List (Option D)) (ds : List D) (Q : List (Option D) → Prop), t δ ds Q → AGs c tgs δ ds ts Q
instance {f : Fr} {tgs : List Expr} {ts : List Nat} {t : RdGs}  : CoeFun (ReGs f tgs ts t) fun _ => ∀ {X : Cx} {T : XD} (c : Ct X f.U f.lv T), f.X X → ∀ (δ : List (Option D)) (ds : List D) (Q : List (Option D) → Prop), t δ ds Q → AGs c tgs δ ds ts Q := ⟨fun h => h.run⟩
structure ReS (f : Fr) (st : Stmt) (t : RdS)  : Prop where
  run : ∀ {X : Cx} {T : XD} (c : Ct X f.U f.lv T), f.X X → ∀ (δ : List (Option D)) (E : SE), t T δ E → WS c st δ E
instance {f : Fr} {st : Stmt} {t : RdS}  : CoeFun (ReS f st t) fun _ => ∀ {X : Cx} {T : XD} (c : Ct X f.U f.lv T), f.X X → ∀ (δ : List (Option D)) (E : SE), t T δ E → WS c st δ E := ⟨fun h => h.run⟩
structure ReSs (f : Fr) (sts : List Stmt) (t : RdS)  : Prop where
  run : ∀ {X : Cx} {T : XD} (c : Ct X f.U f.lv T), f.X X → ∀ (δ : List (Option D)) (E : SE), t T δ E → WSs c sts δ E
instance {f : Fr} {sts : List Stmt} {t : RdS}  : CoeFun (ReSs f sts t) fun _ => ∀ {X : Cx} {T : XD} (c : Ct X f.U f.lv T), f.X X → ∀ (δ : List (Option D)) (E : SE), t T δ E → WSs c sts δ E := ⟨fun h => h.run⟩

/-! ### slots -/
def sl : List (Option D) → Nat → Option D
  | [], _ => none
  | a :: _, 0 => a
  | _ :: r, i + 1 => sl r i
def st : List (Option D) → Nat → Option D → List (Option D)
  | [], _, _ => []
  | _ :: r, 0, o => o :: r
  | a :: r, i + 1, o => a :: st r i o
theorem sl_eq : ∀ {δ : List (Option D)} {i : Nat} {d : D}, sl δ i = some d → δ[i]? = some (some d)
  | [], _, _, h => by simp [sl] at h
  | a :: _, 0, d, h => by simp [sl] at h; simp [h]
  | _ :: r, i + 1, d, h => by
    have := sl_eq (δ := r) (i := i) h
    simpa using this
theorem st_eq : ∀ (δ : List (Option D)) (i : Nat) (o : Option D), st δ i o = δ.set i o
  | [], _, _ => rfl
  | a :: r, 0, o => rfl
  | a :: r, i + 1, o => by
    show a :: st r i o = _
    rw [st_eq r i o]
    rfl
def wp : List (Option D) → List Nat → List (Option D)
  | δ, [] => δ
  | δ, v :: vs => st (wp δ vs) v none
theorem wp_eq (δ : List (Option D)) : ∀ vs, wp δ vs = wipeD δ vs
  | [] => rfl
  | v :: vs => by
    show st (wp δ vs) v none = _
    rw [wp_eq δ vs, st_eq]
    rfl
def fo : Option D → Option D
  | none => none
  | some d => some d.frz
def fz : List (Option D) → List (Option D)
  | [] => []
  | a :: r => fo a :: fz r
theorem fz_eq : ∀ δ : List (Option D), fz δ = δ.map (Option.map D.frz)
  | [] => rfl
  | a :: r => by
    show fo a :: fz r = _
    rw [fz_eq r]
    cases a <;> rfl
/-- slots written out -/
def fc : List (Option D) → (List (Option D) → Prop) → Prop
  | [], k => k []
  | a :: r, k => fc r fun r' => k (a :: r')
theorem fc_eq : ∀ (δ : List (Option D)) (k : List (Option D) → Prop), fc δ k = k δ
  | [], k => rfl
  | a :: r, k => fc_eq r fun r' => k (a :: r')
/-- by a flag -/
def brB : Bool → Prop → Prop → Prop
  | true, A, _ => A
  | false, _, B => B
theorem brB_if {b : Bool} {A B : Prop} (h : brB b A B) : if b = true then A else B := by
  cases b with
  | true => rw [if_pos rfl]; exact h
  | false => rw [if_neg Bool.false_ne_true]; exact h
theorem brB_mk {b : Bool} {A B : Prop} (h1 : b = true → A) (h2 : b = false → B) : brB b A B := by
  cases b with
  | true => exact h1 rfl
  | false => exact h2 rfl
theorem brB_t {b : Bool} {A B : Prop} (e : b = true) (h : A) : brB b A B := by rw [e]; exact h
theorem brB_f {b : Bool} {A B : Prop} (e : b = false) (h : B) : brB b A B := by rw [e]; exact h
theorem brB_p {p : Prop} [Decidable p] {A B : Prop} (h1 : p → A) (h2 : ¬p → B) : brB (decide p) A B := brB_mk (fun h => h1 (of_decide_eq_true h)) (fun h => h2 (of_decide_eq_false h))
theorem brB_n {p : Prop} [Decidable p] {A B : Prop} (h1 : ¬p → A) (h2 : p → B) : brB (!decide p) A B := brB_mk (fun h => h1 (by simpa using h)) (fun h => h2 (by simpa using h))
theorem brB_pt {p : Prop} [Decidable p] {A B : Prop} (h1 : p) (h : A) : brB (decide p) A B := brB_t (decide_eq_true h1) h
theorem brB_pf {p : Prop} [Decidable p] {A B : Prop} (h1 : ¬p) (h : B) : brB (decide p) A B := brB_f (decide_eq_false h1) h
theorem brB_nt {p : Prop} [Decidable p] {A B : Prop} (h1 : p) (h : B) : brB (!decide p) A B := brB_f (by simpa using h1) h
theorem brB_nf {p : Prop} [Decidable p] {A B : Prop} (h1 : ¬p) (h : A) : brB (!decide p) A B := brB_t (by simpa using h1) h
theorem brB_xt {b : Bool} {A B : Prop} (h1 : b = true) (h : B) : brB (!b) A B := brB_f (by rw [h1]; rfl) h
theorem brB_xf {b : Bool} {A B : Prop} (h1 : b = false) (h : A) : brB (!b) A B := brB_t (by rw [h1]; rfl) h
/-- what is stored stays -/
def stP : D → Prop → Prop
  | .own _, _ => False
  | _, A => A
theorem stP_ok {d : D} {A : Prop} (h : stP d A) : d.still = true ∧ A := by
  cases d with
  | own xs => exact False.elim h
  | _ => exact ⟨rfl, h⟩
theorem stP_of {d : D} {A : Prop} (s : d.still = true) (h : A) : stP d A := by
  cases d with
  | own xs => cases s
  | _ => exact h
/-- a call's arguments: own lists are read alone -/
def calB : Bool → DSpec → (D → Prop) → XD → List D → Prop
  | true, sp, S, T, ds => sp ds S T
  | false, sp, S, T, ds => sp (ds.map D.frz) (fun d => d.noL = true ∧ S d) (noLX T)
def calR (sp : DSpec) (S : D → Prop) (T : XD) (ds : List D) : Prop := calB (stills ds) sp S T ds
theorem frzL_any : ∀ ds : List D, FrzL ds (ds.map D.frz)
  | [] => .nil
  | d :: ds => by
    have ih := frzL_any ds
    cases d with
    | own xs => exact .own ih
    | _ => exact .st rfl ih
theorem calR_ok {n : Nat} {sp : DSpec} {S : D → Prop} {T : XD} {ds : List D} (hn : ds.length = n) (h : calR sp S T ds) : Pass n sp S T ds := by
  unfold calR at h
  cases e : stills ds with
  | true =>
    rw [e] at h
    exact .still hn e h
  | false =>
    rw [e] at h
    exact .own hn (frzL_any ds) h
theorem calR_s {sp : DSpec} {S : D → Prop} {T : XD} {ds : List D} (s : stills ds = true) (h : sp ds S T) : calR sp S T ds := by
  unfold calR
  rw [s]
  exact h

/-! ### expressions -/
namespace Rd
def vD (S : D → Prop) (o : Option D) : Prop := match o with
  | some d => S d
  | none => False
def v (i : Nat) : RdE := fun _ δ S => vD S (sl δ i)
def g (d : D) : RdE := fun _ _ S => S d
def bin (op : RdOp) (a b : RdE) : RdE := fun T δ S => a T δ fun x => b T δ fun y => op T x y S
def un (op : D → (D → Prop) → Prop) (a : RdE) : RdE := fun T δ S => a T δ fun x => op x S
def blD (A : Bool → Prop) (z : D) : Prop := match z with
  | .bl k => A k
  | _ => False
def chain (o o' : RdOp) (a b c : RdE) : RdE := fun T δ S => a T δ fun x => b T δ fun y => o T x y (blD fun k => brB k (c T δ fun y' => o' T y y' S) (S (.bl false)))
def nonB : D → Option Bool
  | .non => some true
  | .pur => none
  | .any _ => none
  | _ => some false
def oB (A : Bool → Prop) (o : Option Bool) : Prop := match o with
  | some b => A b
  | none => False
def isN (a : RdE) : RdE := fun T δ S => a T δ fun x => oB (fun b => S (.bl b)) (nonB x)
def notN (a : RdE) : RdE := fun T δ S => a T δ fun x => oB (fun b => S (.bl (!b))) (nonB x)
def and (a b : RdE) : RdE := fun T δ S => a T δ (blD fun k => brB k (b T δ S) (S (.bl false)))
def or (a b : RdE) : RdE := fun T δ S => a T δ (blD fun k => brB k (S (.bl true)) (b T δ S))
def not (a : RdE) : RdE := fun T δ S => a T δ (blD fun k => S (.bl (!k)))
def ite (t : RdT) (a b : RdE) : RdE := fun T δ S => t T δ fun k => brB k (a T δ S) (b T δ S)
def nil : RdA := fun _ _ S => S []
def cons (a : RdE) (as : RdA) : RdA := fun T δ S => a T δ fun d => as T δ fun ds => S (d :: ds)
def stiD (b : Bool) (A : Prop) : Prop := match b with
  | true => A
  | false => False
def tup (as : RdA) : RdE := fun T δ S => as T δ fun ds => stiD (stills ds) (S (.tup ds))
def lst (as : RdA) : RdE := fun T δ S => as T δ fun ds => stiD (stills ds) (S (.lst ds))
def ixI (xs : List D) (S : D → Prop) (y : D) : Prop := match y with
  | .int i => ∃ d, atI xs i = some d ∧ S d
  | _ => False
def ixD (S : D → Prop) (y x : D) : Prop := match x with
  | .tup xs => ixI xs S y
  | .lst xs => ixI xs S y
  | .own xs => ixI xs S y
  | _ => False
def ix (a b : RdE) : RdE := fun T δ S => a T δ fun x => b T δ fun y => ixD S y x
def cutR (i j : Option Int) (S : D → Prop) (x : D) : Prop := match x with
  | .tup xs => S (.tup (cutD xs i j))
  | .lst xs => S (.lst (cutD xs i j))
  | .own xs => S (.lst (cutD xs i j))
  | _ => False
def slc (a : RdE) (lo hi : RdO) : RdE := fun T δ S => a T δ fun x => lo T δ fun i => hi T δ fun j => cutR i j S x
def noP : RdO := fun _ _ S => S none
def intP' (A : Int → Prop) (x : D) : Prop := match x with
  | .int i => A i
  | _ => False
def atP (a : RdE) : RdO := fun T δ S => a T δ (intP' fun i => S (some i))
def fldD (K : PySem.W.Frag) (f : Str) (S : D → Prop) (x : D) : Prop := match x with
  | .obj C ns ds => OkC K C ns ∧ decide (f ∈ ns) = true ∧ ∃ d, (ns.zip ds).lookup f = some d ∧ S d
  | _ => False
def fld (K : PySem.W.Frag) (a : RdE) (f : Str) : RdE := fun T δ S => a T δ (fldD K f S)
def call (sp : DSpec) (as : RdA) : RdE := fun T δ S => as T δ fun ds => calR sp S T ds
def cons' (sp : DSpec) (as : RdA) : RdE := fun T δ S => as T δ fun ds => stiD (stills ds) (sp ds S T)
def blt (cR : List D → (D → Prop) → Prop) (as : RdA) : RdE := fun T δ S => as T δ fun ds => cR ds S
/-! tests -/
def tval (a : RdE) : RdT := fun T δ S => a T δ (blD S)
def tcmp (op : RdOp) (a b : RdE) : RdT := fun T δ S => a T δ fun x => b T δ fun y => op T x y (blD S)
def tisN (a : RdE) : RdT := fun T δ S => a T δ fun x => oB S (nonB x)
def tnotN (a : RdE) : RdT := fun T δ S => a T δ fun x => oB (fun b => S (!b)) (nonB x)
def tnot (t : RdT) : RdT := fun T δ S => t T δ fun k => S (!k)
def tand (a b : RdT) : RdT := fun T δ S => a T δ fun k => brB k (b T δ S) (S false)
def tor (a b : RdT) : RdT := fun T δ S => a T δ fun k => brB k (S true) (b T δ S)
/-! targets -/
def tv (i : Nat) : RdG := fun δ d Q => fc (st δ i (some d)) Q
def gN : RdGs := fun δ ds Q => match ds with
  | [] => Q δ
  | _ => False
def gC (a : RdG) (b : RdGs) : RdGs := fun δ ds Q => match ds with
  | d :: r => a δ d fun δ1 => b δ1 r Q
  | [] => False
def lenP (n : Nat) (ds : List D) (A : Prop) : Prop := match Nat.beq ds.length n with
  | true => A
  | false => False
def tupD (A : List D → Prop) (d : D) : Prop := match d with
  | .tup ds => A ds
  | _ => False
def tt (n : Nat) (gs : RdGs) : RdG := fun δ d Q => tupD (fun ds => lenP n ds (gs δ ds Q)) d
/-! sources -/
def seqD (S : List D → Prop) (x : D) : Prop := match x with
  | .tup ds => S ds
  | .lst ds => S ds
  | _ => False
def seq (a : RdE) : RdA := fun T δ S => a T δ (seqD S)
def seqJD (S : List D → Prop) (x : D) : Prop := match x with
  | .tup ds => S ds
  | .lst ds => S ds
  | .own ds => S ds
  | _ => False
def seqJ (a : RdE) : RdA := fun T δ S => a T δ (seqJD S)
def rng1 (a : RdE) : RdA := fun T δ S => a T δ (intP' fun n => (n ≤ 8000000 ∧ -8000000 ≤ n) ∧ S ((List.range n.toNat).map fun (k : Nat) => D.int (0 + k)))
def rng2 (a b : RdE) : RdA := fun T δ S => a T δ (intP' fun m => b T δ (intP' fun n => (n ≤ 8000000 ∧ -8000000 ≤ n ∧ m ≤ 8000000 ∧ -8000000 ≤ m) ∧ S ((List.range (n - m).toNat).map fun (k : Nat) => D.int (m + k))))
def zipD (S : List D → Prop) (x y : D) : Prop := match x, y with
  | .tup xs, .tup ys => S (pairs xs ys)
  | .lst xs, .lst ys => S (pairs xs ys)
  | _, _ => False
def zip (a b : RdE) : RdA := fun T δ S => a T δ fun x => b T δ fun y => zipD S x y
def enumD (S : List D → Prop) (x : D) : Prop := match x with
  | .tup xs => S (numbered xs)
  | .lst xs => S (numbered xs)
  | _ => False
def enum (a : RdE) : RdA := fun T δ S => a T δ (enumD S)
/-- a comprehension's turns -/
@[irreducible] def turns (tg : RdG) (tests : RdT) (elt : RdE) (δ : List (Option D)) (S : List D → Prop) (ds : List D) : Prop :=
  ∃ Pv : Nat → List D → Prop, Pv 0 [] ∧ (∀ (i : Nat) (d : D) (ys : List D), ds[i]? = some d → ys.length ≤ i → Pv i ys → tg δ d fun δ2 => tests noX δ2 fun b => brB b (elt noX δ2 fun y => y.still = true ∧ Pv (i + 1) (ys ++ [y])) (Pv (i + 1) ys)) ∧ ∀ ys, ys.length ≤ ds.length → Pv ds.length ys → S ys
def noT : RdT := fun _ _ S => S true
def lcF (own : List Nat) (src : RdA) (tg : RdG) (tests : RdT) (elt : RdE) : RdA := fun T δ S => src T δ fun ds => fc (wp δ own) fun δ' => turns tg tests elt δ' S ds
def lc (own : List Nat) (src : RdA) (tg : RdG) (tests : RdT) (elt : RdE) : RdE := fun T δ S => src T δ fun ds => fc (wp δ own) fun δ' => turns tg tests elt δ' (fun ys => S (.lst ys)) ds
/-! statements -/
def skip : RdS := fun _ δ E => E.nx δ
def sq (a b : RdS) : RdS := fun T δ E => a T δ { E with nx := fun δ' => b T δ' E }
def brk : RdS := fun _ δ E => E.bk δ
def cnt : RdS := fun _ δ E => E.ct δ
def ret (a : RdE) : RdS := fun T δ E => fc (fz δ) fun δ' => a T δ' E.rt
def retN : RdS := fun _ _ E => E.rt .non
def ex (a : RdE) : RdS := fun T δ E => a T δ fun _ => E.nx δ
def cond (t : RdT) (a b : RdS) : RdS := fun T δ E => t T δ fun k => brB k (a T δ E) (b T δ E)
def set (i : Nat) (a : RdE) : RdS := fun T δ E => a T δ fun d => stP d (fc (st δ i (some d)) E.nx)
def setF (i : Nat) (a : RdA) : RdS := fun T δ E => a T δ fun ds => fc (st δ i (some (.own ds))) E.nx
def setL (i : Nat) (a : RdA) : RdS := fun T δ E => a T δ fun ds => fc (st δ i (some (.lst ds))) E.nx
def unp (a : RdE) (gs : RdG) : RdS := fun T δ E => a T δ fun d => stP d (gs δ d E.nx)
def par2 (i j : Nat) (a b : RdE) : RdS := fun T δ E => a T δ fun d1 => stP d1 (b T δ fun d2 => stP d2 (fc (st (st δ i (some d1)) j (some d2)) E.nx))
def par3 (i j l : Nat) (a b c : RdE) : RdS := fun T δ E => a T δ fun d1 => stP d1 (b T δ fun d2 => stP d2 (c T δ fun d3 => stP d3 (fc (st (st (st δ i (some d1)) j (some d2)) l (some d3)) E.nx)))
/-- a, b = [..], [..]: lists of one's own -/
def par2F (i j : Nat) (a b : RdA) : RdS := fun T δ E => a T δ fun ds => b T δ fun es => fc (st (st δ i (some (.own ds))) j (some (.own es))) E.nx
def ownP (o : Option D) (A : List D → Prop) : Prop := match o with
  | some (.own xs) => A xs
  | _ => False
def app (i : Nat) (a : RdE) : RdS := fun T δ E => ownP (sl δ i) fun xs => a T δ fun d => stP d (xs.length < sizeLine ∧ fc (st δ i (some (.own (xs ++ [d])))) E.nx)
def extD (n : Nat) (A : List D → Prop) (d : D) : Prop := match d with
  | .lst ys => n + ys.length ≤ sizeLine ∧ A ys
  | .tup ys => n + ys.length ≤ sizeLine ∧ A ys
  | _ => False
def ext (i : Nat) (a : RdE) : RdS := fun T δ E => ownP (sl δ i) fun xs => a T δ (extD xs.length fun ys => fc (st δ i (some (.own (xs ++ ys)))) E.nx)
def intD (A : Int → Prop) (d : D) : Prop := match d with
  | .int k => A k
  | _ => False
def put (i : Nat) (ix a : RdE) : RdS := fun T δ E => ownP (sl δ i) fun xs => a T δ fun d => stP d (ix T δ (intD fun k => ∃ j, ixN xs.length k = some j ∧ fc (st δ i (some (.own (xs.set j d)))) E.nx))
def intP (o : Option D) (A : Int → Prop) : Prop := match o with
  | some (.int n) => A n
  | _ => False
def aug (i : Nat) (a : RdE) : RdS := fun T δ E => intP (sl δ i) fun n => a T δ (intD fun m => fc (st δ i (some (.int (n + m)))) E.nx)
/-- what a loop is to show -/
@[irreducible] def loopG (tg : RdG) (body : RdS) (T : XD) (δ : List (Option D)) (E : SE) (ds : List D) : Prop := ∃ I : Nat → List (Option D) → Prop, I 0 δ ∧
  (∀ (i : Nat) (d : D) (δ' : List (Option D)), ds[i]? = some d → I i δ' → tg δ' d fun δ2 => body T δ2 { E with nx := I (i + 1), ct := I (i + 1), bk := E.nx }) ∧ ∀ δ', I ds.length δ' → E.nx δ'
def loop (src : RdA) (tg : RdG) (body : RdS) : RdS := fun T δ E => src T δ fun ds => loopG tg body T δ E ds
@[irreducible] def whilG (t : RdT) (body : RdS) (T : XD) (δ : List (Option D)) (E : SE) : Prop := ∃ (I : Nat → List (Option D) → Prop) (m0 : Nat), I m0 δ ∧ ∀ m δ', I m δ' → t T δ' fun b => brB b (body T δ' { E with nx := fun δ2 => ∃ m', m' < m ∧ I m' δ2, ct := fun δ2 => ∃ m', m' < m ∧ I m' δ2, bk := E.nx }) (E.nx δ')
def whil (t : RdT) (body : RdS) : RdS := fun T δ E => whilG t body T δ E
end Rd
end Dl

set_option maxRecDepth 100000
set_option maxHeartbeats 4000000
/-! # Operators, built-in calls by data; how a body is read -/
namespace Dl
open PySem PySem.Spec PyProof.Rows L2
/-! ### operators -/
/-- repeated -/
def repT (n : Nat) (xs : List D) : List D := match xs with
  | [.int 0] => (zeros n).map D.int
  | xs => (List.replicate n xs).flatten
theorem repT_eq (n : Nat) (xs : List D) : repT n xs = (List.replicate n xs).flatten := by
  unfold repT
  split
  · exact (rep_zeros n).symm
  · rfl
namespace Op
def add : RdOp := fun _ x y S => match x, y with
  | .int i, .int j => S (.int (i + j))
  | .tup xs, .tup ys => xs.length + ys.length ≤ sizeLine ∧ S (.tup (xs ++ ys))
  | .lst xs, .lst ys => xs.length + ys.length ≤ sizeLine ∧ S (.lst (xs ++ ys))
  | .own xs, .lst ys => xs.length + ys.length ≤ sizeLine ∧ S (.lst (xs ++ ys))
  | .lst xs, .own ys => xs.length + ys.length ≤ sizeLine ∧ S (.lst (xs ++ ys))
  | .own xs, .own ys => xs.length + ys.length ≤ sizeLine ∧ S (.lst (xs ++ ys))
  | .str a, .str b => a.length + b.length ≤ sizeLine ∧ S (.str (a ++ b))
  | _, _ => False
def sub : RdOp := fun _ x y S => match x, y with
  | .int i, .int j => S (.int (i - j))
  | _, _ => False
def mul : RdOp := fun _ x y S => match x, y with
  | .int i, .int j => CMul i j ∧ S (.int (i * j))
  | .tup xs, .int n => (-1000 ≤ n ∧ n ≤ 1000 ∧ xs.length ≤ 1000) ∧ S (.tup (repT n.toNat xs))
  | .lst xs, .int n => (-1000 ≤ n ∧ n ≤ 1000 ∧ xs.length ≤ 1000) ∧ S (.lst (List.replicate n.toNat xs).flatten)
  | _, _ => False
def div : RdOp := fun _ x y S => match x, y with
  | .int i, .int j => (0 < j ∧ j < 1073741824) ∧ S (.int (i / j))
  | _, _ => False
def mod : RdOp := fun _ x y S => match x, y with
  | .int i, .int j => 0 < j ∧ S (.int (i % j))
  | _, _ => False
def pow : RdOp := fun _ x y S => match x, y with
  | .int i, .int j => CPow i j ∧ S (.int (i ^ j.toNat))
  | _, _ => False
def neg : D → (D → Prop) → Prop := fun x S => match x with
  | .int i => S (.int (-i))
  | _ => False
def eq : RdOp := fun _ x y S => match x, y with
  | .int i, .int j => S (.bl (decide (i = j)))
  | x, y => (fit 64 x = true ∧ fit 64 y = true) ∧ S (.bl (x.eqv y))
def ne : RdOp := fun _ x y S => match x, y with
  | .int i, .int j => S (.bl (decide (i ≠ j)))
  | x, y => (fit 64 x = true ∧ fit 64 y = true) ∧ S (.bl (!x.eqv y))
/-- == where the left one may be an object -/
def eqO (eo : DSpec) : RdOp := fun T x y S => match x with
  | .obj C ns ds => stP y (eo [.obj C ns ds, y] (fun d => ∃ b, d = .bl b ∧ S (.bl b)) T)
  | x => eq T x y S
def lt : RdOp := fun _ x y S => match x, y with
  | .int i, .int j => S (.bl (decide (i < j)))
  | _, _ => False
def le : RdOp := fun _ x y S => match x, y with
  | .int i, .int j => S (.bl (decide (i ≤ j)))
  | _, _ => False
def gt : RdOp := fun _ x y S => match x, y with
  | .int i, .int j => S (.bl (decide (j < i)))
  | _, _ => False
def ge : RdOp := fun _ x y S => match x, y with
  | .int i, .int j => S (.bl (decide (j ≤ i)))
  | _, _ => False
def isin : RdOp := fun _ x y S => match y with
  | .tup ys => (x.flat = true ∧ ys.all D.flat = true) ∧ S (.bl (ys.any fun e => e.eqv x))
  | .lst ys => (x.flat = true ∧ ys.all D.flat = true) ∧ S (.bl (ys.any fun e => e.eqv x))
  | .own ys => (x.flat = true ∧ ys.all D.flat = true) ∧ S (.bl (ys.any fun e => e.eqv x))
  | _ => False
def nin : RdOp := fun _ x y S => match y with
  | .tup ys => (x.flat = true ∧ ys.all D.flat = true) ∧ S (.bl (!ys.any fun e => e.eqv x))
  | .lst ys => (x.flat = true ∧ ys.all D.flat = true) ∧ S (.bl (!ys.any fun e => e.eqv x))
  | .own ys => (x.flat = true ∧ ys.all D.flat = true) ∧ S (.bl (!ys.any fun e => e.eqv x))
  | _ => False
end Op
/-! ### built-in calls -/
namespace Bi
abbrev RdB := List D → (D → Prop) → Prop
def len : RdB := fun ds S => match ds with
  | [.tup xs] => S (.int xs.length)
  | [.lst xs] => S (.int xs.length)
  | [.own xs] => S (.int xs.length)
  | [.str z] => z.length ≤ sizeLine ∧ S (.int z.length)
  | _ => False
def sum : RdB := fun ds S => match ds with
  | [.lst xs] => ∃ ns : List Int, xs = ns.map D.int ∧ S (.int ns.sum)
  | [.own xs] => ∃ ns : List Int, xs = ns.map D.int ∧ S (.int ns.sum)
  | _ => False
def all : RdB := fun ds S => match ds with
  | [.lst xs] => ∃ bs : List Bool, xs = bs.map D.bl ∧ S (.bl (bs.all id))
  | [.own xs] => ∃ bs : List Bool, xs = bs.map D.bl ∧ S (.bl (bs.all id))
  | _ => False
def any : RdB := fun ds S => match ds with
  | [.lst xs] => ∃ bs : List Bool, xs = bs.map D.bl ∧ S (.bl (bs.any id))
  | [.own xs] => ∃ bs : List Bool, xs = bs.map D.bl ∧ S (.bl (bs.any id))
  | _ => False
def abs : RdB := fun ds S => match ds with
  | [.int i] => S (.int (if i < 0 then -i else i))
  | _ => False
def max : RdB := fun ds S => match ds with
  | [.int i, .int j] => S (.int (if j > i then j else i))
  | [.lst xs] => ∃ ns : List Int, xs = ns.map D.int ∧ 0 < ns.length ∧ ∀ m, m ∈ ns → (∀ y, y ∈ ns → y ≤ m) → S (.int m)
  | _ => False
def min : RdB := fun ds S => match ds with
  | [.int i, .int j] => S (.int (if j < i then j else i))
  | [.lst xs] => ∃ ns : List Int, xs = ns.map D.int ∧ 0 < ns.length ∧ ∀ m, m ∈ ns → (∀ y, y ∈ ns → m ≤ y) → S (.int m)
  | _ => False
def int : RdB := fun ds S => match ds with
  | [.int i] => S (.int i)
  | [.bl b] => S (.int (if b then 1 else 0))
  | _ => False
def bool : RdB := fun ds S => match ds with
  | [.int i] => S (.bl (i != 0))
  | [.bl b] => S (.bl b)
  | _ => False
def tuple : RdB := fun ds S => match ds with
  | [.tup xs] => S (.tup xs)
  | [.lst xs] => S (.tup xs)
  | [.own xs] => S (.tup xs)
  | _ => False
def list : RdB := fun ds S => match ds with
  | [.tup xs] => S (.lst xs)
  | [.lst xs] => S (.lst xs)
  | [.own xs] => S (.lst xs)
  | _ => False
end Bi
namespace Rd
def pInt : D → Option Bool
  | .int _ => some true
  | .bl _ => some true
  | .obj _ _ _ => none
  | .pur => none
  | .any _ => none
  | _ => some false
def pBool : D → Option Bool
  | .bl _ => some true
  | .obj _ _ _ => none
  | .pur => none
  | .any _ => none
  | _ => some false
def pTup : D → Option Bool
  | .tup _ => some true
  | .obj _ _ _ => none
  | .pur => none
  | .any _ => none
  | _ => some false
def pLst : D → Option Bool
  | .lst _ => some true
  | .own _ => some true
  | .obj _ _ _ => none
  | .pur => none
  | .any _ => none
  | _ => some false
def pStr : D → Option Bool
  | .str _ => some true
  | .obj _ _ _ => none
  | .pur => none
  | .any _ => none
  | _ => some false
/-- isinstance with a built-in type -/
def isTy (p : D → Option Bool) (a : RdE) : RdE := fun T δ S => a T δ fun x => oB (fun b => S (.bl b)) (p x)
/-- isinstance with an own class, of an object -/
def isObD (K : PySem.W.Frag) (C : Addr) (S : D → Prop) (x : D) : Prop := match x with
  | .obj C' _ _ => ∃ b, PySem.W.kitOne K (.ref C') (.ref C) = some b ∧ ObT K C' ∧ S (.bl b)
  | _ => False
def isOb (K : PySem.W.Frag) (C : Addr) (a : RdE) : RdE := fun T δ S => a T δ (isObD K C S)
end Rd
section
variable {X : Cx} {U : Pu} {lv : Nat} {T : XD} {c : Ct X U lv T} {S : D → Prop}
theorem od_add {x y : D} (h : Op.add T x y S) : OD c (binaryOp .Add) x y S := by
  unfold Op.add at h
  split at h
  · exact OD_add_int h
  · exact OD_add_tup h.1 h.2
  · exact OD_add_lst (.lst _) (.lst _) h.1 h.2
  · exact OD_add_lst (.own _) (.lst _) h.1 h.2
  · exact OD_add_lst (.lst _) (.own _) h.1 h.2
  · exact OD_add_lst (.own _) (.own _) h.1 h.2
  · exact OD_add_str h.1 h.2
  · exact h.elim
theorem od_sub {x y : D} (h : Op.sub T x y S) : OD c (binaryOp .Sub) x y S := by
  unfold Op.sub at h
  split at h
  · exact OD_sub_int h
  · exact h.elim
theorem mul_sz {n : Int} {xs : List D} (h0 : -1000 ≤ n) (h1 : n ≤ 1000) (h2 : xs.length ≤ 1000) : xs.length * n.toNat ≤ sizeLine := by
  have : xs.length * n.toNat ≤ 1000 * 1000 := Nat.mul_le_mul h2 (by omega)
  rw [sizeLine_eq]
  omega
theorem od_mul {x y : D} (h : Op.mul T x y S) : OD c (binaryOp .Mult) x y S := by
  unfold Op.mul at h
  split at h
  · exact OD_mul_int h.1 h.2
  · exact OD_mul_tup h.1.1 h.1.2.1 h.1.2.2 (by rw [← repT_eq]; exact h.2)
  · exact OD_mul_lst (.lst _) (by omega) (by omega) (mul_sz h.1.1 h.1.2.1 h.1.2.2) h.2
  · exact h.elim
theorem od_div {x y : D} (h : Op.div T x y S) : OD c (binaryOp .FloorDiv) x y S := by
  unfold Op.div at h
  split at h
  · exact OD_div_int h.1.1 h.1.2 h.2
  · exact h.elim
theorem od_mod {x y : D} (h : Op.mod T x y S) : OD c (binaryOp .Mod) x y S := by
  unfold Op.mod at h
  split at h
  · exact OD_mod_int h.1 h.2
  · exact h.elim
theorem od_pow {x y : D} (h : Op.pow T x y S) : OD c (binaryOp .Pow) x y S := by
  unfold Op.pow at h
  split at h
  · exact OD_pow_int h.1 h.2
  · exact h.elim
theorem ud_neg {x : D} (h : Op.neg x S) : UD c (unaryOp .USub) x S := by
  unfold Op.neg at h
  split at h
  · exact UD_neg h
  · exact h.elim
theorem od_eq {x y : D} (h : Op.eq T x y S) : OD c (compareOp .Eq) x y S := by
  unfold Op.eq at h
  split at h
  · exact OD_eq_int h
  · exact OD_eq h.1.1 h.1.2 h.2
theorem od_ne {x y : D} (h : Op.ne T x y S) : OD c (compareOp .NotEq) x y S := by
  unfold Op.ne at h
  split at h
  · exact OD_ne_int h
  · exact OD_ne h.1.1 h.1.2 h.2
theorem od_lt {x y : D} (h : Op.lt T x y S) : OD c (compareOp .Lt) x y S := by
  unfold Op.lt at h
  split at h
  · exact OD_lt_int h
  · exact h.elim
theorem od_le {x y : D} (h : Op.le T x y S) : OD c (compareOp .LtE) x y S := by
  unfold Op.le at h
  split at h
  · exact OD_le_int h
  · exact h.elim
theorem od_gt {x y : D} (h : Op.gt T x y S) : OD c (compareOp .Gt) x y S := by
  unfold Op.gt at h
  split at h
  · exact OD_gt_int h
  · exact h.elim
theorem od_ge {x y : D} (h : Op.ge T x y S) : OD c (compareOp .GtE) x y S := by
  unfold Op.ge at h
  split at h
  · exact OD_ge_int h
  · exact h.elim
theorem od_in {x y : D} (h : Op.isin T x y S) : OD c (compareOp .In) x y S := by
  unfold Op.isin at h
  split at h
  · exact OD_in (.tup _) h.1.1 h.1.2 h.2
  · exact OD_in (.lst _) h.1.1 h.1.2 h.2
  · exact OD_in (.own _) h.1.1 h.1.2 h.2
  · exact h.elim
theorem od_nin {x y : D} (h : Op.nin T x y S) : OD c (compareOp .NotIn) x y S := by
  unfold Op.nin at h
  split at h
  · exact OD_nin (.tup _) h.1.1 h.1.2 h.2
  · exact OD_nin (.lst _) h.1.1 h.1.2 h.2
  · exact OD_nin (.own _) h.1.1 h.1.2 h.2
  · exact h.elim
variable {ds : List D}
theorem cd_len (h : Bi.len ds S) : CD c (.builtin "len") ds S := by
  unfold Bi.len at h
  split at h
  · exact CD_len (.tup _) h
  · exact CD_len (.lst _) h
  · exact CD_len (.own _) h
  · exact CD_len_str h.1 h.2
  · exact h.elim
theorem cd_sum (h : Bi.sum ds S) : CD c (.builtin "sum") ds S := by
  unfold Bi.sum at h
  split at h
  · obtain ⟨ns, e, h⟩ := h
    exact CD_sum (.lst _) e h
  · obtain ⟨ns, e, h⟩ := h
    exact CD_sum (.own _) e h
  · exact h.elim
theorem cd_all (h : Bi.all ds S) : CD c (.builtin "all") ds S := by
  unfold Bi.all at h
  split at h
  · obtain ⟨ns, e, h⟩ := h
    exact CD_all (.lst _) e h
  · obtain ⟨ns, e, h⟩ := h
    exact CD_all (.own _) e h
  · exact h.elim
theorem cd_any (h : Bi.any ds S) : CD c (.builtin "any") ds S := by
  unfold Bi.any at h
  split at h
  · obtain ⟨ns, e, h⟩ := h
    exact CD_any (.lst _) e h
  · obtain ⟨ns, e, h⟩ := h
    exact CD_any (.own _) e h
  · exact h.elim
theorem cd_abs (h : Bi.abs ds S) : CD c (.builtin "abs") ds S := by
  unfold Bi.abs at h
  split at h
  · exact CD_abs h
  · exact h.elim
theorem cd_max (h : Bi.max ds S) : CD c (.builtin "max") ds S := by
  unfold Bi.max at h
  split at h
  · exact CD_max2 h
  · obtain ⟨ns, e, h0, h⟩ := h
    exact CD_max (.lst _) e h0 h
  · exact h.elim
theorem cd_min (h : Bi.min ds S) : CD c (.builtin "min") ds S := by
  unfold Bi.min at h
  split at h
  · exact CD_min2 h
  · obtain ⟨ns, e, h0, h⟩ := h
    exact CD_min (.lst _) e h0 h
  · exact h.elim
theorem cd_int (h : Bi.int ds S) : CD c (.type "int") ds S := by
  unfold Bi.int at h
  split at h
  · exact CD_int h
  · exact CD_intb h
  · exact h.elim
theorem cd_bool (h : Bi.bool ds S) : CD c (.type "bool") ds S := by
  unfold Bi.bool at h
  split at h
  · exact CD_booli h
  · exact CD_boolb h
  · exact h.elim
theorem cd_tuple (h : Bi.tuple ds S) : CD c (.type "tuple") ds S := by
  unfold Bi.tuple at h
  split at h
  · exact CD_tup (.tup _) h
  · exact CD_tup (.lst _) h
  · exact CD_tup (.own _) h
  · exact h.elim
theorem cd_list (h : Bi.list ds S) : CD c (.type "list") ds S := by
  unfold Bi.list at h
  split at h
  · exact CD_lst (.tup _) h
  · exact CD_lst (.lst _) h
  · exact CD_lst (.own _) h
  · exact h.elim
end
/-- what an operator's reading is worth -/
def OpOk (f : Value → Value → Sem Value) (op : RdOp) : Prop := ∀ {X : Cx} {U : Pu} {lv : Nat} {T : XD} {c : Ct X U lv T} {S : D → Prop} {x y : D}, op T x y S → OD c f x y S
def OpAt (F : Fr) (f : Value → Value → Sem Value) (op : RdOp) : Prop := ∀ {X : Cx} {T : XD} (c : Ct X F.U F.lv T), F.X X → ∀ {S : D → Prop} {x y : D}, op T x y S → OD c f x y S
theorem OpOk.at_ {F : Fr} {f : Value → Value → Sem Value} {op : RdOp} (h : OpOk f op) : OpAt F f op := fun c _ => h
def BiOk (v : Value) (cR : List D → (D → Prop) → Prop) : Prop := ∀ {X : Cx} {U : Pu} {lv : Nat} {T : XD} {c : Ct X U lv T} {S : D → Prop} {ds : List D}, cR ds S → CD c v ds S
end Dl

set_option maxRecDepth 100000
set_option maxHeartbeats 4000000
/-! # From syntax to readings -/
namespace Dl
open PySem PySem.Spec PyProof.Rows L2
namespace De
section
variable {f : Fr} {e a b a' : Expr} {es : List Expr} {pos p : Pos} {x : Str} {ta tb tc : RdE} {tas : RdA} {st : Stmt} {sts : List Stmt}
theorem v (i : Nat) (hn : f.N[i]? = some x := by rfl) (hv : visB f.sc x = true := by (try dsimp only [Fr.blk, Fr.lam]); decide +kernel) : ReE f (.Name x pos) (Rd.v i) := .mk fun c F δ S h => by
  unfold Rd.v at h
  cases q : sl δ i with
  | none => rw [q] at h; exact h.elim
  | some d =>
    rw [q] at h
    exact WE_var i (sl_eq q) h (by rw [F.n]; exact hn) (F.vis hv) (visB_ok hv).2.1 (visB_ok hv).2.2
theorem int {i : Int} {j} : ReE f (.Constant (.int i) j pos) (Rd.g (.int i)) := .mk fun c F δ S h => WE_int h
theorem bl {i : Bool} {j} : ReE f (.Constant (.bool i) j pos) (Rd.g (.bl i)) := .mk fun c F δ S h => WE_bl h
theorem non {j} : ReE f (.Constant .none j pos) (Rd.g .non) := .mk fun c F δ S h => WE_non h
theorem str {i : Str} {j} : ReE f (.Constant (.str i) j pos) (Rd.g (.str i)) := .mk fun c F δ S h => WE_str h
theorem glb {d : D} (g : Glb f.K f.mg x d) (hg : glbB f.sc x = true := by (try dsimp only [Fr.blk, Fr.lam]); decide +kernel) : ReE f (.Name x pos) (Rd.g d) := .mk fun c F δ S h => eG F g hg h
theorem ty {t : String} (hm : f.mg x = none) (hv : bootBuiltins x = some (.type t)) (hg : glbB f.sc x = true := by (try dsimp only [Fr.blk, Fr.lam]); decide +kernel) : ReE f (.Name x pos) (Rd.g (.any (.ty t))) := .mk fun c F δ S h => eT F hm hv hg h
theorem bin {o : Operator} {op : RdOp} (ho : OpAt f (binaryOp o) op) (ha : ReE f a ta) (hb : ReE f b tb) : ReE f (.BinOp a o b pos) (Rd.bin op ta tb) := .mk fun c F δ S h =>
  WE_bin ((ha c F δ _ h).mono fun x h1 => (hb c F δ _ h1).mono fun y h2 => ho c F h2)
theorem cmp {o : CmpOp} {op : RdOp} (ho : OpAt f (compareOp o) op) (ha : ReE f a ta) (hb : ReE f b tb) (hm : behindInMarks o b = false := by rfl) : ReE f (.Compare a [o] [b] pos) (Rd.bin op ta tb) := .mk fun c F δ S h =>
  WE_cmp ((ha c F δ _ h).mono fun x h1 => (hb c F δ _ h1).mono fun y h2 => ho c F h2) hm
theorem OD_mono {X : Cx} {U : Pu} {lv : Nat} {T : XD} {c : Ct X U lv T} {S S' : D → Prop} {g : Value → Value → Sem Value} {x y : D} (h : OD c g x y S) (k : ∀ d, S d → S' d) : OD c g x y S' := fun L H vx vy Q kk rx ry q => h L H vx vy Q kk rx ry fun v H' d s r z => q v H' d s r (k d z)
theorem chain {o o' : CmpOp} {op op' : RdOp} (ho : OpAt f (compareOp o) op) (ho' : OpAt f (compareOp o') op') (ha : ReE f a ta) (hb : ReE f b tb) (hc : ReE f a' tc) (hm : lastMarks [o, o'] [b, a'] = false := by rfl) : ReE f (.Compare a [o, o'] [b, a'] pos) (Rd.chain op op' ta tb tc) := .mk fun c F δ S h =>
  WE_chain ((ha c F δ _ h).mono fun x h1 => (hb c F δ _ h1).mono fun y h2 => OD_mono (ho c F h2) fun z hz => by
    cases z with
    | bl k =>
      refine ⟨k, rfl, ?_⟩
      cases k with
      | true =>
        rw [if_pos rfl]
        exact (hc c F δ _ hz).mono fun y' h3 => ho' c F h3
      | false =>
        rw [if_neg Bool.false_ne_true]
        exact hz
    | _ => exact False.elim hz) hm
theorem neg (ha : ReE f a ta) : ReE f (.UnaryOp .USub a pos) (Rd.un Op.neg ta) := .mk fun c F δ S h => WE_un ((ha c F δ _ h).mono fun x h1 => ud_neg h1)
theorem isN_rep {K : PySem.W.Frag} {U : Pu} {Lb L : List Addr} {H : Hp} {d : D} {v : V} {k : Bool} (hk : (match d with
  | .non => some true
  | .pur => none
  | .any _ => none
  | _ => some false) = some k) (r : RepO K U Lb L H d v) : decide (v = .non) = k := by
  cases d with
  | non =>
    cases hk
    exact decide_eq_true r
  | pur => cases hk
  | any _ => cases hk
  | bl b =>
    cases hk
    rw [show v = _ from r]
    exact decide_eq_false (fun z => by cases z)
  | int b =>
    cases hk
    rw [show v = _ from r]
    exact decide_eq_false (fun z => by cases z)
  | str b =>
    cases hk
    rw [show v = _ from r]
    exact decide_eq_false (fun z => by cases z)
  | tup b =>
    cases hk
    obtain ⟨a, vs, h1, _⟩ := r.tup
    rw [h1]
    exact decide_eq_false (fun z => by cases z)
  | lst b =>
    cases hk
    obtain ⟨a, vs, h1, _⟩ := r.lst
    rw [h1]
    exact decide_eq_false (fun z => by cases z)
  | own b =>
    cases hk
    obtain ⟨a, vs, h1, _⟩ := r.ownl
    rw [h1]
    exact decide_eq_false (fun z => by cases z)
  | dck ks ds =>
    cases hk
    obtain ⟨a, vs, h1, _⟩ := r
    rw [h1]
    exact decide_eq_false (fun z => by cases z)
  | dct ks ds =>
    cases hk
    obtain ⟨a, vs, h1, _⟩ := r
    rw [h1]
    exact decide_eq_false (fun z => by cases z)
  | obj C ns ds =>
    cases hk
    obtain ⟨a, dx, vs, h1, _⟩ := r
    rw [h1]
    exact decide_eq_false (fun z => by cases z)
theorem isN {j p2} (ha : ReE f a ta) : ReE f (.Compare a [.Is] [.Constant .none j p2] pos) (Rd.isN ta) := .mk fun c F δ S h => WE_isN ((ha c F δ _ h).mono fun x h1 => by
  cases x with
  | non => exact ⟨true, fun L H v r => isN_rep rfl r, h1⟩
  | pur => exact False.elim h1
  | any _ => exact False.elim h1
  | _ => exact ⟨false, fun L H v r => isN_rep rfl r, h1⟩)
theorem notN {j p2} (ha : ReE f a ta) : ReE f (.Compare a [.IsNot] [.Constant .none j p2] pos) (Rd.notN ta) := .mk fun c F δ S h => WE_notN ((ha c F δ _ h).mono fun x h1 => by
  cases x with
  | non => exact ⟨true, fun L H v r => isN_rep rfl r, h1⟩
  | pur => exact False.elim h1
  | any _ => exact False.elim h1
  | _ => exact ⟨false, fun L H v r => isN_rep rfl r, h1⟩)
theorem and2 {rest : List Expr} (ha : ReE f a ta) (hb : ReE f (.BoolOp .And (b :: rest) pos) tb) : ReE f (.BoolOp .And (a :: b :: rest) pos) (Rd.and ta tb) := .mk fun c F δ S h => WE_and ((ha c F δ _ h).mono fun x h1 => by
  cases x with
  | bl k =>
    refine ⟨k, rfl, ?_⟩
    cases k with
    | true => rw [if_pos rfl]; exact hb c F δ _ h1
    | false => rw [if_neg Bool.false_ne_true]; exact h1
  | _ => exact False.elim h1)
theorem or2 {rest : List Expr} (ha : ReE f a ta) (hb : ReE f (.BoolOp .Or (b :: rest) pos) tb) : ReE f (.BoolOp .Or (a :: b :: rest) pos) (Rd.or ta tb) := .mk fun c F δ S h => WE_or ((ha c F δ _ h).mono fun x h1 => by
  cases x with
  | bl k =>
    refine ⟨k, rfl, ?_⟩
    cases k with
    | true => rw [if_pos rfl]; exact h1
    | false => rw [if_neg Bool.false_ne_true]; exact hb c F δ _ h1
  | _ => exact False.elim h1)
theorem one {op} (ha : ReE f a ta) : ReE f (.BoolOp op [a] pos) ta := .mk fun c F δ S h => WE_one (ha c F δ _ h)
theorem not (ha : ReE f a ta) : ReE f (.UnaryOp .Not a pos) (Rd.not ta) := .mk fun c F δ S h => WE_not ((ha c F δ _ h).mono fun x h1 => by
  cases x with
  | bl k => exact ⟨k, rfl, h1⟩
  | _ => exact False.elim h1)
theorem ite {t : Expr} {tt : RdT} (ht : ReT f t tt) (ha : ReE f a ta) (hb : ReE f b tb) : ReE f (.IfExp t a b pos) (Rd.ite tt ta tb) := .mk fun c F δ S h => WE_if ((ht c F δ _ h).mono fun k h1 => by
  cases k with
  | true => rw [if_pos rfl]; exact ha c F δ _ h1
  | false => rw [if_neg Bool.false_ne_true]; exact hb c F δ _ h1)
theorem dict0 : ReE f (.Dict [] [] pos) (Rd.g (.dck [] [])) := .mk fun c F δ S h L σ H Q N q => runE_of pe_dnewK fun p hp => q _ _ (.dck [] []) (same_new hp) ⟨p, [], rfl, hide_new hp (N.ok.fresh hp), rfl, rfl⟩ h
theorem nil : ReA f [] Rd.nil := .mk fun c F δ S h => WA_nil ⟨rfl, h⟩
theorem cons (ha : ReE f e ta) (hs : ReA f es tas) (he : ∀ X : Cx, starEach (e :: es) X.env = (false, eval e X.env) :: starEach es X.env := by intro _; rfl) : ReA f (e :: es) (Rd.cons ta tas) := .mk fun {X T} c F δ S h =>
  WA_cons ((ha c F δ _ h).mono fun d h1 => (hs c F δ _ h1).mono fun ds h2 => ⟨by rw [List.length_cons, List.length_cons, h2.1], h2.2⟩) (he X)
theorem tup {x1} (hs : ReA f es tas) (hl : es.length ≤ sizeLine := by decide) : ReE f (.Tuple es x1 pos) (Rd.tup tas) := .mk fun c F δ S h => WE_tup ((hs c F δ _ h).mono fun ds ⟨h1, h2⟩ => by
  cases q : stills ds with
  | true =>
    rw [q] at h2
    exact ⟨rfl, by rw [h1]; exact hl, h2⟩
  | false =>
    rw [q] at h2
    exact h2.elim)
theorem lst (hs : ReA f es tas) (hl : es.length ≤ sizeLine := by decide) : ReE f (.List es pos) (Rd.lst tas) := .mk fun c F δ S h => WE_lst ((hs c F δ _ h).mono fun ds ⟨h1, h2⟩ => by
  cases q : stills ds with
  | true =>
    rw [q] at h2
    exact ⟨rfl, by rw [h1]; exact hl, h2⟩
  | false =>
    rw [q] at h2
    exact h2.elim)
/-- [..] as a list of one's own -/
def _root_.Dl.Rd.dsp (as : RdA) : RdA := fun T δ S => as T δ fun ds => match stills ds with
  | true => S ds
  | false => False
theorem dsp (hs : ReA f es tas) (hl : es.length ≤ sizeLine := by decide) : ReF f (.List es pos) (Rd.dsp tas) := .mk fun c F δ S h => WF_lst ((hs c F δ _ h).mono fun ds ⟨h1, h2⟩ => by
  cases q : stills ds with
  | true =>
    rw [q] at h2
    exact ⟨rfl, by rw [h1]; exact hl, h2⟩
  | false =>
    rw [q] at h2
    exact h2.elim)
theorem ix (ha : ReE f a ta) (hb : ReE f b tb) (hs : PlainIx b := by intros _ _; rfl) : ReE f (.Subscript a b pos) (Rd.ix ta tb) := .mk fun c F δ S h => WE_ix ((ha c F δ _ h).mono fun x h1 => (hb c F δ _ h1).mono fun y h2 => by
  cases y with
  | int i =>
    cases x with
    | tup xs => obtain ⟨d, g1, g2⟩ := h2; exact ID_seq (.tup _) g1 g2
    | lst xs => obtain ⟨d, g1, g2⟩ := h2; exact ID_seq (.lst _) g1 g2
    | own xs => obtain ⟨d, g1, g2⟩ := h2; exact ID_seq (.own _) g1 g2
    | _ => exact False.elim h2
  | _ => cases x <;> exact False.elim h2) hs
theorem noP : ReP f none Rd.noP := .mk fun c F δ S h => WP_none h
theorem atP (ha : ReE f a ta) : ReP f (some a) (Rd.atP ta) := .mk fun c F δ S h => WP_some ((ha c F δ _ h).mono fun d h1 => by
  cases d with
  | int i => exact ⟨i, rfl, h1⟩
  | _ => exact False.elim h1)
theorem WP_mono {X : Cx} {U : Pu} {lv : Nat} {T : XD} {c : Ct X U lv T} {o : Option Expr} {δ : List (Option D)} {S S' : Option Int → Prop} (h : WP c o δ S) (k : ∀ i, S i → S' i) : WP c o δ S' := fun L σ H Q E q => h L σ H Q E fun i H' s z => q i H' s (k i z)
theorem slc {lo hi : Option Expr} {tl th : RdO} {p2 : Pos} (ha : ReE f a ta) (hl : ReP f lo tl) (hh : ReP f hi th) : ReE f (.Subscript a (.Slice lo hi none p2) pos) (Rd.slc ta tl th) := .mk fun c F δ S h => WE_sl ((ha c F δ _ h).mono fun x h1 => WP_mono (hl c F δ _ h1) fun i h2 => WP_mono (hh c F δ _ h2) fun j h3 => by
  cases x with
  | tup xs => exact SD_tup h3
  | lst xs => exact SD_lst (.lst _) h3
  | own xs => exact SD_lst (.own _) h3
  | _ => exact False.elim h3)
theorem fld {g : Str} (ha : ReE f a ta) (hb : ∀ X : Cx, attributeBase a g X.env (eval a X.env) = eval a X.env := by intro _; rfl) : ReE f (.Attribute a g pos) (Rd.fld f.K ta g) := .mk fun {X T} c F δ S h => eF2 F ((ha c F δ _ h).mono fun x h1 => by
  cases x with
  | obj C ns ds =>
    obtain ⟨h1, h2, d, h3, h4⟩ := h1
    exact ⟨C, ns, ds, d, rfl, h1, h2, h3, h4⟩
  | _ => exact False.elim h1) (hb X)
theorem call {n k : Nat} {sp : DSpec} (Fn' : Fn f.P f.w f.K f.mg f.base f.U k x n sp) (hs : ReA f (e :: es) tas) (hk : k ≤ f.lv := by (try dsimp only [Fr.blk, Fr.lam]); decide) (hn : (e :: es).length = n := by rfl) (hg : glbB f.sc x = true := by (try dsimp only [Fr.blk, Fr.lam]); decide +kernel)
    (he : ∀ X : Cx, starEach (e :: es) X.env = (false, eval e X.env) :: starEach es X.env := by intro _; rfl) (hpl : ∀ X : Cx, (backTo pos (starEach es X.env)).any (·.1) = false := by intro _; rfl) : ReE f (.Call (.Name x p) (e :: es) [] pos) (Rd.call sp tas) := .mk fun {X T} c F δ S h =>
  eCP F Fn' hk hg ((hs c F δ _ h).mono fun ds h1 => calR_ok (h1.1.trans hn) h1.2) (he X) (hpl X)
theorem make {n k : Nat} {sp : DSpec} (Mk' : Maker f.P f.w f.K f.mg f.base f.U k x n sp) (hs : ReA f (e :: es) tas) (hk : k + 1 ≤ f.lv := by (try dsimp only [Fr.blk, Fr.lam]); decide) (hn : (e :: es).length = n := by rfl) (hg : glbB f.sc x = true := by (try dsimp only [Fr.blk, Fr.lam]); decide +kernel)
    (he : ∀ X : Cx, starEach (e :: es) X.env = (false, eval e X.env) :: starEach es X.env := by intro _; rfl) (hpl : ∀ X : Cx, (backTo pos (starEach es X.env)).any (·.1) = false := by intro _; rfl) : ReE f (.Call (.Name x p) (e :: es) [] pos) (Rd.cons' sp tas) := .mk fun {X T} c F δ S h =>
  eM F Mk' hk hg ((hs c F δ _ h).mono fun ds ⟨h1, h2⟩ => by
    cases q : stills ds with
    | true =>
      rw [q] at h2
      exact ⟨h1.trans hn, rfl, h2⟩
    | false =>
      rw [q] at h2
      exact h2.elim) (he X) (hpl X)
theorem blt {id : String} {cR : List D → (D → Prop) → Prop} (hc : BiOk (.builtin id) cR) (hv : bootBuiltins x = some (.builtin id)) (hm : f.mg x = none) (hs : ReA f (e :: es) tas) (hg : glbB f.sc x = true := by (try dsimp only [Fr.blk, Fr.lam]); decide +kernel)
    (he : ∀ X : Cx, starEach (e :: es) X.env = (false, eval e X.env) :: starEach es X.env := by intro _; rfl) (hpl : ∀ X : Cx, (backTo pos (starEach es X.env)).any (·.1) = false := by intro _; rfl) : ReE f (.Call (.Name x p) (e :: es) [] pos) (Rd.blt cR tas) := .mk fun {X T} c F δ S h =>
  eB F hm hv hg ((hs c F δ _ h).mono fun ds h1 => hc h1.2) (he X) (hpl X)
theorem bty {t : String} {cR : List D → (D → Prop) → Prop} (hc : BiOk (.type t) cR) (hv : bootBuiltins x = some (.type t)) (hm : f.mg x = none) (hs : ReA f (e :: es) tas) (hg : glbB f.sc x = true := by (try dsimp only [Fr.blk, Fr.lam]); decide +kernel)
    (he : ∀ X : Cx, starEach (e :: es) X.env = (false, eval e X.env) :: starEach es X.env := by intro _; rfl) (hpl : ∀ X : Cx, (backTo pos (starEach es X.env)).any (·.1) = false := by intro _; rfl) : ReE f (.Call (.Name x p) (e :: es) [] pos) (Rd.blt cR tas) := .mk fun {X T} c F δ S h =>
  eBT F hm hv hg ((hs c F δ _ h).mono fun ds h1 => hc h1.2) (he X) (hpl X)
/-- isinstance(e, T) -/
def TyOk (t : String) (q : D → Option Bool) : Prop := ∀ {X : Cx} {U : Pu} {lv : Nat} {T : XD} {c : Ct X U lv T} {S : D → Prop} {x : D} {b : Bool}, q x = some b → S (.bl b) → CD c (.builtin "isinstance") [x, .any (.ty t)] S
theorem tyInt : TyOk "int" Rd.pInt := fun {X U lv T c S x b} e h => by cases x <;> first | (cases e; done) | (cases e; exact CD_isInt rfl h)
theorem tyBool : TyOk "bool" Rd.pBool := fun {X U lv T c S x b} e h => by cases x <;> first | (cases e; done) | (cases e; exact CD_isBool rfl h)
theorem tyTup : TyOk "tuple" Rd.pTup := fun {X U lv T c S x b} e h => by cases x <;> first | (cases e; done) | (cases e; exact CD_isTup rfl h)
theorem tyLst : TyOk "list" Rd.pLst := fun {X U lv T c S x b} e h => by cases x <;> first | (cases e; done) | (cases e; exact CD_isLst rfl h)
theorem tyStr : TyOk "str" Rd.pStr := fun {X U lv T c S x b} e h => by cases x <;> first | (cases e; done) | (cases e; exact CD_isStr rfl h)
theorem isTy {t : String} {q : D → Option Bool} {p1 p2 : Pos} {y : Str} (hq : TyOk t q) (hv : bootBuiltins y = some (.type t)) (hm : f.mg "isinstance" = none) (hm2 : f.mg y = none) (ha : ReE f a ta) (hg : glbB f.sc "isinstance" = true := by (try dsimp only [Fr.blk, Fr.lam]); decide +kernel) (hg2 : glbB f.sc y = true := by (try dsimp only [Fr.blk, Fr.lam]); decide +kernel)
    (he : ∀ X : Cx, starEach [a, .Name y p2] X.env = (false, eval a X.env) :: starEach [.Name y p2] X.env := by intro _; rfl) (hpl : ∀ X : Cx, (backTo pos (starEach [.Name y p2] X.env)).any (·.1) = false := by intro _; rfl) : ReE f (.Call (.Name "isinstance" p1) [a, .Name y p2] [] pos) (Rd.isTy q ta) := .mk fun {X T} c F δ S h =>
  eB F hm bt_isinstance hg (WA_cons ((ha c F δ _ h).mono fun d h1 => WA_cons (eT F hm2 hv hg2 (WA_nil (by
    cases e : q d with
    | none => rw [e] at h1; exact h1.elim
    | some b => rw [e] at h1; exact hq e h1))) rfl) (he X)) (he X) (hpl X)
theorem isOb {C : Addr} {p1 p2 : Pos} {y : Str} (hm : f.mg "isinstance" = none) (hC : Glb f.K f.mg y (.any (.ref C))) (ha : ReE f a ta) (hg : glbB f.sc "isinstance" = true := by (try dsimp only [Fr.blk, Fr.lam]); decide +kernel) (hg2 : glbB f.sc y = true := by (try dsimp only [Fr.blk, Fr.lam]); decide +kernel)
    (he : ∀ X : Cx, starEach [a, .Name y p2] X.env = (false, eval a X.env) :: starEach [.Name y p2] X.env := by intro _; rfl) (hpl : ∀ X : Cx, (backTo pos (starEach [.Name y p2] X.env)).any (·.1) = false := by intro _; rfl) : ReE f (.Call (.Name "isinstance" p1) [a, .Name y p2] [] pos) (Rd.isOb f.K C ta) := .mk fun {X T} c F δ S h =>
  eB F hm bt_isinstance hg (WA_cons ((ha c F δ _ h).mono fun d h1 => WA_cons (eG F hC hg2 (WA_nil (by
    cases d with
    | obj C' ns ds =>
      obtain ⟨b, k1, o, h2⟩ := h1
      exact IsO F o (.own C) k1 h2
    | _ => exact False.elim h1))) rfl) (he X)) (he X) (hpl X)
/-! ### tests -/
theorem tval (ha : ReE f e ta) (he : ∀ X : Cx, ∀ whole, isTrue e X.env whole = (do let v ← whole; standAt e.pos; holding [v] (truthy v)) := by intro _ _; rfl) : ReT f e (Rd.tval ta) := .mk fun {X T} c F δ S h => WT_val ((ha c F δ _ h).mono fun z h1 => by
  cases z with
  | bl k => exact ⟨k, rfl, h1⟩
  | _ => exact False.elim h1) (he X)
theorem tcmp {o : CmpOp} {op : RdOp} (ho : OpAt f (compareOp o) op) (ha : ReE f a ta) (hb : ReE f b tb) (hm : behindInMarks o b = false := by rfl) : ReT f (.Compare a [o] [b] pos) (Rd.tcmp op ta tb) := .mk fun c F δ S h =>
  WT_cmpR ((ha c F δ _ h).mono fun x h1 => (hb c F δ _ h1).mono fun y h2 => OD_mono (ho c F h2) fun z hz => by
    cases z with
    | bl k => exact ⟨k, rfl, hz⟩
    | _ => exact False.elim hz) hm
theorem tisN {j p2} (ha : ReE f a ta) : ReT f (.Compare a [.Is] [.Constant .none j p2] pos) (Rd.tisN ta) := .mk fun c F δ S h => WT_isN ((ha c F δ _ h).mono fun x h1 => by
  cases x with
  | non => exact ⟨true, fun L H v r => isN_rep rfl r, h1⟩
  | pur => exact False.elim h1
  | any _ => exact False.elim h1
  | _ => exact ⟨false, fun L H v r => isN_rep rfl r, h1⟩)
theorem tnotN {j p2} (ha : ReE f a ta) : ReT f (.Compare a [.IsNot] [.Constant .none j p2] pos) (Rd.tnotN ta) := .mk fun c F δ S h => WT_notN ((ha c F δ _ h).mono fun x h1 => by
  cases x with
  | non => exact ⟨true, fun L H v r => isN_rep rfl r, h1⟩
  | pur => exact False.elim h1
  | any _ => exact False.elim h1
  | _ => exact ⟨false, fun L H v r => isN_rep rfl r, h1⟩)
variable {t : Expr} {tt tw : RdT}
theorem tnot (ha : ReT f a tt) : ReT f (.UnaryOp .Not a pos) (Rd.tnot tt) := .mk fun c F δ S h => WT_not (ha c F δ _ h)
theorem tof (ha : ReW f a tt) : ReT f a tt := .mk fun c F δ S h => WT_of (ha c F δ _ h)
theorem wand1 (ha : ReT f a tt) : ReW f (.BoolOp .And [a] pos) tt := .mk fun c F δ S h => WW_and1 (ha c F δ _ h)
theorem wor1 (ha : ReT f a tt) : ReW f (.BoolOp .Or [a] pos) tt := .mk fun c F δ S h => WW_or1 (ha c F δ _ h)
theorem wand {rest : List Expr} (ha : ReT f a tt) (hb : ReW f (.BoolOp .And (b :: rest) pos) tw) : ReW f (.BoolOp .And (a :: b :: rest) pos) (Rd.tand tt tw) := .mk fun c F δ S h => WW_and ((ha c F δ _ h).mono fun k h1 => by
  cases k with
  | true => rw [if_pos rfl]; exact hb c F δ _ h1
  | false => rw [if_neg Bool.false_ne_true]; exact h1)
theorem wor {rest : List Expr} (ha : ReT f a tt) (hb : ReW f (.BoolOp .Or (b :: rest) pos) tw) : ReW f (.BoolOp .Or (a :: b :: rest) pos) (Rd.tor tt tw) := .mk fun c F δ S h => WW_or ((ha c F δ _ h).mono fun k h1 => by
  cases k with
  | true => rw [if_pos rfl]; exact h1
  | false => rw [if_neg Bool.false_ne_true]; exact hb c F δ _ h1)
/-! ### targets -/
theorem tv {ts : List Nat} (i : Nat) (hn : f.N[i]? = some x := by rfl) (hl : tgB f.z f.sc x = true := by (try dsimp only [Fr.blk, Fr.lam]); first | exact tgB_code (by decide +kernel) | decide +kernel) (hm : decide (i ∈ ts) = true := by first | rfl | decide) : ReG f (.Name x pos) ts (Rd.tv i) := .mk fun {X T} c F δ d Q h => by
  unfold Rd.tv at h
  rw [fc_eq, st_eq] at h
  exact (AG_name i h (by rw [F.n]; exact hn) (F.loc (F.tl hl)) (F.fn hl)).up fun j hj => by
    rw [List.mem_singleton.mp hj]
    exact of_decide_eq_true hm
theorem AG_mono {X : Cx} {U : Pu} {lv : Nat} {T : XD} {c : Ct X U lv T} {tg : Expr} {δ : List (Option D)} {d : D} {ts : List Nat} {Q Q' : List (Option D) → Prop} (h : AG c tg δ d ts Q) (k : ∀ δ', Q δ' → Q' δ') : AG c tg δ d ts Q' := fun L σ H v R E r q => h L σ H v R E r fun σ' δ' df E' z => q σ' δ' df E' (k _ z)
theorem gN {ts : List Nat} : ReGs f [] ts Rd.gN := .mk fun c F δ ds Q h => by
  cases ds with
  | nil => exact AGs_n h
  | cons d r => exact False.elim h
theorem gC {tg : Expr} {tgs : List Expr} {ts : List Nat} {g1 : RdG} {g2 : RdGs} (h1 : ReG f tg ts g1) (h2 : ReGs f tgs ts g2) (hs : ∀ X : Cx, (assignEach (tg :: tgs) X.env).map (·.2) = assign tg X.env :: (assignEach tgs X.env).map (·.2) := by intro _; rfl) : ReGs f (tg :: tgs) ts (Rd.gC g1 g2) := .mk fun {X T} c F δ ds Q h => by
  cases ds with
  | nil => exact False.elim h
  | cons d r => exact AGs_c (AG_mono (h1 c F δ d _ h) fun δ1 k => h2 c F δ1 r Q k) (hs X)
theorem tgt {es : List Expr} {kk : Nat} {ts : List Nat} {gs : RdGs} (n : Nat) (h1 : ReGs f es ts gs) (hn : ∀ X : Cx, (assignEach es X.env).length = n := by intro _; rfl) (hst : ∀ X : Cx, (assignEach es X.env).findIdx? (·.1) = none := by intro _; rfl) : ReG f (.Tuple es kk pos) ts (Rd.tt n gs) := .mk fun {X T} c F δ d Q h => by
  cases d with
  | tup ds =>
    have h : Rd.lenP n ds (gs δ ds Q) := h
    unfold Rd.lenP at h
    cases q : Nat.beq ds.length n with
    | true =>
      rw [q] at h
      exact tT (h1 c F δ ds Q h) ((hn X).trans (Nat.eq_of_beq_eq_true q).symm) (hst X)
    | false =>
      rw [q] at h
      exact h.elim
  | _ => exact False.elim h
/-! ### sources -/
def _root_.Dl.iSeqV (K : PySem.W.Frag) (tl : TE) : TI := fun σ H R => tl σ H fun x H1 => ∃ a, x = .ref a ∧ (((∃ xs, SqL K H1 a xs) ∧ R (Itl K a) H1) ∨ ((∃ xs, SqT K H1 a xs) ∧ R (Itt K a) H1))
theorem pi_seq {X : Cx} {tg l : Expr} {tl : TE} (hl : PE X l tl) : PI X tg l (iSeqV X.K tl) := by
  refine ⟨fun pins s σ H R I h => ?_⟩
  refine thn (hl.run pins s σ H _ I h) fun v s1 ⟨x, H1, I1, r1, q1⟩ => ?_
  obtain ⟨a, e, q⟩ := q1
  subst e
  cases r1
  rcases q with ⟨⟨xs, hq⟩, q⟩ | ⟨⟨xs, hq⟩, q⟩
  · obtain ⟨its, rv, p, hz⟩ := I1.list hq
    refine wpAny_pyIter_list p.isList ?_
    refine ⟨s1.heap.objs.size, [s1.heap.objs.size], _, _, H1, rfl, I1.kept (t' := s1.toks) fun b o e => Heap.get?_push_of_some _ e, turn_list a _, ⟨_, Heap.get?_push_size _ rfl, rfl, rfl⟩, fun b hb => ?_, q⟩
    have e : b = s1.heap.objs.size := by simpa using hb
    subst e
    exact I1.fpOk (Nat.le_refl _) (I1.hok.fresh (Nat.le_refl _))
  · obtain ⟨its, rv, p, hz⟩ := I1.tuple hq
    refine wpAny_pyIter_tuple (show s1.heap.IsTuple a its.toArray from p) ?_
    refine ⟨s1.heap.objs.size, [s1.heap.objs.size], _, _, H1, rfl, I1.kept (t' := s1.toks) fun b o e => Heap.get?_push_of_some _ e, turn_tuple a _, ⟨_, Heap.get?_push_size _ rfl, rfl, rfl⟩, fun b hb => ?_, q⟩
    have e : b = s1.heap.objs.size := by simpa using hb
    subst e
    exact I1.fpOk (Nat.le_refl _) (I1.hok.fresh (Nat.le_refl _))
theorem seq {tg : Expr} (ha : ReE f a ta) : ReI f tg a (Rd.seq ta) := .mk fun c F δ S h => fun L σ H R E q =>
  runI_of (pi_seq pe_run) (ha c F δ _ h L σ H _ E fun v H1 d s1 r1 h1 => by
    cases d with
    | tup ds =>
      obtain ⟨b, vs, rfl, hb, ra, za⟩ := r1
      exact ⟨b, rfl, .inr ⟨⟨vs, seqT_mono hide_ext.k hb⟩, q _ H1 ds s1 (walk_t hb ra za) h1⟩⟩
    | lst ds =>
      obtain ⟨b, vs, rfl, hb, ra, za⟩ := r1
      exact ⟨b, rfl, .inl ⟨⟨vs, SqL.of (hide_at hb).2⟩, q _ H1 ds s1 (walk_l (SameK.refl _) hb ra za) h1⟩⟩
    | _ => exact False.elim h1)
theorem seqJ {tg : Expr} (ha : ReE f a ta) : ReJ f tg a (Rd.seqJ ta) := .mk fun c F δ S h => fun L σ H R E q =>
  runI_of (pi_seq pe_run) (ha c F δ _ h L σ H _ E fun v H1 d s1 r1 h1 => by
    cases d with
    | tup ds =>
      obtain ⟨b, vs, rfl, hb, ra, za⟩ := r1
      exact ⟨b, rfl, .inr ⟨⟨vs, seqT_mono hide_ext.k hb⟩, q _ H1 ds s1 ((walk_t hb ra za).base hide_ext.k) h1⟩⟩
    | lst ds =>
      obtain ⟨b, vs, rfl, hb, ra, za⟩ := r1
      exact ⟨b, rfl, .inl ⟨⟨vs, SqL.of (hide_at hb).2⟩, q _ H1 ds s1 ((walk_l (SameK.refl _) hb ra za).base hide_ext.k) h1⟩⟩
    | own ds =>
      obtain ⟨b, vs, rfl, hb, ra, za⟩ := r1.ownl
      exact ⟨b, rfl, .inl ⟨⟨vs, SqL.of hb⟩, q _ H1 ds s1 (walk_l hide_ext.k hb ra za) h1⟩⟩
    | _ => exact False.elim h1)
theorem toJ {tg : Expr} {t : RdA} (h : ReI f tg a t) : ReJ f tg a t := .mk fun c F δ S k => WJ_of (h c F δ S k)
theorem rng1 {tg : Expr} (hm : f.mg "range" = none) (ha : ReE f a ta) (hg : glbB f.sc "range" = true := by (try dsimp only [Fr.blk, Fr.lam]); decide +kernel) (hs : ∀ X : Cx, starEach [a] X.env = [(false, eval a X.env)] := by intro _; rfl) : ReI f tg (.Call (.Name "range" p) [a] [] pos) (Rd.rng1 ta) := .mk fun {X T} c F δ S h =>
  iR1 F hm hg (WA_cons ((ha c F δ _ h).mono fun d h1 => WA_nil (by
    cases d with
    | int n => exact ⟨n, rfl, by have := h1.1; omega, by have := h1.1; omega, h1.2⟩
    | _ => exact False.elim h1)) (hs X)) (hs X)
theorem rng2 {tg : Expr} (hm : f.mg "range" = none) (ha : ReE f a ta) (hb : ReE f b tb) (hg : glbB f.sc "range" = true := by (try dsimp only [Fr.blk, Fr.lam]); decide +kernel) (hs : ∀ X : Cx, starEach [a, b] X.env = [(false, eval a X.env), (false, eval b X.env)] := by intro _; rfl) (hs2 : ∀ X : Cx, starEach [b] X.env = [(false, eval b X.env)] := by intro _; rfl) : ReI f tg (.Call (.Name "range" p) [a, b] [] pos) (Rd.rng2 ta tb) := .mk fun {X T} c F δ S h =>
  iR2 F hm hg (WA_cons ((ha c F δ _ h).mono fun d h1 => by
    cases d with
    | int m =>
      exact WA_cons ((hb c F δ _ h1).mono fun d2 h2 => WA_nil (by
        cases d2 with
        | int n => exact ⟨m, n, rfl, h2.1.1, h2.1.2.1, h2.1.2.2.1, h2.1.2.2.2, h2.2⟩
        | _ => exact False.elim h2)) (hs2 X)
    | _ => exact False.elim h1) (by rw [hs X, hs2 X])) (hs X) (hs2 X)
theorem zip {elts : List Expr} {kk : Nat} {tpos : Pos} (hm : f.mg "zip" = none) (ha : ReE f a ta) (hb : ReE f b tb) (hg : glbB f.sc "zip" = true := by (try dsimp only [Fr.blk, Fr.lam]); decide +kernel) (hs : ∀ X : Cx, starEach [a, b] X.env = (false, eval a X.env) :: starEach [b] X.env := by intro _; rfl) (hs2 : ∀ X : Cx, starEach [b] X.env = (false, eval b X.env) :: starEach [] X.env := by intro _; rfl) (hpl : ∀ X : Cx, (backTo pos (starEach [b] X.env)).any (·.1) = false := by intro _; rfl) :
    ReI f (.Tuple elts kk tpos) (.Call (.Name "zip" p) [a, b] [] pos) (Rd.zip ta tb) := .mk fun {X T} c F δ S h =>
  iZip F hm hg (WA_cons ((ha c F δ _ h).mono fun d h1 => WA_cons ((hb c F δ _ h1).mono fun d2 h2 => WA_nil (by
    cases d with
    | tup m =>
      cases d2 with
      | tup n => exact ⟨m, n, .inr rfl, h2⟩
      | _ => exact False.elim h2
    | lst m =>
      cases d2 with
      | lst n => exact ⟨m, n, .inl rfl, h2⟩
      | _ => exact False.elim h2
    | _ => cases d2 <;> exact False.elim h2)) (hs2 X)) (hs X)) (hs X) (hpl X)
def _root_.Dl.iEnumV (K : PySem.W.Frag) (ta : TA) : TI := fun σ H R => ta σ H fun vs H1 => ∃ t, vs = [.ref t] ∧ ((∃ us, SqL K H1 t us ∧ R (Ite K t) H1) ∨ (∃ us, SqT K H1 t us ∧ R (IteT K t) H1))
theorem pi_enumA {X : Cx} {e : Expr} {ta : TA} {p pos tp : Pos} {elts : List Expr} {kk : Nat} (hg : Gl X "enumerate") (hm : X.mg "enumerate" = none) (ha : PA X [e] ta) (hs : starEach [e] X.env = [(false, eval e X.env)]) :
    PI X (.Tuple elts kk tp) (.Call (.Name "enumerate" p) [e] [] pos) (iEnumV X.K ta) := by
  refine ⟨fun pins s σ H R I h => ?_⟩
  refine Call_ (ld_blt I hg hm boot_enumerate (PyProof.Rows.callWith_type1 (thn (ha.run pos pins s σ H _ I h) fun us s1 ⟨vs, H1, I1, r1, t, ex, q⟩ => ?_) hs rfl))
  subst ex
  cases r1 with
  | cons r rr =>
    cases rr
    cases r
    rcases q with ⟨xs, hq, q⟩ | ⟨xs, hq, q⟩
    · obtain ⟨its, rv, p', hz⟩ := I1.list hq
      refine call_enumerate_list p'.isList fun h' he hit hsz hk => wpAny_pyIter_enum he ?_
      have I2 : Inv X pins σ H1 { s1 with heap := h' } := I1.kept (t' := s1.toks) hk
      refine ⟨s1.heap.objs.size + 1, [s1.heap.objs.size + 1, s1.heap.objs.size], _, _, H1, rfl, I2, turn_enum t (s1.heap.objs.size + 1) s1.heap.objs.size, ⟨⟨.none, he⟩, hit, Nat.succ_ne_self _⟩, fun b hb => ?_, q⟩
      have e' : b = s1.heap.objs.size + 1 ∨ b = s1.heap.objs.size := by simpa using hb
      have hle : s1.heap.objs.size ≤ b := by
        rcases e' with z | z
        · rw [z]; exact Nat.le_add_right _ _
        · rw [z]; exact Nat.le_refl _
      exact I1.fpOk hle (I1.hok.fresh hle)
    · obtain ⟨its, rv, p', hz⟩ := I1.tuple hq
      obtain ⟨ot, hot, _⟩ := id p'
      have lt : t < s1.heap.objs.size := Heap.lt_size hot
      refine enumBegins (begins_tuple t its.toArray) (show s1.heap.IsTuple t its.toArray from p') fun h' isE hj hsz hk => wpAny_pyIter_enum isE ?_
      have I2 : Inv X pins σ H1 { s1 with heap := h' } := I1.kept (t' := s1.toks) hk
      refine ⟨s1.heap.objs.size + 1, [s1.heap.objs.size + 1, s1.heap.objs.size], _, _, H1, rfl, I2, turnEnumT t (s1.heap.objs.size + 1) s1.heap.objs.size, ⟨⟨.none, isE⟩, ⟨_, hj, rfl, rfl⟩, Nat.succ_ne_self _, Nat.ne_of_lt lt, Nat.ne_of_gt (Nat.lt_succ_of_lt lt)⟩, fun b hb => ?_, q⟩
      have cs : b = s1.heap.objs.size + 1 ∨ b = s1.heap.objs.size := by simpa using hb
      have le : s1.heap.objs.size ≤ b := by
        rcases cs with rfl | rfl
        · exact Nat.le_succ _
        · exact Nat.le_refl _
      exact I1.fpOk le (I1.hok.fresh le)
theorem enum {elts : List Expr} {kk : Nat} {tpos : Pos} (hm : f.mg "enumerate" = none) (ha : ReE f a ta) (hg : glbB f.sc "enumerate" = true := by (try dsimp only [Fr.blk, Fr.lam]); decide +kernel) (hs : ∀ X : Cx, starEach [a] X.env = [(false, eval a X.env)] := by intro _; rfl) :
    ReI f (.Tuple elts kk tpos) (.Call (.Name "enumerate" p) [a] [] pos) (Rd.enum ta) := .mk fun {X T} c F δ S h => fun L σ H R E q =>
  runI_of (pi_enumA (F.gl hg) (by rw [F.m]; exact hm) pa_run (hs X)) ((WA_cons (S := fun ds => ∃ d, ds = [d] ∧ Rd.enumD S d) ((ha c F δ _ h).mono fun d h1 => WA_nil ⟨d, rfl, h1⟩) (hs X) L σ H _ E fun vs H1 ds s1 r1 ⟨d, hd, h1⟩ => by
    subst hd
    obtain ⟨v, rfl, rv⟩ := r1.one
    cases d with
    | tup ds =>
      obtain ⟨b, vs, rfl, hb, ra, za⟩ := rv
      exact ⟨b, rfl, .inr ⟨vs, seqT_mono hide_ext.k hb, q _ H1 _ s1 (walk_et hb ra za) h1⟩⟩
    | lst ds =>
      obtain ⟨b, vs, rfl, hb, ra, za⟩ := rv
      exact ⟨b, rfl, .inl ⟨vs, SqL.of (hide_at hb).2, q _ H1 _ s1 (walk_el hb ra za) h1⟩⟩
    | _ => exact False.elim h1))
/-! ### comprehensions -/
theorem noT {f : Fr} : ∀ {X : Cx} {T : XD} (c : Ct X f.U f.lv T), f.X X → ∀ (δ : List (Option D)) (S : Bool → Prop), Rd.noT T δ S → WTs c [] δ S := fun c F δ S h => WTs_nil h
structure _root_.Dl.ReTs (f : Fr) (ifs : List Expr) (t : RdT)  : Prop where
  run : ∀ {X : Cx} {T : XD} (c : Ct X f.U f.lv T), f.X X → ∀ (δ : List (Option D)) (S : Bool → Prop), t T δ S → WTs c ifs δ S
instance {f : Fr} {ifs : List Expr} {t : RdT}  : CoeFun (_root_.Dl.ReTs f ifs t) fun _ => ∀ {X : Cx} {T : XD} (c : Ct X f.U f.lv T), f.X X → ∀ (δ : List (Option D)) (S : Bool → Prop), t T δ S → WTs c ifs δ S := ⟨fun h => h.run⟩
theorem ts0 : ReTs f [] Rd.noT := .mk fun c F δ S h => WTs_nil h
theorem ts1 (h : ReT f t tt) : ReTs f [t] tt := .mk fun c F δ S k => WTs_one (h c F δ S k)
theorem WTs_mono {X : Cx} {U : Pu} {lv : Nat} {T : XD} {c : Ct X U lv T} {ifs : List Expr} {δ : List (Option D)} {S S' : Bool → Prop} (h : WTs c ifs δ S) (k : ∀ b, S b → S' b) : WTs c ifs δ S' := fun L σ H Q En q => h L σ H Q En fun b H' s z => q b H' s (k b z)
theorem lcTurns {scope : Scope} {tg elt : Expr} {ifs : List Expr} {ts : List Nat} {g : RdG} {tt : RdT} {te : RdE} (hg : ReG (f.blk scope) tg ts g) (ht : ReTs (f.blk scope) ifs tt) (he : ReE (f.blk scope) elt te) {δ : List (Option D)} {S : List D → Prop} {ds : List D} (h : Rd.turns g tt te δ S ds) :
    Turns f.P f.w f.K f.mg f.base f.N f.U f.lv tg ifs elt scope f.sc δ ts S ds := by
  unfold Rd.turns at h
  obtain ⟨Pv, h0, hs, hd⟩ := h
  refine ⟨Pv, h0, fun i d ys h1 h2 h3 => ?_, hd⟩
  refine fun X1 c1 F1 => AG_mono (hg c1 F1 δ d _ (hs i d ys h1 h2 h3)) fun δ2 k2 => ?_
  refine fun X2 c2 F2 => WTs_mono (ht c2 F2 δ2 _ k2) fun b k3 => ?_
  cases b with
  | true =>
    rw [if_pos rfl]
    exact fun X3 c3 F3 => he c3 F3 δ2 _ k3
  | false =>
    rw [if_neg Bool.false_ne_true]
    exact k3
theorem lc {scope : Scope} {tg iter elt : Expr} {ifs : List Expr} {g : RdG} {tt : RdT} {te : RdE} {src : RdA} (own : List (Str × Nat)) (hi : ReJ f tg iter src) (hg : ReG (f.blk scope) tg (own.map (·.2)) g) (ht : ReTs (f.blk scope) ifs tt) (he : ReE (f.blk scope) elt te) (ok : blkC f.N f.sc scope own = true := by (try dsimp only [Fr.blk, Fr.lam]); decide +kernel)
    (hs : ∀ X : Cx, ∀ x, foldedSetIterable iter X.env x = pure x := by intro _ _; rfl) : ReE f (.ListComp elt [⟨tg, iter, ifs, 0⟩] scope pos) (Rd.lc (own.map (·.2)) src g tt te) := .mk fun {X T} c F δ S h =>
  eLc own (own.map (·.2)) F ok (fun _ h => h) (WJ_mono (hi c F δ _ h) fun ds h1 => by
    rw [fc_eq, wp_eq] at h1
    exact lcTurns hg ht he h1) (hs X)
theorem lcF {scope : Scope} {tg iter elt : Expr} {ifs : List Expr} {g : RdG} {tt : RdT} {te : RdE} {src : RdA} (own : List (Str × Nat)) (hi : ReJ f tg iter src) (hg : ReG (f.blk scope) tg (own.map (·.2)) g) (ht : ReTs (f.blk scope) ifs tt) (he : ReE (f.blk scope) elt te) (ok : blkC f.N f.sc scope own = true := by (try dsimp only [Fr.blk, Fr.lam]); decide +kernel)
    (hs : ∀ X : Cx, ∀ x, foldedSetIterable iter X.env x = pure x := by intro _ _; rfl) : ReF f (.ListComp elt [⟨tg, iter, ifs, 0⟩] scope pos) (Rd.lcF (own.map (·.2)) src g tt te) := .mk fun {X T} c F δ S h =>
  fLc own (own.map (·.2)) F ok (fun _ h => h) (WJ_mono (hi c F δ _ h) fun ds h1 => by
    rw [fc_eq, wp_eq] at h1
    exact lcTurns hg ht he h1) (hs X)
/-! ### statements -/
variable {t1 t2 : RdS}
theorem snil : ReSs f [] Rd.skip := .mk fun c F δ E h => WSs_nil h
theorem scons (h1 : ReS f st t1) (h2 : ReSs f sts t2) : ReSs f (st :: sts) (Rd.sq t1 t2) := .mk fun c F δ E h => WSs_cons (WS_mono (h1 c F δ _ h) fun δ' k => h2 c F δ' E k)
where WS_mono {X : Cx} {U : Pu} {lv : Nat} {T : XD} {c : Ct X U lv T} {st : Stmt} {δ : List (Option D)} {E : SE} {nx nx' : List (Option D) → Prop} (h : WS c st δ { E with nx := nx }) (k : ∀ δ', nx δ' → nx' δ') : WS c st δ { E with nx := nx' } := fun L σ H De N C => h L σ H De N ⟨fun L' σ' H' δ' N' z => C.nx L' σ' H' δ' N' (k _ z), C.rt, C.bk, C.ct⟩
theorem slast (h1 : ReS f st t1) : ReSs f [st] t1 := .mk fun c F δ E h => WSs_cons (scons.WS_mono (nx := E.nx) (h1 c F δ E h) fun δ' k => WSs_nil k)
theorem pass : ReS f (.Pass pos) Rd.skip := .mk fun c F δ E h => WS_pass h
theorem brk : ReS f (.Break pos) Rd.brk := .mk fun c F δ E h => WS_break h
theorem cnt : ReS f (.Continue pos) Rd.cnt := .mk fun c F δ E h => WS_continue h
theorem ret (ha : ReE f e ta) : ReS f (.Return (some e) pos) (Rd.ret ta) := .mk fun c F δ E h => WS_ret (ha c F _ _ (by
  have h : fc (fz δ) fun δ' => ta _ δ' E.rt := h
  rw [fc_eq, fz_eq] at h
  exact h))
theorem retN : ReS f (.Return none pos) Rd.retN := .mk fun c F δ E h => WS_retN h
theorem ex (ha : ReE f e ta) (hs : ∀ X : Cx, swapsWith e none pos.line X.env = pure false := by intro _; rfl) : ReS f (.Expr e pos) (Rd.ex ta) := .mk fun {X T} c F δ E h => WS_expr (ha c F δ _ h) (hs X)
theorem cond {A B : List Stmt} (ht : ReT f t tt) (h1 : ReSs f A t1) (h2 : ReSs f B t2) : ReS f (.If t A B pos) (Rd.cond tt t1 t2) := .mk fun c F δ E h => WS_if ((ht c F δ _ h).mono fun k h3 => by
  cases k with
  | true => rw [if_pos rfl]; exact h1 c F δ E h3
  | false => rw [if_neg Bool.false_ne_true]; exact h2 c F δ E h3)
theorem set {p' : Pos} (i : Nat) (ha : ReE f e ta) (hn : f.N[i]? = some x := by rfl) (hl : tgB f.z f.sc x = true := by (try dsimp only [Fr.blk, Fr.lam]); first | exact tgB_code (by decide +kernel) | decide +kernel) (hs : ∀ X : Cx, swapsWith e (some (.Name x p')) pos.line X.env = pure false := by intro _; rfl) : ReS f (.Assign [.Name x p'] e pos) (Rd.set i ta) := .mk fun {X T} c F δ E h =>
  WS_set i (WO_of ((ha c F δ _ h).mono fun d h1 => by
    rw [fc_eq, st_eq] at h1
    exact stP_ok h1)) (by rw [F.n]; exact hn) (F.loc (F.tl hl)) (hs X) (F.fn hl)
theorem setF {p' : Pos} {tf : RdA} (i : Nat) (ha : ReF f e tf) (hn : f.N[i]? = some x := by rfl) (hl : tgB f.z f.sc x = true := by (try dsimp only [Fr.blk, Fr.lam]); first | exact tgB_code (by decide +kernel) | decide +kernel) (hs : ∀ X : Cx, swapsWith e (some (.Name x p')) pos.line X.env = pure false := by intro _; rfl) : ReS f (.Assign [.Name x p'] e pos) (Rd.setF i tf) := .mk fun {X T} c F δ E h =>
  WS_set i (WO_new (fun L σ H Q N q => ha c F δ _ h L σ H Q N fun l H' vs ds s h1 h2 h3 h4 h5 => q l H' vs ds s h1 h2 h3 h4 (by rw [fc_eq, st_eq] at h5; exact h5))) (by rw [F.n]; exact hn) (F.loc (F.tl hl)) (hs X) (F.fn hl)
/-- y = [.. for ..] on one line -/
theorem setLc {py : Pos} {scope : Scope} {tg iter elt : Expr} {ifs : List Expr} {g : RdG} {tt : RdT} {te : RdE} {src : RdA} (i : Nat) (own : List (Str × Nat)) (hi : ReJ f tg iter src) (hg : ReG (f.blk scope) tg (own.map (·.2)) g) (ht : ReTs (f.blk scope) ifs tt) (he : ReE (f.blk scope) elt te) (hn : f.N[i]? = some x := by rfl) (ok : blkC f.N f.sc scope own = true := by (try dsimp only [Fr.blk, Fr.lam]); decide +kernel)
    (hy : f.sc.names.lookup x = some .local := by (try dsimp only [Fr.blk, Fr.lam]); decide +kernel) (hk : f.sc.kind = .function := by rfl) (hl : (py.line == p.line) = true := by rfl) (ha : (scope.names.any fun (n, k) => n == x && (k == .local || k == .cell)) = false := by (try dsimp only [Fr.blk, Fr.lam]); decide +kernel)
    (hs : ∀ X : Cx, ∀ x, foldedSetIterable iter X.env x = pure x := by intro _ _; rfl) : ReS f (.Assign [.Name x py] (.ListComp elt [⟨tg, iter, ifs, 0⟩] scope p) pos) (Rd.setL i (Rd.lcF (own.map (·.2)) src g tt te)) := .mk fun {X T} c F δ E h =>
  WS_setLc i own (own.map (·.2)) (S := fun ds => fc (st δ i (some (.lst ds))) E.nx) (WJ_mono (hi c F δ _ h) fun ds h1 => turns_of F (by
    rw [fc_eq, wp_eq] at h1
    exact lcTurns hg ht he h1)) (.inr fun ds k => by rw [fc_eq, st_eq] at k; exact k) (by rw [F.n, F.s]; exact blkOk_by ok) (fun _ h => h) (by rw [F.n]; exact hn) (by rw [F.s]; exact hy) (sw_true (by rw [F.s]; exact hk) (by rw [F.s]; exact hy) hl ha) (hs X)
theorem setLcO {py : Pos} {scope : Scope} {tg iter elt : Expr} {ifs : List Expr} {g : RdG} {tt : RdT} {te : RdE} {src : RdA} (i : Nat) (own : List (Str × Nat)) (hi : ReJ f tg iter src) (hg : ReG (f.blk scope) tg (own.map (·.2)) g) (ht : ReTs (f.blk scope) ifs tt) (he : ReE (f.blk scope) elt te) (hn : f.N[i]? = some x := by rfl) (ok : blkC f.N f.sc scope own = true := by (try dsimp only [Fr.blk, Fr.lam]); decide +kernel)
    (hy : f.sc.names.lookup x = some .local := by (try dsimp only [Fr.blk, Fr.lam]); decide +kernel) (hk : f.sc.kind = .function := by rfl) (hl : (py.line == p.line) = true := by rfl) (ha : (scope.names.any fun (n, k) => n == x && (k == .local || k == .cell)) = false := by (try dsimp only [Fr.blk, Fr.lam]); decide +kernel)
    (hs : ∀ X : Cx, ∀ x, foldedSetIterable iter X.env x = pure x := by intro _ _; rfl) : ReS f (.Assign [.Name x py] (.ListComp elt [⟨tg, iter, ifs, 0⟩] scope p) pos) (Rd.setF i (Rd.lcF (own.map (·.2)) src g tt te)) := .mk fun {X T} c F δ E h =>
  WS_setLc i own (own.map (·.2)) (S := fun ds => fc (st δ i (some (.own ds))) E.nx) (WJ_mono (hi c F δ _ h) fun ds h1 => turns_of F (by
    rw [fc_eq, wp_eq] at h1
    exact lcTurns hg ht he h1)) (.inl fun ds k => by rw [fc_eq, st_eq] at k; exact k) (by rw [F.n, F.s]; exact blkOk_by ok) (fun _ h => h) (by rw [F.n]; exact hn) (by rw [F.s]; exact hy) (sw_true (by rw [F.s]; exact hk) (by rw [F.s]; exact hy) hl ha) (hs X)
/-- a, b = e -/
theorem unp {tg : Expr} {g : RdG} (ts : List Nat) (ha : ReE f e ta) (hg : ReG f tg ts g) (hs : ∀ X : Cx, swapsWithSole [tg] e pos.line X.env = pure false := by intro _; rfl) (hw : swappedStores [tg] e { scope := f.sc, locals := 0, globals := 0, cells := [] } = pure none := by rfl) (h1 : ∀ X : Cx, (assignEach [tg] X.env).map (·.2) = [assign tg X.env] := by intro _; rfl) : ReS f (.Assign [tg] e pos) (Rd.unp ta g) := .mk fun {X T} c F δ E h =>
  WS_asg ts ((ha c F δ _ h).mono fun d k => let ⟨k1, k2⟩ := stP_ok k; ⟨k1, hg c F δ d _ k2⟩) (hs X) (swapped_at F.s _ _ hw) (h1 X)
theorem par2 {y : Str} {px py pt : Pos} {kt k2 pt2} (i j : Nat) (ha : ReE f a ta) (hb : ReE f b tb) (hi : f.N[i]? = some x := by rfl) (hj : f.N[j]? = some y := by rfl) (hij : i ≠ j := by decide) (hx : f.sc.names.lookup x = some .local := by (try dsimp only [Fr.blk, Fr.lam]); decide +kernel) (hy : f.sc.names.lookup y = some .local := by (try dsimp only [Fr.blk, Fr.lam]); decide +kernel)
    (hw : swappedStores [.Tuple [.Name x px, .Name y py] kt pt] (.Tuple [a, b] k2 pt2) { scope := f.sc, locals := 0, globals := 0, cells := [] } = pure (some [x, y]) := by rfl)
    (hs : ∀ X : Cx, swapsWithSole [.Tuple [.Name x px, .Name y py] kt pt] (.Tuple [a, b] k2 pt2) pos.line X.env = pure false := by intro _; rfl) (s1 : ∀ X : Cx, starEach (a :: [b]) X.env = (false, eval a X.env) :: starEach [b] X.env := by intro _; rfl) (s2 : ∀ X : Cx, starEach (b :: []) X.env = (false, eval b X.env) :: starEach [] X.env := by intro _; rfl) :
    ReS f (.Assign [.Tuple [.Name x px, .Name y py] kt pt] (.Tuple [a, b] k2 pt2) pos) (Rd.par2 i j ta tb) := .mk fun {X T} c F δ E h =>
  WS_par i j (WO_of ((ha c F δ _ h).mono fun d1 h1 => by
    obtain ⟨e1, h1⟩ := stP_ok h1
    refine ⟨e1, WO_of ((hb c F δ _ h1).mono fun d2 h2 => ?_)⟩
    have h3 := stP_ok h2
    rw [fc_eq, st_eq, st_eq] at h3
    exact h3)) (by rw [F.n]; exact hi) (by rw [F.n]; exact hj) hij (by rw [F.s]; exact hx) (by rw [F.s]; exact hy) (swapped_at F.s _ _ hw) (hs X) (s1 X) (s2 X)
theorem par3 {y u : Str} {px py pu pt : Pos} {e3 : Expr} {kt k2 pt2} (i j l : Nat) (ha : ReE f a ta) (hb : ReE f b tb) (hc : ReE f e3 tc) (hi : f.N[i]? = some x := by rfl) (hj : f.N[j]? = some y := by rfl) (hl : f.N[l]? = some u := by rfl) (hij : decide (i ≠ j ∧ i ≠ l ∧ j ≠ l) = true := by rfl) (hx : f.sc.names.lookup x = some .local := by (try dsimp only [Fr.blk, Fr.lam]); decide +kernel) (hy : f.sc.names.lookup y = some .local := by (try dsimp only [Fr.blk, Fr.lam]); decide +kernel) (hu : f.sc.names.lookup u = some .local := by (try dsimp only [Fr.blk, Fr.lam]); decide +kernel)
    (hw : swappedStores [.Tuple [.Name x px, .Name y py, .Name u pu] kt pt] (.Tuple [a, b, e3] k2 pt2) { scope := f.sc, locals := 0, globals := 0, cells := [] } = pure (some [x, y, u]) := by rfl)
    (hs : ∀ X : Cx, swapsWithSole [.Tuple [.Name x px, .Name y py, .Name u pu] kt pt] (.Tuple [a, b, e3] k2 pt2) pos.line X.env = pure false := by intro _; rfl) (s1 : ∀ X : Cx, starEach (a :: [b, e3]) X.env = (false, eval a X.env) :: starEach [b, e3] X.env := by intro _; rfl) (s2 : ∀ X : Cx, starEach (b :: [e3]) X.env = (false, eval b X.env) :: starEach [e3] X.env := by intro _; rfl) (s3 : ∀ X : Cx, starEach (e3 :: []) X.env = (false, eval e3 X.env) :: starEach [] X.env := by intro _; rfl) :
    ReS f (.Assign [.Tuple [.Name x px, .Name y py, .Name u pu] kt pt] (.Tuple [a, b, e3] k2 pt2) pos) (Rd.par3 i j l ta tb tc) := .mk fun {X T} c F δ E h =>
  have hij := of_decide_eq_true hij
  WS_par3 i j l (WA_cons ((ha c F δ _ h).mono fun d1 h1 => WA_cons ((hb c F δ _ (stP_ok h1).2).mono fun d2 h2 => WA_cons ((hc c F δ _ (stP_ok h2).2).mono fun d3 h3 => WA_nil ⟨d1, d2, d3, rfl, (stP_ok h1).1, (stP_ok h2).1, (stP_ok h3).1, by
    have h4 := (stP_ok h3).2
    rw [fc_eq, st_eq, st_eq, st_eq] at h4
    exact h4⟩) (s3 X)) (s2 X)) (s1 X)) (by rw [F.n]; exact hi) (by rw [F.n]; exact hj) (by rw [F.n]; exact hl) hij.1 hij.2.1 hij.2.2 (by rw [F.s]; exact hx) (by rw [F.s]; exact hy) (by rw [F.s]; exact hu) (swapped_at F.s _ _ hw) (hs X)
theorem par2F {y : Str} {px py pt : Pos} {kt k2 pt2} {fa fb : RdA} (i j : Nat) (ha : ReF f a fa) (hb : ReF f b fb) (hi : f.N[i]? = some x := by rfl) (hj : f.N[j]? = some y := by rfl) (hij : i ≠ j := by decide) (hx : f.sc.names.lookup x = some .local := by (try dsimp only [Fr.blk, Fr.lam]); decide +kernel) (hy : f.sc.names.lookup y = some .local := by (try dsimp only [Fr.blk, Fr.lam]); decide +kernel)
    (hw : swappedStores [.Tuple [.Name x px, .Name y py] kt pt] (.Tuple [a, b] k2 pt2) { scope := f.sc, locals := 0, globals := 0, cells := [] } = pure (some [x, y]) := by rfl)
    (hs : ∀ X : Cx, swapsWithSole [.Tuple [.Name x px, .Name y py] kt pt] (.Tuple [a, b] k2 pt2) pos.line X.env = pure false := by intro _; rfl) (s1 : ∀ X : Cx, starEach (a :: [b]) X.env = (false, eval a X.env) :: starEach [b] X.env := by intro _; rfl) (s2 : ∀ X : Cx, starEach (b :: []) X.env = (false, eval b X.env) :: starEach [] X.env := by intro _; rfl) :
    ReS f (.Assign [.Tuple [.Name x px, .Name y py] kt pt] (.Tuple [a, b] k2 pt2) pos) (Rd.par2F i j fa fb) := .mk fun {X T} c F δ E h =>
  WS_par i j (WO_new fun L σ H Q N q => ha c F δ _ h L σ H Q N fun l H' vs ds s g1 g2 g3 g4 g5 => q l H' vs ds s g1 g2 g3 g4 (WO_new fun L σ H Q N q => hb c F δ _ g5 L σ H Q N fun l H' vs ds s h1 h2 h3 h4 h5 => q l H' vs ds s h1 h2 h3 h4 (by
    rw [fc_eq, st_eq, st_eq] at h5
    exact h5))) (by rw [F.n]; exact hi) (by rw [F.n]; exact hj) hij (by rw [F.s]; exact hx) (by rw [F.s]; exact hy) (swapped_at F.s _ _ hw) (hs X) (s1 X) (s2 X)
theorem own_ok {δ : List (Option D)} {i : Nat} {A : List D → Prop} (h : Rd.ownP (sl δ i) A) : ∃ xs, δ[i]? = some (some (.own xs)) ∧ A xs := by
  unfold Rd.ownP at h
  split at h
  · rename_i xs q
    exact ⟨xs, sl_eq q, h⟩
  · exact h.elim
theorem int_ok {A : Int → Prop} {d : D} (h : Rd.intD A d) : ∃ k, d = .int k ∧ A k := by
  cases d with
  | int k => exact ⟨k, rfl, h⟩
  | _ => exact False.elim h
/-! own lists changed -/
theorem app {p' apos cpos : Pos} (i : Nat) (ha : ReE f e ta) (hn : f.N[i]? = some x := by rfl) (hv : visB f.sc x = true := by (try dsimp only [Fr.blk, Fr.lam]); decide +kernel)
    (hs : ∀ X : Cx, swapsWith (.Call (.Attribute (.Name x p') "append" apos) [e] [] cpos) none pos.line X.env = pure false := by intro _; rfl)
    (hbase : ∀ X : Cx, attributeBase (.Name x p') "append" X.env (eval (.Name x p') X.env) = eval (.Name x p') X.env := by intro _; rfl) (hfew : ∀ X : Cx, ((backTo cpos (starEach [e] X.env)).all (fun x => !x.1) && (backToKw cpos (keywordEach [] X.env)).all (fun x => x.1.isSome) && decide (([e] : List Expr).length + ([] : List Keyword).length + (if ([] : List Keyword).isEmpty then 0 else 1) < 30)) = true := by intro _; rfl)
    (hline : (apos.endLine == cpos.line) = true := by rfl) (he : ∀ X : Cx, starEach (e :: []) X.env = (false, eval e X.env) :: starEach [] X.env := by intro _; rfl) (hpl : ∀ X : Cx, (backTo cpos (starEach [] X.env)).any (·.1) = false := by intro _; rfl) :
    ReS f (.Expr (.Call (.Attribute (.Name x p') "append" apos) [e] [] cpos) pos) (Rd.app i ta) := .mk fun {X T} c F δ E h => by
  obtain ⟨xs, hi, h⟩ := own_ok h
  refine WS_append i hi ((ha c F δ _ h).mono fun d h1 => ?_) (by rw [F.n]; exact hn) (F.vis hv) (visB_ok hv).2.1 (visB_ok hv).2.2 (hs X) (hbase X) (hfew X) hline (he X) (hpl X)
  have h2 := stP_ok h1
  rw [fc_eq, st_eq] at h2
  exact h2
theorem ext {p' apos cpos : Pos} (i : Nat) (ha : ReE f e ta) (hn : f.N[i]? = some x := by rfl) (hv : visB f.sc x = true := by (try dsimp only [Fr.blk, Fr.lam]); decide +kernel)
    (hs : ∀ X : Cx, swapsWith (.Call (.Attribute (.Name x p') "extend" apos) [e] [] cpos) none pos.line X.env = pure false := by intro _; rfl)
    (hbase : ∀ X : Cx, attributeBase (.Name x p') "extend" X.env (eval (.Name x p') X.env) = eval (.Name x p') X.env := by intro _; rfl) (hfew : ∀ X : Cx, ((backTo cpos (starEach [e] X.env)).all (fun x => !x.1) && (backToKw cpos (keywordEach [] X.env)).all (fun x => x.1.isSome) && decide (([e] : List Expr).length + ([] : List Keyword).length + (if ([] : List Keyword).isEmpty then 0 else 1) < 30)) = true := by intro _; rfl)
    (hline : (apos.endLine == cpos.line) = true := by rfl) (he : ∀ X : Cx, starEach (e :: []) X.env = (false, eval e X.env) :: starEach [] X.env := by intro _; rfl) (hpl : ∀ X : Cx, (backTo cpos (starEach [] X.env)).any (·.1) = false := by intro _; rfl) :
    ReS f (.Expr (.Call (.Attribute (.Name x p') "extend" apos) [e] [] cpos) pos) (Rd.ext i ta) := .mk fun {X T} c F δ E h => by
  obtain ⟨xs, hi, h⟩ := own_ok h
  refine WS_extT i hi ((ha c F δ _ h).mono fun d h1 => ?_) (by rw [F.n]; exact hn) (F.vis hv) (visB_ok hv).2.1 (visB_ok hv).2.2 (hs X) (hbase X) (hfew X) hline (he X) (hpl X)
  cases d with
  | lst ys =>
    obtain ⟨g1, g2⟩ := h1
    rw [fc_eq, st_eq] at g2
    exact ⟨ys, .inl rfl, g1, g2⟩
  | tup ys =>
    obtain ⟨g1, g2⟩ := h1
    rw [fc_eq, st_eq] at g2
    exact ⟨ys, .inr rfl, g1, g2⟩
  | _ => exact False.elim h1
theorem put {p' spos : Pos} {ixe : Expr} {ti : RdE} (i : Nat) (ha : ReE f e ta) (hi : ReE f ixe ti) (hn : f.N[i]? = some x := by rfl) (hv : visB f.sc x = true := by (try dsimp only [Fr.blk, Fr.lam]); decide +kernel)
    (ha' : ∀ X : Cx, ∀ v, assign (.Subscript (.Name x p') ixe spos) X.env v = (do
      let ov ← holding [v] (eval (.Name x p') X.env)
      let iv ← holding [v, ov] (eval ixe X.env)
      standAt spos
      holding [v, ov, iv] (setItem ov iv v)
      release [v, ov, iv] []) := by intro _ _; rfl)
    (hs : ∀ X : Cx, swapsWithSole [.Subscript (.Name x p') ixe spos] e pos.line X.env = pure false := by intro _; rfl) (hw : ∀ X : Cx, swappedStores [.Subscript (.Name x p') ixe spos] e X.env = pure none := by intro _; rfl) (h1 : ∀ X : Cx, (assignEach [.Subscript (.Name x p') ixe spos] X.env).map (·.2) = [assign (.Subscript (.Name x p') ixe spos) X.env] := by intro _; rfl) :
    ReS f (.Assign [.Subscript (.Name x p') ixe spos] e pos) (Rd.put i ti ta) := .mk fun {X T} c F δ E h => by
  obtain ⟨xs, hi', h⟩ := own_ok h
  refine WS_setItem i hi' ((ha c F δ _ h).mono fun d h1 => ?_) (by rw [F.n]; exact hn) (F.vis hv) (visB_ok hv).2.1 (visB_ok hv).2.2 (ha' X) (hs X) (hw X) (h1 X)
  obtain ⟨g1, g2⟩ := stP_ok h1
  refine ⟨g1, (hi c F δ _ g2).mono fun y h2 => ?_⟩
  obtain ⟨k, rfl, j, g3, g4⟩ := int_ok h2
  rw [fc_eq, st_eq] at g4
  exact ⟨k, j, rfl, g3, g4⟩
theorem aug (i : Nat) (ha : ReE f e ta) (hn : f.N[i]? = some x := by rfl) (hl : tgB f.z f.sc x = true := by (try dsimp only [Fr.blk, Fr.lam]); first | exact tgB_code (by decide +kernel) | decide +kernel) : ReS f (.AugAssign (.Name x p) .Add e pos) (Rd.aug i ta) := .mk fun {X T} c F δ E h => by
  have h : Rd.intP (sl δ i) fun n => ta T δ (Rd.intD fun m => fc (Dl.st δ i (some (.int (n + m)))) E.nx) := h
  unfold Rd.intP at h
  split at h
  · rename_i n q
    refine WS_augAdd i (sl_eq q) ((ha c F δ _ h).mono fun d h1 => ?_) (by rw [F.n]; exact hn) (F.loc (F.tl hl)) (F.fn hl)
    obtain ⟨k, rfl, g⟩ := int_ok h1
    rw [fc_eq, st_eq] at g
    exact ⟨k, rfl, g⟩
  · exact h.elim
/-! loops -/
theorem loop {tg iter : Expr} {body : List Stmt} {src : RdA} {g : RdG} {tb : RdS} (hi : ReI f tg iter src) (hg : ReG f tg (List.range f.N.length) g) (hb : ReSs f body tb) (hs : ∀ X : Cx, ∀ x, foldedSetIterable iter X.env x = pure x := by intro _ _; rfl) : ReS f (.For tg iter body [] pos) (Rd.loop src g tb) := .mk fun {X T} c F δ E h =>
  WS_for (List.range f.N.length) (fun L σ H R En q => hi c F δ _ h L σ H R En fun J H' ds s w hlp => by
    unfold Rd.loopG at hlp
    obtain ⟨I, h0, hst, hf⟩ := hlp
    exact q J H' ds s w ⟨I, h0, fun i d δ' hd _ hi' B hB => AG_mono (hg (c.at_ B hB) F δ' d _ (hst i d δ' hd hi')) fun δ2 k => hb (c.at_ B hB) F δ2 _ k, hf⟩) (hs X)
theorem whil {body : List Stmt} {tb : RdS} (ht : ReT f t tt) (hb : ReSs f body tb) : ReS f (.While t body [] pos) (Rd.whil tt tb) := .mk fun {X T} c F δ E h => by
  have h : Rd.whilG tt tb T δ E := h
  unfold Rd.whilG at h
  obtain ⟨I, m0, h0, hst⟩ := h
  refine WS_while I m0 h0 fun m δ' hi => (ht c F δ' _ (hst m δ' hi)).mono fun b k => ?_
  cases b with
  | true => rw [if_pos rfl]; exact hb c F δ' _ k
  | false => rw [if_neg Bool.false_ne_true]; exact k
end
/-! ### a def -/
end De
def sD : Nat → List D → List (Option D)
  | 0, _ => []
  | n + 1, [] => none :: sD n []
  | n + 1, d :: r => some d :: sD n r
theorem sD_nil : ∀ n, sD n [] = List.replicate n none
  | 0 => rfl
  | n + 1 => by
    show none :: sD n [] = _
    rw [sD_nil n]
    rfl
theorem sD_eq : ∀ (N : List Str) (ds : List D), ds.length ≤ N.length → sD N.length ds = startD N ds
  | N, [], _ => by
    unfold startD
    rw [sD_nil]
    simp
  | [], d :: r, h => by simp at h
  | x :: N, d :: r, h => by
    show some d :: sD N.length r = _
    rw [sD_eq N r (by simpa using h)]
    unfold startD
    simp
/-- what a reading keeps -/
abbrev eD (S : D → Prop) : SE := { nx := fun _ => S .non, rt := S }
/-- what a reading keeps: n slots -/
def Okd (n : Nat) (t : RdS) (sp : DSpec) : Prop := ∀ (T : XD) (ds : List D) (S : D → Prop), sp ds S T → fc (sD n ds) fun δ => t T δ (eD S)
section
variable {P : Program} {w : World} {K : PySem.W.Frag} {mg : Str → Option Value} {base : Heap} {U : Pu}
theorem fnR {x : Str} {st : Stmt} {N ps : List Str} {n k : Nat} {sp : DSpec} {t : RdS} (A : DefAt K mg x st ps) (Sc : FnScope N ps (defScope st)) (hn : ps.length = n) (hN : n ≤ N.length) (d : ReSs ⟨P, w, K, mg, base, N, defScope st, .top, U, k⟩ (defBody st) t) (h : Okd N.length t sp) : Fn P w K mg base U (k + 1) x n sp :=
  fnO A Sc hn fun X T c f ds S hl hs => d c f _ _ (by
    have h1 := h T ds S hs
    rw [fc_eq, sD_eq N ds (by omega)] at h1
    exact h1)
theorem mtR {m qual : Str} {st : Stmt} {N ps : List Str} {n k : Nat} {sp : DSpec} {C : Addr} {t : RdS} (A : MethAt K C m qual st ps) (Sc : FnScope N ps (defScope st)) (hn : ps.length = n) (hN : n ≤ N.length) (d : ReSs ⟨P, w, K, mg, base, N, defScope st, .top, U, k⟩ (defBody st) t) (h : Okd N.length t sp) : Mt P w K mg base U (k + 1) C m n sp :=
  mtO A Sc hn fun X T c f ds S hl hs => d c f _ _ (by
    have h1 := h T ds S hs
    rw [fc_eq, sD_eq N ds (by omega)] at h1
    exact h1)
end
end Dl

set_option maxRecDepth 100000
set_option maxHeartbeats 4000000
/-! # Derivations in short -/
namespace Dl
open PySem PySem.Spec PyProof.Rows L2
section
variable {mg : Str → Option Value}
theorem Blt.len (h : Blt mg) : mg "len" = none := h.at (by decide +kernel)
theorem Blt.range (h : Blt mg) : mg "range" = none := h.at (by decide +kernel)
theorem Blt.zip (h : Blt mg) : mg "zip" = none := h.at (by decide +kernel)
theorem Blt.enumerate (h : Blt mg) : mg "enumerate" = none := h.at (by decide +kernel)
theorem Blt.sum (h : Blt mg) : mg "sum" = none := h.at (by decide +kernel)
theorem Blt.abs (h : Blt mg) : mg "abs" = none := h.at (by decide +kernel)
theorem Blt.max (h : Blt mg) : mg "max" = none := h.at (by decide +kernel)
theorem Blt.min (h : Blt mg) : mg "min" = none := h.at (by decide +kernel)
theorem Blt.all (h : Blt mg) : mg "all" = none := h.at (by decide +kernel)
theorem Blt.any (h : Blt mg) : mg "any" = none := h.at (by decide +kernel)
theorem Blt.isinstance (h : Blt mg) : mg "isinstance" = none := h.at (by decide +kernel)
theorem Blt.int (h : Blt mg) : mg "int" = none := h.at (by decide +kernel)
theorem Blt.bool (h : Blt mg) : mg "bool" = none := h.at (by decide +kernel)
theorem Blt.str (h : Blt mg) : mg "str" = none := h.at (by decide +kernel)
theorem Blt.tuple (h : Blt mg) : mg "tuple" = none := h.at (by decide +kernel)
theorem Blt.list (h : Blt mg) : mg "list" = none := h.at (by decide +kernel)
end
def Rd.no : RdS := fun _ _ _ => False
namespace De
section
variable {f : Fr} {e a : Expr} {es : List Expr} {pos p : Pos} {ta : RdE} {tas : RdA} {st : Stmt}
theorem no : ReS f st Rd.no := .mk fun c F δ E h => False.elim h
theorem o_add : OpAt f (binaryOp .Add) Op.add := fun c _ => od_add
theorem o_sub : OpAt f (binaryOp .Sub) Op.sub := fun c _ => od_sub
theorem o_mul : OpAt f (binaryOp .Mult) Op.mul := fun c _ => od_mul
theorem o_div : OpAt f (binaryOp .FloorDiv) Op.div := fun c _ => od_div
theorem o_mod : OpAt f (binaryOp .Mod) Op.mod := fun c _ => od_mod
theorem o_pow : OpAt f (binaryOp .Pow) Op.pow := fun c _ => od_pow
theorem o_eq : OpAt f (compareOp .Eq) Op.eq := fun c _ => od_eq
theorem o_ne : OpAt f (compareOp .NotEq) Op.ne := fun c _ => od_ne
theorem o_lt : OpAt f (compareOp .Lt) Op.lt := fun c _ => od_lt
theorem o_le : OpAt f (compareOp .LtE) Op.le := fun c _ => od_le
theorem o_gt : OpAt f (compareOp .Gt) Op.gt := fun c _ => od_gt
theorem o_ge : OpAt f (compareOp .GtE) Op.ge := fun c _ => od_ge
theorem o_isin : OpAt f (compareOp .In) Op.isin := fun c _ => od_in
theorem o_nin : OpAt f (compareOp .NotIn) Op.nin := fun c _ => od_nin
theorem bi_len : BiOk (.builtin "len") Bi.len := fun h => cd_len h
theorem bi_sum : BiOk (.builtin "sum") Bi.sum := fun h => cd_sum h
theorem bi_all : BiOk (.builtin "all") Bi.all := fun h => cd_all h
theorem bi_any : BiOk (.builtin "any") Bi.any := fun h => cd_any h
theorem bi_abs : BiOk (.builtin "abs") Bi.abs := fun h => cd_abs h
theorem bi_max : BiOk (.builtin "max") Bi.max := fun h => cd_max h
theorem bi_min : BiOk (.builtin "min") Bi.min := fun h => cd_min h
theorem bi_int : BiOk (.type "int") Bi.int := fun h => cd_int h
theorem bi_bool : BiOk (.type "bool") Bi.bool := fun h => cd_bool h
theorem bi_tuple : BiOk (.type "tuple") Bi.tuple := fun h => cd_tuple h
theorem bi_list : BiOk (.type "list") Bi.list := fun h => cd_list h
theorem bLen (hb : Blt f.mg) (hs : ReA f (e :: es) tas) (hg : glbB f.sc "len" = true := by (try dsimp only [Fr.blk, Fr.lam]); decide +kernel) (he : ∀ X : Cx, starEach (e :: es) X.env = (false, eval e X.env) :: starEach es X.env := by intro _; rfl) (hpl : ∀ X : Cx, (backTo pos (starEach es X.env)).any (·.1) = false := by intro _; rfl) : ReE f (.Call (.Name "len" p) (e :: es) [] pos) (Rd.blt Bi.len tas) := blt bi_len bt_len hb.len hs hg he hpl
theorem bSum (hb : Blt f.mg) (hs : ReA f (e :: es) tas) (hg : glbB f.sc "sum" = true := by (try dsimp only [Fr.blk, Fr.lam]); decide +kernel) (he : ∀ X : Cx, starEach (e :: es) X.env = (false, eval e X.env) :: starEach es X.env := by intro _; rfl) (hpl : ∀ X : Cx, (backTo pos (starEach es X.env)).any (·.1) = false := by intro _; rfl) : ReE f (.Call (.Name "sum" p) (e :: es) [] pos) (Rd.blt Bi.sum tas) := blt bi_sum bt_sum hb.sum hs hg he hpl
theorem bAll (hb : Blt f.mg) (hs : ReA f (e :: es) tas) (hg : glbB f.sc "all" = true := by (try dsimp only [Fr.blk, Fr.lam]); decide +kernel) (he : ∀ X : Cx, starEach (e :: es) X.env = (false, eval e X.env) :: starEach es X.env := by intro _; rfl) (hpl : ∀ X : Cx, (backTo pos (starEach es X.env)).any (·.1) = false := by intro _; rfl) : ReE f (.Call (.Name "all" p) (e :: es) [] pos) (Rd.blt Bi.all tas) := blt bi_all bt_all hb.all hs hg he hpl
theorem bAny (hb : Blt f.mg) (hs : ReA f (e :: es) tas) (hg : glbB f.sc "any" = true := by (try dsimp only [Fr.blk, Fr.lam]); decide +kernel) (he : ∀ X : Cx, starEach (e :: es) X.env = (false, eval e X.env) :: starEach es X.env := by intro _; rfl) (hpl : ∀ X : Cx, (backTo pos (starEach es X.env)).any (·.1) = false := by intro _; rfl) : ReE f (.Call (.Name "any" p) (e :: es) [] pos) (Rd.blt Bi.any tas) := blt bi_any bt_any hb.any hs hg he hpl
theorem bAbs (hb : Blt f.mg) (hs : ReA f (e :: es) tas) (hg : glbB f.sc "abs" = true := by (try dsimp only [Fr.blk, Fr.lam]); decide +kernel) (he : ∀ X : Cx, starEach (e :: es) X.env = (false, eval e X.env) :: starEach es X.env := by intro _; rfl) (hpl : ∀ X : Cx, (backTo pos (starEach es X.env)).any (·.1) = false := by intro _; rfl) : ReE f (.Call (.Name "abs" p) (e :: es) [] pos) (Rd.blt Bi.abs tas) := blt bi_abs bt_abs hb.abs hs hg he hpl
theorem bMax (hb : Blt f.mg) (hs : ReA f (e :: es) tas) (hg : glbB f.sc "max" = true := by (try dsimp only [Fr.blk, Fr.lam]); decide +kernel) (he : ∀ X : Cx, starEach (e :: es) X.env = (false, eval e X.env) :: starEach es X.env := by intro _; rfl) (hpl : ∀ X : Cx, (backTo pos (starEach es X.env)).any (·.1) = false := by intro _; rfl) : ReE f (.Call (.Name "max" p) (e :: es) [] pos) (Rd.blt Bi.max tas) := blt bi_max bt_max hb.max hs hg he hpl
theorem bMin (hb : Blt f.mg) (hs : ReA f (e :: es) tas) (hg : glbB f.sc "min" = true := by (try dsimp only [Fr.blk, Fr.lam]); decide +kernel) (he : ∀ X : Cx, starEach (e :: es) X.env = (false, eval e X.env) :: starEach es X.env := by intro _; rfl) (hpl : ∀ X : Cx, (backTo pos (starEach es X.env)).any (·.1) = false := by intro _; rfl) : ReE f (.Call (.Name "min" p) (e :: es) [] pos) (Rd.blt Bi.min tas) := blt bi_min bt_min hb.min hs hg he hpl
theorem tInt (hb : Blt f.mg) (hs : ReA f (e :: es) tas) (hg : glbB f.sc "int" = true := by (try dsimp only [Fr.blk, Fr.lam]); decide +kernel) (he : ∀ X : Cx, starEach (e :: es) X.env = (false, eval e X.env) :: starEach es X.env := by intro _; rfl) (hpl : ∀ X : Cx, (backTo pos (starEach es X.env)).any (·.1) = false := by intro _; rfl) : ReE f (.Call (.Name "int" p) (e :: es) [] pos) (Rd.blt Bi.int tas) := bty bi_int bt_int hb.int hs hg he hpl
theorem tBool (hb : Blt f.mg) (hs : ReA f (e :: es) tas) (hg : glbB f.sc "bool" = true := by (try dsimp only [Fr.blk, Fr.lam]); decide +kernel) (he : ∀ X : Cx, starEach (e :: es) X.env = (false, eval e X.env) :: starEach es X.env := by intro _; rfl) (hpl : ∀ X : Cx, (backTo pos (starEach es X.env)).any (·.1) = false := by intro _; rfl) : ReE f (.Call (.Name "bool" p) (e :: es) [] pos) (Rd.blt Bi.bool tas) := bty bi_bool bt_bool hb.bool hs hg he hpl
theorem tTup (hb : Blt f.mg) (hs : ReA f (e :: es) tas) (hg : glbB f.sc "tuple" = true := by (try dsimp only [Fr.blk, Fr.lam]); decide +kernel) (he : ∀ X : Cx, starEach (e :: es) X.env = (false, eval e X.env) :: starEach es X.env := by intro _; rfl) (hpl : ∀ X : Cx, (backTo pos (starEach es X.env)).any (·.1) = false := by intro _; rfl) : ReE f (.Call (.Name "tuple" p) (e :: es) [] pos) (Rd.blt Bi.tuple tas) := bty bi_tuple bt_tuple hb.tuple hs hg he hpl
theorem tLst (hb : Blt f.mg) (hs : ReA f (e :: es) tas) (hg : glbB f.sc "list" = true := by (try dsimp only [Fr.blk, Fr.lam]); decide +kernel) (he : ∀ X : Cx, starEach (e :: es) X.env = (false, eval e X.env) :: starEach es X.env := by intro _; rfl) (hpl : ∀ X : Cx, (backTo pos (starEach es X.env)).any (·.1) = false := by intro _; rfl) : ReE f (.Call (.Name "list" p) (e :: es) [] pos) (Rd.blt Bi.list tas) := bty bi_list bt_list hb.list hs hg he hpl
variable {p1 p2 : Pos}
theorem isInt (hb : Blt f.mg) (ha : ReE f a ta) (hg : glbB f.sc "isinstance" = true := by (try dsimp only [Fr.blk, Fr.lam]); decide +kernel) (hg2 : glbB f.sc "int" = true := by (try dsimp only [Fr.blk, Fr.lam]); decide +kernel)
    (he : ∀ X : Cx, starEach [a, .Name "int" p2] X.env = (false, eval a X.env) :: starEach [.Name "int" p2] X.env := by intro _; rfl) (hpl : ∀ X : Cx, (backTo pos (starEach [.Name "int" p2] X.env)).any (·.1) = false := by intro _; rfl) : ReE f (.Call (.Name "isinstance" p1) [a, .Name "int" p2] [] pos) (Rd.isTy Rd.pInt ta) := isTy tyInt bt_int hb.isinstance hb.int ha hg hg2 he hpl
theorem isBool (hb : Blt f.mg) (ha : ReE f a ta) (hg : glbB f.sc "isinstance" = true := by (try dsimp only [Fr.blk, Fr.lam]); decide +kernel) (hg2 : glbB f.sc "bool" = true := by (try dsimp only [Fr.blk, Fr.lam]); decide +kernel)
    (he : ∀ X : Cx, starEach [a, .Name "bool" p2] X.env = (false, eval a X.env) :: starEach [.Name "bool" p2] X.env := by intro _; rfl) (hpl : ∀ X : Cx, (backTo pos (starEach [.Name "bool" p2] X.env)).any (·.1) = false := by intro _; rfl) : ReE f (.Call (.Name "isinstance" p1) [a, .Name "bool" p2] [] pos) (Rd.isTy Rd.pBool ta) := isTy tyBool bt_bool hb.isinstance hb.bool ha hg hg2 he hpl
theorem isTup (hb : Blt f.mg) (ha : ReE f a ta) (hg : glbB f.sc "isinstance" = true := by (try dsimp only [Fr.blk, Fr.lam]); decide +kernel) (hg2 : glbB f.sc "tuple" = true := by (try dsimp only [Fr.blk, Fr.lam]); decide +kernel)
    (he : ∀ X : Cx, starEach [a, .Name "tuple" p2] X.env = (false, eval a X.env) :: starEach [.Name "tuple" p2] X.env := by intro _; rfl) (hpl : ∀ X : Cx, (backTo pos (starEach [.Name "tuple" p2] X.env)).any (·.1) = false := by intro _; rfl) : ReE f (.Call (.Name "isinstance" p1) [a, .Name "tuple" p2] [] pos) (Rd.isTy Rd.pTup ta) := isTy tyTup bt_tuple hb.isinstance hb.tuple ha hg hg2 he hpl
theorem isLst (hb : Blt f.mg) (ha : ReE f a ta) (hg : glbB f.sc "isinstance" = true := by (try dsimp only [Fr.blk, Fr.lam]); decide +kernel) (hg2 : glbB f.sc "list" = true := by (try dsimp only [Fr.blk, Fr.lam]); decide +kernel)
    (he : ∀ X : Cx, starEach [a, .Name "list" p2] X.env = (false, eval a X.env) :: starEach [.Name "list" p2] X.env := by intro _; rfl) (hpl : ∀ X : Cx, (backTo pos (starEach [.Name "list" p2] X.env)).any (·.1) = false := by intro _; rfl) : ReE f (.Call (.Name "isinstance" p1) [a, .Name "list" p2] [] pos) (Rd.isTy Rd.pLst ta) := isTy tyLst bt_list hb.isinstance hb.list ha hg hg2 he hpl
theorem isStr (hb : Blt f.mg) (ha : ReE f a ta) (hg : glbB f.sc "isinstance" = true := by (try dsimp only [Fr.blk, Fr.lam]); decide +kernel) (hg2 : glbB f.sc "str" = true := by (try dsimp only [Fr.blk, Fr.lam]); decide +kernel)
    (he : ∀ X : Cx, starEach [a, .Name "str" p2] X.env = (false, eval a X.env) :: starEach [.Name "str" p2] X.env := by intro _; rfl) (hpl : ∀ X : Cx, (backTo pos (starEach [.Name "str" p2] X.env)).any (·.1) = false := by intro _; rfl) : ReE f (.Call (.Name "isinstance" p1) [a, .Name "str" p2] [] pos) (Rd.isTy Rd.pStr ta) := isTy tyStr bt_str hb.isinstance hb.str ha hg hg2 he hpl
end
end De
/-! ### turns -/
section
variable {α β : Type} {tg : RdG} {tests : RdT} {elt : RdE} {δ : List (Option D)} {S : List D → Prop} {ds : List D}
/-- each turn gives one item -/
theorem Rd.tmap (e : β → D) (f : α → β) (enc : α → D) (xs : List α) (hds : ds = xs.map enc) (h : ∀ x, x ∈ xs → ∀ (S' : D → Prop), S' (e (f x)) → tg δ (enc x) fun δ2 => elt noX δ2 S') (hS : S ((xs.map f).map e)) (hst : ∀ b, (e b).still = true := by intro _; rfl) : Rd.turns tg Rd.noT elt δ S ds := by
  subst hds
  unfold Rd.turns
  refine ⟨fun i ys => ys = ((xs.take i).map f).map e, rfl, fun i d ys hd hy p => ?_, fun ys _ p => by rw [p, List.length_map, List.take_length]; exact hS⟩
  rw [List.getElem?_map] at hd
  cases q : xs[i]? with
  | none => rw [q] at hd; cases hd
  | some x =>
    rw [q] at hd
    cases hd
    refine h x (List.mem_of_getElem? q) _ ⟨hst _, ?_⟩
    show _ = _
    rw [List.take_add_one, q, p]
    simp
/-- a test, then an item -/
theorem Rd.tif (e : β → D) (f : α → β) (t : α → Bool) (enc : α → D) (xs : List α) (hds : ds = xs.map enc) (h : ∀ x, x ∈ xs → ∀ (S' : D → Prop) (A : Prop), (t x = true → S' (e (f x))) → (t x = false → A) → tg δ (enc x) fun δ2 => tests noX δ2 fun b => brB b (elt noX δ2 S') A) (hS : S (((xs.filter t).map f).map e)) (hst : ∀ b, (e b).still = true := by intro _; rfl) : Rd.turns tg tests elt δ S ds := by
  subst hds
  unfold Rd.turns
  refine ⟨fun i ys => ys = (((xs.take i).filter t).map f).map e, rfl, fun i d ys hd hy p => ?_, fun ys _ p => by rw [p, List.length_map, List.take_length]; exact hS⟩
  rw [List.getElem?_map] at hd
  cases q : xs[i]? with
  | none => rw [q] at hd; cases hd
  | some x =>
    rw [q] at hd
    cases hd
    refine h x (List.mem_of_getElem? q) _ _ (fun k => ⟨hst _, ?_⟩) (fun k => ?_)
    · show _ = _
      rw [List.take_add_one, q, p]
      simp [List.filter_append, k]
    · show _ = _
      rw [List.take_add_one, q, p]
      simp [List.filter_append, k]
/-- each turn gives one of some items -/
theorem Rd.tsome (e : β → D) (R : α → β → Prop) (enc : α → D) (xs : List α) (hds : ds = xs.map enc) (h : ∀ x, x ∈ xs → ∀ (S' : D → Prop), (∀ b, R x b → S' (e b)) → tg δ (enc x) fun δ2 => elt noX δ2 S') (hS : ∀ bs : List β, bs.length = xs.length → (∀ (i : Nat) x b, xs[i]? = some x → bs[i]? = some b → R x b) → S (bs.map e)) (hst : ∀ b, (e b).still = true := by intro _; rfl) : Rd.turns tg Rd.noT elt δ S ds := by
  subst hds
  unfold Rd.turns
  refine ⟨fun i ys => ∃ bs : List β, ys = bs.map e ∧ bs.length = i ∧ ∀ (j : Nat) x b, xs[j]? = some x → bs[j]? = some b → R x b, ⟨[], rfl, rfl, fun j x b _ h => by simp at h⟩, fun i d ys hd hy p => ?_, fun ys _ p => ?_⟩
  · rw [List.getElem?_map] at hd
    cases q : xs[i]? with
    | none => rw [q] at hd; cases hd
    | some x =>
      rw [q] at hd
      cases hd
      obtain ⟨bs, rfl, hl, hr⟩ := p
      refine h x (List.mem_of_getElem? q) _ fun b hb => ⟨hst b, bs ++ [b], by simp, by simp [hl], fun j x' b' hx' hb' => ?_⟩
      by_cases hj : j < bs.length
      · rw [List.getElem?_append_left hj] at hb'
        exact hr j x' b' hx' hb'
      · rw [List.getElem?_append_right (by omega)] at hb'
        have hj0 : j - bs.length = 0 := by
          by_cases z : j - bs.length = 0
          · exact z
          · rw [List.getElem?_eq_none (by simp; omega)] at hb'
            cases hb'
        rw [hj0] at hb'
        have e2 : j = i := by omega
        subst e2
        rw [q] at hx'
        cases hx'
        simp at hb'
        subst hb'
        exact hb
  · obtain ⟨bs, rfl, hl, hr⟩ := p
    rw [List.length_map] at hl
    exact hS bs hl hr
/-- .. the same ones at each turn -/
theorem Rd.tsomeN (e : β → D) (R : β → Prop) (enc : α → D) (xs : List α) (hds : ds = xs.map enc) (h : ∀ x, x ∈ xs → ∀ (S' : D → Prop), (∀ b, R b → S' (e b)) → tg δ (enc x) fun δ2 => elt noX δ2 S') (hS : ∀ bs : List β, bs.length = xs.length → (∀ b ∈ bs, R b) → S (bs.map e)) (hst : ∀ b, (e b).still = true := by intro _; rfl) : Rd.turns tg Rd.noT elt δ S ds :=
  Rd.tsome e (fun _ b => R b) enc xs hds h (fun bs h1 h2 => hS bs h1 fun b hb => by
    obtain ⟨i, hi, rfl⟩ := List.mem_iff_getElem.mp hb
    exact h2 i (xs[i]'(by omega)) _ (by simp) (by simp)) hst
/-- what a loop is to show, its items told -/
theorem Rd.for_ {body : RdS} {T : XD} {E : SE} (enc : α → D) (xs : List α) (I : Nat → List (Option D) → Prop) (hds : ds = xs.map enc) (h0 : I 0 δ) (hs : ∀ (i : Nat) (x : α) (δ' : List (Option D)), xs[i]? = some x → I i δ' → tg δ' (enc x) fun δ2 => body T δ2 { E with nx := I (i + 1), ct := I (i + 1), bk := E.nx }) (hf : ∀ δ', I xs.length δ' → E.nx δ') : Rd.loopG tg body T δ E ds := by
  subst hds
  unfold Rd.loopG
  refine ⟨I, h0, fun i d δ' hd hi => ?_, fun δ' k => hf δ' (by rw [List.length_map] at k; exact k)⟩
  rw [List.getElem?_map] at hd
  cases q : xs[i]? with
  | none => rw [q] at hd; cases hd
  | some x => rw [q] at hd; cases hd; exact hs i x δ' q hi
end
end Dl

set_option maxRecDepth 100000
set_option maxHeartbeats 4000000
/-! # The laws' source of draws -/
namespace Dl
open PySem PySem.Spec PyProof.Rows L2
theorem op_eqI {X : Cx} : OpR X (compareOp .Eq) (rI0 fun i j => .bl (decide (i = j))) := fun pins s σ H x y v u Q I rx ry h => by
  obtain ⟨i, j, rfl, rfl, q⟩ := h
  refine op_eq pins s σ H _ _ v u Q I rx ry ⟨rfl, ?_⟩
  have e : decide (V.int i = V.int j) = decide (i = j) := by
    by_cases z : i = j
    · subst z; simp
    · rw [decide_eq_false z]
      exact decide_eq_false (fun w => z (V.int.inj w))
  rw [e]
  exact q
/-- what holds of the numbers behind a pot's cells -/
def PotI (i1 i2 i3 i4 : Int) : Prop := 0 ≤ i1 ∧ 0 ≤ i2 ∧ 0 ≤ i3 ∧ i3 < 4294967296 ∧ 0 ≤ i4
abbrev potL (c : Addr) (i1 i2 i3 i4 : Int) : HO := .lst [.ref c, .int i1, .int i2, .int i3, .int i4]
/-- a draw, the pot a list -/
def spDrawL (K : PySem.W.Frag) : Sp := fun vs H Q _ => ∃ (a c : Addr) (m : Int) (ns : List Int) (i1 i2 i3 i4 : Int), vs = [.ref a, .int m] ∧ H a = some (potL c i1 i2 i3 i4) ∧ H c = some (.lst (ns.map V.int)) ∧ (∀ n ∈ ns, 0 ≤ n) ∧ PotI i1 i2 i3 i4 ∧ 0 < m ∧ m < 1000000 ∧
  ∀ v j1 j2 j3 j4, 0 ≤ v → v < m → PotI j1 j2 j3 j4 → Q (.int v) (upd H a (potL c j1 j2 j3 j4))
theorem upd_self {H : Hp} {a : Addr} {o : HO} (h : H a = some o) : upd H a o = H := by
  funext b
  by_cases e : b = a
  · rw [e, upd_same, h]
  · rw [upd_ne e]
/-- the pot as the others see it: a list of some numbers of that kind -/
def potPhi (c a : Addr) : Heap → Prop := fun h => ∃ (i1 i2 i3 i4 : Int) (its : List Value) (n : Nat), PotI i1 i2 i3 i4 ∧ Vals [.ref c, .int i1, .int i2, .int i3, .int i4] its ∧ h.get? a = some { cls := .type "list", data := .seq its.toArray n }
/-- tables of code objects stay told where lists change or are hidden -/
theorem tabs_hide {Tb : List (Addr × Str)} (L : List Addr) (H : Hp) (hl : ∀ l ∈ L, MutAt H l) (h : LamX.Tabs Tb H) : LamX.Tabs Tb (hide L H) := fun p hp => by
  obtain ⟨ps, h1, h2, h3⟩ := h p hp
  have no : ∀ {b : Addr} {o : HO}, H b = some o → mutO o = false → b ∉ L := fun {b o} e m z => by
    obtain ⟨o', m', e'⟩ := hl _ z
    rw [e] at e'
    cases e'
    rw [m] at m'
    cases m'
  refine ⟨ps, by rw [hide_ne (no h1 rfl)]; exact h1, h2, fun pos cv hc => ?_⟩
  obtain ⟨c, e1, e2⟩ := h3 pos cv hc
  exact ⟨c, e1, by rw [hide_ne (no e2 rfl)]; exact e2⟩
theorem tabs_upd {Tb : List (Addr × Str)} (H : Hp) (l : Addr) (o : HO) (hl : MutAt H l) (h : LamX.Tabs Tb H) : LamX.Tabs Tb (upd H l o) :=
  (tabs_hide [l] H (fun b hb => by rw [List.mem_singleton.mp hb]; exact hl) h).ext fun b u e => by
    obtain ⟨h1, h2⟩ := hide_at e
    rw [upd_ne (by simpa using h1)]
    exact h2
def potU (Tb : List (Addr × Str)) : Pu where
  P := fun v H => ∃ (a c : Addr) (ns : List Int), v = .ref a ∧ H a = some (.ext (potPhi c a)) ∧ H c = some (.lst (ns.map V.int)) ∧ ∀ n ∈ ns, 0 ≤ n
  mono := fun v H H' e ⟨a, c, ns, h1, h2, h3, h4⟩ => ⟨a, c, ns, h1, e.at _ _ h2, e.at _ _ h3, h4⟩
  G := LamX.Tabs Tb
  ge := fun H H' e h => h.ext e
  gu := fun H l o hl _ h => tabs_upd H l o hl h
  gh := fun L H hl h => tabs_hide L H hl h
theorem potPhi_ok {P : Program} {w : World} {H : Hp} {h : Heap} {c a : Addr} {i1 i2 i3 i4 : Int} (x : ObjOk P w H h a (potL c i1 i2 i3 i4)) (p : PotI i1 i2 i3 i4) {H' : Hp} : ObjOk P w H' h a (.ext (potPhi c a)) := by
  obtain ⟨_, its, n, r, e⟩ := x
  refine ⟨⟨i1, i2, i3, i4, its, n, p, r, e⟩, ⟨_, e⟩, fun h1 h2 z k => ?_⟩
  obtain ⟨j1, j2, j3, j4, jts, m, q, r', e'⟩ := z
  exact ⟨j1, j2, j3, j4, jts, m, q, r', k _ e'⟩
/-- the same objects, one of them told otherwise -/
theorem HOk.retell {P : Program} {w : World} {H : Hp} {h : Heap} {a : Addr} {o o' : HO} (x : HOk P w H h) (ha : H a = some o) (n1 : ∀ b, o ≠ .own b) (n2 : ∀ xs, o ≠ .tup xs) (new : ObjOk P w (upd H a o') h a o') : HOk P w (upd H a o') h := fun b u e => by
  by_cases hb : b = a
  · subst hb
    rw [upd_same] at e
    cases e
    exact new
  · rw [upd_ne hb] at e
    refine (x b u e).stay (fun _ _ _ q => q) (fun c q => ?_) fun c xs q => ?_
    · by_cases hc : c = a
      · subst hc
        rw [ha] at q
        cases q
        exact absurd rfl (n1 _)
      · rw [upd_ne hc]
        exact q
    · by_cases hc : c = a
      · subst hc
        rw [ha] at q
        cases q
        exact absurd rfl (n2 _)
      · rw [upd_ne hc]
        exact q
abbrev spDraw : DSpec := fun ds S _ => ∃ m, ds = [.pur, .int m] ∧ 0 < m ∧ m < 1000000 ∧ ∀ v : Int, 0 ≤ v → v < m → S (.int v)
section
variable {P : Program} {w : World} {K : PySem.W.Frag} {mg : Str → Option Value} {base : Heap} {k : Nat} {f : Addr} {fd : FuncData} {ps : List Str} {Tb : List (Addr × Str)}
theorem draw_told (hp : ps.length = 2) (F : FnOk P w K mg base (L2.CX P w) k f fd ps (spDrawL K)) : FnOk P w K mg base (L2.CX P w) k f fd ps (spD K (potU Tb) 2 spDraw) := by
  refine ⟨fun vs H Q E h => ?_, fun A outer s H args us vs Q E hr he hb hv hs => ?_⟩
  · obtain ⟨L, ds, S, T, ⟨h1, _⟩, _, h2, _⟩ := h
    rw [← h2.len, h1, hp]
  · obtain ⟨L, ds, S, T, ⟨hn, hG⟩, hl, r, ⟨m, rfl, m0, m1, hS⟩, q1, q2⟩ := hs
    obtain ⟨v, r', rfl, ⟨a, c, ns, rfl, ha, hc, hns⟩, v2, r'', rfl, rfl, rfl⟩ := r
    obtain ⟨aL, ha⟩ := hide_at ha
    obtain ⟨cL, hc⟩ := hide_at hc
    obtain ⟨⟨i1, i2, i3, i4, its, n, p, rv, e⟩, _, _⟩ := he.hok a _ ha
    have hca : c ≠ a := fun z => by
      rw [z, ha] at hc
      cases hc
    have no1 : ∀ b, H b = none → b ≠ a := fun b z y => by
      rw [y, ha] at z
      cases z
    have he1 : Env0 P w K mg base A outer s (upd H a (potL c i1 i2 i3 i4)) := by
      refine ⟨he.frames, he.mod, fun b o z => ?_, he.bsz, he.funs, fun b z => ?_, ?_, he.bare⟩
      · obtain ⟨z1, z2⟩ := he.bs b o z
        exact ⟨z1, by rw [upd_ne (no1 b z2)]; exact z2⟩
      · have z2 := he.frf b z
        rw [upd_ne (no1 b z2)]
        exact z2
      · refine HOk.retell he.hok ha (fun _ z => by cases z) (fun _ z => by cases z) ⟨by show 5 ≤ sizeLine; decide, its, n, rv, e⟩
    refine codeAny_mono (F.run A outer s _ args us _ (fun v H' => ∃ i j1 j2 j3 j4, v = .int i ∧ 0 ≤ i ∧ i < m ∧ PotI j1 j2 j3 j4 ∧ H' = upd H a (potL c j1 j2 j3 j4)) (fun _ _ _ => False) hr he1 hb hv ⟨a, c, m, ns, i1, i2, i3, i4, rfl, upd_same, by rw [upd_ne hca]; exact hc, hns, p, m0, m1, fun v j1 j2 j3 j4 v0 v1 pj => ⟨v, j1, j2, j3, j4, rfl, v0, v1, pj, upd_upd⟩⟩) fun r s' hq => ?_
    cases r with
    | error e =>
      obtain ⟨_, _, _, _, _, _, _, _, _, _, _, _, z⟩ := hq
      exact z.elim
    | ok fl =>
      cases fl with
      | ret u =>
        obtain ⟨v, H', h1, h2, un, hok, rvu, i, j1, j2, j3, j4, rfl, i0, i1', pj, rfl⟩ := hq
        refine ⟨.int i, H, h1, h2, ⟨fun b o z1 z2 z3 z4 => un.keep b o z1 (by rw [upd_ne (no1 b z2)]; exact z2) z3 z4, fun b o z1 z2 z3 z4 => un.slot b o z1 (by rw [upd_ne (no1 b z2)]; exact z2) z3 z4, fun b o _ z _ => z, un.there, fun _ _ z => z, fun _ _ _ z => z, fun b ps z => ⟨#[], by rw [z]; simp⟩⟩, ?_, rvu, q1 _ H (.int i) (Same.refl H) rfl (hS i i0 i1')⟩
        have e1 : H = upd (upd H a (potL c j1 j2 j3 j4)) a (.ext (potPhi c a)) := by rw [upd_upd, upd_self ha]
        have z := HOk.retell (o' := .ext (potPhi c a)) hok upd_same (fun _ z => by cases z) (fun _ z => by cases z) (potPhi_ok (hok a _ upd_same) pj)
        rw [← e1] at z
        exact z
      | next => exact False.elim hq
      | brk => exact False.elim hq
      | cont => exact False.elim hq
/-- a pot is made of the script -/
def spPot (Tb : List (Addr × Str)) (K : PySem.W.Frag) : Sp := fun vs H Q _ => ∃ (a : Addr) (ns : List Int), vs = [.ref a] ∧ SqL K H a (ns.map V.int) ∧ ns.length ≤ 63 ∧ LamX.Tabs Tb H ∧ ∀ v H', Same (potU Tb) H H' → (potU Tb).P v H' → Q v H'
/-- .. at first a list -/
def spPotL (Tb : List (Addr × Str)) (K : PySem.W.Frag) : Sp := fun vs H Q _ => ∃ (a : Addr) (ns : List Int), vs = [.ref a] ∧ SqL K H a (ns.map V.int) ∧ ns.length ≤ 63 ∧ LamX.Tabs Tb H ∧ ∀ (p c : Addr) (cs : List Int) (i3 : Int) (H' : Hp), Same (potU Tb) H H' → NoA H p → H' p = some (potL c 0 0 i3 0) → H' c = some (.lst (cs.map V.int)) → (∀ n ∈ cs, 0 ≤ n) → PotI 0 0 i3 0 → Q (.ref p) H'
theorem pot_told (F : FnOk P w K mg base (L2.CX P w) k f fd ps (spPotL Tb K)) (hp : ps.length = 1) : FnOk P w K mg base (L2.CX P w) k f fd ps (spPot Tb K) := by
  refine ⟨fun vs H Q E h => ?_, fun A outer s H args us vs Q E hr he hb hv hs => ?_⟩
  · obtain ⟨a, ns, rfl, _⟩ := h
    rw [hp]
    rfl
  · obtain ⟨a, ns, rfl, hS, hl, hT, q⟩ := hs
    refine codeAny_mono (F.run A outer s H args us _ (fun v H' => ∃ (p c : Addr) (cs : List Int) (i3 : Int), v = .ref p ∧ Same (potU Tb) H H' ∧ NoA H p ∧ H' p = some (potL c 0 0 i3 0) ∧ H' c = some (.lst (cs.map V.int)) ∧ (∀ n ∈ cs, 0 ≤ n) ∧ PotI 0 0 i3 0) (fun _ _ _ => False) hr he hb hv ⟨a, ns, rfl, hS, hl, hT, fun p c cs i3 H' e1 e2 e3 e4 e5 e6 => ⟨p, c, cs, i3, rfl, e1, e2, e3, e4, e5, e6⟩⟩) fun r s' hq => ?_
    cases r with
    | error e =>
      obtain ⟨_, _, _, _, _, _, _, _, _, _, _, _, z⟩ := hq
      exact z.elim
    | ok fl =>
      cases fl with
      | ret u =>
        obtain ⟨v, H', h1, h2, un, hok, rvu, p, c, cs, i3, rfl, e1, e2, e3, e4, e5, e6⟩ := hq
        have hcp : c ≠ p := fun z => by
          rw [z, e3] at e4
          have := HO.lst.inj (Option.some.inj e4)
          cases cs <;> simp at this
        have sm : Same (potU Tb) H (upd H' p (.ext (potPhi c p))) := ⟨fun b o z n => by
          rw [upd_ne (e2.ne z n)]
          exact e1.at b o z n, fun z => tabs_upd H' p _ (.lst e3) (e1.g z)⟩
        have np : ∀ b o, s.heap.get? b = some o → H b = none → b ≠ p := fun b o z1 z2 z3 => by
          have z := un.free b o z1 z2 (by simp)
          rw [z3, e3] at z
          cases z
        refine ⟨.ref p, upd H' p (.ext (potPhi c p)), h1, h2, ⟨un.keep, un.slot, fun b o z1 z2 z3 => by rw [upd_ne (np b o z1 z2)]; exact un.free b o z1 z2 z3, un.there, fun b xs z => sm.at _ _ z, fun b o u z => sm.at _ _ z, fun b ps z => by
          obtain ⟨more, z'⟩ := un.tbls b ps z
          exact ⟨more, by rw [upd_ne (fun q => by rw [q, e3] at z'; cases z')]; exact z'⟩⟩, HOk.retell hok e3 (fun _ z => by cases z) (fun _ z => by cases z) (potPhi_ok (hok p _ e3) e6), rvu, q _ _ sm ⟨p, c, cs, rfl, upd_same, by rw [upd_ne hcp]; exact e4, e5⟩⟩
      | next => exact False.elim hq
      | brk => exact False.elim hq
      | cont => exact False.elim hq
/-! ### how the script is made into a pot -/
/-- a new pot, as it leaves the def: H0 the heap that was handed in -/
def potN (Tb : List (Addr × Str)) (H0 : Hp) : Pu where
  P := fun v H => ∃ (p c : Addr) (cs : List Int) (i3 : Int), v = .ref p ∧ NoA H0 p ∧ H p = some (potL c 0 0 i3 0) ∧ H c = some (.lst (cs.map V.int)) ∧ (∀ n ∈ cs, 0 ≤ n) ∧ PotI 0 0 i3 0
  mono := fun v H H' e ⟨p, c, cs, i3, h1, h2, h3, h4, h5⟩ => ⟨p, c, cs, i3, h1, h2, e.at _ _ h3, e.at _ _ h4, h5⟩
  G := LamX.Tabs Tb
  ge := fun H H' e h => h.ext e
  gu := fun H l o hl _ h => tabs_upd H l o hl h
  gh := fun L H hl h => tabs_hide L H hl h
theorem WS_retPot {X : Cx} {lv : Nat} {T : XD} {Tb : List (Addr × Str)} {H0 : Hp} {c : Ct X (potN Tb H0) lv T} {e : Expr} {δ : List (Option D)} {E : SE} {pos : Pos} (hb : c.Hb = H0) (hl : c.Lb = []) (h : WF c e δ fun ds => ∃ (cs : List Int) (i3 : Int), ds = [.lst (cs.map D.int), .int 0, .int 0, .int i3, .int 0] ∧ (∀ n ∈ cs, 0 ≤ n) ∧ PotI 0 0 i3 0) (k : E.rt .pur) : WS c (.Return (some e) pos) δ E := fun L σ H De N C =>
  runS_of (ps_ret pe_run) (h L σ H _ N fun l H' vs ds s g1 g2 g3 g4 ⟨cs, i3, hd, h1, h2⟩ => by
    subst hd
    obtain ⟨v0, r, rfl, r0, v1, r', rfl, rfl, v2, r'', rfl, rfl, v3, r3, rfl, rfl, v4, r4, rfl, rfl, rfl⟩ := g3
    obtain ⟨b, ws, rfl, hb', rb, _⟩ := r0
    rw [rb.ints] at hb'
    refine C.rt (.ref l) H' .pur (N.ok.base.trans s) ?_ k
    rw [hl, hide_nil]
    exact ⟨l, b, cs, i3, rfl, by rw [← hb]; exact Same.free N.ok.base g1, g2, (hide_at hb').2, h1, h2⟩)
theorem fnScr {x : Str} {st : Stmt} {f : Addr} {fd : FuncData} {N ps : List Str} {k : Nat} (F : Fun K x x st f fd) (Sc : FnScope N ps (defScope st)) (hp : ps.length = 1)
    (body : ∀ (X : Cx) (H0 : Hp) (c : Ct X (potN Tb H0) k noX), Fx X P w K mg base N (defScope st) .top → c.Hb = H0 → c.Lb = [] → ∀ (a : Addr) (ns : List Int), SqL K H0 a (ns.map V.int) → ns.length ≤ 63 → WSs c (defBody st) (startD N [.any (.ref a)]) { nx := fun _ => False, rt := fun d => d = .pur }) :
    FnOk P w K mg base (L2.CX P w) (k + 1) f fd ps (spPot Tb K) := by
  refine pot_told (F.okX Sc (fun vs H Q E h => ?_) fun cdv A outer s H vs Q E hr h => ?_) hp
  · obtain ⟨a, ns, rfl, _⟩ := h
    rw [hp]
    rfl
  · obtain ⟨a, ns, rfl, hS, hl, hT, q⟩ := h
    let c : Ct (cxOf (L2.CX P w) P w K mg base N x (defScope st) f cdv A outer s H E) (potN Tb H) k noX :=
      { Hb := H, Lb := [], g := hT, calm := rfl, nd := Sc.nd, room := hr, own := passes_of rfl, tk := (takes_of (E := E) rfl rfl rfl rfl).imp fun cls od σ H' ⟨s1, fl, r, t⟩ => t.elim }
    have ok : Ok c [] H := ⟨Same.refl H, fun l h => h, fun l h => .inl h, fun l h => by simp at h⟩
    refine ⟨_, pss_run, ?_⟩
    refine body _ H c ⟨rfl, rfl, rfl, rfl, rfl, rfl, rfl, fun x => rfl⟩ rfl rfl a ns hS hl [] (L2.start N [.ref a]) H _ (start_en ok (Reps.one (d := .any (.ref a)) (v := .ref a) rfl)) ⟨fun L' σ' H' δ' N' k => k.elim, fun v H' d s1 r z => ?_, fun L' σ' H' δ' N' k => k.elim, fun L' σ' H' δ' N' k => k.elim⟩
    subst z
    rw [hide_nil] at r
    obtain ⟨p, c', cs, i3, rfl, h1, h2, h3, h4, h5⟩ := r
    exact q p c' cs i3 H' ⟨s1.k, s1.g⟩ h1 h2 h3 h4 h5
/-- a part of the script -/
theorem WE_scr {X : Cx} {U : Pu} {lv : Nat} {T : XD} {c : Ct X U lv T} {e : Expr} {δ : List (Option D)} {S : D → Prop} {lo hi : Option Expr} {i j : Option Int} {pos p2 : Pos} {a : Addr} {ns : List Int} (hS : SqL X.K c.Hb a (ns.map V.int)) (hz : ns.length ≤ 63)
    (h : WE c e δ fun d => d = .any (.ref a)) (h1 : WP c lo δ fun u => u = i) (h2 : WP c hi δ fun u => u = j) (k : S (.lst (cutD (ns.map D.int) i j))) : WE c (.Subscript e (.Slice lo hi none p2) pos) δ S := fun L σ H Q N q =>
  runE_of (pe_slice sl_list pe_run po_run po_run) (h L σ H _ N fun v H1 d s1 r1 z1 => h1 L σ H1 _ (N.mono s1) fun u H2 s2 z2 => h2 L σ H2 _ (N.mono (s1.trans s2)) fun u' H3 s3 z3 => by
    subst z1
    subst z2
    subst z3
    obtain rfl : v = .ref a := r1
    have s := (s1.trans s2).trans s3
    have ok := N.ok.mono s
    refine ⟨a, ns.map V.int, rfl, seqL_mono (N.ok.base.trans s) hS, fun p hp => ?_⟩
    refine q _ _ (.lst (cutD (ns.map D.int) u u')) (s.trans (same_new hp)) (ok.lstNew (cut_rep (Reps.of_ints ns) u u') (Nat.le_trans (cut_len _ _ _) ?_) hp) k
    rw [List.length_map, sizeLine_eq]
    omega)
theorem WJ_lst {X : Cx} {U : Pu} {lv : Nat} {T : XD} {c : Ct X U lv T} {tg e : Expr} {δ : List (Option D)} {S : List D → Prop} (h : WE c e δ fun x => ∃ ds, x = .lst ds ∧ S ds) : WJ c tg e δ S := WJ_of (WI_lst h)
theorem cut_ints (ns : List Int) (i j : Option Int) : ∃ ms : List Int, cutD (ns.map D.int) i j = ms.map D.int ∧ ms.length ≤ ns.length := by
  refine ⟨(ns.drop (HT.sIx ns.length 0 i)).take (HT.sIx ns.length ns.length j - HT.sIx ns.length 0 i), ?_, by rw [List.length_take, List.length_drop]; omega⟩
  unfold cutD
  rw [List.length_map, List.map_take, List.map_drop]
/-- a def that lets nothing out -/
theorem to0 {sp : Sp} (F : FnOk P w K mg base (L2.CX P w) k f fd ps sp) (h : ∀ vs H Q E, sp vs H Q E → sp vs H Q fun _ _ _ => False) : FnOk P w K mg base L2.CX0 k f fd ps sp :=
  ⟨F.len, fun A outer s H args us vs Q E hr he hb hv hs => codeAny_mono (F.run A outer s H args us vs Q _ hr he hb hv (h _ _ _ _ hs)) fun r s' hq => by
    cases r with
    | error e =>
      obtain ⟨_, _, _, _, _, _, _, _, _, _, _, _, z⟩ := hq
      exact z.elim
    | ok fl => cases fl <;> exact hq⟩
def spLaw (Tb : List (Addr × Str)) (K : PySem.W.Frag) : Sp := fun vs H Q _ => ∃ (a : Addr) (ns : List Int), vs = [.ref a] ∧ SqL K H a (ns.map V.int) ∧ ns.length ≤ 63 ∧ LamX.Tabs Tb H ∧ ∀ H', Q (.bl true) H'
/-- the law's first line makes the pot; what follows is read -/
theorem lawTop {st : Stmt} {f fp : Addr} {fd fdp : FuncData} {x y pn z : Str} {N pps : List Str} {rest : List Stmt} {p1 p2 p3 p4 p5 : Pos} {k kp : Nat} {t : RdS} (F : Fun K z z st f fd) (Sc : FnScope (x :: y :: N) [x] (defScope st)) (hbody : defBody st = .Assign [.Name y p1] (.Call (.Name pn p2) [.Name x p3] [] p4) p5 :: rest)
    (Pot : FnOk P w K mg base (L2.CX P w) kp fp fdp pps (spPot Tb K)) (gP : mg pn = some (.ref fp)) (kpP : PySem.W.keepIn K (.ref fp) = true) (bP : Binds K fdp pps []) (hk : kp ≤ k) (hv : visB (defScope st) x = true) (hl : tgB .top (defScope st) y = true) (hg : glbB (defScope st) pn = true)
    (d : ReSs ⟨P, w, K, mg, base, x :: y :: N, defScope st, .code fd.code (z ++ ".<locals>."), potU Tb, k⟩ rest t) (ok : fc (none :: some .pur :: List.replicate N.length none) fun δ => t noX δ { nx := fun _ => False, rt := fun d => d = .bl true }) : FnOk P w K mg base L2.CX0 (k + 1) f fd [x] (spLaw Tb K) := by
  obtain ⟨⟨oc, od, kV, doc, pm, an, cdv, ct, osl, e0, lk, hcd⟩, kp⟩ := F
  subst e0
  refine to0 (fn_of lk hcd Sc (fun vs H Q E h => ?_) fun A outer s H vs Q E hr h => ?_) fun vs H Q E h => h
  · obtain ⟨a, ns, rfl, _⟩ := h
    rfl
  · obtain ⟨a, ns, rfl, hS, hz, hT, q⟩ := h
    have hx : Fx (cxOf (L2.CX P w) P w K mg base (x :: y :: N) z (defScope st) f cdv A outer s H E) P w K mg base (x :: y :: N) (defScope st) (.code cdv (z ++ ".<locals>.")) := ⟨rfl, rfl, rfl, rfl, rfl, rfl, rfl, fun x => rfl, rfl, rfl⟩
    have tk0 := takes_of (X := cxOf (L2.CX P w) P w K mg base (x :: y :: N) z (defScope st) f cdv A outer s H E) (E := E) rfl rfl rfl rfl
    have tk1 : Takes (cxOf (L2.CX P w) P w K mg base (x :: y :: N) z (defScope st) f cdv A outer s H E) (fun _ _ _ _ => False) := tk0.imp fun _ _ _ _ z => z.elim
    rw [hbody]
    refine ⟨_, pss_cons (ps_set (i := 1) Sc.nd rfl (hx.loc (hx.tl hl)) (pe_callS Pot (hr.mono hk) (hx.gl hg) gP kpP bP (fun σ => passAt tk1 σ) (pa_cons (pe_var (i := 0) rfl (hx.vis hv) (visB_ok hv).2.1 (visB_ok hv).2.2) pa_nil rfl) (glbB_ok hg).2.1 rfl rfl) rfl (hx.fn hl)) pss_run, ?_⟩
    refine ⟨.ref a, rfl, a, ns, rfl, hS, hz, hT, fun v H' sm pv => ?_⟩
    let c : Ct (cxOf (L2.CX P w) P w K mg base (x :: y :: N) z (defScope st) f cdv A outer s H E) (potU Tb) k noX :=
      { Hb := H', Lb := [], g := sm.g hT, calm := rfl, nd := Sc.nd, room := hr, own := passes_of rfl, tk := tk1.imp fun cls od σ H' ⟨s1, fl, r, t⟩ => t.elim }
    have okc : Ok c [] H' := ⟨Same.refl H', fun l h => h, fun l h => .inl h, fun l h => by simp at h⟩
    rw [fc_eq] at ok
    refine d c hx _ _ ok [] _ H' _ ⟨okc, by simp [L2.start], fun i d h => ?_, fun i j xs ys l h => ?_⟩ ⟨fun L' σ' H' δ' N' k => k.elim, fun v H' d s1 r z => ?_, fun L' σ' H' δ' N' k => k.elim, fun L' σ' H' δ' N' k => k.elim⟩
    · match i, h with
      | 0, h => simp at h
      | 1, h =>
        simp at h
        subst h
        refine ⟨v, by simp [L2.start], ?_⟩
        show (potU Tb).P v (hide [] H')
        rw [hide_nil]
        exact pv
      | i + 2, h =>
        simp [List.getElem?_replicate] at h
    · match i, h with
      | 0, h => simp at h
      | 1, h => simp at h
      | i + 2, h => simp [List.getElem?_replicate] at h
    · subst z
      rw [show v = .bl true from r]
      exact q H'
end
end Dl

set_option maxRecDepth 100000
set_option maxHeartbeats 0
namespace Dl
open PySem PySem.Spec PyProof.Rows L2
/-! ### the head's facts -/
structure Hd where
  fa : List He.Fa
  ex : List (PySem.W.Frag → Bool)
  fn : List He.DefD
def obsX (d : Hd) (K : PySem.W.Frag) : He.AlD := ((d.fa.all fun f => f.ok K) && (d.ex.all fun e => e K) && d.fn.all fun d => d.ok K, d.fn.map fun d => He.fnW K d.at_)
def SaysX (d : Hd) (K : PySem.W.Frag) : Prop := obsX d K = He.valD d.fn
def obsXG (n : Nat) (d : Hd) (g : Addr → Option Obj) : He.AlD := obsX d (He.frG g (He.asD g n))
def hookX (n : Nat) (d : Hd) : PySem.W.Hook where
  α := He.AlD
  obs := fun s => obsXG n d s.heap.get?
  val := fun _ => He.valD d.fn
  says := fun _ h => ∃ K : PySem.W.Frag, K.In h ∧ SaysX d K
  of := fun _ _ e => ⟨_, He.frG_in, e⟩
  keeps := fun _ _ _ ⟨K, hK, c⟩ k => ⟨K, PySem.W.Frag.In.keeps hK k, c⟩
theorem obsXG_eq {n : Nat} {d : Hd} {g : Addr → Option Obj} {s : Shared} (h : ∀ a, g a = s.heap.get? a) : obsXG n d g = (hookX n d).obs s := by
  have e : g = s.heap.get? := funext h
  rw [e] <;> rfl
section
variable {d : Hd} {K : PySem.W.Frag}
theorem SaysX.b (c : SaysX d K) : ((d.fa.all fun f => f.ok K) = true ∧ (d.ex.all fun e => e K) = true) ∧ (d.fn.all fun d => d.ok K) = true := by
  have c1 := He.ba (show ((d.fa.all fun f => f.ok K) && (d.ex.all fun e => e K) && d.fn.all fun d => d.ok K) = true from congrArg (fun z : He.AlD => z.1) c)
  exact ⟨He.ba c1.1, c1.2⟩
theorem SaysX.fact (c : SaysX d K) {f : He.Fa} (i : Nat) (h : d.fa[i]? = some f := by rfl) : f.ok K = true := List.all_eq_true.mp c.b.1.1 f (List.mem_of_getElem? h)
theorem SaysX.ext (c : SaysX d K) {f : PySem.W.Frag → Bool} (i : Nat) (h : d.ex[i]? = some f := by rfl) : f K = true := List.all_eq_true.mp c.b.1.2 f (List.mem_of_getElem? h)
theorem SaysX.def_ (c : SaysX d K) {x : He.DefD} (i : Nat) (h : d.fn[i]? = some x := by rfl) : ∃ fd, FunD K x.name x.qual x.params x.body x.scope (x.dvs K) (x.kws K) (He.fAd K x.at_) fd := by
  have e : d.fn.map (fun d => He.fnW K d.at_) = d.fn.map He.DefD.val := congrArg (fun z : He.AlD => z.2) c
  have e2 : (d.fn.map fun d => He.fnW K d.at_)[i]? = (d.fn.map He.DefD.val)[i]? := by rw [e]
  rw [List.getElem?_map, List.getElem?_map, h] at e2
  exact He.DefD.funD (Option.some.inj e2) (List.all_eq_true.mp c.b.2 x (List.mem_of_getElem? h))
end
end Dl
namespace Dl
open PySem PySem.Spec PyProof.Rows L2
section
variable {K : PySem.W.Frag} {mg : Str → Option Value} {h : Heap} {d : Hd}
theorem fun_of {x q : Str} {st : Stmt} {f : Addr} {fd : FuncData} (F : FunD K x q (defArgs st) (defBody st) (defScope st) [] [] f fd) : Fun K x q st f fd := by
  obtain ⟨oc, od, dV, kV, doc, pm, an, cdv, ct, osl, e, l, c, hd, _⟩ := F.ex
  have h0 : dV = .none := by
    rcases hd with ⟨h1, _⟩ | ⟨h1, _⟩
    · first | exact h1 | assumption
    · exact absurd rfl h1
  subst h0
  exact ⟨⟨oc, od, kV, doc, pm, an, cdv, ct, osl, e, l, c⟩, F.kp⟩
/-- how positional parameters bind -/
def BindB (st : Stmt) (x q : Str) (ps : List Str) : Prop := ∀ (kV doc pm : Value) (an : Option Addr) (cdv ct : Value) (us : List Value), us.length = ps.length → bindArgs (PySem.W.fnOf x q (defArgs st) (defBody st) (defScope st) .none kV doc pm an cdv ct) ⟨us, []⟩ = pure (ps.zip us)
abbrev defD (x : Str) (st : Stmt) : He.DefD := ⟨(x, none), x, x, defArgs st, defBody st, defScope st, [], []⟩
abbrev metD (C m q : Str) (st : Stmt) : He.DefD := ⟨(C, some m), m, q, defArgs st, defBody st, defScope st, [], []⟩
theorem defAt_of (X : K.In h) (G : h.Ns mainGlobals mg) (c : SaysX d K) {x : Str} {st : Stmt} {ps : List Str} (i j : Nat) (hb : BindB st x x ps) (h1 : d.fn[i]? = some (defD x st) := by rfl) (h2 : d.fa[j]? = some (.glo x) := by rfl) : DefAt K mg x st ps := by
  obtain ⟨fd, F⟩ := c.def_ i h1
  have F' := fun_of F
  exact ⟨_, fd, F', He.glo_ok X G (c.fact j h2), F'.binds hb⟩
theorem methAt_of (c : SaysX d K) {C m q : Str} {st : Stmt} {ps : List Str} (i j : Nat) (hb : BindB st m q ps) (h1 : d.fn[i]? = some (metD C m q st) := by rfl) (h2 : d.fa[j]? = some (.meth C m) := by rfl) : MethAt K (He.ga K C) m q st ps := by
  obtain ⟨fd, F⟩ := c.def_ i h1
  have F' := fun_of F
  exact ⟨_, fd, He.meth_ok (c.fact j h2), F', F'.binds hb⟩
theorem initAt_of (X : K.In h) (G : h.Ns mainGlobals mg) (c : SaysX d K) {C q : Str} {st : Stmt} {ps : List Str} (i j l : Nat) (hb : BindB st "__init__" q ps) (h1 : d.fn[i]? = some (metD C "__init__" q st) := by rfl) (h2 : d.fa[j]? = some (.mkr C) := by rfl) (h3 : d.fa[l]? = some (.glo C) := by rfl) : InitAt K mg C (He.ga K C) q st ps := by
  obtain ⟨fd, F⟩ := c.def_ i h1
  have F' := fun_of F
  exact ⟨_, fd, He.glo_ok X G (c.fact l h3), He.mkr_ok (c.fact j h2), F', F'.binds hb⟩
/-- what isinstance asks of an own class -/
def obB (C : Str) (K : PySem.W.Frag) : Bool := He.eqO (PySem.W.findIn K (.ref (He.ga K C)) "__class__") (some (some (.builtin "object.__class__"))) && (He.eqO (PySem.W.specialIn K (.builtin "object.__class__") "__get__") (some (some (.builtin "getset_descriptor.__get__"))) && (decide (PySem.W.takesIn K (.builtin "object.__class__") = some true) && decide (PySem.W.mroIn K (He.ga K C) (.type "object") = some true)))
theorem ob_of (c : SaysX d K) {C : Str} (i j : Nat) (h1 : d.ex[i]? = some (obB C) := by rfl) (h2 : d.fa[j]? = some (.cls C) := by rfl) : ObT K (He.ga K C) := by
  have z := c.ext i h1
  unfold obB at z
  obtain ⟨z1, z⟩ := He.ba z
  obtain ⟨z2, z⟩ := He.ba z
  obtain ⟨z3, z4⟩ := He.ba z
  exact ⟨He.cls_ok (c.fact j h2), He.eqO_ok z1, He.eqO_ok z2, of_decide_eq_true z3, of_decide_eq_true z4⟩
def kitB2 (C D : Str) (b : Bool) (K : PySem.W.Frag) : Bool := decide (PySem.W.kitOne K (.ref (He.ga K C)) (.ref (He.ga K D)) = some b)
theorem kit_of (c : SaysX d K) {C D : Str} {b : Bool} (i : Nat) (h1 : d.ex[i]? = some (kitB2 C D b) := by rfl) : PySem.W.kitOne K (.ref (He.ga K C)) (.ref (He.ga K D)) = some b := of_decide_eq_true (c.ext i h1)
def nfB (C D : Str) (K : PySem.W.Frag) : Bool := PySem.W.notFirst K (He.ga K C) (.ref (He.ga K D))
theorem nf_of (c : SaysX d K) {C D : Str} (i : Nat) (h1 : d.ex[i]? = some (nfB C D) := by rfl) : PySem.W.notFirst K (He.ga K C) (.ref (He.ga K D)) = true := c.ext i h1
/-- a module's tuple of ints -/
def tupI (x : Str) (ns : List Int) (K : PySem.W.Frag) : Bool := He.tupB K x (ns.map He.Dv.int)
theorem tupI_of (X : K.In h) (G : h.Ns mainGlobals mg) (c : SaysX d K) {x : Str} {ns : List Int} (i j : Nat) (hz : ns.length ≤ sizeLine) (h1 : d.ex[i]? = some (tupI x ns) := by rfl) (h2 : d.fa[j]? = some (.glo x) := by rfl) : Glb K mg x (.tup (ns.map D.int)) := by
  refine ⟨.ref (He.ga K x), .ref (He.ga K x), He.glo_ok X G (c.fact j h2), rfl, fun U H => ⟨_, ns.map V.int, rfl, ?_, Reps.of_ints ns, by rw [List.length_map]; exact hz⟩⟩
  have z := He.tupB_ok (c.ext i h1) H
  rw [List.map_map] at z
  exact z
theorem int_of (X : K.In h) (G : h.Ns mainGlobals mg) (c : SaysX d K) {x : Str} {n : Int} (i : Nat) (h1 : d.fa[i]? = some (.int x n) := by rfl) : Glb K mg x (.int n) := by
  obtain ⟨t, e⟩ := He.int_ok X G (c.fact i h1)
  exact ⟨.int n t, .int n, e, ⟨t, rfl⟩, fun U H => rfl⟩
theorem cls_of (X : K.In h) (G : h.Ns mainGlobals mg) (c : SaysX d K) {x : Str} (i : Nat) (h1 : d.fa[i]? = some (.glo x) := by rfl) : Glb K mg x (.any (.ref (He.ga K x))) :=
  ⟨.ref (He.ga K x), .ref (He.ga K x), He.glo_ok X G (c.fact i h1), rfl, fun U H => rfl⟩
theorem blt_of (X : K.In h) (G : h.Ns mainGlobals mg) (c : SaysX d K) (hf : (bltN.all fun x => d.fa.any fun f => match f with
  | .free y => decide (y = x)
  | _ => false) = true) : Blt mg := fun x hx => by
  obtain ⟨f, hf1, hf2⟩ := List.any_eq_true.mp (List.all_eq_true.mp hf x hx)
  cases f with
  | free y =>
    have e : y = x := of_decide_eq_true hf2
    subst e
    exact He.free_ok X G (List.all_eq_true.mp c.b.1.1 _ hf1)
  | _ => cases hf2
theorem okC_of (c : SaysX d K) {C : Str} {ns : List Str} (i j : Nat) (hn : (ns.all fun n => d.fa.any fun f => match f with
  | .noat D m => decide (D = C ∧ m = n)
  | _ => false) = true) (h1 : d.ex[i]? = some (obB C) := by rfl) (h2 : d.fa[j]? = some (.cls C) := by rfl) : OkC K (He.ga K C) ns := by
  refine ⟨He.cls_ok (c.fact j h2), ob_of c i j h1 h2, fun g hg => ?_⟩
  obtain ⟨f, hf1, hf2⟩ := List.any_eq_true.mp (List.all_eq_true.mp hn g hg)
  cases f with
  | noat D m =>
    obtain ⟨rfl, rfl⟩ : D = C ∧ m = g := of_decide_eq_true hf2
    exact He.noat_ok (List.all_eq_true.mp c.b.1.1 _ hf1)
  | _ => cases hf2
end
theorem law_binds {K : PySem.W.Frag} {x q : Str} {st : Stmt} {f : Addr} {fd : FuncData} {p : Str} (F : Fun K x q st f fd) (hb : BindB st x q [p]) (s : Shared) (u : Value) : BindsTo s fd ⟨[u], []⟩ [(p, u)] := by
  obtain ⟨oc, od, kV, doc, pm, an, cdv, ct, osl, rfl, lk, hcd⟩ := F.ex
  exact BindsTo.of_eq (hb kV doc pm an cdv ct [u] rfl)
end Dl

set_option maxRecDepth 100000
set_option maxHeartbeats 4000000
/-! # Raising; lambdas handed to a def that tells a word -/
namespace Dl
open PySem PySem.Spec PyProof.Rows L2

/-! ### raise C() -/
section
variable {X : Cx} {C : Addr} {bmB : List Value} {B newId initId : String}
theorem pmk_own0 {x : Str} {p pos : Pos} (F : ExcBaseFacts B newId initId bmB) (q : PySem.W.excIn X.K C bmB newId = true) (gC : X.mg x = some (.ref C)) (kC : PySem.W.keepIn X.K (.ref C) = true) (r : Raises X (.ref C)) (hg : Gl X x)
    (hdb : (x == ("__debug__" : Str)) = false) : PMk X (.Call (.Name x p) [] [] pos) (fun _ H Q => Q (.ref C) none H) := by
  intro pins s σ H Q I h
  refine wpAny_Call_Name_kw (ld_glob I hg gC ?_ hdb)
  refine PySem.W.callWith_K0 I.kIn kC ?_
  show wpAny _ _ (call (.ref C) []) _ _ _
  obtain ⟨bm, N, nm, qn, bs, hdct, sn, sub, ab, col, dd, k0, k1, k2, k3, k5, mN, hC, hN, hni, T⟩ := exc_obj I.kIn q
  refine wpAny_call_exc_subT F T hC hN hni (fun h' e hm => ?_) (Nat.zero_le _)
  exact mk_of I hm r h (I.hok.gone hm.new)
end
/-- an own class of exceptions without __init__ -/
structure ExR (K : PySem.W.Frag) (mg : Str → Option Value) (x : Str) (C : Addr) : Prop where
  g : mg x = some (.ref C)
  e : PySem.W.excIn K C [.type "ValueError", .type "Exception", .type "BaseException", .type "object"] "ValueError.__new__" = true
  k : PySem.W.keepIn K (.ref C) = true
  b : PySem.W.subIn K (.ref C) (.type "BaseException") = some true
  t : PySem.W.typeIn K (.ref C) = some (.type "type")
section
variable {X : Cx} {U : Pu} {lv : Nat} {T : XD} {c : Ct X U lv T} {δ : List (Option D)} {E : SE} {pos p pos' : Pos} {x : Str} {C : Addr}
theorem WS_raise0 (F : ExR X.K X.mg x C) (hg : Gl X x) (hdb : (x == ("__debug__" : Str)) = false) (h : T (.ref C) none) : WS c (.Raise (some (.Call (.Name x p) [] [] pos)) none pos') δ E := fun L σ H De N Cm =>
  runS_of (ps_raise c.calm c.tk (pmk_own0 PySem.F.excBase_ValueError F.e F.g F.k (raises_own F.b F.t) hg hdb)) ⟨N.ok.base, none, trivial, h⟩
end
/-- the reading of raise C() -/
def Rd.raise (C : Addr) : RdS := fun T _ _ => T (.ref C) none
theorem De.raise0 {f : Fr} {x : Str} {C : Addr} {p pos pos' : Pos} (F : ExR f.K f.mg x C) (hg : glbB f.sc x = true := by (try dsimp only [Fr.blk, Fr.lam]); decide +kernel) : ReS f (.Raise (some (.Call (.Name x p) [] [] pos)) none pos') (Rd.raise C) := .mk fun c G δ E h =>
  WS_raise0 (by rw [G.k, G.m]; exact F) (G.gl hg) (glbB_ok hg).2.1 h

/-! ### x(lambda: body): x tells a word -/
/-- Wd cls z: z is the word for an error of the class cls; w0: none was raised -/
def TWord (Wd : Value → Str → Prop) (w0 : Str) : (XK → Hp → VK → Prop) → Hp → VK → Prop := fun tl H Q =>
  tl (fun cls od H' => od = none ∧ ∃ z, Wd cls z ∧ ∀ H'', Ext H' H'' → Q (.str z) H'') H fun _ H' => Q (.str w0) H'
/-- slots whose data stand in the heap -/
def Slots (K : PySem.W.Frag) (U : Pu) (H : Hp) (σ : L2.St) (δ : List (Option D)) : Prop := σ.length = δ.length ∧ ∀ (i : Nat) (d : D), δ[i]? = some (some d) → ∃ v, σ[i]? = some (some v) ∧ Rep K U H d v
def lamT (K : PySem.W.Frag) (U : Pu) (r : RdE) (δ : List (Option D)) (E : XK) : TE := fun σ H Q => ∃ (S : D → Prop) (T : XD), U.G H ∧ Slots K U H σ δ ∧ r T δ S ∧
  (∀ v H' d, Same U H H' → Rep K U H' d v → S d → Q v H') ∧ ∀ cls od fl H', Same U H H' → RepX K U H' od fl → T cls fl → E cls od H'
theorem extN_k {H H' : Hp} (e : LamX.ExtN H H') : SameK H H' := fun b o h n => e b o h fun ps z => by
  rw [z] at n
  cases n
theorem En.slots {X : Cx} {U : Pu} {lv : Nat} {T : XD} {c : Ct X U lv T} {L : List Addr} {H : Hp} {σ : L2.St} {δ : List (Option D)} (N : En c L H σ δ) : Slots X.K U H σ (fz δ) := by
  have N' := N.frz
  rw [fz_eq]
  refine ⟨N'.len, fun i d h => ?_⟩
  obtain ⟨v, h1, h2⟩ := N'.rep i d h
  exact ⟨v, h1, Rep.mono hide_ext.k _ _ (repB h2)⟩
theorem Slots.mono {K : PySem.W.Frag} {U : Pu} {H H' : Hp} {σ : L2.St} {δ : List (Option D)} (h : Slots K U H σ δ) (e : SameK H H') : Slots K U H' σ δ := ⟨h.1, fun i d q => let ⟨v, h1, h2⟩ := h.2 i d q; ⟨v, h1, Rep.mono e _ _ h2⟩⟩
section
variable {X : Cx} {U : Pu} {lv : Nat} {T : XD} {c : Ct X U lv T} {δ : List (Option D)} {S : D → Prop} {f : Fr}
/-- the lambda's body, by its reading -/
theorem lam_pe {scope : Scope} {body : Expr} {r : RdE} (F : f.X X) (nd : X.N.Nodup) (LS : LamX.LamS X.env.scope scope) (hd : ReE { f with sc := scope, z := .blk scope } body r) (A : Around) (outer : List Env) (s : Shared) (H : Hp) (E : XK) (a c' : Addr) (hU : f.U = U) (hr : Room f.lv (A.deeper (LamX.lamEnv X scope s.heap.objs.size a c'))) (δ' : List (Option D)) :
    PE (LamX.lamCx X A outer s H E scope a c') body (lamT X.K U r δ' E) := by
  subst hU
  refine ⟨fun pins s1 σ1 H1 Q I ⟨S', T', hG, ⟨hl, hs⟩, hr', q1, q2⟩ => ?_⟩
  let c1 : Ct (LamX.lamCx X A outer s H E scope a c') f.U f.lv T' :=
    { Hb := H1, Lb := [], g := hG, calm := rfl, nd := nd, room := hr, own := passes_of rfl, tk := (takes_of (E := E) rfl rfl rfl rfl).imp fun cls od σ H' ⟨s2, fl, r2, t⟩ => q2 cls od fl H' s2 (by rw [hide_nil] at r2; exact r2) t }
  have hx : Fr.X { f with sc := scope, z := .blk scope } (LamX.lamCx X A outer s H E scope a c') := ⟨F.p, F.w, F.k, F.m, F.b, F.n, rfl, fun x => by
    show false = _
    cases q : scope.names.lookup x with
    | none => rfl
    | some k =>
      cases k with
      | cell => exact absurd rfl (LS.own _ (PySem.mem_of_lookup q)).2
      | _ => rfl, fun x k e => .inl e⟩
  have en : En c1 [] H1 σ1 δ' := ⟨⟨Same.refl H1, fun l h => h, fun l h => .inl h, fun l h => by simp at h⟩, hl, fun i d h => ?_, fun i j xs ys l h => ?_⟩
  · exact hd c1 hx δ' S' hr' [] σ1 H1 Q en (fun v H' d s2 (r2 : RepO X.K f.U [] [] H' d v) k => q1 v H' d s2 (by have z := repB r2; rw [hide_nil] at z; exact z) k) pins s1 I
  · obtain ⟨v, h1, h2⟩ := hs i d h
    exact ⟨v, h1, .of_rep (by rw [hide_nil]; exact h2)⟩
  · obtain ⟨v, _, h2⟩ := hs i _ h
    exact h2.elim
/-- x(lambda: body), x tells a word -/
theorem WE_word {Tb : List (Addr × Str)} {Wd : Value → Str → Prop} {w0 : Str} {x a : Str} {g ca PA : Addr} {pg : Arguments} {bg : List Stmt} {sg : Scope} {dV kV doc pm cdv ct oc : Value} {an od : Option Addr} {osl : Array (Option Value)} {Ng : List Str}
    {params : Arguments} {body : Expr} {scope : Scope} {r : RdE} {p lpos : Pos} (F : f.X X) (hU : f.U = U) (hlv : f.lv + 2 ≤ lv) (hT : ∀ H, U.G H ↔ LamX.Tabs Tb H) (hg : Gl X x) (hm : X.mg x = some (.ref g)) (hk : PySem.W.keepIn X.K (.ref g) = true)
    (lk : X.K.lookup g = some ⟨oc, od, .func (PySem.W.fnOf x x pg bg sg dV kV doc pm an cdv ct), osl⟩) (hcg : PySem.W.codeIn X.K cdv x = true) (hb : L2.Binds X.K (PySem.W.fnOf x x pg bg sg dV kV doc pm an cdv ct) [a] []) (Sg : FnScope Ng [a] sg) (hNg : Ng[0]? = some a) (hva : Vis sg a)
    (hG : LamX.GivesTo X Ng x sg g cdv bg a (X.env.qual ++ "<lambda>") (TWord Wd w0)) (TB : LamX.TabB X.base X.mg ca PA) (hcode : X.env.code = .ref ca) (hmT : (PA, X.env.qual ++ "<lambda>") ∈ Tb) (hu : ∀ p ∈ Tb, p.1 = PA → p.2 = X.env.qual ++ "<lambda>")
    (LS : LamX.LamS X.env.scope scope) (hdef : defaultsOf params X.env = ([], [])) (hbind : ∀ (q : Str) (cl : List (Str × Addr)) (pm cv ctv : Value), bindArgs (PySem.W.kla_fn "<lambda>" q params body scope cl pm cv ctv) ⟨[], []⟩ = pure [])
    (hd : ReE { f with sc := scope, z := .blk scope } body r) (h : r (fun cls fl => fl = none ∧ ∃ z, Wd cls z ∧ S (.str z)) (fz δ) fun _ => S (.str w0))
    (hdb : (x == ("__debug__" : Str)) = false) (hda : (a == ("__debug__" : Str)) = false) (hca : (a == ("__classdict__" : Str)) = false) : WE c (.Call (.Name x p) [.Lambda params body scope lpos] [] pos) δ S := fun L σ H Q N q => by
  have gH := N.ok.base.g c.g
  refine runE_of (LamX.pe_lamcall (T := Tb) (TT := TWord Wd w0) (k := f.lv) (t := lamT X.K U r (fz δ)) hg hm hk lk hcg hb Sg hNg hva hG TB hcode hmT hu (c.room.mono hlv) LS hdef hbind (fun A outer s H E a c' hr => lam_pe F c.nd LS hd A outer s H E a c' hU hr (fz δ)) hdb hda hca) ⟨(hT H).mp gH, fun H1 eN T1 => ?_⟩
  have s1 : Same U H H1 := ⟨extN_k eN, fun _ => (hT H1).mpr T1⟩
  refine ⟨fun _ => S (.str w0), fun cls fl => fl = none ∧ ∃ z, Wd cls z ∧ S (.str z), (hT H1).mpr T1, N.slots.mono s1.k, h, fun v H' d s2 _ k => q _ H' (.str w0) (s1.trans s2) rfl k, fun cls od fl H' s2 rx ⟨e0, z, z1, z2⟩ => ⟨by
    subst e0
    cases od with
    | none => rfl
    | some _ => exact rx.elim, z, z1, fun H'' e => q _ H'' (.str z) ((s1.trans s2).trans e.s) rfl z2⟩⟩
end
end Dl

set_option maxRecDepth 100000
set_option maxHeartbeats 4000000
/-! # Defs that tell a word of what is raised -/
namespace Dl
open PySem PySem.Spec PyProof.Rows L2
theorem countP_flat {y : V} : ∀ {ys : List V} {us : List Value}, Vals ys us → ys.all flatV = true → us.countP (eqU y) = ys.countP fun z => eqV z y
  | _, _, .nil, _ => rfl
  | z :: ys, u :: us, .cons r t, f => by
    rw [List.all_cons, Bool.and_eq_true] at f
    rw [List.countP_cons, List.countP_cons, countP_flat t f.2, eqU_of r f.1]
def rCntF (K : PySem.W.Frag) : V → List V → Hp → VK → Prop := fun x xs H Q => ∃ (p : Addr) (ys : List V) (y : V), x = .ref p ∧ xs = [y] ∧ SqL K H p ys ∧ flatV y = true ∧ ys.all flatV = true ∧ Q (.int (ys.countP fun z => eqV z y : Nat)) H
theorem mt_countF {X : Cx} : MtR X "list.count" (rCntF X.K) := fun pins s σ H x xs v us Q I rx rxs h => by
  obtain ⟨p, ys, y, rfl, rfl, hs, fy, fys, q⟩ := h
  cases rx
  obtain ⟨u, rfl, ru⟩ := rxs.one
  obtain ⟨its, rv, ⟨⟨k1, dd, dt, sl⟩, n, e1, e2, e3, e4⟩, _⟩ := I.list hs
  subst e2 e4
  refine call_meets PySem.F.slot_list_count ⟨_, e1, rfl⟩ PySem.F.entry_list_count (PySem.F.args_list_count_2 _ _) (SeqAt.list_countAt p its.toArray n dd sl u (eqU y)) ⟨e1, fun u' hu' => mem_eqAt ru fy rv fys u' (by simpa using hu'), ?_⟩
  refine ⟨.int (its.toArray.toList.countP (eqU y) : Nat), H, I.tok _, ⟨_, rfl⟩, ?_⟩
  rw [show its.toArray.toList.countP (eqU y) = ys.countP fun z => eqV z y from countP_flat rv fys]
  exact q
/-- w = 'let' / try: a() / except C as e: suite / return w -/
theorem word_gives {X : Cx} {Ng : List Str} {x a wn en cE q w0 : Str} {sg : Scope} {g CE : Addr} {cdg : Value} {iw ie j : Nat} {suite : List Stmt} {b₀ : Stmt} {Wd : Value → Str → Prop} {ts : Addr → Addr → TS} {p1 p2 p3 p4 p5 p6 p7 p8 p9 pa pb : Pos}
    (nd : Ng.Nodup) (hi : Ng[iw]? = some wn) (hie : Ng[ie]? = some en) (h0 : ∀ f : Addr, (L2.start Ng [V.ref f])[0]? = some (some (V.ref f))) (hne : iw ≠ 0) (hne2 : ie ≠ iw) (hl : iw < Ng.length) (hlw : sg.names.lookup wn = some .local) (hle : sg.names.lookup en = some .local)
    (hge : sg.names.lookup cE = some .globalImplicit) (hme : X.mg cE = some (.ref CE)) (hde : (cE == ("__debug__" : Str)) = false) (hdw : (wn == ("__debug__" : Str)) = false) (hcw : (wn == ("__classdict__" : Str)) = false)
    (hsu : ∀ (s : Shared) (H : Hp) (aa : Addr) (oe : Obj) (D : Addr) (pn : List (Addr × Obj)), ExcC X.K D → Zc (.ref D) none oe → (∃ vs, oe.data = .fields vs) → PSs ((cxOf C8.CX0 X.prog X.w X.K X.mg X.base Ng x sg g cdg X.A X.stack s H C8.E0).nox.suite aa ((aa, oe) :: pn)) (b₀ :: suite) (ts D aa))
    (hW : ∀ cls z, Wd cls z → ∃ D, cls = .ref D ∧ ExcC X.K D ∧ PySem.W.exmOne X.K cls (.ref CE) = some true ∧ ∀ (aa : Addr) (σ : L2.St) (H : Hp) (De : Ends), σ.length = Ng.length → (∀ (σ' : L2.St) (H' : Hp), σ'[iw]? = some (some (V.str z)) → Ext H H' → De.nx σ' H') → ts D aa De (σ.set ie (some (.ref aa))) H)
    (hsw : ∀ X' : Cx, swapsWith (.Call (.Name a p3) [] [] p4) none p5.line X'.env = pure false := by intro _; rfl) :
    LamX.GivesTo X Ng x sg g cdg [.Assign [.Name wn p1] (.Constant (.str w0) j p2) pa, .Try [.Expr (.Call (.Name a p3) [] [] p4) p5] [.ExceptHandler (some (.Name cE p6)) (some en) (b₀ :: suite) p7] [] [] p8, .Return (some (.Name wn p9)) pb] a q (TWord Wd w0) := by
  intro f c' s H Q tl act hc h
  let Xg : Cx := (cxOf C8.CX0 X.prog X.w X.K X.mg X.base Ng x sg g cdg X.A X.stack s H C8.E0).nox
  have hgl : Gl Xg cE := hge
  refine ⟨_, pss_cons (ps_set (X := Xg) (i := iw) nd hi (.inl hlw) pe_str (by rfl) (.inr hlw)) (pss_cons (ps_try_as (X := Xg) (i := ie) (c := .ref CE) (n := en)
      (tb := fun W D σ H => ∃ Ech : XK, (∀ cls d σ' H', Ech cls d H' → W cls d σ' H') ∧ σ[0]? = some (some (.ref f)) ∧ H c' = some (LamX.CodeO c' q) ∧ tl Ech H fun _ H' => D.nx σ H')
      (ts := fun aa cls d D σ H => ∃ Dd, cls = .ref Dd ∧ d = none ∧ ExcC X.K Dd ∧ (σ.length = Ng.length → ts Dd aa D σ H))
      rfl rfl nd hie hle ⟨hgl, hde, .inl hme⟩ LamX.takes0 (fun W pn xe tk _ => ?_) (fun aa oe cls d pn hz hf => ?_)) (pss_one (ps_ret (pe_var hi (.inl hlw) hdw hcw)))), ?_⟩
  · exact ⟨fun pins s' σ H' D I ⟨Ech, hE, h1, h2, h3⟩ => (pss_one (ps_expr (act W pn xe Ech p3 p4 tk hE) (hsw _))).run pins s' σ H' D I ⟨h1, h2, h3⟩⟩
  · refine ⟨fun pins s' σ H' D I ⟨Dd, e1, e2, C, hh⟩ => ?_⟩
    subst e1 e2
    exact (hsu s H aa oe Dd pn C hz hf).run pins s' σ H' D I (hh I.len)
  · have st : ∀ v : V, ((L2.start Ng [V.ref f]).set iw (some v))[iw]? = some (some v) := fun v => List.getElem?_set_self (by
      show iw < (L2.start Ng [V.ref f]).length
      unfold L2.start
      rw [List.length_append, List.length_map, List.length_replicate]
      show iw < 1 + (Ng.length - 1)
      omega)
    refine ⟨fun cls od H' => od = none ∧ ∃ z, Wd cls z ∧ ∀ H'', Ext H' H'' → Q (.str z) H'', fun cls d σ' H' hE => ?_, ?_, hc, ?_⟩
    · obtain ⟨e0, z, w, k⟩ := hE
      obtain ⟨Dd, e1, C, e2, hh⟩ := hW cls z w
      refine ⟨true, e2, fun _ aa _ => ⟨Dd, e1, e0, C, fun hl' => hh aa σ' H' _ (by rw [← hl', List.length_set]) fun σ2 H2 h1 h2 => ?_⟩, fun z => by cases z⟩
      refine ⟨.str z, ?_, k H2 h2⟩
      rw [List.getElem?_set_ne hne2]
      exact h1
    · rw [List.getElem?_set_ne hne]
      exact h0 f
    · have e : (fun (_ : V) (H' : Hp) => Q (.str w0) H') = fun (_ : V) (H' : Hp) => ∃ v, ((L2.start Ng [V.ref f]).set iw (some (V.str w0)))[iw]? = some (some v) ∧ Q v H' := by
        funext _ H'
        refine propext ⟨fun k => ⟨_, st _, k⟩, fun ⟨v, h1, k⟩ => ?_⟩
        rw [st] at h1
        cases h1
        exact k
      have h' : tl (fun cls od H' => od = none ∧ ∃ z, Wd cls z ∧ ∀ H'', Ext H' H'' → Q (.str z) H'') H fun _ H' => Q (.str w0) H' := h
      rw [e] at h'
      exact h'
/-! ### the reading of x(lambda: body) -/
/-- x is a def that tells a word -/
structure Wrd (P : Program) (w : World) (K : PySem.W.Frag) (mg : Str → Option Value) (base : Heap) (x : Str) (Wd : Value → Str → Prop) (w0 : Str) : Prop where
  ex : ∃ (g : Addr) (a : Str) (pg : Arguments) (bg : List Stmt) (sg : Scope) (dV kV doc pm cdv ct oc : Value) (an od : Option Addr) (osl : Array (Option Value)) (Ng : List Str), mg x = some (.ref g) ∧ PySem.W.keepIn K (.ref g) = true ∧
    K.lookup g = some ⟨oc, od, .func (PySem.W.fnOf x x pg bg sg dV kV doc pm an cdv ct), osl⟩ ∧ PySem.W.codeIn K cdv x = true ∧ L2.Binds K (PySem.W.fnOf x x pg bg sg dV kV doc pm an cdv ct) [a] [] ∧ FnScope Ng [a] sg ∧ Ng[0]? = some a ∧ Vis sg a ∧
    (a == ("__debug__" : Str)) = false ∧ (a == ("__classdict__" : Str)) = false ∧ ∀ (X : Cx) (q : Str), X.prog = P → X.w = w → X.K = K → X.mg = mg → X.base = base → LamX.GivesTo X Ng x sg g cdv bg a q (TWord Wd w0)
/-- the code object cd of the def q, its table -/
structure LamAt (base : Heap) (mg : Str → Option Value) (Tb : List (Addr × Str)) (cd : Value) (q : Str) : Prop where
  ex : ∃ ca PA, cd = .ref ca ∧ LamX.TabB base mg ca PA ∧ (PA, q ++ "<lambda>") ∈ Tb ∧ ∀ p ∈ Tb, p.1 = PA → p.2 = q ++ "<lambda>"
def Rd.word (Wd : Value → Str → Prop) (w0 : Str) (r : RdE) : RdE := fun _ δ S => fc (fz δ) fun δ' => r (fun cls fl => fl = none ∧ ∃ z, Wd cls z ∧ S (.str z)) δ' fun _ => S (.str w0)
theorem De.word {f : Fr} {cd : Value} {q x w0 : Str} {Wd : Value → Str → Prop} {Tb : List (Addr × Str)} {params : Arguments} {body : Expr} {scope : Scope} {r : RdE} {p lpos pos : Pos} (W : Wrd f.P f.w f.K f.mg f.base x Wd w0) (LA : LamAt f.base f.mg Tb cd q) (hT : ∀ H, f.U.G H ↔ LamX.Tabs Tb H)
    (hd : ReE (f.lam scope) body r) (hz : f.z = .code cd q := by rfl) (hlv : 2 ≤ f.lv := by (try dsimp only [Fr.blk, Fr.lam]); decide) (hs : LamX.lamSB f.sc scope = true := by (try dsimp only [Fr.blk, Fr.lam]); decide +kernel) (hg : glbB f.sc x = true := by (try dsimp only [Fr.blk, Fr.lam]); decide +kernel) (hdef : ∀ X : Cx, defaultsOf params X.env = ([], []) := by intro _; rfl)
    (hbind : ∀ (q : Str) (cl : List (Str × Addr)) (pm cv ctv : Value), bindArgs (PySem.W.kla_fn "<lambda>" q params body scope cl pm cv ctv) ⟨[], []⟩ = pure [] := by intros; rfl) : ReE f (.Call (.Name x p) [.Lambda params body scope lpos] [] pos) (Rd.word Wd w0 r) := .mk fun {X T} c F δ S h => by
  obtain ⟨g, a, pg, bg, sg, dV, kV, doc, pm, cdv, ct, oc, an, od, osl, Ng, h1, h2, h3, h4, h5, h6, h7, h8, h9, h10, hG⟩ := W.ex
  obtain ⟨ca, PA, e1, TB, m1, m2⟩ := LA.ex
  have fz' := F.f
  rw [hz] at fz'
  obtain ⟨_, hc, hq⟩ := fz'
  subst e1
  subst hq
  have F' : Fr.X (f.lam f.sc) X ∨ True := .inr trivial
  unfold Rd.word at h
  rw [fc_eq] at h
  exact WE_word (f := { f with lv := f.lv - 2 }) (g := g) (ca := ca) (PA := PA) F rfl (by show f.lv - 2 + 2 ≤ f.lv; omega) hT (F.gl hg) (by rw [F.m]; exact h1) (by rw [F.k]; exact h2) (by rw [F.k]; exact h3) (by rw [F.k]; exact h4) (by rw [F.k]; exact h5) h6 h7 h8
    (hG X _ F.p F.w F.k F.m F.b) (by rw [F.b, F.m]; exact TB) hc m1 m2 (by rw [F.s]; exact LamX.lamS_by hs) (hdef X) hbind hd h (glbB_ok hg).2.1 h9 h10
end Dl

set_option maxRecDepth 100000
set_option maxHeartbeats 4000000
/-! # Defs with lambdas in them; heads that tell of their tables -/
namespace Dl
open PySem PySem.Spec PyProof.Rows L2
abbrev locs (x : Str) : Str := x ++ ".<locals>."
structure DefAtC (K : PySem.W.Frag) (mg : Str → Option Value) (base : Heap) (Tb : List (Addr × Str)) (x : Str) (st : Stmt) (ps : List Str) : Prop where
  ex : ∃ (f : Addr) (fd : FuncData), Fun K x x st f fd ∧ mg x = some (.ref f) ∧ Binds K fd ps [] ∧ LamAt base mg Tb fd.code (locs x)
section
variable {P : Program} {w : World} {K : PySem.W.Frag} {mg : Str → Option Value} {base : Heap} {U : Pu} {Tb : List (Addr × Str)}
theorem fnDC {x : Str} {st : Stmt} {f : Addr} {fd : FuncData} {N ps : List Str} {n k : Nat} {sp : DSpec} (F : Fun K x x st f fd) (Sc : FnScope N ps (defScope st)) (hn : ps.length = n)
    (body : ∀ (X : Cx) (T : XD) (c : Ct X U k T), Fx X P w K mg base N (defScope st) (.code fd.code (locs x)) → ∀ (ds : List D) (S : D → Prop), ds.length = n → sp ds S T →
      WSs c (defBody st) (startD N ds) { nx := fun _ => S .non, rt := S }) : FnOk P w K mg base (L2.CX P w) (k + 1) f fd ps (spD K U n sp) := by
  obtain ⟨⟨oc, od, kV, doc, pm, an, cdv, ct, osl, e0, lk, hcd⟩, kp⟩ := F
  subst e0
  refine fn_of lk hcd Sc (fun vs H Q E h => ?_) fun A outer s H vs Q E hr h => ?_
  · obtain ⟨L, ds, S, T, ⟨z, _⟩, _, r, _⟩ := h
    rw [hn, ← z, r.len]
  · obtain ⟨L, ds, S, T, ⟨z, hG⟩, hl, r, hs, q1, q2⟩ := h
    let c : Ct (cxOf (L2.CX P w) P w K mg base N x (defScope st) f cdv A outer s H E) U k T :=
      { Hb := H, Lb := L, g := hG, calm := rfl, nd := Sc.nd, room := hr, own := passes_of rfl, tk := (takes_of (E := E) rfl rfl rfl rfl).imp fun cls od σ H' ⟨s1, fl, rx, t⟩ => q2 cls od fl H' s1 rx t }
    have ok : Ok c L H := ⟨Same.refl H, fun l h => h, fun l h => .inl h, hl⟩
    refine ⟨_, pss_run, body _ T c ⟨rfl, rfl, rfl, rfl, rfl, rfl, rfl, fun x => rfl, rfl, rfl⟩ ds S z hs L (L2.start N vs) H _ (start_en ok r) ⟨fun L' σ' H' δ' N' k => q1 .non H' .non N'.ok.base rfl k, fun v H' d s r k => q1 v H' d s r k, fun L' σ' H' δ' N' k => k.elim, fun L' σ' H' δ' N' k => k.elim⟩⟩
theorem fnRC {x : Str} {st : Stmt} {N ps : List Str} {n k : Nat} {sp : DSpec} {t : RdS} (A : DefAtC K mg base Tb x st ps) (Sc : FnScope N ps (defScope st)) (hn : ps.length = n) (hN : n ≤ N.length) (d : ∀ cd, LamAt base mg Tb cd (locs x) → ReSs ⟨P, w, K, mg, base, N, defScope st, .code cd (locs x), U, k⟩ (defBody st) t) (h : Okd N.length t sp) : Fn P w K mg base U (k + 1) x n sp := by
  obtain ⟨f, fd, F, hg, hb, LA⟩ := A.ex
  refine fn_mk (N := N) F hg hb (fnDC F Sc hn fun X T c fx ds S hl hs => d fd.code LA c fx _ _ ?_)
  have h1 := h T ds S hs
  rw [fc_eq, sD_eq N ds (by omega)] at h1
  exact h1
end
/-! ### readings of __init__ -/
abbrev RdB := XD → List (Option D) → List Str → List D → (D → Prop) → Prop
abbrev RdBs := Addr → XD → List (Option D) → (D → Prop) → Prop
structure ReB (f : Fr) (C : Addr) (sts : List Stmt) (t : RdB)  : Prop where
  run : ∀ {X : Cx} {T : XD} (c c2 : Ct X f.U f.lv T) (o : Spot), f.X X → Spo c c2 o → o.C = C → ∀ (δ : List (Option D)) (ns : List Str) (ds : List D) (S : D → Prop), sl δ 0 = some (.any (.ref o.x)) → t T δ ns ds S → WB c2 o sts δ ns ds S
instance {f : Fr} {C : Addr} {sts : List Stmt} {t : RdB}  : CoeFun (ReB f C sts t) fun _ => ∀ {X : Cx} {T : XD} (c c2 : Ct X f.U f.lv T) (o : Spot), f.X X → Spo c c2 o → o.C = C → ∀ (δ : List (Option D)) (ns : List Str) (ds : List D) (S : D → Prop), sl δ 0 = some (.any (.ref o.x)) → t T δ ns ds S → WB c2 o sts δ ns ds S := ⟨fun h => h.run⟩
structure ReBs (f : Fr) (C : Addr) (sts : List Stmt) (t : RdBs)  : Prop where
  run : ∀ {X : Cx} {T : XD} (c c2 : Ct X f.U f.lv T) (o : Spot), f.X X → Spo c c2 o → o.C = C → ∀ (δ : List (Option D)) (S : D → Prop), t o.x T δ S → WBs c c2 o sts δ S
instance {f : Fr} {C : Addr} {sts : List Stmt} {t : RdBs}  : CoeFun (ReBs f C sts t) fun _ => ∀ {X : Cx} {T : XD} (c c2 : Ct X f.U f.lv T) (o : Spot), f.X X → Spo c c2 o → o.C = C → ∀ (δ : List (Option D)) (S : D → Prop), t o.x T δ S → WBs c c2 o sts δ S := ⟨fun h => h.run⟩
namespace Rd
def bnil (C : Addr) : RdB := fun _ _ ns ds S => S (.obj C ns ds)
def bset (names : List Str) (g : Str) (a : RdE) (rest : RdB) : RdB := fun T δ ns ds S => decide (g ∈ names ∧ g ∉ ns ∧ ns.length < 999) = true ∧ a T δ fun d => stP d (rest T δ (ns ++ [g]) (ds ++ [d]) S)
def bkeep (sp : DSpec) (as : RdA) : RdB := fun T δ ns _ S => ns = [] ∧ as T δ fun ds => stiD (stills ds) (sp ds S noX)
def anyP (o : Option D) (A : Addr → Prop) : Prop := match o with
  | some (.any (.ref y)) => A y
  | _ => False
theorem anyP_ok {o : Option D} {A : Addr → Prop} (h : anyP o A) : ∃ y, o = some (.any (.ref y)) ∧ A y := by
  unfold anyP at h
  split at h
  · exact ⟨_, rfl, h⟩
  · exact h.elim
def bgo (b : RdB) : RdBs := fun x T δ S => anyP (sl δ 0) fun y => y = x ∧ b T δ [] [] S
def bpre (t : RdS) (b : RdBs) : RdBs := fun x T δ S => t T δ { nx := fun δ' => b x T δ' S, rt := fun _ => False, bk := fun _ => False, ct := fun _ => False }
end Rd
namespace De
section
variable {f : Fr} {C : Addr} {e : Expr} {es : List Expr} {pos p : Pos} {ta : RdE} {tas : RdA} {st : Stmt} {rest : List Stmt} {names : List Str}
theorem bnil : ReB f C [] (Rd.bnil C) := .mk fun c c2 o F p e δ ns ds S hs h => by
  subst e
  exact WB_nil p h
theorem bset {g x : Str} {p' p2 : Pos} {tb : RdB} (hC : OkC f.K C names) (ha : ReE f e ta) (hb : ReB f C rest tb) (hn : f.N[0]? = some x := by rfl) (hv : visB f.sc x = true := by (try dsimp only [Fr.blk, Fr.lam]); decide +kernel) (hs : ∀ X : Cx, swapsWith e (some (.Attribute (.Name x p2) g p')) pos.line X.env = pure false := by intro _; rfl) :
    ReB f C (.Assign [.Attribute (.Name x p2) g p'] e pos :: rest) (Rd.bset names g ta tb) := .mk fun {X T} c c2 o F p e δ ns ds S hδ h => by
  subst e
  exact bSet F p hC h.1 (WE_var 0 (sl_eq hδ) rfl (by rw [F.n]; exact hn) (F.vis hv) (visB_ok hv).2.1 (visB_ok hv).2.2) ((ha c2 F δ _ h.2).mono fun d k => ⟨(stP_ok k).1, hb c c2 o F p rfl δ _ _ S hδ (stP_ok k).2⟩) (hs X)
theorem bgo {sts : List Stmt} {tb : RdB} (hb : ReB f C sts tb) : ReBs f C sts (Rd.bgo tb) := .mk fun c c2 o F p e δ S h => by
  obtain ⟨y, h1, h2, h3⟩ := Rd.anyP_ok h
  subst h2
  exact WBs_go p (hb c c2 o F p e δ _ _ S h1 h3)
theorem bpre {t : RdS} {tb : RdBs} (hs : ReS f st t) (hb : ReBs f C rest tb) : ReBs f C (st :: rest) (Rd.bpre t tb) := .mk fun c c2 o F p e δ S h => WBs_cons fun L σ H D N Cm => hs c F δ _ h L σ H D N ⟨fun L' σ' H' δ' N' k => Cm.nx L' σ' H' δ' N' (hb c c2 o F p e δ' S k), Cm.rt, Cm.bk, Cm.ct⟩
end
end De
def Okb (n : Nat) (t : RdBs) (sp : DSpec) : Prop := ∀ (x : Addr) (T : XD) (ds : List D) (S : D → Prop), sp ds S T → fc (sD n (.any (.ref x) :: ds)) fun δ => t x T δ S
section
variable {P : Program} {w : World} {K : PySem.W.Frag} {mg : Str → Option Value} {base : Heap} {U : Pu}
theorem makerR {x qual : Str} {st : Stmt} {N ps : List Str} {n k : Nat} {sp : DSpec} {C : Addr} {t : RdBs} (A : InitAt K mg x C qual st ps) (Sc : FnScope N ps (defScope st)) (hn : ps.length = n + 1) (hN : n + 1 ≤ N.length) (d : ReBs ⟨P, w, K, mg, base, N, defScope st, .top, U, k⟩ C (defBody st) t) (h : Okb N.length t sp) :
    Maker P w K mg base U (k + 1) x n sp := makerO A Sc hn fun X T c c2 o F e p ds S hl hs => d c c2 o F p e _ _ (by
  have h1 := h o.x T ds S hs
  rw [fc_eq, sD_eq N _ (by rw [List.length_cons]; omega)] at h1
  exact h1)
end
/-! ### heads -/
abbrev hookY (n : Nat) (d : Hd) (tf : List He.Defn) : PySem.W.Hook := He.hookX n d.fa d.fn [] tf fun K => d.ex.all fun e => e K
abbrev obsYG (n : Nat) (d : Hd) (tf : List He.Defn) (g : Addr → Option Obj) : He.AlX := He.obsX n d.fa d.fn [] tf (fun K => d.ex.all fun e => e K) g
abbrev SaysY (d : Hd) (tf : List He.Defn) (w : World) (h : Heap) (K : PySem.W.Frag) : Prop := He.SaysX d.fa d.fn [] tf (fun K => d.ex.all fun e => e K) w h K
def tabsT (K : PySem.W.Frag) (tf : List He.Defn) : List (Addr × Str) := tf.map fun p => ((He.cT K p).2, locs p.1 ++ "<lambda>")
def nodB (tf : List He.Defn) (K : PySem.W.Frag) : Bool := decide ((tf.map fun p => (He.cT K p).2).Nodup)
section
variable {K : PySem.W.Frag} {mg : Str → Option Value} {h base : Heap} {d : Hd} {tf : List He.Defn} {w : World}
theorem SaysY.x (c : SaysY d tf w h K) : SaysX d K := by
  have c1 : He.obsD d.fa d.fn K = He.valD d.fn := c.t.d
  have c2 : ((d.fa.all fun f => f.ok K) && d.fn.all fun d => d.ok K) = true := congrArg (fun z : He.AlD => z.1) c1
  have c3 : d.fn.map (fun d => He.fnW K d.at_) = d.fn.map He.DefD.val := congrArg (fun z : He.AlD => z.2) c1
  obtain ⟨h1, h2⟩ := He.ba c2
  have h3 : (d.ex.all fun e => e K) = true := c.more
  show (((d.fa.all fun f => f.ok K) && (d.ex.all fun e => e K)) && d.fn.all fun d => d.ok K, d.fn.map fun d => He.fnW K d.at_) = (true, d.fn.map He.DefD.val)
  rw [h1, h2, h3, c3]
  rfl
theorem nodup_at {α β : Type} {g : α → β} : ∀ {l : List α}, (l.map g).Nodup → ∀ {a b : α}, a ∈ l → b ∈ l → g a = g b → a = b
  | x :: l, n, a, b, ha, hb, e => by
    rw [List.map_cons, List.nodup_cons] at n
    rcases List.mem_cons.mp ha with h1 | h1 <;> rcases List.mem_cons.mp hb with h2 | h2
    · rw [h1, h2]
    · exact absurd (List.mem_map.mpr ⟨b, h2, by rw [← e, h1]⟩) n.1
    · exact absurd (List.mem_map.mpr ⟨a, h1, by rw [e, h2]⟩) n.1
    · exact nodup_at n.2 h1 h2 e
theorem lamAt_of {x : Str} {st : Stmt} {fd : FuncData} (i : Nat) (F : Fun K x x st (He.fAd K (x, none)) fd) (TB : ∀ p ∈ tf.map (He.cT K), LamX.TabB base mg p.1 p.2) (nd : nodB tf K = true) (hi : tf[i]? = some (x, none) := by rfl) : LamAt base mg (tabsT K tf) fd.code (locs x) := by
  obtain ⟨⟨oc, od, kV, doc, pm, an, cdv, ct, osl, e0, lk, hcd⟩, kp⟩ := F
  subst e0
  obtain ⟨c, rfl⟩ := He.codeIn_ref hcd
  have hm : (x, none) ∈ tf := List.mem_of_getElem? hi
  have e : He.codeOf K (x, none) = c := He.codeOf_eq lk rfl
  have t1 := TB _ (List.mem_map.mpr ⟨_, hm, rfl⟩)
  have e2 : (He.cT K (x, none)).1 = c := e
  rw [e2] at t1
  refine ⟨c, _, rfl, t1, List.mem_map.mpr ⟨_, hm, rfl⟩, fun p hp hq => ?_⟩
  obtain ⟨q, hq1, rfl⟩ := List.mem_map.mp hp
  have := nodup_at (of_decide_eq_true nd) hq1 hm hq
  rw [this]
theorem defAtC_of {Q : PySem.W.Frag → Prop} (X : K.In h) (G : h.Ns mainGlobals mg) (c : SaysX d K) {x : Str} {st : Stmt} {ps : List Str} (i j l : Nat) (TB : ∀ p ∈ tf.map (He.cT K), LamX.TabB base mg p.1 p.2) (nd : nodB tf K = true) (hb : BindB st x x ps) (h1 : d.fn[i]? = some (defD x st) := by rfl) (h2 : d.fa[j]? = some (.glo x) := by rfl) (hl : tf[l]? = some (x, none) := by rfl) : DefAtC K mg base (tabsT K tf) x st ps := by
  obtain ⟨fd, F⟩ := c.def_ i h1
  have F' := fun_of (x := x) (q := x) (st := st) F
  exact ⟨_, fd, F', He.glo_ok X G (c.fact j h2), F'.binds hb, lamAt_of l F' TB nd hl⟩
end
end Dl

set_option maxRecDepth 100000
set_option maxHeartbeats 4000000
/-! # xs.append(ys.pop(i)) -/
namespace Dl
open PySem PySem.Spec PyProof.Rows L2
theorem Reps.erase {K : PySem.W.Frag} {U : Pu} {H : Hp} : ∀ {ds : List D} {vs : List V} (k : Nat), Reps K U H ds vs → Reps K U H (ds.eraseIdx k) (vs.eraseIdx k)
  | [], vs, k, h => by rw [show vs = [] from h]; exact rfl
  | d :: ds, vs, 0, h => by
    obtain ⟨v, r, rfl, _, h3⟩ := h
    exact h3
  | d :: ds, vs, k + 1, h => by
    obtain ⟨v, r, rfl, h2, h3⟩ := h
    exact ⟨v, r.eraseIdx k, rfl, h2, Reps.erase k h3⟩
section
variable {X : Cx} {U : Pu} {lv : Nat} {T : XD} {c : Ct X U lv T} {δ : List (Option D)} {E : SE} {pos : Pos} {e : Expr}
theorem WS_appPop (i j : Nat) {x y : Str} {xs ys : List D} {p p' apos cpos apos' cpos' : Pos} (hi : δ[i]? = some (some (.own xs))) (hj : δ[j]? = some (some (.own ys))) (hij : i ≠ j)
    (h : WE c e δ fun d => ∃ (n : Int) (k : Nat) (z : D), d = .int n ∧ -(2 ^ 63) ≤ n ∧ n < 2 ^ 63 ∧ seqIndex? n ys.length = some k ∧ ys[k]? = some z ∧ xs.length < sizeLine ∧ E.nx ((δ.set j (some (.own (ys.eraseIdx k)))).set i (some (.own (xs ++ [z])))))
    (hN : X.N[i]? = some x) (hv : Vis X.env.scope x) (hd : (x == ("__debug__" : Str)) = false) (hcd : (x == ("__classdict__" : Str)) = false) (hN' : X.N[j]? = some y) (hv' : Vis X.env.scope y) (hd' : (y == ("__debug__" : Str)) = false) (hcd' : (y == ("__classdict__" : Str)) = false)
    (hs : swapsWith (.Call (.Attribute (.Name x p) "append" apos) [.Call (.Attribute (.Name y p') "pop" apos') [e] [] cpos'] [] cpos) none pos.line X.env = pure false)
    (hbase : attributeBase (.Name x p) "append" X.env (eval (.Name x p) X.env) = eval (.Name x p) X.env := by rfl) (hbase' : attributeBase (.Name y p') "pop" X.env (eval (.Name y p') X.env) = eval (.Name y p') X.env := by rfl)
    (hfew' : ((backTo cpos' (starEach [e] X.env)).all (fun x => !x.1) && (backToKw cpos' (keywordEach [] X.env)).all (fun x => x.1.isSome) && decide (([e] : List Expr).length + ([] : List Keyword).length + (if ([] : List Keyword).isEmpty then 0 else 1) < 30)) = true := by rfl) (he' : starEach (e :: []) X.env = (false, eval e X.env) :: starEach [] X.env := by rfl)
    (hline : (apos.endLine == cpos.line) = true := by rfl) (hline' : (apos'.endLine == cpos'.line) = true := by rfl) :
    WS c (.Expr (.Call (.Attribute (.Name x p) "append" apos) [.Call (.Attribute (.Name y p') "pop" apos') [e] [] cpos'] [] cpos) pos) δ E := fun L σ H De N Cm => by
  obtain ⟨v, hσ, l, vs, rfl, hl, hlb, hH, r, z⟩ := N.rep i _ hi
  obtain ⟨v', hσ', l', vs', rfl, hl', hlb', hH', r', z'⟩ := N.rep j _ hj
  have hne : l ≠ l' := fun q => hij (N.sep i j xs ys l hi hj hσ (by rw [q]; exact hσ'))
  refine runS_of (ps_expr (pe_bm PySem.F.plainAttrs_list PySem.F.slot_list_append PySem.F.type_list_append mt_append (pe_var hN hv hd hcd)
    (pa_cons (pe_bm PySem.F.plainAttrs_list PySem.F.slot_list_pop PySem.F.type_list_pop mt_popAt (pe_var hN' hv' hd' hcd') (pa_cons pe_run pa_nil he') hbase' hfew' hline' he' rfl) pa_nil rfl) hbase rfl hline rfl rfl) hs) ?_
  refine ⟨.ref l, hσ, tyL hH, .ref l', hσ', tyL hH', ?_⟩
  refine h L σ H _ N fun w H1 d s1 r1 ⟨n, k, zd, e1, n0, n1, hk, hz, zz, kk⟩ => ?_
  subst e1
  have N1 := N.mono s1
  have ra := Reps.mono (hide_same s1.k) _ _ r
  have rb := Reps.mono (hide_same s1.k) _ _ r'
  obtain ⟨zv, hzv, rz⟩ := rb.get hz
  have len := rb.len
  have N2 := N1.change hj hσ' hl' hlb' (rb.erase k) (Nat.le_trans (List.length_eraseIdx_le ..) z')
  refine ⟨l', vs', n, k, zv, rfl, by rw [show w = .int n from r1], s1.at _ _ hH', n0, n1, by rw [← len]; exact hk, hzv, ?_⟩
  refine ⟨l, vs, zv, rfl, rfl, by rw [upd_ne hne]; exact s1.at _ _ hH, by rw [← r.len]; exact zz, ?_⟩
  have hi2 : (δ.set j (some (.own (ys.eraseIdx k))))[i]? = some (some (.own xs)) := by rw [List.getElem?_set_ne (Ne.symm hij)]; exact hi
  have hh : hide L (upd H1 l' (.lst (vs'.eraseIdx k))) = hide L H1 := hide_upd hl'
  exact Cm.nx L σ _ _ (N2.change hi2 hσ hl hlb (by rw [hh]; exact ra.app (Reps.one rz)) (by rw [List.length_append]; exact zz)) kk
end
def Rd.popD (xs ys : List D) (A : List D → List D → Prop) (d : D) : Prop := match d with
  | .int n => ∃ k z, (0 ≤ n ∧ n < 1000000) ∧ n.toNat = k ∧ ys[k]? = some z ∧ xs.length < sizeLine ∧ A (ys.eraseIdx k) (xs ++ [z])
  | _ => False
def Rd.appPop (i j : Nat) (a : RdE) : RdS := fun T δ E => Rd.ownP (sl δ i) fun xs => Rd.ownP (sl δ j) fun ys => a T δ (Rd.popD xs ys fun ys' xs' => fc (st (st δ j (some (.own ys'))) i (some (.own xs'))) E.nx)
theorem De.appPop {f : Fr} {e : Expr} {ta : RdE} {x y : Str} {p p' apos cpos apos' cpos' pos : Pos} (i j : Nat) (ha : ReE f e ta) (hij : i ≠ j := by decide) (hn : f.N[i]? = some x := by rfl) (hn' : f.N[j]? = some y := by rfl) (hv : visB f.sc x = true := by (try dsimp only [Fr.blk, Fr.lam]); decide +kernel) (hv' : visB f.sc y = true := by (try dsimp only [Fr.blk, Fr.lam]); decide +kernel)
    (hs : ∀ X : Cx, swapsWith (.Call (.Attribute (.Name x p) "append" apos) [.Call (.Attribute (.Name y p') "pop" apos') [e] [] cpos'] [] cpos) none pos.line X.env = pure false := by intro _; rfl)
    (hbase : ∀ X : Cx, attributeBase (.Name x p) "append" X.env (eval (.Name x p) X.env) = eval (.Name x p) X.env := by intro _; rfl) (hbase' : ∀ X : Cx, attributeBase (.Name y p') "pop" X.env (eval (.Name y p') X.env) = eval (.Name y p') X.env := by intro _; rfl)
    (hfew' : ∀ X : Cx, ((backTo cpos' (starEach [e] X.env)).all (fun x => !x.1) && (backToKw cpos' (keywordEach [] X.env)).all (fun x => x.1.isSome) && decide (([e] : List Expr).length + ([] : List Keyword).length + (if ([] : List Keyword).isEmpty then 0 else 1) < 30)) = true := by intro _; rfl) (he' : ∀ X : Cx, starEach (e :: []) X.env = (false, eval e X.env) :: starEach [] X.env := by intro _; rfl)
    (hline : (apos.endLine == cpos.line) = true := by rfl) (hline' : (apos'.endLine == cpos'.line) = true := by rfl) :
    ReS f (.Expr (.Call (.Attribute (.Name x p) "append" apos) [.Call (.Attribute (.Name y p') "pop" apos') [e] [] cpos'] [] cpos) pos) (Rd.appPop i j ta) := .mk fun {X T} c F δ E h => by
  obtain ⟨xs, hi, h⟩ := own_ok h
  obtain ⟨ys, hj, h⟩ := own_ok h
  refine WS_appPop i j hi hj hij ((ha c F δ _ h).mono fun d h1 => ?_) (by rw [F.n]; exact hn) (F.vis hv) (visB_ok hv).2.1 (visB_ok hv).2.2 (by rw [F.n]; exact hn') (F.vis hv') (visB_ok hv').2.1 (visB_ok hv').2.2 (hs X) (hbase X) (hbase' X) (hfew' X) (he' X) hline hline'
  cases d with
  | int n =>
    obtain ⟨k, z, ⟨n0, n1⟩, hk, hz, zz, kk⟩ := h1
    rw [fc_eq, st_eq, st_eq] at kk
    have hlt := (List.getElem?_eq_some_iff.mp hz).1
    refine ⟨n, k, z, rfl, by omega, by omega, ?_, hz, zz, kk⟩
    have e1 : seqIndex? n ys.length = some n.toNat := by simp [seqIndex?]; omega
    rw [e1, hk]
  | _ => exact h1.elim
/-! ### list(x) as a list of one's own -/
theorem WF_listOf {X : Cx} {U : Pu} {lv : Nat} {T : XD} {c : Ct X U lv T} {δ : List (Option D)} {S : List D → Prop} {e : Expr} {p pos : Pos} (hm : X.mg "list" = none) (hg : Gl X "list") (h : WE c e δ fun d => ∃ xs, Seq d xs ∧ S xs)
    (he : starEach (e :: []) X.env = (false, eval e X.env) :: starEach [] X.env) : WF c (.Call (.Name "list" p) [e] [] pos) δ S := fun L σ H Q N q =>
  runE_of (pe_callTy call_list_of hg hm bt_list (pa_cons pe_run pa_nil he) (by decide) (by decide) he rfl) (h L σ H _ N fun v H1 d s1 r1 ⟨xs, sx, z⟩ => by
    obtain ⟨a, vs, rfl, ha, ra, za⟩ := sx.rep r1
    exact ⟨a, vs, rfl, ha, fun l hl => q l _ vs xs (s1.trans (same_new hl)) (Same.free s1 (.of hl)) upd_same (Reps.mono (hide_cons (.of hl) (new_k hl)) _ _ ra) za z⟩)
def Rd.listF (a : RdE) : RdA := fun T δ S => a T δ (Rd.seqJD S)
theorem De.listF {f : Fr} {e : Expr} {ta : RdE} {p pos : Pos} (hb : Blt f.mg) (ha : ReE f e ta) (hg : glbB f.sc "list" = true := by (try dsimp only [Fr.blk, Fr.lam]); decide +kernel) (he : ∀ X : Cx, starEach (e :: []) X.env = (false, eval e X.env) :: starEach [] X.env := by intro _; rfl) : ReF f (.Call (.Name "list" p) [e] [] pos) (Rd.listF ta) := .mk fun {X T} c F δ S h =>
  WF_listOf (by rw [F.m]; exact hb.list) (F.gl hg) ((ha c F δ _ h).mono fun d k => by
    cases d with
    | tup xs => exact ⟨xs, .tup xs, k⟩
    | lst xs => exact ⟨xs, .lst xs, k⟩
    | own xs => exact ⟨xs, .own xs, k⟩
    | _ => exact k.elim) (he X)
end Dl

set_option maxRecDepth 100000
set_option maxHeartbeats 4000000
/-! # Ends over heads with tables; facts of exception classes -/
namespace Dl
open PySem PySem.Spec PyProof.Rows L2
abbrev veTail : List Value := [.type "ValueError", .type "Exception", .type "BaseException", .type "object"]
/-- an own class of exceptions without __init__ -/
def excRB (C : Str) (K : PySem.W.Frag) : Bool := PySem.W.excIn K (He.ga K C) veTail "ValueError.__new__" && (PySem.W.keepIn K (.ref (He.ga K C)) && (decide (PySem.W.subIn K (.ref (He.ga K C)) (.type "BaseException") = some true) && decide (PySem.W.typeIn K (.ref (He.ga K C)) = some (.type "type"))))
/-- what isinstance asks of it -/
def excCB (C : Str) (K : PySem.W.Frag) : Bool := He.eqO (PySem.W.findIn K (.ref (He.ga K C)) "__getattribute__") (some (some (.builtin "BaseException.__getattribute__"))) && (He.eqO (PySem.W.findIn K (.ref (He.ga K C)) "__getattr__") (some none) &&
  (PySem.W.hasDictIn K (He.ga K C) && (He.eqO (PySem.W.findIn K (.ref (He.ga K C)) "__class__") (some (some (.builtin "object.__class__"))) && (He.eqO (PySem.W.specialIn K (.builtin "object.__class__") "__get__") (some (some (.builtin "getset_descriptor.__get__"))) &&
  (decide (PySem.W.takesIn K (.builtin "object.__class__") = some true) && decide (PySem.W.mroIn K (He.ga K C) (.type "object") = some true))))))
def exmB (C D : Str) (b : Bool) (K : PySem.W.Frag) : Bool := decide (PySem.W.exmOne K (.ref (He.ga K C)) (.ref (He.ga K D)) = some b)
def kitTB (C : Str) (T : String) (b : Bool) (K : PySem.W.Frag) : Bool := decide (PySem.W.kitOne K (.ref (He.ga K C)) (.type T) = some b)
section
variable {K : PySem.W.Frag} {mg : Str → Option Value} {h : Heap} {d : Hd} {tf : List He.Defn} {w : World}
theorem excR_of (X : K.In h) (G : h.Ns mainGlobals mg) (c : SaysX d K) {C : Str} (i j : Nat) (h1 : d.ex[i]? = some (excRB C) := by rfl) (h2 : d.fa[j]? = some (.glo C) := by rfl) : ExR K mg C (He.ga K C) := by
  have z := c.ext i h1
  unfold excRB at z
  obtain ⟨z1, z⟩ := He.ba z
  obtain ⟨z2, z⟩ := He.ba z
  obtain ⟨z3, z4⟩ := He.ba z
  exact ⟨He.glo_ok X G (c.fact j h2), z1, z2, of_decide_eq_true z3, of_decide_eq_true z4⟩
theorem excC_of (c : SaysX d K) {C : Str} (i j : Nat) (h1 : d.ex[i]? = some (excRB C) := by rfl) (h2 : d.ex[j]? = some (excCB C) := by rfl) : ExcC K (He.ga K C) := by
  have z := c.ext i h1
  unfold excRB at z
  obtain ⟨_, z⟩ := He.ba z
  obtain ⟨_, z⟩ := He.ba z
  obtain ⟨z3, _⟩ := He.ba z
  have y := c.ext j h2
  unfold excCB at y
  obtain ⟨y1, y⟩ := He.ba y
  obtain ⟨y2, y⟩ := He.ba y
  obtain ⟨y3, y⟩ := He.ba y
  obtain ⟨y4, y⟩ := He.ba y
  obtain ⟨y5, y⟩ := He.ba y
  obtain ⟨y6, y7⟩ := He.ba y
  exact ⟨He.eqO_ok y1, He.eqO_ok y2, of_decide_eq_true z3, y3, He.eqO_ok y4, He.eqO_ok y5, of_decide_eq_true y6, of_decide_eq_true y7⟩
theorem exm_of (c : SaysX d K) {C D : Str} {b : Bool} (i : Nat) (h1 : d.ex[i]? = some (exmB C D b) := by rfl) : PySem.W.exmOne K (.ref (He.ga K C)) (.ref (He.ga K D)) = some b := of_decide_eq_true (c.ext i h1)
theorem kitT_of (c : SaysX d K) {C : Str} {T : String} {b : Bool} (i : Nat) (h1 : d.ex[i]? = some (kitTB C T b) := by rfl) : PySem.W.kitOne K (.ref (He.ga K C)) (.type T) = some b := of_decide_eq_true (c.ext i h1)
theorem SaysY.nod (c : SaysY d tf w h K) (i : Nat) (h1 : d.ex[i]? = some (nodB tf) := by rfl) : nodB tf K = true := c.x.ext i h1
theorem obsYG_eq {n : Nat} {g : Addr → Option Obj} {s : Shared} (h : ∀ a, g a = s.heap.get? a) : obsYG n d tf g = (hookY n d tf).obs s := He.obsX_eq h
/-- the law's promise at the head's heap -/
theorem lawY {l : PySem.W.OpenLaw} {k : Nat} {x : Str} {fa : Addr} {fd : FuncData} (X : K.In h) (c : SaysY d tf w h K) (hb : ∀ (s : Shared) (u : Value), BindsTo s fd ⟨[u], []⟩ [(x, u)])
    (hF : ∀ base : Heap, K.In base → base.Ns mainGlobals mg → (∀ p ∈ tf.map (He.cT K), LamX.TabB base mg p.1 p.2) → FnOk l.prog w K mg base L2.CX0 k fa fd [x] (spLaw (tabsT K tf) K)) : LamX.LawAtS l w K L2.CX0 k 63 x mg fa h := by
  refine ⟨fd, tf.map (He.cT K), spLaw (tabsT K tf) K, fun p hp => ?_, fun p hp => ?_, fun p hp => ?_, hb, fun H a ns hl _ hT hS => ⟨a, ns, rfl, hS, hl, fun p hp => ?_, fun _ => rfl⟩, hF⟩
  · obtain ⟨q, hq, rfl⟩ := List.mem_map.mp hp
    exact c.empty q hq
  · obtain ⟨q, hq, rfl⟩ := List.mem_map.mp hp
    exact c.out q hq
  · obtain ⟨q, hq, rfl⟩ := List.mem_map.mp hp
    exact PySem.W.codeHd_of_K X (c.hd q hq)
  · obtain ⟨q, hq, rfl⟩ := List.mem_map.mp hp
    exact LamX.TabS.nil (hT _ (List.mem_map.mpr ⟨q, hq, rfl⟩))
end
end Dl
namespace Dl
open PySem PySem.Spec PyProof.Rows L2
section
variable {P : Program} {w : World} {K : PySem.W.Frag} {mg : Str → Option Value} {base : Heap}
/-- a def that tells a word, of its body -/
theorem wrd_of {x w0 a : Str} {st : Stmt} {Ng : List Str} {Wd : Value → Str → Prop} (A : DefAt K mg x st [a]) (Sc : FnScope Ng [a] (defScope st)) (h0 : Ng[0]? = some a) (hv : Vis (defScope st) a) (hd : (a == ("__debug__" : Str)) = false) (hc : (a == ("__classdict__" : Str)) = false)
    (hG : ∀ (X : Cx) (q : Str) (g : Addr) (cdv : Value), X.prog = P → X.w = w → X.K = K → X.mg = mg → X.base = base → LamX.GivesTo X Ng x (defScope st) g cdv (defBody st) a q (TWord Wd w0)) : Wrd P w K mg base x Wd w0 := by
  obtain ⟨f, fd, F, hg, hb⟩ := A
  obtain ⟨⟨oc, od, kV, doc, pm, an, cdv, ct, osl, e0, lk, hcd⟩, kp⟩ := F
  subst e0
  exact ⟨f, a, defArgs st, defBody st, defScope st, .none, kV, doc, pm, cdv, ct, oc, an, od, osl, Ng, hg, kp, lk, hcd, hb, Sc, h0, hv, hd, hc, fun X q h1 h2 h3 h4 h5 => hG X q f cdv h1 h2 h3 h4 h5⟩
end
end Dl
namespace Dl
open PySem PySem.Spec PyProof.Rows L2
theorem lk2 {H : Hp} {a b : Addr} {o u : HO} (h1 : H a = some o) (h2 : H b = none) : upd H b u a = some o := (upd_ne (ne_of_none h1 h2)).trans h1
theorem idx_of {ys : List V} {y : V} {j : Nat} (h : ((ys.take j).all fun z => !eqV z y) = true) : ∀ (m : Nat) (z' : V), m < j → ys[m]? = some z' → eqV z' y = false := fun m z' hm e => by
  have h1 : z' ∈ ys.take j := List.mem_of_getElem? (i := m) (by rw [List.getElem?_take, if_pos hm]; exact e)
  have h2 := List.all_eq_true.mp h z' h1
  simpa using h2
end Dl

set_option maxRecDepth 100000
set_option maxHeartbeats 4000000
/-! # Defs that return a new list; x = xs.pop(i) -/
namespace Dl
open PySem PySem.Spec PyProof.Rows L2
abbrev NSpec := List D → (List D → Prop) → XD → Prop
def spDN (K : PySem.W.Frag) (U : Pu) (n : Nat) (sp : NSpec) : Sp := fun vs H Q E => ∃ (L : List Addr) (ds : List D) (S : List D → Prop) (T : XD), (ds.length = n ∧ U.G H) ∧ (∀ l ∈ L, MutAt H l) ∧ Reps K U (hide L H) ds vs ∧ sp ds S T ∧
  (∀ l H' us xs, Same U H H' → NoA H l → H' l = some (.lst us) → Reps K U (hide (l :: L) H') xs us → xs.length ≤ sizeLine → S xs → Q (.ref l) H') ∧ ∀ cls od fl H', Same U H H' → RepX K U (hide L H') od fl → T cls fl → E cls od H'
/-- x is a def that returns a new list -/
structure FnN (P : Program) (w : World) (K : PySem.W.Frag) (mg : Str → Option Value) (base : Heap) (U : Pu) (k : Nat) (x : Str) (n : Nat) (sp : NSpec) : Prop where
  ex : ∃ (f : Addr) (fd : FuncData) (ps : List Str), mg x = some (.ref f) ∧ PySem.W.keepIn K (.ref f) = true ∧ Binds K fd ps [] ∧ FnOk P w K mg base (L2.CX P w) k f fd ps (spDN K U n sp)
/-- .. as another one -/
abbrev NSpec.d (sp : NSpec) : DSpec := fun ds S T => sp ds (fun xs => S (.lst xs)) T
section
variable {P : Program} {w : World} {K : PySem.W.Frag} {mg : Str → Option Value} {base : Heap} {U : Pu}
theorem FnN.fn {k : Nat} {x : Str} {n : Nat} {sp : NSpec} (F : FnN P w K mg base U k x n sp) : Fn P w K mg base U k x n sp.d := by
  obtain ⟨f, fd, ps, h1, h2, h3, h4⟩ := F.ex
  refine ⟨f, fd, ps, h1, h2, h3, h4.imp fun vs H Q E ⟨L, ds, S, T, hn, hl, r, hs, q1, q2⟩ => ⟨L, ds, fun xs => S (.lst xs), T, hn, hl, r, hs, fun l H' us xs s nl hl' r' z k => ?_, q2⟩⟩
  have hL : l ∉ L := fun hm => by
    obtain ⟨o, m, e⟩ := hl l hm
    exact absurd rfl (nl.ne e (by cases o <;> first | rfl | cases m))
  exact q1 _ H' (.lst xs) s ⟨l, us, rfl, (hide_ne hL).trans hl', Reps.mono (hide_le fun b hb => List.mem_cons_of_mem _ hb) _ _ r', z⟩ k
end
section
variable {X : Cx} {U : Pu} {lv : Nat} {T : XD} {c : Ct X U lv T} {δ : List (Option D)} {e : Expr} {pos p : Pos}
/-- how arguments are handed on -/
def PassN (n : Nat) (sp : NSpec) (S : List D → Prop) (T : XD) (ds : List D) : Prop := ds.length = n ∧ ((stills ds = true ∧ sp ds S T) ∨ sp (ds.map D.frz) (fun xs => noLs xs = true ∧ S xs) (noLX T))
theorem WF_call {x : Str} {n k : Nat} {sp : NSpec} {S : List D → Prop} {es : List Expr} (F : FnN X.prog X.w X.K X.mg X.base U k x n sp) (h : WA c (e :: es) δ (PassN n sp S T)) (hk : k ≤ lv) (hg : Gl X x) (hd : (x == ("__debug__" : Str)) = false)
    (he : starEach (e :: es) X.env = (false, eval e X.env) :: starEach es X.env) (hpl : (backTo pos (starEach es X.env)).any (·.1) = false) : WF c (.Call (.Name x p) (e :: es) [] pos) δ S := fun L σ H Q N q => by
  obtain ⟨f, fd, ps, h1, h2, h3, h4⟩ := F.ex
  refine runE_of (pe_callS h4 (c.room.mono hk) hg h1 h2 h3 (fun σ => passAt c.tk σ) pa_run hd he hpl) (h L σ H _ N fun vs H1 ds s1 r1 ⟨hn, hsp⟩ => ?_)
  have ok1 := N.ok.mono s1
  rcases hsp with ⟨st, hsp⟩ | hsp
  · refine ⟨L, ds, S, T, ⟨hn, (N.ok.base.trans s1).g c.g⟩, ok1.lsts, r1.reps st, hsp, fun l H' us xs s nl hl r z k => q l H' us xs (s1.trans s) (Same.free s1 nl) hl r z k, fun cls od fl H' s r t => ⟨(N.ok.base.trans s1).trans s, fl, RepX.mono (hide_le N.ok.lb) r, t⟩⟩
  · refine ⟨[], ds.map D.frz, fun xs => noLs xs = true ∧ S xs, noLX T, ⟨by rw [List.length_map]; exact hn, (N.ok.base.trans s1).g c.g⟩, fun l hl => by simp at hl, by rw [hide_nil]; exact r1.frzs, hsp, fun l H' us xs s nl hl r z k => ?_, fun cls od fl H' s r t => ?_⟩
    · have hne : ∀ l' ∈ L, l' ≠ l := fun l' hm e => by
        obtain ⟨o, m, e'⟩ := ok1.lsts l' hm
        exact absurd rfl (nl.ne (e ▸ e') (by cases o <;> first | rfl | cases m))
      refine q l H' us xs (s1.trans s) (Same.free s1 nl) hl ?_ z k.2
      have hm : ∀ l' ∈ L, MutAt (hide [l] H') l' := fun l' hm => by
        obtain ⟨o, m, e'⟩ := (ok1.mono s).lsts l' hm
        exact ⟨o, m, (hide_ne (by simpa using hne l' hm)).trans e'⟩
      have r2 := Reps.noL hm _ _ k.1 r
      have e2 : hide L (hide [l] H') = hide (l :: L) H' := funext fun b => by
        unfold hide
        by_cases hb : b ∈ L
        · simp [hb]
        · by_cases hb2 : b = l
          · simp [hb2]
          · simp [hb, hb2]
      rw [e2] at r2
      exact r2
    · rw [hide_nil] at r
      refine ⟨(N.ok.base.trans s1).trans s, fl, ?_, t.2⟩
      have ok2 := ok1.mono s
      cases od with
      | none => cases fl with
        | none => exact r
        | some _ => exact r
      | some d => cases fl with
        | none => exact r
        | some z =>
          obtain ⟨ns, ds2⟩ := z
          obtain ⟨vs', g1, g2⟩ := r
          have hlb : ∀ l ∈ c.Lb, MutAt H' l := fun l hl => ok2.lsts l (ok2.lb l hl)
          refine ⟨vs', (hide_ne fun z => ?_).trans g1, Reps.noL hlb _ _ (t.1 _ _ rfl) g2⟩
          obtain ⟨o, m, g⟩ := hlb _ z
          rw [g1] at g
          cases g
          cases m
/-! ### bodies that return a new list -/
def WSN (c : Ct X U lv T) (sts : List Stmt) (δ : List (Option D)) (S : List D → Prop) : Prop := ∀ (L : List Addr) (σ : L2.St) (H : Hp) (D : Ends), En c L H σ δ →
  (∀ l H' us xs, Same U c.Hb H' → NoA c.Hb l → H' l = some (.lst us) → Reps X.K U (hide (l :: c.Lb) H') xs us → xs.length ≤ sizeLine → S xs → D.rt (.ref l) H') → runSs X sts D σ H
theorem WSN_ret {S : List D → Prop} (h : WF c e δ S) : WSN c [.Return (some e) pos] δ S := fun L σ H D N q =>
  runSs_of (pss_one (ps_ret pe_run)) (h L σ H _ N fun l H' us xs s nl hl r z k => q l H' us xs (N.ok.base.trans s) (Same.free N.ok.base nl) hl (Reps.mono (hide_le fun b hb => by
    rcases List.mem_cons.mp hb with rfl | hb
    · exact List.mem_cons_self ..
    · exact List.mem_cons_of_mem _ (N.ok.lb b hb)) _ _ r) z k)
theorem WSN_retv {S : List D → Prop} {x : Str} {i : Nat} {xs : List D} (hi : δ[i]? = some (some (.own xs))) (h : S xs) (hN : X.N[i]? = some x) (hv : Vis X.env.scope x) (hd : (x == ("__debug__" : Str)) = false) (hcd : (x == ("__classdict__" : Str)) = false) : WSN c [.Return (some (.Name x p)) pos] δ S := fun L σ H D N q =>
  runSs_of (pss_one (ps_ret (pe_var hN hv hd hcd))) (by
    obtain ⟨v, hσ, l, us, rfl, hl, hlb, hH, r, z⟩ := N.rep i _ hi
    refine ⟨.ref l, hσ, q l H us xs N.ok.base ?_ hH (Reps.mono (hide_le fun b hb => ?_) _ _ r) z h⟩
    · rcases N.ok.new l hl with g | g
      · exact absurd g hlb
      · exact g
    · rcases List.mem_cons.mp hb with rfl | hb
      · exact hl
      · exact N.ok.lb b hb)
theorem WSN_cons {S : List D → Prop} {st : Stmt} {rest : List Stmt} (h : WS c st δ { nx := fun δ' => WSN c rest δ' S, rt := fun _ => False }) : WSN c (st :: rest) δ S := fun L σ H D N q =>
  runSs_of (pss_cons ps_run pss_run) (h L σ H _ N ⟨fun L' σ' H' δ' N' k => k L' σ' H' D N' q, fun v H' d s r k => k.elim, fun L' σ' H' δ' N' k => k.elim, fun L' σ' H' δ' N' k => k.elim⟩)
end
/-! ### readings -/
abbrev RdN := XD → List (Option D) → (List D → Prop) → Prop
structure ReN (f : Fr) (sts : List Stmt) (t : RdN) : Prop where
  run : ∀ {X : Cx} {T : XD} (c : Ct X f.U f.lv T), f.X X → ∀ (δ : List (Option D)) (S : List D → Prop), t T δ S → WSN c sts δ S
namespace Rd
def nret (a : RdA) : RdN := fun T δ S => a T δ S
def nretv (i : Nat) : RdN := fun _ δ S => ownP (sl δ i) S
def nsq (a : RdS) (b : RdN) : RdN := fun T δ S => a T δ { nx := fun δ' => b T δ' S, rt := fun _ => False }
def calN : Bool → NSpec → (List D → Prop) → XD → List D → Prop
  | true, sp, S, T, ds => sp ds S T
  | false, sp, S, T, ds => sp (ds.map D.frz) (fun xs => noLs xs = true ∧ S xs) (noLX T)
def callN (sp : NSpec) (as : RdA) : RdA := fun T δ S => as T δ fun ds => calN (stills ds) sp S T ds
def popS (ys : List D) (A : List D → D → Prop) (d : D) : Prop := match d with
  | .int n => ∃ k z, (0 ≤ n ∧ n < 1000000) ∧ n.toNat = k ∧ ys[k]? = some z ∧ A (ys.eraseIdx k) z
  | _ => False
/-- x = ys.pop(a) -/
def setPop (i j : Nat) (a : RdE) : RdS := fun T δ E => ownP (sl δ j) fun ys => a T δ (popS ys fun ys' z => fc (st (st δ j (some (.own ys'))) i (some z)) E.nx)
end Rd
namespace De
section
variable {f : Fr} {e : Expr} {es : List Expr} {pos p : Pos} {x : Str} {tas : RdA} {tb : RdN} {st : Stmt} {sts : List Stmt} {t1 : RdS}
theorem nret (h : ReF f e tas) : ReN f [.Return (some e) pos] (Rd.nret tas) := .mk fun c F δ S k => WSN_ret (h c F δ S k)
theorem nretv (i : Nat) (hn : f.N[i]? = some x := by rfl) (hv : visB f.sc x = true := by (try dsimp only [Fr.blk, Fr.lam]); decide +kernel) : ReN f [.Return (some (.Name x p)) pos] (Rd.nretv i) := .mk fun c F δ S k => by
  obtain ⟨xs, hi, k⟩ := own_ok k
  exact WSN_retv hi k (by rw [F.n]; exact hn) (F.vis hv) (visB_ok hv).2.1 (visB_ok hv).2.2
theorem nsq (h1 : ReS f st t1) (h2 : ReN f sts tb) : ReN f (st :: sts) (Rd.nsq t1 tb) := .mk fun c F δ S k => WSN_cons (scons.WS_mono (E := { nx := fun _ => False, rt := fun _ => False }) (nx := fun δ' => tb _ δ' S) (h1 c F δ _ k) fun δ' k' => h2.run c F δ' S k')
theorem callN {n k : Nat} {sp : NSpec} (Fn' : FnN f.P f.w f.K f.mg f.base f.U k x n sp) (hs : ReA f (e :: es) tas) (hk : k ≤ f.lv := by (try dsimp only [Fr.blk, Fr.lam]); decide) (hn : (e :: es).length = n := by rfl) (hg : glbB f.sc x = true := by (try dsimp only [Fr.blk, Fr.lam]); decide +kernel)
    (he : ∀ X : Cx, starEach (e :: es) X.env = (false, eval e X.env) :: starEach es X.env := by intro _; rfl) (hpl : ∀ X : Cx, (backTo pos (starEach es X.env)).any (·.1) = false := by intro _; rfl) : ReF f (.Call (.Name x p) (e :: es) [] pos) (Rd.callN sp tas) := .mk fun {X T} c F δ S h =>
  WF_call (by rw [F.p, F.w, F.k, F.m, F.b]; exact Fn') ((hs c F δ _ h).mono fun ds h1 => ⟨h1.1.trans hn, by
    have h2 := h1.2
    cases q : stills ds with
    | true =>
      rw [q] at h2
      exact .inl ⟨rfl, h2⟩
    | false =>
      rw [q] at h2
      exact .inr h2⟩) hk (F.gl hg) (glbB_ok hg).2.1 (he X) (hpl X)
end
end De
def Okn (n : Nat) (t : RdN) (sp : NSpec) : Prop := ∀ (T : XD) (ds : List D) (S : List D → Prop), sp ds S T → fc (sD n ds) fun δ => t T δ S
section
variable {P : Program} {w : World} {K : PySem.W.Frag} {mg : Str → Option Value} {base : Heap} {U : Pu}
theorem fnN {x : Str} {st : Stmt} {N ps : List Str} {n k : Nat} {sp : NSpec} {t : RdN} (A : DefAt K mg x st ps) (Sc : FnScope N ps (defScope st)) (hn : ps.length = n) (hN : n ≤ N.length) (d : ReN ⟨P, w, K, mg, base, N, defScope st, .top, U, k⟩ (defBody st) t) (h : Okn N.length t sp) : FnN P w K mg base U (k + 1) x n sp := by
  obtain ⟨f, fd, F, hg, hb⟩ := A.ex
  refine ⟨f, fd, ps, hg, F.kp, hb, F.okX Sc (fun vs H Q E h => ?_) (fun cdv A outer s H vs Q E hr h0 => ?_)⟩
  · obtain ⟨L, ds, S, T, ⟨h1, _⟩, _, h2, _⟩ := h
    rw [← h2.len, h1, hn]
  · obtain ⟨L, ds, S, T, ⟨h1, hG⟩, hl, h2, h3, q1, q2⟩ := h0
    let c : Ct (cxOf (L2.CX P w) P w K mg base N x (defScope st) f cdv A outer s H E) U k T :=
      { Hb := H, Lb := L, g := hG, calm := rfl, nd := Sc.nd, room := hr, own := passes_of rfl, tk := (takes_of (E := E) rfl rfl rfl rfl).imp fun cls od σ H' ⟨s1, fl, r, t⟩ => q2 cls od fl H' s1 r t }
    have ok : Ok c L H := ⟨Same.refl H, fun l h => h, fun l h => .inl h, hl⟩
    refine ⟨_, pss_run, ?_⟩
    have hh := h T ds S h3
    rw [fc_eq, sD_eq N ds (by omega)] at hh
    exact d.run c ⟨rfl, rfl, rfl, rfl, rfl, rfl, rfl, fun x => rfl⟩ _ S hh L (L2.start N vs) H _ (start_en ok h2) fun l H' us xs s nl hl' r z k => q1 l H' us xs s nl hl' r z k
end
/-! ### x = ys.pop(a) -/
section
variable {X : Cx} {U : Pu} {lv : Nat} {T : XD} {c : Ct X U lv T} {δ : List (Option D)} {E : SE} {pos : Pos} {e : Expr}
theorem WS_setPop (i j : Nat) {x y : Str} {ys : List D} {p p' cpos' apos' : Pos} (hj : δ[j]? = some (some (.own ys)))
    (h : WE c e δ fun d => ∃ (n : Int) (k : Nat) (z : D), d = .int n ∧ -(2 ^ 63) ≤ n ∧ n < 2 ^ 63 ∧ seqIndex? n ys.length = some k ∧ ys[k]? = some z ∧ E.nx ((δ.set j (some (.own (ys.eraseIdx k)))).set i (some z)))
    (hN : X.N[i]? = some x) (hx : Loc X.env.scope x) (hf : X.fn x = true ∨ X.env.scope.names.lookup x = some .local) (hN' : X.N[j]? = some y) (hv' : Vis X.env.scope y) (hd' : (y == ("__debug__" : Str)) = false) (hcd' : (y == ("__classdict__" : Str)) = false)
    (hs : swapsWith (.Call (.Attribute (.Name y p') "pop" apos') [e] [] cpos') (some (.Name x p)) pos.line X.env = pure false)
    (hbase' : attributeBase (.Name y p') "pop" X.env (eval (.Name y p') X.env) = eval (.Name y p') X.env)
    (hfew' : ((backTo cpos' (starEach [e] X.env)).all (fun x => !x.1) && (backToKw cpos' (keywordEach [] X.env)).all (fun x => x.1.isSome) && decide (([e] : List Expr).length + ([] : List Keyword).length + (if ([] : List Keyword).isEmpty then 0 else 1) < 30)) = true) (he' : starEach (e :: []) X.env = (false, eval e X.env) :: starEach [] X.env)
    (hline' : (apos'.endLine == cpos'.line) = true) :
    WS c (.Assign [.Name x p] (.Call (.Attribute (.Name y p') "pop" apos') [e] [] cpos') pos) δ E := fun L σ H De N Cm => by
  obtain ⟨v', hσ', l', vs', rfl, hl', hlb', hH', r', z'⟩ := N.rep j _ hj
  refine runS_of (ps_set (i := i) c.nd hN hx (pe_bm PySem.F.plainAttrs_list PySem.F.slot_list_pop PySem.F.type_list_pop mt_popAt (pe_var hN' hv' hd' hcd') (pa_cons pe_run pa_nil he') hbase' hfew' hline' he' rfl) hs hf) ?_
  refine ⟨.ref l', hσ', tyL hH', ?_⟩
  refine h L σ H _ N fun w H1 d s1 r1 ⟨n, k, zd, e1, n0, n1, hk, hz, kk⟩ => ?_
  subst e1
  have N1 := N.mono s1
  have rb := Reps.mono (hide_same s1.k) _ _ r'
  obtain ⟨zv, hzv, rz⟩ := rb.get hz
  have len := rb.len
  have N2 := N1.change hj hσ' hl' hlb' (rb.erase k) (Nat.le_trans (List.length_eraseIdx_le ..) z')
  refine ⟨l', vs', n, k, zv, rfl, by rw [show w = .int n from r1], s1.at _ _ hH', n0, n1, by rw [← len]; exact hk, hzv, ?_⟩
  have hh : hide L (upd H1 l' (.lst (vs'.eraseIdx k))) = hide L H1 := hide_upd hl'
  exact Cm.nx L _ _ _ (N2.set (by rw [hh]; exact rz)) kk
end
theorem De.setPop {f : Fr} {e : Expr} {ta : RdE} {x y : Str} {p p' apos' cpos' pos : Pos} (i j : Nat) (ha : ReE f e ta) (hn : f.N[i]? = some x := by rfl) (hl : tgB f.z f.sc x = true := by (try dsimp only [Fr.blk, Fr.lam]); first | exact tgB_code (by decide +kernel) | decide +kernel) (hn' : f.N[j]? = some y := by rfl) (hv' : visB f.sc y = true := by (try dsimp only [Fr.blk, Fr.lam]); decide +kernel)
    (hs : ∀ X : Cx, swapsWith (.Call (.Attribute (.Name y p') "pop" apos') [e] [] cpos') (some (.Name x p)) pos.line X.env = pure false := by intro _; rfl)
    (hbase' : ∀ X : Cx, attributeBase (.Name y p') "pop" X.env (eval (.Name y p') X.env) = eval (.Name y p') X.env := by intro _; rfl)
    (hfew' : ∀ X : Cx, ((backTo cpos' (starEach [e] X.env)).all (fun x => !x.1) && (backToKw cpos' (keywordEach [] X.env)).all (fun x => x.1.isSome) && decide (([e] : List Expr).length + ([] : List Keyword).length + (if ([] : List Keyword).isEmpty then 0 else 1) < 30)) = true := by intro _; rfl) (he' : ∀ X : Cx, starEach (e :: []) X.env = (false, eval e X.env) :: starEach [] X.env := by intro _; rfl)
    (hline' : (apos'.endLine == cpos'.line) = true := by rfl) :
    ReS f (.Assign [.Name x p] (.Call (.Attribute (.Name y p') "pop" apos') [e] [] cpos') pos) (Rd.setPop i j ta) := .mk fun {X T} c F δ E h => by
  obtain ⟨ys, hj, h⟩ := own_ok h
  refine WS_setPop i j hj ((ha c F δ _ h).mono fun d h1 => ?_) (by rw [F.n]; exact hn) (F.loc (F.tl hl)) (F.fn hl) (by rw [F.n]; exact hn') (F.vis hv') (visB_ok hv').2.1 (visB_ok hv').2.2 (hs X) (hbase' X) (hfew' X) (he' X) hline'
  cases d with
  | int n =>
    obtain ⟨k, z, ⟨n0, n1⟩, hk, hz, kk⟩ := h1
    rw [fc_eq, st_eq, st_eq] at kk
    have hlt := (List.getElem?_eq_some_iff.mp hz).1
    refine ⟨n, k, z, rfl, by omega, by omega, ?_, hz, kk⟩
    have e1 : seqIndex? n ys.length = some n.toNat := by simp [seqIndex?]; omega
    rw [e1, hk]
  | _ => exact h1.elim
end Dl
namespace Dl
open PySem PySem.Spec PyProof.Rows L2
/-! ### tuple(range(..)), list(range(..)) -/
abbrev rgD (a b : Int) : List D := (List.range (b - a).toNat).map fun (k : Nat) => D.int (a + k)
theorem rg_reps {K : PySem.W.Frag} {U : Pu} {H : Hp} (a b : Int) : Reps K U H (rgD a b) (rgV a b) := by
  have e1 : rgD a b = ((List.range (b - a).toNat).map fun (k : Nat) => a + (k : Int)).map D.int := by
    unfold rgD
    rw [List.map_map]
    rfl
  have e2 : rgV a b = ((List.range (b - a).toNat).map fun (k : Nat) => a + (k : Int)).map V.int := by
    unfold rgV
    rw [List.map_map]
    rfl
  rw [e1, e2]
  exact Reps.of_ints _
section
variable {X : Cx} {U : Pu} {lv : Nat} {T : XD} {c : Ct X U lv T} {δ : List (Option D)} {e a b : Expr} {pos p p' pi : Pos}
theorem rg_ok {i j : Int} (h : i ≤ 1000000 ∧ -1000000 ≤ i ∧ j ≤ 1000000 ∧ -1000000 ≤ j) : RgOk i j := ⟨by omega, by omega, by omega, by omega, by omega⟩
theorem rg_len {i j : Int} (h : i ≤ 1000000 ∧ -1000000 ≤ i ∧ j ≤ 1000000 ∧ -1000000 ≤ j) : (rgD i j).length ≤ sizeLine := by
  rw [List.length_map, List.length_range, sizeLine_eq]
  omega
theorem WE_tupR1 {S : D → Prop} (hm : X.mg "tuple" = none) (hm' : X.mg "range" = none) (hg : Gl X "tuple") (hg' : Gl X "range") (h : WE c a δ fun d => ∃ n, d = .int n ∧ (n ≤ 1000000 ∧ -1000000 ≤ n) ∧ S (.tup (rgD 0 n)))
    (na : starEach [a] X.env = (false, eval a X.env) :: starEach [] X.env) (nb : starEach [(.Call (.Name "range" p') [a] [] pi : Expr)] X.env = (false, eval (.Call (.Name "range" p') [a] [] pi) X.env) :: starEach [] X.env) : WE c (.Call (.Name "tuple" pos) [.Call (.Name "range" p') [a] [] pi] [] p) δ S := fun L σ H Q N q =>
  runE_of (pe_tupRg c.calm hg hm (prg_1 hg' hm' pe_run na) nb) (h L σ H _ N fun v H1 d s1 r1 ⟨n, e, hn, k⟩ => by
    subst e
    obtain rfl : v = .int n := r1
    refine ⟨n, rfl, rg_ok (by omega), fun p hp => ?_⟩
    exact q _ _ _ (s1.trans (same_new hp)) ((N.ok.mono s1).tupNew (rg_reps 0 n) (rg_len (by omega)) hp) k)
theorem WF_lstR1 {S : List D → Prop} (hm : X.mg "list" = none) (hm' : X.mg "range" = none) (hg : Gl X "list") (hg' : Gl X "range") (h : WE c a δ fun d => ∃ n, d = .int n ∧ (n ≤ 1000000 ∧ -1000000 ≤ n) ∧ S (rgD 0 n))
    (na : starEach [a] X.env = (false, eval a X.env) :: starEach [] X.env) (nb : starEach [(.Call (.Name "range" p') [a] [] pi : Expr)] X.env = (false, eval (.Call (.Name "range" p') [a] [] pi) X.env) :: starEach [] X.env) : WF c (.Call (.Name "list" pos) [.Call (.Name "range" p') [a] [] pi] [] p) δ S := fun L σ H Q N q =>
  runE_of (pe_listRg c.calm hg hm (prg_1 hg' hm' pe_run na) nb) (h L σ H _ N fun v H1 d s1 r1 ⟨n, e, hn, k⟩ => by
    subst e
    obtain rfl : v = .int n := r1
    refine ⟨n, rfl, rg_ok (by omega), fun p hp => ?_⟩
    exact q p _ _ _ (s1.trans (same_new hp)) (Same.free s1 (.of hp)) upd_same (Reps.mono (hide_cons (.of hp) (new_k hp)) _ _ (rg_reps 0 n)) (rg_len (by omega)) k)
/-- xs[::-1] of a list -/
theorem WE_rev {S : D → Prop} {k : Nat} {p1 p2 p3 : Pos} (h : WE c e δ fun d => ∃ xs, IsL d xs ∧ S (.lst xs.reverse)) : WE c (.Subscript e (.Slice none none (some (.UnaryOp .USub (.Constant (.int 1) k p1) p2)) p3) pos) δ S := fun L σ H Q N q =>
  runE_of (pe_revL pe_run) (h L σ H _ N fun v H1 d s1 r1 ⟨xs, sx, z⟩ => by
    obtain ⟨a, vs, rfl, ha, ra, za⟩ := sx.rep r1
    exact ⟨a, vs, rfl, SqL.of ha, fun p hp => q _ _ _ (s1.trans (same_new hp)) ((N.ok.mono s1).lstNew ra.rev (by rw [List.length_reverse]; exact za) hp) z⟩)
end
namespace Rd
def rgI (A : Int → Prop) (d : D) : Prop := match d with
  | .int n => (n ≤ 1000000 ∧ -1000000 ≤ n) ∧ A n
  | _ => False
def tupR1 (a : RdE) : RdE := fun T δ S => a T δ (rgI fun n => S (.tup (rgD 0 n)))
def lstR1 (a : RdE) : RdA := fun T δ S => a T δ (rgI fun n => S (rgD 0 n))
def revD (S : D → Prop) (x : D) : Prop := match x with
  | .lst xs => S (.lst xs.reverse)
  | .own xs => S (.lst xs.reverse)
  | _ => False
def rev (a : RdE) : RdE := fun T δ S => a T δ (revD S)
end Rd
namespace De
section
variable {f : Fr} {a : Expr} {pos p p' pi : Pos} {ta : RdE}
theorem tupR1 (hb : Blt f.mg) (ha : ReE f a ta) (hg : glbB f.sc "tuple" = true := by (try dsimp only [Fr.blk, Fr.lam]); decide +kernel) (hg2 : glbB f.sc "range" = true := by (try dsimp only [Fr.blk, Fr.lam]); decide +kernel) (na : ∀ X : Cx, starEach [a] X.env = (false, eval a X.env) :: starEach [] X.env := by intro _; rfl)
    (nb : ∀ X : Cx, starEach [(.Call (.Name "range" p') [a] [] pi : Expr)] X.env = (false, eval (.Call (.Name "range" p') [a] [] pi) X.env) :: starEach [] X.env := by intro _; rfl) : ReE f (.Call (.Name "tuple" pos) [.Call (.Name "range" p') [a] [] pi] [] p) (Rd.tupR1 ta) := .mk fun {X T} c F δ S h =>
  WE_tupR1 (by rw [F.m]; exact hb.tuple) (by rw [F.m]; exact hb.range) (F.gl hg) (F.gl hg2) ((ha c F δ _ h).mono fun d k => by
    cases d with
    | int n => exact ⟨n, rfl, k.1, k.2⟩
    | _ => exact k.elim) (na X) (nb X)
theorem lstR1 (hb : Blt f.mg) (ha : ReE f a ta) (hg : glbB f.sc "list" = true := by (try dsimp only [Fr.blk, Fr.lam]); decide +kernel) (hg2 : glbB f.sc "range" = true := by (try dsimp only [Fr.blk, Fr.lam]); decide +kernel) (na : ∀ X : Cx, starEach [a] X.env = (false, eval a X.env) :: starEach [] X.env := by intro _; rfl)
    (nb : ∀ X : Cx, starEach [(.Call (.Name "range" p') [a] [] pi : Expr)] X.env = (false, eval (.Call (.Name "range" p') [a] [] pi) X.env) :: starEach [] X.env := by intro _; rfl) : ReF f (.Call (.Name "list" pos) [.Call (.Name "range" p') [a] [] pi] [] p) (Rd.lstR1 ta) := .mk fun {X T} c F δ S h =>
  WF_lstR1 (by rw [F.m]; exact hb.list) (by rw [F.m]; exact hb.range) (F.gl hg) (F.gl hg2) ((ha c F δ _ h).mono fun d k => by
    cases d with
    | int n => exact ⟨n, rfl, k.1, k.2⟩
    | _ => exact k.elim) (na X) (nb X)
theorem rev {k : Nat} {p1 p2 p3 : Pos} (ha : ReE f a ta) : ReE f (.Subscript a (.Slice none none (some (.UnaryOp .USub (.Constant (.int 1) k p1) p2)) p3) pos) (Rd.rev ta) := .mk fun {X T} c F δ S h => WE_rev ((ha c F δ _ h).mono fun d k => by
  cases d with
  | lst xs => exact ⟨xs, .lst xs, k⟩
  | own xs => exact ⟨xs, .own xs, k⟩
  | _ => exact k.elim)
end
end De
end Dl
namespace Dl
open PySem PySem.Spec PyProof.Rows L2
namespace Rd
/-- a, b = x, [..]: the second one a list of one's own -/
def par2EF (i j : Nat) (a : RdE) (b : RdA) : RdS := fun T δ E => a T δ fun d1 => stP d1 (b T δ fun es => fc (st (st δ i (some d1)) j (some (.own es))) E.nx)
def par2FE (i j : Nat) (a : RdA) (b : RdE) : RdS := fun T δ E => a T δ fun es => b T δ fun d1 => stP d1 (fc (st (st δ i (some (.own es))) j (some d1)) E.nx)
end Rd
namespace De
section
variable {f : Fr} {e a b : Expr} {pos p : Pos} {x y : Str} {ta tb : RdE} {fa fb : RdA} {px py pt : Pos} {kt k2 pt2}
theorem par2EF (i j : Nat) (ha : ReE f a ta) (hb : ReF f b fb) (hi : f.N[i]? = some x := by rfl) (hj : f.N[j]? = some y := by rfl) (hij : i ≠ j := by decide) (hx : f.sc.names.lookup x = some .local := by (try dsimp only [Fr.blk, Fr.lam]); decide +kernel) (hy : f.sc.names.lookup y = some .local := by (try dsimp only [Fr.blk, Fr.lam]); decide +kernel)
    (hw : swappedStores [.Tuple [.Name x px, .Name y py] kt pt] (.Tuple [a, b] k2 pt2) { scope := f.sc, locals := 0, globals := 0, cells := [] } = pure (some [x, y]) := by rfl)
    (hs : ∀ X : Cx, swapsWithSole [.Tuple [.Name x px, .Name y py] kt pt] (.Tuple [a, b] k2 pt2) pos.line X.env = pure false := by intro _; rfl) (s1 : ∀ X : Cx, starEach (a :: [b]) X.env = (false, eval a X.env) :: starEach [b] X.env := by intro _; rfl) (s2 : ∀ X : Cx, starEach (b :: []) X.env = (false, eval b X.env) :: starEach [] X.env := by intro _; rfl) :
    ReS f (.Assign [.Tuple [.Name x px, .Name y py] kt pt] (.Tuple [a, b] k2 pt2) pos) (Rd.par2EF i j ta fb) := .mk fun {X T} c F δ E h =>
  WS_par i j (WO_of ((ha c F δ _ h).mono fun d1 h1 => by
    obtain ⟨e1, h1⟩ := stP_ok h1
    exact ⟨e1, WO_new fun L σ H Q N q => hb c F δ _ h1 L σ H Q N fun l H' vs ds s g1 g2 g3 g4 g5 => q l H' vs ds s g1 g2 g3 g4 (by rw [fc_eq, st_eq, st_eq] at g5; exact g5)⟩)) (by rw [F.n]; exact hi) (by rw [F.n]; exact hj) hij (by rw [F.s]; exact hx) (by rw [F.s]; exact hy) (swapped_at F.s _ _ hw) (hs X) (s1 X) (s2 X)
theorem par2FE (i j : Nat) (ha : ReF f a fa) (hb : ReE f b tb) (hi : f.N[i]? = some x := by rfl) (hj : f.N[j]? = some y := by rfl) (hij : i ≠ j := by decide) (hx : f.sc.names.lookup x = some .local := by (try dsimp only [Fr.blk, Fr.lam]); decide +kernel) (hy : f.sc.names.lookup y = some .local := by (try dsimp only [Fr.blk, Fr.lam]); decide +kernel)
    (hw : swappedStores [.Tuple [.Name x px, .Name y py] kt pt] (.Tuple [a, b] k2 pt2) { scope := f.sc, locals := 0, globals := 0, cells := [] } = pure (some [x, y]) := by rfl)
    (hs : ∀ X : Cx, swapsWithSole [.Tuple [.Name x px, .Name y py] kt pt] (.Tuple [a, b] k2 pt2) pos.line X.env = pure false := by intro _; rfl) (s1 : ∀ X : Cx, starEach (a :: [b]) X.env = (false, eval a X.env) :: starEach [b] X.env := by intro _; rfl) (s2 : ∀ X : Cx, starEach (b :: []) X.env = (false, eval b X.env) :: starEach [] X.env := by intro _; rfl) :
    ReS f (.Assign [.Tuple [.Name x px, .Name y py] kt pt] (.Tuple [a, b] k2 pt2) pos) (Rd.par2FE i j fa tb) := .mk fun {X T} c F δ E h =>
  WS_par i j (WO_new fun L σ H Q N q => ha c F δ _ h L σ H Q N fun l H' vs ds s g1 g2 g3 g4 g5 => q l H' vs ds s g1 g2 g3 g4 (WO_of ((hb c F δ _ g5).mono fun d1 h1 => by
    obtain ⟨e1, h1⟩ := stP_ok h1
    rw [fc_eq, st_eq, st_eq] at h1
    exact ⟨e1, h1⟩))) (by rw [F.n]; exact hi) (by rw [F.n]; exact hj) hij (by rw [F.s]; exact hx) (by rw [F.s]; exact hy) (swapped_at F.s _ _ hw) (hs X) (s1 X) (s2 X)
end
end De
end Dl
namespace Dl
open PySem PySem.Spec PyProof.Rows L2
section
variable {X : Cx} {U : Pu} {lv : Nat} {T : XD} {c : Ct X U lv T} {δ : List (Option D)} {e a b : Expr} {pos p : Pos}
/-- [..] * n, a new list -/
theorem WF_rep {S : List D → Prop} (h : WE c a δ fun x => WE c b δ fun y => ∃ xs n, IsL x xs ∧ y = .int n ∧ -(2 ^ 63) ≤ n ∧ n < 2 ^ 63 ∧ xs.length * n.toNat ≤ sizeLine ∧ S (List.replicate n.toNat xs).flatten) : WF c (.BinOp a .Mult b pos) δ S := fun L σ H Q N q =>
  runE_of (pe_op op_rep pe_run pe_run) (h L σ H _ N fun v H1 x s1 r1 h1 => h1 L σ H1 _ (N.mono s1) fun u H2 y s2 r2 ⟨xs, n, sx, e, n0, n1, hz, k⟩ => by
    subst e
    obtain ⟨a', vs, rfl, ha, ra, za⟩ := sx.rep (r1.mono s2)
    refine ⟨a', n, vs, rfl, r2, ha, n0, n1, by rw [← ra.len]; exact hz, fun p hp => ?_⟩
    exact q p _ _ _ ((s1.trans s2).trans (same_new hp)) (Same.free (s1.trans s2) (.of hp)) upd_same (Reps.mono (hide_cons (.of hp) (new_k hp)) _ _ (ra.flat _)) (by rw [flat_len]; exact hz) k)
end
namespace Rd
def repF' (xs : List D) (A : List D → Prop) (y : D) : Prop := match y with
  | .int n => (-1000000 ≤ n ∧ n ≤ 1000000 ∧ xs.length ≤ 1) ∧ A (repT n.toNat xs)
  | _ => False
def repFx (T : RdE) (X : XD) (δ : List (Option D)) (A : List D → Prop) (x : D) : Prop := match x with
  | .lst xs => T X δ (repF' xs A)
  | _ => False
/-- [x] * n as a list of one's own -/
def repF (a b : RdE) : RdA := fun T δ S => a T δ (repFx b T δ S)
end Rd
theorem De.repF {f : Fr} {a b : Expr} {ta tb : RdE} {pos : Pos} (ha : ReE f a ta) (hb : ReE f b tb) : ReF f (.BinOp a .Mult b pos) (Rd.repF ta tb) := .mk fun {X T} c F δ S h => WF_rep ((ha c F δ _ h).mono fun x h1 => by
  cases x with
  | lst xs =>
    refine (hb c F δ _ h1).mono fun y h2 => ?_
    cases y with
    | int n =>
      obtain ⟨⟨n0, n1, hl⟩, k⟩ := h2
      rw [repT_eq] at k
      refine ⟨xs, n, .lst xs, rfl, by omega, by omega, ?_, k⟩
      have : xs.length * n.toNat ≤ 1 * 1000000 := Nat.mul_le_mul hl (by omega)
      rw [sizeLine_eq]
      omega
    | _ => exact h2.elim
  | _ => exact h1.elim)
end Dl
namespace Dl
open PySem PySem.Spec PyProof.Rows L2
theorem pys_any (x : D) (n m : Nat) (fx : fit n x = true) : ∀ ys : List D, fits m ys = true → ((pys ys).any fun z => PyData.eqv z x.py) = ys.any fun e => e.eqv x
  | [], _ => by simp [pys]
  | y :: ys, h => by
    simp only [fits, Bool.and_eq_true] at h
    simp only [pys, List.any_cons]
    rw [pys_any x n m fx ys h.2, eqv_py m n y x h.1 fx]
section
variable {X : Cx} {U : Pu} {lv : Nat} {T : XD} {c : Ct X U lv T} {S : D → Prop}
theorem units65 (c : Ct X U lv T) : X.A.units + 65 < cLine := by have := c.room.un; omega
/-- x in ys, data of any depth -/
theorem OD_inD {x y : D} {ys : List D} (sy : IsL y ys) (fx : fit 64 x = true) (fy : fit 64 y = true) (h : S (.bl (ys.any fun e => e.eqv x))) : OD c (compareOp .In) x y S := od_of (op_inD (units65 c)) fun L H vx vy Q k rx ry q => by
  have hy := ry.dp fy
  have e : y.py = .list (pys ys) ∧ fits 63 ys = true := by
    cases sy with
    | lst ys => exact ⟨by simp [D.py], by simpa [fit] using fy⟩
    | own ys => exact ⟨by simp [D.py], by simpa [fit] using fy⟩
  have sh := fit_shaped fy
  rw [e.1] at hy sh
  refine ⟨x.py, pys ys, rx.dp fx, hy, fit_shaped fx, sh, ?_⟩
  rw [pys_any x 64 63 fx ys e.2]
  exact q _ H (.bl _) (Same.refl H) rfl h
theorem OD_ninD {x y : D} {ys : List D} (sy : IsL y ys) (fx : fit 64 x = true) (fy : fit 64 y = true) (h : S (.bl (!ys.any fun e => e.eqv x))) : OD c (compareOp .NotIn) x y S := od_of (op_notInD (units65 c)) fun L H vx vy Q k rx ry q => by
  have hy := ry.dp fy
  have e : y.py = .list (pys ys) ∧ fits 63 ys = true := by
    cases sy with
    | lst ys => exact ⟨by simp [D.py], by simpa [fit] using fy⟩
    | own ys => exact ⟨by simp [D.py], by simpa [fit] using fy⟩
  have sh := fit_shaped fy
  rw [e.1] at hy sh
  refine ⟨x.py, pys ys, rx.dp fx, hy, fit_shaped fx, sh, ?_⟩
  rw [pys_any x 64 63 fx ys e.2]
  exact q _ H (.bl _) (Same.refl H) rfl h
end
namespace Op
def isinD : RdOp := fun _ x y S => match y with
  | .lst ys => (fit 64 x = true ∧ fit 64 (.lst ys) = true) ∧ S (.bl (ys.any fun e => e.eqv x))
  | .own ys => (fit 64 x = true ∧ fit 64 (.own ys) = true) ∧ S (.bl (ys.any fun e => e.eqv x))
  | _ => False
def ninD : RdOp := fun _ x y S => match y with
  | .lst ys => (fit 64 x = true ∧ fit 64 (.lst ys) = true) ∧ S (.bl (!ys.any fun e => e.eqv x))
  | .own ys => (fit 64 x = true ∧ fit 64 (.own ys) = true) ∧ S (.bl (!ys.any fun e => e.eqv x))
  | _ => False
end Op
theorem De.o_isinD {f : Fr} : OpAt f (compareOp .In) Op.isinD := fun {X T} c _ {S x y} h => by
  unfold Op.isinD at h
  split at h
  · exact OD_inD (.lst _) h.1.1 h.1.2 h.2
  · exact OD_inD (.own _) h.1.1 h.1.2 h.2
  · exact h.elim
theorem De.o_ninD {f : Fr} : OpAt f (compareOp .NotIn) Op.ninD := fun {X T} c _ {S x y} h => by
  unfold Op.ninD at h
  split at h
  · exact OD_ninD (.lst _) h.1.1 h.1.2 h.2
  · exact OD_ninD (.own _) h.1.1 h.1.2 h.2
  · exact h.elim
/-- ahead of this statement all lists cease to be one's own: x = xs -/
def Rd.frzS (t : RdS) : RdS := fun T δ E => fc (fz δ) fun δ' => t T δ' E
theorem De.frzS {f : Fr} {st : Stmt} {t : RdS} (h : ReS f st t) : ReS f st (Rd.frzS t) := .mk fun c F δ E k => fun L σ H D N C => h c F _ E (by
  have k : fc (fz δ) fun δ' => t _ δ' E := k
  rw [fc_eq, fz_eq] at k
  exact k) c.Lb σ H D N.frz C
/-! xs = [.. for ..] where xs is a cell (a name that a comprehension uses) -/
theorem sw_cell {elt : Expr} {gs : List Comprehension} {scope : Scope} {pos py : Pos} {y : Str} {l : Nat} {env : Env} (hy : (env.scope.names.lookup y == some .local) = false) : swapsWith (.ListComp elt gs scope pos) (some (.Name y py)) l env = pure false := by
  unfold swapsWith Env.kindOf
  simp [hy]
section
variable {f : Fr} {x : Str} {ta : RdE} {elt : Expr} {gs : List Comprehension} {scope : Scope} {p p' pos : Pos}
theorem De.setC (i : Nat) (ha : ReE f (.ListComp elt gs scope p) ta) (hn : f.N[i]? = some x := by rfl) (hl : tgB f.z f.sc x = true := by (try dsimp only [Fr.blk, Fr.lam]); first | exact tgB_code (by decide +kernel) | decide +kernel) (hc : (f.sc.names.lookup x == some .local) = false := by (try dsimp only [Fr.blk, Fr.lam]); decide +kernel) : ReS f (.Assign [.Name x p'] (.ListComp elt gs scope p) pos) (Rd.set i ta) := .mk fun {X T} c F δ E h =>
  WS_set i (WO_of ((ha c F δ _ h).mono fun d h1 => by
    rw [fc_eq, st_eq] at h1
    exact stP_ok h1)) (by rw [F.n]; exact hn) (F.loc (F.tl hl)) (sw_cell (by rw [F.s]; exact hc)) (F.fn hl)
theorem De.setFC {tf : RdA} (i : Nat) (ha : ReF f (.ListComp elt gs scope p) tf) (hn : f.N[i]? = some x := by rfl) (hl : tgB f.z f.sc x = true := by (try dsimp only [Fr.blk, Fr.lam]); first | exact tgB_code (by decide +kernel) | decide +kernel) (hc : (f.sc.names.lookup x == some .local) = false := by (try dsimp only [Fr.blk, Fr.lam]); decide +kernel) : ReS f (.Assign [.Name x p'] (.ListComp elt gs scope p) pos) (Rd.setF i tf) := .mk fun {X T} c F δ E h =>
  WS_set i (WO_new (fun L σ H Q N q => ha c F δ _ h L σ H Q N fun l H' vs ds s h1 h2 h3 h4 h5 => q l H' vs ds s h1 h2 h3 h4 (by rw [fc_eq, st_eq] at h5; exact h5))) (by rw [F.n]; exact hn) (F.loc (F.tl hl)) (sw_cell (by rw [F.s]; exact hc)) (F.fn hl)
end
end Dl

set_option maxRecDepth 100000
set_option maxHeartbeats 4000000
/-! # Texts; x in a tuple of deep data -/
namespace Dl
open PySem PySem.Spec PyProof.Rows L2
/-! ### x in ys, ys a tuple -/
def rInT (K : PySem.W.Frag) : R2 := fun x y H Q => ∃ d ds, Dp K H x d ∧ Dp K H y (.tuple ds) ∧ SeqAt.shaped d = true ∧ SeqAt.shaped (.tuple ds) = true ∧ Q (.bl (ds.any fun z => PyData.eqv z d)) H
theorem room_inT {X : Cx} {d : PyData} {ds : List PyData} (h : SeqAt.shaped d = true) (hu : X.A.units + 65 < cLine) : X.A.units + 1 + min (PyData.depthAll ds) d.depth < cLine := room_in_shaped h hu
theorem op_inT {X : Cx} (hu : X.A.units + 65 < cLine) : OpR X (compareOp .In) (rInT X.K) := fun pins s σ H x y v u Q I rx ry h => by
  obtain ⟨d, ds, hd, he, sd, se, q⟩ := h
  obtain ⟨as, r1⟩ := Dp.reads I d x v hd rx
  obtain ⟨bs, r2⟩ := Dp.reads I (.tuple ds) y u he ry
  exact SeqAt.in_tuple_reads r2 r1 (SeqAt.canLay_of_shaped se) (SeqAt.canLay_of_shaped sd) (room_inT sd hu) ⟨.bl _, H, I, rfl, q⟩
/-! ### s * n -/
def repS (n : Int) (x : Str) : Str := if n < 1 then Str.empty else if (n == 1 || x.length == 0) = true then x else ⟨(List.replicate n.toNat x.cps).foldl (· ++ ·) #[]⟩
theorem size_fold {α : Type} (a : Array α) : ∀ (k : Nat) (b : Array α), ((List.replicate k a).foldl (· ++ ·) b).size = b.size + k * a.size
  | 0, b => by simp
  | k + 1, b => by
    rw [List.replicate_succ, List.foldl_cons, size_fold a k, Array.size_append, Nat.succ_mul]
    omega
theorem op_mulS {X : Cx} : OpR X (binaryOp .Mult) (fun x y H Q => ∃ z n, x = .str z ∧ y = .int n ∧ -1000 ≤ n ∧ n ≤ 1000 ∧ z.length ≤ 1000 ∧ Q (.str (repS n z)) H) := fun pins s σ H x y v u Q I rx ry h => by
  obtain ⟨z, n, rfl, rfl, h0, h1, hz, q⟩ := h
  obtain ⟨t, rfl⟩ := rx
  obtain ⟨t', rfl⟩ := ry
  have l1 : (decide (n < -(2 ^ 63 : Int)) || decide (n ≥ 2 ^ 63)) = false := by
    rw [decide_eq_false (by omega), decide_eq_false (by omega)]
    rfl
  refine P.mul_str l1 (fun h _ z => ?_) (fun h _ => ?_) ?_
  · have h2 : (2 ^ 63 - 1 : Int) / n ≥ 1001 := by
      refine Int.le_ediv_of_mul_le (by omega) ?_
      have : (1001 : Int) * n ≤ 1001 * 1000 := Int.mul_le_mul_of_nonneg_left h1 (by omega)
      omega
    omega
  · have h3 : z.length * n.toNat ≤ 1000 * 1000 := Nat.mul_le_mul hz (by omega)
    have h4 := sizeLine_eq
    unfold Builtin.Str.tooLong
    simp
    omega
  · unfold repS at q
    split
    · rename_i g
      rw [if_pos g] at q
      exact ⟨by decide, ⟨.str _, H, I.tok _, ⟨_, rfl⟩, q⟩⟩
    · rename_i g
      rw [if_neg g] at q
      split
      · rename_i g2
        rw [if_pos g2] at q
        exact ⟨.str z, H, I, ⟨_, rfl⟩, q⟩
      · rename_i g2
        rw [if_neg g2] at q
        refine ⟨?_, ⟨.str _, H, I.tok _, ⟨_, rfl⟩, q⟩⟩
        have h4 := sizeLine_eq
        have h5 := size_fold z.cps n.toNat #[]
        have h6 : n.toNat * z.cps.size ≤ 1000 * 1000 := Nat.mul_le_mul (by omega) hz
        show ((List.replicate n.toNat z.cps).foldl (· ++ ·) #[]).size ≤ sizeLine
        rw [h5]
        simp
        omega
section
variable {X : Cx} {U : Pu} {lv : Nat} {T : XD} {c : Ct X U lv T} {S : D → Prop}
theorem OD_inT {x : D} {ys : List D} (fx : fit 64 x = true) (fy : fit 64 (.tup ys) = true) (h : S (.bl (ys.any fun e => e.eqv x))) : OD c (compareOp .In) x (.tup ys) S := od_of (op_inT (units65 c)) fun L H vx vy Q k rx ry q => by
  have hy := ry.dp fy
  have e : (D.tup ys).py = .tuple (pys ys) ∧ fits 63 ys = true := ⟨by simp [D.py], by simpa [fit] using fy⟩
  have sh := fit_shaped fy
  rw [e.1] at hy sh
  refine ⟨x.py, pys ys, rx.dp fx, hy, fit_shaped fx, sh, ?_⟩
  rw [pys_any x 64 63 fx ys e.2]
  exact q _ H (.bl _) (Same.refl H) rfl h
theorem OD_inS {a b : Str} (h : S (.bl (!(Builtin.Str.occurrences b a 0 b.length 1).isEmpty))) : OD c (compareOp .In) (.str a) (.str b) S := od_of op_in_str fun L H vx vy Q k rx ry q => ⟨a, b, rx, ry, q _ H (.bl _) (Same.refl H) rfl h⟩
theorem OD_mulS {z : Str} {n : Int} (h0 : -1000 ≤ n ∧ n ≤ 1000 ∧ z.length ≤ 1000) (h : S (.str (repS n z))) : OD c (binaryOp .Mult) (.str z) (.int n) S := od_of op_mulS fun L H vx vy Q k rx ry q => ⟨z, n, rx, ry, h0.1, h0.2.1, h0.2.2, q _ H (.str _) (Same.refl H) rfl h⟩
end
namespace Op
def isinT : RdOp := fun _ x y S => match y with
  | .tup ys => (fit 64 x = true ∧ fit 64 (.tup ys) = true) ∧ S (.bl (ys.any fun e => e.eqv x))
  | _ => False
def isinS : RdOp := fun _ x y S => match x, y with
  | .str a, .str b => S (.bl (!(Builtin.Str.occurrences b a 0 b.length 1).isEmpty))
  | _, _ => False
def mulS : RdOp := fun _ x y S => match x, y with
  | .str z, .int n => (-1000 ≤ n ∧ n ≤ 1000 ∧ z.length ≤ 1000) ∧ S (.str (repS n z))
  | _, _ => False
end Op
theorem De.o_isinT {f : Fr} : OpAt f (compareOp .In) Op.isinT := fun {X T} c _ {S x y} h => by
  unfold Op.isinT at h
  split at h
  · exact OD_inT h.1.1 h.1.2 h.2
  · exact h.elim
theorem De.o_isinS {f : Fr} : OpAt f (compareOp .In) Op.isinS := fun {X T} c _ {S x y} h => by
  unfold Op.isinS at h
  split at h
  · exact OD_inS h
  · exact h.elim
theorem De.o_mulS {f : Fr} : OpAt f (binaryOp .Mult) Op.mulS := fun {X T} c _ {S x y} h => by
  unfold Op.mulS at h
  split at h
  · exact OD_mulS h.1 h.2
  · exact h.elim
/-! ### the signs of a text -/
def chD (z : Str) : List D := z.cps.toList.map fun k => D.str ⟨#[k]⟩
theorem chD_len (z : Str) : (chD z).length = z.cps.size := by simp [chD]
theorem walk_s {K : PySem.W.Frag} {U : Pu} {L : List Addr} {H B : Hp} {z : Str} (hz : z.length ≤ sizeLine) : Walk K U L H B (Its z) (chD z) :=
  ⟨by rw [chD_len]; exact hz, fun i H2 e hi => by rw [chD_len] at hi; exact hi, fun H2 e => by rw [chD_len]; exact Nat.le_refl _, fun i x H2 H3 e hi y => by
    obtain ⟨rfl, k, h1, rfl⟩ := y
    refine ⟨Ext.refl _, .str ⟨#[k]⟩, ?_, rfl, fun L' _ s => rfl⟩
    unfold chD
    rw [List.getElem?_map, Array.getElem?_toList, h1]
    rfl⟩
/-- a text at the value: its signs, numbered -/
def IteS (x : Str) : It :=
  ⟨fun i _ => i < x.cps.size, fun i H r H' => ∃ T k, r = .ref T ∧ H T = none ∧ H' = upd H T (.tup [.int (i : Nat), .str ⟨#[k]⟩]) ∧ x.cps[i]? = some k, fun i _ => x.cps.size = i⟩
theorem turnEnumS {P : Program} {w : World} {K : PySem.W.Frag} {elts : List Expr} {kk : Nat} {tp : Pos} (x : Str) (tt : Tok) (e j : Addr) :
    Turn P w K (.Tuple elts kk tp) (IteS x) [e, j] e (fun i h => (∃ old, IsEnum h e j ((i : Nat) : Int) old) ∧ h.IsStrIter j (strIterType x) x tt i ∧ e ≠ j) where
  mem := by simp
  obj := fun i h ⟨⟨old, isE⟩, ⟨o, o1, _, o3⟩, _⟩ b hb => by
    have cs : b = e ∨ b = j := by simpa using hb
    rcases cs with rfl | rfl
    · exact ⟨_, isE, fun v q => nomatch q⟩
    · exact ⟨o, o1, fun v q => by rw [o3] at q; cases q⟩
  keep := fun i h h' ⟨⟨old, isE⟩, ⟨o, o1, o2, o3⟩, ne⟩ kp => ⟨⟨old, kp e (by simp) _ isE⟩, ⟨o, kp j (by simp) o o1, o2, o3⟩, ne⟩
  item := by
    intro X hP hw hK hc i pins s σ H E I hf st hg
    subst hP hw hK
    obtain ⟨⟨old, isE⟩, hj, ne1⟩ := st
    have le : e < s.heap.objs.size := Heap.lt_size isE
    have lj : j < s.heap.objs.size := by obtain ⟨_, q, _⟩ := hj; exact Heap.lt_size q
    refine wpAny_pyNext_enum_itemD (Draws.text (A := X.A.in1) (I.ok.hd hc) j x tt) isE hj hg ne1 (by simp [ne1]) fun v h' tk hx isO st' hT hsz hk => ?_
    obtain ⟨k, u, hk1, rfl⟩ := hx
    refine ⟨_, rfl, wpAny_letOwnedTupleGo_enum (s := { s with heap := h', toks := tk + 1 }) isO fun h'' isE' sb => ?_⟩
    have hT2 : h''.get? s.heap.objs.size = some { cls := .type "tuple", data := .seq #[.int i tk, .str ⟨#[k]⟩ u] } := (sb.2 _ (Nat.ne_of_gt le)).trans hT
    have new : ObjOk X.prog X.w (upd H s.heap.objs.size (.tup [.int (i : Nat), .str ⟨#[k]⟩])) h'' s.heap.objs.size (.tup [.int (i : Nat), .str ⟨#[k]⟩]) := ⟨by show 2 ≤ sizeLine; decide, [.int i tk, .str ⟨#[k]⟩ u], .cons ⟨_, rfl⟩ (.cons ⟨_, rfl⟩ .nil), ⟨_, hT2, rfl, _, rfl⟩⟩
    have I1 : Inv X pins σ (upd H s.heap.objs.size (.tup [.int (i : Nat), .str ⟨#[k]⟩])) { s with heap := h'', toks := tk + 1 } := I.turnedNew (ch := [e, j]) (fun b ob hb q => (sb.2 b (fun z => hb (by simp [z]))).trans (hk b ob (fun z => hb (by simp [z])) (fun z => hb (by simp [z])) q)) hf (Nat.le_refl _) new
    refine ⟨.ref s.heap.objs.size, _, I1, rfl, ⟨_, k, rfl, I.hok.fresh (Nat.le_refl _), rfl, hk1⟩, ⟨⟨.str ⟨#[k]⟩ u, ?_⟩, ?_, ne1⟩, fun b hb => ?_⟩
    · have e1 : ((i + 1 : Nat) : Int) = (i : Int) + 1 := by omega
      rw [e1]
      exact isE'
    · obtain ⟨o, o1, o2, o3⟩ := st'
      exact ⟨o, (sb.2 j (Ne.symm ne1)).trans o1, o2, o3⟩
    · have cs : b = e ∨ b = j := by simpa using hb
      have lb : b < s.heap.objs.size := by rcases cs with rfl | rfl <;> assumption
      rw [upd_ne (Nat.ne_of_lt lb)]
      exact (hf b hb).1
  done := by
    intro X hP hw hK hc i pins s σ H E I hf st hg
    subst hP hw hK
    obtain ⟨⟨old, isE⟩, hj, ne1⟩ := st
    obtain ⟨f0, f1, f2, f3, f4, f5⟩ := hf j (by simp)
    obtain rfl : x.cps.size = i := hg
    exact wpAny_pyNext_enum_endD (Draws.text (A := X.A.in1) (I.ok.hd hc) j x tt) isE hj fun h' eb => ⟨rfl, I.turned (t' := s.toks) (fun b o hb q => eb b o hb q) f0 f1 f3 f4 f5⟩
  self := fun A i s Q E ⟨⟨_, isE⟩, _⟩ h => wpAny_pyIter_enum isE h
def iEnumS (ta : TA) : TI := fun σ H R => ta σ H fun vs H1 => ∃ x, vs = [.str x] ∧ R (IteS x) H1
theorem piEnumS {X : Cx} {e : Expr} {ta : TA} {p pos tp : Pos} {elts : List Expr} {kk : Nat} (hg : Gl X "enumerate") (hm : X.mg "enumerate" = none) (ha : PA X [e] ta) (hs : starEach [e] X.env = [(false, eval e X.env)]) :
    PI X (.Tuple elts kk tp) (.Call (.Name "enumerate" p) [e] [] pos) (iEnumS ta) := by
  refine ⟨fun pins s σ H R I h => ?_⟩
  refine Call_ (ld_blt I hg hm boot_enumerate (PyProof.Rows.callWith_type1 (thn (ha.run pos pins s σ H _ I h) fun us s1 ⟨vs, H1, I1, r1, x, ex, q⟩ => ?_) hs rfl))
  subst ex
  cases r1 with
  | cons r rr =>
    cases rr
    obtain ⟨tt, rfl⟩ := r
    refine enumBegins (begins_text x tt) trivial fun h' isE hj hsz hk => wpAny_pyIter_enum isE ?_
    have I2 : Inv X pins σ H1 { s1 with heap := h' } := I1.kept (t' := s1.toks) hk
    refine ⟨s1.heap.objs.size + 1, [s1.heap.objs.size + 1, s1.heap.objs.size], _, _, H1, rfl, I2, turnEnumS x tt (s1.heap.objs.size + 1) s1.heap.objs.size, ⟨⟨.none, isE⟩, ⟨_, hj, rfl, rfl⟩, Nat.succ_ne_self _⟩, fun b hb => ?_, q⟩
    have cs : b = s1.heap.objs.size + 1 ∨ b = s1.heap.objs.size := by simpa using hb
    have le : s1.heap.objs.size ≤ b := by
      rcases cs with rfl | rfl
      · exact Nat.le_succ _
      · exact Nat.le_refl _
    exact I1.fpOk le (I1.hok.fresh le)
theorem walk_es {K : PySem.W.Frag} {U : Pu} {L : List Addr} {H B : Hp} {z : Str} (hz : z.length ≤ sizeLine) : Walk K U L H B (IteS z) (numbered (chD z)) := by
  refine ⟨by rw [numbered_len, chD_len]; exact hz, fun i H2 e hi => ?_, fun H2 e => ?_, fun i x H2 H3 e hi y => ?_⟩
  · rw [numbered_len, chD_len] at hi
    exact hi
  · rw [numbered_len, chD_len]
    rfl
  · obtain ⟨T, k, rfl, hT, rfl, h1⟩ := y
    have g1 : (chD z)[i]? = some (.str ⟨#[k]⟩) := by
      unfold chD
      rw [List.getElem?_map, Array.getElem?_toList, h1]
      rfl
    exact ⟨new_ext hT, .tup [.int (i : Nat), .str ⟨#[k]⟩], numbered_get g1, rfl, fun L' hl s => pair_rep hT hl s (d := .int (i : Nat)) rfl rfl⟩
/-! ### readings -/
namespace Rd
def strD (S : List D → Prop) (x : D) : Prop := match x with
  | .str z => z.length ≤ sizeLine ∧ S (chD z)
  | _ => False
def strJ (a : RdE) : RdA := fun T δ S => a T δ (strD S)
def enumSD (S : List D → Prop) (x : D) : Prop := match x with
  | .str z => z.length ≤ sizeLine ∧ S (numbered (chD z))
  | _ => False
def enumS (a : RdE) : RdA := fun T δ S => a T δ (enumSD S)
def ixSD (S : D → Prop) (x y : D) : Prop := match x, y with
  | .str z, .int i => ∃ k, (0 ≤ i ∧ i < z.length ∧ i < 1000000) ∧ z.cps[i.toNat]? = some k ∧ S (.str ⟨#[k]⟩)
  | _, _ => False
def ixS (a b : RdE) : RdE := fun T δ S => a T δ fun x => b T δ fun y => ixSD S x y
end Rd
namespace De
section
variable {f : Fr} {a b e : Expr} {es : List Expr} {ta tb : RdE} {p pos : Pos}
theorem strJ {tg : Expr} (ha : ReE f a ta) : ReJ f tg a (Rd.strJ ta) := .mk fun c F δ S h => fun L σ H R E q =>
  runI_of (pi_str pe_run) (ha c F δ _ h L σ H _ E fun v H1 d s1 r1 h1 => by
    cases d with
    | str z =>
      obtain rfl : v = .str z := r1
      exact ⟨z, rfl, q _ H1 (chD z) s1 (walk_s h1.1) h1.2⟩
    | _ => exact False.elim h1)
theorem enumS {elts : List Expr} {kk : Nat} {tpos : Pos} (hm : f.mg "enumerate" = none) (ha : ReE f a ta) (hg : glbB f.sc "enumerate" = true := by (try dsimp only [Fr.blk, Fr.lam]); decide +kernel) (hs : ∀ X : Cx, starEach [a] X.env = [(false, eval a X.env)] := by intro _; rfl) :
    ReI f (.Tuple elts kk tpos) (.Call (.Name "enumerate" p) [a] [] pos) (Rd.enumS ta) := .mk fun {X T} c F δ S h => fun L σ H R E q =>
  runI_of (piEnumS (F.gl hg) (by rw [F.m]; exact hm) pa_run (hs X)) ((WA_cons (S := fun ds => ∃ d, ds = [d] ∧ Rd.enumSD S d) ((ha c F δ _ h).mono fun d h1 => WA_nil ⟨d, rfl, h1⟩) (hs X) L σ H _ E fun vs H1 ds s1 r1 ⟨d, hd, h1⟩ => by
    subst hd
    obtain ⟨v, rfl, rv⟩ := r1.one
    cases d with
    | str z =>
      obtain rfl : v = .str z := rv
      exact ⟨z, rfl, q _ H1 _ s1 (walk_es h1.1) h1.2⟩
    | _ => exact False.elim h1))
theorem ixS (ha : ReE f a ta) (hb : ReE f b tb) (hs : PlainIxT b := by intros _ _; rfl) : ReE f (.Subscript a b pos) (Rd.ixS ta tb) := .mk fun {X T} c F δ S h => fun L σ H Q E q =>
  runE_of (pe_item_str (X := X) pe_run pe_run hs) (ha c F δ _ h L σ H _ E fun v H1 d s1 r1 h1 => hb c F δ _ h1 L σ H1 _ (E.mono s1) fun u H2 d2 s2 r2 h2 => by
    cases d with
    | str z =>
      cases d2 with
      | int i =>
        obtain ⟨k, ⟨g0, g1, g2⟩, hk, hS⟩ := h2
        obtain rfl : v = .str z := r1
        obtain rfl : u = .int i := r2
        exact ⟨z, i, k, rfl, rfl, g0, by omega, g1, hk, q _ H2 (.str ⟨#[k]⟩) (s1.trans s2) rfl hS⟩
      | _ => exact False.elim h2
    | _ => exact False.elim h2)
end
end De
namespace Rd
def strK (A : Str → Prop) (x : D) : Prop := match x with
  | .str s => A s
  | _ => False
def lstK (A : List D → Prop) (x : D) : Prop := match x with
  | .lst ds => A ds
  | _ => False
def blK (A : Bool → Prop) (x : D) : Prop := match x with
  | .bl b => A b
  | _ => False
/-- s.join(a list of texts) -/
def joinS (a b : RdE) : RdE := fun T δ S => a T δ (strK fun s => b T δ (lstK fun ds => ∃ ys : List Str, ds = ys.map D.str ∧ (ys.map (·.length)).sum + ys.length * s.length ≤ 16777216 ∧ S (.str (Txt.join s ys))))
/-- a list of flags .index(a flag) -/
def idxB (a b : RdE) : RdE := fun T δ S => a T δ (lstK fun ds => b T δ (blK fun b => ∃ (bs : List Bool) (j : Nat), ds = bs.map D.bl ∧ bs[j]? = some b ∧ (∀ (m : Nat) (b' : Bool), m < j → bs[m]? = some b' → b' ≠ b) ∧ S (.int (j : Nat))))
theorem strK_ok {A : Str → Prop} {d : D} (h : strK A d) : ∃ s, d = .str s ∧ A s := by
  cases d with
  | str s => exact ⟨s, rfl, h⟩
  | _ => exact False.elim h
theorem lstK_ok {A : List D → Prop} {d : D} (h : lstK A d) : ∃ s, d = .lst s ∧ A s := by
  cases d with
  | lst s => exact ⟨s, rfl, h⟩
  | _ => exact False.elim h
theorem blK_ok {A : Bool → Prop} {d : D} (h : blK A d) : ∃ s, d = .bl s ∧ A s := by
  cases d with
  | bl s => exact ⟨s, rfl, h⟩
  | _ => exact False.elim h
end Rd
namespace De
section
variable {f : Fr} {a b e : Expr} {es : List Expr} {ta tb : RdE} {p pos apos : Pos}
theorem joinS (ha : ReE f a ta) (hb : ReE f b tb) (hs : ∀ X : Cx, starEach [b] X.env = [(false, eval b X.env)] := by intro _; rfl) (hbase : ∀ X : Cx, attributeBase a "join" X.env (eval a X.env) = eval a X.env := by intro _; rfl) (hline : (apos.endLine == pos.line) = true := by rfl) :
    ReE f (.Call (.Attribute a "join" apos) [b] [] pos) (Rd.joinS ta tb) := .mk fun {X T} c F δ S h => fun L σ H Q E q =>
  runE_of (pe_join (X := X) pe_run pe_run (hs X) (hbase X) hline) (ha c F δ _ h L σ H _ E fun v H1 d s1 r1 h1 => by
    obtain ⟨s, rfl, h1⟩ := Rd.strK_ok h1
    obtain rfl : v = .str s := r1
    refine ⟨⟨s, rfl⟩, hb c F δ _ h1 L σ H1 _ (E.mono s1) fun u H2 d2 s2 r2 h2 => ?_⟩
    obtain ⟨ds, rfl, ys, rfl, hz, hS⟩ := Rd.lstK_ok h2
    obtain ⟨b, vs, rfl, hb, rb, zb⟩ := r2
    have e := Reps.strs ys rb
    subst e
    exact ⟨s, b, ys, rfl, rfl, .inl (SqL.of (hide_at hb).2), hz, q _ H2 (.str _) (s1.trans s2) rfl hS⟩)
theorem flat_bls (bs : List Bool) : (bs.map V.bl).all flatV = true := List.all_eq_true.mpr fun v hv => by
  obtain ⟨b, _, rfl⟩ := List.mem_map.mp hv
  rfl
theorem idxB (ha : ReE f a ta) (hb : ReE f b tb) (hs : ∀ X : Cx, starEach [b] X.env = [(false, eval b X.env)] := by intro _; rfl) (hbase : ∀ X : Cx, attributeBase a "index" X.env (eval a X.env) = eval a X.env := by intro _; rfl) (hline : (apos.endLine == pos.line) = true := by rfl)
    (hfew : ∀ X : Cx, ((backTo pos (starEach [b] X.env)).all (fun x => !x.1) && (backToKw pos (keywordEach [] X.env)).all (fun x => x.1.isSome)
      && decide (([b] : List Expr).length + ([] : List Keyword).length + (if ([] : List Keyword).isEmpty then 0 else 1) < 30)) = true := by intro _; rfl) :
    ReE f (.Call (.Attribute a "index" apos) [b] [] pos) (Rd.idxB ta tb) := .mk fun {X T} c F δ S h => fun L σ H Q E q =>
  runE_of (pe_bm (X := X) PySem.F.plainAttrs_list PySem.F.slot_list_index PySem.F.type_list_index mt_index pe_run pa_run (hbase X) (hfew X) hline (hs X)) (ha c F δ _ h L σ H _ E fun v H1 d s1 r1 h1 => by
    obtain ⟨ds, rfl, h1⟩ := Rd.lstK_ok h1
    obtain ⟨a, vs, rfl, ha, ra, za⟩ := r1
    refine ⟨.inl ⟨rfl, vs, SqL.of (hide_at ha).2⟩, WA_cons (S := fun ds' => ∃ y, ds' = [y] ∧ Rd.blK _ y) ((hb c F δ _ h1).mono fun y h2 => WA_nil ⟨y, rfl, h2⟩) (hs X) L σ H1 _ (E.mono s1) fun us H2 ds2 s2 r2 ⟨y, hd, h2⟩ => ?_⟩
    subst hd
    obtain ⟨u, rfl, ru⟩ := r2.one
    obtain ⟨b, rfl, bs, j, rfl, h3, h4, hS⟩ := Rd.blK_ok h2
    obtain rfl : u = .bl b := ru
    have e := Reps.bls bs ra
    subst e
    refine ⟨a, bs.map V.bl, .bl b, j, .bl b, rfl, rfl, SqL.of (s2.k _ _ (hide_at ha).2 rfl), rfl, flat_bls bs, by rw [List.getElem?_map, h3]; rfl, by cases b <;> rfl, fun m z' hm hz => ?_, q _ H2 (.int (j : Nat)) (s1.trans s2) rfl hS⟩
    rw [List.getElem?_map] at hz
    cases e : bs[m]? with
    | none => rw [e] at hz; cases hz
    | some b' =>
      rw [e] at hz
      cases hz
      have := h4 m b' hm e
      cases b <;> cases b' <;> first | rfl | exact absurd rfl this)
end
end De
/-- a global text -/
theorem str_of {h : Heap} {K : PySem.W.Frag} {mg : Str → Option Value} {d : Hd} (X : K.In h) (G : h.Ns mainGlobals mg) (c : SaysX d K) {x : Str} {z : Str} (i : Nat) (h1 : d.fa[i]? = some (.str x z) := by rfl) : Glb K mg x (.str z) := by
  obtain ⟨t, e⟩ := He.str_ok X G (c.fact i h1)
  exact ⟨.str z t, .str z, e, ⟨t, rfl⟩, fun U H => rfl⟩
end Dl

set_option maxRecDepth 100000
set_option maxHeartbeats 4000000
namespace Tb
open PySem PySem.Spec PyProof.Rows L2 Dl
/-! ### checks -/
abbrev sp_is_integer : DSpec := fun ds S _ => ∃ d, ds = [d] ∧ d.still = true ∧ d.kn = true ∧ S (.bl d.isN)
/-- an int within bounds -/
def inB (a b : Int) : D → Bool
  | .int i => decide (a ≤ i) && decide (i ≤ b)
  | _ => false
abbrev sp_is_within : DSpec := fun ds S _ => ∃ d a b, ds = [d, .int a, .int b] ∧ d.still = true ∧ d.kn = true ∧ S (.bl (inB a b d))
abbrev sp_is_number : DSpec := fun ds S _ => ∃ d b, ds = [d, .int b] ∧ d.still = true ∧ d.kn = true ∧ S (.bl (inB 0 b d))
abbrev primes : List Int := [2, 3, 5, 7, 11, 13]
def isP : D → Bool
  | .int i => primes.any (· == i)
  | _ => false
abbrev sp_is_prime : DSpec := fun ds S _ => ∃ d, ds = [d] ∧ d.still = true ∧ d.kn = true ∧ S (.bl (isP d))
abbrev sp_check_prime : DSpec := fun ds S _ => ∃ d, ds = [d] ∧ d.still = true ∧ d.kn = true ∧ isP d = true ∧ S .non
abbrev sp_check_within : DSpec := fun ds S _ => ∃ d a b, ds = [d, .int a, .int b] ∧ d.still = true ∧ d.kn = true ∧ inB a b d = true ∧ S .non
def isCol (p n : Int) : D → Bool
  | .tup xs => (decide ((xs.length : Int) = n)) && (xs.map (inB 0 (p - 1))).all id
  | _ => false
abbrev sp_is_column : DSpec := fun ds S _ => ∃ p n d, ds = [.int p, .int n, d] ∧ d.still = true ∧ d.kn = true ∧ (∀ xs, d = .tup xs → ∀ x ∈ xs, x.kn = true ∧ x.still = true) ∧ S (.bl (isCol p n d))

/-! ### tables -/
abbrev tabN : List Str := ["prime", "wide", "rows", "high"]
abbrev tab (C : Addr) (p w : Int) (rs : List (List Int)) : D := .obj C tabN [.int p, .int w, tII rs, .int rs.length]
structure TabC (K : PySem.W.Frag) (CT C : Addr) : Prop where
  ok : OkC K C tabN
  isT : PySem.W.kitOne K (.ref C) (.ref CT) = some true
/-- rows of a table -/
def Rows (p w : Int) (rs : List (List Int)) : Prop := p ∈ primes ∧ 0 ≤ w ∧ w ≤ 25 ∧ rs.length ≤ 25 ∧ ∀ r ∈ rs, (r.length : Int) = w ∧ ∀ v ∈ r, 0 ≤ v ∧ v < p
abbrev sp_keep (C : Addr) : DSpec := fun ds S _ => ∃ p w rs, ds = [.int p, .int w, tII rs] ∧ S (tab C p w rs)
abbrev sp_Table (C : Addr) : DSpec := fun ds S _ => ∃ p w rs, ds = [.int p, .int w, tII rs] ∧ Rows p w rs ∧ w ≤ 12 ∧ rs.length ≤ 12 ∧ S (tab C p w rs)
theorem prime_b {p : Int} (h : p ∈ primes) : 0 < p ∧ p ≤ 13 := by
  simp [primes] at h
  omega
theorem isP_of {p : Int} (h : p ∈ primes) : isP (.int p) = true := by
  simp [primes] at h
  simp [isP]
  omega
theorem kn_ints (x : List Int) : ∀ xs, tI x = .tup xs → ∀ y ∈ xs, y.kn = true ∧ y.still = true := fun xs e y hy => by
  cases e
  obtain ⟨v, _, rfl⟩ := List.mem_map.mp hy
  exact ⟨rfl, rfl⟩
/-! plain sums of rows -/
def dot (r x : List Int) : Int := ((r.zip x).map fun q => q.1 * q.2).sum
def ledR (p : Int) (rs : List (List Int)) (x : List Int) : List Int := rs.map fun r => dot r x % p
/-- the i-th of each row -/
def colAt (rs : List (List Int)) (j : Nat) : List Int := rs.map fun r => r.getD j 0
def colsR (w : Nat) (rs : List (List Int)) : List (List Int) := (List.range w).map fun j => colAt rs j

abbrev sp_led_on (K : PySem.W.Frag) : DSpec := fun ds S _ => ∃ C p w rs x, ds = [tab C p w rs, tI x] ∧ OkC K C tabN ∧ Rows p w rs ∧ S (tI (ledR p rs x))
abbrev sp_led (K : PySem.W.Frag) : DSpec := fun ds S _ => ∃ C p w rs x, ds = [tab C p w rs, tI x] ∧ OkC K C tabN ∧ Rows p w rs ∧ ((x.length : Int) = w ∧ ∀ v ∈ x, 0 ≤ v ∧ v < p) ∧ S (tI (ledR p rs x))
abbrev sp_columns_of (K : PySem.W.Frag) : DSpec := fun ds S _ => ∃ C p w rs, ds = [tab C p w rs] ∧ OkC K C tabN ∧ Rows p w rs ∧ S (tII (colsR w.toNat rs))
/-- columns of h each -/
abbrev sp_columns_table (CR : Addr) : DSpec := fun ds S _ => ∃ p h cs d, ds = [.int p, .int h, d] ∧ (d = tII cs ∨ d = lT cs) ∧ p ∈ primes ∧ 0 ≤ h ∧ h ≤ 25 ∧ cs.length ≤ 25 ∧ (∀ c ∈ cs, (c.length : Int) = h) ∧ S (tab CR p cs.length (colsR h.toNat cs))
abbrev sp_raw_times (K : PySem.W.Frag) (CR : Addr) : DSpec := fun ds S _ => ∃ C C' p w w' rs rs', ds = [tab C p w rs, tab C' p w' rs'] ∧ OkC K C tabN ∧ OkC K C' tabN ∧ Rows p w rs ∧ Rows p w' rs' ∧ w = rs'.length ∧ S (tab CR p w' (colsR rs.length ((colsR w'.toNat rs').map (ledR p rs))))

def timesR (p : Int) (rs rs' : List (List Int)) (w' : Nat) : List (List Int) := colsR rs.length ((colsR w' rs').map (ledR p rs))
def plusR (p : Int) (rs rs' : List (List Int)) : List (List Int) := (rs.zip rs').map fun q => (q.1.zip q.2).map fun q => (q.1 + q.2) % p
def scaledR (p n : Int) (rs : List (List Int)) : List (List Int) := rs.map fun r => r.map fun v => v * n % p
def unitR (n i : Nat) : List Int := (List.range n).map fun (j : Nat) => if decide ((0 : Int) + j = 0 + i) = true then 1 else 0
def plainR (n : Nat) : List (List Int) := (List.range n).map (unitR n)
def noughtR (h w : Nat) : List (List Int) := (List.range h).map fun _ => zeros w
def cornerR (rs rs' : List (List Int)) (w w' : Nat) : List (List Int) := (rs.map fun r => r ++ zeros w') ++ rs'.map fun r => zeros w ++ r
abbrev sp_times (K : PySem.W.Frag) (CR : Addr) : DSpec := fun ds S _ => ∃ C C' p w w' rs rs', ds = [tab C p w rs, tab C' p w' rs'] ∧ OkC K C tabN ∧ OkC K C' tabN ∧ Rows p w rs ∧ Rows p w' rs' ∧ w = rs'.length ∧ S (tab CR p w' (timesR p rs rs' w'.toNat))
abbrev sp_plus (K : PySem.W.Frag) (CR : Addr) : DSpec := fun ds S _ => ∃ C C' p w rs rs', ds = [tab C p w rs, tab C' p w rs'] ∧ OkC K C tabN ∧ OkC K C' tabN ∧ Rows p w rs ∧ Rows p w rs' ∧ rs.length = rs'.length ∧ S (tab CR p w (plusR p rs rs'))
abbrev sp_scaled (K : PySem.W.Frag) (CR : Addr) : DSpec := fun ds S _ => ∃ C p w rs n, ds = [tab C p w rs, .int n] ∧ OkC K C tabN ∧ Rows p w rs ∧ S (tab CR p w (scaledR p n rs))
abbrev sp_turned (K : PySem.W.Frag) (CR : Addr) : DSpec := fun ds S _ => ∃ C p w rs, ds = [tab C p w rs] ∧ OkC K C tabN ∧ Rows p w rs ∧ S (tab CR p rs.length (colsR w.toNat rs))
abbrev sp_plain (CR : Addr) : DSpec := fun ds S _ => ∃ p n, ds = [.int p, .int n] ∧ p ∈ primes ∧ 0 ≤ n ∧ n ≤ 12 ∧ S (tab CR p n (plainR n.toNat))
abbrev sp_nought (CR : Addr) : DSpec := fun ds S _ => ∃ p h w, ds = [.int p, .int h, .int w] ∧ p ∈ primes ∧ 0 ≤ h ∧ h ≤ 12 ∧ 0 ≤ w ∧ w ≤ 12 ∧ S (tab CR p w (noughtR h.toNat w.toNat))
abbrev sp_corner (K : PySem.W.Frag) (CR : Addr) : DSpec := fun ds S _ => ∃ C C' p w w' rs rs', ds = [tab C p w rs, tab C' p w' rs'] ∧ OkC K C tabN ∧ OkC K C' tabN ∧ Rows p w rs ∧ Rows p w' rs' ∧ S (tab CR p (w + w') (cornerR rs rs' w.toNat w'.toNat))

abbrev sp_eq (K : PySem.W.Frag) (CT : Addr) : DSpec := fun ds S _ => ∃ C C' p w rs p' w' rs', ds = [tab C p w rs, tab C' p' w' rs'] ∧ OkC K C tabN ∧ TabC K CT C' ∧ S (.bl (decide (p = p' ∧ w = w' ∧ rs = rs')))
/-- == of two tables -/
abbrev sp_eq2 (CT CR : Addr) : DSpec := fun ds S _ => ∃ C C' p w rs p' w' rs', ds = [tab C p w rs, tab C' p' w' rs'] ∧ (C = CT ∨ C = CR) ∧ (C' = CT ∨ C' = CR ∧ C = CR) ∧ S (.bl (decide (p = p' ∧ w = w' ∧ rs = rs')))
abbrev sp_l_is (CR : Addr) : DSpec := fun ds S _ => ∃ p w rs e, ds = [tab CR p w rs, .int p, .int w, e] ∧ (e = tII rs ∨ e = lT rs) ∧ Rows p w rs ∧ w ≤ 12 ∧ rs.length ≤ 12 ∧ S (.bl true)
abbrev sp_l_led : DSpec := fun ds S _ => ∃ p w rs x, ds = [tII rs, tI x, .int p] ∧ Rows p w rs ∧ S (tI (ledR p rs x))
def timesL (p : Int) (rs rs' : List (List Int)) (w : Nat) : List (List Int) := rs.map fun r => (List.range w).map fun j => ((List.range rs'.length).map fun k => r.getD k 0 * (rs'.getD k []).getD j 0).sum % p
abbrev sp_l_times : DSpec := fun ds S _ => ∃ p w w' rs rs', ds = [tII rs, tII rs', .int w', .int p] ∧ Rows p w rs ∧ Rows p w' rs' ∧ w = rs'.length ∧ S (tII (timesL p rs rs' w'.toNat))
abbrev sp_l_columns_of : DSpec := fun ds S _ => ∃ p w rs, ds = [tII rs, .int w] ∧ Rows p w rs ∧ S (tII (colsR w.toNat rs))
theorem flat_le {m n : Nat} : ∀ (l : List (List Int)), l.length ≤ m → (∀ r ∈ l, r.length ≤ n) → l.flatten.length ≤ m * n := fun l h1 h2 => by
  have : ∀ l : List (List Int), (∀ r ∈ l, r.length ≤ n) → l.flatten.length ≤ l.length * n := fun l => by
    induction l with
    | nil => simp
    | cons r l ih =>
      intro h
      have := ih fun x hx => h x (List.mem_cons_of_mem _ hx)
      have := h r List.mem_cons_self
      rw [List.flatten_cons, List.length_append, List.length_cons, Nat.succ_mul]
      omega
  exact Nat.le_trans (this l h2) (Nat.mul_le_mul_right n h1)

/-! ### draws -/
abbrev sp_draw : DSpec := fun ds S _ => ∃ m, ds = [.pur, .int m] ∧ 0 < m ∧ m < 1000000 ∧ ∀ v : Int, 0 ≤ v → v < m → S (.int v)
abbrev sp_any : DSpec := fun ds S _ => ∃ xs, ds = [.pur, .lst xs] ∧ 0 < xs.length ∧ xs.length < 1000000 ∧ ∀ x ∈ xs, S x
abbrev sp_size : DSpec := fun ds S _ => ds = [.pur] ∧ ∀ v : Int, 0 ≤ v → v ≤ 12 → S (.int v)
abbrev sp_some_rows : DSpec := fun ds S _ => ∃ p h w, ds = [.pur, .int p, .int h, .int w] ∧ p ∈ primes ∧ 0 ≤ h ∧ h ≤ 12 ∧ 0 ≤ w ∧ w ≤ 12 ∧ ∀ rs, Rows p w rs → (rs.length : Int) = h → S (tII rs)
theorem noL_tI (r : List Int) : (tI r).noL = true := by
  unfold tI D.noL
  exact noLs_map D.int (fun _ => by unfold D.noL; rfl) r
end Tb

set_option maxRecDepth 100000
set_option maxHeartbeats 4000000
/-! # Webs, rows, forms: contracts -/
namespace Wb
open PySem PySem.Spec PyProof.Rows L2 Dl Tb
abbrev webN : List Str := ["many", "arrows"]
abbrev pr (p : Int × Int) : D := .tup [.int p.1, .int p.2]
abbrev tP (ar : List (Int × Int)) : D := .tup (ar.map pr)
abbrev web (C : Addr) (m : Int) (ar : List (Int × Int)) : D := .obj C webN [.int m, tP ar]
def WebOk (m : Int) (ar : List (Int × Int)) : Prop := 1 ≤ m ∧ m ≤ 8 ∧ ar.length ≤ 12 ∧ ∀ p ∈ ar, 0 ≤ p.1 ∧ p.1 < m ∧ 0 ≤ p.2 ∧ p.2 < m
abbrev sp_Web (C : Addr) : DSpec := fun ds S _ => ∃ m ar, ds = [.int m, tP ar] ∧ WebOk m ar ∧ S (web C m ar)
/-- of a known kind, its items too -/
def knd (d : D) : Prop := d.still = true ∧ d.kn = true ∧ ∀ xs, d = .tup xs → ∀ x ∈ xs, x.kn = true ∧ x.still = true
def isRow (m : Int) : D → Bool
  | .tup xs => decide ((xs.length : Int) = m) && (xs.map (inB (-1000) 1000)).all id
  | _ => false
abbrev sp_is_row (K : PySem.W.Frag) (C : Addr) : DSpec := fun ds S _ => ∃ m ar x, ds = [web C m ar, x] ∧ OkC K C webN ∧ knd x ∧ S (.bl (isRow m x))
abbrev sp_check_row (K : PySem.W.Frag) (C EN : Addr) : DSpec := fun ds S T => ∃ m ar x, ds = [web C m ar, x] ∧ OkC K C webN ∧ knd x ∧ (isRow m x = true → S .non) ∧ (isRow m x = false → T (.ref EN) none)
def eul (ar : List (Int × Int)) (xs ys : List Int) : Int := ((xs.zip ys).map fun q => q.1 * q.2).sum - (ar.map fun p => xs.getD p.1.toNat 0 * ys.getD p.2.toNat 0).sum
abbrev sp_raw_euler (K : PySem.W.Frag) (C : Addr) : DSpec := fun ds S _ => ∃ m ar xs ys, ds = [web C m ar, tI xs, tI ys] ∧ OkC K C webN ∧ WebOk m ar ∧ (xs.length : Int) = m ∧ (ys.length : Int) = m ∧ (∀ x ∈ xs, -1000 ≤ x ∧ x ≤ 1000) ∧ (∀ y ∈ ys, -1000 ≤ y ∧ y ≤ 1000) ∧ S (.int (eul ar xs ys))
/-- a row of m items -/
def Row (m : Int) (xs : List Int) : Prop := (xs.length : Int) = m ∧ ∀ x ∈ xs, -1000 ≤ x ∧ x ≤ 1000
abbrev sp_form (K : PySem.W.Frag) (C EN : Addr) : DSpec := fun ds S T => ∃ m ar x, ds = [web C m ar, x] ∧ OkC K C webN ∧ WebOk m ar ∧ knd x ∧ (∀ xs, x = tI xs → Row m xs → S (.int (eul ar xs xs))) ∧ (isRow m x = false → T (.ref EN) none)
abbrev sp_euler (K : PySem.W.Frag) (C EN : Addr) : DSpec := fun ds S T => ∃ m ar x y, ds = [web C m ar, x, y] ∧ OkC K C webN ∧ WebOk m ar ∧ knd x ∧ knd y ∧ (∀ xs ys, x = tI xs → y = tI ys → Row m xs → Row m ys → S (.int (eul ar xs ys))) ∧ (isRow m x = false → T (.ref EN) none) ∧ (isRow m y = false → T (.ref EN) none)
theorem row_is {m : Int} {xs : List Int} (h : Row m xs) : isRow m (tI xs) = true := by
  simp [isRow, h.1, inB]
  intro x hx
  have := h.2 x hx
  omega
theorem is_row {m : Int} {x : D} (h : isRow m x = true) : ∃ xs, x = tI xs ∧ Row m xs := by
  cases x with
  | tup ds =>
    simp [isRow] at h
    obtain ⟨h1, h2⟩ := h
    have key : ∀ ds : List D, (∀ x ∈ ds, inB (-1000) 1000 x = true) → ∃ xs : List Int, ds = xs.map D.int ∧ ∀ x ∈ xs, -1000 ≤ x ∧ x ≤ 1000 := fun ds => by
      induction ds with
      | nil => intro _; exact ⟨[], rfl, by simp⟩
      | cons d ds ih =>
        intro h
        obtain ⟨xs, rfl, h4⟩ := ih fun x hx => h x (List.mem_cons_of_mem _ hx)
        have h3 := h d List.mem_cons_self
        cases d with
        | int i =>
          simp [inB] at h3
          exact ⟨i :: xs, rfl, fun x hx => by
            rcases List.mem_cons.mp hx with rfl | hx
            · exact h3
            · exact h4 x hx⟩
        | _ => cases h3
    obtain ⟨xs, rfl, h3⟩ := key ds h2
    exact ⟨xs, rfl, by simpa using h1, h3⟩
  | _ => cases h
theorem knd_tI (xs : List Int) : knd (tI xs) := ⟨rfl, rfl, fun ds e x hx => by
  cases e
  obtain ⟨i, _, rfl⟩ := List.mem_map.mp hx
  exact ⟨rfl, rfl⟩⟩
end Wb

set_option maxRecDepth 100000
set_option maxHeartbeats 4000000
namespace Tb
open PySem PySem.Spec PyProof.Rows L2 Dl
def r_is_integer   : RdS := (Rd.ret (Rd.and (Rd.isTy Rd.pInt (Rd.v 0)) (Rd.not (Rd.isTy Rd.pBool (Rd.v 0)))))
def r_is_within  (s_is_integer : DSpec) : RdS := (Rd.ret (Rd.and (Rd.call s_is_integer (Rd.cons (Rd.v 0) Rd.nil)) (Rd.chain Op.le Op.le (Rd.v 1) (Rd.v 0) (Rd.v 2))))
def r_is_number  (s_is_within : DSpec) : RdS := (Rd.ret (Rd.call s_is_within (Rd.cons (Rd.v 0) (Rd.cons (Rd.g (.int 0)) (Rd.cons (Rd.v 1) Rd.nil)))))
def r_is_prime  (s_is_integer : DSpec) : RdS := (Rd.ret (Rd.and (Rd.call s_is_integer (Rd.cons (Rd.v 0) Rd.nil)) (Rd.bin Op.isin (Rd.v 0) (Rd.g (tI primes)))))
def r_check_prime  (s_is_prime : DSpec) : RdS := (Rd.cond (Rd.tnot (Rd.tval (Rd.call s_is_prime (Rd.cons (Rd.v 0) Rd.nil)))) Rd.no Rd.skip)
def r_check_within  (s_is_within : DSpec) : RdS := (Rd.cond (Rd.tnot (Rd.tval (Rd.call s_is_within (Rd.cons (Rd.v 0) (Rd.cons (Rd.v 1) (Rd.cons (Rd.v 2) Rd.nil)))))) Rd.no Rd.skip)
def r_is_column  (s_is_number : DSpec) : RdS := (Rd.ret (Rd.and (Rd.isTy Rd.pTup (Rd.v 2)) (Rd.and (Rd.bin Op.eq (Rd.blt Bi.len (Rd.cons (Rd.v 2) Rd.nil)) (Rd.v 1)) (Rd.blt Bi.all (Rd.cons (Rd.lc [3] (Rd.seqJ (Rd.v 2)) (Rd.tv 3) Rd.noT (Rd.call s_is_number (Rd.cons (Rd.v 3) (Rd.cons (Rd.bin Op.sub (Rd.v 0) (Rd.g (.int 1))) Rd.nil)))) Rd.nil)))))
def r_led_on (K : PySem.W.Frag)   : RdS := (Rd.ret (Rd.blt Bi.tuple (Rd.cons (Rd.lc [2] (Rd.seqJ (Rd.fld K (Rd.v 0) "rows")) (Rd.tv 2) Rd.noT (Rd.bin Op.mod (Rd.blt Bi.sum (Rd.cons (Rd.lc [3, 4] (Rd.zip (Rd.v 2) (Rd.v 1)) (Rd.tt 2 (Rd.gC (Rd.tv 3) (Rd.gC (Rd.tv 4) Rd.gN))) Rd.noT (Rd.bin Op.mul (Rd.v 3) (Rd.v 4))) Rd.nil)) (Rd.fld K (Rd.v 0) "prime"))) Rd.nil)))
def r_led (K : PySem.W.Frag)  (s_is_column : DSpec) (s_led_on : DSpec) : RdS := (Rd.sq (Rd.cond (Rd.tnot (Rd.tval (Rd.call s_is_column (Rd.cons (Rd.fld K (Rd.v 0) "prime") (Rd.cons (Rd.fld K (Rd.v 0) "wide") (Rd.cons (Rd.v 1) Rd.nil)))))) Rd.no Rd.skip) (Rd.ret (Rd.call s_led_on (Rd.cons (Rd.v 0) (Rd.cons (Rd.v 1) Rd.nil)))))
def r_columns_of (K : PySem.W.Frag)   : RdS := (Rd.ret (Rd.blt Bi.tuple (Rd.cons (Rd.lc [1] (Rd.rng1 (Rd.fld K (Rd.v 0) "wide")) (Rd.tv 1) Rd.noT (Rd.blt Bi.tuple (Rd.cons (Rd.lc [2] (Rd.seqJ (Rd.fld K (Rd.v 0) "rows")) (Rd.tv 2) Rd.noT (Rd.ix (Rd.v 2) (Rd.v 1))) Rd.nil))) Rd.nil)))
def r_columns_table  (s_RawTable : DSpec) : RdS := (Rd.sq (Rd.setL 3 (Rd.lcF [4] (Rd.rng1 (Rd.v 1)) (Rd.tv 4) Rd.noT (Rd.blt Bi.tuple (Rd.cons (Rd.lc [5] (Rd.seqJ (Rd.v 2)) (Rd.tv 5) Rd.noT (Rd.ix (Rd.v 5) (Rd.v 4))) Rd.nil)))) (Rd.ret (Rd.cons' s_RawTable (Rd.cons (Rd.v 0) (Rd.cons (Rd.blt Bi.len (Rd.cons (Rd.v 2) Rd.nil)) (Rd.cons (Rd.blt Bi.tuple (Rd.cons (Rd.v 3) Rd.nil)) Rd.nil))))))
def r_raw_times (K : PySem.W.Frag)  (s_columns_of : DSpec) (s_led_on : DSpec) (s_columns_table : DSpec) : RdS := (Rd.ret (Rd.call s_columns_table (Rd.cons (Rd.fld K (Rd.v 0) "prime") (Rd.cons (Rd.fld K (Rd.v 0) "high") (Rd.cons (Rd.lc [2] (Rd.seqJ (Rd.call s_columns_of (Rd.cons (Rd.v 1) Rd.nil))) (Rd.tv 2) Rd.noT (Rd.call s_led_on (Rd.cons (Rd.v 0) (Rd.cons (Rd.v 2) Rd.nil)))) Rd.nil)))))
def r_times (K : PySem.W.Frag)  (s_raw_times : DSpec) : RdS := (Rd.sq (Rd.cond (Rd.tor (Rd.tcmp Op.ne (Rd.fld K (Rd.v 0) "prime") (Rd.fld K (Rd.v 1) "prime")) (Rd.tcmp Op.ne (Rd.fld K (Rd.v 0) "wide") (Rd.fld K (Rd.v 1) "high"))) Rd.no Rd.skip) (Rd.ret (Rd.call s_raw_times (Rd.cons (Rd.v 0) (Rd.cons (Rd.v 1) Rd.nil)))))
def r_raw_plus (K : PySem.W.Frag)  (s_RawTable : DSpec) : RdS := (Rd.sq (Rd.setF 2 (Rd.dsp Rd.nil)) (Rd.sq (Rd.loop (Rd.zip (Rd.fld K (Rd.v 0) "rows") (Rd.fld K (Rd.v 1) "rows")) (Rd.tt 2 (Rd.gC (Rd.tv 3) (Rd.gC (Rd.tv 4) Rd.gN))) (Rd.app 2 (Rd.blt Bi.tuple (Rd.cons (Rd.lc [5, 6] (Rd.zip (Rd.v 3) (Rd.v 4)) (Rd.tt 2 (Rd.gC (Rd.tv 5) (Rd.gC (Rd.tv 6) Rd.gN))) Rd.noT (Rd.bin Op.mod (Rd.bin Op.add (Rd.v 5) (Rd.v 6)) (Rd.fld K (Rd.v 0) "prime"))) Rd.nil)))) (Rd.ret (Rd.cons' s_RawTable (Rd.cons (Rd.fld K (Rd.v 0) "prime") (Rd.cons (Rd.fld K (Rd.v 0) "wide") (Rd.cons (Rd.blt Bi.tuple (Rd.cons (Rd.v 2) Rd.nil)) Rd.nil)))))))
def r_plus (K : PySem.W.Frag)  (s_raw_plus : DSpec) : RdS := (Rd.sq (Rd.cond (Rd.tcmp Op.ne (Rd.tup (Rd.cons (Rd.fld K (Rd.v 0) "prime") (Rd.cons (Rd.fld K (Rd.v 0) "wide") (Rd.cons (Rd.fld K (Rd.v 0) "high") Rd.nil)))) (Rd.tup (Rd.cons (Rd.fld K (Rd.v 1) "prime") (Rd.cons (Rd.fld K (Rd.v 1) "wide") (Rd.cons (Rd.fld K (Rd.v 1) "high") Rd.nil))))) Rd.no Rd.skip) (Rd.ret (Rd.call s_raw_plus (Rd.cons (Rd.v 0) (Rd.cons (Rd.v 1) Rd.nil)))))
def r_raw_scaled (K : PySem.W.Frag)  (s_RawTable : DSpec) : RdS := (Rd.sq (Rd.setL 2 (Rd.lcF [3] (Rd.seqJ (Rd.fld K (Rd.v 0) "rows")) (Rd.tv 3) Rd.noT (Rd.blt Bi.tuple (Rd.cons (Rd.lc [4] (Rd.seqJ (Rd.v 3)) (Rd.tv 4) Rd.noT (Rd.bin Op.mod (Rd.bin Op.mul (Rd.v 4) (Rd.v 1)) (Rd.fld K (Rd.v 0) "prime"))) Rd.nil)))) (Rd.ret (Rd.cons' s_RawTable (Rd.cons (Rd.fld K (Rd.v 0) "prime") (Rd.cons (Rd.fld K (Rd.v 0) "wide") (Rd.cons (Rd.blt Bi.tuple (Rd.cons (Rd.v 2) Rd.nil)) Rd.nil))))))
def r_scaled  (s_is_integer : DSpec) (s_raw_scaled : DSpec) : RdS := (Rd.sq (Rd.cond (Rd.tnot (Rd.tval (Rd.call s_is_integer (Rd.cons (Rd.v 1) Rd.nil)))) Rd.no Rd.skip) (Rd.ret (Rd.call s_raw_scaled (Rd.cons (Rd.v 0) (Rd.cons (Rd.v 1) Rd.nil)))))
def r_turned_about (K : PySem.W.Frag)  (s_columns_of : DSpec) (s_RawTable : DSpec) : RdS := (Rd.ret (Rd.cons' s_RawTable (Rd.cons (Rd.fld K (Rd.v 0) "prime") (Rd.cons (Rd.fld K (Rd.v 0) "high") (Rd.cons (Rd.call s_columns_of (Rd.cons (Rd.v 0) Rd.nil)) Rd.nil)))))
def r_raw_plain  (s_RawTable : DSpec) : RdS := (Rd.ret (Rd.cons' s_RawTable (Rd.cons (Rd.v 0) (Rd.cons (Rd.v 1) (Rd.cons (Rd.blt Bi.tuple (Rd.cons (Rd.lc [2] (Rd.rng1 (Rd.v 1)) (Rd.tv 2) Rd.noT (Rd.blt Bi.tuple (Rd.cons (Rd.lc [3] (Rd.rng1 (Rd.v 1)) (Rd.tv 3) Rd.noT (Rd.blt Bi.int (Rd.cons (Rd.bin Op.eq (Rd.v 3) (Rd.v 2)) Rd.nil))) Rd.nil))) Rd.nil)) Rd.nil)))))
def r_plain  (s_check_prime : DSpec) (s_check_within : DSpec) (s_raw_plain : DSpec) : RdS := (Rd.sq (Rd.ex (Rd.call s_check_prime (Rd.cons (Rd.v 0) Rd.nil))) (Rd.sq (Rd.ex (Rd.call s_check_within (Rd.cons (Rd.v 1) (Rd.cons (Rd.g (.int 0)) (Rd.cons (Rd.g (.int 12)) Rd.nil))))) (Rd.ret (Rd.call s_raw_plain (Rd.cons (Rd.v 0) (Rd.cons (Rd.v 1) Rd.nil))))))
def r_raw_nought  (s_RawTable : DSpec) : RdS := (Rd.ret (Rd.cons' s_RawTable (Rd.cons (Rd.v 0) (Rd.cons (Rd.v 2) (Rd.cons (Rd.blt Bi.tuple (Rd.cons (Rd.lc [3] (Rd.rng1 (Rd.v 1)) (Rd.tv 3) Rd.noT (Rd.bin Op.mul (Rd.tup (Rd.cons (Rd.g (.int 0)) Rd.nil)) (Rd.v 2))) Rd.nil)) Rd.nil)))))
def r_nought  (s_check_prime : DSpec) (s_check_within : DSpec) (s_raw_nought : DSpec) : RdS := (Rd.sq (Rd.ex (Rd.call s_check_prime (Rd.cons (Rd.v 0) Rd.nil))) (Rd.sq (Rd.ex (Rd.call s_check_within (Rd.cons (Rd.v 1) (Rd.cons (Rd.g (.int 0)) (Rd.cons (Rd.g (.int 12)) Rd.nil))))) (Rd.sq (Rd.ex (Rd.call s_check_within (Rd.cons (Rd.v 2) (Rd.cons (Rd.g (.int 0)) (Rd.cons (Rd.g (.int 12)) Rd.nil))))) (Rd.ret (Rd.call s_raw_nought (Rd.cons (Rd.v 0) (Rd.cons (Rd.v 1) (Rd.cons (Rd.v 2) Rd.nil))))))))
def r_raw_corner (K : PySem.W.Frag)  (s_RawTable : DSpec) : RdS := (Rd.sq (Rd.set 2 (Rd.bin Op.add (Rd.lc [3] (Rd.seqJ (Rd.fld K (Rd.v 0) "rows")) (Rd.tv 3) Rd.noT (Rd.bin Op.add (Rd.v 3) (Rd.bin Op.mul (Rd.tup (Rd.cons (Rd.g (.int 0)) Rd.nil)) (Rd.fld K (Rd.v 1) "wide")))) (Rd.lc [3] (Rd.seqJ (Rd.fld K (Rd.v 1) "rows")) (Rd.tv 3) Rd.noT (Rd.bin Op.add (Rd.bin Op.mul (Rd.tup (Rd.cons (Rd.g (.int 0)) Rd.nil)) (Rd.fld K (Rd.v 0) "wide")) (Rd.v 3))))) (Rd.ret (Rd.cons' s_RawTable (Rd.cons (Rd.fld K (Rd.v 0) "prime") (Rd.cons (Rd.bin Op.add (Rd.fld K (Rd.v 0) "wide") (Rd.fld K (Rd.v 1) "wide")) (Rd.cons (Rd.blt Bi.tuple (Rd.cons (Rd.v 2) Rd.nil)) Rd.nil))))))
def r_corner (K : PySem.W.Frag)  (s_raw_corner : DSpec) : RdS := (Rd.sq (Rd.cond (Rd.tcmp Op.ne (Rd.fld K (Rd.v 0) "prime") (Rd.fld K (Rd.v 1) "prime")) Rd.no Rd.skip) (Rd.ret (Rd.call s_raw_corner (Rd.cons (Rd.v 0) (Rd.cons (Rd.v 1) Rd.nil)))))
end Tb

set_option maxRecDepth 100000
set_option maxHeartbeats 4000000
namespace Wb
open PySem PySem.Spec PyProof.Rows L2 Dl Tb
local macro_rules | `(tactic| wtm_at "wh") => `(tactic| conv => whnf)
local macro_rules | `(tactic| wtm_at "ln") => `(tactic| (simp only [List.length_map, List.length_append, List.length_replicate, List.length_range, List.length_take, List.length_cons, List.length_nil, List.length_zip, sizeLine_eq]; omega))
local macro_rules | `(tactic| wtm_at "sd") => `(tactic| first | (with_reducible assumption) | (with_reducible rfl) | exact (rfl : (_ : Bool) = _) | omega | exact CMul.l (by omega) (by omega) | exact CMul.r (by omega) (by omega) | exact And.intro (by omega) (by omega) | exact Or.inl rfl | exact Or.inr rfl | exact Or.inr (And.intro rfl rfl) | exact And.intro rfl rfl | exact And.intro (fit_tII _ _) (fit_tII _ _) | exact And.intro (fit_tI _ _) (fit_tI _ _) | wtm_at "ln" | assumption)
local macro_rules | `(tactic| wtm_at "s1") => `(tactic| first
  | refine And.intro (show OkC _ _ _ by assumption) (And.intro rfl (Exists.intro _ (And.intro rfl ?_)))
  | (with_reducible first | refine Exists.intro _ (And.intro rfl ?_) | refine ⟨_, _, rfl, ?_⟩ | refine ⟨_, _, _, rfl, ?_⟩ | refine ⟨_, _, _, _, rfl, ?_⟩ | refine ⟨_, _, _, _, _, rfl, ?_⟩ | refine ⟨_, _, _, _, _, _, rfl, ?_⟩ | refine ⟨_, _, _, _, _, _, _, rfl, ?_⟩ | refine ⟨_, _, _, _, _, _, _, _, rfl, ?_⟩ | refine ⟨_, _, _, _, _, _, _, _, _, rfl, ?_⟩)
  | refine And.intro (by wtm_at "sd") ?_
  | (refine brB_t (by with_reducible assumption) ?_) | (refine brB_f (by with_reducible assumption) ?_) | (refine brB_xt (by with_reducible assumption) ?_) | (refine brB_xf (by with_reducible assumption) ?_)
  | (refine brB_pt (by first | (with_reducible assumption) | omega) ?_) | (refine brB_pf (by first | (with_reducible assumption) | omega) ?_) | (refine brB_nt (by first | (with_reducible assumption) | omega) ?_) | (refine brB_nf (by first | (with_reducible assumption) | omega) ?_))
local macro_rules | `(tactic| wtm_at "w") => `(tactic| (wtm_at "wh"; repeat (wtm_at "s1"; wtm_at "wh")))
def r_is_row (K : PySem.W.Frag)   (s_is_within : DSpec) : RdS := (Rd.sq (Rd.cond (Rd.tor (Rd.tnot (Rd.tval (Rd.isTy Rd.pTup (Rd.v 1)))) (Rd.tcmp Op.ne (Rd.blt Bi.len (Rd.cons (Rd.v 1) Rd.nil)) (Rd.fld K (Rd.v 0) "many"))) (Rd.ret (Rd.g (.bl false))) Rd.skip) (Rd.ret (Rd.blt Bi.all (Rd.cons (Rd.lc [2] (Rd.seqJ (Rd.v 1)) (Rd.tv 2) Rd.noT (Rd.call s_is_within (Rd.cons (Rd.v 2) (Rd.cons (Rd.un Op.neg (Rd.g (.int 1000))) (Rd.cons (Rd.g (.int 1000)) Rd.nil))))) Rd.nil))))
def r_check_row  (EN : Addr) (s_is_row : DSpec) : RdS := (Rd.cond (Rd.tnot (Rd.tval (Rd.call s_is_row (Rd.cons (Rd.v 0) (Rd.cons (Rd.v 1) Rd.nil))))) (Rd.raise EN) Rd.skip)
def r_raw_euler (K : PySem.W.Frag)    : RdS := (Rd.sq (Rd.set 3 (Rd.blt Bi.sum (Rd.cons (Rd.lc [4, 5] (Rd.zip (Rd.v 1) (Rd.v 2)) (Rd.tt 2 (Rd.gC (Rd.tv 4) (Rd.gC (Rd.tv 5) Rd.gN))) Rd.noT (Rd.bin Op.mul (Rd.v 4) (Rd.v 5))) Rd.nil))) (Rd.ret (Rd.bin Op.sub (Rd.v 3) (Rd.blt Bi.sum (Rd.cons (Rd.lc [6, 7] (Rd.seqJ (Rd.fld K (Rd.v 0) "arrows")) (Rd.tt 2 (Rd.gC (Rd.tv 6) (Rd.gC (Rd.tv 7) Rd.gN))) Rd.noT (Rd.bin Op.mul (Rd.ix (Rd.v 1) (Rd.v 6)) (Rd.ix (Rd.v 2) (Rd.v 7)))) Rd.nil)))))
def r_form   (s_check_row : DSpec) (s_raw_euler : DSpec) : RdS := (Rd.sq (Rd.ex (Rd.call s_check_row (Rd.cons (Rd.v 0) (Rd.cons (Rd.v 1) Rd.nil)))) (Rd.ret (Rd.call s_raw_euler (Rd.cons (Rd.v 0) (Rd.cons (Rd.v 1) (Rd.cons (Rd.v 1) Rd.nil))))))
def r_euler   (s_check_row : DSpec) (s_raw_euler : DSpec) : RdS := (Rd.sq (Rd.ex (Rd.call s_check_row (Rd.cons (Rd.v 0) (Rd.cons (Rd.v 1) Rd.nil)))) (Rd.sq (Rd.ex (Rd.call s_check_row (Rd.cons (Rd.v 0) (Rd.cons (Rd.v 2) Rd.nil)))) (Rd.ret (Rd.call s_raw_euler (Rd.cons (Rd.v 0) (Rd.cons (Rd.v 1) (Rd.cons (Rd.v 2) Rd.nil)))))))
def r_Web_init (CW : Addr)  (s_is_within : DSpec) (s_is_number : DSpec) : RdBs := (Rd.bpre (Rd.cond (Rd.tnot (Rd.tval (Rd.call s_is_within (Rd.cons (Rd.v 1) (Rd.cons (Rd.g (.int 1)) (Rd.cons (Rd.g (.int 8)) Rd.nil)))))) Rd.no Rd.skip) (Rd.bpre (Rd.cond (Rd.tor (Rd.tnot (Rd.tval (Rd.isTy Rd.pTup (Rd.v 2)))) (Rd.tcmp Op.gt (Rd.blt Bi.len (Rd.cons (Rd.v 2) Rd.nil)) (Rd.g (.int 12)))) Rd.no Rd.skip) (Rd.bpre (Rd.loop (Rd.enum (Rd.v 2)) (Rd.tt 2 (Rd.gC (Rd.tv 3) (Rd.gC (Rd.tv 4) Rd.gN))) (Rd.cond (Rd.tor (Rd.tnot (Rd.tval (Rd.isTy Rd.pTup (Rd.v 4)))) (Rd.tor (Rd.tcmp Op.ne (Rd.blt Bi.len (Rd.cons (Rd.v 4) Rd.nil)) (Rd.g (.int 2))) (Rd.tnot (Rd.tval (Rd.blt Bi.all (Rd.cons (Rd.lc [5] (Rd.seqJ (Rd.v 4)) (Rd.tv 5) Rd.noT (Rd.call s_is_number (Rd.cons (Rd.v 5) (Rd.cons (Rd.bin Op.sub (Rd.v 1) (Rd.g (.int 1))) Rd.nil)))) Rd.nil)))))) Rd.no Rd.skip)) (Rd.bgo (Rd.bset webN "many" (Rd.v 1) (Rd.bset webN "arrows" (Rd.v 2) (Rd.bnil CW)))))))
end Wb

set_option maxRecDepth 100000
set_option maxHeartbeats 4000000
namespace Tb
open PySem PySem.Spec PyProof.Rows L2 Dl Tb
local macro_rules | `(tactic| wtm_at "wh") => `(tactic| conv => whnf)
local macro_rules | `(tactic| wtm_at "ln") => `(tactic| (simp only [List.length_map, List.length_append, List.length_replicate, List.length_range, List.length_take, List.length_cons, List.length_nil, List.length_zip, sizeLine_eq]; omega))
local macro_rules | `(tactic| wtm_at "sd") => `(tactic| first | (with_reducible assumption) | (with_reducible rfl) | exact (rfl : (_ : Bool) = _) | omega | exact CMul.l (by omega) (by omega) | exact CMul.r (by omega) (by omega) | exact And.intro (by omega) (by omega) | exact Or.inl rfl | exact Or.inr rfl | exact Or.inr (And.intro rfl rfl) | exact And.intro rfl rfl | exact And.intro (fit_tII _ _) (fit_tII _ _) | exact And.intro (fit_tI _ _) (fit_tI _ _) | wtm_at "ln" | assumption)
local macro_rules | `(tactic| wtm_at "s1") => `(tactic| first
  | refine And.intro (show OkC _ _ _ by assumption) (And.intro rfl (Exists.intro _ (And.intro rfl ?_)))
  | (with_reducible first | refine Exists.intro _ (And.intro rfl ?_) | refine ⟨_, _, rfl, ?_⟩ | refine ⟨_, _, _, rfl, ?_⟩ | refine ⟨_, _, _, _, rfl, ?_⟩ | refine ⟨_, _, _, _, _, rfl, ?_⟩ | refine ⟨_, _, _, _, _, _, rfl, ?_⟩ | refine ⟨_, _, _, _, _, _, _, rfl, ?_⟩ | refine ⟨_, _, _, _, _, _, _, _, rfl, ?_⟩ | refine ⟨_, _, _, _, _, _, _, _, _, rfl, ?_⟩)
  | refine And.intro (by wtm_at "sd") ?_
  | (refine brB_t (by with_reducible assumption) ?_) | (refine brB_f (by with_reducible assumption) ?_) | (refine brB_xt (by with_reducible assumption) ?_) | (refine brB_xf (by with_reducible assumption) ?_)
  | (refine brB_pt (by first | (with_reducible assumption) | omega) ?_) | (refine brB_pf (by first | (with_reducible assumption) | omega) ?_) | (refine brB_nt (by first | (with_reducible assumption) | omega) ?_) | (refine brB_nf (by first | (with_reducible assumption) | omega) ?_))
local macro_rules | `(tactic| wtm_at "w") => `(tactic| (wtm_at "wh"; repeat (wtm_at "s1"; wtm_at "wh")))
/-! ### checks -/
theorem ok_is_integer : Okd 1 r_is_integer sp_is_integer := by
  intro T ds S h
  obtain ⟨d, rfl, hst, ht, hs⟩ := h
  wtm_at "w"
  cases d <;> first | exact hs | cases ht
theorem ok_is_within : Okd 3 (r_is_within sp_is_integer) sp_is_within := by
  intro T ds S h
  obtain ⟨d, a, b, rfl, hst, ht, hs⟩ := h
  cases d <;> first | (cases ht; done) | (cases hst; done) | wtm_at "w"
  all_goals try exact hs
  refine brB_p (fun h1 => ?_) (fun h1 => ?_)
  · wtm_at "w"
    refine eqS hs ?_
    simp_all [inB]
  · wtm_at "w"
    refine eqS hs ?_
    simp_all [inB]
    omega
theorem ok_is_number : Okd 2 (r_is_number sp_is_within) sp_is_number := by
  intro T ds S h
  obtain ⟨d, b, rfl, hst, ht, hs⟩ := h
  cases d <;> first | (cases ht; done) | (cases hst; done) | (wtm_at "w"; exact hs)
theorem ok_is_prime : Okd 1 (r_is_prime sp_is_integer) sp_is_prime := by
  intro T ds S h
  obtain ⟨d, rfl, hst, ht, hs⟩ := h
  cases d <;> first | (cases ht; done) | (cases hst; done) | wtm_at "w"
  all_goals exact hs
theorem ok_check_prime : Okd 1 (r_check_prime sp_is_prime) sp_check_prime := by
  intro T ds S h
  obtain ⟨d, rfl, hst, ht, hp, hs⟩ := h
  cases d <;> first | (cases ht; done) | (cases hst; done) | (cases hp; done) | (wtm_at "w"; exact hs)
theorem ok_check_within : Okd 3 (r_check_within sp_is_within) sp_check_within := by
  intro T ds S h
  obtain ⟨d, a, b, rfl, hst, ht, hp, hs⟩ := h
  cases d <;> first | (cases ht; done) | (cases hst; done) | (cases hp; done) | (wtm_at "w"; exact hs)
theorem ok_is_column : Okd 4 (r_is_column sp_is_number) sp_is_column := by
  intro T ds S h
  obtain ⟨p, n, d, rfl, hst, ht, hx, hs⟩ := h
  cases d <;> first | (cases ht; done) | (cases hst; done) | wtm_at "w"
  all_goals try exact hs
  rename_i xs
  refine brB_p (fun h1 => ?_) (fun h1 => ?_)
  · wtm_at "w"
    refine Rd.tmap D.bl (inB 0 (p - 1)) id xs (List.map_id _).symm (fun x hx' S' k => ?_) ?_
    · obtain ⟨k1, k2⟩ := hx xs rfl x hx'
      cases x <;> first | (cases k1; done) | (cases k2; done) | (wtm_at "w"; exact k)
    · wtm_at "w"
      refine eqS hs ?_
      simp [isCol, h1]
  · wtm_at "w"
    refine eqS hs ?_
    simp [isCol, h1]
/-! ### tables -/
theorem ok_led_on (K : PySem.W.Frag) : Okd 5 (r_led_on K) (sp_led_on K) := by
  intro T ds S h
  obtain ⟨C, p, w, rs, x, rfl, hC, ⟨hp, hw0, hw1, hh, hr⟩, hs⟩ := h
  have hpb := prime_b hp
  wtm_at "w"
  refine Rd.tmap D.int (fun r => dot r x % p) _ _ rfl (fun r hr' S' k => ?_) ?_
  · wtm_at "w"
    refine Rd.tmap D.int (fun q : Int × Int => q.1 * q.2) _ _ (pairs_map _ _ _ _) (fun q hq S' k => ?_) ?_
    · have h1 := (hr r hr').2 q.1 (List.of_mem_zip hq).1
      wtm_at "w"
      exact k
    · wtm_at "w"
      exact k
  · wtm_at "w"
    exact hs
theorem col_b {p w : Int} {x : List Int} (hx1 : (x.length : Int) = w) (hx2 : ∀ v ∈ x, 0 ≤ v ∧ v < p) : isCol p w (tI x) = true := by
  simp [isCol, hx1, inB]
  intro v hv
  have := hx2 v hv
  omega
theorem ok_led (K : PySem.W.Frag) : Okd 2 (r_led K sp_is_column (sp_led_on K)) (sp_led K) := by
  intro T ds S h
  obtain ⟨C, p, w, rs, x, rfl, hC, hR, ⟨hx1, hx2⟩, hs⟩ := h
  wtm_at "w"
  refine ⟨kn_ints x, ?_⟩
  have hc := col_b hx1 hx2
  rw [hc]
  wtm_at "w"
  exact hs
theorem ok_columns_of (K : PySem.W.Frag) : Okd 3 (r_columns_of K) (sp_columns_of K) := by
  intro T ds S h
  obtain ⟨C, p, w, rs, rfl, hC, ⟨hp, hw0, hw1, hh, hr⟩, hs⟩ := h
  wtm_at "w"
  refine Rd.tmap tI (colAt rs) _ _ rfl (fun j hj S' k => ?_) ?_
  · have hj' := List.mem_range.mp hj
    wtm_at "w"
    refine Rd.tmap D.int (fun r : List Int => r.getD j 0) _ _ rfl (fun r hr' S' k => ?_) ?_
    · have h1 := (hr r hr').1
      have h2 : atI (r.map D.int) (0 + (j : Int)) = some (.int (r.getD j 0)) := atI_of j (by omega) (by
        rw [List.getElem?_map, List.getD_eq_getElem?_getD, List.getElem?_eq_getElem (by omega)]
        rfl)
      wtm_at "wh"
      exact ⟨_, h2, k⟩
    · wtm_at "w"
      exact k
  · wtm_at "w"
    exact hs
theorem ok_columns_table (CR : Addr) : Okd 6 (r_columns_table (sp_keep CR)) (sp_columns_table CR) := by
  intro T ds S h
  obtain ⟨p, h, cs, d, rfl, hd, hp, h0, h1, hcs, hc, hs⟩ := h
  have key : ∀ j, j ∈ List.range h.toNat → ∀ c ∈ cs, atI (c.map D.int) (0 + (j : Int)) = some (.int (c.getD j 0)) := fun j hj c hc' => atI_of j (by omega) (by
    have := hc c hc'
    have := List.mem_range.mp hj
    rw [List.getElem?_map, List.getD_eq_getElem?_getD, List.getElem?_eq_getElem (by omega)]
    rfl)
  rcases hd with rfl | rfl
  all_goals
    wtm_at "w"
    refine Rd.tmap tI (colAt cs) _ _ rfl (fun j hj S' k => ?_) ?_
    · wtm_at "w"
      refine Rd.tmap D.int (fun r : List Int => r.getD j 0) _ _ rfl (fun r hr' S' k => ?_) ?_
      · wtm_at "wh"
        exact ⟨_, key j hj r hr', k⟩
      · wtm_at "w"
        exact k
    · wtm_at "w"
      refine eqS hs ?_
      simp [colsR]
end Tb

set_option maxRecDepth 100000
set_option maxHeartbeats 4000000
namespace Tb
open PySem PySem.Spec PyProof.Rows L2 Dl Tb
local macro_rules | `(tactic| wtm_at "wh") => `(tactic| conv => whnf)
local macro_rules | `(tactic| wtm_at "ln") => `(tactic| (simp only [List.length_map, List.length_append, List.length_replicate, List.length_range, List.length_take, List.length_cons, List.length_nil, List.length_zip, sizeLine_eq]; omega))
local macro_rules | `(tactic| wtm_at "sd") => `(tactic| first | (with_reducible assumption) | (with_reducible rfl) | exact (rfl : (_ : Bool) = _) | omega | exact CMul.l (by omega) (by omega) | exact CMul.r (by omega) (by omega) | exact And.intro (by omega) (by omega) | exact Or.inl rfl | exact Or.inr rfl | exact Or.inr (And.intro rfl rfl) | exact And.intro rfl rfl | exact And.intro (fit_tII _ _) (fit_tII _ _) | exact And.intro (fit_tI _ _) (fit_tI _ _) | wtm_at "ln" | assumption)
local macro_rules | `(tactic| wtm_at "s1") => `(tactic| first
  | refine And.intro (show OkC _ _ _ by assumption) (And.intro rfl (Exists.intro _ (And.intro rfl ?_)))
  | (with_reducible first | refine Exists.intro _ (And.intro rfl ?_) | refine ⟨_, _, rfl, ?_⟩ | refine ⟨_, _, _, rfl, ?_⟩ | refine ⟨_, _, _, _, rfl, ?_⟩ | refine ⟨_, _, _, _, _, rfl, ?_⟩ | refine ⟨_, _, _, _, _, _, rfl, ?_⟩ | refine ⟨_, _, _, _, _, _, _, rfl, ?_⟩ | refine ⟨_, _, _, _, _, _, _, _, rfl, ?_⟩ | refine ⟨_, _, _, _, _, _, _, _, _, rfl, ?_⟩)
  | refine And.intro (by wtm_at "sd") ?_
  | (refine brB_t (by with_reducible assumption) ?_) | (refine brB_f (by with_reducible assumption) ?_) | (refine brB_xt (by with_reducible assumption) ?_) | (refine brB_xf (by with_reducible assumption) ?_)
  | (refine brB_pt (by first | (with_reducible assumption) | omega) ?_) | (refine brB_pf (by first | (with_reducible assumption) | omega) ?_) | (refine brB_nt (by first | (with_reducible assumption) | omega) ?_) | (refine brB_nf (by first | (with_reducible assumption) | omega) ?_))
local macro_rules | `(tactic| wtm_at "w") => `(tactic| (wtm_at "wh"; repeat (wtm_at "s1"; wtm_at "wh")))
theorem ok_raw_times (K : PySem.W.Frag) (CR : Addr) : Okd 3 (r_raw_times K (sp_columns_of K) (sp_led_on K) (sp_columns_table CR)) (sp_raw_times K CR) := by
  intro T ds S h
  obtain ⟨C, C', p, w, w', rs, rs', rfl, hC, hC', hR, hR', he, hs⟩ := h
  have hR0 := hR
  have hR0' := hR'
  obtain ⟨hp, hw0, hw1, hh, hr⟩ := hR0
  obtain ⟨hp', hw0', hw1', hh', hr'⟩ := hR0'
  wtm_at "w"
  refine Rd.tmap tI (ledR p rs) _ _ rfl (fun x hx S' k => ?_) ?_
  · wtm_at "w"
    exact k
  · wtm_at "w"
    refine ⟨_, _, _, _, rfl, .inr rfl, hp, by omega, by omega, ?_, ?_, ?_⟩
    · simp [colsR]
      omega
    · intro c hc
      obtain ⟨x, _, rfl⟩ := List.mem_map.mp hc
      simp [ledR]
    · refine eqS hs ?_
      simp [colsR]
      omega
theorem ok_times (K : PySem.W.Frag) (CR : Addr) : Okd 2 (r_times K (sp_raw_times K CR)) (sp_times K CR) := by
  intro T ds S h
  obtain ⟨C, C', p, w, w', rs, rs', rfl, hC, hC', hR, hR', he, hs⟩ := h
  wtm_at "w"
  exact hs
theorem ok_raw_plus (K : PySem.W.Frag) (CR : Addr) : Okd 7 (r_raw_plus K (sp_keep CR)) (sp_plus K CR) := by
  intro T ds S h
  obtain ⟨C, C', p, w, rs, rs', rfl, hC, hC', ⟨hp, hw0, hw1, hh, hr⟩, hR', he, hs⟩ := h
  have hpb := prime_b hp
  wtm_at "w"
  refine Rd.for_ _ _ (fun i δ' => ∃ a b xs, xs = (((rs.zip rs').take i).map fun q => (q.1.zip q.2).map fun q => (q.1 + q.2) % p).map tI ∧ δ' = [some (tab C p w rs), some (tab C' p w rs'), some (.own xs), a, b, none, none]) (pairs_map _ _ _ _) ⟨_, _, _, rfl, rfl⟩ ?_ ?_
  · rintro i q δ' hx ⟨a, b, xs, rfl, rfl⟩
    have hi := (List.getElem?_eq_some_iff.mp hx).1
    rw [List.length_zip] at hi
    wtm_at "w"
    refine Rd.tmap D.int (fun q : Int × Int => (q.1 + q.2) % p) _ _ (pairs_map _ _ _ _) (fun q hq S' k => ?_) ?_
    · wtm_at "w"
      exact k
    · wtm_at "w"
      refine ⟨_, _, _, ?_, rfl⟩
      rw [take_snoc _ hx]
      simp
  · rintro δ' ⟨a, b, xs, rfl, rfl⟩
    rw [List.take_length]
    wtm_at "w"
    refine eqS hs ?_
    simp [plusR, he]
theorem ok_plus (K : PySem.W.Frag) (CR : Addr) : Okd 2 (r_plus K (sp_plus K CR)) (sp_plus K CR) := by
  intro T ds S h
  obtain ⟨C, C', p, w, rs, rs', rfl, hC, hC', hR, hR', he, hs⟩ := h
  have hq : (D.tup [.int p, .int w, .int rs.length]).eqv (D.tup [.int p, .int w, .int rs'.length]) = true := by simp [D.eqv, eqvs, he]
  wtm_at "w"
  exact hs
theorem ok_raw_scaled (K : PySem.W.Frag) (CR : Addr) : Okd 5 (r_raw_scaled K (sp_keep CR)) (sp_scaled K CR) := by
  intro T ds S h
  obtain ⟨C, p, w, rs, n, rfl, hC, ⟨hp, hw0, hw1, hh, hr⟩, hs⟩ := h
  have hpb := prime_b hp
  wtm_at "w"
  refine Rd.tmap tI (fun r : List Int => r.map fun v => v * n % p) _ _ rfl (fun r hr' S' k => ?_) ?_
  · wtm_at "w"
    refine Rd.tmap D.int (fun v => v * n % p) _ _ rfl (fun v hv S' k => ?_) ?_
    · have h1 := (hr r hr').2 v hv
      wtm_at "w"
      exact k
    · wtm_at "w"
      exact k
  · wtm_at "w"
    refine eqS hs ?_
    simp [scaledR]
theorem ok_scaled (K : PySem.W.Frag) (CR : Addr) : Okd 2 (r_scaled sp_is_integer (sp_scaled K CR)) (sp_scaled K CR) := by
  intro T ds S h
  obtain ⟨C, p, w, rs, n, rfl, hC, hR, hs⟩ := h
  wtm_at "w"
  exact hs
theorem ok_turned (K : PySem.W.Frag) (CR : Addr) : Okd 1 (r_turned_about K (sp_columns_of K) (sp_keep CR)) (sp_turned K CR) := by
  intro T ds S h
  obtain ⟨C, p, w, rs, rfl, hC, hR, hs⟩ := h
  wtm_at "w"
  exact hs
theorem ok_raw_plain (CR : Addr) : Okd 4 (r_raw_plain (sp_keep CR)) (sp_plain CR) := by
  intro T ds S h
  obtain ⟨p, n, rfl, hp, h0, h1, hs⟩ := h
  wtm_at "w"
  refine Rd.tmap tI (unitR n.toNat) _ _ rfl (fun i hi S' k => ?_) ?_
  · wtm_at "w"
    refine Rd.tmap D.int (fun j : Nat => if decide ((0 : Int) + j = 0 + i) = true then 1 else 0) _ _ rfl (fun j hj S' k => ?_) ?_
    · wtm_at "w"
      exact k
    · wtm_at "w"
      exact k
  · wtm_at "w"
    exact hs
theorem within_b {a b n : Int} (h0 : a ≤ n) (h1 : n ≤ b) : inB a b (.int n) = true := by simp [inB]; omega
theorem ok_plain (CR : Addr) : Okd 2 (r_plain sp_check_prime sp_check_within (sp_plain CR)) (sp_plain CR) := by
  intro T ds S h
  obtain ⟨p, n, rfl, hp, h0, h1, hs⟩ := h
  have hp1 := isP_of hp
  have hw1 := within_b h0 h1
  wtm_at "w"
  exact hs
theorem ok_raw_nought (CR : Addr) : Okd 4 (r_raw_nought (sp_keep CR)) (sp_nought CR) := by
  intro T ds S h
  obtain ⟨p, h, v, rfl, hp, h0, h1, h2, h3, hs⟩ := h
  wtm_at "w"
  refine Rd.tmap tI (fun _ => zeros v.toNat) _ _ rfl (fun i hi S' k => ?_) ?_
  · wtm_at "w"
    exact k
  · wtm_at "w"
    exact hs
theorem ok_nought (CR : Addr) : Okd 3 (r_nought sp_check_prime sp_check_within (sp_nought CR)) (sp_nought CR) := by
  intro T ds S h
  obtain ⟨p, h, v, rfl, hp, h0, h1, h2, h3, hs⟩ := h
  have hp1 := isP_of hp
  have hw1 := within_b h0 h1
  have hw2 := within_b h2 h3
  wtm_at "w"
  exact hs
theorem ok_raw_corner (K : PySem.W.Frag) (CR : Addr) : Okd 4 (r_raw_corner K (sp_keep CR)) (sp_corner K CR) := by
  intro T ds S h
  obtain ⟨C, C', p, w, w', rs, rs', rfl, hC, hC', ⟨hp, hw0, hw1, hh, hr⟩, ⟨hp', hw0', hw1', hh', hr'⟩, hs⟩ := h
  wtm_at "w"
  refine Rd.tmap tI (fun r : List Int => r ++ zeros w'.toNat) _ _ rfl (fun r hr1 S' k => ?_) ?_
  · have := (hr r hr1).1
    have e1 : (repT w'.toNat [D.int 0]).length = w'.toNat := by simp [repT, zeros]
    wtm_at "w"
    refine eqS k ?_
    simp [repT]
  · wtm_at "w"
    refine Rd.tmap tI (fun r : List Int => zeros w.toNat ++ r) _ _ rfl (fun r hr1 S' k => ?_) ?_
    · have := (hr' r hr1).1
      have e1 : (repT w.toNat [D.int 0]).length = w.toNat := by simp [repT, zeros]
      wtm_at "w"
      refine eqS k ?_
      simp [repT]
    · wtm_at "wh"
      refine And.intro (by wtm_at "sd") ?_
      rw [← List.map_append]
      wtm_at "w"
      exact hs
theorem ok_corner (K : PySem.W.Frag) (CR : Addr) : Okd 2 (r_corner K (sp_corner K CR)) (sp_corner K CR) := by
  intro T ds S h
  obtain ⟨C, C', p, w, w', rs, rs', rfl, hC, hC', hR, hR', hs⟩ := h
  wtm_at "w"
  exact hs
end Tb

set_option maxRecDepth 100000
set_option maxHeartbeats 4000000
namespace Wb
open PySem PySem.Spec PyProof.Rows L2 Dl Tb
local macro_rules | `(tactic| wtm_at "wh") => `(tactic| conv => whnf)
local macro_rules | `(tactic| wtm_at "ln") => `(tactic| (simp only [List.length_map, List.length_append, List.length_replicate, List.length_range, List.length_take, List.length_cons, List.length_nil, List.length_zip, sizeLine_eq]; omega))
local macro_rules | `(tactic| wtm_at "sd") => `(tactic| first | (with_reducible assumption) | (with_reducible rfl) | exact (rfl : (_ : Bool) = _) | omega | exact CMul.l (by omega) (by omega) | exact CMul.r (by omega) (by omega) | exact And.intro (by omega) (by omega) | exact Or.inl rfl | exact Or.inr rfl | exact Or.inr (And.intro rfl rfl) | exact And.intro rfl rfl | exact And.intro (fit_tII _ _) (fit_tII _ _) | exact And.intro (fit_tI _ _) (fit_tI _ _) | wtm_at "ln" | assumption)
local macro_rules | `(tactic| wtm_at "s1") => `(tactic| first
  | refine And.intro (show OkC _ _ _ by assumption) (And.intro rfl (Exists.intro _ (And.intro rfl ?_)))
  | (with_reducible first | refine Exists.intro _ (And.intro rfl ?_) | refine ⟨_, _, rfl, ?_⟩ | refine ⟨_, _, _, rfl, ?_⟩ | refine ⟨_, _, _, _, rfl, ?_⟩ | refine ⟨_, _, _, _, _, rfl, ?_⟩ | refine ⟨_, _, _, _, _, _, rfl, ?_⟩ | refine ⟨_, _, _, _, _, _, _, rfl, ?_⟩ | refine ⟨_, _, _, _, _, _, _, _, rfl, ?_⟩ | refine ⟨_, _, _, _, _, _, _, _, _, rfl, ?_⟩)
  | refine And.intro (by wtm_at "sd") ?_
  | (refine brB_t (by with_reducible assumption) ?_) | (refine brB_f (by with_reducible assumption) ?_) | (refine brB_xt (by with_reducible assumption) ?_) | (refine brB_xf (by with_reducible assumption) ?_)
  | (refine brB_pt (by first | (with_reducible assumption) | omega) ?_) | (refine brB_pf (by first | (with_reducible assumption) | omega) ?_) | (refine brB_nt (by first | (with_reducible assumption) | omega) ?_) | (refine brB_nf (by first | (with_reducible assumption) | omega) ?_))
local macro_rules | `(tactic| wtm_at "w") => `(tactic| (wtm_at "wh"; repeat (wtm_at "s1"; wtm_at "wh")))
theorem ok_is_row (K : PySem.W.Frag) (CW : Addr) : Okd 3 (r_is_row K sp_is_within) (sp_is_row K CW) := by
  intro T ds S h
  obtain ⟨m, ar, x, rfl, hC, ⟨h1, h2, h3⟩, hs⟩ := h
  cases x <;> first | (cases h1; done) | (cases h2; done) | wtm_at "w"
  all_goals try exact hs
  rename_i xs
  refine brB_p (fun h4 => ?_) (fun h4 => ?_)
  · wtm_at "w"
    refine eqS hs ?_
    simp [isRow]
    intro h5
    exact absurd h5 h4
  · wtm_at "w"
    refine Rd.tmap D.bl (inB (-1000) 1000) id xs (List.map_id _).symm (fun x hx' S' k => ?_) ?_
    · obtain ⟨k1, k2⟩ := h3 xs rfl x hx'
      cases x <;> first | (cases k1; done) | (cases k2; done) | (wtm_at "w"; exact k)
    · wtm_at "w"
      refine eqS hs ?_
      simp [isRow]
      intro _
      simpa using h4
theorem ok_check_row (K : PySem.W.Frag) (CW EN : Addr) : Okd 2 (r_check_row EN (sp_is_row K CW)) (sp_check_row K CW EN) := by
  intro T ds S h
  obtain ⟨m, ar, x, rfl, hC, hk, h1, h2⟩ := h
  cases e : isRow m x with
  | true =>
    have := h1 e
    cases x <;> first | (cases e; done) | (wtm_at "w"; exact this)
  | false =>
    have := h2 e
    cases x <;> first | (cases hk.1; done) | (cases hk.2.1; done) | (wtm_at "w"; exact this)
theorem at_row {xs : List Int} {i m : Int} (h : (xs.length : Int) = m) (h0 : 0 ≤ i) (h1 : i < m) : atI (xs.map D.int) i = some (.int (xs.getD i.toNat 0)) := by
  refine atI_of i.toNat (by omega) ?_
  have hl : i.toNat < xs.length := by omega
  rw [List.getElem?_map, List.getD_eq_getElem?_getD, List.getElem?_eq_getElem hl]
  rfl
theorem ok_raw_euler (K : PySem.W.Frag) (CW : Addr) : Okd 8 (r_raw_euler K) (sp_raw_euler K CW) := by
  intro T ds S h
  obtain ⟨m, ar, xs, ys, rfl, hC, ⟨m1, m2, hl, ha⟩, hx, hy, bx, by_, hs⟩ := h
  wtm_at "w"
  refine Rd.tmap D.int (fun q : Int × Int => q.1 * q.2) _ _ (pairs_map _ _ _ _) (fun q hq S' k => ?_) ?_
  · have h1 := bx q.1 (List.of_mem_zip hq).1
    wtm_at "w"
    exact k
  · wtm_at "w"
    refine Rd.tmap D.int (fun p : Int × Int => xs.getD p.1.toNat 0 * ys.getD p.2.toNat 0) pr ar rfl (fun p hp S' k => ?_) ?_
    · obtain ⟨a1, a2, a3, a4⟩ := ha p hp
      have e1 := at_row hx a1 a2
      have e2 := at_row hy a3 a4
      have hb : -1000 ≤ xs.getD p.1.toNat 0 ∧ xs.getD p.1.toNat 0 ≤ 1000 := by
        have hl : p.1.toNat < xs.length := by omega
        rw [List.getD_eq_getElem?_getD, List.getElem?_eq_getElem hl]
        exact bx _ (List.getElem_mem hl)
      wtm_at "w"
      refine ⟨_, e1, ?_⟩
      wtm_at "w"
      refine ⟨_, e2, ?_⟩
      wtm_at "w"
      exact k
    · wtm_at "w"
      exact hs
theorem ok_form (K : PySem.W.Frag) (CW EN : Addr) : Okd 2 (r_form (sp_check_row K CW EN) (sp_raw_euler K CW)) (sp_form K CW EN) := by
  intro T ds S h
  obtain ⟨m, ar, x, rfl, hC, hw, hk, h1, h2⟩ := h
  cases e : isRow m x with
  | true =>
    obtain ⟨xs, rfl, hr⟩ := is_row e
    have := h1 xs rfl hr
    have hr1 := hr.1
    have hr2 := hr.2
    wtm_at "w"
    refine ⟨fun _ => ?_, fun e' => by rw [e] at e'; cases e'⟩
    wtm_at "w"
    exact this
  | false =>
    have := h2 e
    cases x <;> first | (cases hk.1; done) | (cases hk.2.1; done) | wtm_at "w"
    all_goals exact ⟨fun e' => (nomatch e.symm.trans e'), fun _ => this⟩
theorem ok_euler (K : PySem.W.Frag) (CW EN : Addr) : Okd 3 (r_euler (sp_check_row K CW EN) (sp_raw_euler K CW)) (sp_euler K CW EN) := by
  intro T ds S h
  obtain ⟨m, ar, x, y, rfl, hC, hw, hk, hk', h1, h2, h3⟩ := h
  cases e : isRow m x with
  | true =>
    obtain ⟨xs, rfl, hr⟩ := is_row e
    have hr1 := hr.1
    have hr2 := hr.2
    cases e2 : isRow m y with
    | true =>
      obtain ⟨ys, rfl, hr'⟩ := is_row e2
      have := h1 xs ys rfl rfl hr hr'
      have hq1 := hr'.1
      have hq2 := hr'.2
      wtm_at "w"
      refine ⟨fun _ => ?_, fun e' => by rw [e] at e'; cases e'⟩
      wtm_at "w"
      refine ⟨fun _ => ?_, fun e' => by rw [e2] at e'; cases e'⟩
      wtm_at "w"
      exact this
    | false =>
      have := h3 e2
      cases y <;> first | (cases hk'.1; done) | (cases hk'.2.1; done) | wtm_at "w"
      all_goals refine ⟨fun _ => ?_, fun e' => by rw [e] at e'; cases e'⟩
      all_goals wtm_at "w"
      all_goals exact ⟨fun e' => (nomatch e2.symm.trans e'), fun _ => this⟩
  | false =>
    have := h2 e
    cases x <;> first | (cases hk.1; done) | (cases hk.2.1; done) | wtm_at "w"
    all_goals exact ⟨fun e' => (nomatch e.symm.trans e'), fun _ => this⟩
theorem ok_Web_init (CW : Addr) : Okb 6 (r_Web_init CW sp_is_within sp_is_number) (sp_Web CW) := by
  intro x T ds S h
  obtain ⟨m, ar, rfl, ⟨m1, m2, hl, ha⟩, hs⟩ := h
  have w1 : inB 1 8 (.int m) = true := by simp [inB]; omega
  have hl' : ¬ (12 < ((ar.map pr).length : Int)) := by simp; omega
  wtm_at "w"
  refine Rd.for_ (fun q : (Int × Int) × Nat => D.tup [.int (q.2 : Nat), pr q.1]) ar.zipIdx (fun i δ' => ∃ a b, δ' = [some (D.any (.ref x)), some (.int m), some (tP ar), a, b, none]) (numbered_map _ _) ⟨_, _, rfl⟩ ?_ ?_
  · rintro i ⟨p, j⟩ δ' hp ⟨a, b, rfl⟩
    have hp' : p ∈ ar := (List.mem_zipIdx' (List.mem_of_getElem? hp)).2 ▸ List.getElem_mem _
    obtain ⟨a1, a2, a3, a4⟩ := ha p hp'
    wtm_at "w"
    have b1 : inB 0 (m - 1) (.int p.1) = true := by simp [inB]; omega
    have b2 : inB 0 (m - 1) (.int p.2) = true := by simp [inB]; omega
    refine Rd.tmap D.bl (fun _ => true) D.int [p.1, p.2] rfl (fun v hv S' k => ?_) ?_
    · have b3 : inB 0 (m - 1) (.int v) = true := by
        rcases List.mem_cons.mp hv with rfl | hv
        · exact b1
        · rw [List.mem_singleton.mp hv]
          exact b2
      wtm_at "w"
      rw [b3]
      exact k
    · wtm_at "w"
      exact ⟨_, _, rfl⟩
  · rintro δ' ⟨a, b, rfl⟩
    wtm_at "w"
    exact hs
end Wb

set_option maxRecDepth 100000
set_option maxHeartbeats 4000000
namespace Tb
open PySem PySem.Spec PyProof.Rows L2 Dl Tb
local macro_rules | `(tactic| wtm_at "wh") => `(tactic| conv => whnf)
local macro_rules | `(tactic| wtm_at "ln") => `(tactic| (simp only [List.length_map, List.length_append, List.length_replicate, List.length_range, List.length_take, List.length_cons, List.length_nil, List.length_zip, sizeLine_eq]; omega))
local macro_rules | `(tactic| wtm_at "sd") => `(tactic| first | (with_reducible assumption) | (with_reducible rfl) | exact (rfl : (_ : Bool) = _) | omega | exact CMul.l (by omega) (by omega) | exact CMul.r (by omega) (by omega) | exact And.intro (by omega) (by omega) | exact Or.inl rfl | exact Or.inr rfl | exact Or.inr (And.intro rfl rfl) | exact And.intro rfl rfl | exact And.intro (fit_tII _ _) (fit_tII _ _) | exact And.intro (fit_tI _ _) (fit_tI _ _) | wtm_at "ln" | assumption)
local macro_rules | `(tactic| wtm_at "s1") => `(tactic| first
  | refine And.intro (show OkC _ _ _ by assumption) (And.intro rfl (Exists.intro _ (And.intro rfl ?_)))
  | (with_reducible first | refine Exists.intro _ (And.intro rfl ?_) | refine ⟨_, _, rfl, ?_⟩ | refine ⟨_, _, _, rfl, ?_⟩ | refine ⟨_, _, _, _, rfl, ?_⟩ | refine ⟨_, _, _, _, _, rfl, ?_⟩ | refine ⟨_, _, _, _, _, _, rfl, ?_⟩ | refine ⟨_, _, _, _, _, _, _, rfl, ?_⟩ | refine ⟨_, _, _, _, _, _, _, _, rfl, ?_⟩ | refine ⟨_, _, _, _, _, _, _, _, _, rfl, ?_⟩)
  | refine And.intro (by wtm_at "sd") ?_
  | (refine brB_t (by with_reducible assumption) ?_) | (refine brB_f (by with_reducible assumption) ?_) | (refine brB_xt (by with_reducible assumption) ?_) | (refine brB_xf (by with_reducible assumption) ?_)
  | (refine brB_pt (by first | (with_reducible assumption) | omega) ?_) | (refine brB_pf (by first | (with_reducible assumption) | omega) ?_) | (refine brB_nt (by first | (with_reducible assumption) | omega) ?_) | (refine brB_nf (by first | (with_reducible assumption) | omega) ?_))
local macro_rules | `(tactic| wtm_at "w") => `(tactic| (wtm_at "wh"; repeat (wtm_at "s1"; wtm_at "wh")))
def r_l_any  (s_l_draw : DSpec) : RdS := (Rd.ret (Rd.ix (Rd.v 1) (Rd.call s_l_draw (Rd.cons (Rd.v 0) (Rd.cons (Rd.blt Bi.len (Rd.cons (Rd.v 1) Rd.nil)) Rd.nil)))))
def r_l_led   : RdS := (Rd.ret (Rd.blt Bi.tuple (Rd.cons (Rd.lc [3] (Rd.seqJ (Rd.v 0)) (Rd.tv 3) Rd.noT (Rd.bin Op.mod (Rd.blt Bi.int (Rd.cons (Rd.blt Bi.sum (Rd.cons (Rd.lc [4, 5] (Rd.zip (Rd.v 3) (Rd.v 1)) (Rd.tt 2 (Rd.gC (Rd.tv 4) (Rd.gC (Rd.tv 5) Rd.gN))) Rd.noT (Rd.bin Op.mul (Rd.v 4) (Rd.v 5))) Rd.nil)) Rd.nil)) (Rd.v 2))) Rd.nil)))
def r_l_times   : RdS := (Rd.sq (Rd.setF 4 (Rd.dsp Rd.nil)) (Rd.sq (Rd.loop (Rd.seq (Rd.v 0)) (Rd.tv 5) (Rd.sq (Rd.setL 6 (Rd.lcF [7] (Rd.rng1 (Rd.v 2)) (Rd.tv 7) Rd.noT (Rd.blt Bi.sum (Rd.cons (Rd.lc [8] (Rd.rng1 (Rd.blt Bi.len (Rd.cons (Rd.v 1) Rd.nil))) (Rd.tv 8) Rd.noT (Rd.bin Op.mul (Rd.ix (Rd.v 5) (Rd.v 8)) (Rd.ix (Rd.ix (Rd.v 1) (Rd.v 8)) (Rd.v 7)))) Rd.nil)))) (Rd.app 4 (Rd.blt Bi.tuple (Rd.cons (Rd.lc [9] (Rd.seqJ (Rd.v 6)) (Rd.tv 9) Rd.noT (Rd.bin Op.mod (Rd.blt Bi.int (Rd.cons (Rd.v 9) Rd.nil)) (Rd.v 3))) Rd.nil))))) (Rd.ret (Rd.blt Bi.tuple (Rd.cons (Rd.v 4) Rd.nil)))))
def r_l_some_rows  (s_l_draw : DSpec) (s_l_any : DSpec) : RdS := (Rd.sq (Rd.setF 4 (Rd.dsp Rd.nil)) (Rd.sq (Rd.loop (Rd.rng1 (Rd.v 2)) (Rd.tv 5) (Rd.sq (Rd.set 6 (Rd.blt Bi.tuple (Rd.cons (Rd.lc [9] (Rd.rng1 (Rd.v 3)) (Rd.tv 9) Rd.noT (Rd.call s_l_draw (Rd.cons (Rd.v 0) (Rd.cons (Rd.v 1) Rd.nil)))) Rd.nil))) (Rd.sq (Rd.set 7 (Rd.call s_l_draw (Rd.cons (Rd.v 0) (Rd.cons (Rd.g (.int 5)) Rd.nil)))) (Rd.sq (Rd.cond (Rd.tand (Rd.tcmp Op.eq (Rd.v 7) (Rd.g (.int 0))) (Rd.tcmp Op.gt (Rd.blt Bi.len (Rd.cons (Rd.v 4) Rd.nil)) (Rd.g (.int 1)))) (Rd.sq (Rd.set 8 (Rd.call s_l_draw (Rd.cons (Rd.v 0) (Rd.cons (Rd.v 1) Rd.nil)))) (Rd.set 6 (Rd.blt Bi.tuple (Rd.cons (Rd.lc [10, 11] (Rd.zip (Rd.call s_l_any (Rd.cons (Rd.v 0) (Rd.cons (Rd.v 4) Rd.nil))) (Rd.call s_l_any (Rd.cons (Rd.v 0) (Rd.cons (Rd.v 4) Rd.nil)))) (Rd.tt 2 (Rd.gC (Rd.tv 10) (Rd.gC (Rd.tv 11) Rd.gN))) Rd.noT (Rd.bin Op.mod (Rd.blt Bi.int (Rd.cons (Rd.bin Op.add (Rd.v 10) (Rd.bin Op.mul (Rd.v 8) (Rd.v 11))) Rd.nil)) (Rd.v 1))) Rd.nil)))) Rd.skip) (Rd.app 4 (Rd.ite (Rd.tcmp Op.eq (Rd.v 7) (Rd.g (.int 1))) (Rd.bin Op.mul (Rd.tup (Rd.cons (Rd.g (.int 0)) Rd.nil)) (Rd.v 3)) (Rd.v 6))))))) (Rd.ret (Rd.blt Bi.tuple (Rd.cons (Rd.v 4) Rd.nil)))))
def r_l_size  (s_l_draw : DSpec) : RdS := (Rd.ret (Rd.ite (Rd.tcmp Op.eq (Rd.call s_l_draw (Rd.cons (Rd.v 0) (Rd.cons (Rd.g (.int 12)) Rd.nil))) (Rd.g (.int 0))) (Rd.g (.int 12)) (Rd.call s_l_draw (Rd.cons (Rd.v 0) (Rd.cons (Rd.g (.int 6)) Rd.nil)))))
def r_l_is (K : PySem.W.Frag) (CT : Addr) (s_Table : DSpec) (eo : DSpec) : RdS := (Rd.sq (Rd.cond (Rd.tor (Rd.tnot (Rd.tval (Rd.isOb K CT (Rd.v 0)))) (Rd.tcmp Op.ne (Rd.tup (Rd.cons (Rd.fld K (Rd.v 0) "prime") (Rd.cons (Rd.fld K (Rd.v 0) "wide") (Rd.cons (Rd.fld K (Rd.v 0) "high") Rd.nil)))) (Rd.tup (Rd.cons (Rd.v 1) (Rd.cons (Rd.v 2) (Rd.cons (Rd.blt Bi.len (Rd.cons (Rd.v 3) Rd.nil)) Rd.nil)))))) (Rd.ret (Rd.g (.bl false))) Rd.skip) (Rd.sq (Rd.cond (Rd.tor (Rd.tcmp Op.ne (Rd.fld K (Rd.v 0) "rows") (Rd.blt Bi.tuple (Rd.cons (Rd.v 3) Rd.nil))) (Rd.tnot (Rd.tcmp (Op.eqO eo) (Rd.v 0) (Rd.cons' s_Table (Rd.cons (Rd.v 1) (Rd.cons (Rd.v 2) (Rd.cons (Rd.blt Bi.tuple (Rd.cons (Rd.v 3) Rd.nil)) Rd.nil))))))) (Rd.ret (Rd.g (.bl false))) Rd.skip) (Rd.sq (Rd.setF 4 (Rd.dsp Rd.nil)) (Rd.sq (Rd.loop (Rd.seq (Rd.fld K (Rd.v 0) "rows")) (Rd.tv 5) (Rd.ext 4 (Rd.v 5))) (Rd.ret (Rd.blt Bi.all (Rd.cons (Rd.lc [6] (Rd.seqJ (Rd.v 4)) (Rd.tv 6) Rd.noT (Rd.and (Rd.isTy Rd.pInt (Rd.v 6)) (Rd.not (Rd.isTy Rd.pBool (Rd.v 6))))) Rd.nil)))))))
def r_l_columns_of   : RdS := (Rd.ret (Rd.blt Bi.tuple (Rd.cons (Rd.lc [2] (Rd.rng1 (Rd.v 1)) (Rd.tv 2) Rd.noT (Rd.blt Bi.tuple (Rd.cons (Rd.lc [3] (Rd.seqJ (Rd.v 0)) (Rd.tv 3) Rd.noT (Rd.ix (Rd.v 3) (Rd.v 2))) Rd.nil))) Rd.nil)))
/-! ### what the laws reckon -/
theorem ok_l_any : Okd 2 (r_l_any sp_draw) sp_any := by
  intro T ds S h
  obtain ⟨xs, rfl, h0, h1, hs⟩ := h
  wtm_at "w"
  intro v v0 v1
  have hv : v.toNat < xs.length := by omega
  have h2 : atI xs v = some xs[v.toNat] := atI_of v.toNat (by omega) (by rw [List.getElem?_eq_getElem hv])
  wtm_at "wh"
  exact ⟨_, h2, hs _ (List.getElem_mem hv)⟩
theorem ok_l_size : Okd 1 (r_l_size sp_draw) sp_size := by
  intro T ds S h
  obtain ⟨rfl, hs⟩ := h
  wtm_at "w"
  intro v v0 v1
  refine brB_p (fun h1 => ?_) (fun h1 => ?_)
  · exact hs _ (by omega) (by omega)
  · wtm_at "w"
    intro v v0 v1
    exact hs _ (by omega) (by omega)
theorem ok_l_led : Okd 6 r_l_led sp_l_led := by
  intro T ds S h
  obtain ⟨p, w, rs, x, rfl, ⟨hp, hw0, hw1, hh, hr⟩, hs⟩ := h
  have hpb := prime_b hp
  wtm_at "w"
  refine Rd.tmap D.int (fun r => dot r x % p) _ _ rfl (fun r hr' S' k => ?_) ?_
  · wtm_at "w"
    refine Rd.tmap D.int (fun q : Int × Int => q.1 * q.2) _ _ (pairs_map _ _ _ _) (fun q hq S' k => ?_) ?_
    · have h1 := (hr r hr').2 q.1 (List.of_mem_zip hq).1
      wtm_at "w"
      exact k
    · wtm_at "w"
      exact k
  · wtm_at "w"
    exact hs
theorem ok_l_columns_of : Okd 4 r_l_columns_of sp_l_columns_of := by
  intro T ds S h
  obtain ⟨p, w, rs, rfl, ⟨hp, hw0, hw1, hh, hr⟩, hs⟩ := h
  wtm_at "w"
  refine Rd.tmap tI (colAt rs) _ _ rfl (fun j hj S' k => ?_) ?_
  · have hj' := List.mem_range.mp hj
    wtm_at "w"
    refine Rd.tmap D.int (fun r : List Int => r.getD j 0) _ _ rfl (fun r hr' S' k => ?_) ?_
    · have h1 := (hr r hr').1
      have h2 : atI (r.map D.int) (0 + (j : Int)) = some (.int (r.getD j 0)) := atI_of j (by omega) (by
        rw [List.getElem?_map, List.getD_eq_getElem?_getD, List.getElem?_eq_getElem (by omega)]
        rfl)
      wtm_at "wh"
      exact ⟨_, h2, k⟩
    · wtm_at "w"
      exact k
  · wtm_at "w"
    exact hs
theorem ok_l_times : Okd 10 r_l_times sp_l_times := by
  intro T ds S h
  obtain ⟨p, w, w', rs, rs', rfl, ⟨hp, hw0, hw1, hh, hr⟩, ⟨hp', hw0', hw1', hh', hr'⟩, he, hs⟩ := h
  have hpb := prime_b hp
  have e1 : (rs'.map tI).length = rs'.length := List.length_map _
  wtm_at "w"
  refine Rd.for_ _ _ (fun i δ' => ∃ a b xs, xs = ((rs.take i).map fun r => (List.range w'.toNat).map fun j => ((List.range rs'.length).map fun k => r.getD k 0 * (rs'.getD k []).getD j 0).sum % p).map tI ∧ δ' = [some (tII rs), some (tII rs'), some (.int w'), some (.int p), some (.own xs), a, b, none, none, none]) rfl ⟨_, _, _, rfl, rfl⟩ ?_ ?_
  · rintro i r δ' hx ⟨a, b, xs, rfl, rfl⟩
    have hri := hr r (List.mem_of_getElem? hx)
    have hi := (List.getElem?_eq_some_iff.mp hx).1
    wtm_at "w"
    refine Rd.tmap D.int (fun j => ((List.range rs'.length).map fun k => r.getD k 0 * (rs'.getD k []).getD j 0).sum) _ _ rfl (fun j hj S' k => ?_) ?_
    · have hj' := List.mem_range.mp hj
      wtm_at "w"
      rw [e1, Int.toNat_natCast]
      refine Rd.tmap D.int (fun kk => r.getD kk 0 * (rs'.getD kk []).getD j 0) _ _ rfl (fun kk hk S' k => ?_) ?_
      · have hk' := List.mem_range.mp hk
        have hrk := hr' _ (List.getElem_mem hk')
        have h1 : atI (r.map D.int) (0 + (kk : Int)) = some (.int (r.getD kk 0)) := atI_of kk (by omega) (by
          rw [List.getElem?_map, List.getD_eq_getElem?_getD, List.getElem?_eq_getElem (by omega)]
          rfl)
        have h2 : atI (rs'.map tI) (0 + (kk : Int)) = some (tI (rs'.getD kk [])) := atI_of kk (by omega) (by
          rw [List.getElem?_map, List.getD_eq_getElem?_getD, List.getElem?_eq_getElem (by omega)]
          rfl)
        have h3 : atI ((rs'.getD kk []).map D.int) (0 + (j : Int)) = some (.int ((rs'.getD kk []).getD j 0)) := atI_of j (by omega) (by
          rw [List.getElem?_map, List.getD_eq_getElem?_getD (l := rs'), List.getElem?_eq_getElem hk', Option.getD_some, List.getD_eq_getElem?_getD, List.getElem?_eq_getElem (by omega)]
          rfl)
        have h4 : 0 ≤ r.getD kk 0 ∧ r.getD kk 0 < p := by
          rw [List.getD_eq_getElem?_getD, List.getElem?_eq_getElem (by omega)]
          exact hri.2 _ (List.getElem_mem _)
        wtm_at "wh"
        refine ⟨_, h1, ?_⟩
        wtm_at "wh"
        refine ⟨_, h2, ?_⟩
        wtm_at "wh"
        refine ⟨_, h3, ?_⟩
        wtm_at "w"
        exact k
      · wtm_at "w"
        exact k
    · wtm_at "w"
      refine Rd.tmap D.int (fun v => v % p) _ _ rfl (fun v hv S' k => ?_) ?_
      · wtm_at "w"
        exact k
      · wtm_at "w"
        refine ⟨_, _, _, ?_, rfl⟩
        rw [take_snoc _ hx]
        simp
  · rintro δ' ⟨a, b, xs, rfl, rfl⟩
    rw [List.take_length]
    wtm_at "w"
    refine eqS hs ?_
    simp [timesL]
theorem ok_l_is (K : PySem.W.Frag) (CT CR : Addr) (hT : TabC K CT CT) (hR : TabC K CT CR) : Okd 7 (r_l_is K CT (sp_Table CT) (sp_eq2 CT CR)) (sp_l_is CR) := by
  intro T ds S h
  obtain ⟨p, w, rs, e, rfl, he, hRs, h12, h12', hs⟩ := h
  have hC := hR.ok
  obtain ⟨hp, hw0, hw1, hh, hr⟩ := id hRs
  have hpb := prime_b hp
  have hq : (D.tup [.int p, .int w, .int rs.length]).eqv (D.tup [.int p, .int w, .int (rs.map tI).length]) = true := by simp [D.eqv, eqvs]
  have hq2 : (tII rs).eqv (tII rs) = true := by simp [eqv_tII]
  have hd : decide (p = p ∧ w = w ∧ rs = rs) = true := by simp
  rcases he with rfl | rfl
  all_goals
    wtm_at "w"
    refine ⟨_, hR.isT, hC.ob, ?_⟩
    wtm_at "w"
    refine Rd.for_ _ _ (fun i δ' => ∃ a xs, xs = ((rs.take i).flatten).map D.int ∧ δ' = [some (tab CR p w rs), some (.int p), some (.int w), some _, some (.own xs), a, none]) rfl ⟨_, _, rfl, rfl⟩ ?_ ?_
    · rintro i r δ' hx ⟨a, xs, rfl, rfl⟩
      have hri := hr r (List.mem_of_getElem? hx)
      have hi := (List.getElem?_eq_some_iff.mp hx).1
      have : (rs.take i).flatten.length ≤ 12 * 12 := flat_le _ (by simp; omega) fun r hr1 => by
        have := (hr r (List.mem_of_mem_take hr1)).1
        omega
      wtm_at "w"
      refine ⟨_, _, ?_, rfl⟩
      rw [List.take_add_one, hx]
      simp
    · rintro δ' ⟨a, xs, rfl, rfl⟩
      rw [List.take_length]
      wtm_at "w"
      refine Rd.tmap D.bl (fun _ => true) _ _ rfl (fun v hv S' k => ?_) ?_
      · wtm_at "w"
        exact k
      · wtm_at "w"
        refine eqS hs ?_
        simp
theorem ok_l_some_rows : Okd 12 (r_l_some_rows sp_draw sp_any) sp_some_rows := by
  intro T ds S h
  obtain ⟨p, h, w, rfl, hp, h0, h1, w0, w1, hs⟩ := h
  have hpb := prime_b hp
  wtm_at "w"
  refine Rd.for_ _ _ (fun i δ' => ∃ a b cc d rs, Rows p w rs ∧ rs.length = i ∧ i ≤ h.toNat ∧ δ' = [some .pur, some (.int p), some (.int h), some (.int w), some (.own (rs.map tI)), a, b, cc, d, none, none, none]) rfl ⟨_, _, _, _, [], ⟨hp, w0, by omega, by simp, by simp⟩, rfl, by omega, rfl⟩ ?_ ?_
  · rintro i j δ' hx ⟨a, b, cc, d, rs, hR, rfl, hi, rfl⟩
    have hi2 := (List.getElem?_eq_some_iff.mp hx).1
    rw [List.length_range] at hi2
    have leaf : ∀ row : List Int, (row.length : Int) = w ∧ (∀ v ∈ row, 0 ≤ v ∧ v < p) → ∀ a b cc d : Option D, ∃ a' b' cc' d' rs', Rows p w rs' ∧ rs'.length = rs.length + 1 ∧ rs.length + 1 ≤ h.toNat ∧ [some .pur, some (.int p), some (.int h), some (.int w), some (.own (rs.map tI ++ [tI row])), a, b, cc, d, none, none, none] = [some .pur, some (.int p), some (.int h), some (.int w), some (.own (rs'.map tI)), a', b', cc', d', none, none, none] := fun row hrow a b cc d => by
      obtain ⟨q1, q2, q3, q4, q5⟩ := hR
      refine ⟨a, b, cc, d, rs ++ [row], ⟨q1, q2, q3, by simp; omega, fun r hr => ?_⟩, by simp, by omega, by simp⟩
      rcases List.mem_append.mp hr with z | z
      · exact q5 r z
      · rw [List.mem_singleton.mp z]
        exact hrow
    have e1 : (rs.map tI).length = rs.length := List.length_map _
    have hz0 : ((zeros w.toNat).length : Int) = w ∧ ∀ u ∈ zeros w.toNat, 0 ≤ u ∧ u < p := by
      refine ⟨by simp [zeros]; omega, fun u hu => ?_⟩
      rw [List.eq_of_mem_replicate hu]
      omega
    wtm_at "w"
    refine Rd.tsomeN D.int (fun v => 0 ≤ v ∧ v < p) _ _ rfl (fun x hx S' k => ?_) (fun row hrow1 hrow2 => ?_)
    · wtm_at "w"
      exact fun v v0 v1 => k v ⟨v0, v1⟩
    · rw [List.length_range] at hrow1
      have hrow : (row.length : Int) = w ∧ (∀ v ∈ row, 0 ≤ v ∧ v < p) := ⟨by omega, hrow2⟩
      wtm_at "w"
      intro v v0 v1
      wtm_at "wh"
      refine brB_p (fun g1 => ?_) (fun g1 => ?_)
      · wtm_at "wh"
        refine brB_p (fun g2 => ?_) (fun g2 => ?_)
        · wtm_at "w"
          intro u u0 u1
          wtm_at "w"
          intro y1 hy1
          obtain ⟨r1, hr1, rfl⟩ := List.mem_map.mp hy1
          refine ⟨noL_tI r1, ?_⟩
          wtm_at "w"
          intro y2 hy2
          obtain ⟨r2, hr2, rfl⟩ := List.mem_map.mp hy2
          refine ⟨noL_tI r2, ?_⟩
          wtm_at "w"
          have k1 := hR.2.2.2.2 r1 hr1
          have k2 := hR.2.2.2.2 r2 hr2
          refine Rd.tmap D.int (fun q : Int × Int => (q.1 + u * q.2) % p) _ _ (pairs_map _ _ _ _) (fun q hq S' k => ?_) ?_
          · have := k2.2 q.2 (List.of_mem_zip hq).2
            wtm_at "w"
            exact k
          · have hrow3 : ((((r1.zip r2).map fun q => (q.1 + u * q.2) % p)).length : Int) = w ∧ ∀ t ∈ ((r1.zip r2).map fun q => (q.1 + u * q.2) % p), 0 ≤ t ∧ t < p := by
              refine ⟨by simp; omega, fun t ht => ?_⟩
              obtain ⟨q, _, rfl⟩ := List.mem_map.mp ht
              exact ⟨Int.emod_nonneg _ (by omega), Int.emod_lt_of_pos _ (by omega)⟩
            wtm_at "w"
            exact leaf _ hrow3 _ _ _ _
        · wtm_at "w"
          exact leaf _ hrow _ _ _ _
      · wtm_at "wh"
        refine brB_p (fun g2 => ?_) (fun g2 => ?_)
        · wtm_at "w"
          exact leaf _ hz0 _ _ _ _
        · wtm_at "w"
          exact leaf _ hrow _ _ _ _
  · rintro δ' ⟨a, b, cc, d, rs, hR, h1, h2, rfl⟩
    rw [List.length_range] at h1
    wtm_at "w"
    exact hs rs hR (by omega)
end Tb

set_option maxRecDepth 100000
set_option maxHeartbeats 4000000
namespace Wb
open PySem PySem.Spec PyProof.Rows L2 Dl Tb
local macro_rules | `(tactic| wtm_at "wh") => `(tactic| conv => whnf)
local macro_rules | `(tactic| wtm_at "ln") => `(tactic| (simp only [List.length_map, List.length_append, List.length_replicate, List.length_range, List.length_take, List.length_cons, List.length_nil, List.length_zip, sizeLine_eq]; omega))
local macro_rules | `(tactic| wtm_at "sd") => `(tactic| first | (with_reducible assumption) | (with_reducible rfl) | exact (rfl : (_ : Bool) = _) | omega | exact CMul.l (by omega) (by omega) | exact CMul.r (by omega) (by omega) | exact And.intro (by omega) (by omega) | exact Or.inl rfl | exact Or.inr rfl | exact Or.inr (And.intro rfl rfl) | exact And.intro rfl rfl | exact And.intro (fit_tII _ _) (fit_tII _ _) | exact And.intro (fit_tI _ _) (fit_tI _ _) | wtm_at "ln" | assumption)
local macro_rules | `(tactic| wtm_at "s1") => `(tactic| first
  | refine And.intro (show OkC _ _ _ by assumption) (And.intro rfl (Exists.intro _ (And.intro rfl ?_)))
  | (with_reducible first | refine Exists.intro _ (And.intro rfl ?_) | refine ⟨_, _, rfl, ?_⟩ | refine ⟨_, _, _, rfl, ?_⟩ | refine ⟨_, _, _, _, rfl, ?_⟩ | refine ⟨_, _, _, _, _, rfl, ?_⟩ | refine ⟨_, _, _, _, _, _, rfl, ?_⟩ | refine ⟨_, _, _, _, _, _, _, rfl, ?_⟩ | refine ⟨_, _, _, _, _, _, _, _, rfl, ?_⟩ | refine ⟨_, _, _, _, _, _, _, _, _, rfl, ?_⟩)
  | refine And.intro (by wtm_at "sd") ?_
  | (refine brB_t (by with_reducible assumption) ?_) | (refine brB_f (by with_reducible assumption) ?_) | (refine brB_xt (by with_reducible assumption) ?_) | (refine brB_xf (by with_reducible assumption) ?_)
  | (refine brB_pt (by first | (with_reducible assumption) | omega) ?_) | (refine brB_pf (by first | (with_reducible assumption) | omega) ?_) | (refine brB_nt (by first | (with_reducible assumption) | omega) ?_) | (refine brB_nf (by first | (with_reducible assumption) | omega) ?_))
local macro_rules | `(tactic| wtm_at "w") => `(tactic| (wtm_at "wh"; repeat (wtm_at "s1"; wtm_at "wh")))
/-! ### purses: contracts -/
abbrev sp_mixed : DSpec := fun ds S _ => ∃ xs, ds = [.pur, .lst xs] ∧ xs.length < 1000 ∧ ∀ ys : List D, ys.length = xs.length → (∀ y ∈ ys, y ∈ xs) → S (.lst ys)
def deepD : Nat → D
  | 0 => .tup []
  | n + 1 => .tup [deepD n]
abbrev sp_deep : DSpec := fun ds S _ => ∃ n : Nat, ds = [.int n] ∧ n ≤ 40 ∧ S (deepD n)
def oddL : List D := [.non, .bl true, .bl false, .str "", .str "1", .lst [], .dck [] [], .tup [.non], .tup [.str "0"], .tup [.bl true], deepD 38, .int 100000000000]
abbrev sp_odd : DSpec := fun ds S _ => ds = [.pur] ∧ ∀ d ∈ oddL, S d
def r_l_one   (s_l_part : DSpec) : RdS := (Rd.ret (Rd.ix (Rd.v 1) (Rd.call s_l_part (Rd.cons (Rd.v 0) (Rd.cons (Rd.blt Bi.len (Rd.cons (Rd.v 1) Rd.nil)) Rd.nil)))))
def r_l_mixed   (s_l_part : DSpec) : RdS := (Rd.sq (Rd.par2F 2 3 (Rd.listF (Rd.v 1)) (Rd.dsp Rd.nil)) (Rd.sq (Rd.whil (Rd.tcmp Op.gt (Rd.blt Bi.len (Rd.cons (Rd.v 2) Rd.nil)) (Rd.g (.int 0))) (Rd.appPop 3 2 (Rd.call s_l_part (Rd.cons (Rd.v 0) (Rd.cons (Rd.blt Bi.len (Rd.cons (Rd.v 2) Rd.nil)) Rd.nil))))) (Rd.ret (Rd.v 3))))
def r_l_deep    : RdS := (Rd.sq (Rd.set 1 (Rd.tup Rd.nil)) (Rd.sq (Rd.loop (Rd.rng1 (Rd.v 0)) (Rd.tv 2) (Rd.set 1 (Rd.tup (Rd.cons (Rd.v 1) Rd.nil)))) (Rd.ret (Rd.v 1))))
def r_l_odd   (s_l_deep : DSpec) (s_l_one : DSpec) : RdS := (Rd.ret (Rd.call s_l_one (Rd.cons (Rd.v 0) (Rd.cons (Rd.lst (Rd.cons (Rd.g .non) (Rd.cons (Rd.g (.bl true)) (Rd.cons (Rd.g (.bl false)) (Rd.cons (Rd.g (.str "")) (Rd.cons (Rd.g (.str "1")) (Rd.cons (Rd.lst Rd.nil) (Rd.cons (Rd.g (.dck [] [])) (Rd.cons (Rd.tup (Rd.cons (Rd.g .non) Rd.nil)) (Rd.cons (Rd.tup (Rd.cons (Rd.g (.str "0")) Rd.nil)) (Rd.cons (Rd.tup (Rd.cons (Rd.g (.bl true)) Rd.nil)) (Rd.cons (Rd.call s_l_deep (Rd.cons (Rd.g (.int 38)) Rd.nil)) (Rd.cons (Rd.bin Op.pow (Rd.g (.int 10)) (Rd.g (.int 11))) Rd.nil))))))))))))) Rd.nil))))
theorem ok_l_one : Okd 2 (r_l_one sp_draw) sp_any := by
  intro T ds S h
  obtain ⟨xs, rfl, h0, h1, hs⟩ := h
  wtm_at "w"
  intro v v0 v1
  have hv : v.toNat < xs.length := by omega
  have h2 : atI xs v = some xs[v.toNat] := atI_of v.toNat (by omega) (by rw [List.getElem?_eq_getElem hv])
  wtm_at "wh"
  exact ⟨_, h2, hs _ (List.getElem_mem hv)⟩
theorem whil_ {t : RdT} {body : RdS} {T : XD} {δ : List (Option D)} {E : SE} (I : Nat → List (Option D) → Prop) (m0 : Nat) (h0 : I m0 δ) (hs : ∀ m δ', I m δ' → t T δ' fun b => brB b (body T δ' { E with nx := fun δ2 => ∃ m', m' < m ∧ I m' δ2, ct := fun δ2 => ∃ m', m' < m ∧ I m' δ2, bk := E.nx }) (E.nx δ')) : Rd.whilG t body T δ E := by
  unfold Rd.whilG
  exact ⟨I, m0, h0, hs⟩
theorem ok_l_mixed : Okd 4 (r_l_mixed sp_draw) sp_mixed := by
  intro T ds S h
  obtain ⟨xs, rfl, h1, hs⟩ := h
  wtm_at "w"
  refine whil_ (fun m δ' => ∃ ls fs : List D, δ' = [some .pur, some (.lst xs), some (.own ls), some (.own fs)] ∧ ls.length = m ∧ ls.length + fs.length = xs.length ∧ (∀ y ∈ ls, y ∈ xs) ∧ ∀ y ∈ fs, y ∈ xs) xs.length ⟨xs, [], rfl, rfl, by simp, fun y h => h, by simp⟩ ?_
  rintro m δ' ⟨ls, fs, rfl, hm, hl, h2, h3⟩
  wtm_at "w"
  refine brB_p (fun h4 => ?_) (fun h4 => ?_)
  · have h5 : (0 : Int) < ls.length := h4
    have h6 : (ls.length : Int) < 1000000 := by omega
    wtm_at "wh"
    refine ⟨_, rfl, h5, h6, ?_⟩
    intro v v0 v1
    have hv : v.toNat < ls.length := by omega
    have e1 : ls[v.toNat]? = some ls[v.toNat] := List.getElem?_eq_getElem hv
    wtm_at "wh"
    refine ⟨_, _, ⟨by omega, by omega⟩, rfl, e1, by rw [sizeLine_eq]; omega, ?_⟩
    wtm_at "w"
    refine ⟨m - 1, by omega, _, _, rfl, by rw [List.length_eraseIdx_of_lt hv]; omega, by rw [List.length_eraseIdx_of_lt hv, List.length_append, List.length_singleton]; omega, fun y hy => h2 y (List.mem_of_mem_eraseIdx hy), fun y hy => ?_⟩
    rcases List.mem_append.mp hy with hy | hy
    · exact h3 y hy
    · rw [List.mem_singleton.mp hy]
      exact h2 _ (List.getElem_mem hv)
  · wtm_at "w"
    exact hs fs (by omega) h3
theorem deep_tup : ∀ n, ∃ xs, deepD n = .tup xs
  | 0 => ⟨[], rfl⟩
  | n + 1 => ⟨[deepD n], rfl⟩
theorem ok_l_deep : Okd 3 r_l_deep sp_deep := by
  intro T ds S h
  obtain ⟨n, rfl, h1, hs⟩ := h
  wtm_at "w"
  refine Rd.for_ (fun k : Nat => D.int (0 + (k : Int))) (List.range n) (fun i δ' => ∃ a, δ' = [some (.int n), some (deepD i), a]) ?_ ⟨_, rfl⟩ ?_ ?_
  · simp
  · rintro i k δ' hk ⟨a, rfl⟩
    obtain ⟨xs, e⟩ := deep_tup i
    rw [e]
    wtm_at "w"
    refine ⟨some (.int (0 + (k : Int))), ?_⟩
    rw [← e]
    rfl
  · rintro δ' ⟨a, rfl⟩
    rw [List.length_range]
    obtain ⟨xs, e⟩ := deep_tup n
    rw [e] at hs ⊢
    wtm_at "w"
    exact hs
theorem ok_l_odd : Okd 1 (r_l_odd sp_deep sp_any) sp_odd := by
  intro T ds S h
  obtain ⟨rfl, hs⟩ := h
  wtm_at "w"
  intro x hx
  have e : (10 : Int) ^ Int.toNat 11 = 100000000000 := by decide
  rw [e] at hx
  exact hs x hx
end Wb

set_option maxRecDepth 100000
set_option maxHeartbeats 4000000
namespace Tb
open PySem PySem.Spec PyProof.Rows L2 Dl Tb
local macro_rules | `(tactic| wtm_at "wh") => `(tactic| conv => whnf)
local macro_rules | `(tactic| wtm_at "ln") => `(tactic| (simp only [List.length_map, List.length_append, List.length_replicate, List.length_range, List.length_take, List.length_cons, List.length_nil, List.length_zip, sizeLine_eq]; omega))
local macro_rules | `(tactic| wtm_at "sd") => `(tactic| first | (with_reducible assumption) | (with_reducible rfl) | exact (rfl : (_ : Bool) = _) | omega | exact CMul.l (by omega) (by omega) | exact CMul.r (by omega) (by omega) | exact And.intro (by omega) (by omega) | exact Or.inl rfl | exact Or.inr rfl | exact Or.inr (And.intro rfl rfl) | exact And.intro rfl rfl | exact And.intro (fit_tII _ _) (fit_tII _ _) | exact And.intro (fit_tI _ _) (fit_tI _ _) | wtm_at "ln" | assumption)
local macro_rules | `(tactic| wtm_at "s1") => `(tactic| first
  | refine And.intro (show OkC _ _ _ by assumption) (And.intro rfl (Exists.intro _ (And.intro rfl ?_)))
  | (with_reducible first | refine Exists.intro _ (And.intro rfl ?_) | refine ⟨_, _, rfl, ?_⟩ | refine ⟨_, _, _, rfl, ?_⟩ | refine ⟨_, _, _, _, rfl, ?_⟩ | refine ⟨_, _, _, _, _, rfl, ?_⟩ | refine ⟨_, _, _, _, _, _, rfl, ?_⟩ | refine ⟨_, _, _, _, _, _, _, rfl, ?_⟩ | refine ⟨_, _, _, _, _, _, _, _, rfl, ?_⟩ | refine ⟨_, _, _, _, _, _, _, _, _, rfl, ?_⟩)
  | refine And.intro (by wtm_at "sd") ?_
  | (refine brB_t (by with_reducible assumption) ?_) | (refine brB_f (by with_reducible assumption) ?_) | (refine brB_xt (by with_reducible assumption) ?_) | (refine brB_xf (by with_reducible assumption) ?_)
  | (refine brB_pt (by first | (with_reducible assumption) | omega) ?_) | (refine brB_pf (by first | (with_reducible assumption) | omega) ?_) | (refine brB_nt (by first | (with_reducible assumption) | omega) ?_) | (refine brB_nf (by first | (with_reducible assumption) | omega) ?_))
local macro_rules | `(tactic| wtm_at "w") => `(tactic| (wtm_at "wh"; repeat (wtm_at "s1"; wtm_at "wh")))
def r_Table_eq (K : PySem.W.Frag) (CT : Addr)  : RdS := (Rd.sq (Rd.cond (Rd.tnot (Rd.tval (Rd.isOb K CT (Rd.v 1)))) (Rd.ret (Rd.g (.bl false))) Rd.skip) (Rd.ret (Rd.bin Op.eq (Rd.tup (Rd.cons (Rd.fld K (Rd.v 0) "prime") (Rd.cons (Rd.fld K (Rd.v 0) "wide") (Rd.cons (Rd.fld K (Rd.v 0) "rows") Rd.nil)))) (Rd.tup (Rd.cons (Rd.fld K (Rd.v 1) "prime") (Rd.cons (Rd.fld K (Rd.v 1) "wide") (Rd.cons (Rd.fld K (Rd.v 1) "rows") Rd.nil)))))))
theorem ok_Table_eq (K : PySem.W.Frag) (CT : Addr) : Okd 2 (r_Table_eq K CT) (sp_eq K CT) := by
  intro T ds S h
  obtain ⟨C, C', p, w, rs, p', w', rs', rfl, hC, hC', hs⟩ := h
  have hC1 := hC'.ok
  wtm_at "w"
  refine ⟨_, hC'.isT, hC'.ok.ob, ?_⟩
  wtm_at "w"
  have q : ∀ (p w : Int) (rs : List (List Int)), fit 64 (D.tup [.int p, .int w, tII rs]) = true := fun p w rs => by
    show (true && (true && (fit 63 (tII rs) && true))) = true
    rw [fit_tII 61 rs]
    rfl
  refine ⟨⟨q _ _ _, q _ _ _⟩, ?_⟩
  refine eqS hs ?_
  simp [D.eqv, eqvs, eqvs_map tI eqv_tI]
  rfl
/-- == in a frame, by __eq__ of both classes -/
theorem eqO_at {F : Fr} {k : Nat} {CT CR : Addr} (hT : TabC F.K CT CT) (hR : TabC F.K CT CR) (M1 : Mt F.P F.w F.K F.mg F.base F.U k CT "__eq__" 2 (sp_eq F.K CT)) (M2 : Mt F.P F.w F.K F.mg F.base F.U k CR "__eq__" 2 (sp_eq F.K CT)) (hk : k ≤ F.lv)
    (n1 : PySem.W.notFirst F.K CT (.ref CT) = true) (n3 : PySem.W.notFirst F.K CR (.ref CT) = true) (n4 : PySem.W.notFirst F.K CR (.ref CR) = true) : OpAt F (compareOp .Eq) (Op.eqO (sp_eq2 CT CR)) := fun {X T} c hx {S x y} h => by
  cases x with
  | obj C ns ds =>
    obtain ⟨_, C1, C', p, w, rs, p', w', rs', e, h1, h2, hs⟩ := stP_ok h
    injection e with e1 e2
    injection e2 with e2 e3
    subst e2
    cases e1
    have fin : ∀ C1, OkC F.K C1 tabN → TabC F.K CT C' → sp_eq F.K CT [tab C1 p w rs, tab C' p' w' rs'] (fun d => ∃ b, d = .bl b ∧ S (.bl b)) T := fun C1 o o' => ⟨C1, C', p, w, rs, p', w', rs', rfl, o, o', hs⟩
    rcases h2 with h2 | ⟨h2, h3⟩
    · rw [h2] at fin ⊢
      rcases h1 with h1 | h1 <;> rw [h1]
      · exact EqO hx M1 hk hT.ok.cls rfl n1 (fin _ hT.ok hT)
      · exact EqO hx M2 hk hR.ok.cls rfl n3 (fin _ hR.ok hT)
    · rw [h2, h3]
      rw [h2] at fin
      exact EqO hx M2 hk hR.ok.cls rfl n4 (fin _ hR.ok hR)
  | _ => exact od_eq h
end Tb

set_option maxRecDepth 100000
set_option maxHeartbeats 4000000
namespace K32
open PySem PySem.Spec PyProof.Rows L2 Dl Tb Wb
local macro_rules | `(tactic| wtm_at "wh") => `(tactic| conv => whnf)
local macro_rules | `(tactic| wtm_at "ln") => `(tactic| (simp only [List.length_map, List.length_append, List.length_replicate, List.length_range, List.length_take, List.length_cons, List.length_nil, List.length_zip, sizeLine_eq]; omega))
local macro_rules | `(tactic| wtm_at "sd") => `(tactic| first | (with_reducible assumption) | (with_reducible rfl) | exact (rfl : (_ : Bool) = _) | omega | exact CMul.l (by omega) (by omega) | exact CMul.r (by omega) (by omega) | exact And.intro (by omega) (by omega) | exact Or.inl rfl | exact Or.inr rfl | exact Or.inr (And.intro rfl rfl) | exact And.intro rfl rfl | exact And.intro (fit_tII _ _) (fit_tII _ _) | exact And.intro (fit_tI _ _) (fit_tI _ _) | wtm_at "ln" | assumption)
local macro_rules | `(tactic| wtm_at "s1") => `(tactic| first
  | refine And.intro (show OkC _ _ _ by assumption) (And.intro rfl (Exists.intro _ (And.intro rfl ?_)))
  | (with_reducible first | refine Exists.intro _ (And.intro rfl ?_) | refine ⟨_, _, rfl, ?_⟩ | refine ⟨_, _, _, rfl, ?_⟩ | refine ⟨_, _, _, _, rfl, ?_⟩ | refine ⟨_, _, _, _, _, rfl, ?_⟩ | refine ⟨_, _, _, _, _, _, rfl, ?_⟩ | refine ⟨_, _, _, _, _, _, _, rfl, ?_⟩ | refine ⟨_, _, _, _, _, _, _, _, rfl, ?_⟩ | refine ⟨_, _, _, _, _, _, _, _, _, rfl, ?_⟩)
  | refine And.intro (by wtm_at "sd") ?_
  | (refine brB_t (by with_reducible assumption) ?_) | (refine brB_f (by with_reducible assumption) ?_) | (refine brB_xt (by with_reducible assumption) ?_) | (refine brB_xf (by with_reducible assumption) ?_)
  | (refine brB_pt (by first | (with_reducible assumption) | omega) ?_) | (refine brB_pf (by first | (with_reducible assumption) | omega) ?_) | (refine brB_nt (by first | (with_reducible assumption) | omega) ?_) | (refine brB_nf (by first | (with_reducible assumption) | omega) ?_))
local macro_rules | `(tactic| wtm_at "w") => `(tactic| (wtm_at "wh"; repeat (wtm_at "s1"; wtm_at "wh")))
/-! ### lines: words, webs, pictures -/
abbrev picN : List Str := ["web", "prime", "sizes", "tables"]
/-- the word of some signs -/
def W (bs : List Bool) : Str := ⟨(bs.map fun b => if b then 62 else 60).toArray⟩
def arw (a : Bool × Nat) : Int × Int := if a.1 then ((a.2 : Int), (a.2 : Int) + 1) else ((a.2 : Int) + 1, (a.2 : Int))
def arr (bs : List Bool) : List (Int × Int) := bs.zipIdx.map arw
abbrev sp_RawWeb (C : Addr) : DSpec := fun ds S _ => ∃ m ar, ds = [.int m, tP ar] ∧ S (web C m ar)
abbrev sp_line (CV EW : Addr) : DSpec := fun ds S T => ∃ d, ds = [d] ∧ d.still = true ∧ d.kn = true ∧ (∀ z, d = .str z → z.length ≤ 1000) ∧ (∀ bs : List Bool, d = .str (W bs) → bs.length ≤ 7 → S (web CV (bs.length + 1) (arr bs))) ∧ ((∀ bs : List Bool, d = .str (W bs) → 7 < bs.length) → T (.ref EW) none)
def isLn (m : Int) (ar : List (Int × Int)) : Bool := decide ((ar.length : Int) = m - 1) && (ar.zipIdx.map fun a => decide (a.1 = ((a.2 : Int), (a.2 : Int) + 1) ∨ a.1 = ((a.2 : Int) + 1, (a.2 : Int)))).all id
abbrev sp_is_line (K : PySem.W.Frag) : DSpec := fun ds S _ => ∃ C m ar, ds = [web C m ar] ∧ OkC K C webN ∧ WebOk m ar ∧ S (.bl (isLn m ar))
abbrev sp_check_prime (EP : Addr) : DSpec := fun ds S T => ∃ d, ds = [d] ∧ d.still = true ∧ d.kn = true ∧ (isP d = true → S .non) ∧ (isP d = false → T (.ref EP) none)
def okSt (m : Int) : D → D → Bool
  | .int b, .int e => decide (0 ≤ b ∧ b ≤ e ∧ e ≤ m - 1)
  | _, _ => false
abbrev sp_check_stretch (K : PySem.W.Frag) (ES : Addr) : DSpec := fun ds S T => ∃ C m ar b e, ds = [web C m ar, b, e] ∧ OkC K C webN ∧ WebOk m ar ∧ b.still = true ∧ b.kn = true ∧ e.still = true ∧ e.kn = true ∧ (okSt m b e = true → S .non) ∧ (okSt m b e = false → T (.ref ES) none)
def szs (m b e : Int) : List Int := (List.range m.toNat).map fun (k : Nat) => if b ≤ k ∧ (k : Int) ≤ e then 1 else 0
def szAt (m b e k : Int) : Int := (szs m b e).getD k.toNat 0
def tbs (CR : Addr) (p m b e : Int) (ar : List (Int × Int)) : List D := ar.map fun a => if szAt m b e a.1 + szAt m b e a.2 = 2 then tab CR p 1 (plainR 1) else tab CR p (szAt m b e a.1) (noughtR (szAt m b e a.2).toNat (szAt m b e a.1).toNat)
abbrev pic (C : Addr) (w : D) (p : Int) (sz : List Int) (ts : List D) : D := .obj C picN [w, .int p, tI sz, .tup ts]
abbrev sp_keepP (C : Addr) : DSpec := fun ds S _ => ∃ C' m ar p sz ts, ds = [web C' m ar, .int p, tI sz, .tup ts] ∧ S (pic C (web C' m ar) p sz ts)
abbrev sp_raw_bar (K : PySem.W.Frag) (CR CQ : Addr) : DSpec := fun ds S _ => ∃ C m ar p b e, ds = [web C m ar, .int p, .int b, .int e] ∧ OkC K C webN ∧ WebOk m ar ∧ p ∈ primes ∧ S (pic CQ (web C m ar) p (szs m b e) (tbs CR p m b e ar))
abbrev sp_bar_of (K : PySem.W.Frag) (CR CQ EL EP ES : Addr) : DSpec := fun ds S T => ∃ C m ar p b e, ds = [web C m ar, p, b, e] ∧ OkC K C webN ∧ WebOk m ar ∧ p.still = true ∧ p.kn = true ∧ b.still = true ∧ b.kn = true ∧ e.still = true ∧ e.kn = true ∧
  (∀ p' b' e', p = .int p' → b = .int b' → e = .int e' → isLn m ar = true → isP p = true → okSt m b e = true → S (pic CQ (web C m ar) p' (szs m b' e') (tbs CR p' m b' e' ar))) ∧
  (isLn m ar = false → T (.ref EL) none) ∧ (isLn m ar = true → isP p = false → T (.ref EP) none) ∧ (isLn m ar = true → isP p = true → okSt m b e = false → T (.ref ES) none)
structure WebC (K : PySem.W.Frag) (CW C : Addr) : Prop where
  ok : OkC K C webN
  isT : PySem.W.kitOne K (.ref C) (.ref CW) = some true
abbrev sp_eqWb (K : PySem.W.Frag) (CW : Addr) : DSpec := fun ds S _ => ∃ C C' m ar m' ar', ds = [web C m ar, web C' m' ar'] ∧ OkC K C webN ∧ WebC K CW C' ∧ S (.bl (decide (m = m' ∧ ar = ar')))
abbrev sp_eqW2 (CW CV : Addr) : DSpec := fun ds S _ => ∃ C C' m ar m' ar', ds = [web C m ar, web C' m' ar'] ∧ (C = CW ∨ C = CV) ∧ (C' = CW ∨ C' = CV ∧ C = CV) ∧ S (.bl (decide (m = m' ∧ ar = ar')))
abbrev sp_t : DSpec := fun ds S _ => ds = [.pur] ∧ S (.bl true)
def r_check_prime  (EP : Addr) (s_is_prime : DSpec) : RdS := (Rd.cond (Rd.tnot (Rd.tval (Rd.call s_is_prime (Rd.cons (Rd.v 0) Rd.nil)))) (Rd.raise EP) Rd.skip)
def r_line  (EW : Addr) (s_RawWeb : DSpec) : RdS := (Rd.sq (Rd.cond (Rd.tor (Rd.tnot (Rd.tval (Rd.isTy Rd.pStr (Rd.v 0)))) (Rd.tcmp Op.gt (Rd.blt Bi.len (Rd.cons (Rd.v 0) Rd.nil)) (Rd.bin Op.sub (Rd.g (.int 8)) (Rd.g (.int 1))))) (Rd.raise EW) Rd.skip) (Rd.sq (Rd.cond (Rd.tnot (Rd.tval (Rd.blt Bi.all (Rd.cons (Rd.lc [3] (Rd.strJ (Rd.v 0)) (Rd.tv 3) Rd.noT (Rd.bin Op.isinS (Rd.v 3) (Rd.bin Op.add (Rd.g (.str ">")) (Rd.g (.str "<"))))) Rd.nil)))) (Rd.raise EW) Rd.skip) (Rd.sq (Rd.setL 1 (Rd.lcF [2, 3] (Rd.enumS (Rd.v 0)) (Rd.tt 2 (Rd.gC (Rd.tv 2) (Rd.gC (Rd.tv 3) Rd.gN))) Rd.noT (Rd.ite (Rd.tcmp Op.eq (Rd.v 3) (Rd.g (.str ">"))) (Rd.tup (Rd.cons (Rd.v 2) (Rd.cons (Rd.bin Op.add (Rd.v 2) (Rd.g (.int 1))) Rd.nil))) (Rd.tup (Rd.cons (Rd.bin Op.add (Rd.v 2) (Rd.g (.int 1))) (Rd.cons (Rd.v 2) Rd.nil)))))) (Rd.ret (Rd.cons' s_RawWeb (Rd.cons (Rd.bin Op.add (Rd.blt Bi.len (Rd.cons (Rd.v 0) Rd.nil)) (Rd.g (.int 1))) (Rd.cons (Rd.blt Bi.tuple (Rd.cons (Rd.v 1) Rd.nil)) Rd.nil)))))))
def r_is_line (K : PySem.W.Frag)    : RdS := (Rd.sq (Rd.cond (Rd.tcmp Op.ne (Rd.blt Bi.len (Rd.cons (Rd.fld K (Rd.v 0) "arrows") Rd.nil)) (Rd.bin Op.sub (Rd.fld K (Rd.v 0) "many") (Rd.g (.int 1)))) (Rd.ret (Rd.g (.bl false))) Rd.skip) (Rd.ret (Rd.blt Bi.all (Rd.cons (Rd.lc [1, 2] (Rd.enum (Rd.fld K (Rd.v 0) "arrows")) (Rd.tt 2 (Rd.gC (Rd.tv 1) (Rd.gC (Rd.tv 2) Rd.gN))) Rd.noT (Rd.bin Op.isinT (Rd.v 2) (Rd.tup (Rd.cons (Rd.tup (Rd.cons (Rd.v 1) (Rd.cons (Rd.bin Op.add (Rd.v 1) (Rd.g (.int 1))) Rd.nil))) (Rd.cons (Rd.tup (Rd.cons (Rd.bin Op.add (Rd.v 1) (Rd.g (.int 1))) (Rd.cons (Rd.v 1) Rd.nil))) Rd.nil))))) Rd.nil))))
def r_check_stretch (K : PySem.W.Frag)  (ES : Addr) (s_is_number : DSpec) : RdS := (Rd.cond (Rd.tor (Rd.tnot (Rd.tval (Rd.call s_is_number (Rd.cons (Rd.v 1) (Rd.cons (Rd.bin Op.sub (Rd.fld K (Rd.v 0) "many") (Rd.g (.int 1))) Rd.nil))))) (Rd.tor (Rd.tnot (Rd.tval (Rd.call s_is_number (Rd.cons (Rd.v 2) (Rd.cons (Rd.bin Op.sub (Rd.fld K (Rd.v 0) "many") (Rd.g (.int 1))) Rd.nil))))) (Rd.tcmp Op.gt (Rd.v 1) (Rd.v 2)))) (Rd.raise ES) Rd.skip)
def r_raw_bar (K : PySem.W.Frag)   (s_raw_plain : DSpec) (s_raw_nought : DSpec) (s_RawPicture : DSpec) : RdS := (Rd.sq (Rd.set 4 (Rd.blt Bi.tuple (Rd.cons (Rd.lc [9] (Rd.rng1 (Rd.fld K (Rd.v 0) "many")) (Rd.tv 9) Rd.noT (Rd.blt Bi.int (Rd.cons (Rd.chain Op.le Op.le (Rd.v 2) (Rd.v 9) (Rd.v 3)) Rd.nil))) Rd.nil))) (Rd.sq (Rd.setF 5 (Rd.dsp Rd.nil)) (Rd.sq (Rd.loop (Rd.seq (Rd.fld K (Rd.v 0) "arrows")) (Rd.tt 2 (Rd.gC (Rd.tv 6) (Rd.gC (Rd.tv 7) Rd.gN))) (Rd.sq (Rd.set 8 (Rd.bin Op.eq (Rd.bin Op.add (Rd.ix (Rd.v 4) (Rd.v 6)) (Rd.ix (Rd.v 4) (Rd.v 7))) (Rd.g (.int 2)))) (Rd.app 5 (Rd.ite (Rd.tval (Rd.v 8)) (Rd.call s_raw_plain (Rd.cons (Rd.v 1) (Rd.cons (Rd.g (.int 1)) Rd.nil))) (Rd.call s_raw_nought (Rd.cons (Rd.v 1) (Rd.cons (Rd.ix (Rd.v 4) (Rd.v 7)) (Rd.cons (Rd.ix (Rd.v 4) (Rd.v 6)) Rd.nil)))))))) (Rd.ret (Rd.cons' s_RawPicture (Rd.cons (Rd.v 0) (Rd.cons (Rd.v 1) (Rd.cons (Rd.v 4) (Rd.cons (Rd.blt Bi.tuple (Rd.cons (Rd.v 5) Rd.nil)) Rd.nil)))))))))
def r_bar_of  (EL : Addr) (s_is_line : DSpec) (s_check_prime : DSpec) (s_check_stretch : DSpec) (s_raw_bar : DSpec) : RdS := (Rd.sq (Rd.cond (Rd.tnot (Rd.tval (Rd.call s_is_line (Rd.cons (Rd.v 0) Rd.nil)))) (Rd.raise EL) Rd.skip) (Rd.sq (Rd.ex (Rd.call s_check_prime (Rd.cons (Rd.v 1) Rd.nil))) (Rd.sq (Rd.ex (Rd.call s_check_stretch (Rd.cons (Rd.v 0) (Rd.cons (Rd.v 2) (Rd.cons (Rd.v 3) Rd.nil))))) (Rd.ret (Rd.call s_raw_bar (Rd.cons (Rd.v 0) (Rd.cons (Rd.v 1) (Rd.cons (Rd.v 2) (Rd.cons (Rd.v 3) Rd.nil)))))))))
def r_l_word_right   (s_l_part : DSpec) (s_l_one : DSpec) (s_line : DSpec) (s_Web : DSpec) (s_l_odd : DSpec) (eo : DSpec) (Wd : Value → Str → Prop) : RdS := (Rd.sq (Rd.set 1 (Rd.joinS (Rd.g (.str "")) (Rd.lc [6] (Rd.rng1 (Rd.call s_l_part (Rd.cons (Rd.v 0) (Rd.cons (Rd.g (.int 8)) Rd.nil)))) (Rd.tv 6) Rd.noT (Rd.call s_l_one (Rd.cons (Rd.v 0) (Rd.cons (Rd.lst (Rd.cons (Rd.g (.str "<")) (Rd.cons (Rd.g (.str ">")) Rd.nil))) Rd.nil)))))) (Rd.sq (Rd.set 2 (Rd.call s_line (Rd.cons (Rd.v 1) Rd.nil))) (Rd.sq (Rd.set 3 (Rd.blt Bi.tuple (Rd.cons (Rd.lc [7] (Rd.rng1 (Rd.blt Bi.len (Rd.cons (Rd.v 1) Rd.nil))) (Rd.tv 7) Rd.noT (Rd.ite (Rd.tcmp Op.eq (Rd.ixS (Rd.v 1) (Rd.v 7)) (Rd.g (.str ">"))) (Rd.tup (Rd.cons (Rd.v 7) (Rd.cons (Rd.bin Op.add (Rd.v 7) (Rd.g (.int 1))) Rd.nil))) (Rd.tup (Rd.cons (Rd.bin Op.add (Rd.v 7) (Rd.g (.int 1))) (Rd.cons (Rd.v 7) Rd.nil))))) Rd.nil))) (Rd.sq (Rd.cond (Rd.tnot (Rd.tcmp (Op.eqO eo) (Rd.v 2) (Rd.cons' s_Web (Rd.cons (Rd.bin Op.add (Rd.blt Bi.len (Rd.cons (Rd.v 1) Rd.nil)) (Rd.g (.int 1))) (Rd.cons (Rd.v 3) Rd.nil))))) (Rd.ret (Rd.g (.bl false))) Rd.skip) (Rd.sq (Rd.set 4 (Rd.lst (Rd.cons (Rd.bin Op.add (Rd.v 1) (Rd.g (.str "a"))) (Rd.cons (Rd.bin Op.add (Rd.v 1) (Rd.g (.str " "))) (Rd.cons (Rd.bin Op.mulS (Rd.g (.str ">")) (Rd.g (.int 8))) (Rd.cons (Rd.bin Op.mulS (Rd.g (.str "<")) (Rd.g (.int 9))) (Rd.cons (Rd.bin Op.add (Rd.v 1) (Rd.g (.str "
"))) (Rd.cons (Rd.g (.str "-")) (Rd.cons (Rd.g (.int 1)) (Rd.cons (Rd.g .non) (Rd.cons (Rd.tup (Rd.cons (Rd.g (.str ">")) Rd.nil)) (Rd.cons (Rd.lst (Rd.cons (Rd.v 1) Rd.nil)) (Rd.cons (Rd.call s_l_odd (Rd.cons (Rd.v 0) Rd.nil)) Rd.nil))))))))))))) (Rd.sq (Rd.set 5 (Rd.call s_l_one (Rd.cons (Rd.v 0) (Rd.cons (Rd.v 4) Rd.nil)))) (Rd.ret (Rd.bin (Op.eqO eo) (Rd.word Wd "let" (Rd.call s_line (Rd.cons (Rd.v 5) Rd.nil))) (Rd.ite (Rd.tand (Rd.tval (Rd.isTy Rd.pStr (Rd.v 5))) (Rd.tcmp (Op.eqO eo) (Rd.v 5) (Rd.g (.str "")))) (Rd.g (.str "let")) (Rd.g (.str "word")))))))))))
def r_l_bar_right (K : PySem.W.Frag) (CP : Addr)  (s_l_part : DSpec) (s_l_one : DSpec) (s_line : DSpec) (s_bar_of : DSpec) (eo : DSpec) : RdS := (Rd.sq (Rd.set 1 (Rd.joinS (Rd.g (.str "")) (Rd.lc [12] (Rd.rng1 (Rd.call s_l_part (Rd.cons (Rd.v 0) (Rd.cons (Rd.g (.int 8)) Rd.nil)))) (Rd.tv 12) Rd.noT (Rd.call s_l_one (Rd.cons (Rd.v 0) (Rd.cons (Rd.lst (Rd.cons (Rd.g (.str "<")) (Rd.cons (Rd.g (.str ">")) Rd.nil))) Rd.nil)))))) (Rd.sq (Rd.unp (Rd.tup (Rd.cons (Rd.call s_line (Rd.cons (Rd.v 1) Rd.nil)) (Rd.cons (Rd.call s_l_one (Rd.cons (Rd.v 0) (Rd.cons (Rd.lst (Rd.cons (Rd.g (.int 2)) (Rd.cons (Rd.g (.int 3)) (Rd.cons (Rd.g (.int 5)) (Rd.cons (Rd.g (.int 7)) (Rd.cons (Rd.g (.int 11)) (Rd.cons (Rd.g (.int 13)) Rd.nil))))))) Rd.nil))) (Rd.cons (Rd.bin Op.add (Rd.blt Bi.len (Rd.cons (Rd.v 1) Rd.nil)) (Rd.g (.int 1))) Rd.nil)))) (Rd.tt 3 (Rd.gC (Rd.tv 2) (Rd.gC (Rd.tv 3) (Rd.gC (Rd.tv 4) Rd.gN))))) (Rd.sq (Rd.set 5 (Rd.call s_l_part (Rd.cons (Rd.v 0) (Rd.cons (Rd.v 4) Rd.nil)))) (Rd.sq (Rd.set 6 (Rd.bin Op.add (Rd.v 5) (Rd.call s_l_part (Rd.cons (Rd.v 0) (Rd.cons (Rd.bin Op.sub (Rd.v 4) (Rd.v 5)) Rd.nil))))) (Rd.sq (Rd.set 7 (Rd.call s_bar_of (Rd.cons (Rd.v 2) (Rd.cons (Rd.v 3) (Rd.cons (Rd.v 5) (Rd.cons (Rd.v 6) Rd.nil)))))) (Rd.sq (Rd.cond (Rd.tor (Rd.tnot (Rd.tval (Rd.isOb K CP (Rd.v 7)))) (Rd.tor (Rd.tnot (Rd.tcmp (Op.eqO eo) (Rd.fld K (Rd.v 7) "web") (Rd.v 2))) (Rd.tcmp Op.ne (Rd.fld K (Rd.v 7) "prime") (Rd.v 3)))) (Rd.ret (Rd.g (.bl false))) Rd.skip) (Rd.sq (Rd.set 8 (Rd.blt Bi.tuple (Rd.cons (Rd.lc [13] (Rd.rng1 (Rd.v 4)) (Rd.tv 13) Rd.noT (Rd.blt Bi.int (Rd.cons (Rd.chain Op.le Op.le (Rd.v 5) (Rd.v 13) (Rd.v 6)) Rd.nil))) Rd.nil))) (Rd.sq (Rd.setL 9 (Rd.lcF [10, 11] (Rd.seqJ (Rd.fld K (Rd.v 2) "arrows")) (Rd.tt 2 (Rd.gC (Rd.tv 10) (Rd.gC (Rd.tv 11) Rd.gN))) Rd.noT (Rd.bin Op.mul (Rd.tup (Rd.cons (Rd.bin Op.mul (Rd.tup (Rd.cons (Rd.g (.int 1)) Rd.nil)) (Rd.ix (Rd.v 8) (Rd.v 10))) Rd.nil)) (Rd.ix (Rd.v 8) (Rd.v 11))))) (Rd.sq (Rd.cond (Rd.tor (Rd.tcmp Op.ne (Rd.fld K (Rd.v 7) "sizes") (Rd.v 8)) (Rd.tcmp Op.ne (Rd.lc [14] (Rd.seqJ (Rd.fld K (Rd.v 7) "tables")) (Rd.tv 14) Rd.noT (Rd.fld K (Rd.v 14) "rows")) (Rd.v 9))) (Rd.ret (Rd.g (.bl false))) Rd.skip) (Rd.ret (Rd.bin (Op.eqO eo) (Rd.lc [14] (Rd.seqJ (Rd.fld K (Rd.v 7) "tables")) (Rd.tv 14) Rd.noT (Rd.tup (Rd.cons (Rd.fld K (Rd.v 14) "prime") (Rd.cons (Rd.fld K (Rd.v 14) "wide") Rd.nil)))) (Rd.lc [10, 11] (Rd.seqJ (Rd.fld K (Rd.v 2) "arrows")) (Rd.tt 2 (Rd.gC (Rd.tv 10) (Rd.gC (Rd.tv 11) Rd.gN))) Rd.noT (Rd.tup (Rd.cons (Rd.v 3) (Rd.cons (Rd.ix (Rd.v 8) (Rd.v 10)) Rd.nil)))))))))))))))
def r_l_refused_right   (s_line : DSpec) (s_Web : DSpec) (s_l_odd : DSpec) (s_l_part : DSpec) (s_l_one : DSpec) (s_bar_of : DSpec) (Wd : Value → Str → Prop) : RdS := (Rd.sq (Rd.unp (Rd.tup (Rd.cons (Rd.call s_line (Rd.cons (Rd.g (.str "><>")) Rd.nil)) (Rd.cons (Rd.g (.int 3)) (Rd.cons (Rd.tup (Rd.cons (Rd.g (.int 1)) (Rd.cons (Rd.g (.int 2)) Rd.nil))) Rd.nil)))) (Rd.tt 3 (Rd.gC (Rd.tv 1) (Rd.gC (Rd.tv 2) (Rd.gC (Rd.tv 3) Rd.gN))))) (Rd.sq (Rd.setF 4 (Rd.dsp (Rd.cons (Rd.cons' s_Web (Rd.cons (Rd.g (.int 3)) (Rd.cons (Rd.tup (Rd.cons (Rd.tup (Rd.cons (Rd.g (.int 0)) (Rd.cons (Rd.g (.int 1)) Rd.nil))) (Rd.cons (Rd.tup (Rd.cons (Rd.g (.int 0)) (Rd.cons (Rd.g (.int 2)) Rd.nil))) Rd.nil))) Rd.nil))) (Rd.cons (Rd.cons' s_Web (Rd.cons (Rd.g (.int 2)) (Rd.cons (Rd.tup (Rd.cons (Rd.tup (Rd.cons (Rd.g (.int 0)) (Rd.cons (Rd.g (.int 1)) Rd.nil))) (Rd.cons (Rd.tup (Rd.cons (Rd.g (.int 0)) (Rd.cons (Rd.g (.int 1)) Rd.nil))) Rd.nil))) Rd.nil))) (Rd.cons (Rd.cons' s_Web (Rd.cons (Rd.g (.int 1)) (Rd.cons (Rd.tup (Rd.cons (Rd.tup (Rd.cons (Rd.g (.int 0)) (Rd.cons (Rd.g (.int 0)) Rd.nil))) Rd.nil)) Rd.nil))) (Rd.cons (Rd.cons' s_Web (Rd.cons (Rd.g (.int 3)) (Rd.cons (Rd.tup (Rd.cons (Rd.tup (Rd.cons (Rd.g (.int 1)) (Rd.cons (Rd.g (.int 2)) Rd.nil))) (Rd.cons (Rd.tup (Rd.cons (Rd.g (.int 0)) (Rd.cons (Rd.g (.int 1)) Rd.nil))) Rd.nil))) Rd.nil))) Rd.nil)))))) (Rd.sq (Rd.app 4 (Rd.cons' s_Web (Rd.cons (Rd.g (.int 2)) (Rd.cons (Rd.tup Rd.nil) Rd.nil)))) (Rd.sq (Rd.set 5 (Rd.lst (Rd.cons (Rd.tup (Rd.cons (Rd.g (.int 2)) (Rd.cons (Rd.g (.int 1)) Rd.nil))) (Rd.cons (Rd.tup (Rd.cons (Rd.un Op.neg (Rd.g (.int 1))) (Rd.cons (Rd.g (.int 2)) Rd.nil))) (Rd.cons (Rd.tup (Rd.cons (Rd.g (.int 1)) (Rd.cons (Rd.g (.int 4)) Rd.nil))) (Rd.cons (Rd.tup (Rd.cons (Rd.g (.bl true)) (Rd.cons (Rd.g (.int 2)) Rd.nil))) (Rd.cons (Rd.tup (Rd.cons (Rd.g (.int 1)) (Rd.cons (Rd.g .non) Rd.nil))) (Rd.cons (Rd.tup (Rd.cons (Rd.call s_l_odd (Rd.cons (Rd.v 0) Rd.nil)) (Rd.cons (Rd.g (.int 2)) Rd.nil))) (Rd.cons (Rd.tup (Rd.cons (Rd.g (.int 0)) (Rd.cons (Rd.bin Op.pow (Rd.g (.int 10)) (Rd.g (.int 11))) Rd.nil))) (Rd.cons (Rd.tup (Rd.cons (Rd.g (.str "0")) (Rd.cons (Rd.g (.int 1)) Rd.nil))) Rd.nil)))))))))) (Rd.sq (Rd.set 6 (Rd.lst (Rd.cons (Rd.bin Op.eq (Rd.call s_l_part (Rd.cons (Rd.v 0) (Rd.cons (Rd.g (.int 2)) Rd.nil))) (Rd.g (.int 0))) (Rd.cons (Rd.bin Op.eq (Rd.call s_l_part (Rd.cons (Rd.v 0) (Rd.cons (Rd.g (.int 2)) Rd.nil))) (Rd.g (.int 0))) (Rd.cons (Rd.bin Op.eq (Rd.call s_l_part (Rd.cons (Rd.v 0) (Rd.cons (Rd.g (.int 2)) Rd.nil))) (Rd.g (.int 0))) Rd.nil))))) (Rd.sq (Rd.frzS (Rd.set 1 (Rd.ite (Rd.tval (Rd.ix (Rd.v 6) (Rd.g (.int 0)))) (Rd.call s_l_one (Rd.cons (Rd.v 0) (Rd.cons (Rd.v 4) Rd.nil))) (Rd.v 1)))) (Rd.sq (Rd.set 2 (Rd.ite (Rd.tval (Rd.ix (Rd.v 6) (Rd.g (.int 1)))) (Rd.call s_l_one (Rd.cons (Rd.v 0) (Rd.cons (Rd.lst (Rd.cons (Rd.g (.int 1)) (Rd.cons (Rd.g (.int 4)) (Rd.cons (Rd.g (.int 9)) (Rd.cons (Rd.g (.int 17)) (Rd.cons (Rd.g (.int 0)) (Rd.cons (Rd.g (.bl true)) (Rd.cons (Rd.call s_l_odd (Rd.cons (Rd.v 0) Rd.nil)) Rd.nil)))))))) Rd.nil))) (Rd.v 2))) (Rd.sq (Rd.unp (Rd.ite (Rd.tval (Rd.ix (Rd.v 6) (Rd.g (.int 2)))) (Rd.call s_l_one (Rd.cons (Rd.v 0) (Rd.cons (Rd.v 5) Rd.nil))) (Rd.v 3)) (Rd.tt 2 (Rd.gC (Rd.tv 7) (Rd.gC (Rd.tv 8) Rd.gN)))) (Rd.sq (Rd.set 9 (Rd.ite (Rd.tcmp Op.isin (Rd.g (.bl true)) (Rd.v 6)) (Rd.ix (Rd.lst (Rd.cons (Rd.g (.str "line")) (Rd.cons (Rd.g (.str "prime")) (Rd.cons (Rd.g (.str "stretch")) Rd.nil)))) (Rd.idxB (Rd.v 6) (Rd.g (.bl true)))) (Rd.g (.str "let")))) (Rd.ret (Rd.bin Op.eq (Rd.word Wd "let" (Rd.call s_bar_of (Rd.cons (Rd.v 1) (Rd.cons (Rd.v 2) (Rd.cons (Rd.v 7) (Rd.cons (Rd.v 8) Rd.nil)))))) (Rd.v 9))))))))))))
def r_law   (s_l_word_right : DSpec) (s_l_bar_right : DSpec) (s_l_refused_right : DSpec) : RdS := (Rd.sq (Rd.loop (Rd.rng1 (Rd.g (.int 5))) (Rd.tv 2) (Rd.cond (Rd.tor (Rd.tnot (Rd.tval (Rd.call s_l_word_right (Rd.cons (Rd.v 1) Rd.nil)))) (Rd.tor (Rd.tnot (Rd.tval (Rd.call s_l_bar_right (Rd.cons (Rd.v 1) Rd.nil)))) (Rd.tnot (Rd.tval (Rd.call s_l_refused_right (Rd.cons (Rd.v 1) Rd.nil)))))) (Rd.ret (Rd.g (.bl false))) Rd.skip)) (Rd.ret (Rd.g (.bl true))))
def r_RawWeb_init (CV : Addr)   : RdBs := (Rd.bgo (Rd.bset webN "many" (Rd.v 1) (Rd.bset webN "arrows" (Rd.v 2) (Rd.bnil CV))))
def r_Web_eq (K : PySem.W.Frag) (CW : Addr)  : RdS := (Rd.ret (Rd.and (Rd.isOb K CW (Rd.v 1)) (Rd.bin Op.eq (Rd.tup (Rd.cons (Rd.fld K (Rd.v 0) "many") (Rd.cons (Rd.fld K (Rd.v 0) "arrows") Rd.nil))) (Rd.tup (Rd.cons (Rd.fld K (Rd.v 1) "many") (Rd.cons (Rd.fld K (Rd.v 1) "arrows") Rd.nil))))))
theorem eqv_pr (a b : Int × Int) : (pr a).eqv (pr b) = decide (a = b) := by
  obtain ⟨a1, a2⟩ := a
  obtain ⟨b1, b2⟩ := b
  simp [D.eqv, eqvs]
  rfl
theorem eqv_tP (a b : List (Int × Int)) : (tP a).eqv (tP b) = decide (a = b) := by
  show eqvs (a.map pr) (b.map pr) = _
  exact eqvs_map pr eqv_pr a b
theorem fit_pr (n : Nat) (a : Int × Int) : fit (n + 1) (pr a) = true := by
  show (fit n (.int a.1) && (fit n (.int a.2) && true)) = true
  cases n <;> rfl
theorem fit_tP (n : Nat) (ar : List (Int × Int)) : fit (n + 2) (tP ar) = true := fits_all _ _ fun d hd => by
  obtain ⟨a, _, rfl⟩ := List.mem_map.mp hd
  exact fit_pr n a
theorem ok_Web_eq (K : PySem.W.Frag) (CW : Addr) : Okd 2 (r_Web_eq K CW) (sp_eqWb K CW) := by
  intro T ds S h
  obtain ⟨C, C', m, ar, m', ar', rfl, hC, hC', hs⟩ := h
  have hC1 := hC'.ok
  wtm_at "w"
  refine ⟨_, hC'.isT, hC'.ok.ob, ?_⟩
  wtm_at "w"
  have q : ∀ (m : Int) (ar : List (Int × Int)), fit 64 (D.tup [.int m, tP ar]) = true := fun m ar => by
    show (true && (fit 63 (tP ar) && true)) = true
    rw [fit_tP 61 ar]
    rfl
  refine ⟨⟨q _ _, q _ _⟩, ?_⟩
  refine eqS hs ?_
  have e : (D.tup [.int m, tP ar]).eqv (D.tup [.int m', tP ar']) = (decide (m = m') && ((tP ar).eqv (tP ar') && true)) := rfl
  rw [e, eqv_tP]
  simp
theorem eqW_at {F : Fr} {k : Nat} {CW CV : Addr} (hT : WebC F.K CW CW) (hR : WebC F.K CW CV) (M1 : Mt F.P F.w F.K F.mg F.base F.U k CW "__eq__" 2 (sp_eqWb F.K CW)) (M2 : Mt F.P F.w F.K F.mg F.base F.U k CV "__eq__" 2 (sp_eqWb F.K CW)) (hk : k ≤ F.lv)
    (n1 : PySem.W.notFirst F.K CW (.ref CW) = true) (n3 : PySem.W.notFirst F.K CV (.ref CW) = true) (n4 : PySem.W.notFirst F.K CV (.ref CV) = true) : OpAt F (compareOp .Eq) (Op.eqO (sp_eqW2 CW CV)) := fun {X T} c hx {S x y} h => by
  cases x with
  | obj C ns ds =>
    obtain ⟨_, C1, C', m, ar, m', ar', e, h1, h2, hs⟩ := stP_ok h
    injection e with e1 e2
    injection e2 with e2 e3
    subst e2
    cases e1
    have fin : ∀ C1, OkC F.K C1 webN → WebC F.K CW C' → sp_eqWb F.K CW [web C1 m ar, web C' m' ar'] (fun d => ∃ b, d = .bl b ∧ S (.bl b)) T := fun C1 o o' => ⟨C1, C', m, ar, m', ar', rfl, o, o', hs⟩
    rcases h2 with h2 | ⟨h2, h3⟩
    · rw [h2] at fin ⊢
      rcases h1 with h1 | h1 <;> rw [h1]
      · exact EqO hx M1 hk hT.ok.cls rfl n1 (fin _ hT.ok hT)
      · exact EqO hx M2 hk hR.ok.cls rfl n3 (fin _ hR.ok hT)
    · rw [h2, h3]
      rw [h2] at fin
      exact EqO hx M2 hk hR.ok.cls rfl n4 (fin _ hR.ok hR)
  | _ => exact od_eq h
theorem ok_RawWeb_init (C : Addr) : Okb 3 (r_RawWeb_init C) (sp_RawWeb C) := by
  intro T o ds S h
  obtain ⟨m, ar, rfl, hs⟩ := h
  wtm_at "w"
  exact hs
theorem ok_check_prime (EP : Addr) : Okd 1 (r_check_prime EP sp_is_prime) (sp_check_prime EP) := by
  intro T ds S h
  obtain ⟨d, rfl, hst, hk, hs, ht⟩ := h
  cases d with
  | int i =>
    cases e : isP (.int i) with
    | true =>
      have e1 := e
      wtm_at "w"
      exact hs e
    | false =>
      have e1 := e
      wtm_at "w"
      exact ht e
  | _ => first | (cases hst; done) | (cases hk; done) | (wtm_at "w"; exact ht rfl)
/-! signs -/
theorem occ0 (k : Nat) (h1 : k ≠ 62) (h2 : k ≠ 60) : (Builtin.Str.occurrences ⟨#[62, 60]⟩ ⟨#[k]⟩ 0 2 1) = [] := by
  have e : ({ cps := #[k] } : Str).length = 1 := rfl
  unfold Builtin.Str.occurrences
  simp [Id.run, Std.Legacy.Range.forIn_eq_forIn_range', List.range', Builtin.Str.subAt, Std.Legacy.Range.size, e, Ne.symm h1, Ne.symm h2]
  rfl
theorem occ_any (k : Nat) : (!(Builtin.Str.occurrences ((">" : Str) ++ ("<" : Str)) ⟨#[k]⟩ 0 ((">" : Str) ++ ("<" : Str)).length 1).isEmpty) = (k == 62 || k == 60) := by
  by_cases h1 : k = 62
  · subst h1; decide +kernel
  · by_cases h2 : k = 60
    · subst h2; decide +kernel
    · have e1 : (k == 62) = false := by simpa using h1
      have e2 : (k == 60) = false := by simpa using h2
      rw [e1, e2]
      have e := occ0 k h1 h2
      show (!(Builtin.Str.occurrences ⟨#[62, 60]⟩ ⟨#[k]⟩ 0 2 1).isEmpty) = _
      rw [e]
      rfl
theorem W_len (bs : List Bool) : (W bs).length = bs.length := by simp [W, Str.length]
theorem W_of {z : Str} (h : (z.cps.toList.map fun k => k == 62 || k == 60).all id = true) : ∃ bs : List Bool, z = W bs ∧ bs = z.cps.toList.map fun k => k == 62 := by
  refine ⟨_, ?_, rfl⟩
  obtain ⟨a⟩ := z
  unfold W
  congr 1
  apply Array.ext'
  simp only [List.map_map]
  have key : ∀ l : List Nat, (l.map fun k => k == 62 || k == 60).all id = true → l = l.map ((fun b => if b = true then 62 else 60) ∘ fun k => k == 62) := fun l => by
    induction l with
    | nil => intro _; rfl
    | cons k l ih =>
      intro h
      simp only [List.map_cons, List.all_cons, Bool.and_eq_true] at h
      rw [List.map_cons, ← ih h.2]
      congr 1
      have h1 := h.1
      simp at h1
      rcases h1 with rfl | rfl <;> rfl
  exact key _ h
theorem W_sg {bs : List Bool} : ((W bs).cps.toList.map fun k => k == 62 || k == 60).all id = true := by
  simp [W]
theorem W_bs (bs : List Bool) : ((W bs).cps.toList.map fun k => k == 62) = bs := by
  unfold W
  simp only [List.map_map]
  have key : ∀ l : List Bool, l.map ((fun k => k == 62) ∘ fun b => if b = true then 62 else 60) = l := fun l => by
    induction l with
    | nil => rfl
    | cons b l ih =>
      rw [List.map_cons, ih]
      cases b <;> rfl
  exact key bs
theorem chD_W (bs : List Bool) : chD (W bs) = bs.map fun b => D.str ⟨#[if b then 62 else 60]⟩ := by simp [chD, W]
theorem ok_line (CV EW : Addr) : Okd 4 (r_line EW (sp_RawWeb CV)) (sp_line CV EW) := by
  intro T ds S h
  obtain ⟨d, rfl, hst, hk, hz, hs, ht⟩ := h
  cases d with
  | str z =>
    have hz := hz z rfl
    have hzl : z.length ≤ sizeLine := by have := sizeLine_eq; omega
    wtm_at "w"
    refine brB_p (fun g => ?_) (fun g => ?_)
    · wtm_at "w"
      exact ht fun bs e => by cases e; rw [W_len] at g; omega
    · wtm_at "w"
      refine Rd.tmap D.bl (fun k : Nat => k == 62 || k == 60) _ _ rfl (fun k hk' S' kk => ?_) ?_
      · wtm_at "wh"
        refine ⟨by decide, ?_⟩
        wtm_at "w"
        exact eqS kk (congrArg D.bl (occ_any k))
      · wtm_at "w"
        cases e : (z.cps.toList.map fun k : Nat => k == 62 || k == 60).all id with
        | false =>
          have e1 := e
          wtm_at "w"
          exact ht fun bs e2 => by
            cases e2
            rw [W_sg] at e
            cases e
        | true =>
          obtain ⟨bs, rfl, hbs⟩ := W_of e
          rw [W_len] at g hz
          wtm_at "w"
          rw [chD_W]
          refine Rd.tmap pr arw _ _ (numbered_map _ _) (fun a ha S' k => ?_) ?_
          · obtain ⟨b, i⟩ := a
            cases b
            · have f1 : (D.str ⟨#[60]⟩).eqv (.str ">") = false := by decide +kernel
              wtm_at "w"
              refine ⟨⟨by simp [fit]; decide +kernel, by simp [fit]; decide +kernel⟩, ?_⟩
              wtm_at "w"
              exact k
            · have f1 : (D.str ⟨#[62]⟩).eqv (.str ">") = true := by decide +kernel
              wtm_at "w"
              refine ⟨⟨by simp [fit]; decide +kernel, by simp [fit]; decide +kernel⟩, ?_⟩
              wtm_at "w"
              exact k
          · have hsw := hs bs rfl (by omega)
            rw [← W_len bs] at hsw
            wtm_at "w"
            exact hsw
  | _ => first | (cases hst; done) | (cases hk; done) | (wtm_at "w"; exact ht fun bs e => by cases e)
theorem ok_is_line (K : PySem.W.Frag) : Okd 3 (r_is_line K) (sp_is_line K) := by
  intro T ds S h
  obtain ⟨C, m, ar, rfl, hC, hW, hs⟩ := h
  obtain ⟨h1, h2, h3, h4⟩ := hW
  have e1 : (ar.map pr).length = ar.length := List.length_map _
  wtm_at "w"
  refine brB_p (fun g => ?_) (fun g => ?_)
  · wtm_at "w"
    refine eqS hs ?_
    unfold isLn
    rw [decide_eq_false (by omega)]
    rfl
  · have g1 : (ar.length : Int) = m - 1 := by omega
    wtm_at "w"
    refine Rd.tmap D.bl (fun a : (Int × Int) × Nat => decide (a.1 = ((a.2 : Int), (a.2 : Int) + 1) ∨ a.1 = ((a.2 : Int) + 1, (a.2 : Int)))) _ _ (numbered_map _ _) (fun a ha S' k => ?_) ?_
    · obtain ⟨⟨x, y⟩, i⟩ := a
      wtm_at "wh"
      refine ⟨⟨by simp [fit, fits], by simp [fit, fits]⟩, ?_⟩
      refine eqS k ?_
      have q : ∀ a b : Int × Int, (D.tup [.int a.1, .int a.2]).eqv (D.tup [.int b.1, .int b.2]) = decide (a = b) := eqv_pr
      have e : ([D.tup [.int (i : Nat), .int ((i : Nat) + 1)], D.tup [.int ((i : Nat) + 1), .int (i : Nat)]].any fun e => e.eqv (pr (x, y))) = ((pr ((i : Int), (i : Int) + 1)).eqv (pr (x, y)) || ((pr ((i : Int) + 1, (i : Int))).eqv (pr (x, y)) || false)) := rfl
      refine congrArg D.bl (e.trans ?_)
      rw [eqv_pr, eqv_pr, Bool.or_false, ← Bool.decide_or]
      exact decide_eq_decide.mpr ⟨fun h => h.imp Eq.symm Eq.symm, fun h => h.imp Eq.symm Eq.symm⟩
    · wtm_at "w"
      refine eqS hs ?_
      unfold isLn
      rw [decide_eq_true g1]
      rfl
theorem ok_check_stretch (K : PySem.W.Frag) (ES : Addr) : Okd 3 (r_check_stretch K ES sp_is_number) (sp_check_stretch K ES) := by
  intro T ds S h
  obtain ⟨C, m, ar, b, e, rfl, hC, hW, b1, b2, e1, e2, hs, ht⟩ := h
  cases b with
  | int b =>
    by_cases g : 0 ≤ b ∧ b ≤ m - 1
    · have g1 : inB 0 (m - 1) (.int b) = true := by simp [inB]; omega
      cases e with
      | int e =>
        by_cases g2 : 0 ≤ e ∧ e ≤ m - 1
        · have g3 : inB 0 (m - 1) (.int e) = true := by simp [inB]; omega
          wtm_at "w"
          refine brB_p (fun g4 => ?_) (fun g4 => ?_)
          · wtm_at "w"
            exact ht (by simp [okSt]; omega)
          · wtm_at "w"
            exact hs (by simp [okSt]; omega)
        · have g3 : inB 0 (m - 1) (.int e) = false := by simp [inB]; omega
          wtm_at "w"
          exact ht (by simp [okSt]; omega)
      | _ => first | (cases e1; done) | (cases e2; done) | (wtm_at "w"; exact ht rfl)
    · have g1 : inB 0 (m - 1) (.int b) = false := by simp [inB]; omega
      have g2 : okSt m (.int b) e = false := by
        cases e <;> first | rfl | (simp [okSt]; omega)
      wtm_at "w"
      exact ht g2
  | _ => first | (cases b1; done) | (cases b2; done) | (wtm_at "w"; exact ht rfl)
theorem szs_len (m b e : Int) : (szs m b e).length = m.toNat := by simp [szs]
theorem szAt_of {m b e k : Int} (h0 : 0 ≤ k) (h1 : k < m) : szAt m b e k = if b ≤ k ∧ k ≤ e then 1 else 0 := by
  unfold szAt szs
  rw [List.getD_eq_getElem?_getD, List.getElem?_map, List.getElem?_range (by omega)]
  show (if b ≤ ((k.toNat : Nat) : Int) ∧ ((k.toNat : Nat) : Int) ≤ e then (1 : Int) else 0) = _
  rw [show ((k.toNat : Nat) : Int) = k by omega]
theorem szAt_b {m b e k : Int} (h0 : 0 ≤ k) (h1 : k < m) : 0 ≤ szAt m b e k ∧ szAt m b e k ≤ 1 := by
  rw [szAt_of h0 h1]
  split <;> omega
theorem szs_at {m b e k : Int} (h0 : 0 ≤ k) (h1 : k < m) : atI ((szs m b e).map D.int) k = some (.int (szAt m b e k)) := atI_of k.toNat (by omega) (by
  have hl : k.toNat < (szs m b e).length := by rw [szs_len]; omega
  rw [List.getElem?_map, List.getElem?_eq_getElem hl]
  unfold szAt
  rw [List.getD_eq_getElem?_getD, List.getElem?_eq_getElem hl]
  rfl)
theorem ok_raw_bar (K : PySem.W.Frag) (CR CQ : Addr) : Okd 10 (r_raw_bar K (sp_plain CR) (sp_nought CR) (sp_keepP CQ)) (sp_raw_bar K CR CQ) := by
  intro T ds S h
  obtain ⟨C, m, ar, p, b, e, rfl, hC, hW, hp, hs⟩ := h
  obtain ⟨h1, h2, h3, h4⟩ := id hW
  wtm_at "w"
  refine Rd.tmap D.int (fun k : Nat => if b ≤ k ∧ (k : Int) ≤ e then 1 else 0) _ _ rfl (fun k hk S' kk => ?_) ?_
  · wtm_at "w"
    refine brB_p (fun g => ?_) (fun g => ?_)
    · wtm_at "w"
      refine eqS kk (congrArg D.int ?_)
      have g3 : b ≤ (k : Int) := by omega
      simp [g3]
    · wtm_at "w"
      refine eqS kk ?_
      rw [if_neg (fun z : b ≤ (k : Int) ∧ (k : Int) ≤ e => g (by omega))]
      rfl
  wtm_at "w"
  refine Rd.for_ pr ar (fun i δ' => ∃ a6 a7 a8, δ' = [some (web C m ar), some (.int p), some (.int b), some (.int e), some (tI (szs m b e)), some (.own (tbs CR p m b e (ar.take i))), a6, a7, a8, none]) rfl ⟨_, _, _, rfl⟩ ?_ ?_
  · rintro i ⟨x, y⟩ δ' hx ⟨a6, a7, a8, rfl⟩
    obtain ⟨x0, x1, y0, y1⟩ := h4 _ (List.mem_of_getElem? hx)
    have hi := (List.getElem?_eq_some_iff.mp hx).1
    have gx := szs_at (b := b) (e := e) x0 x1
    have gy := szs_at (b := b) (e := e) y0 y1
    have bx := szAt_b (b := b) (e := e) x0 x1
    have by' := szAt_b (b := b) (e := e) y0 y1
    have e2 : (tbs CR p m b e (ar.take i)).length = (ar.take i).length := by simp [tbs]
    have e3 : (ar.take i).length ≤ 12 := by simp; omega
    have leaf : ∀ d : D, d = (if szAt m b e x + szAt m b e y = 2 then tab CR p 1 (plainR 1) else tab CR p (szAt m b e x) (noughtR (szAt m b e y).toNat (szAt m b e x).toNat)) → tbs CR p m b e (ar.take i) ++ [d] = tbs CR p m b e (ar.take (i + 1)) := fun d hd => by
      rw [List.take_add_one, hx, hd]
      simp [tbs]
    wtm_at "wh"
    refine ⟨_, gx, ?_⟩
    wtm_at "wh"
    refine ⟨_, gy, ?_⟩
    wtm_at "w"
    refine brB_p (fun g => ?_) (fun g => ?_)
    · wtm_at "w"
      rw [leaf _ (by rw [if_pos g]; rfl)]
      exact ⟨_, _, _, rfl⟩
    · wtm_at "wh"
      refine ⟨_, gy, ?_⟩
      wtm_at "wh"
      refine ⟨_, gx, ?_⟩
      wtm_at "w"
      rw [leaf _ (by rw [if_neg g])]
      exact ⟨_, _, _, rfl⟩
  · rintro δ' ⟨a6, a7, a8, rfl⟩
    rw [List.take_length]
    wtm_at "w"
    exact hs
theorem ok_bar_of (K : PySem.W.Frag) (CR CQ EL EP ES : Addr) : Okd 4 (r_bar_of EL (sp_is_line K) (sp_check_prime EP) (sp_check_stretch K ES) (sp_raw_bar K CR CQ)) (sp_bar_of K CR CQ EL EP ES) := by
  intro T ds S h
  obtain ⟨C, m, ar, p, b, e, rfl, hC, hW, p1, p2, b1, b2, e1, e2, hs, t1, t2, t3⟩ := h
  cases q1 : isLn m ar with
  | false =>
    have q := q1
    wtm_at "w"
    exact t1 q1
  | true =>
    have q := q1
    have st1 : stills [p] = true := by simp [stills, p1]
    have st2 : stills [web C m ar, b, e] = true := by
      show ((web C m ar).still && (b.still && (e.still && true))) = true
      rw [b1, e1]
      rfl
    wtm_at "w"
    rw [st1]
    wtm_at "w"
    refine ⟨fun g1 => ?_, fun g1 => t2 q1 g1⟩
    wtm_at "w"
    rw [st2]
    wtm_at "w"
    refine ⟨fun g2 => ?_, fun g2 => t3 q1 g1 g2⟩
    have hp : ∃ i : Int, p = .int i ∧ i ∈ primes := by
      cases p <;> first | cases g1 | skip
      exact ⟨_, rfl, by simp [isP] at g1; simp [primes]; omega⟩
    obtain ⟨p', rfl, hp⟩ := hp
    have hb : ∃ i j : Int, b = .int i ∧ e = .int j := by
      cases b <;> first | cases g2 | skip
      cases e <;> first | cases g2 | skip
      exact ⟨_, _, rfl, rfl⟩
    obtain ⟨b', e', rfl, rfl⟩ := hb
    have hss := hs p' b' e' rfl rfl rfl q1 g1 g2
    wtm_at "w"
    exact hss
abbrev sg (b : Bool) : Str := if b then (">" : Str) else ("<" : Str)
theorem W_cons (b : Bool) (bs : List Bool) : sg b ++ ("" : Str) ++ W bs = W (b :: bs) := by
  cases b
  · show (⟨#[60] ++ #[] ++ (W bs).cps⟩ : Str) = _
    unfold W
    simp
  · show (⟨#[62] ++ #[] ++ (W bs).cps⟩ : Str) = _
    unfold W
    simp
theorem join_W0 : ∀ bs : List Bool, Str.join ("" : Str) (bs.map sg) = W bs
  | [] => rfl
  | [b] => by cases b <;> rfl
  | b :: c :: r => by
    have ih := join_W0 (c :: r)
    show sg b ++ ("" : Str) ++ Str.join ("" : Str) (sg c :: r.map sg) = _
    rw [show Str.join ("" : Str) (sg c :: r.map sg) = W (c :: r) from ih, W_cons]
theorem join_W (bs : List Bool) : Txt.join ("" : Str) (bs.map sg) = W bs := by
  first
  | exact (TL.join_eq _ _).trans (join_W0 bs)
  | exact (PySem.TL.join_eq _ _).trans (join_W0 bs)
theorem W_inj {bs cs : List Bool} (h : W bs = W cs) : bs = cs := by
  have := W_bs bs
  rw [h, W_bs] at this
  exact this.symm
theorem arr_ok {bs : List Bool} (h : bs.length ≤ 7) : WebOk (bs.length + 1) (arr bs) := by
  refine ⟨by omega, by omega, by simp [arr]; omega, fun p hp => ?_⟩
  obtain ⟨⟨b, i⟩, ha, rfl⟩ := List.mem_map.mp hp
  have hi := (List.mem_zipIdx' ha).1
  have hi : i < bs.length := hi
  unfold arw
  cases b <;> simp <;> omega
theorem W_at {bs : List Bool} {i : Nat} {b : Bool} (h : bs[i]? = some b) : (W bs).cps[i]? = some (if b then 62 else 60) := by
  unfold W
  simp [h]
theorem arr_range (bs : List Bool) : arr bs = (List.range bs.length).map fun i => arw (bs.getD i false, i) := by
  unfold arr
  refine List.ext_getElem (by simp) fun i h1 h2 => ?_
  simp at h1
  simp [List.getD_eq_getElem?_getD, h1]
theorem sg_sum : ∀ bs : List Bool, ((bs.map sg).map (·.length)).sum = bs.length
  | [] => rfl
  | b :: r => by
    rw [List.map_cons, List.map_cons, List.sum_cons, sg_sum r]
    cases b <;> (show 1 + _ = _; simp; omega)
/-- what line does not take, or no sign -/
def Bad (d : D) : Prop := d.still = true ∧ d.kn = true ∧ (∀ z, d = .str z → z.length ≤ 1000 ∧ PyData.strOk z = true) ∧ (d = .str "" ∨ ∀ bs : List Bool, d = .str (W bs) → 7 < bs.length)
theorem W_nil : (("" : Str)) = W [] := by decide +kernel
theorem W_strOk (bs : List Bool) : PyData.strOk (W bs) = true := by
  unfold PyData.strOk W
  simp
theorem bad_last {bs : List Bool} {k : Nat} (hl : bs.length ≤ 7) (hk : k < 0x110000) (h : (k == 62 || k == 60) = false) : Bad (.str (W bs ++ ⟨#[k]⟩)) := by
  refine ⟨rfl, rfl, fun z e => ?_, .inr fun cs e => ?_⟩
  · cases e
    have hok : PyData.strOk (W bs ++ (⟨#[k]⟩ : Str)) = true := by
      have h1 := W_strOk bs
      unfold PyData.strOk at h1 ⊢
      show ((W bs).cps ++ #[k]).all _ = true
      rw [Array.all_append, h1]
      simp [hk]
    refine ⟨?_, hok⟩
    show (W bs ++ (⟨#[k]⟩ : Str)).cps.size ≤ 1000
    have : (W bs ++ (⟨#[k]⟩ : Str)).cps.size = (W bs).cps.size + 1 := by
      show ((W bs).cps ++ #[k]).size = _
      simp
    have h2 := W_len bs
    unfold Str.length at h2
    omega
  · have e2 : W bs ++ (⟨#[k]⟩ : Str) = W cs := by injection e
    have h3 := W_sg (bs := cs)
    rw [← e2] at h3
    have h4 : ((W bs ++ (⟨#[k]⟩ : Str)).cps.toList.map fun k => k == 62 || k == 60) = ((W bs).cps.toList.map fun k => k == 62 || k == 60) ++ [k == 62 || k == 60] := by
      show (((W bs).cps ++ #[k]).toList.map _) = _
      simp
    rw [h4, List.all_append, h] at h3
    simp at h3
theorem bad_odd : ∀ d ∈ oddL, Bad d := by
  intro d hd
  simp only [oddL, List.mem_cons, List.not_mem_nil, or_false] at hd
  have ns : ∀ d : D, d.still = true → d.kn = true → (∀ z, d ≠ .str z) → Bad d := fun d h1 h2 h3 => ⟨h1, h2, fun z e => absurd e (h3 z), .inr fun bs e => absurd e (h3 _)⟩
  rcases hd with rfl | rfl | rfl | rfl | rfl | rfl | rfl | rfl | rfl | rfl | rfl | rfl
  case inr.inr.inr.inl => exact ⟨rfl, rfl, fun z e => by cases e; exact ⟨by decide, by decide +kernel⟩, .inl rfl⟩
  case inr.inr.inr.inr.inl => exact bad_last (bs := []) (k := 49) (by simp) (by decide) (by decide)
  all_goals exact ns _ rfl rfl (fun z e => by cases e)
theorem stiD_ok {b : Bool} {A : Prop} (h : b = true) (k : A) : Rd.stiD b A := by rw [h]; exact k
theorem calR_ok {sp : DSpec} {S : D → Prop} {T : XD} {ds : List D} (h : stills ds = true) (k : sp ds S T) : calR sp S T ds := by
  unfold calR
  rw [h]
  exact k
theorem str_ne {z : Str} (h : z ≠ "") : (D.str z).eqv (.str "") = false := by
  show decide (z = "") = false
  exact decide_eq_false h
theorem ok_word_right (CW CV EW : Addr) (Wd : Value → Str → Prop) (hWd : Wd (.ref EW) "word") : Okd 8 (r_l_word_right sp_draw sp_any (sp_line CV EW) (sp_Web CW) sp_odd (sp_eqW2 CW CV) Wd) sp_t := by
  intro T ds S h
  obtain ⟨rfl, hs⟩ := h
  wtm_at "w"
  intro n n0 n1
  wtm_at "w"
  refine Rd.tsomeN (fun b : Bool => D.str (sg b)) (fun _ => True) _ _ rfl (fun x hx S' k => ?_) (fun bs hbs _ => ?_)
  · wtm_at "w"
    intro d hd
    simp only [List.mem_cons, List.not_mem_nil, or_false] at hd
    rcases hd with rfl | rfl
    · exact k false trivial
    · exact k true trivial
  rw [List.length_range] at hbs
  have hb7 : bs.length ≤ 7 := by omega
  have hwl := W_len bs
  wtm_at "wh"
  refine ⟨bs.map sg, by rw [List.map_map]; rfl, ?_, ?_⟩
  · rw [sg_sum]
    have e0 : ("" : Str).length = 0 := rfl
    show bs.length + _ * ("" : Str).length ≤ _
    rw [e0]
    omega
  rw [join_W]
  wtm_at "w"
  refine ⟨fun z e => by cases e; omega, fun cs e hc => ?_, fun hno => absurd (hno bs rfl) (by omega)⟩
  obtain rfl := W_inj (by injection e : W bs = W cs)
  have hsl : (W bs).length ≤ sizeLine := by have := sizeLine_eq; omega
  wtm_at "w"
  refine Rd.tmap pr (fun i : Nat => arw (bs.getD i false, i)) _ _ rfl (fun i hi S' k => ?_) ?_
  · have hi := List.mem_range.mp hi
    have hib : i < bs.length := by omega
    have hb : bs[i]? = some (bs.getD i false) := by rw [List.getD_eq_getElem?_getD, List.getElem?_eq_getElem hib]; rfl
    have hk := W_at hb
    have hk2 : (W bs).cps[(0 + (i : Int)).toNat]? = some (if bs.getD i false then 62 else 60) := by
      rw [show (0 + (i : Int)).toNat = i by omega]
      exact hk
    wtm_at "wh"
    refine ⟨_, ⟨by omega, by omega, by omega⟩, hk2, ?_⟩
    cases q : bs.getD i false
    · rw [q] at k
      have f1 : (D.str ⟨#[60]⟩).eqv (.str ">") = false := by decide +kernel
      wtm_at "w"
      refine ⟨⟨by simp [fit]; decide +kernel, by simp [fit]; decide +kernel⟩, ?_⟩
      wtm_at "w"
      refine eqS k ?_
      simp [arw, pr]
    · rw [q] at k
      have f1 : (D.str ⟨#[62]⟩).eqv (.str ">") = true := by decide +kernel
      wtm_at "w"
      refine ⟨⟨by simp [fit]; decide +kernel, by simp [fit]; decide +kernel⟩, ?_⟩
      wtm_at "w"
      refine eqS k ?_
      simp [arw, pr]
  have harr : (List.range (((W bs).length : Nat) : Int).toNat).map (fun i : Nat => arw (bs.getD i false, i)) = arr bs := by
    show (List.range (W bs).length).map _ = _
    rw [hwl, ← arr_range]
  have hwo : WebOk (bs.length + 1 : Int) (arr bs) := arr_ok hb7
  have hd : decide ((bs.length : Int) + 1 = bs.length + 1 ∧ arr bs = arr bs) = true := by simp
  have hsl2 : bs.length ≤ sizeLine := by omega
  have ha : (W bs).length + ("a" : Str).length ≤ sizeLine := by rw [hwl]; have := sizeLine_eq; show bs.length + 1 ≤ _; omega
  have hb : (W bs).length + (" " : Str).length ≤ sizeLine := ha
  have hcc : (W bs).length + ("\n" : Str).length ≤ sizeLine := ha
  have hm1 : (-1000 ≤ (8 : Int) ∧ (8 : Int) ≤ 1000 ∧ (">" : Str).length ≤ 1000) := by decide
  have hm2 : (-1000 ≤ (9 : Int) ∧ (9 : Int) ≤ 1000 ∧ ("<" : Str).length ≤ 1000) := by decide
  wtm_at "wh"
  rw [harr, hwl]
  wtm_at "w"
  intro d0 hd0
  have bd0 := bad_odd d0 hd0
  wtm_at "wh"
  refine stiD_ok (by simp only [stills, List.all_cons, List.all_nil, bd0.1]; rfl) ?_
  wtm_at "w"
  intro d hd
  have bd : Bad d := by
    simp only [List.mem_cons, List.not_mem_nil, or_false] at hd
    have ns : ∀ d : D, d.still = true → d.kn = true → (∀ z, d ≠ .str z) → Bad d := fun d h1 h2 h3 => ⟨h1, h2, fun z e => absurd e (h3 z), .inr fun bs e => absurd e (h3 _)⟩
    have lng : ∀ z : Str, z.length ≤ 1000 ∧ PyData.strOk z = true → 7 < z.length → Bad (.str z) := fun z h1 h2 => ⟨rfl, rfl, fun z' e => by cases e; exact h1, .inr fun bs e => by
      cases e
      rwa [W_len] at h2⟩
    rcases hd with rfl | rfl | rfl | rfl | rfl | rfl | rfl | rfl | rfl | rfl | rfl
    · exact bad_last hb7 (k := 97) (by decide) (by decide)
    · exact bad_last hb7 (k := 32) (by decide) (by decide)
    · exact lng _ (by decide +kernel) (by decide +kernel)
    · exact lng _ (by decide +kernel) (by decide +kernel)
    · exact bad_last hb7 (k := 10) (by decide) (by decide)
    · exact bad_last (bs := []) (k := 45) (by simp) (by decide) (by decide)
    · exact ns _ rfl rfl (fun z e => by cases e)
    · exact ns _ rfl rfl (fun z e => by cases e)
    · exact ns _ rfl rfl (fun z e => by cases e)
    · exact ns _ rfl rfl (fun z e => by cases e)
    · exact bd0
  obtain ⟨b1, b2, b3, b4⟩ := bd
  have fl : (D.str "let").eqv (.str "let") = true := by decide +kernel
  have fw : (D.str "word").eqv (.str "word") = true := by decide +kernel
  have kl : fit 64 (.str "let") = true := by simp [fit]; decide +kernel
  have kw : fit 64 (.str "word") = true := by simp [fit]; decide +kernel
  have k0 : fit 64 (.str "") = true := by simp [fit]; decide +kernel
  by_cases hz : d = .str ""
  · subst hz
    have fe : (D.str "").eqv (.str "") = true := by decide +kernel
    have f2 : ∀ z, D.str "" = .str z → z.length ≤ 1000 := fun z e => (b3 z e).1
    have fe1 : (D.str "").frz.eqv (.str "") = true := fe
    have k1 : fit 64 (D.str "").frz = true := k0
    wtm_at "w"
    refine ⟨fun cs e _ => ?_, fun hno => absurd (hno [] (congrArg D.str W_nil)) (by simp)⟩
    wtm_at "w"
    exact eqS hs (congrArg D.bl fl)
  · have b5 := b4.resolve_left hz
    cases d with
    | str z =>
      have fe : (D.str z).eqv (.str "") = false := str_ne fun e => hz (by rw [e])
      have kz : fit 64 (.str z) = true := by simp [fit, (b3 z rfl).2]
      have f2 : ∀ z', D.str z = .str z' → z'.length ≤ 1000 := fun z e => (b3 z e).1
      have fe1 : (D.str z).frz.eqv (.str "") = false := fe
      have k1 : fit 64 (D.str z).frz = true := kz
      wtm_at "w"
      refine ⟨fun cs e h7 => absurd (b5 cs e) (by omega), fun _ => ⟨rfl, _, hWd, ?_⟩⟩
      wtm_at "w"
      exact eqS hs (congrArg D.bl fw)
    | _ => first | (cases b1; done) | (cases b2; done) | (
        wtm_at "w"
        refine ⟨fun z e => (b3 z e).1, fun cs e h7 => absurd (b5 cs e) (by omega), fun _ => ⟨rfl, _, hWd, ?_⟩⟩
        wtm_at "w"
        exact eqS hs (congrArg D.bl fw))
theorem eqvs_refl : ∀ xs : List D, (∀ x ∈ xs, x.eqv x = true) → eqvs xs xs = true
  | [], _ => rfl
  | x :: xs, h => by
    show (x.eqv x && eqvs xs xs) = true
    rw [h x List.mem_cons_self, eqvs_refl xs fun y hy => h y (List.mem_cons_of_mem _ hy)]
    rfl
theorem eqv_lst {α : Type} (f : α → D) (xs : List α) (h : ∀ x, (f x).eqv (f x) = true) : (D.lst (xs.map f)).eqv (.lst (xs.map f)) = true := by
  show eqvs (xs.map f) (xs.map f) = true
  refine eqvs_refl _ fun x hx => ?_
  obtain ⟨a, _, rfl⟩ := List.mem_map.mp hx
  exact h a
theorem fit_lst {α : Type} (f : α → D) (xs : List α) (h : ∀ x, fit 63 (f x) = true) : fit 64 (D.lst (xs.map f)) = true := by
  show fits 63 (xs.map f) = true
  refine fits_all _ _ fun x hx => ?_
  obtain ⟨a, _, rfl⟩ := List.mem_map.mp hx
  exact h a
def rowsB (m b e : Int) (a : Int × Int) : List (List Int) := List.replicate (szAt m b e a.2).toNat (List.replicate (szAt m b e a.1).toNat 1)
theorem tbs_rows {CR : Addr} {p m b e : Int} {ar : List (Int × Int)} (h : WebOk m ar) : tbs CR p m b e ar = ar.map fun a => tab CR p (szAt m b e a.1) (rowsB m b e a) := by
  unfold tbs
  refine List.map_congr_left fun a ha => ?_
  obtain ⟨x0, x1, y0, y1⟩ := h.2.2.2 a ha
  have bx := szAt_b (b := b) (e := e) x0 x1
  have by' := szAt_b (b := b) (e := e) y0 y1
  have cx : szAt m b e a.1 = 0 ∨ szAt m b e a.1 = 1 := by omega
  have cy : szAt m b e a.2 = 0 ∨ szAt m b e a.2 = 1 := by omega
  unfold rowsB
  rcases cx with cx | cx <;> rcases cy with cy | cy <;> rw [cx, cy]
  · rfl
  · rfl
  · rfl
  · rfl
theorem ln_arr {bs : List Bool} : isLn (bs.length + 1) (arr bs) = true := by
  unfold isLn
  rw [decide_eq_true (by simp [arr])]
  simp only [Bool.true_and]
  refine List.all_eq_true.mpr fun x hx => ?_
  obtain ⟨⟨a, i⟩, ha, rfl⟩ := List.mem_map.mp hx
  have h1 := List.mem_zipIdx' ha
  obtain ⟨hi, hai⟩ := h1
  simp only [arr, List.getElem_map, List.getElem_zipIdx] at hai
  refine decide_eq_true ?_
  show a = _ ∨ a = _
  rw [hai]
  generalize bs[i]'(by simpa [arr] using hi) = q
  cases q <;> simp [arw]
theorem ok_bar_right (K : PySem.W.Frag) (CW CV CR CQ CP EL EP ES EW : Addr) (hV : OkC K CV webN) (hR : OkC K CR tabN) (hQ : OkC K CQ picN) (hP : PySem.W.kitOne K (.ref CQ) (.ref CP) = some true) : Okd 15 (r_l_bar_right K CP sp_draw sp_any (sp_line CV EW) (sp_bar_of K CR CQ EL EP ES) (sp_eqW2 CW CV)) sp_t := by
  intro T ds S h
  obtain ⟨rfl, hs⟩ := h
  wtm_at "w"
  intro n n0 n1
  wtm_at "w"
  refine Rd.tsomeN (fun b : Bool => D.str (sg b)) (fun _ => True) _ _ rfl (fun x hx S' k => ?_) (fun bs hbs _ => ?_)
  · wtm_at "w"
    intro d hd
    simp only [List.mem_cons, List.not_mem_nil, or_false] at hd
    rcases hd with rfl | rfl
    · exact k false trivial
    · exact k true trivial
  rw [List.length_range] at hbs
  have hb7 : bs.length ≤ 7 := by omega
  have hwl := W_len bs
  have hwo := arr_ok hb7
  wtm_at "wh"
  refine ⟨bs.map sg, by rw [List.map_map]; rfl, ?_, ?_⟩
  · rw [sg_sum]
    have e0 : ("" : Str).length = 0 := rfl
    show bs.length + _ * ("" : Str).length ≤ _
    rw [e0]
    omega
  rw [join_W]
  wtm_at "w"
  refine ⟨fun z e => by cases e; omega, fun cs e hc => ?_, fun hno => absurd (hno bs rfl) (by omega)⟩
  obtain rfl := W_inj (by injection e : W bs = W cs)
  wtm_at "w"
  intro d hd
  have hd : ∃ p : Int, d = .int p ∧ p ∈ primes := by
    simp only [List.mem_cons, List.not_mem_nil, or_false] at hd
    rcases hd with rfl | rfl | rfl | rfl | rfl | rfl
    all_goals exact ⟨_, rfl, by simp [primes]⟩
  obtain ⟨p, rfl, hp⟩ := hd
  have hp1 := isP_of hp
  have hsl : (W bs).length ≤ sizeLine := by have := sizeLine_eq; omega
  wtm_at "w"
  rw [hwl]
  intro b b0 b1
  wtm_at "w"
  intro c c0 c1
  have hst : okSt ((bs.length : Int) + 1) (.int b) (.int (b + c)) = true := by simp [okSt]; omega
  have hln := ln_arr (bs := bs)
  wtm_at "w"
  refine ⟨fun p' b' e' e1 e2 e3 _ _ _ => ?_, fun q => ?_, fun _ q => ?_, fun _ _ q => ?_⟩
  rotate_left
  · rw [hln] at q; cases q
  · rw [hp1] at q; cases q
  · rw [hst] at q; cases q
  cases e1
  cases e2
  cases e3
  rw [tbs_rows hwo]
  have hd1 : decide ((bs.length : Int) + 1 = bs.length + 1 ∧ arr bs = arr bs) = true := by simp
  have hq1 : (tI (szs ((bs.length : Int) + 1) b (b + c))).eqv (tI (szs ((bs.length : Int) + 1) b (b + c))) = true := by simp [eqv_tI]
  wtm_at "w"
  refine ⟨_, hP, hQ.ob, ?_⟩
  wtm_at "w"
  refine Rd.tmap D.int (fun k : Nat => if b ≤ k ∧ (k : Int) ≤ b + c then 1 else 0) _ _ rfl (fun k hk S' kk => ?_) ?_
  · wtm_at "w"
    refine brB_p (fun g => ?_) (fun g => ?_)
    · wtm_at "w"
      refine eqS kk (congrArg D.int ?_)
      have g3 : b ≤ (k : Int) := by omega
      simp [g3]
    · wtm_at "w"
      refine eqS kk ?_
      rw [if_neg (fun z : b ≤ (k : Int) ∧ (k : Int) ≤ b + c => g (by omega))]
      rfl
  wtm_at "w"
  have hszs : (List.range ((bs.length : Int) + 1).toNat).map (fun k : Nat => if b ≤ k ∧ (k : Int) ≤ b + c then (1 : Int) else 0) = szs ((bs.length : Int) + 1) b (b + c) := rfl
  rw [hszs]
  refine Rd.tmap tII (rowsB ((bs.length : Int) + 1) b (b + c)) _ _ rfl (fun a ha S' kk => ?_) ?_
  · obtain ⟨x0, x1, y0, y1⟩ := hwo.2.2.2 a ha
    have gx := szs_at (b := b) (e := b + c) x0 x1
    have gy := szs_at (b := b) (e := b + c) y0 y1
    have bx := szAt_b (b := b) (e := b + c) x0 x1
    have by' := szAt_b (b := b) (e := b + c) y0 y1
    wtm_at "wh"
    refine ⟨_, gx, ?_⟩
    wtm_at "w"
    refine ⟨_, gy, ?_⟩
    wtm_at "w"
    refine eqS kk ?_
    unfold rowsB
    simp [repT, List.map_replicate]
  have hq2 : (D.lst (((arr bs).map (rowsB ((bs.length : Int) + 1) b (b + c))).map tII)).eqv (D.lst (((arr bs).map (rowsB ((bs.length : Int) + 1) b (b + c))).map tII)) = true := eqv_lst tII _ fun _ => by simp [eqv_tII]
  have hq3 : (D.lst (((arr bs).map fun a => (p, szAt ((bs.length : Int) + 1) b (b + c) a.1)).map pr)).eqv (D.lst (((arr bs).map fun a => (p, szAt ((bs.length : Int) + 1) b (b + c) a.1)).map pr)) = true := eqv_lst pr _ fun _ => by simp [eqv_pr]
  wtm_at "w"
  refine Rd.tmap tII (rowsB ((bs.length : Int) + 1) b (b + c)) _ _ rfl (fun a ha S' kk => ?_) ?_
  · wtm_at "w"
    exact kk
  wtm_at "wh"
  refine ⟨⟨fit_lst tII _ fun _ => fit_tII 61 _, fit_lst tII _ fun _ => fit_tII 61 _⟩, ?_⟩
  wtm_at "w"
  refine Rd.tmap pr (fun a : Int × Int => (p, szAt ((bs.length : Int) + 1) b (b + c) a.1)) _ _ rfl (fun a ha S' kk => ?_) ?_
  · wtm_at "w"
    exact kk
  wtm_at "w"
  refine Rd.tmap pr (fun a : Int × Int => (p, szAt ((bs.length : Int) + 1) b (b + c) a.1)) _ _ rfl (fun a ha S' kk => ?_) ?_
  · obtain ⟨x0, x1, y0, y1⟩ := hwo.2.2.2 a ha
    have gx := szs_at (b := b) (e := b + c) x0 x1
    wtm_at "wh"
    refine ⟨_, gx, ?_⟩
    wtm_at "w"
    exact kk
  wtm_at "wh"
  refine ⟨⟨fit_lst pr _ fun _ => fit_pr 62 _, fit_lst pr _ fun _ => fit_pr 62 _⟩, ?_⟩
  exact eqS hs (congrArg D.bl hq3)
theorem odd_facts : ∀ d ∈ oddL, d.still = true ∧ d.kn = true ∧ isP d = false ∧ okSt 4 d (.int 2) = false := by
  intro d hd
  simp only [oddL, List.mem_cons, List.not_mem_nil, or_false] at hd
  rcases hd with rfl | rfl | rfl | rfl | rfl | rfl | rfl | rfl | rfl | rfl | rfl | rfl
  all_goals exact ⟨rfl, rfl, by decide +kernel, by decide +kernel⟩
theorem stP_mk {d : D} {A : Prop} (h : d.still = true) (k : A) : stP d A := by
  cases d <;> first | exact k | cases h
theorem ok_refused_right (K : PySem.W.Frag) (CW CV CR CQ EL EP ES EW : Addr) (hV : OkC K CV webN) (hW : OkC K CW webN) (Wd : Value → Str → Prop) (hL : Wd (.ref EL) "line") (hP : Wd (.ref EP) "prime") (hS : Wd (.ref ES) "stretch") :
    Okd 10 (r_l_refused_right (sp_line CV EW) (sp_Web CW) sp_odd sp_draw sp_any (sp_bar_of K CR CQ EL EP ES) Wd) sp_t := by
  intro T ds S h
  obtain ⟨rfl, hs⟩ := h
  have hw0 : ("><>" : Str) = W [true, false, true] := by decide +kernel
  wtm_at "w"
  refine ⟨fun z e => by cases e; decide, fun cs e hc => ?_, fun hno => absurd (hno [true, false, true] (congrArg D.str hw0)) (by simp)⟩
  obtain rfl : [true, false, true] = cs := W_inj (hw0.symm.trans (by injection e))
  have hw3 : web CV ((([true, false, true] : List Bool).length : Int) + 1) (arr [true, false, true]) = web CV 4 [(0, 1), (2, 1), (2, 3)] := rfl
  rw [hw3]
  wtm_at "w"
  refine ⟨3, [(0, 1), (0, 2)], rfl, by unfold WebOk; decide, ?_⟩
  wtm_at "w"
  refine ⟨2, [(0, 1), (0, 1)], rfl, by unfold WebOk; decide, ?_⟩
  wtm_at "w"
  refine ⟨1, [(0, 0)], rfl, by unfold WebOk; decide, ?_⟩
  wtm_at "w"
  refine ⟨3, [(1, 2), (0, 1)], rfl, by unfold WebOk; decide, ?_⟩
  wtm_at "w"
  refine ⟨2, [], rfl, by unfold WebOk; decide, ?_⟩
  wtm_at "w"
  intro d0 hd0
  obtain ⟨o1, o2, o3, o4⟩ := odd_facts d0 hd0
  wtm_at "wh"
  refine stiD_ok (by simp only [stills, List.all_cons, List.all_nil, o1]; rfl) ?_
  have hpw : CPow 10 11 := ⟨by decide, by decide, by decide⟩
  wtm_at "w"
  intro v0 _ _
  wtm_at "w"
  intro v1 _ _
  wtm_at "w"
  intro v2 _ _
  wtm_at "wh"
  generalize decide (v0 = 0) = f0
  generalize decide (v1 = 0) = f1
  generalize decide (v2 = 0) = f2
  wtm_at "w"
  dsimp only [fo, D.frz, List.cons_append, List.nil_append]
  cases f0
  case' true =>
    wtm_at "w"
    intro x hx
    obtain ⟨C, m, ar, rfl, rfl, hWO, hln⟩ : ∃ (C : Addr) (m : Int) (ar : List (Int × Int)), x = web C m ar ∧ C = CW ∧ WebOk m ar ∧ isLn m ar = false := by
      simp only [List.mem_cons, List.not_mem_nil, or_false, List.cons_append, List.nil_append] at hx
      rcases hx with rfl | rfl | rfl | rfl | rfl
      all_goals exact ⟨_, _, _, rfl, rfl, by unfold WebOk; decide, by decide +kernel⟩
    have hCC := hW
  case' false =>
    have hWO : WebOk 4 [(0, 1), (2, 1), (2, 3)] := by unfold WebOk; decide
    have hln : isLn 4 [(0, 1), (2, 1), (2, 3)] = true := by decide +kernel
    have hCC := hV
  all_goals
    wtm_at "w"
    cases f1
    case' true =>
      wtm_at "w"
      intro d1 hd1
      obtain ⟨r1, r2, r3, r4⟩ := odd_facts d1 hd1
      wtm_at "wh"
      refine stiD_ok (by simp only [stills, List.all_cons, List.all_nil, r1]; rfl) ?_
      wtm_at "w"
      intro pd hpd
      have hpd2 : pd.still = true ∧ pd.kn = true ∧ isP pd = false := by
        simp only [List.mem_cons, List.not_mem_nil, or_false] at hpd
        rcases hpd with rfl | rfl | rfl | rfl | rfl | rfl | rfl
        all_goals first | exact ⟨r1, r2, r3⟩ | exact ⟨rfl, rfl, by decide +kernel⟩
      obtain ⟨p1, p2, hp⟩ := hpd2
      wtm_at "wh"
      refine stP_mk p1 ?_
    case' false =>
      have p1 : (D.int 3).still = true := rfl
      have p2 : (D.int 3).kn = true := rfl
      have hp : isP (.int 3) = true := by decide +kernel
    all_goals
      wtm_at "w"
      cases f2
      case' true =>
        wtm_at "w"
        intro bd hbd
        obtain ⟨b, e, rfl, b1, b2, e1, e2, ho⟩ : ∃ b e : D, bd = .tup [b, e] ∧ b.still = true ∧ b.kn = true ∧ e.still = true ∧ e.kn = true ∧ okSt 4 b e = false := by
          simp only [List.mem_cons, List.not_mem_nil, or_false] at hbd
          rcases hbd with rfl | rfl | rfl | rfl | rfl | rfl | rfl | rfl
          all_goals first | exact ⟨_, _, rfl, o1, o2, rfl, rfl, o4⟩ | exact ⟨_, _, rfl, rfl, rfl, rfl, rfl, by decide +kernel⟩
        wtm_at "wh"
      case' false =>
        have ho : okSt 4 (.int 1) (.int 2) = true := by decide +kernel
        wtm_at "wh"
      all_goals
        wtm_at "w"
        try first
          | refine ⟨[true, _, _], 0, rfl, rfl, fun m b' hm _ => absurd hm (by omega), ?_⟩
          | (refine ⟨[false, true, _], 1, rfl, rfl, fun m b' hm hb => ?_, ?_⟩
             · obtain rfl : m = 0 := by omega
               cases hb
               decide)
          | (refine ⟨[false, false, true], 2, rfl, rfl, fun m b' hm hb => ?_, ?_⟩
             · have hm2 : m = 0 ∨ m = 1 := by omega
               rcases hm2 with rfl | rfl <;> (cases hb; decide))
        wtm_at "w"
        try simp only [fo, frz_still p1]
        try simp only [frz_still b1, frz_still e1]
        wtm_at "w"
        try
          refine calR_ok (by
            simp only [stills, List.all_cons, List.all_nil]
            first | rfl | (rw [p1]; rfl) | (rw [b1, e1]; rfl) | (rw [p1, b1, e1]; rfl)) ?_
          wtm_at "w"
        refine ⟨fun p' b' e' _ _ _ q1 q2 q3 => ?_, fun q1 => ?_, fun q1 q2 => ?_, fun q1 q2 q3 => ?_⟩
        all_goals first
          | exact Bool.noConfusion (hln.symm.trans q1)
          | exact Bool.noConfusion (hp.symm.trans q2)
          | exact Bool.noConfusion (ho.symm.trans q3)
          | skip
        all_goals
          try first
            | refine ⟨rfl, _, hL, ?_⟩
            | refine ⟨rfl, _, hP, ?_⟩
            | refine ⟨rfl, _, hS, ?_⟩
            | refine ⟨trivial, _, hL, ?_⟩
            | refine ⟨trivial, _, hP, ?_⟩
            | refine ⟨trivial, _, hS, ?_⟩
          wtm_at "wh"
          refine ⟨⟨by decide +kernel, by decide +kernel⟩, ?_⟩
          exact eqS hs (congrArg D.bl (by decide +kernel))
theorem ok_law : fc (none :: some .pur :: List.replicate 1 none) fun δ => r_law sp_t sp_t sp_t noX δ { nx := fun _ => False, rt := fun d => d = .bl true } := by
  wtm_at "w"
  refine Rd.for_ _ _ (fun i δ' => ∃ a b c, δ' = [a, b, c] ∧ b = some .pur) rfl ⟨_, _, _, rfl, rfl⟩ ?_ ?_
  · rintro i j δ' hx ⟨a, b, c, rfl, rfl⟩
    wtm_at "w"
  · rintro δ' ⟨a, b, c, rfl, rfl⟩
    wtm_at "w"
end K32

set_option maxRecDepth 100000
set_option maxHeartbeats 4000000
namespace K32
open PySem PySem.Spec PyProof.Rows L2 Dl Tb Wb
def topS (i : Nat) : Stmt := PySem.Challenge.pw_mapwebs_k32_lines_and_their_bars_built.main.body.getD i (.Pass ⟨0, 0, 0, 0⟩)
abbrev t_is_integer : Stmt := topS 11
abbrev n_is_integer : List Str := ["thing"]
theorem sc_is_integer : FnScope n_is_integer ["thing"] (defScope t_is_integer) := ⟨rfl, rfl, rfl, by decide +kernel, rfl, by decide +kernel, by decide +kernel⟩
abbrev t_is_within : Stmt := topS 12
abbrev n_is_within : List Str := ["thing", "least", "most"]
theorem sc_is_within : FnScope n_is_within ["thing", "least", "most"] (defScope t_is_within) := ⟨rfl, rfl, rfl, by decide +kernel, rfl, by decide +kernel, by decide +kernel⟩
abbrev t_is_number : Stmt := topS 13
abbrev n_is_number : List Str := ["thing", "most"]
theorem sc_is_number : FnScope n_is_number ["thing", "most"] (defScope t_is_number) := ⟨rfl, rfl, rfl, by decide +kernel, rfl, by decide +kernel, by decide +kernel⟩
abbrev t_is_prime : Stmt := topS 14
abbrev n_is_prime : List Str := ["thing"]
theorem sc_is_prime : FnScope n_is_prime ["thing"] (defScope t_is_prime) := ⟨rfl, rfl, rfl, by decide +kernel, rfl, by decide +kernel, by decide +kernel⟩
abbrev t_check_prime : Stmt := topS 15
abbrev n_check_prime : List Str := ["thing"]
theorem sc_check_prime : FnScope n_check_prime ["thing"] (defScope t_check_prime) := ⟨rfl, rfl, rfl, by decide +kernel, rfl, by decide +kernel, by decide +kernel⟩
abbrev t_is_column : Stmt := topS 18
abbrev n_is_column : List Str := ["prime", "size", "thing", "worth"]
theorem sc_is_column : FnScope n_is_column ["prime", "size", "thing"] (defScope t_is_column) := ⟨rfl, rfl, rfl, by decide +kernel, rfl, by decide +kernel, by decide +kernel⟩
abbrev t_Table_init : Stmt := inClass (topS 19) 0
abbrev n_Table_init : List Str := ["self", "prime", "wide", "rows", "index", "row"]
theorem sc_Table_init : FnScope n_Table_init ["self", "prime", "wide", "rows"] (defScope t_Table_init) := ⟨rfl, rfl, rfl, by decide +kernel, rfl, by decide +kernel, by decide +kernel⟩
abbrev t_Table_keep : Stmt := inClass (topS 19) 1
abbrev n_Table_keep : List Str := ["self", "prime", "wide", "rows"]
theorem sc_Table_keep : FnScope n_Table_keep ["self", "prime", "wide", "rows"] (defScope t_Table_keep) := ⟨rfl, rfl, rfl, by decide +kernel, rfl, by decide +kernel, by decide +kernel⟩
abbrev t_Table_eq : Stmt := inClass (topS 19) 2
abbrev n_Table_eq : List Str := ["self", "other"]
theorem sc_Table_eq : FnScope n_Table_eq ["self", "other"] (defScope t_Table_eq) := ⟨rfl, rfl, rfl, by decide +kernel, rfl, by decide +kernel, by decide +kernel⟩
abbrev t_RawTable_init : Stmt := inClass (topS 20) 0
abbrev n_RawTable_init : List Str := ["self", "prime", "wide", "rows"]
theorem sc_RawTable_init : FnScope n_RawTable_init ["self", "prime", "wide", "rows"] (defScope t_RawTable_init) := ⟨rfl, rfl, rfl, by decide +kernel, rfl, by decide +kernel, by decide +kernel⟩
abbrev t_raw_plain : Stmt := topS 21
abbrev n_raw_plain : List Str := ["prime", "size", "here", "at"]
theorem sc_raw_plain : FnScope n_raw_plain ["prime", "size"] (defScope t_raw_plain) := ⟨rfl, rfl, rfl, by decide +kernel, rfl, by decide +kernel, by decide +kernel⟩
abbrev t_raw_nought : Stmt := topS 22
abbrev n_raw_nought : List Str := ["prime", "high", "wide", "row"]
theorem sc_raw_nought : FnScope n_raw_nought ["prime", "high", "wide"] (defScope t_raw_nought) := ⟨rfl, rfl, rfl, by decide +kernel, rfl, by decide +kernel, by decide +kernel⟩
abbrev t_Web_init : Stmt := inClass (topS 28) 0
abbrev n_Web_init : List Str := ["self", "many", "arrows", "index", "arrow", "at"]
theorem sc_Web_init : FnScope n_Web_init ["self", "many", "arrows"] (defScope t_Web_init) := ⟨rfl, rfl, rfl, by decide +kernel, rfl, by decide +kernel, by decide +kernel⟩
abbrev t_Web_eq : Stmt := inClass (topS 28) 1
abbrev n_Web_eq : List Str := ["self", "other"]
theorem sc_Web_eq : FnScope n_Web_eq ["self", "other"] (defScope t_Web_eq) := ⟨rfl, rfl, rfl, by decide +kernel, rfl, by decide +kernel, by decide +kernel⟩
abbrev t_RawWeb_init : Stmt := inClass (topS 29) 0
abbrev n_RawWeb_init : List Str := ["self", "many", "arrows"]
theorem sc_RawWeb_init : FnScope n_RawWeb_init ["self", "many", "arrows"] (defScope t_RawWeb_init) := ⟨rfl, rfl, rfl, by decide +kernel, rfl, by decide +kernel, by decide +kernel⟩
abbrev t_line : Stmt := topS 30
abbrev n_line : List Str := ["word", "arrows", "at", "sign"]
theorem sc_line : FnScope n_line ["word"] (defScope t_line) := ⟨rfl, rfl, rfl, by decide +kernel, rfl, by decide +kernel, by decide +kernel⟩
abbrev t_are_sizes : Stmt := topS 33
abbrev n_are_sizes : List Str := ["web", "thing", "size"]
theorem sc_are_sizes : FnScope n_are_sizes ["web", "thing"] (defScope t_are_sizes) := ⟨rfl, rfl, rfl, by decide +kernel, rfl, by decide +kernel, by decide +kernel⟩
abbrev t_is_fit_table : Stmt := topS 34
abbrev n_is_fit_table : List Str := ["prime", "high", "wide", "thing"]
theorem sc_is_fit_table : FnScope n_is_fit_table ["prime", "high", "wide", "thing"] (defScope t_is_fit_table) := ⟨rfl, rfl, rfl, by decide +kernel, rfl, by decide +kernel, by decide +kernel⟩
abbrev t_Picture_init : Stmt := inClass (topS 35) 0
abbrev n_Picture_init : List Str := ["self", "web", "prime", "sizes", "tables", "index", "begin", "end"]
theorem sc_Picture_init : FnScope n_Picture_init ["self", "web", "prime", "sizes", "tables"] (defScope t_Picture_init) := ⟨rfl, rfl, rfl, by decide +kernel, rfl, by decide +kernel, by decide +kernel⟩
abbrev t_Picture_keep : Stmt := inClass (topS 35) 1
abbrev n_Picture_keep : List Str := ["self", "web", "prime", "sizes", "tables"]
theorem sc_Picture_keep : FnScope n_Picture_keep ["self", "web", "prime", "sizes", "tables"] (defScope t_Picture_keep) := ⟨rfl, rfl, rfl, by decide +kernel, rfl, by decide +kernel, by decide +kernel⟩
abbrev t_Picture_eq : Stmt := inClass (topS 35) 2
abbrev n_Picture_eq : List Str := ["self", "other"]
theorem sc_Picture_eq : FnScope n_Picture_eq ["self", "other"] (defScope t_Picture_eq) := ⟨rfl, rfl, rfl, by decide +kernel, rfl, by decide +kernel, by decide +kernel⟩
abbrev t_RawPicture_init : Stmt := inClass (topS 36) 0
abbrev n_RawPicture_init : List Str := ["self", "web", "prime", "sizes", "tables"]
theorem sc_RawPicture_init : FnScope n_RawPicture_init ["self", "web", "prime", "sizes", "tables"] (defScope t_RawPicture_init) := ⟨rfl, rfl, rfl, by decide +kernel, rfl, by decide +kernel, by decide +kernel⟩
abbrev t_is_line : Stmt := topS 38
abbrev n_is_line : List Str := ["web", "at", "arrow"]
theorem sc_is_line : FnScope n_is_line ["web"] (defScope t_is_line) := ⟨rfl, rfl, rfl, by decide +kernel, rfl, by decide +kernel, by decide +kernel⟩
abbrev t_check_stretch : Stmt := topS 39
abbrev n_check_stretch : List Str := ["web", "begin", "end"]
theorem sc_check_stretch : FnScope n_check_stretch ["web", "begin", "end"] (defScope t_check_stretch) := ⟨rfl, rfl, rfl, by decide +kernel, rfl, by decide +kernel, by decide +kernel⟩
abbrev t_raw_bar : Stmt := topS 40
abbrev n_raw_bar : List Str := ["web", "prime", "begin", "end", "sizes", "tables", "one", "other", "both", "place"]
theorem sc_raw_bar : FnScope n_raw_bar ["web", "prime", "begin", "end"] (defScope t_raw_bar) := ⟨rfl, rfl, rfl, by decide +kernel, rfl, by decide +kernel, by decide +kernel⟩
abbrev t_bar_of : Stmt := topS 41
abbrev n_bar_of : List Str := ["web", "prime", "begin", "end"]
theorem sc_bar_of : FnScope n_bar_of ["web", "prime", "begin", "end"] (defScope t_bar_of) := ⟨rfl, rfl, rfl, by decide +kernel, rfl, by decide +kernel, by decide +kernel⟩
abbrev t_l_purse : Stmt := topS 43
abbrev n_l_purse : List Str := ["_law_script", "_law_cell"]
theorem sc_l_purse : FnScope n_l_purse ["_law_script"] (defScope t_l_purse) := ⟨rfl, rfl, rfl, by decide +kernel, rfl, by decide +kernel, by decide +kernel⟩
abbrev t_l_part : Stmt := topS 44
abbrev n_l_part : List Str := ["_law_purse_here", "_law_many", "_law_cell", "_law_told", "_law_made"]
theorem sc_l_part : FnScope n_l_part ["_law_purse_here", "_law_many"] (defScope t_l_part) := ⟨rfl, rfl, rfl, by decide +kernel, rfl, by decide +kernel, by decide +kernel⟩
abbrev t_l_one : Stmt := topS 45
abbrev n_l_one : List Str := ["_law_purse_here", "_law_some"]
theorem sc_l_one : FnScope n_l_one ["_law_purse_here", "_law_some"] (defScope t_l_one) := ⟨rfl, rfl, rfl, by decide +kernel, rfl, by decide +kernel, by decide +kernel⟩
abbrev t_l_deep : Stmt := topS 46
abbrev n_l_deep : List Str := ["_law_many", "_law_thing", "_law_again"]
theorem sc_l_deep : FnScope n_l_deep ["_law_many"] (defScope t_l_deep) := ⟨rfl, rfl, rfl, by decide +kernel, rfl, by decide +kernel, by decide +kernel⟩
abbrev t_l_odd : Stmt := topS 47
abbrev n_l_odd : List Str := ["_law_purse_here"]
theorem sc_l_odd : FnScope n_l_odd ["_law_purse_here"] (defScope t_l_odd) := ⟨rfl, rfl, rfl, by decide +kernel, rfl, by decide +kernel, by decide +kernel⟩
abbrev t_l_word : Stmt := topS 48
abbrev n_l_word : List Str := ["_law_call", "_law_word_here", "error", "_law_flags", "_law_names"]
theorem sc_l_word : FnScope n_l_word ["_law_call"] (defScope t_l_word) := ⟨rfl, rfl, rfl, by decide +kernel, rfl, by decide +kernel, by decide +kernel⟩
abbrev t_l_word_right : Stmt := topS 49
abbrev n_l_word_right : List Str := ["_law_purse_here", "_law_word_here", "_law_web", "_law_due", "_law_some", "_law_bad", "_law_sign", "_law_at"]
theorem sc_l_word_right : FnScope n_l_word_right ["_law_purse_here"] (defScope t_l_word_right) := ⟨rfl, rfl, rfl, by decide +kernel, rfl, by decide +kernel, by decide +kernel⟩
abbrev t_l_bar_right : Stmt := topS 50
abbrev n_l_bar_right : List Str := ["_law_purse_here", "_law_word_here", "_law_web", "_law_prime", "_law_many", "_law_begin", "_law_end", "_law_told", "_law_sizes", "_law_rows", "_law_a", "_law_b", "_law_sign", "_law_place", "_law_table"]
theorem sc_l_bar_right : FnScope n_l_bar_right ["_law_purse_here"] (defScope t_l_bar_right) := ⟨rfl, rfl, rfl, by decide +kernel, rfl, by decide +kernel, by decide +kernel⟩
abbrev t_l_refused_right : Stmt := topS 51
abbrev n_l_refused_right : List Str := ["_law_purse_here", "_law_web", "_law_prime", "_law_pair", "_law_bad_webs", "_law_bad_pairs", "_law_flags", "_law_begin", "_law_end", "_law_due"]
theorem sc_l_refused_right : FnScope n_l_refused_right ["_law_purse_here"] (defScope t_l_refused_right) := ⟨rfl, rfl, rfl, by decide +kernel, rfl, by decide +kernel, by decide +kernel⟩
abbrev t_law : Stmt := topS 52
abbrev n_law : List Str := ["_law_script", "_law_purse_here", "_law_turn"]
theorem sc_law : FnScope n_law ["_law_script"] (defScope t_law) := ⟨rfl, rfl, rfl, by decide +kernel, rfl, by decide +kernel, by decide +kernel⟩
end K32

set_option maxRecDepth 100000
set_option maxHeartbeats 4000000
namespace K32
open PySem PySem.Spec PyProof.Rows L2 Dl Tb Wb
section
variable {P : Program} {w : World} {K : PySem.W.Frag} {mg : Str → Option Value} {base : Heap} {U : Pu} {CW CV CR CT CQ CP EW EL EP ES : Addr} {eo : DSpec} {Tb : List (Addr × Str)} {Wd : Value → Str → Prop}
theorem F_is_integer (hb : Blt mg)  (A : DefAt K mg "is_integer" t_is_integer ["thing"]) (ok : Okd 1 (r_is_integer   ) (sp_is_integer)) : Fn P w K mg base U 1 "is_integer" 1 (sp_is_integer) :=
  fnR A sc_is_integer rfl (by decide) (De.slast (De.ret (De.and2 (De.isInt hb (De.v 0)) (De.one (De.not (De.isBool hb (De.v 0))))))) ok
theorem F_is_within (hb : Blt mg) (h_is_integer : Fn P w K mg base U 1 "is_integer" 1 (sp_is_integer)) (A : DefAt K mg "is_within" t_is_within ["thing", "least", "most"]) (ok : Okd 3 (r_is_within   (sp_is_integer)) (sp_is_within)) : Fn P w K mg base U 2 "is_within" 3 (sp_is_within) :=
  fnR A sc_is_within rfl (by decide) (De.slast (De.ret (De.and2 (De.call h_is_integer (De.cons (De.v 0) De.nil)) (De.one (De.chain De.o_le De.o_le (De.v 1) (De.v 0) (De.v 2)))))) ok
theorem F_is_number (hb : Blt mg) (h_is_within : Fn P w K mg base U 2 "is_within" 3 (sp_is_within)) (A : DefAt K mg "is_number" t_is_number ["thing", "most"]) (ok : Okd 2 (r_is_number   (sp_is_within)) (sp_is_number)) : Fn P w K mg base U 3 "is_number" 2 (sp_is_number) :=
  fnR A sc_is_number rfl (by decide) (De.slast (De.ret (De.call h_is_within (De.cons (De.v 0) (De.cons De.int (De.cons (De.v 1) De.nil)))))) ok
theorem F_is_prime (hb : Blt mg) (h_is_integer : Fn P w K mg base U 1 "is_integer" 1 (sp_is_integer)) (c_PRIMES : Glb K mg "PRIMES" (tI primes)) (A : DefAt K mg "is_prime" t_is_prime ["thing"]) (ok : Okd 1 (r_is_prime   (sp_is_integer)) (sp_is_prime)) : Fn P w K mg base U 2 "is_prime" 1 (sp_is_prime) :=
  fnR A sc_is_prime rfl (by decide) (De.slast (De.ret (De.and2 (De.call h_is_integer (De.cons (De.v 0) De.nil)) (De.one (De.cmp De.o_isin (De.v 0) (De.glb c_PRIMES)))))) ok
theorem F_check_prime (hb : Blt mg) (h_is_prime : Fn P w K mg base U 2 "is_prime" 1 (sp_is_prime)) (e_NoPrime : ExR K mg "NoPrime" EP) (A : DefAt K mg "check_prime" t_check_prime ["thing"]) (ok : Okd 1 (r_check_prime  EP (sp_is_prime)) (sp_check_prime EP)) : Fn P w K mg base U 3 "check_prime" 1 (sp_check_prime EP) :=
  fnR A sc_check_prime rfl (by decide) (De.slast (De.cond (De.tnot (De.tval (De.call h_is_prime (De.cons (De.v 0) De.nil)))) (De.slast (De.raise0 e_NoPrime)) De.snil)) ok
theorem F_raw_plain (hb : Blt mg) (h_RawTable : Maker P w K mg base U 2 "RawTable" 3 (sp_keep CR)) (A : DefAt K mg "raw_plain" t_raw_plain ["prime", "size"]) (ok : Okd 4 (r_raw_plain   (sp_keep CR)) (sp_plain CR)) : Fn P w K mg base U 4 "raw_plain" 2 (sp_plain CR) :=
  fnR A sc_raw_plain rfl (by decide) (De.slast (De.ret (De.make h_RawTable (De.cons (De.v 0) (De.cons (De.v 1) (De.cons (De.tTup hb (De.cons (De.lc [("here", 2)] (De.toJ (De.rng1 hb.range (De.v 1))) (De.tv 2) De.ts0 (De.tTup hb (De.cons (De.lc [("at", 3)] (De.toJ (De.rng1 hb.range (De.v 1))) (De.tv 3) De.ts0 (De.tInt hb (De.cons (De.cmp De.o_eq (De.v 3) (De.v 2)) De.nil))) De.nil))) De.nil)) De.nil)))))) ok
theorem F_raw_nought (hb : Blt mg) (h_RawTable : Maker P w K mg base U 2 "RawTable" 3 (sp_keep CR)) (A : DefAt K mg "raw_nought" t_raw_nought ["prime", "high", "wide"]) (ok : Okd 4 (r_raw_nought   (sp_keep CR)) (sp_nought CR)) : Fn P w K mg base U 4 "raw_nought" 3 (sp_nought CR) :=
  fnR A sc_raw_nought rfl (by decide) (De.slast (De.ret (De.make h_RawTable (De.cons (De.v 0) (De.cons (De.v 2) (De.cons (De.tTup hb (De.cons (De.lc [("row", 3)] (De.toJ (De.rng1 hb.range (De.v 1))) (De.tv 3) De.ts0 (De.bin De.o_mul (De.tup (De.cons De.int De.nil)) (De.v 2))) De.nil)) De.nil)))))) ok
theorem F_line (hb : Blt mg) (h_RawWeb : Maker P w K mg base U 1 "RawWeb" 2 (sp_RawWeb CV)) (c_MOST_PLACES : Glb K mg "MOST_PLACES" (.int 8)) (c_FORWARD : Glb K mg "FORWARD" (.str ">")) (c_BACKWARD : Glb K mg "BACKWARD" (.str "<")) (e_NoWord : ExR K mg "NoWord" EW) (A : DefAt K mg "line" t_line ["word"]) (ok : Okd 4 (r_line  EW (sp_RawWeb CV)) (sp_line CV EW)) : Fn P w K mg base U 3 "line" 1 (sp_line CV EW) :=
  fnR A sc_line rfl (by decide) (De.scons (De.cond (De.tof (De.wor (De.tnot (De.tval (De.isStr hb (De.v 0)))) (De.wor1 (De.tcmp De.o_gt (De.bLen hb (De.cons (De.v 0) De.nil)) (De.bin De.o_sub (De.glb c_MOST_PLACES) De.int))))) (De.slast (De.raise0 e_NoWord)) De.snil) (De.scons (De.cond (De.tnot (De.tval (De.bAll hb (De.cons (De.lc [("sign", 3)] (De.strJ (De.v 0)) (De.tv 3) De.ts0 (De.cmp De.o_isinS (De.v 3) (De.bin De.o_add (De.glb c_FORWARD) (De.glb c_BACKWARD)))) De.nil)))) (De.slast (De.raise0 e_NoWord)) De.snil) (De.scons (De.setLc 1 [("at", 2), ("sign", 3)] (De.toJ (De.enumS hb.enumerate (De.v 0))) (De.tgt 2 (De.gC (De.tv 2) (De.gC (De.tv 3) De.gN))) De.ts0 (De.ite (De.tcmp De.o_eq (De.v 3) (De.glb c_FORWARD)) (De.tup (De.cons (De.v 2) (De.cons (De.bin De.o_add (De.v 2) De.int) De.nil))) (De.tup (De.cons (De.bin De.o_add (De.v 2) De.int) (De.cons (De.v 2) De.nil))))) (De.slast (De.ret (De.make h_RawWeb (De.cons (De.bin De.o_add (De.bLen hb (De.cons (De.v 0) De.nil)) De.int) (De.cons (De.tTup hb (De.cons (De.v 1) De.nil)) De.nil)))))))) ok
theorem F_is_line (hb : Blt mg)  (A : DefAt K mg "is_line" t_is_line ["web"]) (ok : Okd 3 (r_is_line K   ) (sp_is_line K)) : Fn P w K mg base U 1 "is_line" 1 (sp_is_line K) :=
  fnR A sc_is_line rfl (by decide) (De.scons (De.cond (De.tcmp De.o_ne (De.bLen hb (De.cons (De.fld (De.v 0)) De.nil)) (De.bin De.o_sub (De.fld (De.v 0)) De.int)) (De.slast (De.ret De.bl)) De.snil) (De.slast (De.ret (De.bAll hb (De.cons (De.lc [("at", 1), ("arrow", 2)] (De.toJ (De.enum hb.enumerate (De.fld (De.v 0)))) (De.tgt 2 (De.gC (De.tv 1) (De.gC (De.tv 2) De.gN))) De.ts0 (De.cmp De.o_isinT (De.v 2) (De.tup (De.cons (De.tup (De.cons (De.v 1) (De.cons (De.bin De.o_add (De.v 1) De.int) De.nil))) (De.cons (De.tup (De.cons (De.bin De.o_add (De.v 1) De.int) (De.cons (De.v 1) De.nil))) De.nil))))) De.nil))))) ok
theorem F_check_stretch (hb : Blt mg) (h_is_number : Fn P w K mg base U 3 "is_number" 2 (sp_is_number)) (e_NoStretch : ExR K mg "NoStretch" ES) (A : DefAt K mg "check_stretch" t_check_stretch ["web", "begin", "end"]) (ok : Okd 3 (r_check_stretch K  ES (sp_is_number)) (sp_check_stretch K ES)) : Fn P w K mg base U 4 "check_stretch" 3 (sp_check_stretch K ES) :=
  fnR A sc_check_stretch rfl (by decide) (De.slast (De.cond (De.tof (De.wor (De.tnot (De.tval (De.call h_is_number (De.cons (De.v 1) (De.cons (De.bin De.o_sub (De.fld (De.v 0)) De.int) De.nil))))) (De.wor (De.tnot (De.tval (De.call h_is_number (De.cons (De.v 2) (De.cons (De.bin De.o_sub (De.fld (De.v 0)) De.int) De.nil))))) (De.wor1 (De.tcmp De.o_gt (De.v 1) (De.v 2)))))) (De.slast (De.raise0 e_NoStretch)) De.snil)) ok
theorem F_raw_bar (hb : Blt mg) (h_raw_plain : Fn P w K mg base U 4 "raw_plain" 2 (sp_plain CR)) (h_raw_nought : Fn P w K mg base U 4 "raw_nought" 3 (sp_nought CR)) (h_RawPicture : Maker P w K mg base U 2 "RawPicture" 4 (sp_keepP CQ)) (A : DefAt K mg "raw_bar" t_raw_bar ["web", "prime", "begin", "end"]) (ok : Okd 10 (r_raw_bar K   (sp_plain CR) (sp_nought CR) (sp_keepP CQ)) (sp_raw_bar K CR CQ)) : Fn P w K mg base U 5 "raw_bar" 4 (sp_raw_bar K CR CQ) :=
  fnR A sc_raw_bar rfl (by decide) (De.scons (De.set 4 (De.tTup hb (De.cons (De.lc [("place", 9)] (De.toJ (De.rng1 hb.range (De.fld (De.v 0)))) (De.tv 9) De.ts0 (De.tInt hb (De.cons (De.chain De.o_le De.o_le (De.v 2) (De.v 9) (De.v 3)) De.nil))) De.nil))) (De.scons (De.setF 5 (De.dsp De.nil)) (De.scons (De.loop (De.seq (De.fld (De.v 0))) (De.tgt 2 (De.gC (De.tv 6) (De.gC (De.tv 7) De.gN))) (De.scons (De.set 8 (De.cmp De.o_eq (De.bin De.o_add (De.ix (De.v 4) (De.v 6)) (De.ix (De.v 4) (De.v 7))) De.int)) (De.slast (De.app 5 (De.ite (De.tval (De.v 8)) (De.call h_raw_plain (De.cons (De.v 1) (De.cons De.int De.nil))) (De.call h_raw_nought (De.cons (De.v 1) (De.cons (De.ix (De.v 4) (De.v 7)) (De.cons (De.ix (De.v 4) (De.v 6)) De.nil))))))))) (De.slast (De.ret (De.make h_RawPicture (De.cons (De.v 0) (De.cons (De.v 1) (De.cons (De.v 4) (De.cons (De.tTup hb (De.cons (De.v 5) De.nil)) De.nil)))))))))) ok
theorem F_bar_of (hb : Blt mg) (h_is_line : Fn P w K mg base U 1 "is_line" 1 (sp_is_line K)) (h_check_prime : Fn P w K mg base U 3 "check_prime" 1 (sp_check_prime EP)) (h_check_stretch : Fn P w K mg base U 4 "check_stretch" 3 (sp_check_stretch K ES)) (h_raw_bar : Fn P w K mg base U 5 "raw_bar" 4 (sp_raw_bar K CR CQ)) (e_NoLine : ExR K mg "NoLine" EL) (A : DefAt K mg "bar_of" t_bar_of ["web", "prime", "begin", "end"]) (ok : Okd 4 (r_bar_of  EL (sp_is_line K) (sp_check_prime EP) (sp_check_stretch K ES) (sp_raw_bar K CR CQ)) (sp_bar_of K CR CQ EL EP ES)) : Fn P w K mg base U 6 "bar_of" 4 (sp_bar_of K CR CQ EL EP ES) :=
  fnR A sc_bar_of rfl (by decide) (De.scons (De.cond (De.tnot (De.tval (De.call h_is_line (De.cons (De.v 0) De.nil)))) (De.slast (De.raise0 e_NoLine)) De.snil) (De.scons (De.ex (De.call h_check_prime (De.cons (De.v 1) De.nil))) (De.scons (De.ex (De.call h_check_stretch (De.cons (De.v 0) (De.cons (De.v 2) (De.cons (De.v 3) De.nil))))) (De.slast (De.ret (De.call h_raw_bar (De.cons (De.v 0) (De.cons (De.v 1) (De.cons (De.v 2) (De.cons (De.v 3) De.nil)))))))))) ok
theorem F_l_one (hb : Blt mg) (h_l_part : Fn P w K mg base U 1 "_law_part" 2 (sp_draw)) (A : DefAt K mg "_law_one" t_l_one ["_law_purse_here", "_law_some"]) (ok : Okd 2 (r_l_one   (sp_draw)) (sp_any)) : Fn P w K mg base U 2 "_law_one" 2 (sp_any) :=
  fnR A sc_l_one rfl (by decide) (De.slast (De.ret (De.ix (De.v 1) (De.call h_l_part (De.cons (De.v 0) (De.cons (De.bLen hb (De.cons (De.v 1) De.nil)) De.nil)))))) ok
theorem F_l_deep (hb : Blt mg)  (A : DefAt K mg "_law_deep" t_l_deep ["_law_many"]) (ok : Okd 3 (r_l_deep   ) (sp_deep)) : Fn P w K mg base U 1 "_law_deep" 1 (sp_deep) :=
  fnR A sc_l_deep rfl (by decide) (De.scons (De.set 1 (De.tup De.nil)) (De.scons (De.loop (De.rng1 hb.range (De.v 0)) (De.tv 2) (De.slast (De.set 1 (De.tup (De.cons (De.v 1) De.nil))))) (De.slast (De.ret (De.v 1))))) ok
theorem F_l_odd (hb : Blt mg) (h_l_deep : Fn P w K mg base U 1 "_law_deep" 1 (sp_deep)) (h_l_one : Fn P w K mg base U 2 "_law_one" 2 (sp_any)) (A : DefAt K mg "_law_odd" t_l_odd ["_law_purse_here"]) (ok : Okd 1 (r_l_odd   (sp_deep) (sp_any)) (sp_odd)) : Fn P w K mg base U 3 "_law_odd" 1 (sp_odd) :=
  fnR A sc_l_odd rfl (by decide) (De.slast (De.ret (De.call h_l_one (De.cons (De.v 0) (De.cons (De.lst (De.cons De.non (De.cons De.bl (De.cons De.bl (De.cons De.str (De.cons De.str (De.cons (De.lst De.nil) (De.cons De.dict0 (De.cons (De.tup (De.cons De.non De.nil)) (De.cons (De.tup (De.cons De.str De.nil)) (De.cons (De.tup (De.cons De.bl De.nil)) (De.cons (De.call h_l_deep (De.cons De.int De.nil)) (De.cons (De.bin De.o_pow De.int De.int) De.nil))))))))))))) De.nil))))) ok
theorem F_l_word_right (hb : Blt mg) (h_l_part : Fn P w K mg base U 1 "_law_part" 2 (sp_draw)) (h_l_one : Fn P w K mg base U 2 "_law_one" 2 (sp_any)) (h_line : Fn P w K mg base U 3 "line" 1 (sp_line CV EW)) (h_Web : Maker P w K mg base U 4 "Web" 2 (sp_Web CW)) (h_l_odd : Fn P w K mg base U 3 "_law_odd" 1 (sp_odd)) (W_l_word : Wrd P w K mg base "_law_word" Wd "let") (h_eo : ∀ cd : Value, OpAt ⟨P, w, K, mg, base, n_l_word_right, defScope t_l_word_right, .code cd (locs "_law_word_right"), U, 5⟩ (compareOp .Eq) (Op.eqO eo)) (hT : ∀ H, U.G H ↔ LamX.Tabs Tb H) (A : DefAtC K mg base Tb "_law_word_right" t_l_word_right ["_law_purse_here"]) (ok : Okd 8 (r_l_word_right   (sp_draw) (sp_any) (sp_line CV EW) (sp_Web CW) (sp_odd) eo Wd) (sp_t)) : Fn P w K mg base U 6 "_law_word_right" 1 (sp_t) :=
  fnRC A sc_l_word_right rfl (by decide) (fun cd LA => (De.scons (De.set 1 (De.joinS De.str (De.lc [("_law_sign", 6)] (De.toJ (De.rng1 hb.range (De.call h_l_part (De.cons (De.v 0) (De.cons De.int De.nil))))) (De.tv 6) De.ts0 (De.call h_l_one (De.cons (De.v 0) (De.cons (De.lst (De.cons De.str (De.cons De.str De.nil))) De.nil)))))) (De.scons (De.set 2 (De.call h_line (De.cons (De.v 1) De.nil))) (De.scons (De.set 3 (De.tTup hb (De.cons (De.lc [("_law_at", 7)] (De.toJ (De.rng1 hb.range (De.bLen hb (De.cons (De.v 1) De.nil)))) (De.tv 7) De.ts0 (De.ite (De.tcmp De.o_eq (De.ixS (De.v 1) (De.v 7)) De.str) (De.tup (De.cons (De.v 7) (De.cons (De.bin De.o_add (De.v 7) De.int) De.nil))) (De.tup (De.cons (De.bin De.o_add (De.v 7) De.int) (De.cons (De.v 7) De.nil))))) De.nil))) (De.scons (De.cond (De.tnot (De.tcmp (h_eo cd) (De.v 2) (De.make h_Web (De.cons (De.bin De.o_add (De.bLen hb (De.cons (De.v 1) De.nil)) De.int) (De.cons (De.v 3) De.nil))))) (De.slast (De.ret De.bl)) De.snil) (De.scons (De.set 4 (De.lst (De.cons (De.bin De.o_add (De.v 1) De.str) (De.cons (De.bin De.o_add (De.v 1) De.str) (De.cons (De.bin De.o_mulS De.str De.int) (De.cons (De.bin De.o_mulS De.str De.int) (De.cons (De.bin De.o_add (De.v 1) De.str) (De.cons De.str (De.cons De.int (De.cons De.non (De.cons (De.tup (De.cons De.str De.nil)) (De.cons (De.lst (De.cons (De.v 1) De.nil)) (De.cons (De.call h_l_odd (De.cons (De.v 0) De.nil)) De.nil))))))))))))) (De.scons (De.set 5 (De.call h_l_one (De.cons (De.v 0) (De.cons (De.v 4) De.nil)))) (De.slast (De.ret (De.cmp (h_eo cd) (De.word W_l_word LA hT (De.call h_line (De.cons (De.v 5) De.nil))) (De.ite (De.tof (De.wand (De.tval (De.isStr hb (De.v 5))) (De.wand1 (De.tcmp (h_eo cd) (De.v 5) De.str)))) De.str De.str))))))))))) ok
theorem F_l_bar_right (hb : Blt mg) (h_l_part : Fn P w K mg base U 1 "_law_part" 2 (sp_draw)) (h_l_one : Fn P w K mg base U 2 "_law_one" 2 (sp_any)) (h_line : Fn P w K mg base U 3 "line" 1 (sp_line CV EW)) (h_bar_of : Fn P w K mg base U 6 "bar_of" 4 (sp_bar_of K CR CQ EL EP ES)) (c_Picture : Glb K mg "Picture" (.any (.ref CP))) (h_eo : OpAt ⟨P, w, K, mg, base, n_l_bar_right, defScope t_l_bar_right, .top, U, 6⟩ (compareOp .Eq) (Op.eqO eo)) (A : DefAt K mg "_law_bar_right" t_l_bar_right ["_law_purse_here"]) (ok : Okd 15 (r_l_bar_right K CP  (sp_draw) (sp_any) (sp_line CV EW) (sp_bar_of K CR CQ EL EP ES) eo) (sp_t)) : Fn P w K mg base U 7 "_law_bar_right" 1 (sp_t) :=
  fnR A sc_l_bar_right rfl (by decide) (De.scons (De.set 1 (De.joinS De.str (De.lc [("_law_sign", 12)] (De.toJ (De.rng1 hb.range (De.call h_l_part (De.cons (De.v 0) (De.cons De.int De.nil))))) (De.tv 12) De.ts0 (De.call h_l_one (De.cons (De.v 0) (De.cons (De.lst (De.cons De.str (De.cons De.str De.nil))) De.nil)))))) (De.scons (De.unp (List.range 15) (De.tup (De.cons (De.call h_line (De.cons (De.v 1) De.nil)) (De.cons (De.call h_l_one (De.cons (De.v 0) (De.cons (De.lst (De.cons De.int (De.cons De.int (De.cons De.int (De.cons De.int (De.cons De.int (De.cons De.int De.nil))))))) De.nil))) (De.cons (De.bin De.o_add (De.bLen hb (De.cons (De.v 1) De.nil)) De.int) De.nil)))) (De.tgt 3 (De.gC (De.tv 2) (De.gC (De.tv 3) (De.gC (De.tv 4) De.gN))))) (De.scons (De.set 5 (De.call h_l_part (De.cons (De.v 0) (De.cons (De.v 4) De.nil)))) (De.scons (De.set 6 (De.bin De.o_add (De.v 5) (De.call h_l_part (De.cons (De.v 0) (De.cons (De.bin De.o_sub (De.v 4) (De.v 5)) De.nil))))) (De.scons (De.set 7 (De.call h_bar_of (De.cons (De.v 2) (De.cons (De.v 3) (De.cons (De.v 5) (De.cons (De.v 6) De.nil)))))) (De.scons (De.cond (De.tof (De.wor (De.tnot (De.tval (De.isOb hb.isinstance c_Picture (De.v 7)))) (De.wor (De.tnot (De.tcmp h_eo (De.fld (De.v 7)) (De.v 2))) (De.wor1 (De.tcmp De.o_ne (De.fld (De.v 7)) (De.v 3)))))) (De.slast (De.ret De.bl)) De.snil) (De.scons (De.set 8 (De.tTup hb (De.cons (De.lc [("_law_place", 13)] (De.toJ (De.rng1 hb.range (De.v 4))) (De.tv 13) De.ts0 (De.tInt hb (De.cons (De.chain De.o_le De.o_le (De.v 5) (De.v 13) (De.v 6)) De.nil))) De.nil))) (De.scons (De.setLc 9 [("_law_a", 10), ("_law_b", 11)] (De.seqJ (De.fld (De.v 2))) (De.tgt 2 (De.gC (De.tv 10) (De.gC (De.tv 11) De.gN))) De.ts0 (De.bin De.o_mul (De.tup (De.cons (De.bin De.o_mul (De.tup (De.cons De.int De.nil)) (De.ix (De.v 8) (De.v 10))) De.nil)) (De.ix (De.v 8) (De.v 11)))) (De.scons (De.cond (De.tof (De.wor (De.tcmp De.o_ne (De.fld (De.v 7)) (De.v 8)) (De.wor1 (De.tcmp De.o_ne (De.lc [("_law_table", 14)] (De.seqJ (De.fld (De.v 7))) (De.tv 14) De.ts0 (De.fld (De.v 14))) (De.v 9))))) (De.slast (De.ret De.bl)) De.snil) (De.slast (De.ret (De.cmp h_eo (De.lc [("_law_table", 14)] (De.seqJ (De.fld (De.v 7))) (De.tv 14) De.ts0 (De.tup (De.cons (De.fld (De.v 14)) (De.cons (De.fld (De.v 14)) De.nil)))) (De.lc [("_law_a", 10), ("_law_b", 11)] (De.seqJ (De.fld (De.v 2))) (De.tgt 2 (De.gC (De.tv 10) (De.gC (De.tv 11) De.gN))) De.ts0 (De.tup (De.cons (De.v 3) (De.cons (De.ix (De.v 8) (De.v 10)) De.nil)))))))))))))))) ok
theorem F_l_refused_right (hb : Blt mg) (h_line : Fn P w K mg base U 3 "line" 1 (sp_line CV EW)) (h_Web : Maker P w K mg base U 4 "Web" 2 (sp_Web CW)) (h_l_odd : Fn P w K mg base U 3 "_law_odd" 1 (sp_odd)) (h_l_part : Fn P w K mg base U 1 "_law_part" 2 (sp_draw)) (h_l_one : Fn P w K mg base U 2 "_law_one" 2 (sp_any)) (h_bar_of : Fn P w K mg base U 6 "bar_of" 4 (sp_bar_of K CR CQ EL EP ES)) (W_l_word : Wrd P w K mg base "_law_word" Wd "let") (hT : ∀ H, U.G H ↔ LamX.Tabs Tb H) (A : DefAtC K mg base Tb "_law_refused_right" t_l_refused_right ["_law_purse_here"]) (ok : Okd 10 (r_l_refused_right   (sp_line CV EW) (sp_Web CW) (sp_odd) (sp_draw) (sp_any) (sp_bar_of K CR CQ EL EP ES) Wd) (sp_t)) : Fn P w K mg base U 9 "_law_refused_right" 1 (sp_t) :=
  fnRC A sc_l_refused_right rfl (by decide) (fun cd LA => (De.scons (De.unp (List.range 10) (De.tup (De.cons (De.call h_line (De.cons De.str De.nil)) (De.cons De.int (De.cons (De.tup (De.cons De.int (De.cons De.int De.nil))) De.nil)))) (De.tgt 3 (De.gC (De.tv 1) (De.gC (De.tv 2) (De.gC (De.tv 3) De.gN))))) (De.scons (De.setF 4 (De.dsp (De.cons (De.make h_Web (De.cons De.int (De.cons (De.tup (De.cons (De.tup (De.cons De.int (De.cons De.int De.nil))) (De.cons (De.tup (De.cons De.int (De.cons De.int De.nil))) De.nil))) De.nil))) (De.cons (De.make h_Web (De.cons De.int (De.cons (De.tup (De.cons (De.tup (De.cons De.int (De.cons De.int De.nil))) (De.cons (De.tup (De.cons De.int (De.cons De.int De.nil))) De.nil))) De.nil))) (De.cons (De.make h_Web (De.cons De.int (De.cons (De.tup (De.cons (De.tup (De.cons De.int (De.cons De.int De.nil))) De.nil)) De.nil))) (De.cons (De.make h_Web (De.cons De.int (De.cons (De.tup (De.cons (De.tup (De.cons De.int (De.cons De.int De.nil))) (De.cons (De.tup (De.cons De.int (De.cons De.int De.nil))) De.nil))) De.nil))) De.nil)))))) (De.scons (De.app 4 (De.make h_Web (De.cons De.int (De.cons (De.tup De.nil) De.nil)))) (De.scons (De.set 5 (De.lst (De.cons (De.tup (De.cons De.int (De.cons De.int De.nil))) (De.cons (De.tup (De.cons (De.neg De.int) (De.cons De.int De.nil))) (De.cons (De.tup (De.cons De.int (De.cons De.int De.nil))) (De.cons (De.tup (De.cons De.bl (De.cons De.int De.nil))) (De.cons (De.tup (De.cons De.int (De.cons De.non De.nil))) (De.cons (De.tup (De.cons (De.call h_l_odd (De.cons (De.v 0) De.nil)) (De.cons De.int De.nil))) (De.cons (De.tup (De.cons De.int (De.cons (De.bin De.o_pow De.int De.int) De.nil))) (De.cons (De.tup (De.cons De.str (De.cons De.int De.nil))) De.nil)))))))))) (De.scons (De.set 6 (De.lst (De.cons (De.cmp De.o_eq (De.call h_l_part (De.cons (De.v 0) (De.cons De.int De.nil))) De.int) (De.cons (De.cmp De.o_eq (De.call h_l_part (De.cons (De.v 0) (De.cons De.int De.nil))) De.int) (De.cons (De.cmp De.o_eq (De.call h_l_part (De.cons (De.v 0) (De.cons De.int De.nil))) De.int) De.nil))))) (De.scons (De.frzS (De.set 1 (De.ite (De.tval (De.ix (De.v 6) De.int)) (De.call h_l_one (De.cons (De.v 0) (De.cons (De.v 4) De.nil))) (De.v 1)))) (De.scons (De.set 2 (De.ite (De.tval (De.ix (De.v 6) De.int)) (De.call h_l_one (De.cons (De.v 0) (De.cons (De.lst (De.cons De.int (De.cons De.int (De.cons De.int (De.cons De.int (De.cons De.int (De.cons De.bl (De.cons (De.call h_l_odd (De.cons (De.v 0) De.nil)) De.nil)))))))) De.nil))) (De.v 2))) (De.scons (De.unp (List.range 10) (De.ite (De.tval (De.ix (De.v 6) De.int)) (De.call h_l_one (De.cons (De.v 0) (De.cons (De.v 5) De.nil))) (De.v 3)) (De.tgt 2 (De.gC (De.tv 7) (De.gC (De.tv 8) De.gN)))) (De.scons (De.set 9 (De.ite (De.tcmp De.o_isin De.bl (De.v 6)) (De.ix (De.lst (De.cons De.str (De.cons De.str (De.cons De.str De.nil)))) (De.idxB (De.v 6) De.bl)) De.str)) (De.slast (De.ret (De.cmp De.o_eq (De.word W_l_word LA hT (De.call h_bar_of (De.cons (De.v 1) (De.cons (De.v 2) (De.cons (De.v 7) (De.cons (De.v 8) De.nil)))))) (De.v 9)))))))))))))) ok
theorem F_law {f fp : Addr} {fd fdp : FuncData} (hb : Blt mg) (h_l_word_right : Fn P w K mg base (potU Tb) 6 "_law_word_right" 1 (sp_t)) (h_l_bar_right : Fn P w K mg base (potU Tb) 7 "_law_bar_right" 1 (sp_t)) (h_l_refused_right : Fn P w K mg base (potU Tb) 9 "_law_refused_right" 1 (sp_t)) (F : Fun K "law" "law" t_law f fd) (Pot : FnOk P w K mg base (L2.CX P w) 1 fp fdp ["_law_script"] (spPot Tb K)) (gP : mg "_law_purse" = some (.ref fp)) (kP : PySem.W.keepIn K (.ref fp) = true) (bP : Binds K fdp ["_law_script"] []) (ok : fc (none :: some .pur :: List.replicate 1 none) fun δ => r_law   (sp_t) (sp_t) (sp_t) noX δ { nx := fun _ => False, rt := fun d => d = .bl true }) : FnOk P w K mg base L2.CX0 10 f fd ["_law_script"] (spLaw Tb K) :=
  lawTop F sc_law rfl Pot gP kP bP (by decide) (by decide +kernel) (by decide +kernel) (by decide +kernel) (De.scons (De.loop (De.rng1 hb.range De.int) (De.tv 2) (De.slast (De.cond (De.tof (De.wor (De.tnot (De.tval (De.call h_l_word_right (De.cons (De.v 1) De.nil)))) (De.wor (De.tnot (De.tval (De.call h_l_bar_right (De.cons (De.v 1) De.nil)))) (De.wor1 (De.tnot (De.tval (De.call h_l_refused_right (De.cons (De.v 1) De.nil)))))))) (De.slast (De.ret De.bl)) De.snil))) (De.slast (De.ret De.bl))) ok
theorem I_Web (hb : Blt mg) (hC : OkC K CW webN) (h_is_within : Fn P w K mg base U 2 "is_within" 3 (sp_is_within)) (h_is_number : Fn P w K mg base U 3 "is_number" 2 (sp_is_number)) (c_MOST_PLACES : Glb K mg "MOST_PLACES" (.int 8)) (c_MOST_ARROWS : Glb K mg "MOST_ARROWS" (.int 12)) (A : InitAt K mg "Web" CW "Web.__init__" t_Web_init ["self", "many", "arrows"]) (ok : Okb 6 (r_Web_init CW  (sp_is_within) (sp_is_number)) (sp_Web CW)) : Maker P w K mg base U 4 "Web" 2 (sp_Web CW) :=
  makerR A sc_Web_init rfl (by decide) (De.bpre (De.cond (De.tnot (De.tval (De.call h_is_within (De.cons (De.v 1) (De.cons De.int (De.cons (De.glb c_MOST_PLACES) De.nil)))))) (De.slast De.no) De.snil) (De.bpre (De.cond (De.tof (De.wor (De.tnot (De.tval (De.isTup hb (De.v 2)))) (De.wor1 (De.tcmp De.o_gt (De.bLen hb (De.cons (De.v 2) De.nil)) (De.glb c_MOST_ARROWS))))) (De.slast De.no) De.snil) (De.bpre (De.loop (De.enum hb.enumerate (De.v 2)) (De.tgt 2 (De.gC (De.tv 3) (De.gC (De.tv 4) De.gN))) (De.slast (De.cond (De.tof (De.wor (De.tnot (De.tval (De.isTup hb (De.v 4)))) (De.wor (De.tcmp De.o_ne (De.bLen hb (De.cons (De.v 4) De.nil)) De.int) (De.wor1 (De.tnot (De.tval (De.bAll hb (De.cons (De.lc [("at", 5)] (De.seqJ (De.v 4)) (De.tv 5) De.ts0 (De.call h_is_number (De.cons (De.v 5) (De.cons (De.bin De.o_sub (De.v 1) De.int) De.nil)))) De.nil)))))))) (De.slast De.no) De.snil))) (De.bgo (De.bset hC (De.v 1) (De.bset hC (De.v 2) De.bnil)))))) ok
theorem I_RawWeb (hb : Blt mg) (hC : OkC K CV webN) (A : InitAt K mg "RawWeb" CV "RawWeb.__init__" t_RawWeb_init ["self", "many", "arrows"]) (ok : Okb 3 (r_RawWeb_init CV  ) (sp_RawWeb CV)) : Maker P w K mg base U 1 "RawWeb" 2 (sp_RawWeb CV) :=
  makerR A sc_RawWeb_init rfl (by decide) (De.bgo (De.bset hC (De.v 1) (De.bset hC (De.v 2) De.bnil))) ok
theorem M_Web_eq {C : Addr} (hb : Blt mg) (c_Web : Glb K mg "Web" (.any (.ref CW))) (A : MethAt K C "__eq__" "Web.__eq__" t_Web_eq ["self", "other"]) (ok : Okd 2 (r_Web_eq K CW ) (sp_eqWb K CW)) : Mt P w K mg base U 1 C "__eq__" 2 (sp_eqWb K CW) :=
  mtR A sc_Web_eq rfl (by decide) (De.slast (De.ret (De.and2 (De.isOb hb.isinstance c_Web (De.v 1)) (De.one (De.cmp De.o_eq (De.tup (De.cons (De.fld (De.v 0)) (De.cons (De.fld (De.v 0)) De.nil))) (De.tup (De.cons (De.fld (De.v 1)) (De.cons (De.fld (De.v 1)) De.nil)))))))) ok
end
end K32

set_option maxRecDepth 100000
set_option maxHeartbeats 4000000
namespace K32
open PySem PySem.Spec PyProof.Rows L2 Dl Tb
local macro_rules | `(tactic| wtm_at "wh") => `(tactic| conv => whnf)
local macro_rules | `(tactic| wtm_at "cmp") => `(tactic| first | assumption | omega | (simp only [Int.reduceToNat, Int.reducePow]; omega))
local macro_rules | `(tactic| wtm_at "v1") => `(tactic| first
  | refine ⟨true, congrArg V.bl (decide_eq_true (by wtm_at "cmp")), ?_⟩
  | refine ⟨false, congrArg V.bl (decide_eq_false (by wtm_at "cmp")), ?_⟩
  | refine ⟨_, rfl, ?_⟩
  | refine ⟨_, _, _, _, rfl, rfl, SqL.of upd_same, rfl, ?_⟩
  | refine ⟨_, _, _, _, rfl, rfl, SqL.of (by refine (upd_ne (by assumption)).trans ?_; assumption), (by assumption), ?_⟩
  | refine ⟨_, _, rfl, .inl (SqL.of (by refine (upd_ne (by assumption)).trans ?_; assumption)), ?_⟩
  | refine ⟨_, _, rfl, rfl, ?_⟩
  | refine .inl ⟨_, rfl, ?_⟩
  | refine ⟨_, _, _, _, rfl, rfl, upd_same, rfl, ?_⟩
  | refine And.intro (by first | exact CMul.r (by omega) (by omega) | exact CMul.l (by omega) (by omega) | omega | exact ⟨by omega, by omega⟩ | exact ⟨by omega, by omega, by decide⟩) ?_)
local macro_rules | `(tactic| wtm_at "v") => `(tactic| (wtm_at "wh"; repeat (wtm_at "v1"; wtm_at "wh")))
theorem drawB {P : Program} {w : World} {K : PySem.W.Frag} {mg : Str → Option Value} {base : Heap} {f : Addr} {fd : FuncData} (hb : Blt mg) (F : Fun K "_law_part" "_law_part" t_l_part f fd) : FnOk P w K mg base (L2.CX P w) 1 f fd ["_law_purse_here", "_law_many"] (spDrawL K) := by
  refine F.okX sc_l_part (fun vs H Q E h => ?_) (fun cdv A outer s H vs Q E hr h => ?_)
  · obtain ⟨a, c, m, ns, i1, i2, i3, i4, rfl, _⟩ := h
    rfl
  · obtain ⟨a, c, m, ns, i1, i2, i3, i4, rfl, ha, hc, hns, ⟨p1, p2, p3, p3', p4⟩, m0, m1, q⟩ := h
    have hca : c ≠ a := fun e => by
      rw [e, ha] at hc
      have := Option.some.inj hc
      have := HO.lst.inj this
      cases ns <;> simp at this
    refine ⟨_, (pss_cons (ps_if (PW.pt (pw_and (pt_cmpR op_lt (pe_ix ix_list (pv 0) pe_int (by intro _ _; rfl)) pe_int (nomark _)) (pw_and1 (pt_cmpR op_lt (pe_ix ix_list (pv 0) pe_int (by intro _ _; rfl)) (pe_callB call_len_seq rfl hb.len boot_len (pa_cons (pe_ix ix_list (pv 0) pe_int (by intro _ _; rfl)) pa_nil)) (nomark _))))) (pss_cons (ps_set (i := 2) sc_l_part.nd rfl (.inl rfl) (pe_ix ix_list (pe_ix ix_list (pv 0) pe_int (by intro _ _; rfl)) (pe_ix ix_list (pv 0) pe_int (by intro _ _; rfl)) (by intro _ _; rfl)))
    (pss_cons (ps_asg (pe_op op_add (pe_ix ix_list (pv 0) pe_int (by intro _ _; rfl)) pe_int) (pg_sub (pv 0) pe_int set_list (by intro _; rfl)))
    (pss_cons (ps_asg (pe_op op_mod (pe_callTy call_int1 rfl hb.int bt_int (pa_cons (pe_op op_add (pe_op op_add (pe_op op_mul (pe_ix ix_list (pv 0) pe_int (by intro _ _; rfl)) pe_int) (pv 2)) pe_int) pa_nil)) pe_int) (pg_sub (pv 0) pe_int set_list (by intro _; rfl)))
    (pss_cons (ps_asg (pe_ifExp (pt_cmpR op_ge (pv 2) (pe_op op_pow pe_int pe_int) (nomark _)) (pv 2) pe_int) (pg_sub (pv 0) pe_int set_list (by intro _; rfl)))
    pss_nil)))) pss_nil)
    (pss_cons (ps_if (pt_cmpR op_gt (pe_ix ix_list (pv 0) pe_int (by intro _ _; rfl)) pe_int (nomark _)) (pss_cons (ps_set (i := 3) sc_l_part.nd rfl (.inl rfl) (pe_op op_mod (pe_callTy call_int1 rfl hb.int bt_int (pa_cons (pe_ix ix_list (pv 0) pe_int (by intro _ _; rfl)) pa_nil)) (pv 1)))
    (pss_cons (ps_asg (pe_op op_fdiv (pe_ix ix_list (pv 0) pe_int (by intro _ _; rfl)) (pv 1)) (pg_sub (pv 0) pe_int set_list (by intro _; rfl)))
    (pss_cons (ps_ret (pv 3))
    pss_nil))) pss_nil)
    (pss_cons (ps_asg (pe_op op_add (pe_ix ix_list (pv 0) pe_int (by intro _ _; rfl)) pe_int) (pg_sub (pv 0) pe_int set_list (by intro _; rfl)))
    (pss_cons (ps_set (i := 4) sc_l_part.nd rfl (.inl rfl) (pe_op op_mod (pe_callTy call_int1 rfl hb.int bt_int (pa_cons (pe_op op_mul (pe_op op_add (pe_ix ix_list (pv 0) pe_int (by intro _ _; rfl)) (pe_op op_mul pe_int (pe_ix ix_list (pv 0) pe_int (by intro _ _; rfl)))) pe_int) pa_nil)) pe_int))
    (pss_cons (ps_set (i := 4) sc_l_part.nd rfl (.inl rfl) (pe_op op_mod (pe_callTy call_int1 rfl hb.int bt_int (pa_cons (pe_op op_mul (pv 4) (pe_op op_add (pe_op op_fdiv (pv 4) pe_int) pe_int)) pa_nil)) pe_int))
    (pss_cons (ps_set (i := 4) sc_l_part.nd rfl (.inl rfl) (pe_op op_mod (pe_callTy call_int1 rfl hb.int bt_int (pa_cons (pe_op op_mul (pv 4) (pe_op op_add (pe_op op_fdiv (pv 4) pe_int) pe_int)) pa_nil)) pe_int))
    (pss_cons (ps_ret (pe_op op_mod (pe_callTy call_int1 rfl hb.int bt_int (pa_cons (pe_op op_fdiv (pv 4) pe_int) pa_nil)) (pv 1)))
    pss_nil))))))), ?_⟩
    rw [← upd_self ha]
    have hC : ∀ o, upd H a o c = some (.lst (ns.map V.int)) := fun o => (upd_ne hca).trans hc
    have e1 : ((ns.map V.int).length : Int) = ns.length := by simp
    by_cases h1 : i2 < 1
    · by_cases h2 : i1 < ((ns.map V.int).length : Int)
      · have hc1 : i1.toNat < ns.length := by omega
        have hcell : atI (ns.map V.int) i1 = some (.int ns[i1.toNat]) := atI_of i1.toNat (by omega) (by rw [List.getElem?_map, List.getElem?_eq_getElem hc1]; rfl)
        have hcn := hns _ (List.getElem_mem hc1)
        generalize ns[i1.toNat] = cell at hcell hcn
        by_cases h3 : 10000000000000 ≤ cell
        · wtm_at "v"
          simp only [upd_upd]
          exact q _ _ _ _ _ (Int.emod_nonneg _ (by omega)) (Int.emod_lt_of_pos _ m0) (by refine ⟨?_, ?_, ?_, ?_, ?_⟩ <;> first | omega | exact Int.ediv_nonneg (by omega) (by omega))
        · wtm_at "v"
          simp only [upd_upd]
          exact q _ _ _ _ _ (Int.emod_nonneg _ (by omega)) (Int.emod_lt_of_pos _ m0) (by refine ⟨?_, ?_, ?_, ?_, ?_⟩ <;> first | omega | exact Int.ediv_nonneg (by omega) (by omega))
      · wtm_at "v"
        simp only [upd_upd]
        exact q _ _ _ _ _ (Int.emod_nonneg _ (by omega)) (Int.emod_lt_of_pos _ m0) (by refine ⟨?_, ?_, ?_, ?_, ?_⟩ <;> first | omega | exact Int.ediv_nonneg (by omega) (by omega))
    · wtm_at "v"
      simp only [upd_upd]
      exact q _ _ _ _ _ (Int.emod_nonneg _ (by omega)) (Int.emod_lt_of_pos _ m0) (by refine ⟨?_, ?_, ?_, ?_, ?_⟩ <;> first | omega | exact Int.ediv_nonneg (by omega) (by omega))
theorem potB {P : Program} {w : World} {K : PySem.W.Frag} {mg : Str → Option Value} {base : Heap} {Tb : List (Addr × Str)} {f : Addr} {fd : FuncData} (hb : Blt mg) (F : Fun K "_law_purse" "_law_purse" t_l_purse f fd) : FnOk P w K mg base (L2.CX P w) 1 f fd ["_law_script"] (spPot Tb K) := by
  refine fnScr F sc_l_purse rfl fun X H0 c f h0 hl a ns hS hz => ?_
  have hS' : SqL X.K c.Hb a (ns.map V.int) := by rw [f.k, h0]; exact hS
  obtain ⟨ms, hms, hml⟩ := cut_ints ns none (some 70)
  have scr : ∀ {δ : List (Option D)} {S : D → Prop} {p p1 p2 p3 : Pos} {j : Nat}, δ[0]? = some (some (.any (.ref a))) → S (.lst (ms.map D.int)) → WE c (.Subscript (.Name "_law_script" p) (.Slice none (some (.Constant (.int 70) j p1)) none p2) p3) δ S := fun {δ S p p1 p2 p3 j} h0 h => by
    refine WE_scr (i := none) (j := some 70) hS' hz ?_ (WP_none rfl) (WP_some (WE_int ⟨70, rfl, rfl⟩)) (by rw [hms]; exact h)
    exact WE_var 0 h0 rfl (by rw [f.n]; rfl) (f.vis (by decide +kernel)) (by decide +kernel) (by decide +kernel)
  have fX : (⟨P, w, K, mg, base, n_l_purse, defScope t_l_purse, .top, potN Tb H0, 0⟩ : Fr).X X := f
  show WSs c (defBody t_l_purse) [some (.any (.ref a)), none] _
  refine WSs_cons (WS_retPot h0 hl (WF_lst (WA_cons ?_ rfl)) rfl)
  refine eLc [("_law_cell", 1)] [1] f (by decide +kernel) (fun _ h => h) (WJ_mono (WJ_lst (scr rfl ⟨_, rfl, ?_⟩)) fun ds h => De.lcTurns (f := ⟨P, w, K, mg, base, n_l_purse, defScope t_l_purse, .top, potN Tb H0, 0⟩) (De.tv 1) De.ts0 (De.bAbs hb (De.cons (De.tInt hb (De.cons (De.v 1) De.nil)) De.nil)) h) (by intro _; rfl)
  · refine Rd.tmap D.int (fun m => if m < 0 then -m else m) _ _ rfl (fun m hm S' k => ?_) ?_
    · wtm_at "wh"
      exact k
    · have ir : ∀ {i : Int} {j : Nat} {p : Pos} {es : List Expr} {δ : List (Option D)} {S : List D → Prop}, WA c es δ (fun ds => S (.int i :: ds)) → (starEach ((.Constant (.int i) j p) :: es) X.env = (false, eval (.Constant (.int i) j p) X.env) :: starEach es X.env) → WA c ((.Constant (.int i) j p) :: es) δ S := fun h e => WA_cons (WE_int h) e
      refine ir (ir (WA_cons ?_ rfl) rfl) rfl
      refine WE_bin (WE_int (WE_bin (WE_int (eB f hb.len (id := "len") boot_len (by decide +kernel) (WA_cons (scr rfl (WA_nil (CD_len (.lst _) (OD_mul_int (CMul.l (by omega) (by omega)) (OD_add_int ?_))))) rfl) rfl rfl))))
      refine ir (WA_nil ?_) rfl
      refine ⟨rfl, by show 5 ≤ sizeLine; decide, ms.map fun m => (if m < 0 then -m else m), 4099 + 31 * (((ms.map D.int).length : Nat) : Int), rfl, ?_, ?_⟩
      · intro n hn
        obtain ⟨m, _, rfl⟩ := List.mem_map.mp hn
        split <;> omega
      · simp only [List.length_map]
        refine ⟨?_, ?_, ?_, ?_, ?_⟩ <;> omega
end K32

set_option maxRecDepth 100000
set_option maxHeartbeats 400000
namespace K32
open PySem PySem.Spec PyProof.Rows L2 Dl
local macro_rules | `(tactic| wtm_at "lk") => `(tactic| first | (with_reducible exact upd_same) | (with_reducible refine lk2 ?_ (by assumption); wtm_at "lk"))
local macro_rules | `(tactic| wtm_at "ex") => `(tactic| first | (with_reducible exact Dl.Ext.refl _) | (with_reducible refine Dl.Ext.trans ?_ (new_ext (by assumption)); wtm_at "ex"))
local macro_rules | `(tactic| wtm_at "wd1") => `(tactic| first
  | refine ⟨true, congrArg V.bl (by first | rfl | decide), ?_⟩
  | refine ⟨false, congrArg V.bl (by first | rfl | decide), ?_⟩
  | refine ⟨_, _, _, rfl, (fun _ h => h), (by assumption), ?_⟩
  | refine ⟨_, _, _, rfl, rfl, SqL.of (by wtm_at "lk"), rfl, rfl, ?_⟩
  | refine ⟨_, _, _, 0, _, rfl, rfl, SqL.of (by wtm_at "lk"), rfl, rfl, rfl, rfl, idx_of rfl, ?_⟩
  | refine ⟨_, _, _, 1, _, rfl, rfl, SqL.of (by wtm_at "lk"), rfl, rfl, rfl, rfl, idx_of rfl, ?_⟩
  | refine ⟨_, _, _, 2, _, rfl, rfl, SqL.of (by wtm_at "lk"), rfl, rfl, rfl, rfl, idx_of rfl, ?_⟩
  | refine ⟨_, _, _, 3, _, rfl, rfl, SqL.of (by wtm_at "lk"), rfl, rfl, rfl, rfl, idx_of rfl, ?_⟩
  | refine ⟨_, _, _, 4, _, rfl, rfl, SqL.of (by wtm_at "lk"), rfl, rfl, rfl, rfl, idx_of rfl, ?_⟩
  | refine ⟨_, _, _, 5, _, rfl, rfl, SqL.of (by wtm_at "lk"), rfl, rfl, rfl, rfl, idx_of rfl, ?_⟩
  | refine ⟨_, _, _, _, rfl, rfl, (by wtm_at "lk"), (by wtm_at "lk"), (by rw [sizeLine_eq]; decide), fun p hp => ?_⟩
  | refine ⟨_, _, _, _, rfl, rfl, SqL.of (by wtm_at "lk"), rfl, ?_⟩
  | refine ⟨_, _, rfl, rfl, ?_⟩
  | refine ⟨_, rfl, ?_⟩
  | refine And.intro (tyL (by wtm_at "lk")) ?_
  | refine ⟨rfl, ?_⟩
  | refine And.intro (by first | decide | (rw [sizeLine_eq]; decide)) (fun p hp => ?_))
local macro_rules | `(tactic| wtm_at "wd") => `(tactic| ((conv => whnf); (repeat (wtm_at "wd1"; conv => whnf))))
theorem W_l_word {P : Program} {w : World} {K : PySem.W.Frag} {mg : Str → Option Value} {base : Heap} {WE E0 E1 E2 E3 : Addr} (hb : Blt mg) (hV : mg "ValueError" = none) (gW : mg "WebError" = some (.ref WE)) (g0 : mg "NoStretch" = some (.ref E0)) (g1 : mg "NoPrime" = some (.ref E1)) (g2 : mg "NoLine" = some (.ref E2)) (g3 : mg "NoWord" = some (.ref E3)) (C0 : ExcC K E0) (C1 : ExcC K E1) (C2 : ExcC K E2) (C3 : ExcC K E3) (m0 : PySem.W.exmOne K (.ref E0) (.ref WE) = some true) (m1 : PySem.W.exmOne K (.ref E1) (.ref WE) = some true) (m2 : PySem.W.exmOne K (.ref E2) (.ref WE) = some true) (m3 : PySem.W.exmOne K (.ref E3) (.ref WE) = some true) (v0 : PySem.W.kitOne K (.ref E0) (.type "ValueError") = some true) (v1 : PySem.W.kitOne K (.ref E1) (.type "ValueError") = some true) (v2 : PySem.W.kitOne K (.ref E2) (.type "ValueError") = some true) (v3 : PySem.W.kitOne K (.ref E3) (.type "ValueError") = some true) (k00 : PySem.W.kitOne K (.ref E0) (.ref E0) = some true) (k01 : PySem.W.kitOne K (.ref E0) (.ref E1) = some false) (k02 : PySem.W.kitOne K (.ref E0) (.ref E2) = some false) (k03 : PySem.W.kitOne K (.ref E0) (.ref E3) = some false) (k10 : PySem.W.kitOne K (.ref E1) (.ref E0) = some false) (k11 : PySem.W.kitOne K (.ref E1) (.ref E1) = some true) (k12 : PySem.W.kitOne K (.ref E1) (.ref E2) = some false) (k13 : PySem.W.kitOne K (.ref E1) (.ref E3) = some false) (k20 : PySem.W.kitOne K (.ref E2) (.ref E0) = some false) (k21 : PySem.W.kitOne K (.ref E2) (.ref E1) = some false) (k22 : PySem.W.kitOne K (.ref E2) (.ref E2) = some true) (k23 : PySem.W.kitOne K (.ref E2) (.ref E3) = some false) (k30 : PySem.W.kitOne K (.ref E3) (.ref E0) = some false) (k31 : PySem.W.kitOne K (.ref E3) (.ref E1) = some false) (k32 : PySem.W.kitOne K (.ref E3) (.ref E2) = some false) (k33 : PySem.W.kitOne K (.ref E3) (.ref E3) = some true) (A : DefAt K mg "_law_word" t_l_word ["_law_call"]) : Wrd P w K mg base "_law_word" (fun cls z => cls = .ref E0 ∧ z = "stretch" ∨ cls = .ref E1 ∧ z = "prime" ∨ cls = .ref E2 ∧ z = "line" ∨ cls = .ref E3 ∧ z = "word") "let" := by
  refine wrd_of (Ng := n_l_word) A sc_l_word rfl (.inl rfl) (by decide) (by decide) fun X q g cdv h1 h2 h3 h4 h5 => ?_
  subst h1 h2 h3 h4 h5
  refine word_gives (sg := defScope t_l_word) (g := g) (cdg := cdv) (x := "_law_word") (iw := 1) (ie := 2) (j := 0) (ts := fun D aa => (tSeq (tAsg (tLst (tCons (tCB (rIsE X.K D aa) (tCons (tVar 2) (tCons (tC (.ref E3)) tNil))) (tCons (tCB (rIsE X.K D aa) (tCons (tVar 2) (tCons (tC (.ref E2)) tNil))) tNil))) (gName 3)) (tSeq (tAsg (tOp rCat (tVar 3) (tLst (tCons (tCB (rIsE X.K D aa) (tCons (tVar 2) (tCons (tC (.ref E1)) tNil))) (tCons (tCB (rIsE X.K D aa) (tCons (tVar 2) (tCons (tC (.ref E0)) tNil))) tNil)))) (gName 3)) (tSeq (tAsg (tLst (tCons (tC (.str "word")) (tCons (tC (.str "line")) (tCons (tC (.str "prime")) (tCons (tC (.str "stretch")) tNil))))) (gName 4)) (tAsg (tIf (tAnd (tTest (tOp (rI0 fun i j => .bl (decide (i = j))) (tBM X.K "list" (rCntF X.K) (tVar 3) (tCons (tC (.bl true)) tNil)) (tC (.int 1)))) (tB (tCB (rIsE X.K D aa) (tCons (tVar 2) (tCons (tC (.ty "ValueError")) tNil))))) (tOp (rIxL X.K) (tVar 4) (tBM X.K "list" (rIndex X.K) (tVar 3) (tCons (tC (.bl true)) tNil))) (tC (.str "other"))) (gName 1)))))) sc_l_word.nd rfl rfl (fun _ => rfl) (by decide) (by decide) (by decide) rfl rfl rfl gW (by decide) (by decide) (by decide) (fun s H aa oe D pn C hz hf => ?hsu) ?hW
  case hsu =>
    have hI := call_isE (X := (cxOf C8.CX0 X.prog X.w X.K X.mg X.base n_l_word "_law_word" (defScope t_l_word) g cdv X.A X.stack s H C8.E0).nox) (a := aa) (pn := pn) C hz hf
    exact (pss_cons (ps_set (i := 3) sc_l_word.nd rfl (.inl rfl) (pe_lst (pa_cons (pe_callB hI rfl hb.isinstance boot_isinstance (pa_cons (pv 2) (pa_cons (pe_glob (v := .ref E3) (by rfl) g3 rfl) pa_nil))) (pa_cons (pe_callB hI rfl hb.isinstance boot_isinstance (pa_cons (pv 2) (pa_cons (pe_glob (v := .ref E2) (by rfl) g2 rfl) pa_nil))) pa_nil)))) (pss_cons (ps_set (i := 3) sc_l_word.nd rfl (.inl rfl) (pe_op op_cat (pv 3) (pe_lst (pa_cons (pe_callB hI rfl hb.isinstance boot_isinstance (pa_cons (pv 2) (pa_cons (pe_glob (v := .ref E1) (by rfl) g1 rfl) pa_nil))) (pa_cons (pe_callB hI rfl hb.isinstance boot_isinstance (pa_cons (pv 2) (pa_cons (pe_glob (v := .ref E0) (by rfl) g0 rfl) pa_nil))) pa_nil))))) (pss_cons (ps_set (i := 4) sc_l_word.nd rfl (.inl rfl) (pe_lst (pa_cons pe_str (pa_cons pe_str (pa_cons pe_str (pa_cons pe_str pa_nil)))))) (pss_one (ps_set (i := 1) sc_l_word.nd rfl (.inl rfl) (pe_ifExp (PW.pt (pw_and (pt_cmpR op_eqI (pe_bm PySem.F.plainAttrs_list PySem.F.slot_list_count PySem.F.type_list_count mt_countF (pv 3) (pa_cons pe_bl pa_nil)) pe_int (nomark _)) (pw_and1 (pt_val (pe_callB hI rfl hb.isinstance boot_isinstance (pa_cons (pv 2) (pa_cons (pe_bltn (v := .ty "ValueError") (by rfl) hV PyProof.Rows.Boot.«ValueError» rfl) pa_nil))))))) (pe_ix ix_list (pv 4) (pe_bm PySem.F.plainAttrs_list PySem.F.slot_list_index PySem.F.type_list_index mt_index (pv 3) (pa_cons pe_bl pa_nil)) (by intro _ _; rfl)) pe_str))))))
  case hW =>
    intro cls z hw
    rcases hw with hw | hw | hw | hw
    · obtain ⟨rfl, rfl⟩ := hw
      refine ⟨E0, rfl, C0, m0, fun aa σ H De hl k => ?_⟩
      match σ, hl with
      | [s0, s1, s2, s3, s4], _ =>
        wtm_at "wd"
        exact k _ _ rfl (by wtm_at "ex")
    · obtain ⟨rfl, rfl⟩ := hw
      refine ⟨E1, rfl, C1, m1, fun aa σ H De hl k => ?_⟩
      match σ, hl with
      | [s0, s1, s2, s3, s4], _ =>
        wtm_at "wd"
        exact k _ _ rfl (by wtm_at "ex")
    · obtain ⟨rfl, rfl⟩ := hw
      refine ⟨E2, rfl, C2, m2, fun aa σ H De hl k => ?_⟩
      match σ, hl with
      | [s0, s1, s2, s3, s4], _ =>
        wtm_at "wd"
        exact k _ _ rfl (by wtm_at "ex")
    · obtain ⟨rfl, rfl⟩ := hw
      refine ⟨E3, rfl, C3, m3, fun aa σ H De hl k => ?_⟩
      match σ, hl with
      | [s0, s1, s2, s3, s4], _ =>
        wtm_at "wd"
        exact k _ _ rfl (by wtm_at "ex")
end K32

set_option maxRecDepth 100000
set_option maxHeartbeats 4000000
namespace K32
open PySem PySem.Spec PyProof.Rows L2 Dl Tb Wb
local macro_rules | `(tactic| wtm_at "nth") => `(tactic| ((repeat (first | exact Nth.here | apply Nth.next)); first | done | fail))
local macro_rules | `(tactic| wtm_at "own") => `(tactic| ((repeat (first | exact Own.nil | (apply Own.loc; (focus (wtm_at "nth"; first | done | fail))) | (apply Own.cel; (focus (wtm_at "nth"; first | done | fail))) | apply Own.skp)); first | done | fail))
local macro_rules | `(tactic| wtm_at "frz") => `(tactic| ((repeat (first | exact Frz.nil | apply Frz.no | apply Frz.own | (apply Frz.st; (focus (first | assumption | with_unfolding_all rfl))) | apply Frz.any)); first | done | fail))
local macro_rules | `(tactic| wtm_at "frzl") => `(tactic| ((repeat (first | exact FrzL.nil | apply FrzL.own | (apply FrzL.st; (focus (first | assumption | with_unfolding_all rfl))))); first | done | fail))
local macro_rules | `(tactic| wtm_at "swp") => `(tactic| exact fun _ he => swapped_at he _ _ (by with_unfolding_all rfl))
local macro_rules | `(tactic| wtm_at "set") => `(tactic| ((repeat (first | exact St.here | apply St.next)); first | done | fail))
local macro_rules | `(tactic| wtm_at "wip") => `(tactic| ((repeat (first | exact Wp.nil | exact St.here | apply St.next | apply Wp.cons)); first | done | fail))
local macro_rules | `(tactic| wtm_at "blt") => `(tactic| first | assumption | exact Blt.at (by assumption) (by decide +kernel))
local macro_rules | `(tactic| wtm_at "bt") => `(tactic| first | exact bt_len | exact bt_sum | exact bt_abs | exact bt_max | exact bt_min | exact bt_all | exact bt_any | exact bt_sorted | exact bt_isinstance)
local macro_rules | `(tactic| wtm_at "bty") => `(tactic| first | exact bt_int | exact bt_bool | exact bt_str | exact bt_tuple | exact bt_list | exact bt_dict | exact bt_set)
local macro_rules | `(tactic| wtm_at "ar") => `(tactic| first | assumption | omega)
local macro_rules | `(tactic| wtm_at "len") => `(tactic| first | omega | (simp only [List.length_map, List.length_append, List.length_replicate, List.length_range, List.length_take, List.length_cons, List.length_nil, zeros]; omega))
local macro_rules | `(tactic| wtm_at "cm") => `(tactic| first | assumption | exact CMul.l (by omega) (by omega) | exact CMul.r (by omega) (by omega))
local macro_rules | `(tactic| wtm_at "kn") => `(tactic| first | assumption | with_unfolding_all rfl)
local macro_rules | `(tactic| wtm_at "fit") => `(tactic| first | with_unfolding_all rfl | assumption | exact fit_tII _ _ | exact fit_tI _ _ | (simp only [fit, fits, fits_tI, fits_ints, Bool.and_self]; first | done | fail))
local macro_rules | `(tactic| wtm_at "call") => `(tactic| first
  | refine eCP (by assumption) (by assumption) (by omega) (by decide +kernel) ?_ (by with_unfolding_all rfl) (by with_unfolding_all rfl)
  | refine eM (by assumption) (by assumption) (by omega) (by decide +kernel) ?_ (by with_unfolding_all rfl) (by with_unfolding_all rfl)
  | refine eB (by assumption) (by wtm_at "blt") (by with_reducible wtm_at "bt") (by decide +kernel) ?_ (by with_unfolding_all rfl) (by with_unfolding_all rfl)
  | refine eBT (by assumption) (by wtm_at "blt") (by with_reducible wtm_at "bty") (by decide +kernel) ?_ (by with_unfolding_all rfl) (by with_unfolding_all rfl))
local macro_rules | `(tactic| wtm_at "e") => `(tactic| first
  | (show Dl.WE _ (Expr.Name _ _) _ _; first
    | refine eN (by assumption) (by with_reducible wtm_at "nth") (by with_reducible wtm_at "nth") (by decide +kernel) ?_
    | refine eT (by assumption) (by wtm_at "blt") (by with_reducible wtm_at "bty") (by decide +kernel) ?_
    | refine eG (by assumption) (by assumption) (by decide +kernel) ?_)
  | (show Dl.WE _ (Expr.Constant _ _ _) _ _; first | refine WE_int ?_ | refine WE_bl ?_ | refine WE_non ?_ | refine WE_str ?_)
  | refine eF2 (by assumption) ?_ (by with_unfolding_all rfl)
  | refine WE_bin ?_
  | (show Dl.WE _ (Expr.Compare _ _ _ _) _ _; first
    | refine WE_isN ?_ | refine WE_notN ?_ | refine WE_cmp ?_ (by with_unfolding_all rfl) | refine WE_chain ?_ (by with_unfolding_all rfl))
  | (show Dl.WE _ (Expr.Call _ _ _ _) _ _; wtm_at "call")
  | (show Dl.WE _ (Expr.Subscript _ _ _) _ _; first | refine WE_sl ?_ | refine WE_ix ?_ (by with_unfolding_all intros _ _; rfl))
  | (show Dl.WE _ (Expr.BoolOp _ _ _) _ _; first | refine WE_and ?_ | refine WE_or ?_ | refine WE_one ?_)
  | (show Dl.WE _ (Expr.UnaryOp _ _ _) _ _; first | refine WE_not ?_ | refine WE_un ?_)
  | refine WE_if ?_ | refine WE_tup ?_ | refine WE_lst ?_
  | refine eLc3 (by assumption) (by with_reducible wtm_at "own") (by with_reducible wtm_at "wip") (by decide +kernel) ?_ (by with_unfolding_all intros; rfl))
local macro_rules | `(tactic| wtm_at "a") => `(tactic| first | refine WA_nil ?_ | refine WA_cons ?_ (by with_unfolding_all rfl))
local macro_rules | `(tactic| wtm_at "t") => `(tactic| first
  | refine WT_of (WW_and ?_) | refine WT_of (WW_or ?_) | refine WW_and ?_ | refine WW_or ?_ | refine WW_and1 ?_ | refine WW_or1 ?_
  | refine WT_not ?_ | refine WT_isN ?_ | refine WT_notN ?_ | refine WT_cmpR ?_ (by with_unfolding_all rfl) | refine WT_val ?_ (by with_unfolding_all intro _; rfl))
local macro_rules | `(tactic| wtm_at "s") => `(tactic| first
  | refine WSs_nil ?_ | refine WSs_cons ?_ | refine WS_retF (by with_reducible wtm_at "frz") ?_ | refine WS_retN ?_ | refine WS_if ?_ | refine WS_pass ?_ | refine WS_break ?_ | refine WS_continue ?_
  | (show WS _ (Stmt.Assign [Expr.Name _ _] (Expr.ListComp _ _ _ _) _) _ _; refine sLc3 (by assumption) (by with_reducible wtm_at "nth") (by with_reducible wtm_at "own") (by with_reducible wtm_at "wip") (by decide +kernel) (by decide +kernel) (by decide +kernel) (by with_unfolding_all rfl) (by decide +kernel) ?_ (by with_unfolding_all intros; rfl))
  | (show WS _ (Stmt.Assign [Expr.Name _ _] (Expr.List _ _) _) _ _; refine sSetF (by assumption) (by with_reducible wtm_at "nth") (by decide +kernel) (WF_lst ?_) (by with_unfolding_all rfl))
  | (show WS _ (Stmt.Assign [Expr.Name _ _] _ _) _ _; refine sSetE (by assumption) (by with_reducible wtm_at "nth") (by decide +kernel) ?_ (by with_unfolding_all rfl))
  | refine sApp2 (by assumption) (by with_reducible wtm_at "nth") (by with_reducible wtm_at "nth") (by decide +kernel) ?_ (by with_unfolding_all rfl) (by with_unfolding_all rfl) (by with_unfolding_all rfl) (by with_unfolding_all rfl) (by with_unfolding_all rfl) (by with_unfolding_all rfl)
  | refine sExtT (by assumption) (by with_reducible wtm_at "nth") (by with_reducible wtm_at "nth") (by decide +kernel) ?_ (by with_unfolding_all rfl) (by with_unfolding_all rfl) (by with_unfolding_all rfl) (by with_unfolding_all rfl) (by with_unfolding_all rfl) (by with_unfolding_all rfl)
  | refine sPut2 (by assumption) (by with_reducible wtm_at "nth") (by with_reducible wtm_at "nth") (by decide +kernel) ?_ (by with_unfolding_all intros; rfl) (by with_unfolding_all rfl) (by with_unfolding_all rfl) (by with_unfolding_all rfl)
  | refine sAug2 (by assumption) (by with_reducible wtm_at "nth") (by with_reducible wtm_at "nth") (by decide +kernel) ?_
  | refine sPar3 (by assumption) (by with_reducible wtm_at "nth") (by with_reducible wtm_at "nth") (by with_reducible wtm_at "nth") (by decide +kernel) (by decide +kernel) (by decide +kernel) (by decide +kernel) (by with_unfolding_all wtm_at "swp") ?_ (by with_unfolding_all rfl)
  | refine sPar2S (by assumption) (by with_reducible wtm_at "nth") (by with_reducible wtm_at "nth") (by decide +kernel) (by decide +kernel) (by decide +kernel) (by with_unfolding_all wtm_at "swp") ?_ (by with_unfolding_all rfl) (by with_unfolding_all rfl) (by with_unfolding_all rfl)
  | refine WS_expr ?_ (by with_unfolding_all rfl))
local macro_rules | `(tactic| wtm_at "g") => `(tactic| first
  | refine tN3 (by assumption) (by with_reducible wtm_at "nth") (by decide +kernel) (by decide +kernel) ?_
  | refine tT ?_ (by with_unfolding_all rfl) (by with_unfolding_all rfl) | refine AGs_c ?_ (by with_unfolding_all rfl) | refine AGs_n ?_)
local macro_rules | `(tactic| wtm_at "stl") => `(tactic| first | with_unfolding_all rfl | (simp only [stills, List.all_cons, List.all_nil, Bool.and_self, Bool.and_true, *] <;> with_unfolding_all rfl))
local macro_rules | `(tactic| wtm_at "ex") => `(tactic| first | refine ⟨_, rfl, ?_⟩ | refine ⟨_, _, rfl, ?_⟩ | refine ⟨_, _, _, rfl, ?_⟩ | refine ⟨_, _, _, _, rfl, ?_⟩ | refine ⟨_, _, _, _, _, rfl, ?_⟩ | refine ⟨_, _, _, _, _, _, rfl, ?_⟩ | refine ⟨_, _, _, _, _, _, _, rfl, ?_⟩ | refine ⟨_, _, _, _, _, _, _, _, rfl, ?_⟩)
local macro_rules | `(tactic| wtm_at "d") => `(tactic| first
  | refine ite_t ?_ | refine ite_f ?_ | refine ite_nt ?_ | refine ite_nf ?_ | refine ite_y (by assumption) ?_ | refine ite_ny (by assumption) ?_ | refine ite_no (by assumption) ?_ | refine ite_nno (by assumption) ?_
  | refine ⟨_, _, _, _, rfl, by assumption, by decide +kernel, by with_unfolding_all rfl, ?_⟩
  | refine And.intro (by with_unfolding_all rfl) (And.intro (by wtm_at "stl") ?_)
  | exact And.intro (by first | assumption | with_unfolding_all rfl) (by first | rfl | with_unfolding_all rfl) | refine Pass.still (by with_unfolding_all rfl) (by wtm_at "stl") ?_ | refine Pass.own (by with_unfolding_all rfl) (by with_reducible wtm_at "frzl") ?_ | refine ⟨_, .inl rfl, ?_⟩ | refine ⟨_, .inr rfl, ?_⟩ | wtm_at "ex" | refine And.intro (by first | assumption | with_unfolding_all rfl) ?_ | refine And.intro (show List.length _ ≤ sizeLine by first | (with_unfolding_all exact Nat.le_of_ble_eq_true rfl) | assumption) ?_ | refine And.intro (show List.length _ < sizeLine by first | assumption | with_unfolding_all decide | (simp [sizeLine]; omega)) ?_
  | (refine ite_p (fun _ => ?_) (fun _ => ?_) <;> try (exfalso; omega)) | (refine ite_n (fun _ => ?_) (fun _ => ?_) <;> try (exfalso; omega))
  | exact Eq.refl _)
local macro_rules | `(tactic| wtm_at "cd") => `(tactic| first
  | (show CD _ (Value.builtin "isinstance") _ _; first | refine isT1 ?_ | refine isI1 ?_ | refine isB0 ?_ | refine isB1 ?_ | refine isI2 ?_ | refine isL1 ?_ | refine CD_isInt (by wtm_at "kn") ?_ | refine CD_isBool (by wtm_at "kn") ?_ | refine CD_isTup (by wtm_at "kn") ?_ | refine CD_isLst (by wtm_at "kn") ?_ | refine CD_isStr (by wtm_at "kn") ?_)
  | (show CD _ (Value.builtin "len") _ _; first | refine CD_len (.tup _) ?_ | refine CD_len (.lst _) ?_ | refine CD_len (.own _) ?_)
  | (show CD _ (Value.type _) _ _; first | refine CD_int ?_ | refine CD_intb ?_ | refine CD_boolb ?_ | refine CD_booli ?_ | refine CD_tup (.lst _) ?_ | refine CD_tup (.tup _) ?_ | refine CD_tup (.own _) ?_ | refine CD_lst (.lst _) ?_ | refine CD_lst (.tup _) ?_ | refine CD_lst (.own _) ?_)
  | refine CD_all (.lst _) (by first | rfl | exact map_bl _ _) ?_ | refine CD_any (.lst _) (by first | rfl | exact map_bl _ _) ?_ | refine CD_sum (.lst _) (by first | rfl | exact map_int _ _) ?_ | refine CD_abs ?_)
local macro_rules | `(tactic| wtm_at "od") => `(tactic| first
  | (show OD _ (compareOp _) _ _ _; first | refine OD_lt_int ?_ | refine OD_le_int ?_ | refine OD_gt_int ?_ | refine OD_ge_int ?_ | refine OD_eq_int ?_ | refine OD_ne_int ?_ | refine OD_eq (by wtm_at "fit") (by wtm_at "fit") ?_ | refine OD_ne (by wtm_at "fit") (by wtm_at "fit") ?_)
  | refine OD_zeros (by omega) (by omega) ?_ | refine OD_add_tM (by wtm_at "len") ?_ | refine OD_add_lM (by wtm_at "len") ?_
  | refine OD_add_int ?_ | refine OD_sub_int ?_
  | refine OD_mul_int (by wtm_at "cm") ?_ | refine OD_mod_int (by wtm_at "ar") ?_ | refine OD_div_int (by wtm_at "ar") (by wtm_at "ar") ?_)
local macro_rules | `(tactic| wtm_at "w1") => `(tactic| with_reducible (first
  | (show Dl.WE _ _ _ _; wtm_at "e")
  | (show WA _ _ _ _; wtm_at "a")
  | (show OD _ _ _ _ _; wtm_at "od")
  | (show CD _ _ _ _; wtm_at "cd")
  | (show WT _ _ _ _; wtm_at "t") | (show WW _ _ _ _; wtm_at "t")
  | refine WBs_cons (rest := _ :: _) ?_
  | (show WS _ _ _ _; wtm_at "s") | (show WSs _ _ _ _; wtm_at "s")
  | (show AG _ _ _ _ _ _; wtm_at "g") | (show AGs _ _ _ _ _ _; wtm_at "g")
  | refine UD_neg ?_ | refine BlkO.of (fun _ _ _ => ?_) | refine Sto.by (by with_reducible wtm_at "set") ?_ | refine ID_seq (.tup _) (by assumption) ?_ | refine ID_seq (.lst _) (by assumption) ?_ | refine ID_seq (.own _) (by assumption) ?_
  | wtm_at "d"))
local macro_rules | `(tactic| wtm_at "wr1") => `(tactic| (refine WJ_of (iR1 (by assumption) (by wtm_at "blt") (by decide +kernel) ?_ (by with_unfolding_all rfl)); wtm_at "w"))
local macro_rules | `(tactic| wtm_at "wr2") => `(tactic| (refine WJ_of (iR2 (by assumption) (by wtm_at "blt") (by decide +kernel) ?_ (by with_unfolding_all rfl) (by with_unfolding_all rfl)); wtm_at "w"))
local macro_rules | `(tactic| wtm_at "wzp") => `(tactic| (refine WJ_of (iZip (by assumption) (by wtm_at "blt") (by decide +kernel) ?_ (by with_unfolding_all rfl) (by with_unfolding_all rfl)); wtm_at "w"; with_reducible first | refine ⟨_, _, .inr rfl, ?_⟩ | refine ⟨_, _, .inl rfl, ?_⟩))
local macro_rules | `(tactic| wtm_at "wen") => `(tactic| (refine WJ_of (iEnu (by assumption) (by wtm_at "blt") (by decide +kernel) ?_ (by with_unfolding_all rfl)); wtm_at "w"))
local macro_rules | `(tactic| wtm_at "wt") => `(tactic| (refine WJ_of (WI_tup ?_); wtm_at "w"))
local macro_rules | `(tactic| wtm_at "wl") => `(tactic| (refine WJ_of (WI_lst ?_); wtm_at "w"))
local macro_rules | `(tactic| wtm_at "wo") => `(tactic| (refine WJ_own ?_; wtm_at "w"))
local macro_rules | `(tactic| wtm_at "fen") => `(tactic| (refine sFor2 (by assumption) ?_ (by with_unfolding_all intros; rfl); refine iEnT (by assumption) (by wtm_at "blt") (by decide +kernel) ?_ (by with_unfolding_all rfl); wtm_at "w"))
local macro_rules | `(tactic| wtm_at "ft") => `(tactic| (refine sFor2 (by assumption) ?_ (by with_unfolding_all intros; rfl); refine WI_tup ?_; wtm_at "w"))
local macro_rules | `(tactic| wtm_at "fl") => `(tactic| (refine sFor2 (by assumption) ?_ (by with_unfolding_all intros; rfl); refine WI_lst ?_; wtm_at "w"))
local macro_rules | `(tactic| wtm_at "fr1") => `(tactic| (refine sFor2 (by assumption) ?_ (by with_unfolding_all intros; rfl); refine iR1 (by assumption) (by wtm_at "blt") (by decide +kernel) ?_ (by with_unfolding_all rfl); wtm_at "w"))
local macro_rules | `(tactic| wtm_at "fr2") => `(tactic| (refine sFor2 (by assumption) ?_ (by with_unfolding_all intros; rfl); refine iR2 (by assumption) (by wtm_at "blt") (by decide +kernel) ?_ (by with_unfolding_all rfl) (by with_unfolding_all rfl); wtm_at "w"))
local macro_rules | `(tactic| wtm_at "fzp") => `(tactic| (refine sFor2 (by assumption) ?_ (by with_unfolding_all intros; rfl); refine iZip (by assumption) (by wtm_at "blt") (by decide +kernel) ?_ (by with_unfolding_all rfl) (by with_unfolding_all rfl); wtm_at "w"; with_reducible first | refine ⟨_, _, .inr rfl, ?_⟩ | refine ⟨_, _, .inl rfl, ?_⟩))
local macro_rules | `(tactic| wtm_at "src") => `(tactic| with_reducible first | rfl | exact pairs_map _ _ _ _ | exact numbered_map _ _ | exact (List.map_id _).symm)
local macro_rules | `(tactic| wtm_at "tmi") => `(tactic| apply tMapE D.int _ _ _ (by wtm_at "src"))
local macro_rules | `(tactic| wtm_at "tmb") => `(tactic| apply tMapE D.bl _ _ _ (by wtm_at "src"))
local macro_rules | `(tactic| wtm_at "tm") => `(tactic| apply tMap _ _ _ (by with_reducible first | rfl | exact pairs_map _ _ _ _ | exact numbered_map _ _ | exact (List.map_id _).symm))
local macro_rules | `(tactic| wtm_at "w") => `(tactic| repeat' wtm_at "w1")
local macro_rules | `(tactic| wtm_at "st") => `(tactic| (try simp only [startD, List.map_cons, List.map_nil, List.length_cons, List.length_nil, Nat.reduceAdd, Nat.reduceSub, List.replicate_succ, List.replicate_zero, List.cons_append, List.nil_append]))
local macro_rules | `(tactic| wtm_at "go") => `(tactic| (wtm_at "st"; refine WSs_cons ?_; wtm_at "w"))
section
variable {P : Program} {w : World} {K : PySem.W.Frag} {mg : Str → Option Value} {base : Heap} {U : Pu} {k : Nat} {CR CQ C : Addr}
theorem m_keepT (hb : Blt mg) (hC : OkC K C tabN) (A : MethAt K C "keep" "Table.keep" t_Table_keep ["self", "prime", "wide", "rows"]) : Mi P w K mg base U (k + 1) C "keep" 3 (sp_keep C) := by
  refine miO A sc_Table_keep rfl fun X T c c2 o f ho p ds S hl hs => ?_
  obtain ⟨pr, w, rs, rfl, hs⟩ := hs
  subst ho
  wtm_at "st"
  refine WBs_go p ?_
  refine bSet f p hC (by decide +kernel) (by wtm_at "w") ?_
  wtm_at "w"
  refine bSet f p hC (by decide +kernel) (by wtm_at "w") ?_
  wtm_at "w"
  refine bSet f p hC (by decide +kernel) (by wtm_at "w") ?_
  wtm_at "w"
  refine bSet f p hC (by decide +kernel) (by wtm_at "w") ?_
  wtm_at "w"
  refine WB_nil p ?_
  refine eqS hs ?_
  simp
theorem i_RawT (hb : Blt mg) (hC : OkC K CR tabN) (F1 : Mi P w K mg base U (k + 1) CR "keep" 3 (sp_keep CR)) (A : InitAt K mg "RawTable" CR "RawTable.__init__" t_RawTable_init ["self", "prime", "wide", "rows"]) : Maker P w K mg base U (k + 2) "RawTable" 3 (sp_keep CR) := by
  refine makerO A sc_RawTable_init rfl fun X T c c2 o f ho p ds S hl hs => ?_
  obtain ⟨pr, w, rs, rfl, hs⟩ := hs
  subst ho
  wtm_at "st"
  refine WBs_go p ?_
  refine bKeep f p F1 (by omega) hC (by wtm_at "w") ?_
  wtm_at "w"
  exact hs
theorem m_keepP (hb : Blt mg) (hC : OkC K C picN) (A : MethAt K C "keep" "Picture.keep" t_Picture_keep ["self", "web", "prime", "sizes", "tables"]) : Mi P w K mg base U (k + 1) C "keep" 4 (sp_keepP C) := by
  refine miO A sc_Picture_keep rfl fun X T c c2 o f ho p ds S hl hs => ?_
  obtain ⟨C', m, ar, pr, sz, ts, rfl, hs⟩ := hs
  subst ho
  wtm_at "st"
  refine WBs_go p ?_
  refine bSet f p hC (by decide +kernel) (by wtm_at "w") ?_
  wtm_at "w"
  refine bSet f p hC (by decide +kernel) (by wtm_at "w") ?_
  wtm_at "w"
  refine bSet f p hC (by decide +kernel) (by wtm_at "w") ?_
  wtm_at "w"
  refine bSet f p hC (by decide +kernel) (by wtm_at "w") ?_
  wtm_at "w"
  refine WB_nil p ?_
  refine eqS hs ?_
  simp
theorem i_RawP (hb : Blt mg) (hC : OkC K CQ picN) (F1 : Mi P w K mg base U (k + 1) CQ "keep" 4 (sp_keepP CQ)) (A : InitAt K mg "RawPicture" CQ "RawPicture.__init__" t_RawPicture_init ["self", "web", "prime", "sizes", "tables"]) : Maker P w K mg base U (k + 2) "RawPicture" 4 (sp_keepP CQ) := by
  refine makerO A sc_RawPicture_init rfl fun X T c c2 o f ho p ds S hl hs => ?_
  obtain ⟨C', m, ar, pr, sz, ts, rfl, hs⟩ := hs
  subst ho
  wtm_at "st"
  refine WBs_go p ?_
  refine bKeep f p F1 (by omega) hC (by wtm_at "w") ?_
  wtm_at "w"
  exact hs
end
end K32

set_option maxRecDepth 100000
set_option maxHeartbeats 4000000
namespace K32
open PySem PySem.Spec PyProof.Rows L2 Dl Tb Wb
def tf0 : List He.Defn := [("_law_word_right", none), ("_law_refused_right", none)]
def tf : List He.Defn := tf0
def fa0 : List He.Fa := [.glo "is_integer", .glo "is_within", .glo "is_number", .glo "is_prime", .glo "check_prime", .glo "raw_plain", .glo "raw_nought", .glo "line", .glo "is_line", .glo "check_stretch"]
def fa1 : List He.Fa := [.glo "raw_bar", .glo "bar_of", .glo "_law_purse", .glo "_law_part", .glo "_law_one", .glo "_law_deep", .glo "_law_odd", .glo "_law_word_right", .glo "_law_bar_right", .glo "_law_refused_right"]
def fa2 : List He.Fa := [.glo "law", .glo "_law_word", .glo "Web", .glo "RawWeb", .glo "RawTable", .glo "Table", .glo "RawPicture", .glo "Picture", .glo "PRIMES", .glo "NoLine"]
def fa3 : List He.Fa := [.glo "NoPrime", .glo "NoStretch", .glo "NoWord", .glo "WebError", .free "len", .free "range", .free "zip", .free "enumerate", .free "sum", .free "abs"]
def fa4 : List He.Fa := [.free "max", .free "min", .free "all", .free "any", .free "sorted", .free "isinstance", .free "int", .free "bool", .free "str", .free "tuple"]
def fa5 : List He.Fa := [.free "list", .free "dict", .free "set", .free "ValueError", .free "Exception", .int "MOST_PLACES" 8, .int "MOST_ARROWS" 12, .int "MOST_SIZE" 6, .int "MOST" 12, .str "FORWARD" ">"]
def fa6 : List He.Fa := [.str "BACKWARD" "<", .cls "Web", .noat "Web" "many", .noat "Web" "arrows", .mkr "Web", .meth "Web" "__eq__", .cls "RawWeb", .noat "RawWeb" "many", .noat "RawWeb" "arrows", .mkr "RawWeb"]
def fa7 : List He.Fa := [.meth "RawWeb" "__eq__", .cls "RawTable", .noat "RawTable" "prime", .noat "RawTable" "wide", .noat "RawTable" "rows", .noat "RawTable" "high", .mkr "RawTable", .meth "RawTable" "keep", .cls "Table", .noat "Table" "prime"]
def fa8 : List He.Fa := [.noat "Table" "wide", .noat "Table" "rows", .noat "Table" "high", .mkr "Table", .meth "Table" "keep", .cls "RawPicture", .noat "RawPicture" "web", .noat "RawPicture" "prime", .noat "RawPicture" "sizes", .noat "RawPicture" "tables"]
def fa9 : List He.Fa := [.mkr "RawPicture", .meth "RawPicture" "keep", .cls "Picture", .noat "Picture" "web", .noat "Picture" "prime", .noat "Picture" "sizes", .noat "Picture" "tables", .mkr "Picture", .meth "Picture" "keep"]
def fa : List He.Fa := fa0 ++ fa1 ++ fa2 ++ fa3 ++ fa4 ++ fa5 ++ fa6 ++ fa7 ++ fa8 ++ fa9
def ex0 : List (PySem.W.Frag → Bool) := [obB "Web", obB "RawWeb", obB "RawTable", obB "Table", obB "RawPicture", obB "Picture", kitB2 "Web" "Web" true, kitB2 "RawWeb" "Web" true, kitB2 "RawPicture" "Picture" true, nfB "Web" "Web"]
def ex1 : List (PySem.W.Frag → Bool) := [nfB "RawWeb" "Web", nfB "RawWeb" "RawWeb", tupI "PRIMES" primes, excRB "NoWord", excRB "NoLine", excRB "NoPrime", excRB "NoStretch", excCB "NoStretch", exmB "NoStretch" "WebError" true, kitTB "NoStretch" "ValueError" true]
def ex2 : List (PySem.W.Frag → Bool) := [kitB2 "NoStretch" "NoStretch" true, kitB2 "NoStretch" "NoPrime" false, kitB2 "NoStretch" "NoLine" false, kitB2 "NoStretch" "NoWord" false, excCB "NoPrime", exmB "NoPrime" "WebError" true, kitTB "NoPrime" "ValueError" true, kitB2 "NoPrime" "NoStretch" false, kitB2 "NoPrime" "NoPrime" true, kitB2 "NoPrime" "NoLine" false]
def ex3 : List (PySem.W.Frag → Bool) := [kitB2 "NoPrime" "NoWord" false, excCB "NoLine", exmB "NoLine" "WebError" true, kitTB "NoLine" "ValueError" true, kitB2 "NoLine" "NoStretch" false, kitB2 "NoLine" "NoPrime" false, kitB2 "NoLine" "NoLine" true, kitB2 "NoLine" "NoWord" false, excCB "NoWord", exmB "NoWord" "WebError" true]
def ex4 : List (PySem.W.Frag → Bool) := [kitTB "NoWord" "ValueError" true, kitB2 "NoWord" "NoStretch" false, kitB2 "NoWord" "NoPrime" false, kitB2 "NoWord" "NoLine" false, kitB2 "NoWord" "NoWord" true, nodB tf]
def ex : List (PySem.W.Frag → Bool) := ex0 ++ ex1 ++ ex2 ++ ex3 ++ ex4
def fn0 : List He.DefD := [defD "is_integer" t_is_integer, defD "is_within" t_is_within, defD "is_number" t_is_number, defD "is_prime" t_is_prime, defD "check_prime" t_check_prime, defD "raw_plain" t_raw_plain, defD "raw_nought" t_raw_nought, defD "line" t_line, defD "is_line" t_is_line, defD "check_stretch" t_check_stretch]
def fn1 : List He.DefD := [defD "raw_bar" t_raw_bar, defD "bar_of" t_bar_of, defD "_law_purse" t_l_purse, defD "_law_part" t_l_part, defD "_law_one" t_l_one, defD "_law_deep" t_l_deep, defD "_law_odd" t_l_odd, defD "_law_word_right" t_l_word_right, defD "_law_bar_right" t_l_bar_right, defD "_law_refused_right" t_l_refused_right]
def fn2 : List He.DefD := [defD "law" t_law, defD "_law_word" t_l_word, metD "Web" "__init__" "Web.__init__" t_Web_init, metD "Web" "__eq__" "Web.__eq__" t_Web_eq, metD "RawWeb" "__init__" "RawWeb.__init__" t_RawWeb_init, metD "RawWeb" "__eq__" "Web.__eq__" t_Web_eq, metD "RawTable" "__init__" "RawTable.__init__" t_RawTable_init, metD "RawTable" "keep" "Table.keep" t_Table_keep, metD "Table" "__init__" "Table.__init__" t_Table_init, metD "Table" "keep" "Table.keep" t_Table_keep]
def fn3 : List He.DefD := [metD "RawPicture" "__init__" "RawPicture.__init__" t_RawPicture_init, metD "RawPicture" "keep" "Picture.keep" t_Picture_keep, metD "Picture" "__init__" "Picture.__init__" t_Picture_init, metD "Picture" "keep" "Picture.keep" t_Picture_keep]
def fn : List He.DefD := fn0 ++ fn1 ++ fn2 ++ fn3
def loose0 : List Str := ["WebError", "BadTable", "BadWeb", "BadPicture", "NoPrime", "NoWord", "NoLine", "NoStretch", "PRIMES", "is_integer"]
def loose1 : List Str := ["is_within", "is_number", "is_prime", "check_prime", "MOST", "is_column", "Table", "RawTable", "raw_plain", "raw_nought"]
def loose2 : List Str := ["MOST_PLACES", "MOST_ARROWS", "FORWARD", "BACKWARD", "Web", "RawWeb", "line", "MOST_SIZE", "are_sizes", "is_fit_table"]
def loose3 : List Str := ["Picture", "RawPicture", "is_line", "check_stretch", "raw_bar", "bar_of", "_law_purse", "_law_part", "_law_one", "_law_deep"]
def loose4 : List Str := ["_law_odd", "_law_word", "_law_word_right", "_law_bar_right", "_law_refused_right"]
def loose : List Str := loose0 ++ loose1 ++ loose2 ++ loose3 ++ loose4
def hd : Hd := ⟨fa, ex, fn⟩
abbrev R : PySem.W.OpenRow := PySem.W.OpenLaw.row PySem.Challenge.rw_mapwebs_k32_lines_and_their_bars_built
abbrev hk : PySem.W.Hook := hookY 4 hd tf
def ob (s : PySem.W.SharedT) : He.AlX := obsYG 4 hd tf (HandSHeadRun.getT s)
theorem ob_eq (s : PySem.W.SharedT) : ob s = hk.obs s.abs := obsYG_eq (HandSHeadRun.getT_eq s)
set_option maxHeartbeats 0 in
theorem run (w : World) : HandSHeadRun.RunEq R (PySem.W.view R.prog [52]) hk ob 6000 loose w := by
  intro os
  kernel_rfl
section
variable {P : Program} {w : World} {K : PySem.W.Frag} {mg : Str → Option Value} {h : Heap}
theorem facts (X : K.In h) (G : h.Ns mainGlobals mg) (c0 : SaysY hd tf w h K) {f : Addr} (hfa : mg "law" = some (.ref f)) : ∃ fd : FuncData, (∀ (s : Shared) (v : Value), BindsTo s fd ⟨[v], []⟩ [("_law_script", v)]) ∧ ∀ base : Heap, (∀ p ∈ tf.map (He.cT K), LamX.TabB base mg p.1 p.2) → FnOk P w K mg base L2.CX0 10 f fd ["_law_script"] (spLaw (tabsT K tf) K) := by
  have c := c0.x
  have hb : Blt mg := blt_of X G c (by decide +kernel)
  obtain ⟨fd, F0⟩ := c.def_ 20 (x := defD "law" t_law)
  have F := fun_of (x := "law") (q := "law") (st := t_law) F0
  have e := hfa.symm.trans (He.glo_ok X G (c.fact 20 (f := .glo "law")))
  cases e
  refine ⟨fd, law_binds F (fun _ _ _ _ _ _ us hl => match us, hl with | [_], _ => rfl), fun base TB => ?_⟩
  have nd : nodB tf K = true := c0.nod 45
  have hT : ∀ H, (potU (tabsT K tf)).G H ↔ LamX.Tabs (tabsT K tf) H := fun _ => Iff.rfl
  have o_Web : OkC K (He.ga K "Web") webN := okC_of c 0 61 (by decide +kernel)
  have C_Web := cls_of X G c (x := "Web") 22
  have o_RawWeb : OkC K (He.ga K "RawWeb") webN := okC_of c 1 66 (by decide +kernel)
  have C_RawWeb := cls_of X G c (x := "RawWeb") 23
  have o_RawTable : OkC K (He.ga K "RawTable") tabN := okC_of c 2 71 (by decide +kernel)
  have C_RawTable := cls_of X G c (x := "RawTable") 24
  have o_Table : OkC K (He.ga K "Table") tabN := okC_of c 3 78 (by decide +kernel)
  have C_Table := cls_of X G c (x := "Table") 25
  have o_RawPicture : OkC K (He.ga K "RawPicture") picN := okC_of c 4 85 (by decide +kernel)
  have C_RawPicture := cls_of X G c (x := "RawPicture") 26
  have o_Picture : OkC K (He.ga K "Picture") picN := okC_of c 5 92 (by decide +kernel)
  have C_Picture := cls_of X G c (x := "Picture") 27
  have C_MOST_PLACES := int_of X G c (x := "MOST_PLACES") 55
  have C_MOST_ARROWS := int_of X G c (x := "MOST_ARROWS") 56
  have C_FORWARD := str_of X G c (x := "FORWARD") 59
  have C_BACKWARD := str_of X G c (x := "BACKWARD") 60
  have C_PRIMES := tupI_of X G c (x := "PRIMES") (ns := primes) 12 28 (by decide)
  have C_MOST_SIZE := int_of X G c (x := "MOST_SIZE") 57
  have C_MOST := int_of X G c (x := "MOST") 58
  have kit_Web_Web := kit_of c (C := "Web") (D := "Web") 6
  have kit_RawWeb_Web := kit_of c (C := "RawWeb") (D := "Web") 7
  have kit_RawPicture_Picture := kit_of c (C := "RawPicture") (D := "Picture") 8
  have nf_Web_Web := nf_of c (C := "Web") (D := "Web") 9
  have nf_RawWeb_Web := nf_of c (C := "RawWeb") (D := "Web") 10
  have nf_RawWeb_RawWeb := nf_of c (C := "RawWeb") (D := "RawWeb") 11
  have e_NoWord : ExR K mg "NoWord" (He.ga K "NoWord") := excR_of X G c 13 32
  have e_NoLine : ExR K mg "NoLine" (He.ga K "NoLine") := excR_of X G c 14 29
  have e_NoPrime : ExR K mg "NoPrime" (He.ga K "NoPrime") := excR_of X G c 15 30
  have e_NoStretch : ExR K mg "NoStretch" (He.ga K "NoStretch") := excR_of X G c 16 31
  have A_l_word := defAt_of X G c (x := "_law_word") (st := t_l_word) (ps := ["_law_call"]) 21 21 (fun _ _ _ _ _ _ us hl => match us, hl with | [_], _ => rfl)
  have W_l_word := W_l_word (P := P) (w := w) (base := base) hb (He.free_ok X G (c.fact 53 (f := .free "ValueError"))) (He.glo_ok X G (c.fact 33 (f := .glo "WebError"))) (He.glo_ok X G (c.fact 31 (f := .glo "NoStretch"))) (He.glo_ok X G (c.fact 30 (f := .glo "NoPrime"))) (He.glo_ok X G (c.fact 29 (f := .glo "NoLine"))) (He.glo_ok X G (c.fact 32 (f := .glo "NoWord"))) (excC_of c (C := "NoStretch") 16 17) (excC_of c (C := "NoPrime") 15 24) (excC_of c (C := "NoLine") 14 31) (excC_of c (C := "NoWord") 13 38) (exm_of c (C := "NoStretch") (D := "WebError") 18) (exm_of c (C := "NoPrime") (D := "WebError") 25) (exm_of c (C := "NoLine") (D := "WebError") 32) (exm_of c (C := "NoWord") (D := "WebError") 39) (kitT_of c (C := "NoStretch") 19) (kitT_of c (C := "NoPrime") 26) (kitT_of c (C := "NoLine") 33) (kitT_of c (C := "NoWord") 40) (kit_of c (C := "NoStretch") (D := "NoStretch") 20) (kit_of c (C := "NoStretch") (D := "NoPrime") 21) (kit_of c (C := "NoStretch") (D := "NoLine") 22) (kit_of c (C := "NoStretch") (D := "NoWord") 23) (kit_of c (C := "NoPrime") (D := "NoStretch") 27) (kit_of c (C := "NoPrime") (D := "NoPrime") 28) (kit_of c (C := "NoPrime") (D := "NoLine") 29) (kit_of c (C := "NoPrime") (D := "NoWord") 30) (kit_of c (C := "NoLine") (D := "NoStretch") 34) (kit_of c (C := "NoLine") (D := "NoPrime") 35) (kit_of c (C := "NoLine") (D := "NoLine") 36) (kit_of c (C := "NoLine") (D := "NoWord") 37) (kit_of c (C := "NoWord") (D := "NoStretch") 41) (kit_of c (C := "NoWord") (D := "NoPrime") 42) (kit_of c (C := "NoWord") (D := "NoLine") 43) (kit_of c (C := "NoWord") (D := "NoWord") 44) A_l_word
  have hWb : WebC K (He.ga K "Web") (He.ga K "Web") := ⟨o_Web, kit_Web_Web⟩
  have hRb : WebC K (He.ga K "Web") (He.ga K "RawWeb") := ⟨o_RawWeb, kit_RawWeb_Web⟩
  have A_Web_eq := methAt_of c (C := "Web") (m := "__eq__") (q := "Web.__eq__") (st := t_Web_eq) (ps := ["self", "other"]) 23 65 (fun _ _ _ _ _ _ us hl => match us, hl with | [_, _], _ => rfl)
  have A_RawWeb_eq := methAt_of c (C := "RawWeb") (m := "__eq__") (q := "Web.__eq__") (st := t_Web_eq) (ps := ["self", "other"]) 25 70 (fun _ _ _ _ _ _ us hl => match us, hl with | [_, _], _ => rfl)
  have A_RawTable_keep := methAt_of c (C := "RawTable") (m := "keep") (q := "Table.keep") (st := t_Table_keep) (ps := ["self", "prime", "wide", "rows"]) 27 77 (fun _ _ _ _ _ _ us hl => match us, hl with | [_, _, _, _], _ => rfl)
  have A_Table_keep := methAt_of c (C := "Table") (m := "keep") (q := "Table.keep") (st := t_Table_keep) (ps := ["self", "prime", "wide", "rows"]) 29 84 (fun _ _ _ _ _ _ us hl => match us, hl with | [_, _, _, _], _ => rfl)
  have A_RawPicture_keep := methAt_of c (C := "RawPicture") (m := "keep") (q := "Picture.keep") (st := t_Picture_keep) (ps := ["self", "web", "prime", "sizes", "tables"]) 31 91 (fun _ _ _ _ _ _ us hl => match us, hl with | [_, _, _, _, _], _ => rfl)
  have A_Picture_keep := methAt_of c (C := "Picture") (m := "keep") (q := "Picture.keep") (st := t_Picture_keep) (ps := ["self", "web", "prime", "sizes", "tables"]) 33 98 (fun _ _ _ _ _ _ us hl => match us, hl with | [_, _, _, _, _], _ => rfl)
  have A_Web := initAt_of X G c (C := "Web") (q := "Web.__init__") (st := t_Web_init) (ps := ["self", "many", "arrows"]) 22 64 22 (fun _ _ _ _ _ _ us hl => match us, hl with | [_, _, _], _ => rfl)
  have A_RawWeb := initAt_of X G c (C := "RawWeb") (q := "RawWeb.__init__") (st := t_RawWeb_init) (ps := ["self", "many", "arrows"]) 24 69 23 (fun _ _ _ _ _ _ us hl => match us, hl with | [_, _, _], _ => rfl)
  have A_RawTable := initAt_of X G c (C := "RawTable") (q := "RawTable.__init__") (st := t_RawTable_init) (ps := ["self", "prime", "wide", "rows"]) 26 76 24 (fun _ _ _ _ _ _ us hl => match us, hl with | [_, _, _, _], _ => rfl)
  have A_Table := initAt_of X G c (C := "Table") (q := "Table.__init__") (st := t_Table_init) (ps := ["self", "prime", "wide", "rows"]) 28 83 25 (fun _ _ _ _ _ _ us hl => match us, hl with | [_, _, _, _], _ => rfl)
  have A_RawPicture := initAt_of X G c (C := "RawPicture") (q := "RawPicture.__init__") (st := t_RawPicture_init) (ps := ["self", "web", "prime", "sizes", "tables"]) 30 90 26 (fun _ _ _ _ _ _ us hl => match us, hl with | [_, _, _, _, _], _ => rfl)
  have A_Picture := initAt_of X G c (C := "Picture") (q := "Picture.__init__") (st := t_Picture_init) (ps := ["self", "web", "prime", "sizes", "tables"]) 32 97 27 (fun _ _ _ _ _ _ us hl => match us, hl with | [_, _, _, _, _], _ => rfl)
  obtain ⟨fp, fdp, FP, gP, bP⟩ := (defAt_of X G c (x := "_law_purse") (st := t_l_purse) (ps := ["_law_script"]) 12 12 (fun _ _ _ _ _ _ us hl => match us, hl with | [_], _ => rfl)).ex
  have kP := FP.kp
  have HP := potB (P := P) (w := w) (base := base) (Tb := tabsT K tf) hb FP
  obtain ⟨fr, fdr, FR, gR, bR⟩ := (defAt_of X G c (x := "_law_part") (st := t_l_part) (ps := ["_law_purse_here", "_law_many"]) 13 13 (fun _ _ _ _ _ _ us hl => match us, hl with | [_, _], _ => rfl)).ex
  have H_l_part : Fn P w K mg base (potU (tabsT K tf)) 1 "_law_part" 2 sp_draw := ⟨fr, fdr, _, gR, FR.kp, bR, draw_told rfl (drawB (P := P) (w := w) (base := base) hb FR)⟩
  have M1 := M_Web_eq (P := P) (w := w) (base := base) (U := potU (tabsT K tf)) hb C_Web A_Web_eq (ok_Web_eq K _)
  have M2 := M_Web_eq (P := P) (w := w) (base := base) (U := potU (tabsT K tf)) hb C_Web A_RawWeb_eq (ok_Web_eq K _)
  have H_RawTable := i_RawT (P := P) (w := w) (base := base) (U := potU (tabsT K tf)) (k := 0) hb o_RawTable (m_keepT hb o_RawTable A_RawTable_keep) A_RawTable
  have H_RawPicture := i_RawP (P := P) (w := w) (base := base) (U := potU (tabsT K tf)) (k := 0) hb o_RawPicture (m_keepP hb o_RawPicture A_RawPicture_keep) A_RawPicture
  have H_RawWeb := I_RawWeb (P := P) (w := w) (base := base) (U := potU (tabsT K tf)) hb o_RawWeb A_RawWeb (ok_RawWeb_init _)
  have A_is_integer := defAt_of X G c (x := "is_integer") (st := t_is_integer) (ps := ["thing"]) 0 0 (fun _ _ _ _ _ _ us hl => match us, hl with | [_], _ => rfl)
  have H_is_integer := F_is_integer (P := P) (w := w) (base := base) (U := potU (tabsT K tf)) hb  A_is_integer (ok_is_integer)
  have A_is_within := defAt_of X G c (x := "is_within") (st := t_is_within) (ps := ["thing", "least", "most"]) 1 1 (fun _ _ _ _ _ _ us hl => match us, hl with | [_, _, _], _ => rfl)
  have H_is_within := F_is_within (P := P) (w := w) (base := base) (U := potU (tabsT K tf)) hb H_is_integer A_is_within (ok_is_within)
  have A_is_number := defAt_of X G c (x := "is_number") (st := t_is_number) (ps := ["thing", "most"]) 2 2 (fun _ _ _ _ _ _ us hl => match us, hl with | [_, _], _ => rfl)
  have H_is_number := F_is_number (P := P) (w := w) (base := base) (U := potU (tabsT K tf)) hb H_is_within A_is_number (ok_is_number)
  have A_is_prime := defAt_of X G c (x := "is_prime") (st := t_is_prime) (ps := ["thing"]) 3 3 (fun _ _ _ _ _ _ us hl => match us, hl with | [_], _ => rfl)
  have H_is_prime := F_is_prime (P := P) (w := w) (base := base) (U := potU (tabsT K tf)) hb H_is_integer C_PRIMES A_is_prime (ok_is_prime)
  have A_check_prime := defAt_of X G c (x := "check_prime") (st := t_check_prime) (ps := ["thing"]) 4 4 (fun _ _ _ _ _ _ us hl => match us, hl with | [_], _ => rfl)
  have H_check_prime := F_check_prime (P := P) (w := w) (base := base) (U := potU (tabsT K tf)) hb H_is_prime e_NoPrime A_check_prime (ok_check_prime _)
  have A_raw_plain := defAt_of X G c (x := "raw_plain") (st := t_raw_plain) (ps := ["prime", "size"]) 5 5 (fun _ _ _ _ _ _ us hl => match us, hl with | [_, _], _ => rfl)
  have H_raw_plain := F_raw_plain (P := P) (w := w) (base := base) (U := potU (tabsT K tf)) hb H_RawTable A_raw_plain (ok_raw_plain _)
  have A_raw_nought := defAt_of X G c (x := "raw_nought") (st := t_raw_nought) (ps := ["prime", "high", "wide"]) 6 6 (fun _ _ _ _ _ _ us hl => match us, hl with | [_, _, _], _ => rfl)
  have H_raw_nought := F_raw_nought (P := P) (w := w) (base := base) (U := potU (tabsT K tf)) hb H_RawTable A_raw_nought (ok_raw_nought _)
  have A_line := defAt_of X G c (x := "line") (st := t_line) (ps := ["word"]) 7 7 (fun _ _ _ _ _ _ us hl => match us, hl with | [_], _ => rfl)
  have H_line := F_line (P := P) (w := w) (base := base) (U := potU (tabsT K tf)) hb H_RawWeb C_MOST_PLACES C_FORWARD C_BACKWARD e_NoWord A_line (ok_line (He.ga K "RawWeb") (He.ga K "NoWord"))
  have A_is_line := defAt_of X G c (x := "is_line") (st := t_is_line) (ps := ["web"]) 8 8 (fun _ _ _ _ _ _ us hl => match us, hl with | [_], _ => rfl)
  have H_is_line := F_is_line (P := P) (w := w) (base := base) (U := potU (tabsT K tf)) hb  A_is_line (ok_is_line K)
  have A_check_stretch := defAt_of X G c (x := "check_stretch") (st := t_check_stretch) (ps := ["web", "begin", "end"]) 9 9 (fun _ _ _ _ _ _ us hl => match us, hl with | [_, _, _], _ => rfl)
  have H_check_stretch := F_check_stretch (P := P) (w := w) (base := base) (U := potU (tabsT K tf)) hb H_is_number e_NoStretch A_check_stretch (ok_check_stretch K _)
  have A_raw_bar := defAt_of X G c (x := "raw_bar") (st := t_raw_bar) (ps := ["web", "prime", "begin", "end"]) 10 10 (fun _ _ _ _ _ _ us hl => match us, hl with | [_, _, _, _], _ => rfl)
  have H_raw_bar := F_raw_bar (P := P) (w := w) (base := base) (U := potU (tabsT K tf)) hb H_raw_plain H_raw_nought H_RawPicture A_raw_bar (ok_raw_bar K (He.ga K "RawTable") (He.ga K "RawPicture"))
  have A_bar_of := defAt_of X G c (x := "bar_of") (st := t_bar_of) (ps := ["web", "prime", "begin", "end"]) 11 11 (fun _ _ _ _ _ _ us hl => match us, hl with | [_, _, _, _], _ => rfl)
  have H_bar_of := F_bar_of (P := P) (w := w) (base := base) (U := potU (tabsT K tf)) hb H_is_line H_check_prime H_check_stretch H_raw_bar e_NoLine A_bar_of (ok_bar_of K (He.ga K "RawTable") (He.ga K "RawPicture") (He.ga K "NoLine") (He.ga K "NoPrime") (He.ga K "NoStretch"))
  have A_l_one := defAt_of X G c (x := "_law_one") (st := t_l_one) (ps := ["_law_purse_here", "_law_some"]) 14 14 (fun _ _ _ _ _ _ us hl => match us, hl with | [_, _], _ => rfl)
  have H_l_one := F_l_one (P := P) (w := w) (base := base) (U := potU (tabsT K tf)) hb H_l_part A_l_one (ok_l_one)
  have A_l_deep := defAt_of X G c (x := "_law_deep") (st := t_l_deep) (ps := ["_law_many"]) 15 15 (fun _ _ _ _ _ _ us hl => match us, hl with | [_], _ => rfl)
  have H_l_deep := F_l_deep (P := P) (w := w) (base := base) (U := potU (tabsT K tf)) hb  A_l_deep (ok_l_deep)
  have A_l_odd := defAt_of X G c (x := "_law_odd") (st := t_l_odd) (ps := ["_law_purse_here"]) 16 16 (fun _ _ _ _ _ _ us hl => match us, hl with | [_], _ => rfl)
  have H_l_odd := F_l_odd (P := P) (w := w) (base := base) (U := potU (tabsT K tf)) hb H_l_deep H_l_one A_l_odd (ok_l_odd)
  have A_l_bar_right := defAt_of X G c (x := "_law_bar_right") (st := t_l_bar_right) (ps := ["_law_purse_here"]) 18 18 (fun _ _ _ _ _ _ us hl => match us, hl with | [_], _ => rfl)
  have H_l_bar_right := F_l_bar_right (P := P) (w := w) (base := base) (U := potU (tabsT K tf)) hb H_l_part H_l_one H_line H_bar_of C_Picture (eqW_at hWb hRb M1 M2 (Nat.le_of_ble_eq_true rfl) nf_Web_Web nf_RawWeb_Web nf_RawWeb_RawWeb) A_l_bar_right (ok_bar_right K (He.ga K "Web") (He.ga K "RawWeb") (He.ga K "RawTable") (He.ga K "RawPicture") (He.ga K "Picture") (He.ga K "NoLine") (He.ga K "NoPrime") (He.ga K "NoStretch") (He.ga K "NoWord") o_RawWeb o_RawTable o_RawPicture kit_RawPicture_Picture)
  have H_Web := I_Web (P := P) (w := w) (base := base) (U := potU (tabsT K tf)) hb o_Web H_is_within H_is_number C_MOST_PLACES C_MOST_ARROWS A_Web (ok_Web_init _)
  have A_l_word_right := defAtC_of X G c (base := base) (tf := tf) (Q := fun _ => True) (x := "_law_word_right") (st := t_l_word_right) (ps := ["_law_purse_here"]) 17 17 0 TB nd (fun _ _ _ _ _ _ us hl => match us, hl with | [_], _ => rfl)
  have H_l_word_right := F_l_word_right (P := P) (w := w) (base := base) (U := potU (tabsT K tf)) hb H_l_part H_l_one H_line H_Web H_l_odd W_l_word (fun _ => eqW_at hWb hRb M1 M2 (Nat.le_of_ble_eq_true rfl) nf_Web_Web nf_RawWeb_Web nf_RawWeb_RawWeb) hT A_l_word_right (ok_word_right (He.ga K "Web") (He.ga K "RawWeb") (He.ga K "NoWord") _ (.inr (.inr (.inr ⟨rfl, rfl⟩))))
  have A_l_refused_right := defAtC_of X G c (base := base) (tf := tf) (Q := fun _ => True) (x := "_law_refused_right") (st := t_l_refused_right) (ps := ["_law_purse_here"]) 19 19 1 TB nd (fun _ _ _ _ _ _ us hl => match us, hl with | [_], _ => rfl)
  have H_l_refused_right := F_l_refused_right (P := P) (w := w) (base := base) (U := potU (tabsT K tf)) hb H_line H_Web H_l_odd H_l_part H_l_one H_bar_of W_l_word hT A_l_refused_right (ok_refused_right K (He.ga K "Web") (He.ga K "RawWeb") (He.ga K "RawTable") (He.ga K "RawPicture") (He.ga K "NoLine") (He.ga K "NoPrime") (He.ga K "NoStretch") (He.ga K "NoWord") o_RawWeb o_Web _ (.inr (.inr (.inl ⟨rfl, rfl⟩))) (.inr (.inl ⟨rfl, rfl⟩)) (.inl ⟨rfl, rfl⟩))
  have HL := F_law (P := P) (w := w) (base := base) (Tb := tabsT K tf) hb H_l_word_right H_l_bar_right H_l_refused_right F HP gP kP bP (ok_law)
  exact HL
end
end K32
open PySem PySem.W PySem.Calls PyProof.Rows
set_option maxRecDepth 100000 in
set_option maxHeartbeats 0 in
theorem PySem.Challenge.cw_mapwebs_k32_lines_and_their_bars_built_holds : PySem.Challenge.rw_mapwebs_k32_lines_and_their_bars_built.Holds := by
  w_on; o_law
  refine HandSHeadRun.head_any (r := OpenLaw.row PySem.Challenge.rw_mapwebs_k32_lines_and_their_bars_built) (q := view (OpenLaw.row PySem.Challenge.rw_mapwebs_k32_lines_and_their_bars_built).prog [52]) (H := K32.hk) (ob := K32.ob) (M := 6000) (loose := K32.loose) (d := HandSHeadRun.topDef (OpenLaw.row PySem.Challenge.rw_mapwebs_k32_lines_and_their_bars_built).prog 52) (kwd := []) K32.ob_eq
    (by kernel_rfl) (fun s => by kernel_rfl) K32.run (by kernel_rfl) (by kernel_rfl) (by kernel_rfl) (by rfl) (by first | assumption | decide +kernel) (by decide +kernel) ⟨rfl, rfl, rfl, rfl, rfl, by decide +kernel⟩ ?hw ?hc
  case hw => w_witness2
  case hc =>
    refine LamX.walk_ofTsE (l := PySem.Challenge.rw_mapwebs_k32_lines_and_their_bars_built) (n := 63) (k := 10) (x := "_law_script") (CX := fun _ => L2.CX0) rfl (by decide) (by kernel_rfl) ⟨rfl, by decide, by decide⟩ ?F (fun _ _ _ _ _ z => z)
    intro w mg fa h Y G hmg0
    obtain ⟨K, KX, c⟩ := Y
    have hmg : mg ("law" : PySem.Str) = some (.ref fa) := by
      have e : (HandSHeadRun.topDef (OpenLaw.row PySem.Challenge.rw_mapwebs_k32_lines_and_their_bars_built).prog 52).name = ("law" : PySem.Str) := by kernel_rfl
      rw [← e]
      exact hmg0
    obtain ⟨fd, hb, hF⟩ := K32.facts (P := (PySem.Challenge.rw_mapwebs_k32_lines_and_their_bars_built).prog) (w := w) KX G c hmg
    exact ⟨K, KX, Dl.lawY KX c hb fun base KB GB TB => hF base TB⟩

