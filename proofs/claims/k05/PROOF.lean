import PyProof.Rows.All
import Wide.All
import OpenK.AllK
import Wide.FinOn
import HandS.ForMost
import HandS.Wide
import HandS.TupAny
import HandS.EndBits
import HandS.Walk
import HandS.Deep
import HandS.RaiseMore
import HandS.TupMul
import HandS.IsInst
import HandS.Style
import HandS.SetTxt0
import HandS.Set
import HandS.SetFor
import HandS.Strs
import HandS.SortOrd
import HandS.SortInts
import PyProof.Rows.SortKeyStr
import PyProof.Rows.SortStr
import HandS.Iter
import HandS.Text
import PyProof.TupleOfSeq
import KE.KMinBuiltin
import HandS.MapJoin
import PyProof.Rows.StrMeet
import HandS.WideBits
import PyProof.ReprRoads
import PySem.Challenge.RW_nothingheld_k05_pairs_of_anything
set_option Elab.async false
set_option linter.all false
set_option maxRecDepth 100000
set_option maxHeartbeats 4000000
/-! DL: a value-level layer over the hand layer: every def as a plain function of data, lists owned by one name. -/
namespace DL
open PySem PySem.Spec PyProof.Rows L2

abbrev D := PyData
/-- what a name holds: a value that nobody changes, a list of its own, a list of its caller's, the script -/
inductive C where
  | fz (d : D) | ow (d : D) | pw (d : D) | sc (ns : List Int)
def C.isOwn : C → Bool
  | .ow _ => true
  | .pw _ => true
  | _ => false
def C.data : C → Option D
  | .fz d => some d
  | .ow d => some d
  | .pw d => some d
  | .sc _ => none
abbrev Ev := List (Option C)

/-- a bound that the kernel is not to reckon -/
noncomputable def fits (P : Prop) : Bool := @decide P (Classical.propDecidable P)
theorem of_fits {P : Prop} (h : fits P = true) : P := @of_decide_eq_true P (Classical.propDecidable P) h
theorem fits_of {P : Prop} (h : P) : fits P = true := @decide_eq_true P (Classical.propDecidable P) h
theorem fits_iff {P : Prop} : (fits P = true) = P := propext ⟨of_fits, fits_of⟩
/-- a text within the lines -/
def okS (x : Str) : Bool := PyData.strOk x && decide (x.cps.toList.length ≤ 16777216)
/-- a key of a dict: an int, a text -/
def keyOf : D → Option Key
  | .int i => some (.inl i)
  | .str x => if okS x = true then some (.inr x) else none
  | _ => none
def keysOf : List D → Option (List Key)
  | [] => some []
  | d :: ds => match keyOf d, keysOf ds with
    | some k, some ks => some (k :: ks)
    | _, _ => none
/-- a tuple of such -/
def tkeyOf : D → Option (List Key)
  | .tuple ds => keysOf ds
  | _ => none
mutual
def Fz (K : PySem.W.Frag) (B : Addr → Prop) (H : Hp) : D → V → Prop
  | .none, v => v = .non
  | .bool b, v => v = .bl b
  | .int i, v => v = .int i
  | .str x, v => v = .str x ∧ okS x = true
  | .list ds, v => ∃ a vs, v = .ref a ∧ H a = some (.lst vs) ∧ ¬ B a ∧ FzL K B H ds vs
  | .tuple ds, v => ∃ a vs, v = .ref a ∧ SqT K H a vs ∧ FzL K B H ds vs
  | .dict ps, v => ∃ a, v = .ref a ∧ ¬ B a ∧ ((∃ kvs, H a = some (.dK kvs) ∧ FzD K B H ps kvs) ∨ ∃ kvs, H a = some (.dT kvs) ∧ ps ≠ [] ∧ FzT K B H ps kvs)
def FzL (K : PySem.W.Frag) (B : Addr → Prop) (H : Hp) : List D → List V → Prop
  | [], vs => vs = []
  | d :: ds, vs => ∃ v r, vs = v :: r ∧ Fz K B H d v ∧ FzL K B H ds r
/-- a dict's entries, the keys ints and texts -/
def FzD (K : PySem.W.Frag) (B : Addr → Prop) (H : Hp) : List (D × D) → List (Key × V) → Prop
  | [], kvs => kvs = []
  | (k, d) :: ps, kvs => ∃ q v r, kvs = (q, v) :: r ∧ keyOf k = some q ∧ Fz K B H d v ∧ FzD K B H ps r
/-- the keys tuples of these -/
def FzT (K : PySem.W.Frag) (B : Addr → Prop) (H : Hp) : List (D × D) → List (List Key × V) → Prop
  | [], kvs => kvs = []
  | (k, d) :: ps, kvs => ∃ q v r, kvs = (q, v) :: r ∧ tkeyOf k = some q ∧ Fz K B H d v ∧ FzT K B H ps r
end
/-- a list that is locked, or of the written part -/
def SqF (K : PySem.W.Frag) (H : Hp) (a : Addr) (xs : List V) : Prop :=
  (∃ o, H a = some (.frz o (.lst xs))) ∨ ∃ (o : Obj) (its : Array Value) (n : Nat), K.lookup a = some o ∧ o.cls = .type "list" ∧ o.dict = none ∧ o.data = .seq its n ∧ its.size ≤ sizeLine ∧ Vals xs its.toList
theorem SqF.seq {K : PySem.W.Frag} {H : Hp} {a : Addr} {xs : List V} (h : SqF K H a xs) : SqL K H a xs := by
  rcases h with h | h
  · exact .inl (.inr h)
  · exact .inr h
/-- an owned container -/
def Own (K : PySem.W.Frag) (B : Addr → Prop) (H : Hp) : D → Addr → Prop
  | .list ds, a => ∃ vs, H a = some (.lst vs) ∧ FzL K B H ds vs
  | .dict ps, a => (∃ kvs, H a = some (.dK kvs) ∧ FzD K B H ps kvs) ∨ ∃ kvs, H a = some (.dT kvs) ∧ ps ≠ [] ∧ FzT K B H ps kvs
  | _, _ => False
def CRep (K : PySem.W.Frag) (B : Addr → Prop) (H : Hp) : C → V → Prop
  | .fz d, v => Fz K B H d v
  | .ow d, v => ∃ a, v = .ref a ∧ Own K B H d a
  | .pw d, v => ∃ a, v = .ref a ∧ Own K B H d a
  | .sc ns, v => ∃ a, v = .ref a ∧ SqF K H a (ns.map V.int)

/-- all is kept but what is owned and may change -/
def Fr (own : Addr → Prop) (H H' : Hp) : Prop := ∀ a o, H a = some o → (own a → ¬ Mut (some o)) → H' a = some o
def Ext (H H' : Hp) : Prop := ∀ a o, H a = some o → H' a = some o
theorem Fr.refl {own : Addr → Prop} {H : Hp} : Fr own H H := fun _ _ h _ => h
theorem Ext.refl {H : Hp} : Ext H H := fun _ _ h => h
theorem Ext.trans {H H1 H2 : Hp} (a : Ext H H1) (b : Ext H1 H2) : Ext H H2 := fun x o h => b x o (a x o h)
theorem Ext.fr {H H' : Hp} {own : Addr → Prop} (e : Ext H H') : Fr own H H' := fun a o h _ => e a o h
theorem Ext.new {H : Hp} {p : Addr} {o : HO} (h : H p = none) : Ext H (upd H p o) := fun a u e => by
  rw [upd_ne (ne_of_none e h)]
  exact e
theorem Fr.trans {o1 o2 o3 : Addr → Prop} {H H1 H2 : Hp} (a : Fr o1 H H1) (b : Fr o2 H1 H2) (h1 : ∀ x, o1 x → H x ≠ none → o3 x) (h2 : ∀ x, o2 x → H x ≠ none → o3 x) : Fr o3 H H2 := fun x o h hm => by
  have nx : H x ≠ none := by
    rw [h]
    exact fun z => by cases z
  have e1 := a x o h fun z => hm (h1 x z nx)
  exact b x o e1 fun z => hm (h2 x z nx)
theorem Fr.mono {o1 o2 : Addr → Prop} {H H1 : Hp} (a : Fr o1 H H1) (h1 : ∀ x, o1 x → o2 x) : Fr o2 H H1 := fun x o h hm => a x o h fun z => hm (h1 x z)
theorem Fr.some {own : Addr → Prop} {H H' : Hp} (f : Fr own H H') {a : Addr} {o : HO} (h : H a = some o) (hn : ¬ own a) : H' a = some o := f a o h fun z => absurd z hn

theorem Rd.fr {own : Addr → Prop} {H H' : Hp} (f : Fr own H H') {a : Addr} {xs : List V} (h : Rd H a (.tup xs)) : Rd H' a (.tup xs) := by
  rcases h with h | ⟨o, h⟩
  · exact .inl (f a _ h fun _ z => z)
  · exact .inr ⟨o, f a _ h fun _ z => z⟩
theorem SqT.fr {K : PySem.W.Frag} {own : Addr → Prop} {H H' : Hp} (f : Fr own H H') {a : Addr} {xs : List V} (h : SqT K H a xs) : SqT K H' a xs := by
  rcases h with h | h
  · exact .inl (Rd.fr f h)
  · exact .inr h

section
variable {K : PySem.W.Frag} {B B' : Addr → Prop} {H H' : Hp}
mutual
theorem Fz.mono (f : Fr B H H') (hb : ∀ a, B' a → H a ≠ none → B a) : ∀ {d : D} {v : V}, Fz K B H d v → Fz K B' H' d v
  | .none, _, h => h
  | .bool _, _, h => h
  | .int _, _, h => h
  | .str _, _, h => h
  | .list ds, v, h => by
    obtain ⟨a, vs, e, h1, h2, h3⟩ := h
    exact ⟨a, vs, e, f.some h1 h2, fun z => h2 (hb a z (by rw [h1]; exact fun z => by cases z)), FzL.mono f hb h3⟩
  | .tuple ds, v, h => by
    obtain ⟨a, vs, e, h1, h3⟩ := h
    exact ⟨a, vs, e, SqT.fr f h1, FzL.mono f hb h3⟩
  | .dict ps, v, h => by
    obtain ⟨a, e, h1, h2⟩ := h
    refine ⟨a, e, ?_⟩
    rcases h2 with ⟨kvs, h2, h3⟩ | ⟨kvs, h2, h3⟩
    · exact ⟨fun z => h1 (hb a z (by rw [h2]; exact fun z => by cases z)), .inl ⟨kvs, f.some h2 h1, FzD.mono f hb h3⟩⟩
    · exact ⟨fun z => h1 (hb a z (by rw [h2]; exact fun z => by cases z)), .inr ⟨kvs, f.some h2 h1, h3.1, FzT.mono f hb h3.2⟩⟩
theorem FzL.mono (f : Fr B H H') (hb : ∀ a, B' a → H a ≠ none → B a) : ∀ {ds : List D} {vs : List V}, FzL K B H ds vs → FzL K B' H' ds vs
  | [], _, h => h
  | d :: ds, vs, h => by
    obtain ⟨v, r, e, h1, h2⟩ := h
    exact ⟨v, r, e, Fz.mono f hb h1, FzL.mono f hb h2⟩
theorem FzD.mono (f : Fr B H H') (hb : ∀ a, B' a → H a ≠ none → B a) : ∀ {ps : List (D × D)} {kvs : List (Key × V)}, FzD K B H ps kvs → FzD K B' H' ps kvs
  | [], _, h => h
  | (k, d) :: ps, kvs, h => by
    obtain ⟨q, v, r, e, hk, h1, h2⟩ := h
    exact ⟨q, v, r, e, hk, Fz.mono f hb h1, FzD.mono f hb h2⟩
theorem FzT.mono (f : Fr B H H') (hb : ∀ a, B' a → H a ≠ none → B a) : ∀ {ps : List (D × D)} {kvs : List (List Key × V)}, FzT K B H ps kvs → FzT K B' H' ps kvs
  | [], _, h => h
  | (k, d) :: ps, kvs, h => by
    obtain ⟨q, v, r, e, hk, h1, h2⟩ := h
    exact ⟨q, v, r, e, hk, Fz.mono f hb h1, FzT.mono f hb h2⟩
end
theorem FzL.length : ∀ {ds : List D} {vs : List V}, FzL K B H ds vs → vs.length = ds.length
  | [], vs, h => by
    have e : vs = [] := h
    subst e
    rfl
  | d :: ds, vs, h => by
    obtain ⟨v, r, rfl, h1, h2⟩ := h
    rw [List.length_cons, List.length_cons, FzL.length h2]
theorem FzL.nil : FzL K B H [] [] := rfl
theorem FzL.cons {d : D} {ds : List D} {v : V} {vs : List V} (h : Fz K B H d v) (t : FzL K B H ds vs) : FzL K B H (d :: ds) (v :: vs) := ⟨v, vs, rfl, h, t⟩
theorem FzL.get : ∀ {ds : List D} {vs : List V} {i : Nat} {d : D}, FzL K B H ds vs → ds[i]? = some d → ∃ v, vs[i]? = some v ∧ Fz K B H d v
  | [], _, i, d, _, h => by simp at h
  | d :: ds, _, 0, _, ⟨v, r, rfl, h1, h2⟩, h => by
    cases h
    exact ⟨v, rfl, h1⟩
  | d :: ds, _, i + 1, d', ⟨v, r, rfl, h1, h2⟩, h => FzL.get (i := i) h2 (by simpa using h)
theorem FzL.append : ∀ {ds es : List D} {vs ws : List V}, FzL K B H ds vs → FzL K B H es ws → FzL K B H (ds ++ es) (vs ++ ws)
  | [], es, vs, ws, h, g => by
    have e : vs = [] := h
    subst e
    exact g
  | d :: ds, es, _, ws, ⟨v, r, rfl, h1, h2⟩, g => ⟨v, r ++ ws, rfl, h1, FzL.append h2 g⟩
theorem FzL.take : ∀ {ds : List D} {vs : List V} (n : Nat), FzL K B H ds vs → FzL K B H (ds.take n) (vs.take n)
  | _, _, 0, _ => rfl
  | [], vs, n + 1, h => by
    have e : vs = [] := h
    subst e
    rfl
  | d :: ds, _, n + 1, ⟨v, r, rfl, h1, h2⟩ => ⟨v, _, rfl, h1, FzL.take n h2⟩
theorem FzL.drop : ∀ {ds : List D} {vs : List V} (n : Nat), FzL K B H ds vs → FzL K B H (ds.drop n) (vs.drop n)
  | _, _, 0, h => h
  | [], vs, n + 1, h => by
    have e : vs = [] := h
    subst e
    rfl
  | d :: ds, _, n + 1, ⟨v, r, rfl, h1, h2⟩ => FzL.drop n h2
theorem FzL.set {d' : D} {v' : V} (q : Fz K B H d' v') : ∀ {ds : List D} {vs : List V} (i : Nat), FzL K B H ds vs → FzL K B H (ds.set i d') (vs.set i v')
  | [], vs, i, h => by
    have e : vs = [] := h
    subst e
    rfl
  | d :: ds, _, 0, ⟨v, r, rfl, h1, h2⟩ => ⟨v', r, rfl, q, h2⟩
  | d :: ds, _, i + 1, ⟨v, r, rfl, h1, h2⟩ => ⟨v, _, rfl, h1, FzL.set q i h2⟩
theorem FzL.snoc {ds : List D} {vs : List V} {d : D} {v : V} (h : FzL K B H ds vs) (q : Fz K B H d v) : FzL K B H (ds ++ [d]) (vs ++ [v]) := h.append (FzL.cons q FzL.nil)
theorem FzL.rep {ds : List D} {vs : List V} (h : FzL K B H ds vs) : ∀ n : Nat, FzL K B H (List.replicate n ds).flatten (List.replicate n vs).flatten
  | 0 => rfl
  | n + 1 => by
    rw [List.replicate_succ, List.replicate_succ, List.flatten_cons, List.flatten_cons]
    exact h.append (h.rep n)
theorem FzL.ints {ns : List Int} : FzL K B H (ns.map .int) (ns.map V.int) := by
  induction ns with
  | nil => rfl
  | cons n r ih => exact ⟨_, _, rfl, rfl, ih⟩
theorem FzL.of_ints : ∀ {ns : List Int} {vs : List V}, FzL K B H (ns.map .int) vs → vs = ns.map V.int
  | [], vs, h => h
  | n :: r, _, ⟨v, w, rfl, h1, h2⟩ => by
    have e : v = .int n := h1
    rw [e, FzL.of_ints h2]
    rfl
theorem FzL.of_strs : ∀ {ns : List Str} {vs : List V}, FzL K B H (ns.map .str) vs → vs = ns.map V.str
  | [], vs, h => h
  | n :: r, _, ⟨v, w, rfl, h1, h2⟩ => by
    have e : v = .str n := h1.1
    rw [e, FzL.of_strs h2]
    rfl
theorem FzL.of_bls : ∀ {ns : List Bool} {vs : List V}, FzL K B H (ns.map .bool) vs → vs = ns.map V.bl
  | [], vs, h => h
  | n :: r, _, ⟨v, w, rfl, h1, h2⟩ => by
    have e : v = .bl n := h1
    rw [e, FzL.of_bls h2]
    rfl
theorem Own.mono (f : Fr B H H') (hb : ∀ a, B' a → H a ≠ none → B a) {d : D} {a : Addr} (hs : ∀ o, H a = some o → H' a = some o) (h : Own K B H d a) : Own K B' H' d a := by
  cases d with
  | list ds =>
    obtain ⟨vs, h1, h2⟩ := h
    exact ⟨vs, hs _ h1, h2.mono f hb⟩
  | none => exact h
  | bool _ => exact h
  | int _ => exact h
  | str _ => exact h
  | tuple _ => exact h
  | dict _ =>
    rcases h with ⟨kvs, h1, h2⟩ | ⟨kvs, h1, h2⟩
    · exact .inl ⟨kvs, hs _ h1, h2.mono f hb⟩
    · exact .inr ⟨kvs, hs _ h1, h2.1, h2.2.mono f hb⟩
theorem Own.mut {d : D} {a : Addr} (h : Own K B H d a) : ∃ o, H a = some o ∧ Mut (some o) := by
  cases d with
  | list ds =>
    obtain ⟨vs, h1, h2⟩ := h
    exact ⟨_, h1, trivial⟩
  | none => exact h.elim
  | bool _ => exact h.elim
  | int _ => exact h.elim
  | str _ => exact h.elim
  | tuple _ => exact h.elim
  | dict _ =>
    rcases h with ⟨kvs, h1, h2⟩ | ⟨kvs, h1, h2⟩
    · exact ⟨_, h1, trivial⟩
    · exact ⟨_, h1, trivial⟩
/-- what is seen of a cell is seen later on, where its own list stays -/
theorem CRep.mono (f : Fr B H H') (hb : ∀ a, B' a → H a ≠ none → B a) {c : C} {v : V} (hs : ∀ a o, c.isOwn = true → v = .ref a → H a = some o → H' a = some o) (h : CRep K B H c v) : CRep K B' H' c v := by
  cases c with
  | fz d => exact Fz.mono f hb h
  | ow d =>
    obtain ⟨a, rfl, h⟩ := h
    exact ⟨a, rfl, h.mono f hb fun o => hs a o rfl rfl⟩
  | pw d =>
    obtain ⟨a, rfl, h⟩ := h
    exact ⟨a, rfl, h.mono f hb fun o => hs a o rfl rfl⟩
  | sc ns =>
    obtain ⟨a, rfl, h1⟩ := h
    refine ⟨a, rfl, ?_⟩
    rcases h1 with ⟨o, h1⟩ | h1
    · exact .inl ⟨o, f a _ h1 fun _ z => z⟩
    · exact .inr h1
end
end DL
set_option Elab.async false
set_option linter.all false
set_option maxRecDepth 100000
set_option maxHeartbeats 4000000
namespace DL
open PySem PySem.Spec PyProof.Rows L2

/-! ### the state: which name owns which list -/
def Bound (env : Ev) (i : Nat) : Prop := ∃ c, env[i]? = some (some c)
def Owns (σ : L2.St) (env : Ev) (i : Nat) (a : Addr) : Prop := ∃ c, env[i]? = some (some c) ∧ c.isOwn = true ∧ σ[i]? = some (some (.ref a))
def Ownd (σ : L2.St) (env : Ev) (a : Addr) : Prop := ∃ i, Owns σ env i a
def Bad (B : Addr → Prop) (σ : L2.St) (env : Ev) (a : Addr) : Prop := B a ∨ Ownd σ env a
structure Sta (K : PySem.W.Frag) (B : Addr → Prop) (H : Hp) (σ : L2.St) (env : Ev) : Prop where
  len : env.length = σ.length
  trk : ∀ a, B a → H a ≠ none
  rep : ∀ (i : Nat) (c : C), env[i]? = some (some c) → ∃ v : V, σ[i]? = some (some v) ∧ CRep K (Bad B σ env) H c v
  inj : ∀ i j a, Owns σ env i a → Owns σ env j a → i = j
  out : ∀ i a, Owns σ env i a → ¬ B a
def ownV (c : C) (v : V) (a : Addr) : Prop := c.isOwn = true ∧ v = .ref a
def Bx (B : Addr → Prop) (c : C) (v : V) (a : Addr) : Prop := B a ∨ ownV c v a
def C.isRes : C → Bool
  | .fz _ => true
  | .ow _ => true
  | _ => false

section
variable {K : PySem.W.Frag} {B B' : Addr → Prop} {H H' H1 H2 : Hp} {σ : L2.St} {env env' e1 e2 : Ev} {c : C} {v : V}
theorem CRep.ownMut (h : CRep K B H c v) {a : Addr} (ho : c.isOwn = true) (hv : v = .ref a) : ∃ o, H a = some o ∧ Mut (some o) := by
  subst hv
  cases c with
  | ow d =>
    obtain ⟨b, e, h⟩ := h
    cases e
    exact h.mut
  | pw d =>
    obtain ⟨b, e, h⟩ := h
    cases e
    exact h.mut
  | fz _ => cases ho
  | sc _ => cases ho
theorem Sta.mut (S : Sta K B H σ env) {i : Nat} {a : Addr} (h : Owns σ env i a) : ∃ o, H a = some o ∧ Mut (some o) := by
  obtain ⟨c, e, ho, hs⟩ := h
  obtain ⟨v, ev, r⟩ := S.rep i c e
  rw [hs] at ev
  cases ev
  exact r.ownMut ho rfl
theorem Sta.trkB (S : Sta K B H σ env) : ∀ a, Bad B σ env a → H a ≠ none := fun a h => by
  rcases h with h | ⟨i, h⟩
  · exact S.trk a h
  · obtain ⟨o, e, _⟩ := S.mut h
    rw [e]
    exact fun z => by cases z
/-- less is taken by others -/
theorem Sta.less (S : Sta K B H σ env) (h : ∀ a, B' a → B a) : Sta K B' H σ env where
  len := S.len
  trk := fun a q => S.trk a (h a q)
  rep := fun i c e => by
    obtain ⟨v, ev, r⟩ := S.rep i c e
    exact ⟨v, ev, r.mono Fr.refl (fun a q _ => q.elim (fun z => .inl (h a z)) .inr) fun _ _ _ _ z => z⟩
  inj := S.inj
  out := fun i a q z => S.out i a q (h a z)
/-- the heap grows -/
theorem Sta.ext (S : Sta K B H σ env) (x : Ext H H') : Sta K B H' σ env where
  len := S.len
  trk := fun a q z => by
    cases e : H a with
    | none => exact S.trk a q e
    | some o =>
      rw [x a o e] at z
      cases z
  rep := fun i c e => by
    obtain ⟨v, ev, r⟩ := S.rep i c e
    exact ⟨v, ev, r.mono x.fr (fun a q _ => q) fun a o _ _ z => x a o z⟩
  inj := S.inj
  out := S.out
/-- a new thing is held aside -/
theorem Sta.more (S : Sta K B H σ env) {p : Addr → Prop} (x : Ext H H') (hp : ∀ a, p a → H a = none) (hq : ∀ a, p a → H' a ≠ none) : Sta K (fun a => B a ∨ p a) H' σ env where
  len := S.len
  trk := fun a q => q.elim ((S.ext x).trk a) (hq a)
  rep := fun i c e => by
    obtain ⟨v, ev, r⟩ := S.rep i c e
    refine ⟨v, ev, r.mono x.fr (fun a q n => ?_) fun a o _ _ z => x a o z⟩
    rcases q with (q | q) | q
    · exact .inl q
    · exact absurd (hp a q) n
    · exact .inr q
  inj := S.inj
  out := fun i a q z => z.elim (S.out i a q) fun z => by
    obtain ⟨o, e, _⟩ := S.mut q
    rw [hp a z] at e
    cases e
end

/-! ### expressions -/
structure PostE (K : PySem.W.Frag) (B : Addr → Prop) (H : Hp) (σ : L2.St) (env : Ev) (c : C) (env' : Ev) (v : V) (H' : Hp) : Prop where
  fr : Fr (Ownd σ env) H H'
  sh : ∀ i a, Owns σ env' i a → Owns σ env i a
  st : Sta K (Bx B c v) H' σ env'
  cr : CRep K (Bad (Bx B c v) σ env') H' c v
  nb : ∀ a, ownV c v a → ¬ B a
  nw : ∀ a, ownV c v a → H a = none ∨ Ownd σ env a
  bd : ∀ i, Bound env i → Bound env' i
  pk : ∀ (i : Nat) (d : D), env[i]? = some (some (.pw d)) → ∃ d', env'[i]? = some (some (.pw d'))
  rs : c.isRes = true
abbrev FE := Ev → Option (C × Ev)
def tI (K : PySem.W.Frag) (f : FE) : TE := fun σ H Q => ∃ B env c env', Sta K B H σ env ∧ f env = some (c, env') ∧ ∀ v H', PostE K B H σ env c env' v H' → Q v H'
def PD (X : Cx) (e : Expr) (f : FE) : Prop := PE X e (tI X.K f)
theorem PEimp {X : Cx} {e : Expr} {t t' : TE} (h : PE X e t) (i : ∀ σ H Q, t' σ H Q → t σ H Q) : PE X e t' := ⟨fun pins s σ H Q I q => h.run pins s σ H Q I (i σ H Q q)⟩
theorem PTimp {X : Cx} {e : Expr} {t t' : TT} (h : PT X e t) (i : ∀ σ H Q, t' σ H Q → t σ H Q) : PT X e t' := ⟨fun pins s σ H Q I q => h.run pins s σ H Q I (i σ H Q q)⟩
theorem PWimp {X : Cx} {e : Expr} {t t' : TT} (h : PW X e t) (i : ∀ σ H Q, t' σ H Q → t σ H Q) : PW X e t' := ⟨fun w pins s σ H Q I q => h.run w pins s σ H Q I (i σ H Q q)⟩
theorem PSimp {X : Cx} {e : Stmt} {t t' : TS} (h : PS X e t) (i : ∀ D σ H, t' D σ H → t D σ H) : PS X e t' := ⟨fun pins s σ H D I q => h.run pins s σ H D I (i D σ H q)⟩
theorem PSsimp {X : Cx} {e : List Stmt} {t t' : TS} (h : PSs X e t) (i : ∀ D σ H, t' D σ H → t D σ H) : PSs X e t' := ⟨fun pins s σ H D I q => h.run pins s σ H D I (i D σ H q)⟩
theorem PAimp {X : Cx} {e : List Expr} {t t' : TA} (h : PA X e t) (i : ∀ σ H Q, t' σ H Q → t σ H Q) : PA X e t' := ⟨fun pos pins s σ H Q I q => h.run pos pins s σ H Q I (i σ H Q q)⟩
theorem PIimp {X : Cx} {tg e : Expr} {t t' : TI} (h : PI X tg e t) (i : ∀ σ H R, t' σ H R → t σ H R) : PI X tg e t' := ⟨fun pins s σ H Q I q => h.run pins s σ H Q I (i σ H Q q)⟩

/-- a value made anew -/
def NewRep (K : PySem.W.Frag) (B : Addr → Prop) (H H' : Hp) : C → V → Prop
  | .fz d, v => Fz K B H' d v
  | .ow d, v => ∃ a, v = .ref a ∧ H a = none ∧ Own K (fun b => B b ∨ b = a) H' d a
  | _, _ => False
section
variable {K : PySem.W.Frag} {B B' : Addr → Prop} {H H' H1 H2 : Hp} {σ : L2.St} {env env' e1 e2 : Ev} {c : C} {v : V} {X : Cx}
theorem Fz.as {d : D} (h : Fz K B H d v) (e : ∀ a, B' a → B a) : Fz K B' H d v := Fz.mono Fr.refl (fun a q _ => e a q) h
theorem CRep.as (h : CRep K B H c v) (e : ∀ a, B' a → B a) : CRep K B' H c v := h.mono Fr.refl (fun a q _ => e a q) fun _ _ _ _ z => z
theorem PostE.new (S : Sta K B H σ env) (x : Ext H H') (h : NewRep K (Bad B σ env) H H' c v) : PostE K B H σ env c env v H' := by
  cases c with
  | fz d =>
    have e : ∀ a, Bx B (.fz d) v a → B a := fun a q => q.elim id fun z => by cases z.1
    exact ⟨x.fr, fun _ _ q => q, (S.ext x).less e, Fz.as h fun a q => q.elim (fun z => .inl (e a z)) .inr, fun a z => (by cases z.1), fun a z => (by cases z.1), fun _ q => q, fun i d q => ⟨d, q⟩, rfl⟩
  | ow d =>
    obtain ⟨a, rfl, ha, ho⟩ := h
    have e : ∀ b, ownV (.ow d) (.ref a) b → b = a := fun b q => by
      have := q.2
      cases this
      rfl
    have nb : ∀ b, ownV (.ow d) (.ref a) b → H b = none := fun b q => by rw [e b q]; exact ha
    refine ⟨x.fr, fun _ _ q => q, S.more x nb fun b q => ?_, ⟨a, rfl, ?_⟩, fun b q z => S.trk b z (nb b q), fun b q => .inl (nb b q), fun _ q => q, fun i d q => ⟨d, q⟩, rfl⟩
    · rw [e b q]
      obtain ⟨o, h1, _⟩ := ho.mut
      rw [h1]
      exact fun z => by cases z
    · refine ho.mono Fr.refl (fun b q _ => ?_) fun _ z => z
      rcases q with (q | q) | q
      · exact .inl (.inl q)
      · exact .inr (e b q)
      · exact .inl (.inr q)
  | pw d => exact h.elim
  | sc d => exact h.elim
/-- nothing is owned by a value that is not a list of its own -/
theorem Bx.fz {d : D} {a : Addr} (h : Bx B (.fz d) v a) : B a := h.elim id fun z => by cases z.1

/-! names and constants -/
def dVar (i : Nat) : FE := fun env => match env[i]? with
  | some (some (.fz d)) => some (.fz d, env)
  | some (some (.ow d)) => some (.fz d, env.set i (some (.fz d)))
  | _ => none
theorem Own.fz {d : D} {a : Addr} (h : Own K B H d a) (n : ¬ B a) : Fz K B H d (.ref a) := by
  cases d with
  | list ds =>
    obtain ⟨vs, h1, h2⟩ := h
    exact ⟨a, vs, rfl, h1, n, h2⟩
  | none => exact h.elim
  | bool _ => exact h.elim
  | int _ => exact h.elim
  | str _ => exact h.elim
  | tuple _ => exact h.elim
  | dict _ => exact ⟨a, rfl, n, h⟩
theorem set_some {α : Type} {l : List α} {i j : Nat} {x y : α} (h : (l.set i x)[j]? = some y) : (j = i ∧ y = x) ∨ (j ≠ i ∧ l[j]? = some y) := by
  by_cases e : i = j
  · subst e
    left
    by_cases hl : i < l.length
    · rw [List.getElem?_set_self hl] at h
      cases h
      exact ⟨rfl, rfl⟩
    · rw [List.getElem?_eq_none (by simpa using hl)] at h
      cases h
  · rw [List.getElem?_set_ne e] at h
    exact .inr ⟨Ne.symm e, h⟩
theorem Sta.freeze {i : Nat} {d : D} {v : V} (S : Sta K B H σ env) (h : env[i]? = some (some (.ow d))) (hv : σ[i]? = some (some v)) : PostE K B H σ env (.fz d) (env.set i (some (.fz d))) v H := by
  obtain ⟨v', ev, a, rfl, ho⟩ := S.rep i _ h
  rw [hv] at ev
  cases ev
  have own : Owns σ env i a := ⟨_, h, rfl, hv⟩
  have sh : ∀ j b, Owns σ (env.set i (some (.fz d))) j b → Owns σ env j b := fun j b ⟨c', e1, e2, e3⟩ => by
    rcases set_some e1 with ⟨_, q⟩ | ⟨_, q⟩
    · cases q
      cases e2
    · exact ⟨c', q, e2, e3⟩
  have na : ¬ Bad B σ (env.set i (some (.fz d))) a := fun q => by
    rcases q with q | ⟨j, q⟩
    · exact S.out i a own q
    · have e := S.inj j i a (sh j a q) own
      subst e
      obtain ⟨c', e1, e2, _⟩ := q
      rcases set_some e1 with ⟨_, q⟩ | ⟨n, _⟩
      · cases q
        cases e2
      · exact n rfl
  have bb : ∀ b, Bad B σ (env.set i (some (.fz d))) b → Bad B σ env b := fun b q => q.elim .inl fun ⟨j, z⟩ => .inr ⟨j, sh j b z⟩
  have hf : Fz K (Bad B σ (env.set i (some (.fz d)))) H d (.ref a) := (ho.mono (B' := Bad B σ (env.set i (some (.fz d)))) Fr.refl (fun b q _ => bb b q) fun _ z => z).fz na
  have st : Sta K B H σ (env.set i (some (.fz d))) := by
    refine ⟨by rw [List.length_set]; exact S.len, S.trk, fun j c' e => ?_, fun j k b q q' => S.inj j k b (sh j b q) (sh k b q'), fun j b q => S.out j b (sh j b q)⟩
    rcases set_some e with ⟨ej, q⟩ | ⟨_, q⟩
    · cases q
      subst ej
      exact ⟨_, hv, hf⟩
    · obtain ⟨v2, e2, r⟩ := S.rep j c' q
      exact ⟨v2, e2, r.as bb⟩
  refine ⟨Fr.refl, sh, st.less fun b q => q.fz, Fz.as hf fun b q => q.elim (fun z => .inl z.fz) .inr, fun a z => (by cases z.1), fun a z => (by cases z.1), fun j ⟨c', q⟩ => ?_, fun j d' q => ?_, rfl⟩
  · by_cases e : i = j
    · subst e
      exact ⟨.fz d, by rw [List.getElem?_set_self (List.getElem?_eq_some_iff.mp q).1]⟩
    · exact ⟨c', by rw [List.getElem?_set_ne e]; exact q⟩
  · by_cases e : i = j
    · subst e
      rw [h] at q
      cases q
    · exact ⟨d', by rw [List.getElem?_set_ne e]; exact q⟩
theorem pd_var {i : Nat} {e : Expr} (h : PE X e (tVar i)) : PD X e (dVar i) := PEimp h fun σ H Q ⟨B, env, c, env', S, hf, q⟩ => by
  unfold dVar at hf
  split at hf
  · rename_i d e
    cases hf
    obtain ⟨v, ev, r⟩ := S.rep i _ e
    exact ⟨v, ev, q v H (PostE.new S Ext.refl r)⟩
  · rename_i d e
    cases hf
    obtain ⟨v, ev, r⟩ := S.rep i _ e
    exact ⟨v, ev, q v H (S.freeze e ev)⟩
  · cases hf
def dC (d : D) : FE := fun env => some (.fz d, env)
theorem pd_c {e : Expr} {v : V} {d : D} (h : PE X e (tC v)) (r : ∀ B H, Fz X.K B H d v) : PD X e (dC d) := PEimp h fun σ H Q ⟨B, env, c, env', S, hf, q⟩ => by
  cases hf
  exact q v H (PostE.new S Ext.refl (r _ _))
theorem pd_int {i j pos} : PD X (.Constant (.int i) j pos) (dC (.int i)) := pd_c pe_int fun _ _ => rfl
theorem pd_bl {b j pos} : PD X (.Constant (.bool b) j pos) (dC (.bool b)) := pd_c pe_bl fun _ _ => rfl
theorem pd_non {j pos} : PD X (.Constant .none j pos) (dC .none) := pd_c pe_non fun _ _ => rfl
theorem pd_str {x j pos} (h : okS x = true := by decide +kernel) : PD X (.Constant (.str x) j pos) (dC (.str x)) := pd_c pe_str fun _ _ => ⟨rfl, h⟩
end
end DL
set_option Elab.async false
set_option linter.all false
set_option maxRecDepth 100000
set_option maxHeartbeats 4000000
namespace DL
open PySem PySem.Spec PyProof.Rows L2

/-! ### operands: a name as it stands, or a value -/
inductive O where
  | slot (i : Nat) | val (c : C)
def ownO : O → V → Addr → Prop
  | .val c, v, a => ownV c v a
  | .slot _, _, _ => False
def PostO (K : PySem.W.Frag) (B : Addr → Prop) (H : Hp) (σ : L2.St) (env : Ev) : O → Ev → V → Hp → Prop
  | .val c, env', v, H' => PostE K B H σ env c env' v H'
  | .slot i, env', v, H' => env' = env ∧ H' = H ∧ σ[i]? = some (some v) ∧ Bound env i
abbrev FO := Ev → Option (O × Ev)
def tO (K : PySem.W.Frag) (f : FO) : TE := fun σ H Q => ∃ B env o env', Sta K B H σ env ∧ f env = some (o, env') ∧ ∀ v H', PostO K B H σ env o env' v H' → Q v H'
def PDO (X : Cx) (e : Expr) (f : FO) : Prop := PE X e (tO X.K f)
def dVal (f : FE) : FO := fun env => match f env with
  | some (c, env') => some (.val c, env')
  | none => none
def dSlot (i : Nat) : FO := fun env => match env[i]? with
  | some (some _) => some (.slot i, env)
  | _ => none
section
variable {K : PySem.W.Frag} {B B' : Addr → Prop} {H H' H1 H2 : Hp} {σ : L2.St} {env env' e1 e2 : Ev} {c : C} {v : V} {X : Cx}
theorem po_val {e : Expr} {f : FE} (h : PD X e f) : PDO X e (dVal f) := PEimp h fun σ H Q ⟨B, env, o, env', S, hf, q⟩ => by
  unfold dVal at hf
  split at hf
  · rename_i c e2 he
    cases hf
    exact ⟨B, env, c, _, S, he, fun v H' p => q v H' p⟩
  · cases hf
theorem po_slot {i : Nat} {e : Expr} (h : PE X e (tVar i)) : PDO X e (dSlot i) := PEimp h fun σ H Q ⟨B, env, o, env', S, hf, q⟩ => by
  unfold dSlot at hf
  split at hf
  · rename_i c he
    cases hf
    obtain ⟨v, ev, r⟩ := S.rep i c he
    exact ⟨v, ev, q v H ⟨rfl, rfl, ev, c, he⟩⟩
  · cases hf
end

/-! ### several operands -/
def BxO (B : Addr → Prop) (o : O) (v : V) (a : Addr) : Prop := B a ∨ ownO o v a
def ownOs : List O → List V → Addr → Prop
  | o :: os, v :: vs, a => ownO o v a ∨ ownOs os vs a
  | _, _, _ => False
def BxOs (B : Addr → Prop) (os : List O) (vs : List V) (a : Addr) : Prop := B a ∨ ownOs os vs a
def RO (K : PySem.W.Frag) (bad : Addr → Prop) (H : Hp) (σ : L2.St) (env : Ev) : O → V → Prop
  | .slot i, v => σ[i]? = some (some v) ∧ Bound env i
  | .val c, v => CRep K bad H c v ∧ c.isRes = true
def ROs (K : PySem.W.Frag) (bad : Addr → Prop) (H : Hp) (σ : L2.St) (env : Ev) : List O → List V → Prop
  | [], vs => vs = []
  | o :: os, vs => ∃ v r, vs = v :: r ∧ RO K bad H σ env o v ∧ ROs K bad H σ env os r
def NDs : List O → List V → Prop
  | o :: os, v :: vs => (∀ a, ownO o v a → ¬ ownOs os vs a) ∧ NDs os vs
  | _, _ => True
structure PostOs (K : PySem.W.Frag) (B : Addr → Prop) (H : Hp) (σ : L2.St) (env : Ev) (os : List O) (env' : Ev) (vs : List V) (H' : Hp) : Prop where
  fr : Fr (Ownd σ env) H H'
  sh : ∀ i a, Owns σ env' i a → Owns σ env i a
  st : Sta K (BxOs B os vs) H' σ env'
  ro : ROs K (Bad (BxOs B os vs) σ env') H' σ env' os vs
  nb : ∀ a, ownOs os vs a → ¬ B a
  nd : NDs os vs
  nw : ∀ a, ownOs os vs a → H a = none ∨ Ownd σ env a
  bd : ∀ i, Bound env i → Bound env' i
  pk : ∀ (i : Nat) (d : D), env[i]? = some (some (.pw d)) → ∃ d', env'[i]? = some (some (.pw d'))
def dOs : List FO → Ev → Option (List O × Ev)
  | [], env => some ([], env)
  | f :: fs, env => match f env with
    | some (o, e1) => match dOs fs e1 with
      | some (os, e2) => some (o :: os, e2)
      | none => none
    | none => none
def tOs (K : PySem.W.Frag) (fs : List FO) : TA := fun σ H Q => ∃ B env os env', Sta K B H σ env ∧ dOs fs env = some (os, env') ∧ ∀ vs H', PostOs K B H σ env os env' vs H' → Q vs H'
def PDs (X : Cx) (es : List Expr) (fs : List FO) : Prop := PA X es (tOs X.K fs)
section
variable {K : PySem.W.Frag} {B B' : Addr → Prop} {H H' H1 H2 : Hp} {σ : L2.St} {env env' e1 e2 : Ev} {c : C} {v x : V} {X : Cx} {o : O} {os : List O} {vs : List V}
theorem PostOs.nil (S : Sta K B H σ env) : PostOs K B H σ env [] env [] H :=
  ⟨Fr.refl, fun _ _ q => q, S.less fun a q => q.elim id fun z => (show False from z).elim, rfl, fun _ z => (show False from z).elim, trivial, fun _ z => (show False from z).elim, fun _ q => q, fun _ d q => ⟨d, q⟩⟩
theorem PostO.st (S : Sta K B H σ env) (p : PostO K B H σ env o env' v H') : Sta K (BxO B o v) H' σ env' := by
  cases o with
  | slot i =>
    obtain ⟨rfl, rfl, _, _⟩ := p
    exact S.less fun a q => q.elim id fun z => (show False from z).elim
  | val c => exact PostE.st p
theorem RO.as {bad bad' : Addr → Prop} (h : RO K bad H σ env o v) (e : ∀ a, bad' a → bad a) : RO K bad' H σ env o v := by
  cases o with
  | slot i => exact h
  | val c => exact ⟨h.1.as e, h.2⟩
theorem ROs.as {bad bad' : Addr → Prop} (e : ∀ a, bad' a → bad a) : ∀ {os : List O} {vs : List V}, ROs K bad H σ env os vs → ROs K bad' H σ env os vs
  | [], _, h => h
  | o :: os, _, ⟨v, r, rfl, h1, h2⟩ => ⟨v, r, rfl, h1.as e, ROs.as e h2⟩
theorem PostOs.cons (S : Sta K B H σ env) (p : PostO K B H σ env o e1 x H1) (q : PostOs K (BxO B o x) H1 σ e1 os e2 vs H2) : PostOs K B H σ env (o :: os) e2 (x :: vs) H2 := by
  have bx : ∀ a, BxOs B (o :: os) (x :: vs) a → BxOs (BxO B o x) os vs a := fun a z => z.elim (fun z => .inl (.inl z)) fun z => z.elim (fun z => .inl (.inr z)) .inr
  have bb : ∀ a, Bad (BxOs B (o :: os) (x :: vs)) σ e2 a → Bad (BxOs (BxO B o x) os vs) σ e2 a := fun a z => z.elim (fun z => .inl (bx a z)) .inr
  have ro := q.ro.as bb
  cases o with
  | slot i =>
    obtain ⟨rfl, rfl, hs, hb⟩ := p
    have bq : ∀ a, BxO B (.slot i) x a → B a := fun a z => z.elim id fun z => (show False from z).elim
    exact ⟨q.fr, q.sh, q.st.less bx, ⟨x, vs, rfl, ⟨hs, q.bd i hb⟩, ro⟩, fun a z z2 => z.elim (fun z => (show False from z).elim) fun z => q.nb a z (.inl z2), ⟨fun a z => (show False from z).elim, q.nd⟩,
      fun a z => z.elim (fun z => (show False from z).elim) fun z => q.nw a z, q.bd, q.pk⟩
  | val c =>
    have p : PostE K B H σ env c e1 x H1 := p
    have own1 : ∀ a, Ownd σ e1 a → Ownd σ env a := fun a ⟨i, z⟩ => ⟨i, p.sh i a z⟩
    have cr : CRep K (Bad (BxOs B (.val c :: os) (x :: vs)) σ e2) H2 c x := by
      refine p.cr.mono (q.fr.mono fun a z => .inr z) (fun a z n => ?_) fun a o ho hv ha => ?_
      · rcases bb a z with (z | z) | ⟨j, z⟩
        · exact .inl z
        · rcases q.nw a z with w | w
          · exact absurd w n
          · exact .inr w
        · exact .inr ⟨j, q.sh j a z⟩
      · refine q.fr.some ha fun ⟨j, z⟩ => ?_
        exact p.st.out j a z (.inr ⟨ho, hv⟩)
    refine ⟨p.fr.trans q.fr (fun _ z _ => z) fun a z _ => own1 a z, fun i a z => p.sh i a (q.sh i a z), q.st.less bx, ⟨x, vs, rfl, ⟨cr, p.rs⟩, ro⟩, fun a z z2 => ?_, ⟨fun a z w => q.nb a w (.inr z), q.nd⟩, fun a z => ?_, fun i z => q.bd i (p.bd i z), fun i d z => ?_⟩
    · exact z.elim (fun z => p.nb a z z2) fun z => q.nb a z (.inl z2)
    · rcases z with z | z
      · exact p.nw a z
      · rcases q.nw a z with w | w
        · cases e : H a with
          | none => exact .inl rfl
          | some o =>
            by_cases ow : Ownd σ env a
            · exact .inr ow
            · have := p.fr.some e ow
              rw [w] at this
              cases this
        · exact .inr (own1 a w)
    · obtain ⟨d', z⟩ := p.pk i d z
      exact q.pk i d' z
theorem pds_nil : PDs X [] [] := PAimp pa_nil fun σ H Q ⟨B, env, os, env', S, hf, q⟩ => by
  cases hf
  exact q [] H (PostOs.nil S)
theorem pds_cons {e : Expr} {es : List Expr} {f : FO} {fs : List FO} (h : PDO X e f) (hr : PDs X es fs) (hs : starEach (e :: es) X.env = (false, eval e X.env) :: starEach es X.env := by rfl) : PDs X (e :: es) (f :: fs) :=
  PAimp (pa_cons h hr hs) fun σ H Q ⟨B, env, os, env', S, hf, q⟩ => by
    unfold dOs at hf
    split at hf
    · rename_i o e1 ho
      split at hf
      · rename_i os' e2 hos
        cases hf
        exact ⟨B, env, o, e1, S, ho, fun x H1 p => ⟨_, e1, os', _, PostO.st S p, hos, fun vs H2 p2 => q _ _ (PostOs.cons S p p2)⟩⟩
      · cases hf
    · cases hf

/-! ### an operation on what is seen -/
def see (env : Ev) : O → Option C
  | .val c => some c
  | .slot i => match env[i]? with
    | some (some c) => some c
    | _ => none
def seeAll (env : Ev) : List O → Option (List C)
  | [] => some []
  | o :: os => match see env o with
    | some c => match seeAll env os with
      | some cs => some (c :: cs)
      | none => none
    | none => none
def CReps (K : PySem.W.Frag) (B : Addr → Prop) (H : Hp) : List C → List V → Prop
  | [], vs => vs = []
  | c :: cs, vs => ∃ v r, vs = v :: r ∧ CRep K B H c v ∧ CReps K B H cs r
theorem Sta.see (S : Sta K B H σ env) {bad : Addr → Prop} (hb : ∀ a, bad a → Bad B σ env a) (h : RO K bad H σ env o v) (e : see env o = some c) : CRep K bad H c v := by
  cases o with
  | val c' =>
    cases e
    exact h.1
  | slot i =>
    obtain ⟨hs, c', hc⟩ := h
    unfold DL.see at e
    simp only [hc] at e
    cases e
    obtain ⟨v', hv, r⟩ := S.rep i _ hc
    rw [hs] at hv
    cases hv
    exact r.as hb
theorem Sta.seeAll (S : Sta K B H σ env) {bad : Addr → Prop} (hb : ∀ a, bad a → Bad B σ env a) : ∀ {os : List O} {vs : List V} {cs : List C}, ROs K bad H σ env os vs → seeAll env os = some cs → CReps K bad H cs vs
  | [], _, _, h, e => by
    cases e
    exact h
  | o :: os, _, _, ⟨v, r, rfl, h1, h2⟩, e => by
    unfold DL.seeAll at e
    split at e
    · rename_i c hc
      split at e
      · rename_i cs' hcs
        cases e
        exact ⟨v, r, rfl, S.see hb h1 hc, Sta.seeAll S hb h2 hcs⟩
      · cases e
    · cases e
/-- what an operation on values does -/
def Ok (K : PySem.W.Frag) (r : List V → Hp → VK → Prop) (sem : List C → Option C) : Prop :=
  ∀ (bad : Addr → Prop) (H : Hp) (vs : List V) (cs : List C) (c : C) (Q : VK), (∀ a, bad a → H a ≠ none) → CReps K bad H cs vs → sem cs = some c → (∀ v H', Ext H H' → NewRep K bad H H' c v → Q v H') → r vs H Q
def dOp (sem : List C → Option C) (fs : List FO) : FE := fun env => match dOs fs env with
  | some (os, e1) => match seeAll e1 os with
    | some cs => match sem cs with
      | some c => some (c, e1)
      | none => none
    | none => none
  | none => none
/-- the operands' end, then the operation's -/
theorem PostOs.fin (p : PostOs K B H σ env os e1 vs H1) (x : Ext H1 H2) (h : NewRep K (Bad (BxOs B os vs) σ e1) H1 H2 c v) : PostE K B H σ env c e1 v H2 := by
  have q := PostE.new p.st x h
  have own1 : ∀ a, Ownd σ e1 a → Ownd σ env a := fun a ⟨i, z⟩ => ⟨i, p.sh i a z⟩
  have bx : ∀ a, Bx B c v a → Bx (BxOs B os vs) c v a := fun a z => z.elim (fun z => .inl (.inl z)) .inr
  refine ⟨p.fr.trans q.fr (fun _ z _ => z) fun a z _ => own1 a z, p.sh, q.st.less bx, q.cr.as fun a z => z.elim (fun z => .inl (bx a z)) .inr, fun a z z2 => q.nb a z (.inl z2), fun a z => ?_, p.bd, p.pk, q.rs⟩
  rcases q.nw a z with w | w
  · cases e : H a with
    | none => exact .inl rfl
    | some o =>
      by_cases ow : Ownd σ env a
      · exact .inr ow
      · have := p.fr.some e ow
        rw [w] at this
        cases this
  · exact .inr (own1 a w)
/-- an expression whose reading is: operands, then the operation -/
theorem dOp_imp {sem : List C → Option C} {fs : List FO} {r : List V → Hp → VK → Prop} (hr : Ok K r sem) {Q : VK} (h : tI K (dOp sem fs) σ H Q) : tOs K fs σ H fun vs H1 => r vs H1 Q := by
  obtain ⟨B, env, c, env', S, hf, q⟩ := h
  unfold dOp at hf
  split at hf
  · rename_i os e1 hos
    split at hf
    · rename_i cs hcs
      split at hf
      · rename_i c' hc
        cases hf
        refine ⟨B, env, os, _, S, hos, fun vs H1 p => ?_⟩
        exact hr _ H1 vs cs _ Q p.st.trkB (p.st.seeAll (fun _ z => z) p.ro hcs) hc fun v H2 x n => q v H2 (p.fin x n)
      · cases hf
    · cases hf
  · cases hf
theorem tOs_two {fa fb : FO} {R : V → V → Hp → Prop} (h : tOs K [fa, fb] σ H fun vs H1 => ∀ x y, vs = [x, y] → R x y H1) : tO K fa σ H fun x H1 => tO K fb σ H1 fun y H2 => R x y H2 := by
  obtain ⟨B, env, os, env', S, hf, q⟩ := h
  unfold dOs at hf
  split at hf
  · rename_i o e1 ho
    split at hf
    · rename_i os' e2 hos
      cases hf
      unfold dOs at hos
      split at hos
      · rename_i o2 e3 ho2
        unfold dOs at hos
        cases hos
        exact ⟨B, env, o, e1, S, ho, fun x H1 p => ⟨_, e1, o2, _, PostO.st S p, ho2, fun y H2 p2 => q _ _ (PostOs.cons S p (PostOs.cons (PostO.st S p) p2 (PostOs.nil (PostO.st (PostO.st S p) p2)))) x y rfl⟩⟩
      · cases hos
    · cases hf
  · cases hf
theorem tOs_one {fa : FO} {R : V → Hp → Prop} (h : tOs K [fa] σ H fun vs H1 => ∀ x, vs = [x] → R x H1) : tO K fa σ H fun x H1 => R x H1 := by
  obtain ⟨B, env, os, env', S, hf, q⟩ := h
  unfold dOs at hf
  split at hf
  · rename_i o e1 ho
    unfold dOs at hf
    cases hf
    exact ⟨B, env, o, _, S, ho, fun x H1 p => q _ _ (PostOs.cons S p (PostOs.nil (PostO.st S p))) x rfl⟩
  · cases hf
/-- a two-place rule by lists -/
def r2 (r : R2) : List V → Hp → VK → Prop := fun vs H Q => ∀ x y, vs = [x, y] → r x y H Q
def r1 (r : V → Hp → VK → Prop) : List V → Hp → VK → Prop := fun vs H Q => ∀ x, vs = [x] → r x H Q
def Ok2 (K : PySem.W.Frag) (r : R2) (sem : List C → Option C) : Prop := Ok K (r2 r) sem
theorem pd_bin {op : Operator} {a b : Expr} {pos : Pos} {r : R2} {sem : List C → Option C} {fa fb : FO} (ho : OpR X (binaryOp op) r) (hr : Ok2 X.K r sem) (ha : PDO X a fa) (hb : PDO X b fb) : PD X (.BinOp a op b pos) (dOp sem [fa, fb]) :=
  PEimp (pe_op ho ha hb) fun σ H Q h => tOs_two (dOp_imp hr h)
theorem pd_cmp {op : CmpOp} {a b : Expr} {pos : Pos} {r : R2} {sem : List C → Option C} {fa fb : FO} (ho : OpR X (compareOp op) r) (hr : Ok2 X.K r sem) (ha : PDO X a fa) (hb : PDO X b fb) (hm : behindInMarks op b = false) : PD X (.Compare a [op] [b] pos) (dOp sem [fa, fb]) :=
  PEimp (pe_cmpR ho ha hb hm) fun σ H Q h => tOs_two (dOp_imp hr h)
theorem pd_un {op : UnaryOp} {a : Expr} {pos : Pos} {r : V → Hp → VK → Prop} {sem : List C → Option C} {fa : FO} (ho : UnR X (unaryOp op) r) (hr : Ok X.K (r1 r) sem) (ha : PDO X a fa) : PD X (.UnaryOp op a pos) (dOp sem [fa]) :=
  PEimp (pe_un ho ha) fun σ H Q h => tOs_one (dOp_imp hr h)
theorem pd_ix {a b : Expr} {pos : Pos} {r : R2} {sem : List C → Option C} {fa fb : FO} (ho : IxR X r) (hr : Ok2 X.K r sem) (ha : PDO X a fa) (hb : PDO X b fb) (hs : PlainIx b) : PD X (.Subscript a b pos) (dOp sem [fa, fb]) :=
  PEimp (pe_ix ho ha hb hs) fun σ H Q h => tOs_two (dOp_imp hr h)
end
end DL
set_option Elab.async false
set_option linter.all false
set_option maxRecDepth 100000
set_option maxHeartbeats 4000000
namespace DL
open PySem PySem.Spec PyProof.Rows L2

/-! ### tests -/
abbrev FT := Ev → Option (Bool × Ev)
def tT (K : PySem.W.Frag) (f : FT) : TT := fun σ H Q => ∃ B env b env', Sta K B H σ env ∧ f env = some (b, env') ∧ ∀ H', PostE K B H σ env (.fz (.bool b)) env' (.bl b) H' → Q b H'
def PDT (X : Cx) (e : Expr) (f : FT) : Prop := PT X e (tT X.K f)
def PDW (X : Cx) (e : Expr) (f : FT) : Prop := PW X e (tT X.K f)
def dTst (f : FE) : FT := fun env => match f env with
  | some (.fz (.bool b), e) => some (b, e)
  | _ => none
def dAnd (f g : FT) : FT := fun env => match f env with
  | some (true, e) => g e
  | some (false, e) => some (false, e)
  | none => none
def dOr (f g : FT) : FT := fun env => match f env with
  | some (true, e) => some (true, e)
  | some (false, e) => g e
  | none => none
def dNot (f : FT) : FT := fun env => match f env with
  | some (b, e) => some (!b, e)
  | none => none
def dIf (t : FT) (f g : FE) : FE := fun env => match t env with
  | some (true, e) => f e
  | some (false, e) => g e
  | none => none
def dAndV (f g : FE) : FE := fun env => match f env with
  | some (.fz (.bool true), e) => g e
  | some (.fz (.bool false), e) => some (.fz (.bool false), e)
  | _ => none
def dOrV (f g : FE) : FE := fun env => match f env with
  | some (.fz (.bool true), e) => some (.fz (.bool true), e)
  | some (.fz (.bool false), e) => g e
  | _ => none
def dNotV (f : FE) : FE := fun env => match f env with
  | some (.fz (.bool b), e) => some (.fz (.bool !b), e)
  | _ => none
section
variable {K : PySem.W.Frag} {B B' : Addr → Prop} {H H' H1 H2 : Hp} {σ : L2.St} {env env' e1 e2 : Ev} {c : C} {v x : V} {X : Cx} {d : D}
theorem PostE.sta (p : PostE K B H σ env (.fz d) e1 x H1) : Sta K B H1 σ e1 := p.st.less fun a q => .inl q
theorem back_none {own : Addr → Prop} (f : Fr own H H1) {a : Addr} (w : H1 a = none) : H a = none ∨ own a := by
  cases e : H a with
  | none => exact .inl rfl
  | some o =>
    by_cases ow : own a
    · exact .inr ow
    · have := f.some e ow
      rw [w] at this
      cases this
theorem PostE.seq (p : PostE K B H σ env (.fz d) e1 x H1) (q : PostE K B H1 σ e1 c e2 v H2) : PostE K B H σ env c e2 v H2 := by
  have own1 : ∀ a, Ownd σ e1 a → Ownd σ env a := fun a ⟨i, z⟩ => ⟨i, p.sh i a z⟩
  refine ⟨p.fr.trans q.fr (fun _ z _ => z) fun a z _ => own1 a z, fun i a z => p.sh i a (q.sh i a z), q.st, q.cr, q.nb, fun a z => ?_, fun i z => q.bd i (p.bd i z), fun i d z => ?_, q.rs⟩
  · rcases q.nw a z with w | w
    · exact back_none p.fr w
    · exact .inr (own1 a w)
  · obtain ⟨d', z⟩ := p.pk i d z
    exact q.pk i d' z
/-- the same state, another value of no list of its own -/
theorem PostE.fz_as {d' : D} {v' : V} (p : PostE K B H σ env (.fz d) e1 x H1) (h : Fz K (Bad B σ e1) H1 d' v') : PostE K B H σ env (.fz d') e1 v' H1 :=
  p.seq (PostE.new p.sta Ext.refl h)
theorem tT_tst {f : FE} {Q : Bool → Hp → Prop} (h : tT K (dTst f) σ H Q) : tI K f σ H fun x H' => ∃ k, x = .bl k ∧ Q k H' := by
  obtain ⟨B, env, b, env', S, hf, q⟩ := h
  unfold dTst at hf
  split at hf
  · rename_i b e he
    cases hf
    exact ⟨B, env, _, _, S, he, fun v H' p => by
      have e : v = .bl _ := p.cr
      subst e
      exact ⟨_, rfl, q H' p⟩⟩
  · cases hf
/-- a name, a call, a subscript as a test -/
theorem pt_exp {e : Expr} {f : FE} (h : PD X e f) (he : ∀ whole, isTrue e X.env whole = (do let v ← whole; standAt e.pos; holding [v] (truthy v)) := by intro _; rfl) : PDT X e (dTst f) :=
  PTimp (pt_val h he) fun σ H Q q => tT_tst q
theorem pt_cmp1 {op : CmpOp} {a b : Expr} {pos : Pos} {r : R2} {sem : List C → Option C} {fa fb : FO} (ho : OpR X (compareOp op) r) (hr : Ok2 X.K r sem) (ha : PDO X a fa) (hb : PDO X b fb) (hm : behindInMarks op b = false) : PDT X (.Compare a [op] [b] pos) (dTst (dOp sem [fa, fb])) :=
  PTimp (pt_cmpR ho ha hb hm) fun σ H Q h => tOs_two (dOp_imp hr (tT_tst h))
theorem pdw_one_and {a : Expr} {pos : Pos} {f : FT} (h : PDT X a f) : PDW X (.BoolOp .And [a] pos) f := pw_and1 h
theorem pdw_one_or {a : Expr} {pos : Pos} {f : FT} (h : PDT X a f) : PDW X (.BoolOp .Or [a] pos) f := pw_or1 h
theorem tT_and {f g : FT} {Q : Bool → Hp → Prop} (h : tT K (dAnd f g) σ H Q) : tAnd (tT K f) (tT K g) σ H Q := by
  obtain ⟨B, env, b, env', S, hf, q⟩ := h
  unfold dAnd at hf
  split at hf
  · rename_i e1 he
    exact ⟨B, env, true, e1, S, he, fun H1 p => ⟨B, e1, b, env', p.sta, hf, fun H2 p2 => q H2 (p.seq p2)⟩⟩
  · rename_i e1 he
    cases hf
    exact ⟨B, env, false, _, S, he, fun H1 p => q H1 p⟩
  · cases hf
theorem tT_or {f g : FT} {Q : Bool → Hp → Prop} (h : tT K (dOr f g) σ H Q) : tOr (tT K f) (tT K g) σ H Q := by
  obtain ⟨B, env, b, env', S, hf, q⟩ := h
  unfold dOr at hf
  split at hf
  · rename_i e1 he
    cases hf
    exact ⟨B, env, true, _, S, he, fun H1 p => q H1 p⟩
  · rename_i e1 he
    exact ⟨B, env, false, e1, S, he, fun H1 p => ⟨B, e1, b, env', p.sta, hf, fun H2 p2 => q H2 (p.seq p2)⟩⟩
  · cases hf
theorem pdw_and {a b : Expr} {rest : List Expr} {pos : Pos} {f g : FT} (h : PDT X a f) (h2 : PDW X (.BoolOp .And (b :: rest) pos) g) : PDW X (.BoolOp .And (a :: b :: rest) pos) (dAnd f g) := PWimp (pw_and h h2) fun σ H Q q => tT_and q
theorem pdw_or {a b : Expr} {rest : List Expr} {pos : Pos} {f g : FT} (h : PDT X a f) (h2 : PDW X (.BoolOp .Or (b :: rest) pos) g) : PDW X (.BoolOp .Or (a :: b :: rest) pos) (dOr f g) := PWimp (pw_or h h2) fun σ H Q q => tT_or q
theorem pt_bool {e : Expr} {f : FT} (h : PDW X e f) : PDT X e f := PW.pt h
theorem pt_neg {a : Expr} {pos : Pos} {f : FT} (h : PDT X a f) : PDT X (.UnaryOp .Not a pos) (dNot f) := PTimp (pt_not h) fun σ H Q ⟨B, env, b, env', S, hf, q⟩ => by
  unfold dNot at hf
  split at hf
  · rename_i b e1 he
    cases hf
    exact ⟨B, env, b, _, S, he, fun H1 p => q H1 (p.fz_as rfl)⟩
  · cases hf
theorem pd_if {c a b : Expr} {pos : Pos} {t : FT} {f g : FE} (hc : PDT X c t) (ha : PD X a f) (hb : PD X b g) : PD X (.IfExp c a b pos) (dIf t f g) := PEimp (pe_ifExp hc ha hb) fun σ H Q ⟨B, env, c, env', S, hf, q⟩ => by
  unfold dIf at hf
  split at hf
  · rename_i e1 he
    exact ⟨B, env, true, e1, S, he, fun H1 p => ⟨B, e1, c, env', p.sta, hf, fun v H2 p2 => q v H2 (p.seq p2)⟩⟩
  · rename_i e1 he
    exact ⟨B, env, false, e1, S, he, fun H1 p => ⟨B, e1, c, env', p.sta, hf, fun v H2 p2 => q v H2 (p.seq p2)⟩⟩
  · cases hf
theorem pd_one {op} {a : Expr} {pos : Pos} {f : FE} (h : PD X a f) : PD X (.BoolOp op [a] pos) f := pe_one h
theorem pd_and {a b : Expr} {rest : List Expr} {pos : Pos} {f g : FE} (h : PD X a f) (h2 : PD X (.BoolOp .And (b :: rest) pos) g) : PD X (.BoolOp .And (a :: b :: rest) pos) (dAndV f g) := PEimp (pe_and h h2) fun σ H Q ⟨B, env, c, env', S, hf, q⟩ => by
  unfold dAndV at hf
  split at hf
  · rename_i e1 he
    exact ⟨B, env, _, e1, S, he, fun v H1 p => by
      have e : v = .bl true := p.cr
      subst e
      exact ⟨true, rfl, B, e1, c, env', p.sta, hf, fun v H2 p2 => q v H2 (p.seq p2)⟩⟩
  · rename_i e1 he
    cases hf
    exact ⟨B, env, _, _, S, he, fun v H1 p => by
      have e : v = .bl false := p.cr
      subst e
      exact ⟨false, rfl, q _ H1 p⟩⟩
  · cases hf
theorem pd_or {a b : Expr} {rest : List Expr} {pos : Pos} {f g : FE} (h : PD X a f) (h2 : PD X (.BoolOp .Or (b :: rest) pos) g) : PD X (.BoolOp .Or (a :: b :: rest) pos) (dOrV f g) := PEimp (pe_or h h2) fun σ H Q ⟨B, env, c, env', S, hf, q⟩ => by
  unfold dOrV at hf
  split at hf
  · rename_i e1 he
    cases hf
    exact ⟨B, env, _, _, S, he, fun v H1 p => by
      have e : v = .bl true := p.cr
      subst e
      exact ⟨true, rfl, q _ H1 p⟩⟩
  · rename_i e1 he
    exact ⟨B, env, _, e1, S, he, fun v H1 p => by
      have e : v = .bl false := p.cr
      subst e
      exact ⟨false, rfl, B, e1, c, env', p.sta, hf, fun v H2 p2 => q v H2 (p.seq p2)⟩⟩
  · cases hf
theorem pd_not {a : Expr} {pos : Pos} {f : FE} (h : PD X a f) : PD X (.UnaryOp .Not a pos) (dNotV f) := PEimp (pe_not h) fun σ H Q ⟨B, env, c, env', S, hf, q⟩ => by
  unfold dNotV at hf
  split at hf
  · rename_i b e1 he
    cases hf
    exact ⟨B, env, _, _, S, he, fun v H1 p => by
      have e : v = .bl b := p.cr
      subst e
      exact ⟨b, rfl, q _ H1 (p.fz_as rfl)⟩⟩
  · cases hf
end

/-! ### calls of built-ins, displays, slices, methods of texts -/
def valDatas : List O → Option (List D)
  | [] => some []
  | .val (.fz d) :: os => match valDatas os with
    | some ds => some (d :: ds)
    | none => none
  | .val (.ow d) :: os => match valDatas os with
    | some ds => some (d :: ds)
    | none => none
  | _ => none
def dTup (fs : List FO) : FE := fun env => match dOs fs env with
  | some (os, e1) => match valDatas os with
    | some ds => if ds.length ≤ 1000 then some (.fz (.tuple ds), e1) else none
    | none => none
  | none => none
def dLst (fs : List FO) : FE := fun env => match dOs fs env with
  | some (os, e1) => match valDatas os with
    | some ds => if ds.length ≤ 1000 then some (.ow (.list ds), e1) else none
    | none => none
  | none => none
theorem small_line {n : Nat} (h : n ≤ 1000) : n ≤ sizeLine := by rw [sizeLine_eq]; omega
section
variable {K : PySem.W.Frag} {B B' : Addr → Prop} {H H' H1 H2 : Hp} {σ : L2.St} {env env' e1 e2 : Ev} {c : C} {v x : V} {X : Cx} {d : D} {os : List O} {vs : List V}
theorem frozen_aux {bad bad' : Addr → Prop} (hb : ∀ a, bad' a → bad a) : ∀ {os : List O} {vs : List V} {ds : List D}, (∀ a, ownOs os vs a → ¬ bad' a) → ROs K bad H σ env os vs → valDatas os = some ds → FzL K bad' H ds vs
  | [], _, _, _, h, e => by
    cases e
    exact h
  | .slot i :: os, _, _, _, _, e => by simp [valDatas] at e
  | .val (.fz d) :: os, vs, ds, hn, h, e => by
    obtain ⟨v, r, e2, h1, h2⟩ := h
    subst e2
    unfold valDatas at e
    split at e
    · rename_i ds' he
      cases e
      exact FzL.cons (Fz.as h1.1 hb) (frozen_aux hb (fun a z => hn a (.inr z)) h2 he)
    · cases e
  | .val (.ow d) :: os, vs, ds, hn, h, e => by
    obtain ⟨v, r, e2, h1, h2⟩ := h
    subst e2
    unfold valDatas at e
    split at e
    · rename_i ds' he
      cases e
      obtain ⟨⟨a, e3, ho⟩, _⟩ := h1
      subst e3
      exact FzL.cons (Own.fz (ho.mono Fr.refl (fun b q _ => hb b q) fun _ z => z) (hn a (.inl ⟨rfl, rfl⟩))) (frozen_aux hb (fun a z => hn a (.inr z)) h2 he)
    · cases e
  | .val (.pw d) :: os, _, _, _, _, e => by simp [valDatas] at e
  | .val (.sc d) :: os, _, _, _, _, e => by simp [valDatas] at e
/-- all operands are values: put into a new thing, nobody changes them any more -/
theorem PostOs.frozen {ds : List D} (p : PostOs K B H σ env os e1 vs H1) (e : valDatas os = some ds) : FzL K (Bad B σ e1) H1 ds vs :=
  frozen_aux (fun a z => z.elim (fun z => .inl (.inl z)) .inr) (fun a z w => w.elim (p.nb a z) fun ⟨i, w⟩ => p.st.out i a w (.inr z)) p.ro e
theorem PostOs.staB (p : PostOs K B H σ env os e1 vs H1) : Sta K B H1 σ e1 := p.st.less fun a z => .inl z
theorem PostOs.fin2 (p : PostOs K B H σ env os e1 vs H1) (x : Ext H1 H2) (h : NewRep K (Bad B σ e1) H1 H2 c v) : PostE K B H σ env c e1 v H2 := by
  have q := PostE.new p.staB x h
  have own1 : ∀ a, Ownd σ e1 a → Ownd σ env a := fun a ⟨i, z⟩ => ⟨i, p.sh i a z⟩
  refine ⟨p.fr.trans q.fr (fun _ z _ => z) fun a z _ => own1 a z, p.sh, q.st, q.cr, q.nb, fun a z => ?_, p.bd, p.pk, q.rs⟩
  rcases q.nw a z with w | w
  · exact back_none p.fr w
  · exact .inr (own1 a w)
theorem pd_tup {es : List Expr} {fs : List FO} {x1} {pos : Pos} (h : PDs X es fs) : PD X (.Tuple es x1 pos) (dTup fs) := PEimp (pe_tup h) fun σ H Q ⟨B, env, c, env', S, hf, q⟩ => by
  unfold dTup at hf
  split at hf
  · rename_i os e1 hos
    split at hf
    · rename_i ds hds
      split at hf
      · rename_i hl
        cases hf
        refine ⟨B, env, os, _, S, hos, fun vs H1 p => ?_⟩
        have fz := p.frozen hds
        have len : vs.length = ds.length := fz.length
        refine ⟨by rw [len]; exact small_line hl, fun a ha => q _ _ (p.fin2 (Ext.new ha) ?_)⟩
        exact ⟨a, vs, rfl, SqT.of upd_same, fz.mono (Ext.new ha).fr fun _ z _ => z⟩
      · cases hf
    · cases hf
  · cases hf
theorem pd_lst {es : List Expr} {fs : List FO} {pos : Pos} (h : PDs X es fs) : PD X (.List es pos) (dLst fs) := PEimp (pe_lst h) fun σ H Q ⟨B, env, c, env', S, hf, q⟩ => by
  unfold dLst at hf
  split at hf
  · rename_i os e1 hos
    split at hf
    · rename_i ds hds
      split at hf
      · rename_i hl
        cases hf
        refine ⟨B, env, os, _, S, hos, fun vs H1 p => ?_⟩
        have fz := p.frozen hds
        have len : vs.length = ds.length := fz.length
        refine ⟨by rw [len]; exact small_line hl, fun a ha => q _ _ (p.fin2 (Ext.new ha) ?_)⟩
        refine ⟨a, rfl, ha, vs, upd_same, fz.mono (Ext.new ha).fr fun b z n => ?_⟩
        rcases z with z | z
        · exact z
        · subst z
          exact absurd ha n
      · cases hf
    · cases hf
  · cases hf
theorem pd_callB {e : Expr} {es : List Expr} {x : Str} {p pos : Pos} {id : String} {r : List V → Hp → VK → Prop} {sem : List C → Option C} {fs : List FO} (hc : CallR X (.builtin id) r) (hr : Ok X.K r sem) (hg : Gl X x) (hm : X.mg x = none) (hv : bootBuiltins x = some (.builtin id)) (ha : PDs X (e :: es) fs)
    (hn : x ≠ "__name__" := by decide) (hdb : (x == ("__debug__" : Str)) = false := by decide) (he : starEach (e :: es) X.env = (false, eval e X.env) :: starEach es X.env := by rfl) (hpl : (backTo pos (starEach es X.env)).any (·.1) = false := by rfl) :
    PD X (.Call (.Name x p) (e :: es) [] pos) (dOp sem fs) := PEimp (pe_callB hc hg hm hv ha hn hdb he hpl) fun σ H Q h => dOp_imp hr h
theorem pd_callTy {e : Expr} {es : List Expr} {x : Str} {p pos : Pos} {T : String} {r : List V → Hp → VK → Prop} {sem : List C → Option C} {fs : List FO} (hc : CallR X (.type T) r) (hr : Ok X.K r sem) (hg : Gl X x) (hm : X.mg x = none) (hv : bootBuiltins x = some (.type T)) (ha : PDs X (e :: es) fs)
    (hn : x ≠ "__name__" := by decide) (hdb : (x == ("__debug__" : Str)) = false := by decide) (he : starEach (e :: es) X.env = (false, eval e X.env) :: starEach es X.env := by rfl) (hpl : (backTo pos (starEach es X.env)).any (·.1) = false := by rfl) :
    PD X (.Call (.Name x p) (e :: es) [] pos) (dOp sem fs) := PEimp (pe_callTy hc hg hm hv ha hn hdb he hpl) fun σ H Q h => dOp_imp hr h
end
end DL
set_option Elab.async false
set_option linter.all false
set_option maxRecDepth 100000
set_option maxHeartbeats 4000000
namespace DL
open PySem PySem.Spec PyProof.Rows L2

/-! ### statements -/
inductive Fl where
  | nx | bk | ct | rt (c : C)
abbrev FS := Ev → Option (Fl × Ev)
structure PostS (K : PySem.W.Frag) (B : Addr → Prop) (H : Hp) (σ : L2.St) (env env' : Ev) (σ' : L2.St) (H' : Hp) : Prop where
  fr : Fr (Ownd σ env) H H'
  sh : ∀ a, Ownd σ' env' a → H a = none ∨ Ownd σ env a
  st : Sta K B H' σ' env'
  pk : ∀ (i : Nat) (d : D), env[i]? = some (some (.pw d)) → (∃ d', env'[i]? = some (some (.pw d'))) ∧ σ'[i]? = σ[i]?
structure PostR (K : PySem.W.Frag) (B : Addr → Prop) (H : Hp) (σ : L2.St) (env : Ev) (c : C) (env' : Ev) (v : V) (σ' : L2.St) (H' : Hp) : Prop where
  fr : Fr (Ownd σ env) H H'
  st : Sta K (Bx B c v) H' σ' env'
  cr : CRep K (Bad (Bx B c v) σ' env') H' c v
  nb : ∀ a, ownV c v a → ¬ B a
  nw : ∀ a, ownV c v a → H a = none ∨ Ownd σ env a
  pk : ∀ (i : Nat) (d : D), env[i]? = some (some (.pw d)) → (∃ d', env'[i]? = some (some (.pw d'))) ∧ σ'[i]? = σ[i]?
  rs : c.isRes = true
def EndOk (K : PySem.W.Frag) (B : Addr → Prop) (H : Hp) (σ : L2.St) (env : Ev) (fl : Fl) (env' : Ev) (D : Ends) : Prop :=
  match fl with
  | .nx => ∀ σ' H', PostS K B H σ env env' σ' H' → D.nx σ' H'
  | .bk => ∀ σ' H', PostS K B H σ env env' σ' H' → D.bk σ' H'
  | .ct => ∀ σ' H', PostS K B H σ env env' σ' H' → D.ct σ' H'
  | .rt c => ∀ v σ' H', PostR K B H σ env c env' v σ' H' → D.rt v H'
def tS (K : PySem.W.Frag) (f : FS) : TS := fun D σ H => ∃ B env fl env', Sta K B H σ env ∧ f env = some (fl, env') ∧ EndOk K B H σ env fl env' D
def PDS (X : Cx) (st : Stmt) (f : FS) : Prop := PS X st (tS X.K f)
def PDB (X : Cx) (st : List Stmt) (f : FS) : Prop := PSs X st (tS X.K f)
def dNext : FS := fun env => some (.nx, env)
def dSeq (f g : FS) : FS := fun env => match f env with
  | some (.nx, e1) => g e1
  | some (fl, e1) => some (fl, e1)
  | none => none
def dIfS (t : FT) (f g : FS) : FS := fun env => match t env with
  | some (true, e) => f e
  | some (false, e) => g e
  | none => none
def dExp (f : FE) : FS := fun env => match f env with
  | some (_, e) => some (.nx, e)
  | none => none
def dRet (f : FE) : FS := fun env => match f env with
  | some (c, e) => some (.rt c, e)
  | none => none
/-- a list of its own is handed out -/
def dRetV (i : Nat) : FS := fun env => match env[i]? with
  | some (some (.fz d)) => some (.rt (.fz d), env)
  | some (some (.ow d)) => some (.rt (.ow d), env.set i none)
  | _ => none
def dRetN : FS := fun env => some (.rt (.fz .none), env)
def settable (env : Ev) (i : Nat) : Bool := match env[i]? with
  | some (some (.pw _)) => false
  | some _ => true
  | none => false
def dSet (i : Nat) (f : FE) : FS := fun env => match f env with
  | some (c, e) => if settable e i then some (.nx, e.set i (some c)) else none
  | none => none
section
variable {K : PySem.W.Frag} {B B' : Addr → Prop} {H H' H1 H2 : Hp} {σ σ' σ1 σ2 : L2.St} {env env' e1 e2 : Ev} {c : C} {v x : V} {X : Cx} {d : D} {fl : Fl} {D : Ends}
theorem PostS.refl (S : Sta K B H σ env) : PostS K B H σ env env σ H := ⟨Fr.refl, fun a z => .inr z, S, fun i d z => ⟨⟨d, z⟩, rfl⟩⟩
theorem PostS.of (p : PostE K B H σ env c e1 v H1) : PostS K B H σ env e1 σ H1 :=
  ⟨p.fr, fun a ⟨i, z⟩ => .inr ⟨i, p.sh i a z⟩, p.st.less fun a z => .inl z, fun i d z => ⟨p.pk i d z, rfl⟩⟩
theorem PostR.of (p : PostE K B H σ env c e1 v H1) : PostR K B H σ env c e1 v σ H1 :=
  ⟨p.fr, p.st, p.cr, p.nb, p.nw, fun i d z => ⟨p.pk i d z, rfl⟩, p.rs⟩
theorem PostS.back (p : PostS K B H σ env e1 σ1 H1) {a : Addr} (w : H1 a = none ∨ Ownd σ1 e1 a) : H a = none ∨ Ownd σ env a := by
  rcases w with w | w
  · exact back_none p.fr w
  · exact p.sh a w
theorem PostS.frs (p : PostS K B H σ env e1 σ1 H1) (f : Fr (Ownd σ1 e1) H1 H2) : Fr (Ownd σ env) H H2 :=
  p.fr.trans f (fun _ z _ => z) fun a z n => (p.sh a z).resolve_left n
theorem PostS.trans (p : PostS K B H σ env e1 σ1 H1) (q : PostS K B H1 σ1 e1 e2 σ2 H2) : PostS K B H σ env e2 σ2 H2 := by
  refine ⟨p.frs q.fr, fun a z => p.back (q.sh a z), q.st, fun i d z => ?_⟩
  obtain ⟨⟨d', z1⟩, z2⟩ := p.pk i d z
  obtain ⟨z3, z4⟩ := q.pk i d' z1
  exact ⟨z3, z4.trans z2⟩
theorem PostS.transR (p : PostS K B H σ env e1 σ1 H1) (q : PostR K B H1 σ1 e1 c e2 v σ2 H2) : PostR K B H σ env c e2 v σ2 H2 := by
  refine ⟨p.frs q.fr, q.st, q.cr, q.nb, fun a z => p.back (q.nw a z), fun i d z => ?_, q.rs⟩
  obtain ⟨⟨d', z1⟩, z2⟩ := p.pk i d z
  obtain ⟨z3, z4⟩ := q.pk i d' z1
  exact ⟨z3, z4.trans z2⟩
/-- what is to be shown behind a first part -/
theorem EndOk.pre (p : PostS K B H σ env e1 σ1 H1) (h : EndOk K B H σ env fl env' D) : EndOk K B H1 σ1 e1 fl env' D := by
  cases fl with
  | nx => exact fun σ' H' q => h σ' H' (p.trans q)
  | bk => exact fun σ' H' q => h σ' H' (p.trans q)
  | ct => exact fun σ' H' q => h σ' H' (p.trans q)
  | rt c => exact fun v σ' H' q => h v σ' H' (p.transR q)
theorem pdb_nil : PDB X [] dNext := PSsimp pss_nil fun D σ H ⟨B, env, fl, env', S, hf, q⟩ => by
  cases hf
  exact q σ H (PostS.refl S)
theorem tS_seq {f g : FS} (h : tS K (dSeq f g) D σ H) : tSeq (tS K f) (tS K g) D σ H := by
  obtain ⟨B, env, fl, env', S, hf, q⟩ := h
  unfold dSeq at hf
  split at hf
  · rename_i e1 he
    exact ⟨B, env, .nx, e1, S, he, fun σ1 H1 p => ⟨B, e1, fl, env', p.st, hf, q.pre p⟩⟩
  · rename_i fl' e1 hn he
    cases hf
    refine ⟨B, env, fl, _, S, he, ?_⟩
    cases fl with
    | nx => exact (hn rfl).elim
    | bk => exact q
    | ct => exact q
    | rt c => exact q
  · cases hf
theorem pdb_cons {st : Stmt} {rest : List Stmt} {f g : FS} (h : PDS X st f) (h2 : PDB X rest g) : PDB X (st :: rest) (dSeq f g) := PSsimp (pss_cons h h2) fun D σ H q => tS_seq q
theorem pdb_one {st : Stmt} {f : FS} (h : PDS X st f) : PDB X [st] f := pss_one h
theorem pds_if {c : Expr} {a b : List Stmt} {pos : Pos} {t : FT} {f g : FS} (hc : PDT X c t) (ha : PDB X a f) (hb : PDB X b g) : PDS X (.If c a b pos) (dIfS t f g) := PSimp (ps_if hc ha hb) fun D σ H ⟨B, env, fl, env', S, hf, q⟩ => by
  unfold dIfS at hf
  split at hf
  · rename_i e1 he
    exact ⟨B, env, true, e1, S, he, fun H1 p => ⟨B, e1, fl, env', p.sta, hf, q.pre (PostS.of p)⟩⟩
  · rename_i e1 he
    exact ⟨B, env, false, e1, S, he, fun H1 p => ⟨B, e1, fl, env', p.sta, hf, q.pre (PostS.of p)⟩⟩
  · cases hf
theorem pds_exp {e : Expr} {pos : Pos} {f : FE} (h : PD X e f) (hs : swapsWith e none pos.line X.env = pure false := by rfl) : PDS X (.Expr e pos) (dExp f) := PSimp (ps_expr h hs) fun D σ H ⟨B, env, fl, env', S, hf, q⟩ => by
  unfold dExp at hf
  split at hf
  · rename_i c e1 he
    cases hf
    exact ⟨B, env, c, _, S, he, fun v H1 p => q σ H1 (PostS.of p)⟩
  · cases hf
theorem pds_ret {e : Expr} {pos : Pos} {f : FE} (h : PD X e f) : PDS X (.Return (some e) pos) (dRet f) := PSimp (ps_ret h) fun D σ H ⟨B, env, fl, env', S, hf, q⟩ => by
  unfold dRet at hf
  split at hf
  · rename_i c e1 he
    cases hf
    exact ⟨B, env, c, _, S, he, fun v H1 p => q v σ H1 (PostR.of p)⟩
  · cases hf
theorem pds_retN {pos : Pos} : PDS X (.Return none pos) dRetN := PSimp ps_retN fun D σ H ⟨B, env, fl, env', S, hf, q⟩ => by
  cases hf
  exact q .non σ H (PostR.of (PostE.new S Ext.refl rfl))
theorem pds_pass {pos : Pos} : PDS X (.Pass pos) dNext := PSimp ps_pass fun D σ H ⟨B, env, fl, env', S, hf, q⟩ => by
  cases hf
  exact q σ H (PostS.refl S)
/-- a list of its own is given up by its name -/
theorem Sta.move {i : Nat} {d : PyData} {v : V} (S : Sta K B H σ env) (h : env[i]? = some (some (.ow d))) (hv : σ[i]? = some (some v)) : PostR K B H σ env (.ow d) (env.set i none) v σ H := by
  obtain ⟨v', ev, a, rfl, ho⟩ := S.rep i _ h
  rw [hv] at ev
  cases ev
  have own : Owns σ env i a := ⟨_, h, rfl, hv⟩
  have sh : ∀ j b, Owns σ (env.set i none) j b → Owns σ env j b ∧ j ≠ i := fun j b ⟨c', e1, e2, e3⟩ => by
    rcases set_some e1 with ⟨_, q⟩ | ⟨n, q⟩
    · cases q
    · exact ⟨⟨c', q, e2, e3⟩, n⟩
  have bb : ∀ b, Bad (Bx B (.ow d) (.ref a)) σ (env.set i none) b → Bad B σ env b := fun b q => by
    rcases q with (q | q) | ⟨j, q⟩
    · exact .inl q
    · have e := q.2
      cases e
      exact .inr ⟨i, own⟩
    · exact .inr ⟨j, (sh j b q).1⟩
  have st : Sta K (Bx B (.ow d) (.ref a)) H σ (env.set i none) := by
    refine ⟨by rw [List.length_set]; exact S.len, fun b q => ?_, fun j c' e => ?_, fun j k b q q' => S.inj j k b (sh j b q).1 (sh k b q').1, fun j b q z => ?_⟩
    · rcases q with q | q
      · exact S.trk b q
      · have e := q.2
        cases e
        obtain ⟨o, e, _⟩ := ho.mut
        rw [e]
        exact fun z => by cases z
    · rcases set_some e with ⟨_, q⟩ | ⟨_, q⟩
      · cases q
      · obtain ⟨v2, e2, r⟩ := S.rep j c' q
        exact ⟨v2, e2, r.as bb⟩
    · obtain ⟨q1, q2⟩ := sh j b q
      rcases z with z | z
      · exact S.out j b q1 z
      · have e := z.2
        cases e
        exact q2 (S.inj j i a q1 own)
  refine ⟨Fr.refl, st, ⟨a, rfl, ho.mono Fr.refl (fun b q _ => bb b q) fun _ z => z⟩, fun b q z => ?_, fun b q => ?_, fun j d' q => ⟨⟨d', ?_⟩, rfl⟩, rfl⟩
  · have e := q.2
    cases e
    exact S.out i a own z
  · have e := q.2
    cases e
    exact .inr ⟨i, own⟩
  · by_cases e : i = j
    · subst e
      rw [h] at q
      cases q
    · rw [List.getElem?_set_ne e]
      exact q
theorem pds_retV {i : Nat} {e : Expr} {pos : Pos} (h : PE X e (tVar i)) : PDS X (.Return (some e) pos) (dRetV i) := PSimp (ps_ret h) fun D σ H ⟨B, env, fl, env', S, hf, q⟩ => by
  unfold dRetV at hf
  split at hf
  · rename_i d e
    cases hf
    obtain ⟨v, ev, r⟩ := S.rep i _ e
    exact ⟨v, ev, q v σ H (PostR.of (PostE.new S Ext.refl r))⟩
  · rename_i d e
    cases hf
    obtain ⟨v, ev, r⟩ := S.rep i _ e
    exact ⟨v, ev, q v σ H (S.move e ev)⟩
  · cases hf
/-- a value is stored under a name -/
theorem PostE.store {i : Nat} (p : PostE K B H σ env c e1 v H1) (hs : settable e1 i = true) : PostS K B H σ env (e1.set i (some c)) (σ.set i (some v)) H1 := by
  have hi : i < e1.length := by
    unfold settable at hs
    split at hs
    · cases hs
    · rename_i e
      exact (List.getElem?_eq_some_iff.mp e).1
    · cases hs
  have hi2 : i < σ.length := by rw [← p.st.len]; exact hi
  have sh : ∀ j a, Owns (σ.set i (some v)) (e1.set i (some c)) j a → (j = i ∧ ownV c v a) ∨ (j ≠ i ∧ Owns σ e1 j a) := fun j a ⟨c', e1', e2, e3⟩ => by
    rcases set_some e1' with ⟨n, q⟩ | ⟨n, q⟩
    · subst n
      cases q
      rw [List.getElem?_set_self hi2] at e3
      cases e3
      exact .inl ⟨rfl, e2, rfl⟩
    · rw [List.getElem?_set_ne (Ne.symm n)] at e3
      exact .inr ⟨n, c', q, e2, e3⟩
  have bb : ∀ b, Bad B (σ.set i (some v)) (e1.set i (some c)) b → Bad (Bx B c v) σ e1 b := fun b q => by
    rcases q with q | ⟨j, q⟩
    · exact .inl (.inl q)
    · rcases sh j b q with ⟨_, q⟩ | ⟨_, q⟩
      · exact .inl (.inr q)
      · exact .inr ⟨j, q⟩
  refine ⟨p.fr, fun a ⟨j, z⟩ => ?_, ⟨by rw [List.length_set, List.length_set]; exact p.st.len, fun a z => p.st.trk a (.inl z), fun j c' e => ?_, fun j k a q q' => ?_, fun j a q z => ?_⟩, fun j d z => ?_⟩
  · rcases sh j a z with ⟨_, z⟩ | ⟨_, z⟩
    · exact p.nw a z
    · exact .inr ⟨j, p.sh j a z⟩
  · rcases set_some e with ⟨n, q⟩ | ⟨n, q⟩
    · subst n
      cases q
      exact ⟨v, by rw [List.getElem?_set_self hi2], p.cr.as bb⟩
    · obtain ⟨v2, e2, r⟩ := p.st.rep j c' q
      exact ⟨v2, by rw [List.getElem?_set_ne (Ne.symm n)]; exact e2, r.as bb⟩
  · rcases sh j a q with ⟨n, q⟩ | ⟨n, q⟩
    · rcases sh k a q' with ⟨n', q'⟩ | ⟨n', q'⟩
      · exact n.trans n'.symm
      · exact absurd (.inr q) (p.st.out k a q')
    · rcases sh k a q' with ⟨n', q'⟩ | ⟨n', q'⟩
      · exact absurd (.inr q') (p.st.out j a q)
      · exact p.st.inj j k a q q'
  · rcases sh j a q with ⟨n, q⟩ | ⟨n, q⟩
    · exact p.nb a q z
    · exact p.st.out j a q (.inl z)
  · obtain ⟨d', z'⟩ := p.pk j d z
    by_cases e : i = j
    · subst e
      unfold settable at hs
      rw [z'] at hs
      cases hs
    · exact ⟨⟨d', by rw [List.getElem?_set_ne e]; exact z'⟩, by rw [List.getElem?_set_ne e]⟩
theorem pds_set {i : Nat} {x : Str} {e : Expr} {f : FE} {pos pos' : Pos} (h : PD X e f) (hN : X.N.Nodup) (hi : X.N[i]? = some x) (hx : Loc X.env.scope x) (hs : swapsWith e (some (.Name x pos')) pos.line X.env = pure false := by rfl) (hf : X.fn x = true ∨ X.env.scope.names.lookup x = some .local := by first | exact .inl rfl | exact .inr rfl | assumption) :
    PDS X (.Assign [.Name x pos'] e pos) (dSet i f) := PSimp (ps_set hN hi hx h hs hf) fun D σ H ⟨B, env, fl, env', S, hf, q⟩ => by
  unfold dSet at hf
  split at hf
  · rename_i c e1 he
    split at hf
    · rename_i hset
      cases hf
      exact ⟨B, env, c, e1, S, he, fun v H1 p => q _ H1 (p.store hset)⟩
    · cases hf
  · cases hf
end
end DL
set_option Elab.async false
set_option linter.all false
set_option maxRecDepth 100000
set_option maxHeartbeats 4000000
namespace DL
open PySem PySem.Spec PyProof.Rows L2

/-! ### what a list of one's own becomes -/
def C.put : C → D → C
  | .ow _, d => .ow d
  | .pw _, d => .pw d
  | c, _ => c
theorem C.put_own (c : C) (d : D) : (c.put d).isOwn = c.isOwn := by cases c <;> rfl
section
variable {K : PySem.W.Frag} {B B' : Addr → Prop} {H H' H1 H2 : Hp} {σ σ' σ1 σ2 : L2.St} {env env' e1 e2 : Ev} {c : C} {v x : V} {X : Cx} {d : D} {fl : Fl} {D : Ends} {i : Nat} {a : Addr}
/-- slot i's own list is changed -/
theorem Sta.mutate {ds' : List PyData} {ys : List V} {r : PyData} (S : Sta K B H σ env) (h : env[i]? = some (some c)) (ho : c.isOwn = true) (hv : σ[i]? = some (some (.ref a)))
    (hy : FzL K (Bad B σ env) H ds' ys) (hr : Fz K (Bad B σ env) H r v) : PostE K B H σ env (.fz r) (env.set i (some (c.put (.list ds')))) v (upd H a (.lst ys)) := by
  have own : Owns σ env i a := ⟨c, h, ho, hv⟩
  obtain ⟨o, ha, hm⟩ := S.mut own
  have hi : i < env.length := (List.getElem?_eq_some_iff.mp h).1
  have sh : ∀ j b, Owns σ (env.set i (some (c.put (.list ds')))) j b → Owns σ env j b := fun j b ⟨c', e1, e2, e3⟩ => by
    rcases set_some e1 with ⟨n, q⟩ | ⟨n, q⟩
    · cases q
      subst n
      exact ⟨c, h, by rw [← C.put_own]; exact e2, e3⟩
    · exact ⟨c', q, e2, e3⟩
  have bb : ∀ b, Bad B σ (env.set i (some (c.put (.list ds')))) b → Bad B σ env b := fun b q => q.elim .inl fun ⟨j, z⟩ => .inr ⟨j, sh j b z⟩
  have fr : Fr (Ownd σ env) H (upd H a (.lst ys)) := fun b u hb hn => by
    by_cases e : b = a
    · subst e
      rw [ha] at hb
      cases hb
      exact absurd hm (hn ⟨i, own⟩)
    · rw [upd_ne e]
      exact hb
  have frB : Fr (Bad B σ env) H (upd H a (.lst ys)) := fr.mono fun _ z => .inr z
  have st : Sta K B (upd H a (.lst ys)) σ (env.set i (some (c.put (.list ds')))) := by
    refine ⟨by rw [List.length_set]; exact S.len, fun b z => ?_, fun j c' e => ?_, fun j k b q q' => S.inj j k b (sh j b q) (sh k b q'), fun j b q => S.out j b (sh j b q)⟩
    · by_cases e : b = a
      · subst e
        exact absurd z (S.out i b own)
      · rw [upd_ne e]
        exact S.trk b z
    · rcases set_some e with ⟨n, q⟩ | ⟨n, q⟩
      · cases q
        subst n
        refine ⟨_, hv, ?_⟩
        have nw : Own K (Bad B σ (env.set j (some (c.put (.list ds'))))) (upd H a (.lst ys)) (.list ds') a := ⟨ys, upd_same, hy.mono frB fun b z _ => bb b z⟩
        cases c with
        | ow d => exact ⟨a, rfl, nw⟩
        | pw d => exact ⟨a, rfl, nw⟩
        | fz d => cases ho
        | sc d => cases ho
      · obtain ⟨v2, e2, r2⟩ := S.rep j c' q
        refine ⟨v2, e2, r2.mono frB (fun b z _ => bb b z) fun b u ho2 hv2 hb => ?_⟩
        rw [upd_ne]
        · exact hb
        · intro e
          subst e
          subst hv2
          exact n (S.inj j i b ⟨c', q, ho2, e2⟩ own)
  refine ⟨fr, sh, st.less fun b q => q.fz, (Fz.mono frB (fun b z _ => bb b z) hr : Fz K _ _ r v).as fun b q => q.elim (fun z => .inl z.fz) .inr, fun a z => (by cases z.1), fun a z => (by cases z.1), fun j ⟨c', q⟩ => ?_, fun j d' q => ?_, rfl⟩
  · by_cases e : i = j
    · subst e
      exact ⟨c.put (.list ds'), by rw [List.getElem?_set_self hi]⟩
    · exact ⟨c', by rw [List.getElem?_set_ne e]; exact q⟩
  · by_cases e : i = j
    · subst e
      rw [h] at q
      cases q
      exact ⟨_, by rw [List.getElem?_set_self hi]; rfl⟩
    · exact ⟨d', by rw [List.getElem?_set_ne e]; exact q⟩

/-- operands done, the state as it is (temps given up) -/
theorem PostOs.eff {os : List O} {vs : List V} (p : PostOs K B H σ env os e1 vs H1) : PostE K B H σ env (.fz .none) e1 .non H1 :=
  p.fin2 Ext.refl rfl
end

/-! ### x.append(..), x.pop(), x[i] = v of a list of one's own -/
def ownL (env : Ev) (i : Nat) : Option (C × List D) := match env[i]? with
  | some (some (.ow (.list ds))) => some (.ow (.list ds), ds)
  | some (some (.pw (.list ds))) => some (.pw (.list ds), ds)
  | _ => none
def dMut (i : Nat) (up : List D → List D → Option (List D × D)) (fs : List FO) : FE := fun env => match ownL env i with
  | some _ => match dOs fs env with
    | some (os, e1) => match valDatas os with
      | some as => match ownL e1 i with
        | some (c, ds) => match up ds as with
          | some (ds', r) => some (.fz r, e1.set i (some (c.put (.list ds'))))
          | none => none
        | none => none
      | none => none
    | none => none
  | none => none
def dSetIx (i : Nat) (fv fi : FO) : FS := fun env => match ownL env i with
  | some _ => match dOs [fv, fi] env with
    | some (os, e1) => match valDatas os with
      | some [dv, .int j] => match ownL e1 i with
        | some (c, ds) => match ixN ds.length j with
          | some k => some (.nx, e1.set i (some (c.put (.list (ds.set k dv)))))
          | none => none
        | none => none
      | _ => none
    | none => none
  | none => none
def OkM (r : V → List V → Hp → VK → Prop) (up : List D → List D → Option (List D × D)) : Prop :=
  ∀ (K : PySem.W.Frag) (bad : Addr → Prop) (H : Hp) (a : Addr) (xs vs : List V) (ds as ds' : List D) (d : D) (Q : VK), H a = some (.lst xs) → bad a → FzL K bad H ds xs → FzL K bad H as vs → up ds as = some (ds', d) →
    (∀ ys v, FzL K bad H ds' ys → Fz K bad H d v → Q v (upd H a (.lst ys))) → r (.ref a) vs H Q
section
variable {K : PySem.W.Frag} {B B' : Addr → Prop} {H H' H1 H2 : Hp} {σ σ' σ1 σ2 : L2.St} {env env' e1 e2 : Ev} {c : C} {v x : V} {X : Cx} {d : D} {fl : Fl} {D : Ends} {i : Nat} {a : Addr}
theorem ownL_own {ds : List PyData} (h : ownL env i = some (c, ds)) : env[i]? = some (some c) ∧ c.isOwn = true ∧ c.data = some (.list ds) := by
  unfold ownL at h
  split at h
  · rename_i e
    cases h
    exact ⟨e, rfl, rfl⟩
  · rename_i e
    cases h
    exact ⟨e, rfl, rfl⟩
  · cases h
theorem Sta.ownL {ds : List PyData} (S : Sta K B H σ env) (h : ownL env i = some (c, ds)) : ∃ a xs, σ[i]? = some (some (.ref a)) ∧ Owns σ env i a ∧ H a = some (.lst xs) ∧ FzL K (Bad B σ env) H ds xs := by
  obtain ⟨h1, h2, h3⟩ := ownL_own h
  obtain ⟨v, ev, r⟩ := S.rep i c h1
  cases c with
  | ow d =>
    cases h3
    obtain ⟨a, rfl, xs, h4, h5⟩ := r
    exact ⟨a, xs, ev, ⟨_, h1, rfl, ev⟩, h4, h5⟩
  | pw d =>
    cases h3
    obtain ⟨a, rfl, xs, h4, h5⟩ := r
    exact ⟨a, xs, ev, ⟨_, h1, rfl, ev⟩, h4, h5⟩
  | fz d => cases h2
  | sc d => cases h2
theorem dMut_imp {up : List PyData → List PyData → Option (List PyData × PyData)} {fs : List FO} {r : V → List V → Hp → VK → Prop} (hr : OkM r up) {Q : VK} (h : tI K (dMut i up fs) σ H Q) :
    ∃ a xs, σ[i]? = some (some (.ref a)) ∧ H a = some (.lst xs) ∧ tOs K fs σ H fun vs H1 => r (.ref a) vs H1 Q := by
  obtain ⟨B, env, c, env', S, hf, q⟩ := h
  unfold dMut at hf
  split at hf
  · rename_i cd0 h0
    split at hf
    · rename_i os e1 hos
      split at hf
      · rename_i as has
        split at hf
        · rename_i c1 ds h1
          split at hf
          · rename_i ds' r0 hup
            cases hf
            obtain ⟨c0, ds0⟩ := cd0
            obtain ⟨a, xs, ha, _, hx, _⟩ := S.ownL h0
            refine ⟨a, xs, ha, hx, B, env, os, e1, S, hos, fun vs H1 p => ?_⟩
            obtain ⟨a1, xs1, ha1, own1, hx1, hf1⟩ := p.staB.ownL h1
            rw [ha] at ha1
            cases ha1
            refine hr K (Bad B σ e1) H1 a xs1 vs ds as ds' r0 Q hx1 (.inr ⟨i, own1⟩) hf1 (p.frozen has) hup fun ys v hy hv => ?_
            obtain ⟨k1, k2, k3⟩ := ownL_own h1
            exact q _ _ (p.eff.seq (p.staB.mutate k1 k2 ha hy hv))
          · cases hf
        · cases hf
      · cases hf
    · cases hf
  · cases hf
theorem pd_mut {x : Str} {p apos cpos : Pos} {e : Expr} {es : List Expr} {name : Str} {id : String} {up : List PyData → List PyData → Option (List PyData × PyData)} {fs : List FO} {r : V → List V → Hp → VK → Prop} (pa : PlainAttrs "list") (slot : Slot "list" name id) (hty : typeOf (.builtin id) = pure (.type "method_descriptor")) (hm : MtR X id r) (hr : OkM r up)
    (ho : PE X (.Name x p) (tVar i)) (ha : PDs X (e :: es) fs)
    (hbase : attributeBase (.Name x p) name X.env (eval (.Name x p) X.env) = eval (.Name x p) X.env := by rfl)
    (hfew : ((backTo cpos (starEach (e :: es) X.env)).all (fun x => !x.1) && (backToKw cpos (keywordEach [] X.env)).all (fun x => x.1.isSome)
      && decide ((e :: es).length + ([] : List Keyword).length + (if ([] : List Keyword).isEmpty then 0 else 1) < 30)) = true := by rfl)
    (hline : (apos.endLine == cpos.line) = true := by rfl) (hs : starEach (e :: es) X.env = (false, eval e X.env) :: starEach es X.env := by rfl) (hplain : (backTo cpos (starEach es X.env)).any (·.1) = false := by rfl) :
    PD X (.Call (.Attribute (.Name x p) name apos) (e :: es) [] cpos) (dMut i up fs) := PEimp (pe_bm pa slot hty hm ho ha hbase hfew hline hs hplain) fun σ H Q h => by
  obtain ⟨a, xs, h1, h2, h3⟩ := dMut_imp hr h
  exact ⟨.ref a, h1, .inl ⟨rfl, xs, SqL.of h2⟩, h3⟩
theorem pd_mut0 {x : Str} {p apos cpos : Pos} {name : Str} {id : String} {up : List PyData → List PyData → Option (List PyData × PyData)} {r : V → List V → Hp → VK → Prop} (pa : PlainAttrs "list") (slot : Slot "list" name id) (hty : typeOf (.builtin id) = pure (.type "method_descriptor")) (hm : MtR X id r) (hr : OkM r up)
    (ho : PE X (.Name x p) (tVar i))
    (hbase : attributeBase (.Name x p) name X.env (eval (.Name x p) X.env) = eval (.Name x p) X.env := by rfl) (hline : (apos.endLine == cpos.line) = true := by rfl) :
    PD X (.Call (.Attribute (.Name x p) name apos) [] [] cpos) (dMut i up []) := PEimp (pe_bm0 pa slot hty hm ho hbase hline) fun σ H Q h => by
  obtain ⟨a, xs, h1, h2, B, env, os, e1, S, hos, q⟩ := dMut_imp hr h
  cases hos
  exact ⟨.ref a, h1, .inl ⟨rfl, xs, SqL.of h2⟩, q [] H (PostOs.nil S)⟩
theorem pds_setIx {x : Str} {p pos tpos : Pos} {ei ev : Expr} {fv fi : FO} (ho : PE X (.Name x p) (tVar i)) (hi : PDO X ei fi) (hv : PDO X ev fv) (ha : ∀ v, assign (.Subscript (.Name x p) ei tpos) X.env v = (do
      let ov ← holding [v] (eval (.Name x p) X.env)
      let iv ← holding [v, ov] (eval ei X.env)
      standAt tpos
      holding [v, ov, iv] (setItem ov iv v)
      release [v, ov, iv] []) := by intro _; rfl)
    (hs : swapsWithSole [.Subscript (.Name x p) ei tpos] ev pos.line X.env = pure false := by rfl) (hw : swappedStores [.Subscript (.Name x p) ei tpos] ev X.env = pure none := by rfl)
    (h1 : (assignEach [.Subscript (.Name x p) ei tpos] X.env).map (·.2) = [assign (.Subscript (.Name x p) ei tpos) X.env] := by rfl) :
    PDS X (.Assign [.Subscript (.Name x p) ei tpos] ev pos) (dSetIx i fv fi) := PSimp (ps_asg hv (pg_sub ho hi set_list ha) hs hw h1) fun D σ H ⟨B, env, fl, env', S, hf, q⟩ => by
  unfold dSetIx at hf
  split at hf
  · rename_i cd0 h0
    split at hf
    · rename_i os e1 hos
      split at hf
      · rename_i dv j has
        split at hf
        · rename_i c1 ds h1'
          split at hf
          · rename_i k hk
            cases hf
            obtain ⟨c0, ds0⟩ := cd0
            obtain ⟨a, xs, ha, _, hx, _⟩ := S.ownL h0
            have go : tOs X.K [fv, fi] σ H fun vs H1 => ∀ y z, vs = [y, z] → rSetL (.ref a) z y H1 fun H4 => D.nx σ H4 := by
              refine ⟨B, env, os, e1, S, hos, fun vs H1 p y z e => ?_⟩
              subst e
              obtain ⟨a1, xs1, ha1, own1, hx1, hf1⟩ := p.staB.ownL h1'
              rw [ha] at ha1
              cases ha1
              have fz := p.frozen has
              obtain ⟨v1, r1, e1', f1, f2⟩ := fz
              cases e1'
              obtain ⟨v2, r2, e2', f2', f3⟩ := f2
              have e3 : v2 = .int j := f2'
              cases e2'
              obtain ⟨k1, k2, k3⟩ := ownL_own h1'
              refine ⟨a, xs1, j, k, rfl, e3, hx1, by rw [hf1.length]; exact hk, ?_⟩
              exact q σ _ (PostS.of (p.eff.seq (p.staB.mutate (r := .none) (v := .non) k1 k2 ha (FzL.set f1 k hf1) rfl)))
            have two := tOs_two go
            obtain ⟨B', env2, o2, e2, S2, h2, q2⟩ := two
            refine ⟨B', env2, o2, e2, S2, h2, fun x1 H1 p1 => ⟨.ref a, ha, ?_⟩⟩
            exact q2 x1 H1 p1
          · cases hf
        · cases hf
      · cases hf
    · cases hf
  · cases hf
end
end DL
set_option Elab.async false
set_option linter.all false
set_option maxRecDepth 100000
set_option maxHeartbeats 4000000
namespace DL
open PySem PySem.Spec PyProof.Rows L2

/-! ### targets -/
/-- slots that a target may write -/
def SameBut (vs : List Nat) (σ σ' : L2.St) : Prop := σ'.length = σ.length ∧ ∀ j, j ∉ vs → σ'[j]? = σ[j]?
def tG (K : PySem.W.Frag) (vs : List Nat) (g : D → Ev → Option Ev) : TG := fun v σ H Q => ∃ B env d env', Sta K B H σ env ∧ Fz K (Bad B σ env) H d v ∧ g d env = some env' ∧ ∀ σ' H', PostS K B H σ env env' σ' H' → SameBut vs σ σ' → (∀ j, j ∉ vs → env'[j]? = env[j]?) → H' = H → Q σ' H'
def PDG (X : Cx) (tg : Expr) (vs : List Nat) (g : D → Ev → Option Ev) : Prop := PG X tg (tG X.K vs g)
def gSet (i : Nat) : D → Ev → Option Ev := fun d env => if settable env i then some (env.set i (some (.fz d))) else none
def tGs (K : PySem.W.Frag) (vs : List Nat) (g : List D → Ev → Option Ev) : TGs := fun v σ H Q => ∃ B env ds env', Sta K B H σ env ∧ FzL K (Bad B σ env) H ds v ∧ g ds env = some env' ∧ ∀ σ' H', PostS K B H σ env env' σ' H' → SameBut vs σ σ' → (∀ j, j ∉ vs → env'[j]? = env[j]?) → H' = H → Q σ' H'
def PDGs (X : Cx) (ts : List Expr) (vs : List Nat) (g : List D → Ev → Option Ev) : Prop := PGs X ts (tGs X.K vs g)
def gEnd : List D → Ev → Option Ev := fun ds env => match ds with
  | [] => some env
  | _ => none
def gMore (g : D → Ev → Option Ev) (gs : List D → Ev → Option Ev) : List D → Ev → Option Ev := fun ds env => match ds with
  | [] => none
  | d :: r => match g d env with
    | some e1 => gs r e1
    | none => none
def gTuple (n : Nat) (gs : List D → Ev → Option Ev) : D → Ev → Option Ev := fun d env => match d with
  | .tuple ds => if ds.length = n then gs ds env else none
  | _ => none
section
variable {K : PySem.W.Frag} {B B' : Addr → Prop} {H H' H1 H2 : Hp} {σ σ' σ1 σ2 : L2.St} {env env' e1 e2 : Ev} {c : C} {v x : V} {X : Cx} {d : D} {fl : Fl} {D : Ends} {i : Nat} {a : Addr} {vs ws : List Nat}
theorem PostS.frB (p : PostS K B H σ env env' σ' H') : Fr (Bad B σ env) H H' := p.fr.mono fun _ z => .inr z
theorem PostS.bad (p : PostS K B H σ env env' σ' H') : ∀ a, Bad B σ' env' a → H a ≠ none → Bad B σ env a := fun a z n => by
  rcases z with z | z
  · exact .inl z
  · exact .inr ((p.sh a z).resolve_left n)
theorem PGimp {tg : Expr} {t t' : TG} (h : PG X tg t) (i : ∀ v σ H Q, t' v σ H Q → t v σ H Q) : PG X tg t' := ⟨fun pins s σ H v u Q I r q => h.run pins s σ H v u Q I r (i v σ H Q q)⟩
theorem PGsimp {tg : List Expr} {t t' : TGs} (h : PGs X tg t) (i : ∀ v σ H Q, t' v σ H Q → t v σ H Q) : PGs X tg t' := ⟨fun pins s σ H v u Q I r q => h.run pins s σ H v u Q I r (i v σ H Q q)⟩
theorem SameBut.refl : SameBut vs σ σ := ⟨rfl, fun _ _ => rfl⟩
theorem SameBut.trans (a : SameBut vs σ σ1) (b : SameBut ws σ1 σ2) : SameBut (vs ++ ws) σ σ2 := ⟨b.1.trans a.1, fun j h => (b.2 j fun z => h (List.mem_append_right _ z)).trans (a.2 j fun z => h (List.mem_append_left _ z))⟩
theorem pg_set {x : Str} {pos : Pos} (hN : X.N.Nodup) (hi : X.N[i]? = some x) (hx : Loc X.env.scope x) (hf : X.fn x = true ∨ X.env.scope.names.lookup x = some .local := by first | exact .inl rfl | exact .inr rfl | assumption) : PDG X (.Name x pos) [i] (gSet i) :=
  PGimp (pg_name hN hi hx hf) fun v σ H Q ⟨B, env, d, env', S, hv, hg, q⟩ => by
    unfold gSet at hg
    split at hg
    · rename_i hs
      cases hg
      refine q _ H ((PostE.new S Ext.refl (c := .fz d) hv).store hs) ⟨List.length_set .., fun j hj => ?_⟩ (fun j hj => ?_) rfl
      · exact List.getElem?_set_ne fun e => hj (by rw [e]; exact List.mem_singleton.mpr rfl)
      · exact List.getElem?_set_ne fun e => hj (by rw [e]; exact List.mem_singleton.mpr rfl)
    · cases hg
theorem pdgs_nil : PDGs X [] [] gEnd := PGsimp pgs_nil fun v σ H Q ⟨B, env, ds, env', S, hv, hg, q⟩ => by
  unfold gEnd at hg
  split at hg
  · cases hg
    exact ⟨hv, q σ H (PostS.refl S) SameBut.refl (fun _ _ => rfl) rfl⟩
  · cases hg
theorem pdgs_cons {e : Expr} {es : List Expr} {g : PyData → Ev → Option Ev} {gs : List PyData → Ev → Option Ev} (h1 : PDG X e vs g) (h2 : PDGs X es ws gs)
    (hs : (assignEach (e :: es) X.env).map (·.2) = assign e X.env :: (assignEach es X.env).map (·.2) := by rfl) : PDGs X (e :: es) (vs ++ ws) (gMore g gs) := PGsimp (pgs_cons h1 h2 hs) fun v σ H Q ⟨B, env, ds, env', S, hv, hg, q⟩ => by
  unfold gMore at hg
  split at hg
  · cases hg
  · rename_i d r
    split at hg
    · rename_i e1 he
      obtain ⟨x, y, rfl, f1, f2⟩ := hv
      refine ⟨x, y, rfl, B, env, d, e1, S, f1, he, fun σ1 H1 p sb se hh => ?_⟩
      subst hh
      exact ⟨B, e1, r, env', p.st, f2.mono p.frB p.bad, hg, fun σ2 H2 p2 sb2 se2 hh2 => q σ2 H2 (p.trans p2) (sb.trans sb2) (fun j hj => (se2 j fun z => hj (List.mem_append_right _ z)).trans (se j fun z => hj (List.mem_append_left _ z))) hh2⟩
    · cases hg
theorem pg_tuple {es : List Expr} {k : Nat} {pos : Pos} {n : Nat} {gs : List PyData → Ev → Option Ev} (hc : X.calm = true) (h : PDGs X es vs gs)
    (hn : (assignEach es X.env).length = n := by rfl) (hst : (assignEach es X.env).findIdx? (·.1) = none := by rfl) : PDG X (.Tuple es k pos) vs (gTuple n gs) := PGimp (pg_tup hc h hn hst) fun v σ H Q ⟨B, env, d, env', S, hv, hg, q⟩ => by
  unfold gTuple at hg
  split at hg
  · rename_i ds
    split at hg
    · rename_i hl
      obtain ⟨a, xs, rfl, h1, h2⟩ := hv
      exact ⟨a, xs, rfl, h1, by rw [h2.length]; exact hl, B, env, ds, env', S, h2, hg, q⟩
    · cases hg
  · cases hg
/-- a, b = a tuple made or handed; the value first -/
def dAsg (g : PyData → Ev → Option Ev) (f : FE) : FS := fun env => match f env with
  | some (.fz d, e1) => match g d e1 with
    | some e2 => some (.nx, e2)
    | none => none
  | _ => none
theorem pds_asg {tg e : Expr} {f : FE} {g : PyData → Ev → Option Ev} {pos : Pos} (he : PD X e f) (hg : PDG X tg vs g) (hs : swapsWithSole [tg] e pos.line X.env = pure false := by rfl) (hw : swappedStores [tg] e X.env = pure none := by rfl)
    (h1 : (assignEach [tg] X.env).map (·.2) = [assign tg X.env] := by rfl) : PDS X (.Assign [tg] e pos) (dAsg g f) := PSimp (ps_asg he hg hs hw h1) fun D σ H ⟨B, env, fl, env', S, hf, q⟩ => by
  unfold dAsg at hf
  split at hf
  · rename_i d e1 he
    split at hf
    · rename_i e2 hg
      cases hf
      exact ⟨B, env, _, e1, S, he, fun v H1 p => ⟨B, e1, d, _, p.sta, Fz.as p.cr fun a z => z.elim (fun z => .inl (.inl z)) .inr, hg, fun σ' H' p2 _ _ _ => q σ' H' ((PostS.of p).trans p2)⟩⟩
    · cases hf
  · cases hf
end

/-! ### what is walked -/
/-- J gives ds one by one while P holds of what nobody may write and the heap -/
structure Src (K : PySem.W.Frag) (J : It) (ds : List D) (P : (Addr → Prop) → Hp → Prop) : Prop where
  mono : ∀ (B B' : Addr → Prop) (H H' : Hp), P B H → Fr B H H' → (∀ a, B' a → H a ≠ none → B a) → P B' H'
  walk : ∃ (G : Hp → Prop) (Y : Nat → Hp → V → Hp → Prop), Walk J ds.length G Y ∧ (∀ B H, P B H → G H) ∧ ∀ B H i x H', P B H → i < ds.length → Y i H x H' → ∃ d, ds[i]? = some d ∧ Ext H H' ∧ Fz K B H' d x
structure PostI (K : PySem.W.Frag) (B : Addr → Prop) (H : Hp) (σ : L2.St) (env : Ev) (ds : List D) (env' : Ev) (J : It) (H' : Hp) : Prop where
  ef : PostE K B H σ env (.fz .none) env' .non H'
  src : ∃ P, Src K J ds P ∧ P (Bad B σ env') H'
abbrev FI := Ev → Option (List D × Ev)
def tW (K : PySem.W.Frag) (f : FI) : TI := fun σ H R => ∃ B env ds env', Sta K B H σ env ∧ f env = some (ds, env') ∧ ∀ J H', PostI K B H σ env ds env' J H' → R J H'
def PDI (X : Cx) (tg it : Expr) (f : FI) : Prop := PI X tg it (tW X.K f)
/-- the items of a value -/
def itemsOf : D → Option (List D)
  | .list ds => some ds
  | _ => none
def iLst (f : FE) : FI := fun env => match f env with
  | some (.fz (.list ds), e) => some (ds, e)
  | some (.ow (.list ds), e) => some (ds, e)
  | _ => none
def iTpl (f : FE) : FI := fun env => match f env with
  | some (.fz (.tuple ds), e) => some (ds, e)
  | _ => none
def iStrD (f : FE) : FI := fun env => match f env with
  | some (.fz (.str z), e) => some (z.cps.toList.map (fun c => .str ⟨#[c]⟩), e)
  | _ => none
def intsD (lo : Int) (n : Nat) : List D := (List.range n).map fun k => .int (lo + (k : Nat))
noncomputable def iRg1 (fs : List FO) : FI := fun env => match dOs fs env with
  | some ([o], e) => match see e o with
    | some (.fz (.int j)) => if fits (-4611686018427387904 ≤ j ∧ j < 4611686018427387904) then some (intsD 0 j.toNat, e) else none
    | _ => none
  | _ => none
noncomputable def iRg2 (fs : List FO) : FI := fun env => match dOs fs env with
  | some ([o, o2], e) => match see e o, see e o2 with
    | some (.fz (.int i)), some (.fz (.int j)) => if fits (-4611686018427387904 ≤ i ∧ i < 4611686018427387904 ∧ -4611686018427387904 ≤ j ∧ j < 4611686018427387904) then some (intsD i (j - i).toNat, e) else none
    | _, _ => none
  | _ => none
section
variable {K : PySem.W.Frag} {B B' : Addr → Prop} {H H' H1 H2 : Hp} {σ σ' σ1 σ2 : L2.St} {env env' e1 e2 : Ev} {c : C} {v x : V} {X : Cx} {d : D} {fl : Fl} {D : Ends} {i : Nat} {a : Addr} {vs ws : List Nat}
theorem src_list {ds : List PyData} {xs : List V} : Src K (Itl K a) ds (fun B H => H a = some (.lst xs) ∧ ¬ B a ∧ FzL K B H ds xs) where
  mono := fun B B' H H' ⟨h1, h2, h3⟩ f hb => ⟨f.some h1 h2, fun z => h2 (hb a z (by rw [h1]; exact fun z => by cases z)), h3.mono f hb⟩
  walk := ⟨fun H => SqL K H a xs ∧ xs.length = ds.length, YAt xs, by
    refine ⟨fun i H hi h => (walk_list (K := K) (a := a) (xs := xs)).goes i H (by omega) h.1, fun H h => ?_, fun i H x H' hi h y => (walk_list (K := K) (a := a) (xs := xs)).yields i H x H' (by omega) h.1 y⟩
    have := (walk_list (K := K) (a := a) (xs := xs)).stops H h.1
    rw [h.2] at this
    exact this, fun B H h => ⟨SqL.of h.1, h.2.2.length⟩, fun B H i x H' h hi y => by
    obtain ⟨rfl, y⟩ := y
    obtain ⟨d, hd⟩ : ∃ d, ds[i]? = some d := ⟨ds[i], by simp [hi]⟩
    obtain ⟨v, hv, f⟩ := h.2.2.get hd
    rw [y] at hv
    cases hv
    exact ⟨d, hd, Ext.refl, f⟩⟩
theorem src_tup {ds : List PyData} {xs : List V} : Src K (Itt K a) ds (fun B H => SqT K H a xs ∧ FzL K B H ds xs) where
  mono := fun B B' H H' ⟨h1, h3⟩ f hb => ⟨SqT.fr f h1, h3.mono f hb⟩
  walk := ⟨fun H => SqT K H a xs ∧ xs.length = ds.length, YAt xs, by
    refine ⟨fun i H hi h => (walk_tup (K := K) (a := a) (xs := xs)).goes i H (by omega) h.1, fun H h => ?_, fun i H x H' hi h y => (walk_tup (K := K) (a := a) (xs := xs)).yields i H x H' (by omega) h.1 y⟩
    have := (walk_tup (K := K) (a := a) (xs := xs)).stops H h.1
    rw [h.2] at this
    exact this, fun B H h => ⟨h.1, h.2.length⟩, fun B H i x H' h hi y => by
    obtain ⟨rfl, y⟩ := y
    obtain ⟨d, hd⟩ : ∃ d, ds[i]? = some d := ⟨ds[i], by simp [hi]⟩
    obtain ⟨v, hv, f⟩ := h.2.get hd
    rw [y] at hv
    cases hv
    exact ⟨d, hd, Ext.refl, f⟩⟩
theorem ints_length (lo : Int) (n : Nat) : (intsD lo n).length = n := by simp [intsD]
theorem ints_get {lo : Int} {n i : Nat} (h : i < n) : (intsD lo n)[i]? = some (.int (lo + (i : Nat))) := by simp [intsD, h]
theorem src_range {lo : Int} {n : Nat} : Src K (Itr lo n) (intsD lo n) (fun _ _ => True) where
  mono := fun _ _ _ _ _ _ _ => trivial
  walk := ⟨fun _ => True, YFn fun i => .int (lo + (i : Nat)), by rw [ints_length]; exact walk_range, fun _ _ _ => trivial, fun B H i x H' _ hi y => by
    rw [ints_length] at hi
    obtain ⟨rfl, rfl⟩ := y
    exact ⟨_, ints_get hi, Ext.refl, rfl⟩⟩
theorem okS_iff {z : Str} : okS z = true ↔ (∀ c ∈ z.cps.toList, c < 0x110000) ∧ z.cps.toList.length ≤ 16777216 := by
  unfold okS PyData.strOk
  rw [Bool.and_eq_true, decide_eq_true_eq]
  constructor
  · rintro ⟨h1, h2⟩
    refine ⟨fun c hc => ?_, h2⟩
    rw [Array.all_eq_true] at h1
    obtain ⟨i, hi, e⟩ := List.getElem_of_mem hc
    have := h1 i (by simpa using hi)
    simp only [Array.getElem_toList] at e
    rw [e] at this
    simpa using this
  · rintro ⟨h1, h2⟩
    refine ⟨?_, h2⟩
    rw [Array.all_eq_true]
    intro i hi
    have := h1 z.cps[i] (by simp)
    simpa using this
theorem strOk_at {z : Str} {i c : Nat} (h : okS z = true) (hc : z.cps[i]? = some c) : okS ⟨#[c]⟩ = true := by
  rw [okS_iff] at h ⊢
  obtain ⟨hi, e⟩ := Array.getElem?_eq_some_iff.mp hc
  have := h.1 c (by rw [← e]; simp)
  exact ⟨fun d hd => by simp at hd; omega, by simp⟩
theorem src_str {z : Str} : Src K (Its z) (z.cps.toList.map fun c => .str ⟨#[c]⟩) (fun _ _ => okS z = true) where
  mono := fun _ _ _ _ h _ _ => h
  walk := ⟨fun _ => True, _, by rw [List.length_map, Array.length_toList]; exact walk_str, fun _ _ _ => trivial, fun B H i x H' hz hi y => by
    obtain ⟨rfl, c, hc, rfl⟩ := y
    exact ⟨.str ⟨#[c]⟩, by rw [List.getElem?_map, Array.getElem?_toList, hc]; rfl, Ext.refl, rfl, strOk_at hz hc⟩⟩
theorem PostE.drop (p : PostE K B H σ env c e1 v H1) : PostE K B H σ env (.fz .none) e1 .non H1 := by
  have S : Sta K B H1 σ e1 := p.st.less fun a z => .inl z
  have q := PostE.new S Ext.refl (c := .fz .none) (v := .non) rfl
  exact ⟨p.fr, p.sh, q.st, q.cr, q.nb, fun a z => (by cases z.1), p.bd, p.pk, rfl⟩
theorem PostE.lst {ds : List PyData} (p : PostE K B H σ env c e1 v H1) (h : c.data = some (.list ds)) : ∃ a xs, v = .ref a ∧ H1 a = some (.lst xs) ∧ ¬ Bad B σ e1 a ∧ FzL K (Bad B σ e1) H1 ds xs := by
  cases c with
  | fz d =>
    cases h
    obtain ⟨a, xs, e, h1, h2, h3⟩ := p.cr
    have ee : ∀ a, Bad B σ e1 a → Bad (Bx B (.fz (.list ds)) v) σ e1 a := fun a z => z.elim (fun z => .inl (.inl z)) .inr
    exact ⟨a, xs, e, h1, fun z => h2 (ee a z), h3.mono Fr.refl fun a z _ => ee a z⟩
  | ow d =>
    cases h
    obtain ⟨a, rfl, xs, h1, h3⟩ := p.cr
    refine ⟨a, xs, rfl, h1, fun z => z.elim (p.nb a ⟨rfl, rfl⟩) fun ⟨i, z⟩ => p.st.out i a z (.inr ⟨rfl, rfl⟩), h3.mono Fr.refl fun a z _ => z.elim (fun z => .inl (.inl z)) .inr⟩
  | pw d => cases p.rs
  | sc d => cases p.rs
theorem pi_lst {tg e : Expr} {f : FE} (h : PD X e f) : PDI X tg e (iLst f) := PIimp (pi_list h) fun σ H R ⟨B, env, ds, env', S, hf, q⟩ => by
  unfold iLst at hf
  split at hf
  · rename_i ds e1 he
    cases hf
    refine ⟨B, env, _, _, S, he, fun v H1 p => ?_⟩
    obtain ⟨a, xs, e2, h1, h2, h3⟩ := p.lst rfl
    exact ⟨a, e2, ⟨xs, SqL.of h1⟩, q _ _ ⟨p.drop, _, src_list, h1, h2, h3⟩⟩
  · rename_i ds e1 he
    cases hf
    refine ⟨B, env, _, _, S, he, fun v H1 p => ?_⟩
    obtain ⟨a, xs, e2, h1, h2, h3⟩ := p.lst rfl
    exact ⟨a, e2, ⟨xs, SqL.of h1⟩, q _ _ ⟨p.drop, _, src_list, h1, h2, h3⟩⟩
  · cases hf
theorem pi_tpl {tg e : Expr} {f : FE} (h : PD X e f) : PDI X tg e (iTpl f) := PIimp (pi_tup h) fun σ H R ⟨B, env, ds, env', S, hf, q⟩ => by
  unfold iTpl at hf
  split at hf
  · rename_i ds e1 he
    cases hf
    refine ⟨B, env, _, _, S, he, fun v H1 p => ?_⟩
    obtain ⟨a, xs, e2, h1, h3⟩ := p.cr
    exact ⟨a, e2, ⟨xs, h1⟩, q _ _ ⟨p.drop, _, src_tup, h1, h3.mono Fr.refl fun a z _ => z.elim (fun z => .inl (.inl z)) .inr⟩⟩
  · cases hf
theorem pi_rg1 {tg e : Expr} {p pos : Pos} {f : FO} (hg : Gl X "range") (hm : X.mg "range" = none) (h : PDs X [e] [f]) (hs : starEach [e] X.env = [(false, eval e X.env)] := by rfl) : PDI X tg (.Call (.Name "range" p) [e] [] pos) (iRg1 [f]) := PIimp (pi_range1 hg hm h hs) fun σ H R ⟨B, env, ds, env', S, hf, q⟩ => by
  unfold iRg1 at hf
  split at hf
  · rename_i o e1 he
    split at hf
    · rename_i j hj
      split at hf
      · rename_i hl0
        have hl := of_fits hl0
        cases hf
        refine ⟨B, env, _, _, S, he, fun vs H1 p => ?_⟩
        obtain ⟨v, r, rfl, r1, r2⟩ := p.ro
        cases (show r = [] from r2)
        have e3 : v = .int j := p.st.see (fun _ z => z) r1 hj
        subst e3
        exact ⟨j, rfl, by omega, by omega, q _ _ ⟨p.eff, _, src_range, trivial⟩⟩
      · cases hf
    · cases hf
  · cases hf
theorem pi_rg2 {tg a b : Expr} {p pos : Pos} {f g : FO} (hg : Gl X "range") (hm : X.mg "range" = none) (h : PDs X [a, b] [f, g]) (hs : starEach [a, b] X.env = [(false, eval a X.env), (false, eval b X.env)] := by rfl) (hs2 : starEach [b] X.env = [(false, eval b X.env)] := by rfl) : PDI X tg (.Call (.Name "range" p) [a, b] [] pos) (iRg2 [f, g]) := PIimp (pi_range2 hg hm h hs hs2) fun σ H R ⟨B, env, ds, env', S, hf, q⟩ => by
  unfold iRg2 at hf
  split at hf
  · rename_i o o2 e1 he
    split at hf
    · rename_i i j hi hj
      split at hf
      · rename_i hl0
        have hl := of_fits hl0
        cases hf
        refine ⟨B, env, _, _, S, he, fun vs H1 p => ?_⟩
        obtain ⟨v, r, rfl, r1, v2, r', rfl, r2, r3⟩ := p.ro
        cases (show r' = [] from r3)
        have e3 : v = .int i := p.st.see (fun _ z => z) r1 hi
        have e4 : v2 = .int j := p.st.see (fun _ z => z) r2 hj
        subst e3
        subst e4
        exact ⟨i, j, rfl, by omega, q _ _ ⟨p.eff, _, src_range, trivial⟩⟩
      · cases hf
    · cases hf
  · cases hf
theorem pi_strD {tg e : Expr} {f : FE} (h : PD X e f) : PDI X tg e (iStrD f) := PIimp (pi_str h) fun σ H R ⟨B, env, ds, env', S, hf, q⟩ => by
  unfold iStrD at hf
  split at hf
  · rename_i z e1 he
    cases hf
    refine ⟨B, env, _, _, S, he, fun v H1 p => ?_⟩
    obtain ⟨e3, hz⟩ := p.cr
    exact ⟨z, e3, q _ _ ⟨p.drop, _, src_str, hz⟩⟩
  · cases hf
end
end DL
set_option Elab.async false
set_option linter.all false
set_option maxRecDepth 100000
set_option maxHeartbeats 4000000
namespace DL
open PySem PySem.Spec PyProof.Rows L2

/-! ### for, while -/
def dForL (g : D → Ev → Option Ev) (body : FS) : List D → FS
  | [], env => some (.nx, env)
  | d :: ds, env => match g d env with
    | some e1 => match body e1 with
      | some (.nx, e2) => dForL g body ds e2
      | some (.ct, e2) => dForL g body ds e2
      | some (.bk, e2) => some (.nx, e2)
      | some (.rt c, e2) => some (.rt c, e2)
      | none => none
    | none => none
def dFor (fi : FI) (g : D → Ev → Option Ev) (body : FS) : FS := fun env => match fi env with
  | some (ds, e1) => dForL g body ds e1
  | none => none
def dWhileN (t : FT) (body : FS) : Nat → FS
  | 0, _ => none
  | n + 1, env => match t env with
    | some (true, e1) => match body e1 with
      | some (.nx, e2) => dWhileN t body n e2
      | some (.ct, e2) => dWhileN t body n e2
      | some (.bk, e2) => some (.nx, e2)
      | some (.rt c, e2) => some (.rt c, e2)
      | none => none
    | some (false, e1) => some (.nx, e1)
    | none => none
theorem dWhileN_up {t : FT} {body : FS} : ∀ {n : Nat} {env : Ev} {r : Fl × Ev}, dWhileN t body n env = some r → ∀ m, n ≤ m → dWhileN t body m env = some r
  | 0, env, r, h, _, _ => by cases h
  | n + 1, env, r, h, 0, hm => by omega
  | n + 1, env, r, h, m + 1, hm => by
    unfold dWhileN at h ⊢
    split at h
    · rename_i e1 he
      split at h
      · rename_i e2 h2
        exact dWhileN_up h m (by omega)
      · rename_i e2 h2
        exact dWhileN_up h m (by omega)
      · exact h
      · exact h
      · cases h
    · exact h
    · cases h
open Classical in
noncomputable def dWhile (t : FT) (body : FS) : FS := fun env => if h : ∃ n r, dWhileN t body n env = some r then some h.choose_spec.choose else none
theorem dWhile_of {t : FT} {body : FS} {n : Nat} {env : Ev} {r : Fl × Ev} (h : dWhileN t body n env = some r) : dWhile t body env = some r := by
  have hx : ∃ n r, dWhileN t body n env = some r := ⟨n, r, h⟩
  unfold dWhile
  rw [dif_pos hx]
  have e := hx.choose_spec.choose_spec
  have e1 := dWhileN_up e (hx.choose + n) (by omega)
  have e2 := dWhileN_up h (hx.choose + n) (by omega)
  rw [e1] at e2
  exact e2
theorem of_dWhile {t : FT} {body : FS} {env : Ev} {r : Fl × Ev} (h : dWhile t body env = some r) : ∃ n, dWhileN t body n env = some r := by
  unfold dWhile at h
  split at h
  · rename_i hx
    have e := hx.choose_spec.choose_spec
    cases h
    exact ⟨_, e⟩
  · cases h
section
variable {K : PySem.W.Frag} {B B' : Addr → Prop} {H H' H1 H2 : Hp} {σ σ' σ1 σ2 : L2.St} {env env' e1 e2 : Ev} {c : C} {v x : V} {X : Cx} {d : D} {fl : Fl} {D : Ends} {i : Nat} {a : Addr} {vs ws : List Nat}
theorem EndOk.brk {e2 : Ev} (h : EndOk K B H σ env .nx e2 D) {En : Ends} (hb : En.bk = D.nx) : EndOk K B H σ env .bk e2 En := fun σ' H' p => by
  rw [hb]
  exact h σ' H' p
theorem pds_for {tg iter : Expr} {body : List Stmt} {pos : Pos} {fi : FI} {g : PyData → Ev → Option Ev} {f : FS} (hp : PassesOwn (model X.prog X.w) X.A X.env X.xe) (hc : X.calm = true) (hi : PDI X tg iter fi) (hg : PDG X tg vs g) (hb : PDB X body f)
    (hs : ∀ x, foldedSetIterable iter X.env x = pure x := by intro _; rfl) : PDS X (.For tg iter body [] pos) (dFor fi g f) := PSimp (ps_for hp hc hi hg hb hs) fun D σ H ⟨B, env, fl, env', S, hf, q⟩ => by
  unfold dFor at hf
  split at hf
  · rename_i ds e1 he
    refine ⟨B, env, ds, e1, S, he, fun J H1 p => ?_⟩
    obtain ⟨P, sr, hP⟩ := p.src
    obtain ⟨G, Y, wk, hG, hY⟩ := sr.walk
    have p0 := PostS.of p.ef
    refine for_it wk (fun i σ2 H2 => ∃ e2, PostS X.K B H σ env e2 σ2 H2 ∧ dForL g f (ds.drop i) e2 = some (fl, env') ∧ P (Bad B σ2 e2) H2) ⟨e1, p0, hf, hP⟩ (fun i σ2 H2 _ ⟨e2, _, _, h⟩ => hG _ _ h) (fun i x σ2 H2 H3 hi ⟨e2, p2, h2, h3⟩ hy => ?_) fun σ2 H2 ⟨e2, p2, h2, h3⟩ => ?_
    · obtain ⟨d, hd, ex, fz⟩ := hY _ H2 i x H3 h3 hi hy
      have dr : ds.drop i = d :: ds.drop (i + 1) := by
        have := List.getElem?_eq_some_iff.mp hd
        obtain ⟨hl, e⟩ := this
        rw [List.drop_eq_getElem_cons hl, e]
      rw [dr] at h2
      unfold dForL at h2
      split at h2
      · rename_i e3 he3
        have S3 : Sta X.K B H3 σ2 e2 := p2.st.ext ex
        have p3 : PostS X.K B H σ env e2 σ2 H3 := p2.trans ⟨ex.fr, fun a z => .inr z, S3, fun i d z => ⟨⟨d, z⟩, rfl⟩⟩
        have h3' : P (Bad B σ2 e2) H3 := sr.mono _ _ _ _ h3 ex.fr fun a z _ => z
        refine ⟨B, e2, d, e3, S3, fz, he3, fun σ4 H4 p4 _ _ _ => ?_⟩
        have p4' := p3.trans p4
        have h4 : P (Bad B σ4 e3) H4 := sr.mono _ _ _ _ h3' p4.frB p4.bad
        have next : ∀ {e5 : Ev}, dForL g f (ds.drop (i + 1)) e5 = some (fl, env') → ∀ σ' H', PostS X.K B H4 σ4 e3 e5 σ' H' → ∃ e2, PostS X.K B H σ env e2 σ' H' ∧ dForL g f (ds.drop (i + 1)) e2 = some (fl, env') ∧ P (Bad B σ' e2) H' :=
          fun {e5} h5 σ' H' p5 => ⟨e5, p4'.trans p5, h5, sr.mono _ _ _ _ h4 p5.frB p5.bad⟩
        split at h2
        · rename_i e5 h5
          exact ⟨B, e3, .nx, e5, p4.st, h5, next h2⟩
        · rename_i e5 h5
          exact ⟨B, e3, .ct, e5, p4.st, h5, next h2⟩
        · rename_i e5 h5
          cases h2
          exact ⟨B, e3, .bk, _, p4.st, h5, fun σ' H' p5 => q σ' H' (p4'.trans p5)⟩
        · rename_i c e5 h5
          cases h2
          exact ⟨B, e3, .rt c, _, p4.st, h5, fun v σ' H' p5 => q v σ' H' (p4'.transR p5)⟩
        · cases h2
      · cases h2
    · rw [List.drop_length] at h2
      unfold dForL at h2
      cases h2
      exact q σ2 H2 p2
  · cases hf
theorem pds_while {c : Expr} {body : List Stmt} {pos : Pos} {t : FT} {f : FS} (hp : PassesOwn (model X.prog X.w) X.A X.env X.xe) (hc : PDT X c t) (hb : PDB X body f) : PDS X (.While c body [] pos) (dWhile t f) := PSimp (ps_while hp hc hb) fun D σ H ⟨B, env, fl, env', S, hf, q⟩ => by
  obtain ⟨n, hf⟩ := of_dWhile hf
  refine ⟨fun m σ2 H2 => ∃ e2, PostS X.K B H σ env e2 σ2 H2 ∧ dWhileN t f m e2 = some (fl, env'), ⟨n, env, PostS.refl S, hf⟩, fun m σ2 H2 ⟨e2, p2, h2⟩ => ?_⟩
  cases m with
  | zero => cases h2
  | succ m =>
    unfold dWhileN at h2
    split at h2
    · rename_i e3 h3
      refine ⟨B, e2, true, e3, p2.st, h3, fun H3 p3 => ?_⟩
      show ite _ _ _
      rw [if_pos rfl]
      have p3' := p2.trans (PostS.of p3)
      refine ⟨fun σ' H' => ∃ e4, PostS X.K B H σ env e4 σ' H' ∧ dWhileN t f m e4 = some (fl, env'), fun σ' H' h => ⟨m, Nat.lt_succ_self m, h⟩, ?_⟩
      split at h2
      · rename_i e5 h5
        exact ⟨B, e3, .nx, e5, p3'.st, h5, fun σ' H' p5 => ⟨e5, p3'.trans p5, h2⟩⟩
      · rename_i e5 h5
        exact ⟨B, e3, .ct, e5, p3'.st, h5, fun σ' H' p5 => ⟨e5, p3'.trans p5, h2⟩⟩
      · rename_i e5 h5
        cases h2
        exact ⟨B, e3, .bk, _, p3'.st, h5, fun σ' H' p5 => q σ' H' (p3'.trans p5)⟩
      · rename_i c e5 h5
        cases h2
        exact ⟨B, e3, .rt c, _, p3'.st, h5, fun v σ' H' p5 => q v σ' H' (p3'.transR p5)⟩
      · cases h2
    · rename_i e3 h3
      cases h2
      refine ⟨B, e2, false, _, p2.st, h3, fun H3 p3 => ?_⟩
      show ite _ _ _
      rw [if_neg Bool.false_ne_true]
      exact q _ _ (p2.trans (PostS.of p3))
    · cases h2
theorem pds_break {pos : Pos} : PDS X (.Break pos) (fun env => some (.bk, env)) := PSimp ps_break fun D σ H ⟨B, env, fl, env', S, hf, q⟩ => by
  cases hf
  exact q σ H (PostS.refl S)
end

/-! ### comprehensions -/
def wipeE (env : Ev) : List Nat → Ev
  | [] => env
  | i :: is => (wipeE env is).set i none
/-- the block's own names hold what they held ahead -/
def backE (old : Ev) (env : Ev) : List Nat → Ev
  | [] => env
  | i :: is => match old[i]? with
    | some o => (backE old env is).set i o
    | none => backE old env is
/-- no own list at these slots -/
def plainAt (env : Ev) : List Nat → Bool
  | [] => true
  | i :: is => (match env[i]? with
    | some (some (.fz _)) => true
    | some none => true
    | _ => false) && plainAt env is
def C.frozen : C → Option D
  | .fz d => some d
  | .ow d => some d
  | _ => none
def tYesD : FT := fun env => some (true, env)
noncomputable def dLcL (vs : List Nat) (g : D → Ev → Option Ev) (t : FT) (f : FE) : List D → List D → Ev → Option (List D × Ev)
  | [], acc, env => some (acc, env)
  | d :: ds, acc, env => match g d (wipeE env vs) with
    | some e1 => match t e1 with
      | some (true, e2) => match f e2 with
        | some (c, e3) => match c.frozen with
          | some y => if fits (acc.length < 16777216) then dLcL vs g t f ds (acc ++ [y]) (backE env e3 vs) else none
          | none => none
        | none => none
      | some (false, e2) => dLcL vs g t f ds acc (backE env e2 vs)
      | none => none
    | none => none
noncomputable def dLc (fi : FI) (vs : List Nat) (g : D → Ev → Option Ev) (t : FT) (f : FE) : FE := fun env => match fi env with
  | some (ds, e1) => if plainAt e1 vs then match dLcL vs g t f ds [] e1 with
    | some (acc, e2) => some (.ow (.list acc), e2)
    | none => none else none
  | none => none

section
variable {K : PySem.W.Frag} {B B' : Addr → Prop} {H H' H1 H2 : Hp} {σ σ' σ1 σ2 : L2.St} {env env' e1 e2 : Ev} {c : C} {v x : V} {X : Cx} {d : D} {fl : Fl} {i j : Nat} {a : Addr} {vs ws : List Nat}
theorem wipeE_length (env : Ev) : ∀ vs : List Nat, (wipeE env vs).length = env.length
  | [] => rfl
  | v :: vs => by unfold wipeE; rw [List.length_set, wipeE_length env vs]
theorem wipeE_some : ∀ {vs : List Nat}, (wipeE env vs)[i]? = some (some c) → env[i]? = some (some c) ∧ i ∉ vs
  | [], h => ⟨h, by simp⟩
  | v :: vs, h => by
    unfold wipeE at h
    rcases set_some h with ⟨_, q⟩ | ⟨n, q⟩
    · cases q
    · obtain ⟨h1, h2⟩ := wipeE_some q
      exact ⟨h1, by simp only [List.mem_cons, not_or]; exact ⟨n, h2⟩⟩
theorem wipeE_out : ∀ {vs : List Nat}, i ∉ vs → (wipeE env vs)[i]? = env[i]?
  | [], _ => rfl
  | v :: vs, h => by
    unfold wipeE
    simp only [List.mem_cons, not_or] at h
    rw [List.getElem?_set_ne (Ne.symm h.1), wipeE_out h.2]
theorem backE_length (old env : Ev) : ∀ vs : List Nat, (backE old env vs).length = env.length
  | [] => rfl
  | v :: vs => by
    unfold backE
    split
    · rw [List.length_set, backE_length old env vs]
    · exact backE_length old env vs
theorem backE_out {old : Ev} : ∀ {vs : List Nat}, i ∉ vs → (backE old env vs)[i]? = env[i]?
  | [], _ => rfl
  | v :: vs, h => by
    unfold backE
    simp only [List.mem_cons, not_or] at h
    split
    · rw [List.getElem?_set_ne (Ne.symm h.1), backE_out h.2]
    · exact backE_out h.2
theorem backE_in {old : Ev} (hl : old.length = env.length) : ∀ {vs : List Nat}, i ∈ vs → (backE old env vs)[i]? = old[i]?
  | v :: vs, h => by
    unfold backE
    by_cases e : v = i
    · subst e
      split
      · rename_i o ho
        rw [List.getElem?_set_self, ho]
        rw [backE_length, ← hl]
        exact (List.getElem?_eq_some_iff.mp ho).1
      · rename_i ho
        rw [ho]
        rw [List.getElem?_eq_none_iff] at ho ⊢
        rw [backE_length]
        omega
    · have hm : i ∈ vs := by
        rcases List.mem_cons.mp h with z | z
        · exact absurd z.symm e
        · exact z
      split
      · rw [List.getElem?_set_ne e]
        exact backE_in hl hm
      · exact backE_in hl hm
theorem plainAt_own : ∀ {vs : List Nat}, plainAt env vs = true → env[i]? = some (some c) → c.isOwn = true → i ∉ vs
  | [], _, _, _ => by simp
  | v :: vs, h, he, ho => by
    unfold plainAt at h
    rw [Bool.and_eq_true] at h
    simp only [List.mem_cons, not_or]
    refine ⟨fun e => ?_, plainAt_own h.2 he ho⟩
    subst e
    have h1 := h.1
    rw [he] at h1
    cases c with
    | fz d => cases ho
    | ow d => cases h1
    | pw d => cases h1
    | sc d => cases h1
theorem plainAt_fz : ∀ {vs : List Nat}, plainAt env vs = true → i ∈ vs → env[i]? = some (some c) → ∃ d, c = .fz d
  | v :: vs, h, hm, he => by
    unfold plainAt at h
    rw [Bool.and_eq_true] at h
    rcases List.mem_cons.mp hm with e | hm
    · subst e
      have h1 := h.1
      rw [he] at h1
      cases c with
      | fz d => exact ⟨d, rfl⟩
      | ow d => cases h1
      | pw d => cases h1
      | sc d => cases h1
    · exact plainAt_fz h.2 hm he
theorem plainAt_same : ∀ {vs : List Nat}, (∀ i ∈ vs, env'[i]? = env[i]?) → plainAt env vs = true → plainAt env' vs = true
  | [], _, _ => rfl
  | v :: vs, h, hp => by
    unfold plainAt at hp ⊢
    rw [Bool.and_eq_true] at hp ⊢
    rw [h v (List.mem_cons_self ..)]
    exact ⟨hp.1, plainAt_same (fun i hi => h i (List.mem_cons_of_mem _ hi)) hp.2⟩
theorem Sta.wiped (S : Sta K B H σ env) (hp : plainAt env vs = true) : Sta K B H (wipe σ vs) (wipeE env vs) := by
  have sh : ∀ j a, Owns (wipe σ vs) (wipeE env vs) j a → Owns σ env j a := fun j a ⟨c, e1, e2, e3⟩ => ⟨c, (wipeE_some e1).1, e2, (wipe_some e3).1⟩
  refine ⟨by rw [wipeE_length, wipe_length]; exact S.len, S.trk, fun j c e => ?_, fun j k a q q' => S.inj j k a (sh j a q) (sh k a q'), fun j a q => S.out j a (sh j a q)⟩
  obtain ⟨h1, h2⟩ := wipeE_some e
  obtain ⟨v, hv, r⟩ := S.rep j c h1
  exact ⟨v, by rw [wipe_out h2]; exact hv, r.as fun a z => z.elim .inl fun ⟨k, z⟩ => .inr ⟨k, sh k a z⟩⟩
theorem Owns.wiped (hp : plainAt env vs = true) (h : Owns σ env i a) : Owns (wipe σ vs) (wipeE env vs) i a ∧ i ∉ vs := by
  obtain ⟨c, h1, h2, h3⟩ := h
  have n := plainAt_own hp h1 h2
  exact ⟨⟨c, by rw [wipeE_out n]; exact h1, h2, by rw [wipe_out n]; exact h3⟩, n⟩
/-- what an evaluation does to the state -/
structure Eff (K : PySem.W.Frag) (B : Addr → Prop) (H : Hp) (σ : L2.St) (env env' : Ev) (H' : Hp) : Prop where
  fr : Fr (Ownd σ env) H H'
  sh : ∀ i a, Owns σ env' i a → Owns σ env i a
  st : Sta K B H' σ env'
  bd : ∀ i, Bound env i → Bound env' i
  pk : ∀ (i : Nat) (d : D), env[i]? = some (some (.pw d)) → ∃ d', env'[i]? = some (some (.pw d'))
theorem Eff.of (p : PostE K B H σ env c env' v H') : Eff K B H σ env env' H' := ⟨p.fr, p.sh, p.st.less fun a z => .inl z, p.bd, p.pk⟩
/-- the turn of a comprehension, from the wiped state back to the state without -/
theorem turn_back {σ4 : L2.St} {e3 e5 : Ev} {H3 H6 : Hp} {c6 : C} {v6 : V} (S : Sta K B H σ env) (hp : plainAt env vs = true) (ex : Ext H H3)
    (p4 : PostS K B H3 (wipe σ vs) (wipeE env vs) e3 σ4 H3) (sb : SameBut vs (wipe σ vs) σ4) (se : ∀ j, j ∉ vs → e3[j]? = (wipeE env vs)[j]?) (p6 : PostE K B H3 σ4 e3 c6 e5 v6 H6) :
    Eff K B H σ env (backE env e5 vs) H6 ∧ plainAt (backE env e5 vs) vs = true ∧ (∀ a, Bad B σ (backE env e5 vs) a → Bad B σ4 e5 a) ∧ (∀ a, Bad B σ (backE env e5 vs) a → H a ≠ none → Bad B σ env a) := by
  have S3 := S.ext ex
  have Sw := S3.wiped (vs := vs) hp
  have sg : ∀ j, j ∉ vs → σ4[j]? = σ[j]? := fun j hj => (sb.2 j hj).trans (wipe_out hj)
  have own3 : ∀ j a, Owns σ4 e3 j a → j ∉ vs ∧ Owns σ env j a := fun j a h => by
    obtain ⟨o, ho, _⟩ := p4.st.mut h
    rcases p4.sh a ⟨j, h⟩ with z | ⟨k, z⟩
    · rw [ho] at z
      cases z
    · obtain ⟨ck, k1, k2, k3⟩ := z
      obtain ⟨k4, k5⟩ := wipeE_some k1
      obtain ⟨k6, _⟩ := wipe_some k3
      have hk : Owns σ4 e3 k a := ⟨ck, by rw [se k k5]; exact k1, k2, by rw [sg k k5]; exact k6⟩
      have e := p4.st.inj j k a h hk
      subst e
      exact ⟨k5, ck, k4, k2, k6⟩
  have own5 : ∀ j a, Owns σ4 e5 j a → j ∉ vs ∧ Owns σ env j a := fun j a h => own3 j a (p6.sh j a h)
  have ownB : ∀ j a, Owns σ (backE env e5 vs) j a → j ∉ vs ∧ Owns σ4 e5 j a := fun j a ⟨c', h1, h2, h3⟩ => by
    by_cases hj : j ∈ vs
    · have hl : env.length = e5.length := by
        have := p6.st.len
        have := sb.1
        rw [wipe_length] at this
        have := S.len
        omega
      rw [backE_in hl hj] at h1
      exact absurd hj (plainAt_own hp h1 h2)
    · rw [backE_out hj] at h1
      exact ⟨hj, c', h1, h2, by rw [sg j hj]; exact h3⟩
  have hl : env.length = e5.length := by
    have := p6.st.len
    have := sb.1
    rw [wipe_length] at this
    have := S.len
    omega
  have bb : ∀ a, Bad B σ (backE env e5 vs) a → Bad B σ4 e5 a := fun a z => z.elim .inl fun ⟨j, z⟩ => .inr ⟨j, (ownB j a z).2⟩
  have b0 : ∀ a, Bad B σ (backE env e5 vs) a → Bad B σ env a := fun a z => z.elim .inl fun ⟨j, z⟩ => .inr ⟨j, (own5 j a (ownB j a z).2).2⟩
  have fr : Fr (Ownd σ env) H H6 := (ex.fr (own := Ownd σ env)).trans p6.fr (fun _ z _ => z) fun a ⟨j, z⟩ _ => ⟨j, (own3 j a z).2⟩
  have same : ∀ j, j ∈ vs → (backE env e5 vs)[j]? = env[j]? := fun j hj => backE_in hl hj
  refine ⟨⟨fr, fun j a z => (own5 j a (ownB j a z).2).2, ⟨by rw [backE_length, ← hl]; exact S.len, fun a z => p6.st.trk a (.inl z), fun j c' e => ?_, fun j k a q q' => p6.st.inj j k a (ownB j a q).2 (ownB k a q').2, fun j a q z => p6.st.out j a (ownB j a q).2 (.inl z)⟩, fun j ⟨c', hj⟩ => ?_, fun j d hj => ?_⟩, plainAt_same same hp, bb, fun a z _ => b0 a z⟩
  · by_cases hj : j ∈ vs
    · rw [same j hj] at e
      obtain ⟨v, hv, r⟩ := S.rep j c' e
      obtain ⟨d, rfl⟩ := plainAt_fz hp hj e
      exact ⟨v, hv, Fz.mono (fr.mono fun a z => .inr z) (fun a z _ => b0 a z) r⟩
    · rw [backE_out hj] at e
      obtain ⟨v, hv, r⟩ := p6.st.rep j c' e
      exact ⟨v, by rw [← sg j hj]; exact hv, r.as fun a z => (bb a z).elim (fun z => .inl (.inl z)) .inr⟩
  · by_cases hv : j ∈ vs
    · exact ⟨c', by rw [same j hv]; exact hj⟩
    · have b3 : Bound e3 j := ⟨c', by rw [se j hv, wipeE_out hv]; exact hj⟩
      obtain ⟨c2, h2⟩ := p6.bd j b3
      exact ⟨c2, by rw [backE_out hv]; exact h2⟩
  · have hv : j ∉ vs := plainAt_own hp hj rfl
    have b3 : e3[j]? = some (some (.pw d)) := by rw [se j hv, wipeE_out hv]; exact hj
    obtain ⟨d', h2⟩ := p6.pk j d b3
    exact ⟨d', by rw [backE_out hv]; exact h2⟩
def PDTs (X : Cx) (ifs : List Expr) (t : FT) : Prop := PTs X ifs (tT X.K t)
theorem pdts_nil : PDTs X [] tYesD := ⟨fun pins s σ H Q I ⟨B, env, b, env', S, hf, q⟩ => by
  cases hf
  exact pts_nil.run pins s σ H Q I (q H (PostE.new S Ext.refl rfl))⟩
theorem pdts_one {c : Expr} {t : FT} (h : PDT X c t) : PDTs X [c] t := pts_one h
theorem fz_of_res {c : C} {y : PyData} (h : c.frozen = some y) (p : PostE K B H σ env c e1 v H1) : Fz K (Bad B σ e1) H1 y v := by
  cases c with
  | fz d =>
    cases h
    exact Fz.as p.cr fun a z => z.elim (fun z => .inl (.inl z)) .inr
  | ow d =>
    cases h
    obtain ⟨a, e, ho⟩ := p.cr
    subst e
    exact (ho.mono (B' := Bad B σ e1) Fr.refl (fun b z _ => z.elim (fun z => .inl (.inl z)) .inr) fun _ z => z).fz fun z => z.elim (p.nb a ⟨rfl, rfl⟩) fun ⟨i, z⟩ => p.st.out i a z (.inr ⟨rfl, rfl⟩)
  | pw d => cases h
  | sc d => cases h
theorem sizeLine_lt {n : Nat} (h : n < 16777216) : n < sizeLine := by rw [sizeLine_eq]; exact h
theorem lc_imp {fi : FI} {g : PyData → Ev → Option Ev} {t : FT} {f : FE} {Q : VK} (h : tI K (dLc fi vs g t f) σ H Q) : tLc (tW K fi) (tG K vs g) (tT K t) (tI K f) vs σ H Q := by
  obtain ⟨B, env, c, env', S, hf, q⟩ := h
  unfold dLc at hf
  split at hf
  · rename_i ds e1 he1
    split at hf
    · rename_i hpl
      split at hf
      · rename_i acc e2 hl
        cases hf
        refine ⟨B, env, ds, e1, S, he1, fun J H1 p => fun Dd hD => ?_⟩
        obtain ⟨P, sr, hP⟩ := p.src
        obtain ⟨G, Y, wk, hG, hY⟩ := sr.walk
        have S1 : Sta K B H1 σ e1 := p.ef.sta
        have exD : Ext H1 (upd H1 Dd (.lst [])) := Ext.new hD
        have S2 : Sta K (fun a => B a ∨ a = Dd) (upd H1 Dd (.lst [])) σ e1 := S1.more exD (fun a z => by rw [z]; exact hD) fun a z => by
          rw [z, upd_same]
          exact fun z => by cases z
        have hB0 : ∀ a, Bad (fun a => B a ∨ a = Dd) σ e1 a → H1 a ≠ none → Bad B σ e1 a := fun a z n => by
          rcases z with (z | z) | z
          · exact .inl z
          · rw [z] at n
            exact absurd hD n
          · exact .inr z
        refine lc_it wk (fun i Hi => ∃ ei acci xs, Fr (Ownd σ e1) H1 Hi ∧ Eff K (fun a => B a ∨ a = Dd) Hi σ ei ei Hi ∧ (∀ j a, Owns σ ei j a → Owns σ e1 j a) ∧ (∀ j, Bound e1 j → Bound ei j) ∧ (∀ (j : Nat) (d : PyData), e1[j]? = some (some (.pw d)) → ∃ d', ei[j]? = some (some (.pw d'))) ∧ plainAt ei vs = true ∧ Hi Dd = some (.lst xs) ∧ FzL K (Bad (fun a => B a ∨ a = Dd) σ ei) Hi acci xs ∧ dLcL vs g t f (ds.drop i) acci ei = some (acc, env') ∧ P (Bad (fun a => B a ∨ a = Dd) σ ei) Hi)
          ⟨e1, [], [], exD.fr, Eff.of (PostE.new S2 Ext.refl (c := .fz .none) (v := .non) rfl), fun _ _ z => z, fun _ z => z, fun _ d z => ⟨d, z⟩, hpl, upd_same, rfl, hl, sr.mono _ _ _ _ hP exD.fr hB0⟩
          (fun i Hi _ ⟨ei, acci, xs, _, _, _, _, _, _, _, _, _, h⟩ => hG _ _ h)
          (fun i x Hi H3 hi ⟨ei, acci, xs, fr, ef, sh, bd, pk, hpi, hDi, fzi, hli, hPi⟩ hy => ?_)
          fun Hn ⟨en, accn, xs, fr, ef, sh, bd, pk, hpn, hDn, fzn, hln, hPn⟩ => ?_
        · obtain ⟨d, hd, ex, fz⟩ := hY _ Hi i x H3 hPi hi hy
          have dr : ds.drop i = d :: ds.drop (i + 1) := by
            obtain ⟨hl, e⟩ := List.getElem?_eq_some_iff.mp hd
            rw [List.drop_eq_getElem_cons hl, e]
          rw [dr] at hli
          unfold dLcL at hli
          split at hli
          · rename_i e3 he3
            have Si : Sta K (fun a => B a ∨ a = Dd) Hi σ ei := ef.st
            have S3 := (Si.ext ex).wiped hpi
            have bw : ∀ a, Bad (fun a => B a ∨ a = Dd) (wipe σ vs) (wipeE ei vs) a → Bad (fun a => B a ∨ a = Dd) σ ei a := fun a z => z.elim .inl fun ⟨k, c, e1, e2, e3⟩ => .inr ⟨k, c, (wipeE_some e1).1, e2, (wipe_some e3).1⟩
            refine ⟨fun a => B a ∨ a = Dd, wipeE ei vs, d, e3, S3, Fz.as fz bw, he3, fun σ4 H4 p4 sb se hh => ?_⟩
            subst hh
            have wσ : wipe σ4 vs = wipe σ vs := by
              apply List.ext_getElem?
              intro j
              by_cases hj : j ∈ vs
              · have no : ∀ s : L2.St, s.length = σ.length → (wipe s vs)[j]? = if j < σ.length then some none else none := fun s hs => by
                  cases q : (wipe s vs)[j]? with
                  | none =>
                    rw [List.getElem?_eq_none_iff, wipe_length] at q
                    rw [if_neg (by omega)]
                  | some o =>
                    have hj2 : j < s.length := by
                      have := (List.getElem?_eq_some_iff.mp q).1
                      rwa [wipe_length] at this
                    rw [if_pos (by omega)]
                    cases o with
                    | none => rfl
                    | some x => exact absurd hj (wipe_some q).2
                have l4 : σ4.length = σ.length := by rw [sb.1, wipe_length]
                rw [no σ4 l4, no σ rfl]
              · rw [wipe_out hj, sb.2 j hj]
            refine ⟨wσ, ?_⟩
            split at hli
            · rename_i e4 he4
              split at hli
              · rename_i c5 e5 he5
                split at hli
                · rename_i y hy5
                  split at hli
                  · rename_i hlen0
                    have hlen := of_fits hlen0
                    refine ⟨_, e3, true, e4, p4.st, he4, fun H5 p5 => ?_⟩
                    show ite _ _ _
                    rw [if_pos rfl]
                    refine ⟨_, e4, c5, e5, p5.sta, he5, fun v H6 p6 => ?_⟩
                    have p56 := p5.seq p6
                    obtain ⟨ef2, hp2, bb, b0⟩ := turn_back Si hpi ex p4 sb se p56
                    have fz6 : Fz K (Bad (fun a => B a ∨ a = Dd) σ (backE ei e5 vs)) H6 y v := Fz.as (fz_of_res hy5 p56) bb
                    have nD : ¬ Ownd σ ei Dd := fun ⟨j, z⟩ => Si.out j Dd z (.inr rfl)
                    have hD6 : H6 Dd = some (.lst xs) := ef2.fr.some hDi nD
                    have fzs : FzL K (Bad (fun a => B a ∨ a = Dd) σ (backE ei e5 vs)) H6 (acci ++ [y]) (xs ++ [v]) := FzL.snoc (FzL.mono (ef2.fr.mono fun a z => .inr z) b0 fzi) fz6
                    have frD : Fr (Bad (fun a => B a ∨ a = Dd) σ (backE ei e5 vs)) H6 (upd H6 Dd (.lst (xs ++ [v]))) := fun a o ha hm => by
                      by_cases e : a = Dd
                      · subst e
                        rw [hD6] at ha
                        cases ha
                        exact absurd trivial (hm (.inl (.inr rfl)))
                      · rw [upd_ne e]
                        exact ha
                    have S7 : Sta K (fun a => B a ∨ a = Dd) (upd H6 Dd (.lst (xs ++ [v]))) σ (backE ei e5 vs) := by
                      refine ⟨ef2.st.len, fun a z => ?_, fun j c' e => ?_, ef2.st.inj, ef2.st.out⟩
                      · by_cases e : a = Dd
                        · rw [e, upd_same]
                          exact fun z => by cases z
                        · rw [upd_ne e]
                          exact ef2.st.trk a z
                      · obtain ⟨v', hv', r⟩ := ef2.st.rep j c' e
                        refine ⟨v', hv', r.mono frD (fun a z _ => z) fun a o ho hv ha => ?_⟩
                        rw [upd_ne]
                        · exact ha
                        · intro z
                          subst z
                          subst hv
                          exact ef2.st.out j a ⟨c', e, ho, hv'⟩ (.inr rfl)
                    have len : xs.length = acci.length := fzi.length
                    refine ⟨xs, hD6, by rw [len]; exact sizeLine_lt hlen, backE ei e5 vs, acci ++ [y], xs ++ [v], ?_, Eff.of (PostE.new S7 Ext.refl (c := .fz .none) (v := .non) rfl), fun j a z => sh j a (ef2.sh j a z), fun j z => ef2.bd j (bd j z), fun j d z => ?_, hp2, upd_same, fzs.mono frD fun a z _ => z, hli, ?_⟩
                    · refine fun a o ha hm => ?_
                      have e : a ≠ Dd := fun e => by
                        rw [e, hD] at ha
                        cases ha
                      rw [upd_ne e]
                      exact ef2.fr a o (fr a o ha hm) fun ⟨j, z⟩ => hm ⟨j, sh j a z⟩
                    · obtain ⟨d', z'⟩ := pk j d z
                      exact ef2.pk j d' z'
                    · exact sr.mono _ _ _ _ (sr.mono _ _ _ _ hPi (ef2.fr.mono fun a z => .inr z) b0) frD fun a z _ => z
                  · cases hli
                · cases hli
              · cases hli
            · rename_i e4 he4
              refine ⟨_, e3, false, e4, p4.st, he4, fun H5 p5 => ?_⟩
              show ite _ _ _
              rw [if_neg Bool.false_ne_true]
              obtain ⟨ef2, hp2, bb, b0⟩ := turn_back Si hpi ex p4 sb se p5
              have nD : ¬ Ownd σ ei Dd := fun ⟨j, z⟩ => Si.out j Dd z (.inr rfl)
              refine ⟨backE ei e4 vs, acci, xs, fr.trans ef2.fr (fun a z _ => z) fun a ⟨j, z⟩ _ => ⟨j, sh j a z⟩, Eff.of (PostE.new ef2.st Ext.refl (c := .fz .none) (v := .non) rfl), fun j a z => sh j a (ef2.sh j a z), fun j z => ef2.bd j (bd j z), fun j d z => ?_, hp2, ef2.fr.some hDi nD, FzL.mono (ef2.fr.mono fun a z => .inr z) b0 fzi, hli, sr.mono _ _ _ _ hPi (ef2.fr.mono fun a z => .inr z) b0⟩
              obtain ⟨d', z'⟩ := pk j d z
              exact ef2.pk j d' z'
            · cases hli
          · cases hli
        · rw [List.drop_length] at hln
          unfold dLcL at hln
          cases hln
          have bo : ∀ a, ownV (.ow (.list acc)) (.ref Dd) a → a = Dd := fun a z => by
            have := z.2
            cases this
            rfl
          have S9 : Sta K (Bx B (.ow (.list acc)) (.ref Dd)) Hn σ env' := ef.st.less fun a z => z.elim .inl fun z => .inr (bo a z)
          refine q _ _ ⟨p.ef.fr.trans fr (fun _ z _ => z) fun a ⟨j, z⟩ _ => ⟨j, p.ef.sh j a z⟩, fun j a z => p.ef.sh j a (sh j a z), S9, ⟨Dd, rfl, xs, hDn, ?_⟩, fun a z z2 => ?_, fun a z => ?_, fun j z => bd j (p.ef.bd j z), fun j d z => ?_, rfl⟩
          · exact fzn.mono Fr.refl fun a z _ => z.elim (fun z => .inl (z.elim .inl fun z => .inr (bo a z))) .inr
          · have e := bo a z
            subst e
            exact S1.trk a z2 hD
          · have e := bo a z
            subst e
            exact back_none p.ef.fr hD
          · obtain ⟨d', z'⟩ := p.ef.pk j d z
            exact pk j d' z'
      · cases hf
    · cases hf
  · cases hf
theorem pd_lc {elt tg iter : Expr} {ifs : List Expr} {scope : Scope} {own : List (Str × Nat)} {pos : Pos} {fi : FI} {g : PyData → Ev → Option Ev} {t : FT} {f : FE} (hc : X.calm = true) (hN : X.N.Nodup) (hi : PDI X tg iter fi) (ok : BlkOk X.N X.env.scope scope own)
    (hg : ∀ (s : Shared) (H : Hp) (C : Addr) (cl : List (Str × Addr)) (fp : List Addr), PDG (X.blk s H scope (compEnvC scope cl C X.env) fp) tg (own.map (·.2)) g) (ht : ∀ (s : Shared) (H : Hp) (C : Addr) (cl : List (Str × Addr)) (fp : List Addr), PDTs (X.blk s H scope (compEnvC scope cl C X.env) fp) ifs t)
    (he : ∀ (s : Shared) (H : Hp) (C : Addr) (cl : List (Str × Addr)) (fp : List Addr), PD (X.blk s H scope (compEnvC scope cl C X.env) fp) elt f) (hs : ∀ x, foldedSetIterable iter X.env x = pure x := by intro _; rfl) :
    PD X (.ListComp elt [⟨tg, iter, ifs, 0⟩] scope pos) (dLc fi (own.map (·.2)) g t f) := PEimp (pe_lc (wi := tW X.K fi) (g := tG X.K (List.map (fun x : Str × Nat => x.2) own) g) (tt := tT X.K t) (te := tI X.K f) hc hN hi ok hg ht he hs) fun σ H Q h => lc_imp h
end
end DL
set_option Elab.async false
set_option linter.all false
set_option maxRecDepth 100000
set_option maxHeartbeats 4000000
namespace DL
open PySem PySem.Spec PyProof.Rows L2

/-! ### defs and their calls -/
abbrev Fn := List C → Option (C × List (Option C))
def mkFn (n m : Nat) (body : FS) : Fn := fun cs => if cs.length = n then match body (cs.map some ++ List.replicate m none) with
  | some (.nx, e) => some (.fz .none, e.take n)
  | some (.rt c, e) => some (c, e.take n)
  | _ => none else none
def BadC (B : Addr → Prop) (vs : List V) (cs : List C) (c : C) (v : V) (a : Addr) : Prop := Bx B c v a ∨ ∃ (j : Nat) (d : D), cs[j]? = some (.pw d) ∧ vs[j]? = some (.ref a)
structure PostC (K : PySem.W.Frag) (B : Addr → Prop) (H : Hp) (vs : List V) (cs : List C) (c : C) (outs : List (Option C)) (v : V) (H' : Hp) : Prop where
  fr : Fr (Ownd (vs.map some) (cs.map some)) H H'
  own : ∀ (j : Nat) (d : D), cs[j]? = some (.pw d) → ∃ d' a, outs[j]? = some (some (.pw d')) ∧ vs[j]? = some (.ref a) ∧ Own K (BadC B vs cs c v) H' d' a
  res : CRep K (BadC B vs cs c v) H' c v
  nb : ∀ a, ownV c v a → ¬ B a
  np : ∀ (a : Addr) (j : Nat) (d : D), ownV c v a → cs[j]? = some (.pw d) → vs[j]? ≠ some (.ref a)
  nw : ∀ a, ownV c v a → H a = none ∨ Ownd (vs.map some) (cs.map some) a
  rs : c.isRes = true
def spD (K : PySem.W.Frag) (n : Nat) (F : Fn) : Sp := fun vs H Q _ => vs.length = n ∧ ∃ B cs c outs, Sta K B H (vs.map some) (cs.map some) ∧ F cs = some (c, outs) ∧ ∀ v H', PostC K B H vs cs c outs v H' → Q v H'

section
variable {K : PySem.W.Frag} {B B' : Addr → Prop} {H H' H1 H2 : Hp} {σ σ' σ1 σ2 : L2.St} {env env' e1 e2 : Ev} {c : C} {v x : V} {X : Cx} {d : D} {fl : Fl} {i j : Nat} {a : Addr} {vs : List V} {cs : List C}
theorem PostR.call {m : Nat} {env0 : Ev} {σ0 : L2.St} (he : env0 = cs.map some ++ List.replicate m none) (hs : σ0 = vs.map some ++ List.replicate m none) (hl : vs.length = cs.length)
    (p : PostR K B H σ0 env0 c env' v σ' H') : PostC K B H vs cs c (env'.take cs.length) v H' := by
  have get : ∀ (j : Nat) (d : C), cs[j]? = some d → env0[j]? = some (some d) ∧ σ0[j]? = (vs[j]?).map some := fun j d h => by
    have hj : j < cs.length := (List.getElem?_eq_some_iff.mp h).1
    subst he
    subst hs
    refine ⟨?_, ?_⟩
    · rw [List.getElem?_append_left (by simpa using hj), List.getElem?_map, h]
      rfl
    · rw [List.getElem?_append_left (by simpa using (by omega : j < vs.length)), List.getElem?_map]
  have own0 : ∀ a, Ownd σ0 env0 a → Ownd (vs.map some) (cs.map some) a := fun a ⟨j, d, h1, h2, h3⟩ => by
    by_cases hj : j < cs.length
    · obtain ⟨g1, g2⟩ := get j cs[j] (by simp [hj])
      rw [g1] at h1
      cases h1
      rw [g2] at h3
      refine ⟨j, _, by rw [List.getElem?_map]; simp [hj], h2, by rw [List.getElem?_map]; exact h3⟩
    · subst he
      rw [List.getElem?_append_right (by simpa using hj), List.getElem?_replicate] at h1
      split at h1 <;> cases h1
  have bb : ∀ a, BadC B vs cs c v a → Bad (Bx B c v) σ' env' a := fun a z => by
    rcases z with z | ⟨j, d, h1, h2⟩
    · exact .inl z
    · obtain ⟨g1, g2⟩ := get j _ h1
      obtain ⟨⟨d', q1⟩, q2⟩ := p.pk j d g1
      exact .inr ⟨j, _, q1, rfl, by rw [q2, g2, h2]; rfl⟩
  refine ⟨p.fr.mono own0, fun j d h => ?_, p.cr.as bb, p.nb, fun a j d h1 h2 h3 => ?_, fun a z => (p.nw a z).imp id (own0 a), p.rs⟩
  · obtain ⟨g1, g2⟩ := get j _ h
    obtain ⟨⟨d', q1⟩, q2⟩ := p.pk j d g1
    obtain ⟨v2, hv2, a, e, r⟩ := p.st.rep j _ q1
    subst e
    rw [q2, g2] at hv2
    have hj : j < cs.length := (List.getElem?_eq_some_iff.mp h).1
    refine ⟨d', a, by rw [List.getElem?_take_of_lt hj]; exact q1, ?_, r.mono Fr.refl (fun b z _ => bb b z) fun _ z => z⟩
    cases e : vs[j]? with
    | none =>
      rw [e] at hv2
      cases hv2
    | some w =>
      rw [e] at hv2
      cases hv2
      rfl
  · obtain ⟨g1, g2⟩ := get j _ h2
    obtain ⟨⟨d', q1⟩, q2⟩ := p.pk j d g1
    refine p.st.out j a ⟨_, q1, rfl, by rw [q2, g2, h3]; rfl⟩ (.inr h1)
theorem Sta.start {m : Nat} (S : Sta K B H (vs.map some) (cs.map some)) : Sta K B H (vs.map some ++ List.replicate m none) (cs.map some ++ List.replicate m none) := by
  have hl : cs.length = vs.length := by simpa using S.len
  have ge : ∀ {j : Nat} {c : C}, (cs.map some ++ List.replicate m none)[j]? = some (some c) → (cs.map some)[j]? = some (some c) ∧ j < vs.length := fun {j c} h => by
    by_cases hj : j < cs.length
    · rw [List.getElem?_append_left (by simpa using hj)] at h
      exact ⟨h, by omega⟩
    · rw [List.getElem?_append_right (by simpa using hj), List.getElem?_replicate] at h
      split at h <;> cases h
  have gs : ∀ {j : Nat}, j < vs.length → (vs.map some ++ List.replicate m none)[j]? = (vs.map some)[j]? := fun {j} h => List.getElem?_append_left (by simpa using h)
  have sh : ∀ j a, Owns (vs.map some ++ List.replicate m none) (cs.map some ++ List.replicate m none) j a → Owns (vs.map some) (cs.map some) j a := fun j a ⟨c, h1, h2, h3⟩ => by
    obtain ⟨g1, g2⟩ := ge h1
    rw [gs g2] at h3
    exact ⟨c, g1, h2, h3⟩
  refine ⟨by simp [hl], S.trk, fun j c h => ?_, fun j k a q q' => S.inj j k a (sh j a q) (sh k a q'), fun j a q => S.out j a (sh j a q)⟩
  obtain ⟨g1, g2⟩ := ge h
  obtain ⟨v, hv, r⟩ := S.rep j c g1
  exact ⟨v, by rw [gs g2]; exact hv, r.as fun a z => z.elim .inl fun ⟨k, z⟩ => .inr ⟨k, sh k a z⟩⟩
/-- THE RULE: a def of the text keeps the promise of its function -/
theorem fn_ok {P : Program} {w : World} {mg : Str → Option Value} {base : Heap} {x qual : Str} {st : Stmt} {f : Addr} {fd : FuncData} {N ps : List Str} {k m : Nat} {body : FS} (F : Fun K x qual st f fd) (S : FnScope N ps (defScope st)) (hm : N.length = ps.length + m)
    (hb : ∀ (cdv : Value) (A : Around) (outer : List Env) (s : Shared) (H : Hp) (E : XK), Room k (A.deeper (envOfC qual (defScope st) s.heap.objs.size f cdv)) → PDB (cxOf CX0 P w K mg base N qual (defScope st) f cdv A outer s H E).nox (defBody st) body) :
    FnOk P w K mg base CX0 (k + 1) f fd ps (spD K ps.length (mkFn ps.length m body)) := by
  refine F.ok S (fun vs H Q E h => h.1) (fun cdv A outer s H vs Q E hr h => ⟨_, hb cdv A outer s H E hr, ?_⟩)
  obtain ⟨hl, B, cs, c, outs, S0, hf, q⟩ := h
  unfold mkFn at hf
  split at hf
  · rename_i hn
    have hst : L2.start N vs = vs.map some ++ List.replicate m none := by
      unfold L2.start
      rw [hm, hl, Nat.add_sub_cancel_left]
    have S1 : Sta K B H (L2.start N vs) (cs.map some ++ List.replicate m none) := by
      rw [hst]
      exact S0.start
    have hlen : vs.length = cs.length := by rw [hl, hn]
    split at hf
    · rename_i e he
      cases hf
      refine ⟨B, _, _, _, S1, he, fun σ' H' p => ?_⟩
      rw [← hn] at q
      refine q .non H' (PostR.call rfl hst hlen ⟨p.fr, p.st.less fun a z => z.elim id fun z => (by cases z.1), rfl, fun a z => (by cases z.1), fun a z => (by cases z.1), p.pk, rfl⟩)
    · rename_i c' e he
      cases hf
      refine ⟨B, _, _, _, S1, he, fun v σ' H' p => ?_⟩
      rw [← hn] at q
      exact q v H' (PostR.call rfl hst hlen p)
    · cases hf
  · cases hf
end

/-! the call -/
def passO (env : Ev) : O → Option C
  | .val (.fz d) => some (.fz d)
  | .val (.ow d) => some (.ow d)
  | .val _ => none
  | .slot i => match env[i]? with
    | some (some (.fz d)) => some (.fz d)
    | some (some (.ow d)) => some (.pw d)
    | some (some (.pw d)) => some (.pw d)
    | some (some (.sc ns)) => some (.sc ns)
    | _ => none
def passAll (env : Ev) : List O → Option (List C)
  | [] => some []
  | o :: os => match passO env o with
    | some c => match passAll env os with
      | some cs => some (c :: cs)
      | none => none
    | none => none
def ownSlots (env : Ev) : List O → List Nat
  | [] => []
  | .slot i :: os => match env[i]? with
    | some (some (.ow _)) => i :: ownSlots env os
    | some (some (.pw _)) => i :: ownSlots env os
    | _ => ownSlots env os
  | .val _ :: os => ownSlots env os
def nodupB : List Nat → Bool
  | [] => true
  | i :: is => !is.contains i && nodupB is
def writeAll : Ev → List O → List (Option C) → Option Ev
  | env, [], _ => some env
  | env, .slot i :: os, out :: outs => match env[i]? with
    | some (some (.ow _)) => match out with
      | some (.pw d) => writeAll (env.set i (some (.ow d))) os outs
      | _ => none
    | some (some (.pw _)) => match out with
      | some (.pw d) => writeAll (env.set i (some (.pw d))) os outs
      | _ => none
    | _ => writeAll env os outs
  | env, .val _ :: os, _ :: outs => writeAll env os outs
  | _, _ :: _, [] => none
def dCall (F : Fn) (fs : List FO) : FE := fun env => match dOs fs env with
  | some (os, e1) => match passAll e1 os with
    | some cs => if nodupB (ownSlots e1 os) then match F cs with
      | some (c, outs) => match writeAll e1 os outs with
        | some e2 => some (c, e2)
        | none => none
      | none => none else none
    | none => none
  | none => none
section
variable {K : PySem.W.Frag} {B B' : Addr → Prop} {H H' H1 H2 : Hp} {σ σ' σ1 σ2 : L2.St} {env env' e1 e2 : Ev} {c : C} {v x : V} {X : Cx} {d : D} {fl : Fl} {i j : Nat} {a : Addr} {vs : List V} {cs : List C} {os : List O} {outs : List (Option C)}
theorem nodupB_of : ∀ {l : List Nat}, nodupB l = true → l.Nodup
  | [], _ => List.nodup_nil
  | i :: is, h => by
    unfold nodupB at h
    rw [Bool.and_eq_true, Bool.not_eq_true'] at h
    refine List.nodup_cons.mpr ⟨fun z => ?_, nodupB_of h.2⟩
    rw [List.contains_iff_mem.mpr z] at h
    cases h.1
/-- what the writing back leaves -/
structure Wrote (env e2 : Ev) (os : List O) (outs : List (Option C)) : Prop where
  len : e2.length = env.length
  out : ∀ i, i ∉ ownSlots env os → e2[i]? = env[i]?
  at_ : ∀ (j i : Nat) (c : C), os[j]? = some (.slot i) → env[i]? = some (some c) → c.isOwn = true → ∃ d', outs[j]? = some (some (.pw d')) ∧ e2[i]? = some (some (c.put d'))
theorem mem_ownSlots : ∀ {os : List O}, i ∈ ownSlots env os ↔ ∃ (j : Nat) (c : C), os[j]? = some (.slot i) ∧ env[i]? = some (some c) ∧ c.isOwn = true
  | [] => by simp [ownSlots]
  | .val c :: os => by
    unfold ownSlots
    rw [mem_ownSlots (os := os)]
    constructor
    · rintro ⟨j, c, h1, h2, h3⟩
      exact ⟨j + 1, c, by simpa using h1, h2, h3⟩
    · rintro ⟨j, c, h1, h2, h3⟩
      cases j with
      | zero => simp at h1
      | succ j => exact ⟨j, c, by simpa using h1, h2, h3⟩
  | .slot k :: os => by
    have step : i ∈ ownSlots env (.slot k :: os) ↔ (i = k ∧ ∃ c, env[k]? = some (some c) ∧ c.isOwn = true) ∨ i ∈ ownSlots env os := by
      conv => lhs; unfold ownSlots
      split
      · rename_i d h
        rw [List.mem_cons]
        constructor
        · rintro (z | z)
          · exact .inl ⟨z, _, h, rfl⟩
          · exact .inr z
        · rintro (⟨z, _⟩ | z)
          · exact .inl z
          · exact .inr z
      · rename_i d h
        rw [List.mem_cons]
        constructor
        · rintro (z | z)
          · exact .inl ⟨z, _, h, rfl⟩
          · exact .inr z
        · rintro (⟨z, _⟩ | z)
          · exact .inl z
          · exact .inr z
      · rename_i n1 n2
        constructor
        · exact .inr
        · rintro (⟨_, c, h, ho⟩ | z)
          · cases c with
            | ow d => exact absurd h (n1 d)
            | pw d => exact absurd h (n2 d)
            | fz d => cases ho
            | sc d => cases ho
          · exact z
    rw [step, mem_ownSlots (os := os)]
    constructor
    · rintro (⟨rfl, c, h1, h2⟩ | ⟨j, c, h1, h2, h3⟩)
      · exact ⟨0, c, rfl, h1, h2⟩
      · exact ⟨j + 1, c, by simpa using h1, h2, h3⟩
    · rintro ⟨j, c, h1, h2, h3⟩
      cases j with
      | zero =>
        have e : k = i := by simpa using h1
        subst e
        exact .inl ⟨rfl, c, h2, h3⟩
      | succ j => exact .inr ⟨j, c, by simpa using h1, h2, h3⟩
theorem ownSlots_set {k : Nat} {c' : C} (hk : ∀ j : Nat, os[j]? ≠ some (O.slot k)) : ownSlots (env.set k (some c')) os = ownSlots env os := by
  induction os with
  | nil => rfl
  | cons o os ih =>
    have ih' := ih fun j => by simpa using hk (j + 1)
    cases o with
    | val c => simpa [ownSlots] using ih'
    | slot i =>
      have n : k ≠ i := fun e => hk 0 (by rw [e]; rfl)
      unfold ownSlots
      rw [List.getElem?_set_ne n, ih']
theorem wrote_of : ∀ {os : List O} {outs : List (Option C)} {env e2 : Ev}, (ownSlots env os).Nodup → writeAll env os outs = some e2 → Wrote env e2 os outs
  | [], outs, env, e2, _, h => by
    unfold writeAll at h
    cases h
    exact ⟨rfl, fun _ _ => rfl, fun j i c h => by simp at h⟩
  | .val c :: os, [], env, e2, _, h => by
    unfold writeAll at h
    cases h
  | .val c :: os, o :: outs, env, e2, nd, h => by
    unfold writeAll at h
    have w := wrote_of (os := os) (by unfold ownSlots at nd; exact nd) h
    refine ⟨w.len, fun i hi => w.out i (by unfold ownSlots at hi; exact hi), fun j i c h1 h2 h3 => ?_⟩
    cases j with
    | zero => simp at h1
    | succ j => simpa using w.at_ j i c (by simpa using h1) h2 h3
  | .slot k :: os, [], env, e2, _, h => by
    unfold writeAll at h
    cases h
  | .slot k :: os, o :: outs, env, e2, nd, h => by
    -- a slot whose own list is written back
    have own : ∀ {c0 : C} {d : PyData}, env[k]? = some (some c0) → c0.isOwn = true → o = some (.pw d) → ownSlots env (.slot k :: os) = k :: ownSlots env os → writeAll (env.set k (some (c0.put d))) os outs = some e2 → Wrote env e2 (.slot k :: os) (o :: outs) := by
      intro c0 d h0 ho he hs hw
      rw [hs] at nd
      have nk := (List.nodup_cons.mp nd).1
      have hk : ∀ j : Nat, os[j]? ≠ some (O.slot k) := fun j z => nk (mem_ownSlots.mpr ⟨j, c0, z, h0, ho⟩)
      have hl : k < env.length := (List.getElem?_eq_some_iff.mp h0).1
      have w := wrote_of (os := os) (by rw [ownSlots_set hk]; exact (List.nodup_cons.mp nd).2) hw
      have at0 : e2[k]? = some (some (c0.put d)) := by
        rw [w.out k (by rw [ownSlots_set hk]; exact nk), List.getElem?_set_self hl]
      refine ⟨by rw [w.len, List.length_set], fun i hi => ?_, fun j i c h1 h2 h3 => ?_⟩
      · rw [hs, List.mem_cons, not_or] at hi
        rw [w.out i (by rw [ownSlots_set hk]; exact hi.2), List.getElem?_set_ne (Ne.symm hi.1)]
      · cases j with
        | zero =>
          have e : k = i := by simpa using h1
          subst e
          rw [h0] at h2
          cases h2
          exact ⟨d, by rw [he]; rfl, at0⟩
        | succ j =>
          have h1' : os[j]? = some (.slot i) := by simpa using h1
          have n : k ≠ i := fun e => hk j (by rw [e]; exact h1')
          simpa using w.at_ j i c h1' (by rw [List.getElem?_set_ne n]; exact h2) h3
    unfold writeAll at h
    split at h
    · rename_i d0 h0
      split at h
      · rename_i d
        exact own h0 rfl rfl (by conv => lhs; unfold ownSlots; simp only [h0]) h
      · cases h
    · rename_i d0 h0
      split at h
      · rename_i d
        exact own h0 rfl rfl (by conv => lhs; unfold ownSlots; simp only [h0]) h
      · cases h
    · rename_i n1 n2
      have hs : ownSlots env (.slot k :: os) = ownSlots env os := by
        conv => lhs; unfold ownSlots
        split
        · rename_i d h0
          exact absurd h0 (n1 d)
        · rename_i d h0
          exact absurd h0 (n2 d)
        · rfl
      have w := wrote_of (os := os) (by rw [← hs]; exact nd) h
      refine ⟨w.len, fun i hi => w.out i (by rw [← hs]; exact hi), fun j i c h1 h2 h3 => ?_⟩
      cases j with
      | zero =>
        have e : k = i := by simpa using h1
        subst e
        cases c with
        | ow d => exact absurd h2 (n1 d)
        | pw d => exact absurd h2 (n2 d)
        | fz d => cases h3
        | sc d => cases h3
      | succ j => simpa using w.at_ j i c (by simpa using h1) h2 h3
theorem passAll_get : ∀ {os : List O} {cs : List C} {j : Nat} {c : C}, passAll env os = some cs → cs[j]? = some c → ∃ o, os[j]? = some o ∧ passO env o = some c
  | [], cs, j, c, h, hj => by
    cases h
    simp at hj
  | o :: os, cs, j, c, h, hj => by
    unfold passAll at h
    split at h
    · rename_i c0 hc0
      split at h
      · rename_i cs' hcs
        cases h
        cases j with
        | zero =>
          cases hj
          exact ⟨o, rfl, hc0⟩
        | succ j =>
          obtain ⟨o', h1, h2⟩ := passAll_get (j := j) hcs (by simpa using hj)
          exact ⟨o', by simpa using h1, h2⟩
      · cases h
    · cases h
theorem passAll_len : ∀ {os : List O} {cs : List C}, passAll env os = some cs → cs.length = os.length
  | [], cs, h => by
    cases h
    rfl
  | o :: os, cs, h => by
    unfold passAll at h
    split at h
    · split at h
      · rename_i cs' hcs
        cases h
        rw [List.length_cons, List.length_cons, passAll_len hcs]
      · cases h
    · cases h
theorem passAll_at : ∀ {os : List O} {cs : List C} {j : Nat} {o : O}, passAll env os = some cs → os[j]? = some o → ∃ c, cs[j]? = some c ∧ passO env o = some c := fun {os cs j o} h hj => by
  have hl := passAll_len h
  have : j < cs.length := by
    have := (List.getElem?_eq_some_iff.mp hj).1
    omega
  obtain ⟨o', h1, h2⟩ := passAll_get (j := j) (c := cs[j]) h (by simp [this])
  rw [hj] at h1
  cases h1
  exact ⟨_, by simp [this], h2⟩
theorem ROs.get {bad : Addr → Prop} : ∀ {os : List O} {vs : List V} {j : Nat} {o : O}, ROs K bad H σ env os vs → os[j]? = some o → ∃ v, vs[j]? = some v ∧ RO K bad H σ env o v
  | [], _, j, o, _, h => by simp at h
  | o :: os, _, 0, _, ⟨v, r, rfl, h1, h2⟩, h => by
    cases h
    exact ⟨v, rfl, h1⟩
  | o :: os, _, j + 1, o', ⟨v, r, rfl, h1, h2⟩, h => ROs.get (j := j) h2 (by simpa using h)
theorem ROs.len {bad : Addr → Prop} : ∀ {os : List O} {vs : List V}, ROs K bad H σ env os vs → vs.length = os.length
  | [], _, h => by
    cases (show _ = _ from h)
    rfl
  | o :: os, _, ⟨v, r, rfl, h1, h2⟩ => by rw [List.length_cons, List.length_cons, ROs.len h2]
theorem ownOs_at : ∀ {os : List O} {vs : List V}, ownOs os vs a → ∃ (j : Nat) (c : C) (v : V), os[j]? = some (.val c) ∧ vs[j]? = some v ∧ ownV c v a
  | [], _, h => (show False from h).elim
  | o :: os, [], h => (show False from h).elim
  | o :: os, v :: vs, h => by
    rcases h with h | h
    · cases o with
      | val c => exact ⟨0, c, v, rfl, rfl, h⟩
      | slot i => exact (show False from h).elim
    · obtain ⟨j, c, w, h1, h2, h3⟩ := ownOs_at h
      exact ⟨j + 1, c, w, by simpa using h1, by simpa using h2, h3⟩
theorem at_ownOs : ∀ {os : List O} {vs : List V} {j : Nat} {c : C} {v : V}, os[j]? = some (.val c) → vs[j]? = some v → ownV c v a → ownOs os vs a
  | [], _, j, c, v, h, _, _ => by simp at h
  | o :: os, [], j, c, v, _, h, _ => by simp at h
  | o :: os, w :: vs, 0, c, v, h1, h2, h3 => by
    cases h1
    cases h2
    exact .inl h3
  | o :: os, w :: vs, j + 1, c, v, h1, h2, h3 => .inr (at_ownOs (j := j) (by simpa using h1) (by simpa using h2) h3)
theorem NDs.inj : ∀ {os : List O} {vs : List V} {j k : Nat} {c c' : C} {v v' : V}, NDs os vs → os[j]? = some (.val c) → vs[j]? = some v → ownV c v a → os[k]? = some (.val c') → vs[k]? = some v' → ownV c' v' a → j = k
  | [], _, j, k, c, c', v, v', _, h, _, _, _, _, _ => by simp at h
  | o :: os, [], j, k, c, c', v, v', _, _, h, _, _, _, _ => by simp at h
  | o :: os, w :: vs, 0, 0, c, c', v, v', _, _, _, _, _, _, _ => rfl
  | o :: os, w :: vs, 0, k + 1, c, c', v, v', nd, h1, h2, h3, h4, h5, h6 => by
    cases h1
    cases h2
    exact absurd (at_ownOs (j := k) (by simpa using h4) (by simpa using h5) h6) (nd.1 a h3)
  | o :: os, w :: vs, j + 1, 0, c, c', v, v', nd, h1, h2, h3, h4, h5, h6 => by
    cases h4
    cases h5
    exact absurd (at_ownOs (j := j) (by simpa using h1) (by simpa using h2) h3) (nd.1 a h6)
  | o :: os, w :: vs, j + 1, k + 1, c, c', v, v', nd, h1, h2, h3, h4, h5, h6 => by
    rw [NDs.inj (j := j) (k := k) nd.2 (by simpa using h1) (by simpa using h2) h3 (by simpa using h4) (by simpa using h5) h6]
end
end DL
set_option Elab.async false
set_option linter.all false
set_option maxRecDepth 100000
set_option maxHeartbeats 4000000
namespace DL
open PySem PySem.Spec PyProof.Rows L2
section
variable {K : PySem.W.Frag} {B B' : Addr → Prop} {H H' H1 H2 : Hp} {σ σ' σ1 σ2 : L2.St} {env env' e1 e2 : Ev} {c : C} {v x : V} {X : Cx} {d : D} {fl : Fl} {i j : Nat} {a : Addr} {vs : List V} {cs : List C} {os : List O} {outs : List (Option C)}
/-- what a callee must leave alone: what others own, and the names' lists that it is not handed -/
def Bcall (B : Addr → Prop) (σ : L2.St) (env : Ev) (os : List O) (a : Addr) : Prop := B a ∨ ∃ i, Owns σ env i a ∧ ∀ j : Nat, os[j]? ≠ some (O.slot i)
theorem callee_own (p : PostOs K B H σ env os e1 vs H1) (hp : passAll e1 os = some cs) (h : Owns (vs.map some) (cs.map some) j a) :
    (∃ i, os[j]? = some (.slot i) ∧ Owns σ e1 i a ∧ ∃ d, cs[j]? = some (.pw d)) ∨ ∃ c v, os[j]? = some (.val c) ∧ vs[j]? = some v ∧ ownV c v a ∧ cs[j]? = some c := by
  obtain ⟨c, h1, h2, h3⟩ := h
  rw [List.getElem?_map] at h1 h3
  cases hc : cs[j]? with
  | none =>
    rw [hc] at h1
    cases h1
  | some c0 =>
    rw [hc] at h1
    cases h1
    obtain ⟨o, ho, hpo⟩ := passAll_get hp hc
    obtain ⟨v, hv, r⟩ := p.ro.get ho
    rw [hv] at h3
    cases h3
    cases o with
    | val c1 =>
      right
      cases c1 with
      | fz d =>
        cases hpo
        cases h2
      | ow d =>
        cases hpo
        exact ⟨_, _, ho, hv, ⟨rfl, rfl⟩, rfl⟩
      | pw d => cases hpo
      | sc d => cases hpo
    | slot i =>
      left
      obtain ⟨r1, c1, r2⟩ := r
      unfold passO at hpo
      simp only [r2] at hpo
      cases c1 with
      | fz d =>
        cases hpo
        cases h2
      | ow d =>
        cases hpo
        exact ⟨i, ho, ⟨_, r2, rfl, r1⟩, d, rfl⟩
      | pw d =>
        cases hpo
        exact ⟨i, ho, ⟨_, r2, rfl, r1⟩, d, rfl⟩
      | sc d =>
        cases hpo
        cases h2
theorem callee_bad (p : PostOs K B H σ env os e1 vs H1) (hp : passAll e1 os = some cs) : ∀ a, Bad (Bcall B σ e1 os) (vs.map some) (cs.map some) a → Bad (BxOs B os vs) σ e1 a := fun a z => by
  rcases z with (z | ⟨i, z, _⟩) | ⟨j, z⟩
  · exact .inl (.inl z)
  · exact .inr ⟨i, z⟩
  · rcases callee_own p hp z with ⟨i, _, z, _⟩ | ⟨c, v, h1, h2, h3, _⟩
    · exact .inr ⟨i, z⟩
    · exact .inl (.inr (at_ownOs h1 h2 h3))
theorem passO_rep {bad bad' : Addr → Prop} {o : O} (S : Sta K B H σ env) (hb : ∀ a, bad' a → bad a) (hb2 : ∀ a, bad' a → Bad B σ env a) (r : RO K bad H σ env o v) (h : passO env o = some c) : CRep K bad' H c v := by
  cases o with
  | val c1 =>
    cases c1 with
    | fz d =>
      cases h
      exact r.1.as hb
    | ow d =>
      cases h
      exact r.1.as hb
    | pw d => cases h
    | sc d => cases h
  | slot i =>
    obtain ⟨r1, c1, r2⟩ := r
    obtain ⟨v', hv', rr⟩ := S.rep i c1 r2
    rw [r1] at hv'
    cases hv'
    unfold passO at h
    simp only [r2] at h
    cases c1 with
    | fz d =>
      cases h
      exact rr.as hb2
    | ow d =>
      cases h
      exact rr.as hb2
    | pw d =>
      cases h
      exact rr.as hb2
    | sc d =>
      cases h
      exact rr.as hb2
theorem callee_sta (p : PostOs K B H σ env os e1 vs H1) (hp : passAll e1 os = some cs) (nd : nodupB (ownSlots e1 os) = true) : Sta K (Bcall B σ e1 os) H1 (vs.map some) (cs.map some) := by
  have lv := ROs.len p.ro
  have lc := passAll_len hp
  have bb := callee_bad p hp
  have ndl := nodupB_of nd
  refine ⟨by simp [lv, lc], fun a z => ?_, fun j c hj => ?_, fun j k a h1 h2 => ?_, fun j a h1 z => ?_⟩
  · rcases z with z | ⟨i, z, _⟩
    · exact p.st.trk a (.inl z)
    · exact p.st.trkB a (.inr ⟨i, z⟩)
  · rw [List.getElem?_map] at hj
    cases hc : cs[j]? with
    | none =>
      rw [hc] at hj
      cases hj
    | some c0 =>
      rw [hc] at hj
      cases hj
      obtain ⟨o, ho, hpo⟩ := passAll_get hp hc
      obtain ⟨v, hv, r⟩ := p.ro.get ho
      exact ⟨v, by rw [List.getElem?_map, hv]; rfl, passO_rep p.st bb bb r hpo⟩
  · rcases callee_own p hp h1 with ⟨i, o1, w1, d1, _⟩ | ⟨c1, v1, o1, q1, w1, _⟩
    · rcases callee_own p hp h2 with ⟨i2, o2, w2, d2, _⟩ | ⟨c2, v2, o2, q2, w2, _⟩
      · have e := p.st.inj i i2 a w1 w2
        subst e
        obtain ⟨c0, k1, k2, _⟩ := w1
        -- the slot stands twice among the operands
        have two : ∀ {os : List O} {j k : Nat}, (ownSlots e1 os).Nodup → os[j]? = some (.slot i) → os[k]? = some (.slot i) → j = k := by
          intro os
          induction os with
          | nil => intro j k _ h _; simp at h
          | cons o os ih =>
            intro j k nd h1 h2
            have tail : (ownSlots e1 os).Nodup := by
              cases o with
              | val c => unfold ownSlots at nd; exact nd
              | slot i0 =>
                unfold ownSlots at nd
                split at nd
                · exact (List.nodup_cons.mp nd).2
                · exact (List.nodup_cons.mp nd).2
                · exact nd
            have hd : o = .slot i → i ∉ ownSlots e1 os := fun e => by
              subst e
              unfold ownSlots at nd
              split at nd
              · exact (List.nodup_cons.mp nd).1
              · exact (List.nodup_cons.mp nd).1
              · rename_i n1 n2
                cases c0 with
                | ow d => exact absurd k1 (n1 d)
                | pw d => exact absurd k1 (n2 d)
                | fz d => cases k2
                | sc d => cases k2
            cases j with
            | zero =>
              cases k with
              | zero => rfl
              | succ k =>
                have e : o = .slot i := by simpa using h1
                exact absurd (mem_ownSlots.mpr ⟨k, c0, by simpa using h2, k1, k2⟩) (hd e)
            | succ j =>
              cases k with
              | zero =>
                have e : o = .slot i := by simpa using h2
                exact absurd (mem_ownSlots.mpr ⟨j, c0, by simpa using h1, k1, k2⟩) (hd e)
              | succ k => exact congrArg Nat.succ (ih (j := j) (k := k) tail (by simpa using h1) (by simpa using h2))
        exact two ndl o1 o2
      · exact absurd (.inr (at_ownOs o2 q2 w2)) (p.st.out i a w1)
    · rcases callee_own p hp h2 with ⟨i2, o2, w2, d2, _⟩ | ⟨c2, v2, o2, q2, w2, _⟩
      · exact absurd (.inr (at_ownOs o1 q1 w1)) (p.st.out i2 a w2)
      · exact p.nd.inj o1 q1 w1 o2 q2 w2
  · rcases callee_own p hp h1 with ⟨i, o1, w1, _⟩ | ⟨c1, v1, o1, q1, w1, _⟩
    · rcases z with z | ⟨i2, z, hz⟩
      · exact p.st.out i a w1 (.inl z)
      · have e := p.st.inj i i2 a w1 z
        subst e
        exact hz j o1
    · rcases z with z | ⟨i2, z, hz⟩
      · exact p.nb a (at_ownOs o1 q1 w1) z
      · exact p.st.out i2 a z (.inr (at_ownOs o1 q1 w1))
theorem PostOs.called (p : PostOs K B H σ env os e1 vs H1) (hp : passAll e1 os = some cs) (nd : nodupB (ownSlots e1 os) = true) (hw : writeAll e1 os outs = some e2) (q : PostC K (Bcall B σ e1 os) H1 vs cs c outs v H2) : PostE K B H σ env c e2 v H2 := by
  have W := wrote_of (nodupB_of nd) hw
  have own1 : ∀ a, Ownd σ e1 a → Ownd σ env a := fun a ⟨i, z⟩ => ⟨i, p.sh i a z⟩
  have callee1 : ∀ a, Ownd (vs.map some) (cs.map some) a → H a ≠ none → Ownd σ env a := fun a ⟨j, z⟩ n => by
    rcases callee_own p hp z with ⟨i, _, z, _⟩ | ⟨c, v, h1, h2, h3, _⟩
    · exact ⟨i, p.sh i a z⟩
    · exact (p.nw a (at_ownOs h1 h2 h3)).resolve_left n
  have frE : Fr (Ownd σ env) H H2 := p.fr.trans q.fr (fun _ z _ => z) callee1
  have slot_of : ∀ {i : Nat}, (∃ j : Nat, os[j]? = some (O.slot i)) ∨ ∀ j : Nat, os[j]? ≠ some (O.slot i) := fun {i} => by
    by_cases h : ∃ j : Nat, os[j]? = some (O.slot i)
    · exact .inl h
    · exact .inr fun j z => h ⟨j, z⟩
  -- the cells behind: as ahead but for what the callee wrote
  have cell : ∀ {i : Nat} {c' : C}, e2[i]? = some (some c') → (e1[i]? = some (some c') ∧ (c'.isOwn = true → ∀ j : Nat, os[j]? ≠ some (O.slot i))) ∨ ∃ (j : Nat) (c0 : C) (d' : PyData), os[j]? = some (.slot i) ∧ e1[i]? = some (some c0) ∧ c0.isOwn = true ∧ outs[j]? = some (some (.pw d')) ∧ c' = c0.put d' := fun {i c'} h => by
    by_cases hi : i ∈ ownSlots e1 os
    · obtain ⟨j, c0, h1, h2, h3⟩ := mem_ownSlots.mp hi
      obtain ⟨d', h4, h5⟩ := W.at_ j i c0 h1 h2 h3
      rw [h] at h5
      cases h5
      exact .inr ⟨j, c0, d', h1, h2, h3, h4, rfl⟩
    · rw [W.out i hi] at h
      exact .inl ⟨h, fun ho j z => hi (mem_ownSlots.mpr ⟨j, c', z, h, ho⟩)⟩
  have sh2 : ∀ i a, Owns σ e2 i a → Owns σ e1 i a := fun i a ⟨c', h1, h2, h3⟩ => by
    rcases cell h1 with ⟨h4, _⟩ | ⟨j, c0, d', h4, h5, h6, h7, h8⟩
    · exact ⟨c', h4, h2, h3⟩
    · exact ⟨c0, h5, h6, h3⟩
  -- a passed name's place among the callee's
  have passed : ∀ {i j : Nat} {a : Addr}, os[j]? = some (.slot i) → Owns σ e1 i a → ∃ d, cs[j]? = some (.pw d) ∧ vs[j]? = some (.ref a) := fun {i j a} ho ⟨c0, h1, h2, h3⟩ => by
    obtain ⟨c', hc', hpo⟩ := passAll_at hp ho
    obtain ⟨v', hv', r⟩ := p.ro.get ho
    rw [r.1] at h3
    cases h3
    unfold passO at hpo
    simp only [h1] at hpo
    cases c0 with
    | ow d =>
      cases hpo
      exact ⟨d, hc', hv'⟩
    | pw d =>
      cases hpo
      exact ⟨d, hc', hv'⟩
    | fz d => cases h2
    | sc d => cases h2
  have bC : ∀ a, Bad (Bx B c v) σ e2 a → BadC (Bcall B σ e1 os) vs cs c v a := fun a z => by
    rcases z with (z | z) | ⟨i, z⟩
    · exact .inl (.inl (.inl z))
    · exact .inl (.inr z)
    · have z1 := sh2 i a z
      rcases slot_of (i := i) with ⟨j, hj⟩ | hj
      · obtain ⟨d, h1, h2⟩ := passed hj z1
        exact .inr ⟨j, d, h1, h2⟩
      · exact .inl (.inl (.inr ⟨i, z1, hj⟩))
  have frB : Fr (Bad (BxOs B os vs) σ e1) H1 H2 := q.fr.mono fun a z => callee_bad p hp a (.inr z)
  have bB : ∀ a, Bad (Bx B c v) σ e2 a → H1 a ≠ none → Bad (BxOs B os vs) σ e1 a := fun a z n => by
    rcases z with (z | z) | ⟨i, z⟩
    · exact .inl (.inl z)
    · exact callee_bad p hp a (.inr ((q.nw a z).resolve_left n))
    · exact .inr ⟨i, sh2 i a z⟩
  have nown : ∀ {i : Nat} {a : Addr}, Owns σ e1 i a → (∀ j : Nat, os[j]? ≠ some (O.slot i)) → ¬ Ownd (vs.map some) (cs.map some) a := fun {i a} h1 h2 ⟨j, z⟩ => by
    rcases callee_own p hp z with ⟨i2, o2, z, _⟩ | ⟨c, v, h3, h4, h5, _⟩
    · have e := p.st.inj i i2 a h1 z
      subst e
      exact h2 j o2
    · exact p.st.out i a h1 (.inr (at_ownOs h3 h4 h5))
  have S2 : Sta K (Bx B c v) H2 σ e2 := by
    refine ⟨by rw [W.len]; exact p.st.len, fun a z => ?_, fun i c' h => ?_, fun i k a h1 h2 => p.st.inj i k a (sh2 i a h1) (sh2 k a h2), fun i a h1 z => ?_⟩
    · rcases z with z | z
      · have t := p.st.trk a (.inl z)
        cases e : H1 a with
        | none => exact absurd e t
        | some o =>
          have no : ¬ Ownd (vs.map some) (cs.map some) a := fun ⟨j, w⟩ => by
            rcases callee_own p hp w with ⟨i, _, w, _⟩ | ⟨c, v, h3, h4, h5, _⟩
            · exact p.st.out i a w (.inl z)
            · exact p.nb a (at_ownOs h3 h4 h5) z
          rw [q.fr.some e no]
          exact fun z => by cases z
      · obtain ⟨o, e, _⟩ := q.res.ownMut z.1 z.2
        rw [e]
        exact fun z => by cases z
    · rcases cell h with ⟨h1, h2⟩ | ⟨j, c0, d', h1, h2, h3, h4, h5⟩
      · obtain ⟨v', hv', r⟩ := p.st.rep i c' h1
        refine ⟨v', hv', r.mono frB bB fun a o ho hv ha => ?_⟩
        subst hv
        exact q.fr.some ha (nown ⟨c', h1, ho, hv'⟩ (h2 ho))
      · subst h5
        obtain ⟨v', hv', r⟩ := p.st.rep i c0 h2
        have hown : ∃ a, v' = .ref a ∧ Owns σ e1 i a := by
          cases c0 with
          | ow d =>
            obtain ⟨a, rfl, _⟩ := r
            exact ⟨a, rfl, _, h2, rfl, hv'⟩
          | pw d =>
            obtain ⟨a, rfl, _⟩ := r
            exact ⟨a, rfl, _, h2, rfl, hv'⟩
          | fz d => cases h3
          | sc d => cases h3
        obtain ⟨a, rfl, ho⟩ := hown
        obtain ⟨d, k1, k2⟩ := passed h1 ho
        obtain ⟨d2, a2, k3, k4, k5⟩ := q.own j d k1
        rw [h4] at k3
        cases k3
        rw [k2] at k4
        cases k4
        have k6 : Own K (Bad (Bx B c v) σ e2) H2 d' a := k5.mono Fr.refl (fun b z _ => bC b z) fun _ z => z
        refine ⟨_, hv', ?_⟩
        cases c0 with
        | ow d => exact ⟨a, rfl, k6⟩
        | pw d => exact ⟨a, rfl, k6⟩
        | fz d => cases h3
        | sc d => cases h3
    · have h1' := sh2 i a h1
      rcases z with z | z
      · exact p.st.out i a h1' (.inl z)
      · rcases slot_of (i := i) with ⟨j, hj⟩ | hj
        · obtain ⟨d, k1, k2⟩ := passed hj h1'
          exact q.np a j d z k1 k2
        · exact q.nb a z (.inr ⟨i, h1', hj⟩)
  refine ⟨frE, fun i a z => p.sh i a (sh2 i a z), S2, q.res.as bC, fun a z z2 => q.nb a z (.inl z2), fun a z => ?_, fun i z => ?_, fun i d z => ?_, q.rs⟩
  · rcases q.nw a z with w | ⟨j, w⟩
    · exact back_none p.fr w
    · rcases callee_own p hp w with ⟨i, _, w, _⟩ | ⟨c, v, h3, h4, h5, _⟩
      · exact .inr ⟨i, p.sh i a w⟩
      · exact p.nw a (at_ownOs h3 h4 h5)
  · obtain ⟨c', z⟩ := p.bd i z
    by_cases hi : i ∈ ownSlots e1 os
    · obtain ⟨j, c0, h1, h2, h3⟩ := mem_ownSlots.mp hi
      obtain ⟨d', h4, h5⟩ := W.at_ j i c0 h1 h2 h3
      exact ⟨_, h5⟩
    · exact ⟨c', by rw [W.out i hi]; exact z⟩
  · obtain ⟨d', z⟩ := p.pk i d z
    by_cases hi : i ∈ ownSlots e1 os
    · obtain ⟨j, c0, h1, h2, h3⟩ := mem_ownSlots.mp hi
      obtain ⟨d2, h4, h5⟩ := W.at_ j i c0 h1 h2 h3
      rw [z] at h2
      cases h2
      exact ⟨d2, h5⟩
    · exact ⟨d', by rw [W.out i hi]; exact z⟩
theorem dCall_imp {n : Nat} {F : Fn} {fs : List FO} {Q : VK} {E : XK} (hn : fs.length = n) (h : tI K (dCall F fs) σ H Q) : tOs K fs σ H fun vs H1 => spD K n F (vs ++ []) H1 Q E := by
  obtain ⟨B, env, c, env', S, hf, q⟩ := h
  unfold dCall at hf
  split at hf
  · rename_i os e1 hos
    split at hf
    · rename_i cs hcs
      split at hf
      · rename_i hnd
        split at hf
        · rename_i c' outs hF
          split at hf
          · rename_i e2 hw
            cases hf
            refine ⟨B, env, os, e1, S, hos, fun vs H1 p => ?_⟩
            show spD K n F (vs ++ []) H1 Q E
            rw [List.append_nil]
            have lo : ∀ {fs : List FO} {env : Ev} {os : List O} {e1 : Ev}, dOs fs env = some (os, e1) → os.length = fs.length := by
              intro fs
              induction fs with
              | nil => intro env os e1 h; cases h; rfl
              | cons f fs ih =>
                intro env os e1 h
                unfold dOs at h
                split at h
                · split at h
                  · rename_i h2
                    cases h
                    rw [List.length_cons, List.length_cons, ih h2]
                  · cases h
                · cases h
            refine ⟨by rw [ROs.len p.ro, lo hos, hn], _, cs, _, outs, callee_sta p hcs hnd, hF, fun v H2 pc => q v H2 (p.called hcs hnd hw pc)⟩
          · cases hf
        · cases hf
      · cases hf
    · cases hf
  · cases hf
/-- f(e, ..), f a def of the text -/
theorem pd_call {f : Addr} {fd : FuncData} {ps : List Str} {k n : Nat} {F : Fn} {x : Str} {p pos : Pos} {e : Expr} {es : List Expr} {fs : List FO} (G : FnOk X.prog X.w X.K X.mg X.base CX0 k f fd ps (spD X.K n F)) (hr : Room k X.A) (hg : Gl X x) (hm : X.mg x = some (.ref f)) (hk : PySem.W.keepIn X.K (.ref f) = true) (hb : Binds X.K fd ps [])
    (ha : PDs X (e :: es) fs) (hn : fs.length = n := by rfl) (hdb : (x == ("__debug__" : Str)) = false := by decide) (he : starEach (e :: es) X.env = (false, eval e X.env) :: starEach es X.env := by rfl) (hpl : (backTo pos (starEach es X.env)).any (·.1) = false := by rfl) :
    PD X (.Call (.Name x p) (e :: es) [] pos) (dCall F fs) := PEimp (pe_call G hr hg hm hk hb .nil pass0 ha hdb he hpl) fun σ H Q h => dCall_imp hn h
theorem pd_call0 {f : Addr} {fd : FuncData} {ps : List Str} {k : Nat} {F : Fn} {x : Str} {p pos : Pos} (G : FnOk X.prog X.w X.K X.mg X.base CX0 k f fd ps (spD X.K 0 F)) (hr : Room k X.A) (hg : Gl X x) (hm : X.mg x = some (.ref f)) (hk : PySem.W.keepIn X.K (.ref f) = true) (hb : Binds X.K fd ps [])
    (hdb : (x == ("__debug__" : Str)) = false := by decide) :
    PD X (.Call (.Name x p) [] [] pos) (dCall F []) := PEimp (pe_call0 G hr hg hm hk hb .nil pass0 hdb) fun σ H Q h => by
  obtain ⟨B, env, os, e1, S, hos, q⟩ := dCall_imp (n := 0) (E := E0) rfl h
  cases hos
  exact q [] H (PostOs.nil S)
end
end DL
set_option Elab.async false
set_option linter.all false
set_option maxRecDepth 100000
set_option maxHeartbeats 4000000
namespace DL
open PySem PySem.Spec PyProof.Rows L2

/-! ### what is seen of an operand -/
/-- a text by its signs -/
abbrev S (l : List Nat) : D := .str ⟨⟨l⟩⟩
section
variable {K : PySem.W.Frag} {B bad : Addr → Prop} {H H' : Hp} {c : C} {v x : V} {X : Cx} {i : Int} {b : Bool} {z : Str} {ds : List PyData}
theorem see_int (h : c.data = some (.int i)) (r : CRep K bad H c v) : v = .int i := by
  cases c with
  | fz d => cases h; exact r
  | ow d => cases h; obtain ⟨a, _, q⟩ := r; exact q.elim
  | pw d => cases h; obtain ⟨a, _, q⟩ := r; exact q.elim
  | sc d => cases h
theorem see_bool (h : c.data = some (.bool b)) (r : CRep K bad H c v) : v = .bl b := by
  cases c with
  | fz d => cases h; exact r
  | ow d => cases h; obtain ⟨a, _, q⟩ := r; exact q.elim
  | pw d => cases h; obtain ⟨a, _, q⟩ := r; exact q.elim
  | sc d => cases h
theorem see_none (h : c.data = some .none) (r : CRep K bad H c v) : v = .non := by
  cases c with
  | fz d => cases h; exact r
  | ow d => cases h; obtain ⟨a, _, q⟩ := r; exact q.elim
  | pw d => cases h; obtain ⟨a, _, q⟩ := r; exact q.elim
  | sc d => cases h
theorem see_str (h : c.data = some (.str z)) (r : CRep K bad H c v) : v = .str z ∧ okS z = true := by
  cases c with
  | fz d => cases h; exact r
  | ow d => cases h; obtain ⟨a, _, q⟩ := r; exact q.elim
  | pw d => cases h; obtain ⟨a, _, q⟩ := r; exact q.elim
  | sc d => cases h
theorem see_list (h : c.data = some (.list ds)) (r : CRep K bad H c v) : ∃ a xs, v = .ref a ∧ H a = some (.lst xs) ∧ FzL K bad H ds xs := by
  cases c with
  | fz d => cases h; obtain ⟨a, xs, e, h1, _, h2⟩ := r; exact ⟨a, xs, e, h1, h2⟩
  | ow d => cases h; obtain ⟨a, e, xs, h1, h2⟩ := r; exact ⟨a, xs, e, h1, h2⟩
  | pw d => cases h; obtain ⟨a, e, xs, h1, h2⟩ := r; exact ⟨a, xs, e, h1, h2⟩
  | sc d => cases h
theorem see_tup (h : c.data = some (.tuple ds)) (r : CRep K bad H c v) : ∃ a xs, v = .ref a ∧ SqT K H a xs ∧ FzL K bad H ds xs := by
  cases c with
  | fz d => cases h; exact r
  | ow d => cases h; obtain ⟨a, _, q⟩ := r; exact q.elim
  | pw d => cases h; obtain ⟨a, _, q⟩ := r; exact q.elim
  | sc d => cases h
mutual
/-- no dict inside -/
def noD : PyData → Bool
  | .list xs => noDs xs
  | .tuple xs => noDs xs
  | .dict _ => false
  | _ => true
def noDs : List PyData → Bool
  | [] => true
  | d :: ds => noD d && noDs ds
end
mutual
/-- the depth of data without a dict; 65 of a dict -/
def dep : PyData → Nat
  | .list xs => depAll xs + 1
  | .tuple xs => depAll xs + 1
  | .dict _ => 65
  | _ => 0
def depAll : List PyData → Nat
  | [] => 0
  | d :: ds => max (dep d) (depAll ds)
end
mutual
theorem dep_le : ∀ d : PyData, dep d ≤ 64 → noD d = true ∧ d.depth = dep d
  | .none, _ => ⟨rfl, rfl⟩
  | .bool _, _ => ⟨rfl, rfl⟩
  | .int _, _ => ⟨rfl, rfl⟩
  | .str _, _ => ⟨rfl, rfl⟩
  | .list xs, h => by
    unfold dep at h
    obtain ⟨a, b⟩ := depAll_le xs (by omega)
    unfold noD dep PyData.depth
    exact ⟨a, by rw [b]⟩
  | .tuple xs, h => by
    unfold dep at h
    obtain ⟨a, b⟩ := depAll_le xs (by omega)
    unfold noD dep PyData.depth
    exact ⟨a, by rw [b]⟩
  | .dict _, h => absurd h (by unfold dep; decide)
theorem depAll_le : ∀ ds : List PyData, depAll ds ≤ 64 → noDs ds = true ∧ PyData.depthAll ds = depAll ds
  | [], _ => ⟨rfl, rfl⟩
  | d :: ds, h => by
    unfold depAll at h
    obtain ⟨a, b⟩ := dep_le d (by omega)
    obtain ⟨a', b'⟩ := depAll_le ds (by omega)
    unfold noDs depAll PyData.depthAll
    exact ⟨by rw [a, a']; rfl, by rw [b, b']⟩
end
theorem dep_depth {d : PyData} (h : dep d ≤ 64) : d.depth ≤ 64 := by rw [(dep_le d h).2]; exact h
mutual
theorem Fz.dp : ∀ {d : PyData} {v : V}, Fz K bad H d v → noD d = true → Dp K H v d
  | .none, _, h, _ => by cases (show _ = _ from h); exact .non
  | .bool b, _, h, _ => by cases (show _ = _ from h); exact .bl b
  | .int i, _, h, _ => by cases (show _ = _ from h); exact .int i
  | .str x, _, h, _ => by
    obtain ⟨e, _⟩ := h
    subst e
    exact .str x
  | .list ds, _, h, n => by
    obtain ⟨a, xs, e, h1, _, h2⟩ := h
    subst e
    exact .lst (SqL.of h1) (FzL.dp h2 n)
  | .tuple ds, _, h, n => by
    obtain ⟨a, xs, e, h1, h2⟩ := h
    subst e
    exact .tup h1 (FzL.dp h2 n)
  | .dict _, _, h, n => by cases n
theorem FzL.dp : ∀ {ds : List PyData} {vs : List V}, FzL K bad H ds vs → noDs ds = true → DpAll K H vs ds
  | [], vs, h, _ => by
    have e : vs = [] := h
    subst e
    exact .nil
  | d :: ds, vs, h, n => by
    obtain ⟨v, r, e, h1, h2⟩ := h
    subst e
    unfold noDs at n
    rw [Bool.and_eq_true] at n
    exact .cons (Fz.dp h1 n.1) (FzL.dp h2 n.2)
end
mutual
theorem Fz.lay : ∀ {d : PyData} {v : V}, Fz K bad H d v → noD d = true → d.canLay0 = true
  | .none, _, _, _ => rfl
  | .bool b, _, _, _ => rfl
  | .int i, _, _, _ => rfl
  | .str x, _, h, _ => by
    have := h.2
    unfold okS at this
    rw [Bool.and_eq_true] at this
    exact this.1
  | .list ds, _, h, n => by
    obtain ⟨a, xs, e, h1, _, h2⟩ := h
    unfold PyData.canLay0
    exact FzL.lay h2 n
  | .tuple ds, _, h, n => by
    obtain ⟨a, xs, e, h1, h2⟩ := h
    unfold PyData.canLay0
    exact FzL.lay h2 n
  | .dict _, _, h, n => by cases n
theorem FzL.lay : ∀ {ds : List PyData} {vs : List V}, FzL K bad H ds vs → noDs ds = true → PyData.canLayAll0 ds = true
  | [], vs, h, _ => rfl
  | d :: ds, vs, h, n => by
    obtain ⟨v, r, e, h1, h2⟩ := h
    unfold noDs at n
    rw [Bool.and_eq_true] at n
    unfold PyData.canLayAll0
    rw [Fz.lay h1 n.1, FzL.lay h2 n.2]
    rfl
end
theorem see_dp {d : PyData} (h : c.data = some d) (r : CRep K bad H c v) (n : noD d = true) : Dp K H v d ∧ d.canLay0 = true := by
  cases d with
  | list ds =>
    obtain ⟨a, xs, e, h1, h2⟩ := see_list h r
    subst e
    refine ⟨.lst (SqL.of h1) (h2.dp n), ?_⟩
    unfold PyData.canLay0
    exact h2.lay n
  | tuple ds =>
    obtain ⟨a, xs, e, h1, h2⟩ := see_tup h r
    subst e
    refine ⟨.tup h1 (h2.dp n), ?_⟩
    unfold PyData.canLay0
    exact h2.lay n
  | none => exact ⟨by rw [see_none h r]; exact .non, rfl⟩
  | bool b => exact ⟨by rw [see_bool h r]; exact .bl b, rfl⟩
  | int b => exact ⟨by rw [see_int h r]; exact .int b, rfl⟩
  | str b =>
    obtain ⟨e, h2⟩ := see_str h r
    subst e
    exact ⟨.str b, Fz.lay (K := K) (bad := bad) (H := H) (d := .str b) (v := .str b) ⟨rfl, h2⟩ rfl⟩
  | dict kvs => cases n
end

/-! ### operations -/
noncomputable def semAdd : List C → Option C
  | [a, b] => match a.data, b.data with
    | some (.int i), some (.int j) => some (.fz (.int (i + j)))
    | some (.str x), some (.str y) => if fits (x.cps.toList.length + y.cps.toList.length ≤ 16777216) then some (.fz (S (x.cps.toList ++ y.cps.toList))) else none
    | some (.list xs), some (.list ys) => if fits (xs.length + ys.length ≤ 16777216) then some (.ow (.list (xs ++ ys))) else none
    | some (.tuple xs), some (.tuple ys) => if fits (xs.length + ys.length ≤ 16777216) then some (.fz (.tuple (xs ++ ys))) else none
    | _, _ => none
  | _ => none
def semSub : List C → Option C
  | [a, b] => match a.data, b.data with
    | some (.int i), some (.int j) => some (.fz (.int (i - j)))
    | _, _ => none
  | _ => none
noncomputable def mulOk (i j : Int) : Bool := fits ((-18446744073709551616 < i ∧ i < 18446744073709551616) ∨ (-18446744073709551616 < j ∧ j < 18446744073709551616) ∨ i.natAbs.log2 + j.natAbs.log2 < 1000000)
noncomputable def semMul : List C → Option C
  | [a, b] => match a.data, b.data with
    | some (.int i), some (.int j) => if mulOk i j then some (.fz (.int (i * j))) else none
    | some (.str x), some (.int j) => if fits (-16777216 ≤ j ∧ j < 16777216 ∧ x.cps.toList.length * j.toNat ≤ 16777216) then some (.fz (S (List.replicate j.toNat x.cps.toList).flatten)) else none
    | some (.list xs), some (.int j) => if fits (-16777216 ≤ j ∧ j < 16777216 ∧ xs.length * j.toNat ≤ 16777216) then some (.ow (.list (List.replicate j.toNat xs).flatten)) else none
    | _, _ => none
  | _ => none
def semMod : List C → Option C
  | [a, b] => match a.data, b.data with
    | some (.int i), some (.int j) => if 0 < j then some (.fz (.int (i % j))) else none
    | _, _ => none
  | _ => none
noncomputable def semDiv : List C → Option C
  | [a, b] => match a.data, b.data with
    | some (.int i), some (.int j) => if fits (0 < j ∧ j.natAbs.log2 < 9000) then some (.fz (.int (i / j))) else none
    | _, _ => none
  | _ => none
noncomputable def semPow : List C → Option C
  | [a, b] => match a.data, b.data with
    | some (.int i), some (.int j) => if fits (0 ≤ j ∧ j ≤ 1000000 ∧ i.natAbs < 18446744073709551616) then some (.fz (.int (i ^ j.toNat))) else none
    | _, _ => none
  | _ => none
def semNeg : List C → Option C
  | [a] => match a.data with
    | some (.int i) => some (.fz (.int (-i)))
    | _ => none
  | _ => none
def semLt : List C → Option C
  | [a, b] => match a.data, b.data with
    | some (.int i), some (.int j) => some (.fz (.bool (decide (i < j))))
    | some (.str x), some (.str y) => some (.fz (.bool (decide (x.cps.toList < y.cps.toList))))
    | _, _ => none
  | _ => none
def semLe : List C → Option C
  | [a, b] => match a.data, b.data with
    | some (.int i), some (.int j) => some (.fz (.bool (decide (i ≤ j))))
    | some (.str x), some (.str y) => some (.fz (.bool (!decide (y.cps.toList < x.cps.toList))))
    | _, _ => none
  | _ => none
def semGt : List C → Option C
  | [a, b] => match a.data, b.data with
    | some (.int i), some (.int j) => some (.fz (.bool (decide (j < i))))
    | some (.str x), some (.str y) => some (.fz (.bool (decide (y.cps.toList < x.cps.toList))))
    | _, _ => none
  | _ => none
def semGe : List C → Option C
  | [a, b] => match a.data, b.data with
    | some (.int i), some (.int j) => some (.fz (.bool (decide (j ≤ i))))
    | some (.str x), some (.str y) => some (.fz (.bool (!decide (x.cps.toList < y.cps.toList))))
    | _, _ => none
  | _ => none
def semEq : List C → Option C
  | [a, b] => match a.data, b.data with
    | some d, some e => if dep d ≤ 64 ∧ dep e ≤ 64 then some (.fz (.bool (PyData.eqv d e))) else none
    | _, _ => none
  | _ => none
def semNe : List C → Option C
  | [a, b] => match a.data, b.data with
    | some d, some e => if dep d ≤ 64 ∧ dep e ≤ 64 then some (.fz (.bool (!PyData.eqv d e))) else none
    | _, _ => none
  | _ => none
def isNone : PyData → Bool
  | .none => true
  | _ => false
def semIsN : List C → Option C
  | [a, .fz .none] => match a with
    | .fz d => some (.fz (.bool (isNone d)))
    | .ow _ => some (.fz (.bool false))
    | .pw _ => some (.fz (.bool false))
    | _ => none
  | _ => none
def semNotN : List C → Option C
  | [a, .fz .none] => match a with
    | .fz d => some (.fz (.bool (!isNone d)))
    | .ow _ => some (.fz (.bool true))
    | .pw _ => some (.fz (.bool true))
    | _ => none
  | _ => none
def semLen : List C → Option C
  | [.sc ns] => some (.fz (.int ns.length))
  | [a] => match a.data with
    | some (.str x) => some (.fz (.int x.cps.toList.length))
    | some (.list xs) => some (.fz (.int xs.length))
    | some (.tuple xs) => some (.fz (.int xs.length))
    | _ => none
  | _ => none
def semAbs : List C → Option C
  | [a] => match a.data with
    | some (.int i) => some (.fz (.int (if i < 0 then -i else i)))
    | _ => none
  | _ => none
def semInt : List C → Option C
  | [a] => match a.data with
    | some (.int i) => some (.fz (.int i))
    | some (.bool b) => some (.fz (.int (if b then 1 else 0)))
    | _ => none
  | _ => none
def semMax2 : List C → Option C
  | [a, b] => match a.data, b.data with
    | some (.int i), some (.int j) => some (.fz (.int (if j > i then j else i)))
    | _, _ => none
  | _ => none
def semMin2 : List C → Option C
  | [a, b] => match a.data, b.data with
    | some (.int i), some (.int j) => some (.fz (.int (if j < i then j else i)))
    | _, _ => none
  | _ => none
def strsOf : List D → Option (List Str)
  | [] => some []
  | .str x :: r => match strsOf r with
    | some ys => some (x :: ys)
    | none => none
  | _ => none
def joinS (sep : List Nat) : List (List Nat) → List Nat
  | [] => []
  | [x] => x
  | x :: y :: r => x ++ sep ++ joinS sep (y :: r)
noncomputable def semJoin : List C → Option C
  | [a, b] => match a.data, b.data with
    | some (.str x), some (.list ds) => match strsOf ds with
      | some ys => if fits ((ys.map (fun y => y.cps.toList.length)).sum + ys.length * x.cps.toList.length ≤ 16777216) then some (.fz (S (joinS x.cps.toList (ys.map fun y => y.cps.toList)))) else none
      | none => none
    | some (.str x), some (.tuple ds) => match strsOf ds with
      | some ys => if fits ((ys.map (fun y => y.cps.toList.length)).sum + ys.length * x.cps.toList.length ≤ 16777216) then some (.fz (S (joinS x.cps.toList (ys.map fun y => y.cps.toList)))) else none
      | none => none
    | _, _ => none
  | _ => none
def semIx : List C → Option C
  | [.sc ns, b] => match b.data with
    | some (.int i) => match atI ns i with
      | some n => some (.fz (.int n))
      | none => none
    | _ => none
  | [a, b] => match a.data, b.data with
    | some (.str x), some (.int i) => match atI x.cps.toList i with
      | some n => some (.fz (S [n]))
      | none => none
    | some (.list xs), some (.int i) => match atI xs i with
      | some d => some (.fz d)
      | none => none
    | some (.tuple xs), some (.int i) => match atI xs i with
      | some d => some (.fz d)
      | none => none
    | _, _ => none
  | _ => none
def cutL {α : Type} (xs : List α) (lo hi : Option Int) : List α := (xs.drop (HT.sIx xs.length 0 lo)).take (HT.sIx xs.length xs.length hi - HT.sIx xs.length 0 lo)
def cutD (a : C) (lo hi : Option Int) : Option C := match a.data with
  | some (.str x) => some (.fz (S (cutL x.cps.toList lo hi)))
  | some (.list xs) => some (.ow (.list (cutL xs lo hi)))
  | some (.tuple xs) => some (.fz (.tuple (cutL xs lo hi)))
  | _ => none
def intOf (c : C) : Option Int := match c.data with
  | some (.int i) => some i
  | _ => none
def semSl01 : List C → Option C
  | [a, b] => match intOf b with
    | some i => cutD a none (some i)
    | none => none
  | _ => none
def semSl10 : List C → Option C
  | [a, b] => match intOf b with
    | some i => cutD a (some i) none
    | none => none
  | _ => none
def semSl11 : List C → Option C
  | [a, b, c] => match intOf b, intOf c with
    | some i, some j => cutD a (some i) (some j)
    | _, _ => none
  | _ => none
def semSl00 : List C → Option C
  | [a] => cutD a none none
  | _ => none
end DL
set_option Elab.async false
set_option linter.all false
set_option maxRecDepth 100000
set_option maxHeartbeats 4000000
namespace DL
open PySem PySem.Spec PyProof.Rows L2
section
variable {K : PySem.W.Frag} {B bad : Addr → Prop} {H H' : Hp} {c : C} {v x : V} {X : Cx} {i : Int} {b : Bool} {z : Str} {ds : List PyData}
theorem Ok2.mk {r : R2} {sem : List C → Option C} (h : ∀ (bad : Addr → Prop) (H : Hp) (x y : V) (a b c : C) (Q : VK), (∀ a, bad a → H a ≠ none) → CRep K bad H a x → CRep K bad H b y → sem [a, b] = some c → (∀ v H', Ext H H' → NewRep K bad H H' c v → Q v H') → r x y H Q) : Ok2 K r sem := by
  intro bad H vs cs c Q trk hr hs q x y e
  subst e
  cases cs with
  | nil => cases (show _ = _ from hr)
  | cons a cs =>
    obtain ⟨x', r', e, ra, hr⟩ := hr
    cases e
    cases cs with
    | nil => cases (show _ = _ from hr)
    | cons b cs =>
      obtain ⟨y', r'', e, rb, hr⟩ := hr
      cases e
      cases cs with
      | nil => exact h bad H x y a b c Q trk ra rb hs q
      | cons d cs =>
        obtain ⟨_, _, e, _⟩ := hr
        cases e
theorem Ok1.mk {r : V → Hp → VK → Prop} {sem : List C → Option C} (h : ∀ (bad : Addr → Prop) (H : Hp) (x : V) (a c : C) (Q : VK), (∀ a, bad a → H a ≠ none) → CRep K bad H a x → sem [a] = some c → (∀ v H', Ext H H' → NewRep K bad H H' c v → Q v H') → r x H Q) : Ok K (r1 r) sem := by
  intro bad H vs cs c Q trk hr hs q x e
  subst e
  cases cs with
  | nil => cases (show _ = _ from hr)
  | cons a cs =>
    obtain ⟨x', r', e, ra, hr⟩ := hr
    cases e
    cases cs with
    | nil => exact h bad H x a c Q trk ra hs q
    | cons d cs =>
      obtain ⟨_, _, e, _⟩ := hr
      cases e
/-- one operand | two | three -/
theorem OkL1 {r : List V → Hp → VK → Prop} {sem : List C → Option C} (hn : ∀ cs, sem cs ≠ none → cs.length = 1) (h : ∀ (bad : Addr → Prop) (H : Hp) (x : V) (a c : C) (Q : VK), (∀ a, bad a → H a ≠ none) → CRep K bad H a x → sem [a] = some c → (∀ v H', Ext H H' → NewRep K bad H H' c v → Q v H') → r [x] H Q) : Ok K r sem := by
  intro bad H vs cs c Q trk hr hs q
  have hl := hn cs (by rw [hs]; exact fun z => by cases z)
  match cs, hl with
  | [a], _ =>
    obtain ⟨x', r', e, ra, hr⟩ := hr
    cases (show r' = [] from hr)
    subst e
    exact h bad H x' a c Q trk ra hs q
theorem OkL2 {r : List V → Hp → VK → Prop} {sem : List C → Option C} (hn : ∀ cs, sem cs ≠ none → cs.length = 2) (h : ∀ (bad : Addr → Prop) (H : Hp) (x y : V) (a b c : C) (Q : VK), (∀ a, bad a → H a ≠ none) → CRep K bad H a x → CRep K bad H b y → sem [a, b] = some c → (∀ v H', Ext H H' → NewRep K bad H H' c v → Q v H') → r [x, y] H Q) : Ok K r sem := by
  intro bad H vs cs c Q trk hr hs q
  have hl := hn cs (by rw [hs]; exact fun z => by cases z)
  match cs, hl with
  | [a, b], _ =>
    obtain ⟨x', r', e, ra, y', r'', e', rb, hr⟩ := hr
    cases (show r'' = [] from hr)
    subst e'
    subst e
    exact h bad H x' y' a b c Q trk ra rb hs q
theorem OkL3 {r : List V → Hp → VK → Prop} {sem : List C → Option C} (hn : ∀ cs, sem cs ≠ none → cs.length = 3) (h : ∀ (bad : Addr → Prop) (H : Hp) (x y z : V) (a b d c : C) (Q : VK), (∀ a, bad a → H a ≠ none) → CRep K bad H a x → CRep K bad H b y → CRep K bad H d z → sem [a, b, d] = some c → (∀ v H', Ext H H' → NewRep K bad H H' c v → Q v H') → r [x, y, z] H Q) : Ok K r sem := by
  intro bad H vs cs c Q trk hr hs q
  have hl := hn cs (by rw [hs]; exact fun z => by cases z)
  match cs, hl with
  | [a, b, d], _ =>
    obtain ⟨x', r', e, ra, y', r'', e', rb, z', r''', e'', rd, hr⟩ := hr
    cases (show r''' = [] from hr)
    subst e''
    subst e'
    subst e
    exact h bad H x' y' z' a b d c Q trk ra rb rd hs q
theorem OpRor {f : Value → Value → Sem Value} {r r' : R2} (h : OpR X f r) (h' : OpR X f r') : OpR X f (fun x y H Q => r x y H Q ∨ r' x y H Q) := OpR.or h h'
/-- a new list's data -/
theorem new_list {a : Addr} {xs : List V} (trk : ∀ a, bad a → H a ≠ none) (ha : H a = none) (f : FzL K bad H ds xs) : NewRep K bad H (upd H a (.lst xs)) (.ow (.list ds)) (.ref a) :=
  ⟨a, rfl, ha, xs, upd_same, f.mono (Ext.new ha).fr fun b z n => z.elim id fun z => by
    subst z
    exact absurd ha n⟩
theorem new_tup {a : Addr} {xs : List V} (ha : H a = none) (f : FzL K bad H ds xs) : NewRep K bad H (upd H a (.tup xs)) (.fz (.tuple ds)) (.ref a) :=
  ⟨a, xs, rfl, SqT.of upd_same, f.mono (Ext.new ha).fr fun _ z _ => z⟩
theorem okS_append {x y : Str} (h1 : okS x = true) (h2 : okS y = true) (hl : x.cps.toList.length + y.cps.toList.length ≤ 16777216) : okS ⟨⟨x.cps.toList ++ y.cps.toList⟩⟩ = true := by
  rw [okS_iff] at h1 h2 ⊢
  refine ⟨fun c hc => ?_, by show (x.cps.toList ++ y.cps.toList).length ≤ _; rw [List.length_append]; exact hl⟩
  rcases List.mem_append.mp hc with z | z
  · exact h1.1 c z
  · exact h2.1 c z
theorem okS_sub {x : Str} {l : List Nat} (h1 : okS x = true) (hl : ∀ c ∈ l, c ∈ x.cps.toList) (hn : l.length ≤ 16777216) : okS ⟨⟨l⟩⟩ = true := by
  rw [okS_iff] at h1 ⊢
  exact ⟨fun c hc => h1.1 c (hl c hc), hn⟩
theorem app_eq {x y : Str} : x ++ y = (⟨⟨x.cps.toList ++ y.cps.toList⟩⟩ : Str) := by
  show (⟨x.cps ++ y.cps⟩ : Str) = _
  congr 1
  exact Array.toList_inj.mp (by simp)
def rAddD (K : PySem.W.Frag) : R2 := fun x y H Q => rI0 (fun i j => .int (i + j)) x y H Q ∨ (∃ i j, x = .str i ∧ y = .str j ∧ i.length + j.length ≤ sizeLine ∧ Q (.str (i ++ j)) H) ∨ rCat x y H Q ∨ rCatA K x y H Q
theorem op_addD : OpR X (binaryOp .Add) (rAddD X.K) := OpR.or op_add (OpR.or op_add_str (OpR.or op_cat op_catA))
theorem line_eq {n : Nat} (h : n ≤ 16777216) : n ≤ sizeLine := by rw [sizeLine_eq]; exact h
theorem ok_add : Ok2 K (rAddD K) semAdd := Ok2.mk fun bad H x y a b c Q trk ra rb hs q => by
  simp only [semAdd] at hs
  · split at hs
    · rename_i i j ha hb
      cases hs
      exact .inl ⟨i, j, see_int ha ra, see_int hb rb, q _ _ Ext.refl rfl⟩
    · rename_i s t ha hb
      split at hs
      · rename_i hl0
        have hl := of_fits hl0
        cases hs
        obtain ⟨e1, o1⟩ := see_str ha ra
        obtain ⟨e2, o2⟩ := see_str hb rb
        refine .inr (.inl ⟨s, t, e1, e2, line_eq hl, ?_⟩)
        rw [app_eq]
        exact q _ _ Ext.refl ⟨rfl, okS_append o1 o2 hl⟩
      · cases hs
    · rename_i xs ys ha hb
      split at hs
      · rename_i hl0
        have hl := of_fits hl0
        cases hs
        obtain ⟨a1, v1, e1, h1, f1⟩ := see_list ha ra
        obtain ⟨a2, v2, e2, h2, f2⟩ := see_list hb rb
        exact .inr (.inr (.inl ⟨a1, a2, v1, v2, e1, e2, h1, h2, by rw [f1.length, f2.length]; exact line_eq hl, fun p hp => q _ _ (Ext.new hp) (new_list trk hp (f1.append f2))⟩))
      · cases hs
    · rename_i xs ys ha hb
      split at hs
      · rename_i hl0
        have hl := of_fits hl0
        cases hs
        obtain ⟨a1, v1, e1, h1, f1⟩ := see_tup ha ra
        obtain ⟨a2, v2, e2, h2, f2⟩ := see_tup hb rb
        refine .inr (.inr (.inr ⟨a1, a2, v1, v2, e1, e2, h1, h2, by rw [f1.length, f2.length]; exact line_eq hl, fun n => ?_, fun n1 n2 => ?_, fun _ _ p hp => q _ _ (Ext.new hp) (new_tup hp (f1.append f2))⟩))
        · subst n
          have l1 : xs = [] := List.length_eq_zero_iff.mp f1.length.symm
          subst l1
          exact q _ _ Ext.refl ⟨a2, v2, rfl, h2, f2⟩
        · subst n2
          have l1 : ys = [] := List.length_eq_zero_iff.mp f2.length.symm
          subst l1
          exact q _ _ Ext.refl ⟨a1, v1, rfl, h1, by rw [List.append_nil]; exact f1⟩
      · cases hs
    · cases hs
theorem ok_sub : Ok2 K (rI0 fun i j => .int (i - j)) semSub := Ok2.mk fun bad H x y a b c Q trk ra rb hs q => by
  simp only [semSub] at hs
  · split at hs
    · rename_i i j ha hb
      cases hs
      exact ⟨i, j, see_int ha ra, see_int hb rb, q _ _ Ext.refl rfl⟩
    · cases hs
theorem mul_flat (x : Str) (j : Int) : Txt.mul x j = (⟨⟨(List.replicate j.toNat x.cps.toList).flatten⟩⟩ : Str) := by
  have fl : ∀ (n : Nat) (acc : Array Nat), ((List.replicate n x.cps).foldl (· ++ ·) acc).toList = acc.toList ++ (List.replicate n x.cps.toList).flatten := by
    intro n
    induction n with
    | zero => intro acc; simp
    | succ n ih =>
      intro acc
      rw [List.replicate_succ, List.foldl_cons, ih, List.replicate_succ, List.flatten_cons]
      simp
  unfold Txt.mul
  by_cases h1 : j < 1
  · rw [if_pos h1]
    have : j.toNat = 0 := by omega
    rw [this]
    rfl
  · rw [if_neg h1]
    by_cases h2 : (j == 1 || x.length == 0) = true
    · rw [if_pos h2]
      rw [Bool.or_eq_true] at h2
      rcases h2 with h2 | h2
      · have e : j = 1 := by simpa using h2
        subst e
        simp
      · have e : x.cps.toList = [] := by
          have : x.cps.size = 0 := by simpa [Str.length] using h2
          exact List.length_eq_zero_iff.mp (by simpa using this)
        rw [e]
        have : (List.replicate j.toNat ([] : List Nat)).flatten = [] := by simp
        rw [this]
        have e2 : x.cps = ⟨[]⟩ := Array.toList_inj.mp e
        cases x
        simp only at e2
        rw [e2]
    · rw [if_neg h2]
      congr 1
      apply Array.toList_inj.mp
      rw [fl]
      simp
theorem flatten_len {α : Type} (n : Nat) (l : List α) : (List.replicate n l).flatten.length = l.length * n := by
  induction n with
  | zero => simp
  | succ n ih => rw [List.replicate_succ, List.flatten_cons, List.length_append, ih, Nat.mul_succ, Nat.add_comm]
theorem op_mul_str : OpR X (binaryOp .Mult) (fun x y H Q => ∃ (z : Str) (j : Int), x = .str z ∧ y = .int j ∧ MulOk z j ∧ Q (.str (Txt.mul z j)) H) := by
  intro pins s σ H x y v u Q I rx ry h
  obtain ⟨z, j, rfl, rfl, hok, q⟩ := h
  obtain ⟨t, rfl⟩ := rx
  obtain ⟨t', rfl⟩ := ry
  exact SB.mul hok fun t' k => ⟨.str _, H, I.tok _, ⟨_, rfl⟩, q⟩
theorem mulOk_str {x : Str} {j : Int} (h0 : -16777216 ≤ j) (hj : j < 16777216) (h : x.cps.toList.length * j.toNat ≤ 16777216) : MulOk x j := by
  have hx : x.length = x.cps.toList.length := by simp [Str.length]
  refine ⟨by rw [Bool.or_eq_false_iff, decide_eq_false_iff_not, decide_eq_false_iff_not]; omega, fun h1 _ => ?_, fun h1 _ => ?_⟩
  · rw [hx]
    intro hgt
    have hp : 0 < j := by omega
    have e : (j.toNat : Int) = j := Int.toNat_of_nonneg (by omega)
    have h2 : (x.cps.toList.length : Int) * j ≤ 16777216 := by
      rw [← e]
      rw [← Int.natCast_mul]
      exact Int.ofNat_le.mpr h
    have h3 : (x.cps.toList.length : Int) ≤ (2 ^ 63 - 1) / j := by
      rw [Int.le_ediv_iff_mul_le hp]
      exact Int.le_trans h2 (by decide)
    exact absurd hgt (Int.not_lt.mpr h3)
  · rw [hx]
    show decide (x.cps.toList.length * j.toNat > sizeLine) = false
    have e : sizeLine = 16777216 := sizeLine_eq
    rw [e]
    exact decide_eq_false (by omega)
def rMulD : R2 := fun x y H Q => rI CMul (fun i j => .int (i * j)) x y H Q ∨ rI CMulW (fun i j => .int (i * j)) x y H Q ∨ (∃ (z : Str) (j : Int), x = .str z ∧ y = .int j ∧ MulOk z j ∧ Q (.str (Txt.mul z j)) H) ∨ rRep x y H Q
theorem op_mulD : OpR X (binaryOp .Mult) rMulD := OpR.or op_mul (OpR.or op_mulW (OpR.or op_mul_str op_rep))

theorem ok_mul : Ok2 K rMulD semMul := Ok2.mk fun bad H x y a b c Q trk ra rb hs q => by
  simp only [semMul] at hs
  split at hs
  · rename_i i j ha hb
    split at hs
    · rename_i hm
      cases hs
      have hm := of_fits hm
      have e1 := see_int ha ra
      have e2 := see_int hb rb
      rcases hm with hm | hm | hm
      · exact .inl ⟨i, j, e1, e2, .inl hm, q _ _ Ext.refl rfl⟩
      · exact .inl ⟨i, j, e1, e2, .inr hm, q _ _ Ext.refl rfl⟩
      · exact .inr (.inl ⟨i, j, e1, e2, hm, q _ _ Ext.refl rfl⟩)
    · cases hs
  · rename_i z j ha hb
    split at hs
    · rename_i hm0
      have hm := of_fits hm0
      cases hs
      obtain ⟨e1, o1⟩ := see_str ha ra
      have e2 := see_int hb rb
      refine .inr (.inr (.inl ⟨z, j, e1, e2, mulOk_str hm.1 hm.2.1 hm.2.2, ?_⟩))
      rw [mul_flat]
      refine q _ _ Ext.refl ⟨rfl, okS_sub o1 (fun c hc => ?_) (by rw [flatten_len]; exact hm.2.2)⟩
      obtain ⟨l, hl, hc⟩ := List.mem_flatten.mp hc
      rw [(List.mem_replicate.mp hl).2] at hc
      exact hc
    · cases hs
  · rename_i xs j ha hb
    split at hs
    · rename_i hm0
      have hm := of_fits hm0
      cases hs
      obtain ⟨a1, v1, e1, h1, f1⟩ := see_list ha ra
      have e2 := see_int hb rb
      refine .inr (.inr (.inr ⟨a1, j, v1, e1, e2, h1, by omega, by omega, by rw [f1.length]; exact line_eq hm.2.2, fun p hp => q _ _ (Ext.new hp) (new_list trk hp (f1.rep _))⟩))
    · cases hs
  · cases hs
theorem ok_mod : Ok2 K (rI (fun _ j => 0 < j) fun i j => .int (i % j)) semMod := Ok2.mk fun bad H x y a b c Q trk ra rb hs q => by
  simp only [semMod] at hs
  split at hs
  · rename_i i j ha hb
    split at hs
    · rename_i hm
      cases hs
      exact ⟨i, j, see_int ha ra, see_int hb rb, hm, q _ _ Ext.refl rfl⟩
    · cases hs
  · cases hs
theorem ok_div : Ok2 K (rI CDivW fun i j => .int (i / j)) semDiv := Ok2.mk fun bad H x y a b c Q trk ra rb hs q => by
  simp only [semDiv] at hs
  split at hs
  · rename_i i j ha hb
    split at hs
    · rename_i hm0
      have hm := of_fits hm0
      cases hs
      exact ⟨i, j, see_int ha ra, see_int hb rb, hm, q _ _ Ext.refl rfl⟩
    · cases hs
  · cases hs
theorem ok_pow : Ok2 K (rI CPow fun i j => .int (i ^ j.toNat)) semPow := Ok2.mk fun bad H x y a b c Q trk ra rb hs q => by
  simp only [semPow] at hs
  split at hs
  · rename_i i j ha hb
    split at hs
    · rename_i hm0
      have hm := of_fits hm0
      cases hs
      exact ⟨i, j, see_int ha ra, see_int hb rb, hm, q _ _ Ext.refl rfl⟩
    · cases hs
  · cases hs
theorem ok_neg : Ok K (r1 (rU fun i => .int (-i))) semNeg := Ok1.mk fun bad H x a c Q trk ra hs q => by
  simp only [semNeg] at hs
  split at hs
  · rename_i i ha
    cases hs
    exact ⟨i, see_int ha ra, q _ _ Ext.refl rfl⟩
  · cases hs
def rLtD : R2 := fun x y H Q => rI0 (fun i j => .bl (decide (i < j))) x y H Q ∨ ∃ i j, x = .str i ∧ y = .str j ∧ Q (.bl (decide (i.cps.toList < j.cps.toList))) H
def rLeD : R2 := fun x y H Q => rI0 (fun i j => .bl (decide (i ≤ j))) x y H Q ∨ ∃ i j, x = .str i ∧ y = .str j ∧ Q (.bl (!decide (j.cps.toList < i.cps.toList))) H
def rGtD : R2 := fun x y H Q => rI0 (fun i j => .bl (decide (j < i))) x y H Q ∨ ∃ i j, x = .str i ∧ y = .str j ∧ Q (.bl (decide (j.cps.toList < i.cps.toList))) H
def rGeD : R2 := fun x y H Q => rI0 (fun i j => .bl (decide (j ≤ i))) x y H Q ∨ ∃ i j, x = .str i ∧ y = .str j ∧ Q (.bl (!decide (i.cps.toList < j.cps.toList))) H
theorem op_ltD : OpR X (compareOp .Lt) rLtD := OpR.or op_lt op_lt_str
theorem op_leD : OpR X (compareOp .LtE) rLeD := OpR.or op_le op_le_str
theorem op_gtD : OpR X (compareOp .Gt) rGtD := OpR.or op_gt op_gt_str
theorem op_geD : OpR X (compareOp .GtE) rGeD := OpR.or op_ge op_ge_str
theorem ok_lt : Ok2 K rLtD semLt := Ok2.mk fun bad H x y a b c Q trk ra rb hs q => by
  simp only [semLt] at hs
  split at hs
  · rename_i i j ha hb
    cases hs
    exact .inl ⟨i, j, see_int ha ra, see_int hb rb, q _ _ Ext.refl rfl⟩
  · rename_i i j ha hb
    cases hs
    exact .inr ⟨i, j, (see_str ha ra).1, (see_str hb rb).1, q _ _ Ext.refl rfl⟩
  · cases hs
theorem ok_le : Ok2 K rLeD semLe := Ok2.mk fun bad H x y a b c Q trk ra rb hs q => by
  simp only [semLe] at hs
  split at hs
  · rename_i i j ha hb
    cases hs
    exact .inl ⟨i, j, see_int ha ra, see_int hb rb, q _ _ Ext.refl rfl⟩
  · rename_i i j ha hb
    cases hs
    exact .inr ⟨i, j, (see_str ha ra).1, (see_str hb rb).1, q _ _ Ext.refl rfl⟩
  · cases hs
theorem ok_gt : Ok2 K rGtD semGt := Ok2.mk fun bad H x y a b c Q trk ra rb hs q => by
  simp only [semGt] at hs
  split at hs
  · rename_i i j ha hb
    cases hs
    exact .inl ⟨i, j, see_int ha ra, see_int hb rb, q _ _ Ext.refl rfl⟩
  · rename_i i j ha hb
    cases hs
    exact .inr ⟨i, j, (see_str ha ra).1, (see_str hb rb).1, q _ _ Ext.refl rfl⟩
  · cases hs
theorem ok_ge : Ok2 K rGeD semGe := Ok2.mk fun bad H x y a b c Q trk ra rb hs q => by
  simp only [semGe] at hs
  split at hs
  · rename_i i j ha hb
    cases hs
    exact .inl ⟨i, j, see_int ha ra, see_int hb rb, q _ _ Ext.refl rfl⟩
  · rename_i i j ha hb
    cases hs
    exact .inr ⟨i, j, (see_str ha ra).1, (see_str hb rb).1, q _ _ Ext.refl rfl⟩
  · cases hs
theorem shaped_of {d : PyData} (h1 : d.canLay0 = true) (h2 : d.depth ≤ 64) : SeqAt.shaped d = true := by
  unfold SeqAt.shaped
  rw [h1, decide_eq_true h2]
  rfl
theorem ok_eq : Ok2 K (rEqD K) semEq := Ok2.mk fun bad H x y a b c Q trk ra rb hs q => by
  simp only [semEq] at hs
  split at hs
  · rename_i d e ha hb
    split at hs
    · rename_i hm
      cases hs
      obtain ⟨d1, l1⟩ := see_dp ha ra (dep_le _ hm.1).1
      obtain ⟨d2, l2⟩ := see_dp hb rb (dep_le _ hm.2).1
      exact ⟨d, e, d1, d2, shaped_of l1 (dep_depth hm.1), shaped_of l2 (dep_depth hm.2), q _ _ Ext.refl rfl⟩
    · cases hs
  · cases hs
theorem ok_ne : Ok2 K (rNeD K) semNe := Ok2.mk fun bad H x y a b c Q trk ra rb hs q => by
  simp only [semNe] at hs
  split at hs
  · rename_i d e ha hb
    split at hs
    · rename_i hm
      cases hs
      obtain ⟨d1, l1⟩ := see_dp ha ra (dep_le _ hm.1).1
      obtain ⟨d2, l2⟩ := see_dp hb rb (dep_le _ hm.2).1
      exact ⟨d, e, d1, d2, shaped_of l1 (dep_depth hm.1), shaped_of l2 (dep_depth hm.2), q _ _ Ext.refl rfl⟩
    · cases hs
  · cases hs
theorem isNone_rep {d : PyData} (h : Fz K bad H d v) : decide (v = .non) = isNone d := by
  cases d with
  | none => cases (show _ = _ from h); rfl
  | bool b => cases (show _ = _ from h); rfl
  | int b => cases (show _ = _ from h); rfl
  | str b => rw [h.1]; rfl
  | list b => obtain ⟨a, xs, e, _⟩ := h; rw [e]; rfl
  | tuple b => obtain ⟨a, xs, e, _⟩ := h; rw [e]; rfl
  | dict b => obtain ⟨a, e, _⟩ := h; rw [e]; rfl
theorem ok_isN : Ok2 K (fun x y H Q => y = .non ∧ Q (.bl (decide (x = .non))) H) semIsN := Ok2.mk fun bad H x y a b c Q trk ra rb hs q => by
  unfold semIsN at hs
  split at hs
  · rename_i a' e
    cases e
    have ey : y = .non := rb
    refine ⟨ey, ?_⟩
    split at hs
    · rename_i d
      cases hs
      rw [isNone_rep ra]
      exact q _ _ Ext.refl rfl
    · cases hs
      obtain ⟨a, e, _⟩ := ra
      rw [e]
      exact q _ _ Ext.refl rfl
    · cases hs
      obtain ⟨a, e, _⟩ := ra
      rw [e]
      exact q _ _ Ext.refl rfl
    · cases hs
  · cases hs
theorem ok_notN : Ok2 K (fun x y H Q => y = .non ∧ Q (.bl (!decide (x = .non))) H) semNotN := Ok2.mk fun bad H x y a b c Q trk ra rb hs q => by
  unfold semNotN at hs
  split at hs
  · rename_i a' e
    cases e
    have ey : y = .non := rb
    refine ⟨ey, ?_⟩
    split at hs
    · rename_i d
      cases hs
      rw [isNone_rep ra]
      exact q _ _ Ext.refl rfl
    · cases hs
      obtain ⟨a, e, _⟩ := ra
      rw [e]
      exact q _ _ Ext.refl rfl
    · cases hs
      obtain ⟨a, e, _⟩ := ra
      rw [e]
      exact q _ _ Ext.refl rfl
    · cases hs
  · cases hs
end
end DL
set_option Elab.async false
set_option linter.all false
set_option maxRecDepth 100000
set_option maxHeartbeats 4000000
namespace DL
open PySem PySem.Spec PyProof.Rows L2
section
variable {K : PySem.W.Frag} {B bad : Addr → Prop} {H H' : Hp} {c : C} {v x : V} {X : Cx} {i : Int} {b : Bool} {z : Str} {ds : List PyData}
theorem see_sc {ns : List Int} (r : CRep K bad H (.sc ns) v) : ∃ a, v = .ref a ∧ SqL K H a (ns.map V.int) := by
  obtain ⟨a, e, h⟩ := r
  exact ⟨a, e, h.seq⟩
theorem ok_len : Ok K (fun xs H Q => ∃ x n, xs = [x] ∧ LenV K x H n ∧ Q (.int n) H) semLen := by
  refine OkL1 (fun cs h => ?_) fun bad H x a c Q trk ra hs q => ?_
  · match cs, h with
    | [_], _ => rfl
    | [], h => exact absurd rfl h
    | _ :: _ :: _, h => exact absurd (by simp [semLen]) h
  · unfold semLen at hs
    split at hs
    · rename_i ns e
      cases e
      cases hs
      obtain ⟨a, rfl, h⟩ := see_sc ra
      exact ⟨_, _, rfl, .inl ⟨_, h, rfl⟩, by rw [List.length_map]; exact q _ _ Ext.refl rfl⟩
    · rename_i a' hn e
      cases e
      split at hs
      · rename_i z hz
        cases hs
        obtain ⟨rfl, o⟩ := see_str hz ra
        rw [okS_iff] at o
        have e1 : z.length = z.cps.toList.length := by simp [Str.length]
        exact ⟨_, z.cps.toList.length, rfl, ⟨by rw [e1]; exact line_eq o.2, e1.symm⟩, q _ _ Ext.refl rfl⟩
      · rename_i xs hz
        cases hs
        obtain ⟨a1, v1, rfl, h1, f1⟩ := see_list hz ra
        exact ⟨_, _, rfl, .inl ⟨_, SqL.of h1, rfl⟩, by rw [f1.length]; exact q _ _ Ext.refl rfl⟩
      · rename_i xs hz
        cases hs
        obtain ⟨a1, v1, rfl, h1, f1⟩ := see_tup hz ra
        exact ⟨_, _, rfl, .inr ⟨_, h1, rfl⟩, by rw [f1.length]; exact q _ _ Ext.refl rfl⟩
      · cases hs
    · cases hs
theorem ok_abs : Ok K (fun xs H Q => ∃ i, xs = [.int i] ∧ Q (.int (if i < 0 then -i else i)) H) semAbs := by
  refine OkL1 (fun cs h => ?_) fun bad H x a c Q trk ra hs q => ?_
  · match cs, h with
    | [_], _ => rfl
    | [], h => exact absurd rfl h
    | _ :: _ :: _, h => exact absurd rfl h
  · simp only [semAbs] at hs
    split at hs
    · rename_i i hz
      cases hs
      rw [see_int hz ra]
      exact ⟨i, rfl, q _ _ Ext.refl rfl⟩
    · cases hs
theorem ok_int : Ok K (fun xs H Q => (∃ i, xs = [.int i] ∧ Q (.int i) H) ∨ ∃ k, xs = [.bl k] ∧ Q (.int (if k then 1 else 0)) H) semInt := by
  refine OkL1 (fun cs h => ?_) fun bad H x a c Q trk ra hs q => ?_
  · match cs, h with
    | [_], _ => rfl
    | [], h => exact absurd rfl h
    | _ :: _ :: _, h => exact absurd rfl h
  · simp only [semInt] at hs
    split at hs
    · rename_i i hz
      cases hs
      rw [see_int hz ra]
      exact .inl ⟨i, rfl, q _ _ Ext.refl rfl⟩
    · rename_i i hz
      cases hs
      rw [see_bool hz ra]
      exact .inr ⟨i, rfl, q _ _ Ext.refl rfl⟩
    · cases hs
theorem ok_max2 : Ok K (fun xs H Q => ∃ i j, xs = [.int i, .int j] ∧ Q (.int (if j > i then j else i)) H) semMax2 := by
  refine OkL2 (fun cs h => ?_) fun bad H x y a b c Q trk ra rb hs q => ?_
  · match cs, h with
    | [_, _], _ => rfl
    | [], h => exact absurd rfl h
    | [_], h => exact absurd rfl h
    | _ :: _ :: _ :: _, h => exact absurd rfl h
  · simp only [semMax2] at hs
    split at hs
    · rename_i i j hz hy
      cases hs
      rw [see_int hz ra, see_int hy rb]
      exact ⟨i, j, rfl, q _ _ Ext.refl rfl⟩
    · cases hs
theorem ok_min2 : Ok K (fun xs H Q => ∃ i j, xs = [.int i, .int j] ∧ Q (.int (if j < i then j else i)) H) semMin2 := by
  refine OkL2 (fun cs h => ?_) fun bad H x y a b c Q trk ra rb hs q => ?_
  · match cs, h with
    | [_, _], _ => rfl
    | [], h => exact absurd rfl h
    | [_], h => exact absurd rfl h
    | _ :: _ :: _ :: _, h => exact absurd rfl h
  · simp only [semMin2] at hs
    split at hs
    · rename_i i j hz hy
      cases hs
      rw [see_int hz ra, see_int hy rb]
      exact ⟨i, j, rfl, q _ _ Ext.refl rfl⟩
    · cases hs
theorem atI_map {α β : Type} {xs : List α} {ys : List β} {i : Int} {d : α} (hl : ys.length = xs.length) (h : atI xs i = some d) : ∃ j : Nat, xs[j]? = some d ∧ ∀ y, ys[j]? = some y → atI ys i = some y := by
  unfold atI at h ⊢
  rw [hl]
  cases e : ixN xs.length i with
  | none =>
    rw [e] at h
    cases h
  | some j =>
    rw [e] at h
    exact ⟨j, h, fun y hy => hy⟩
def rIxD (K : PySem.W.Frag) : R2 := rIx K
theorem ok_ix : Ok2 K (rIx K) semIx := Ok2.mk fun bad H x y a b c Q trk ra rb hs q => by
  unfold semIx at hs
  split at hs
  · rename_i ns b' e
    cases e
    split at hs
    · rename_i i hi
      split at hs
      · rename_i n hn
        cases hs
        obtain ⟨a, rfl, h⟩ := see_sc ra
        rw [see_int hi rb]
        obtain ⟨j, h1, h2⟩ := atI_map (ys := ns.map V.int) (by simp) hn
        exact .inl ⟨a, _, i, .int n, rfl, rfl, h, h2 _ (by rw [List.getElem?_map, h1]; rfl), q _ _ Ext.refl rfl⟩
      · cases hs
    · cases hs
  · rename_i a' b' hn e
    cases e
    split at hs
    · rename_i z i hz hi
      split at hs
      · rename_i n hn
        cases hs
        obtain ⟨rfl, o⟩ := see_str hz ra
        rw [see_int hi rb]
        have o2 := o
        rw [okS_iff] at o2
        have e1 : z.length = z.cps.toList.length := by simp [Str.length]
        refine .inr (.inr ⟨z, i, n, rfl, rfl, by rw [e1]; exact line_eq o2.2, hn, q _ _ Ext.refl ⟨rfl, okS_sub o (fun c hc => ?_) (by simp)⟩⟩)
        obtain ⟨j, h1, _⟩ := atI_map (ys := z.cps.toList) rfl hn
        have e : c = n := by simpa using hc
        rw [e]
        exact List.mem_of_getElem? h1
      · cases hs
    · rename_i xs i hz hi
      split at hs
      · rename_i d hn
        cases hs
        obtain ⟨a1, v1, rfl, h1, f1⟩ := see_list hz ra
        rw [see_int hi rb]
        obtain ⟨j, h2, h3⟩ := atI_map (ys := v1) f1.length hn
        obtain ⟨w, h4, h5⟩ := f1.get h2
        exact .inl ⟨a1, v1, i, w, rfl, rfl, SqL.of h1, h3 w h4, q _ _ Ext.refl h5⟩
      · cases hs
    · rename_i xs i hz hi
      split at hs
      · rename_i d hn
        cases hs
        obtain ⟨a1, v1, rfl, h1, f1⟩ := see_tup hz ra
        rw [see_int hi rb]
        obtain ⟨j, h2, h3⟩ := atI_map (ys := v1) f1.length hn
        obtain ⟨w, h4, h5⟩ := f1.get h2
        exact .inr (.inl ⟨a1, v1, i, w, rfl, rfl, h1, h3 w h4, q _ _ Ext.refl h5⟩)
      · cases hs
    · cases hs
  · cases hs

/-! slices -/
def rSlD (K : PySem.W.Frag) : V → Option Int → Option Int → Hp → VK → Prop := fun x lo hi H Q => rSlS x lo hi H Q ∨ rSlL K x lo hi H Q ∨ rSlA K x lo hi H Q
theorem sl_D : SlR X (rSlD X.K) := SlR.or sl_str (SlR.or sl_list sl_tupA)
theorem cutS_eq (z : Str) (lo hi : Option Int) : cutS z lo hi = (⟨⟨cutL z.cps.toList lo hi⟩⟩ : Str) := by
  have e1 : z.length = z.cps.toList.length := by simp [Str.length]
  unfold cutS cutL
  rw [e1]
theorem cutL_mem {α : Type} {xs : List α} {lo hi : Option Int} {y : α} (h : y ∈ cutL xs lo hi) : y ∈ xs := List.mem_of_mem_drop (List.mem_of_mem_take h)
theorem cutL_len {α : Type} (xs : List α) (lo hi : Option Int) : (cutL xs lo hi).length ≤ xs.length := by
  unfold cutL
  rw [List.length_take, List.length_drop]
  omega
theorem FzL.cut {xs : List V} (h : FzL K bad H ds xs) (lo hi : Option Int) : FzL K bad H (cutL ds lo hi) (cutV xs lo hi) := by
  unfold cutL cutV
  rw [h.length]
  exact (h.drop _).take _
theorem cut_whole {α : Type} {xs : List α} {lo hi : Option Int} (h : HT.sIx xs.length 0 lo = 0 ∧ HT.sIx xs.length xs.length hi = xs.length) : cutL xs lo hi = xs := by
  unfold cutL
  rw [h.1, h.2]
  simp
theorem ok_cut {a c : C} {lo hi : Option Int} {Q : VK} (trk : ∀ a, bad a → H a ≠ none) (ra : CRep K bad H a x) (hs : cutD a lo hi = some c) (q : ∀ v H', Ext H H' → NewRep K bad H H' c v → Q v H') : rSlD K x lo hi H Q := by
  unfold cutD at hs
  split at hs
  · rename_i z hz
    cases hs
    obtain ⟨rfl, o⟩ := see_str hz ra
    have o2 := o
    rw [okS_iff] at o2
    have e1 : z.length = z.cps.toList.length := by simp [Str.length]
    refine .inl ⟨z, rfl, by rw [e1]; exact line_eq o2.2, ?_⟩
    rw [cutS_eq]
    exact q _ _ Ext.refl ⟨rfl, okS_sub o (fun c hc => cutL_mem hc) (Nat.le_trans (cutL_len _ _ _) o2.2)⟩
  · rename_i xs hz
    cases hs
    obtain ⟨a1, v1, rfl, h1, f1⟩ := see_list hz ra
    exact .inr (.inl ⟨a1, v1, rfl, SqL.of h1, fun p hp => q _ _ (Ext.new hp) (new_list trk hp (f1.cut lo hi))⟩)
  · rename_i xs hz
    cases hs
    obtain ⟨a1, v1, rfl, h1, f1⟩ := see_tup hz ra
    refine .inr (.inr ⟨a1, v1, rfl, h1, fun w => q _ _ Ext.refl ⟨a1, v1, rfl, h1, ?_⟩, fun w p hp => q _ _ (Ext.new hp) (new_tup hp (f1.cut lo hi))⟩)
    rw [cut_whole (by rw [← f1.length]; exact w)]
    exact f1
  · cases hs
theorem intOf_see {a : C} (h : intOf a = some i) (r : CRep K bad H a v) : v = .int i := by
  unfold intOf at h
  split at h
  · rename_i j hj
    cases h
    exact see_int hj r
  · cases h
theorem ok_sl01 : Ok2 K (fun x y H Q => ∃ i, y = .int i ∧ rSlD K x none (some i) H Q) semSl01 := Ok2.mk fun bad H x y a b c Q trk ra rb hs q => by
  simp only [semSl01] at hs
  split at hs
  · rename_i i hi
    exact ⟨i, intOf_see hi rb, ok_cut trk ra hs q⟩
  · cases hs
theorem ok_sl10 : Ok2 K (fun x y H Q => ∃ i, y = .int i ∧ rSlD K x (some i) none H Q) semSl10 := Ok2.mk fun bad H x y a b c Q trk ra rb hs q => by
  simp only [semSl10] at hs
  split at hs
  · rename_i i hi
    exact ⟨i, intOf_see hi rb, ok_cut trk ra hs q⟩
  · cases hs
theorem ok_sl00 : Ok K (r1 fun x H Q => rSlD K x none none H Q) semSl00 := Ok1.mk fun bad H x a c Q trk ra hs q => ok_cut trk ra hs q
theorem ok_sl11 : Ok K (fun vs H Q => ∃ x i j, vs = [x, .int i, .int j] ∧ rSlD K x (some i) (some j) H Q) semSl11 := by
  refine OkL3 (fun cs h => ?_) fun bad H x y z a b d c Q trk ra rb rd hs q => ?_
  · match cs, h with
    | [_, _, _], _ => rfl
    | [], h => exact absurd rfl h
    | [_], h => exact absurd rfl h
    | [_, _], h => exact absurd rfl h
    | _ :: _ :: _ :: _ :: _, h => exact absurd rfl h
  · simp only [semSl11] at hs
    split at hs
    · rename_i i j hi hj
      exact ⟨x, i, j, by rw [intOf_see hi rb, intOf_see hj rd], ok_cut trk ra hs q⟩
    · cases hs
theorem tOs_three {σ : L2.St} {fa fb fc : FO} {R : V → V → V → Hp → Prop} (h : tOs K [fa, fb, fc] σ H fun vs H1 => ∀ x y z, vs = [x, y, z] → R x y z H1) : tO K fa σ H fun x H1 => tO K fb σ H1 fun y H2 => tO K fc σ H2 fun z H3 => R x y z H3 := by
  obtain ⟨B, env, os, env', S, hf, q⟩ := h
  unfold dOs at hf
  split at hf
  · rename_i o e1 ho
    split at hf
    · rename_i os' e2 hos
      cases hf
      unfold dOs at hos
      split at hos
      · rename_i o2 e3 ho2
        split at hos
        · rename_i os3 e4 hos3
          cases hos
          unfold dOs at hos3
          split at hos3
          · rename_i o3 e5 ho3
            unfold dOs at hos3
            cases hos3
            exact ⟨B, env, o, e1, S, ho, fun x H1 p => ⟨_, e1, o2, e3, PostO.st S p, ho2, fun y H2 p2 => ⟨_, e3, o3, _, PostO.st (PostO.st S p) p2, ho3, fun z H3 p3 =>
              q _ _ (PostOs.cons S p (PostOs.cons (PostO.st S p) p2 (PostOs.cons (PostO.st (PostO.st S p) p2) p3 (PostOs.nil (PostO.st (PostO.st (PostO.st S p) p2) p3))))) x y z rfl⟩⟩⟩
          · cases hos3
        · cases hos
      · cases hos
    · cases hf
  · cases hf
theorem pd_sl01 {e b : Expr} {pos p2 : Pos} {fe fb : FO} (he : PDO X e fe) (hb : PDO X b fb) : PD X (.Subscript e (.Slice none (some b) none p2) pos) (dOp semSl01 [fe, fb]) :=
  PEimp (pe_slice sl_D he po_none (po_some hb)) fun σ H Q h => tOs_two (dOp_imp ok_sl01 h)
theorem pd_sl10 {e b : Expr} {pos p2 : Pos} {fe fb : FO} (he : PDO X e fe) (hb : PDO X b fb) : PD X (.Subscript e (.Slice (some b) none none p2) pos) (dOp semSl10 [fe, fb]) :=
  PEimp (pe_slice sl_D he (po_some hb) po_none) fun σ H Q h => by
    have := tOs_two (dOp_imp ok_sl10 h)
    obtain ⟨B, env, o, env', S, hf, q⟩ := this
    refine ⟨B, env, o, env', S, hf, fun x H1 p => ?_⟩
    obtain ⟨B2, env2, o2, env3, S2, hf2, q2⟩ := q x H1 p
    exact ⟨B2, env2, o2, env3, S2, hf2, fun y H2 p2 => q2 y H2 p2⟩
theorem pd_sl00 {e : Expr} {pos p2 : Pos} {fe : FO} (he : PDO X e fe) : PD X (.Subscript e (.Slice none none none p2) pos) (dOp semSl00 [fe]) :=
  PEimp (pe_slice sl_D he po_none po_none) fun σ H Q h => tOs_one (dOp_imp ok_sl00 h)
def dSl11 (fe fb fc : FO) : FE := fun env => match fe env with
  | some (o, e1) => match fb e1 with
    | some (ob, e2) => match see e2 ob with
      | some cb => match intOf cb with
        | some i => match fc e2 with
          | some (oc, e3) => match seeAll e3 [o, ob, oc] with
            | some cs => match semSl11 cs with
              | some c => some (c, e3)
              | none => none
            | none => none
          | none => none
        | none => none
      | none => none
    | none => none
  | none => none
theorem pd_sl11 {e b c : Expr} {pos p2 : Pos} {fe fb fc : FO} (he : PDO X e fe) (hb : PDO X b fb) (hc : PDO X c fc) : PD X (.Subscript e (.Slice (some b) (some c) none p2) pos) (dSl11 fe fb fc) :=
  PEimp (pe_slice sl_D he (po_some hb) (po_some hc)) fun σ H Q ⟨B, env, c, env', S, hf, q⟩ => by
    unfold dSl11 at hf
    split at hf
    · rename_i o e1 ho
      split at hf
      · rename_i ob e2 hob
        split at hf
        · rename_i cb hcb
          split at hf
          · rename_i i hi
            split at hf
            · rename_i oc e3 hoc
              split at hf
              · rename_i cs hcs
                split at hf
                · rename_i c' hc'
                  cases hf
                  refine ⟨B, env, o, e1, S, ho, fun x H1 p => ⟨_, e1, ob, e2, PostO.st S p, hob, fun y H2 p2 => ?_⟩⟩
                  have S2 := PostO.st (PostO.st S p) p2
                  have pab := PostOs.cons S p (PostOs.cons (PostO.st S p) p2 (PostOs.nil S2))
                  have rb : RO X.K (Bad (BxOs B [o, ob] [x, y]) σ e2) H2 σ e2 ob y := by
                    obtain ⟨_, _, e, _, _, _, e', r, _⟩ := pab.ro
                    cases e
                    cases e'
                    exact r
                  have ey : y = .int i := intOf_see hi (pab.st.see (fun _ z => z) rb hcb)
                  refine ⟨i, ey, _, e2, oc, _, S2, hoc, fun z H3 p3 => ?_⟩
                  have pabc := PostOs.cons S p (PostOs.cons (PostO.st S p) p2 (PostOs.cons S2 p3 (PostOs.nil (PostO.st S2 p3))))
                  obtain ⟨x', i', j', e, r⟩ := ok_sl11 (K := X.K) _ H3 _ cs c Q pabc.st.trkB (pabc.st.seeAll (fun _ z => z) pabc.ro hcs) hc' fun v H4 x n => q v H4 (pabc.fin x n)
                  cases e
                  cases ey
                  exact ⟨j', rfl, r⟩
                · cases hf
              · cases hf
            · cases hf
          · cases hf
        · cases hf
      · cases hf
    · cases hf
/-! "".join(..): the receiver is a text when it is met -/
def isStr (c : C) : Bool := match c.data with
  | some (.str _) => true
  | _ => false
def dMth (sem : List C → Option C) (fo : FO) (fs : List FO) : FE := fun env => match fo env with
  | some (o, e1) => match see e1 o with
    | some c0 => if isStr c0 then match dOs fs e1 with
      | some (os, e2) => match seeAll e2 (o :: os) with
        | some cs => match sem cs with
          | some c => some (c, e2)
          | none => none
        | none => none
      | none => none else none
    | none => none
  | none => none
def rMt (r : V → List V → Hp → VK → Prop) : List V → Hp → VK → Prop := fun vs H Q => ∀ x xs, vs = x :: xs → r x xs H Q
theorem dMth_imp {σ : L2.St} {Q : VK} {sem : List C → Option C} {fo : FO} {fs : List FO} {r : V → List V → Hp → VK → Prop} (hr : Ok K (rMt r) sem) (h : tI K (dMth sem fo fs) σ H Q) :
    tO K fo σ H fun x H1 => tyV K "str" x H1 ∧ tOs K fs σ H1 fun xs H2 => r x xs H2 Q := by
  obtain ⟨B, env, c, env', S, hf, q⟩ := h
  unfold dMth at hf
  split at hf
  · rename_i o e1 ho
    split at hf
    · rename_i c0 hc0
      split at hf
      · rename_i hst
        split at hf
        · rename_i os e2 hos
          split at hf
          · rename_i cs hcs
            split at hf
            · rename_i c' hc'
              cases hf
              refine ⟨B, env, o, e1, S, ho, fun x H1 p => ?_⟩
              have S1 := PostO.st S p
              have pa := PostOs.cons S p (PostOs.nil S1)
              have ra : RO K (Bad (BxOs B [o] [x]) σ e1) H1 σ e1 o x := by
                obtain ⟨_, _, e, r, _⟩ := pa.ro
                cases e
                exact r
              have see0 := pa.st.see (fun _ z => z) ra hc0
              refine ⟨?_, _, e1, os, _, S1, hos, fun vs H2 p2 => ?_⟩
              · unfold isStr at hst
                split at hst
                · rename_i z hz
                  rw [(see_str hz see0).1]
                  rfl
                · cases hst
              · have pp := PostOs.cons S p p2
                exact hr _ H2 _ cs c Q pp.st.trkB (pp.st.seeAll (fun _ z => z) pp.ro hcs) hc' (fun v H4 x n => q v H4 (pp.fin x n)) x vs rfl
            · cases hf
          · cases hf
        · cases hf
      · cases hf
    · cases hf
  · cases hf
theorem pd_meth {o e : Expr} {es : List Expr} {name : Str} {apos cpos : Pos} {id : String} {r : V → List V → Hp → VK → Prop} {sem : List C → Option C} {fo : FO} {fs : List FO} (pa : PlainAttrs "str") (slot : Slot "str" name id) (hty : typeOf (.builtin id) = pure (.type "method_descriptor")) (hm : MtR X id r) (hr : Ok X.K (rMt r) sem)
    (ho : PDO X o fo) (ha : PDs X (e :: es) fs)
    (hbase : attributeBase o name X.env (eval o X.env) = eval o X.env := by rfl)
    (hfew : ((backTo cpos (starEach (e :: es) X.env)).all (fun x => !x.1) && (backToKw cpos (keywordEach [] X.env)).all (fun x => x.1.isSome)
      && decide ((e :: es).length + ([] : List Keyword).length + (if ([] : List Keyword).isEmpty then 0 else 1) < 30)) = true := by rfl)
    (hline : (apos.endLine == cpos.line) = true := by rfl) (hs : starEach (e :: es) X.env = (false, eval e X.env) :: starEach es X.env := by rfl) (hplain : (backTo cpos (starEach es X.env)).any (·.1) = false := by rfl) :
    PD X (.Call (.Attribute o name apos) (e :: es) [] cpos) (dMth sem fo fs) := PEimp (pe_bm pa slot hty hm ho ha hbase hfew hline hs hplain) fun σ H Q h => dMth_imp hr h
theorem pd_meth0 {o : Expr} {name : Str} {apos cpos : Pos} {id : String} {r : V → List V → Hp → VK → Prop} {sem : List C → Option C} {fo : FO} (pa : PlainAttrs "str") (slot : Slot "str" name id) (hty : typeOf (.builtin id) = pure (.type "method_descriptor")) (hm : MtR X id r) (hr : Ok X.K (rMt r) sem)
    (ho : PDO X o fo)
    (hbase : attributeBase o name X.env (eval o X.env) = eval o X.env := by rfl) (hline : (apos.endLine == cpos.line) = true := by rfl) :
    PD X (.Call (.Attribute o name apos) [] [] cpos) (dMth sem fo []) := PEimp (pe_bm0 pa slot hty hm ho hbase hline) fun σ H Q h => by
  obtain ⟨B, env, o, env', S, hf, q⟩ := dMth_imp hr h
  refine ⟨B, env, o, env', S, hf, fun x H1 p => ?_⟩
  obtain ⟨q1, B2, env2, os, env3, S2, hf2, q2⟩ := q x H1 p
  cases hf2
  exact ⟨q1, q2 [] H1 (PostOs.nil S2)⟩
theorem strsOf_eq : ∀ {ds : List PyData} {ys : List Str}, strsOf ds = some ys → ds = ys.map .str
  | [], ys, h => by
    cases h
    rfl
  | .str x :: r, ys, h => by
    unfold strsOf at h
    split at h
    · rename_i zs hz
      cases h
      rw [strsOf_eq hz]
      rfl
    · cases h
  | .none :: r, ys, h => by cases h
  | .bool _ :: r, ys, h => by cases h
  | .int _ :: r, ys, h => by cases h
  | .list _ :: r, ys, h => by cases h
  | .tuple _ :: r, ys, h => by cases h
  | .dict _ :: r, ys, h => by cases h
theorem join_list (x : Str) : ∀ ys : List Str, Txt.join x ys = (⟨⟨joinS x.cps.toList (ys.map fun y => y.cps.toList)⟩⟩ : Str) := by
  have gl : ∀ (rest : List Str) (acc : Array Nat), (rest.foldl (fun acc p => acc ++ x.cps ++ p.cps) acc).toList = acc.toList ++ (rest.map fun p => x.cps.toList ++ p.cps.toList).flatten := by
    intro rest
    induction rest with
    | nil => intro acc; simp
    | cons p r ih =>
      intro acc
      rw [List.foldl_cons, ih]
      simp
  have js : ∀ (rest : List (List Nat)) (y : List Nat), joinS x.cps.toList (y :: rest) = y ++ (rest.map fun p => x.cps.toList ++ p).flatten := by
    intro rest
    induction rest with
    | nil => intro y; simp [joinS]
    | cons p r ih =>
      intro y
      rw [joinS, ih]
      simp
  intro ys
  cases ys with
  | nil => rfl
  | cons y r =>
    rw [List.map_cons, js]
    show (⟨r.foldl (fun acc p => acc ++ x.cps ++ p.cps) y.cps⟩ : Str) = _
    congr 1
    apply Array.toList_inj.mp
    rw [gl]
    simp [List.map_map, Function.comp_def]
theorem joinS_mem {sep : List Nat} {c : Nat} : ∀ {ls : List (List Nat)}, c ∈ joinS sep ls → c ∈ sep ∨ ∃ l ∈ ls, c ∈ l
  | [], h => by simp [joinS] at h
  | [x], h => .inr ⟨x, by simp, h⟩
  | x :: y :: r, h => by
    unfold joinS at h
    rcases List.mem_append.mp h with h | h
    · rcases List.mem_append.mp h with h | h
      · exact .inr ⟨x, by simp, h⟩
      · exact .inl h
    · rcases joinS_mem h with h | ⟨l, hl, h⟩
      · exact .inl h
      · exact .inr ⟨l, List.mem_cons_of_mem _ hl, h⟩
theorem joinS_len (sep : List Nat) : ∀ ls : List (List Nat), (joinS sep ls).length ≤ (ls.map (·.length)).sum + ls.length * sep.length
  | [] => by simp [joinS]
  | [x] => by simp [joinS]
  | x :: y :: r => by
    have := joinS_len sep (y :: r)
    unfold joinS
    simp only [List.length_append, List.map_cons, List.sum_cons, List.length_cons] at this ⊢
    have e : (r.length + 1 + 1) * sep.length = (r.length + 1) * sep.length + sep.length := by rw [Nat.succ_mul]
    omega
theorem FzL.strs : ∀ {ys : List Str} {vs : List V}, FzL K bad H (ys.map .str) vs → ∀ y ∈ ys, okS y = true
  | [], _, _, y, h => by simp at h
  | z :: r, _, ⟨v, w, e, h1, h2⟩, y, h => by
    rcases List.mem_cons.mp h with q | q
    · rw [q]
      exact h1.2
    · exact FzL.strs h2 y q
def rJoin (K : PySem.W.Frag) : V → List V → Hp → VK → Prop := fun x xs H Q => ∃ a p, ∃ ys : List Str, x = .str a ∧ xs = [.ref p] ∧ (SqL K H p (ys.map V.str) ∨ SqT K H p (ys.map V.str)) ∧ (ys.map (·.length)).sum + ys.length * a.length ≤ 16777216 ∧ Q (.str (Txt.join a ys)) H
theorem ok_join : Ok K (rMt (rJoin K)) semJoin := by
  refine OkL2 (fun cs h => ?_) fun bad H x y a b c Q trk ra rb hs q => ?_
  · match cs, h with
    | [_, _], _ => rfl
    | [], h => exact absurd rfl h
    | [_], h => exact absurd rfl h
    | _ :: _ :: _ :: _, h => exact absurd rfl h
  · intro x' xs' e
    cases e
    have fin : ∀ {z : Str} {ys : List Str}, okS z = true → (∀ y ∈ ys, okS y = true) → (ys.map (fun y => y.cps.toList.length)).sum + ys.length * z.cps.toList.length ≤ 16777216 → c = .fz (S (joinS z.cps.toList (ys.map fun y => y.cps.toList))) →
        ((ys.map (·.length)).sum + ys.length * z.length ≤ 16777216) ∧ Q (.str (Txt.join z ys)) H := by
      intro z ys o oy hl e
      subst e
      refine ⟨by simpa [Str.length] using hl, ?_⟩
      rw [join_list]
      refine q _ _ Ext.refl ⟨rfl, ?_⟩
      rw [okS_iff]
      refine ⟨fun c hc => ?_, ?_⟩
      · rcases joinS_mem hc with h | ⟨l, h1, h2⟩
        · exact (okS_iff.mp o).1 c h
        · obtain ⟨w, h3, h4⟩ := List.mem_map.mp h1
          subst h4
          exact (okS_iff.mp (oy w h3)).1 c h2
      · refine Nat.le_trans (joinS_len _ _) ?_
        rw [List.map_map, List.length_map]
        exact hl
    simp only [semJoin] at hs
    split at hs
    · rename_i z ds hz hd
      split at hs
      · rename_i ys hys
        split at hs
        · rename_i hl0
          have hl := of_fits hl0
          obtain ⟨e1, o⟩ := see_str hz ra
          obtain ⟨a1, v1, e2, h1, f1⟩ := see_list hd rb
          rw [strsOf_eq hys] at f1
          have ev := FzL.of_strs f1
          subst ev
          obtain ⟨k1, k2⟩ := fin o (FzL.strs f1) hl (Option.some.inj hs).symm
          exact ⟨z, a1, ys, e1, by rw [e2], .inl (SqL.of h1), k1, k2⟩
        · cases hs
      · cases hs
    · rename_i z ds hz hd
      split at hs
      · rename_i ys hys
        split at hs
        · rename_i hl0
          have hl := of_fits hl0
          obtain ⟨e1, o⟩ := see_str hz ra
          obtain ⟨a1, v1, e2, h1, f1⟩ := see_tup hd rb
          rw [strsOf_eq hys] at f1
          have ev := FzL.of_strs f1
          subst ev
          obtain ⟨k1, k2⟩ := fin o (FzL.strs f1) hl (Option.some.inj hs).symm
          exact ⟨z, a1, ys, e1, by rw [e2], .inr h1, k1, k2⟩
        · cases hs
      · cases hs
    · cases hs
/-! list.append, pop, extend -/
noncomputable def upAppend (ds as : List D) : Option (List D × D) := match as with
  | [d] => if fits (ds.length < 16777216) then some (ds ++ [d], .none) else none
  | _ => none
theorem ok_append : OkM rAppend upAppend := fun K bad H a xs vs ds as ds' d Q ha hb f g h q => by
  unfold upAppend at h
  split at h
  · rename_i e
    split at h
    · rename_i hl
      cases h
      obtain ⟨v, r, rfl, g1, g2⟩ := g
      cases (show r = [] from g2)
      exact ⟨a, xs, v, rfl, rfl, ha, by rw [f.length]; exact sizeLine_lt (of_fits hl), q _ _ (f.snoc g1) rfl⟩
    · cases h
  · cases h
def upPop (ds as : List D) : Option (List D × D) := match as with
  | [] => match ds[ds.length - 1]? with
    | some d => some (ds.dropLast, d)
    | none => none
  | _ => none
theorem FzL.dropLast : ∀ {ds : List PyData} {vs : List V}, FzL K bad H ds vs → FzL K bad H ds.dropLast vs.dropLast := fun {ds vs} h => by
  rw [List.dropLast_eq_take, List.dropLast_eq_take, h.length]
  exact h.take _
theorem ok_pop : OkM rPop upPop := fun K bad H a xs vs ds as ds' d Q ha hb f g h q => by
  unfold upPop at h
  split at h
  · split at h
    · rename_i e he
      cases h
      cases (show vs = [] from g)
      obtain ⟨v, hv, r⟩ := f.get he
      exact ⟨a, xs, v, rfl, rfl, ha, by rw [f.length]; exact hv, q _ _ f.dropLast r⟩
    · cases h
  · cases h
end
end DL
set_option Elab.async false
set_option linter.all false
set_option maxRecDepth 100000
set_option maxHeartbeats 4000000
namespace DL
open PySem PySem.Spec PyProof.Rows L2
section
variable {K : PySem.W.Frag} {B B' : Addr → Prop} {H H' H1 H2 : Hp} {σ σ' σ1 σ2 : L2.St} {env env' e1 e2 : Ev} {c c2 : C} {v v2 x : V} {X : Cx} {d : D} {fl : Fl} {i j : Nat} {a : Addr} {vs : List V} {os : List O}
/-- a value held aside comes to stand under a name -/
theorem Sta.store (S : Sta K (Bx B c v) H σ env) (cr : CRep K (Bad (Bx B c v) σ env) H c v) (nb : ∀ a, ownV c v a → ¬ B a) (hs : settable env i = true) :
    Sta K B H (σ.set i (some v)) (env.set i (some c)) ∧ (∀ a, Ownd (σ.set i (some v)) (env.set i (some c)) a → ownV c v a ∨ Ownd σ env a) ∧
      (∀ (j : Nat) (d : PyData), env[j]? = some (some (.pw d)) → (env.set i (some c))[j]? = some (some (.pw d)) ∧ (σ.set i (some v))[j]? = σ[j]?) ∧ (∀ a, Bad B (σ.set i (some v)) (env.set i (some c)) a → Bad (Bx B c v) σ env a) := by
  have hi : i < env.length := by
    unfold settable at hs
    split at hs
    · cases hs
    · rename_i e
      exact (List.getElem?_eq_some_iff.mp e).1
    · cases hs
  have hi2 : i < σ.length := by rw [← S.len]; exact hi
  have sh : ∀ j a, Owns (σ.set i (some v)) (env.set i (some c)) j a → (j = i ∧ ownV c v a) ∨ (j ≠ i ∧ Owns σ env j a) := fun j a ⟨c', e1', e2, e3⟩ => by
    rcases set_some e1' with ⟨n, q⟩ | ⟨n, q⟩
    · subst n
      cases q
      rw [List.getElem?_set_self hi2] at e3
      cases e3
      exact .inl ⟨rfl, e2, rfl⟩
    · rw [List.getElem?_set_ne (Ne.symm n)] at e3
      exact .inr ⟨n, c', q, e2, e3⟩
  have bb : ∀ b, Bad B (σ.set i (some v)) (env.set i (some c)) b → Bad (Bx B c v) σ env b := fun b q => by
    rcases q with q | ⟨j, q⟩
    · exact .inl (.inl q)
    · rcases sh j b q with ⟨_, q⟩ | ⟨_, q⟩
      · exact .inl (.inr q)
      · exact .inr ⟨j, q⟩
  refine ⟨⟨by rw [List.length_set, List.length_set]; exact S.len, fun a z => S.trk a (.inl z), fun j c' e => ?_, fun j k a q q' => ?_, fun j a q z => ?_⟩, fun a ⟨j, z⟩ => ?_, fun j d z => ?_, bb⟩
  · rcases set_some e with ⟨n, q⟩ | ⟨n, q⟩
    · subst n
      cases q
      exact ⟨v, by rw [List.getElem?_set_self hi2], cr.as bb⟩
    · obtain ⟨v2, e2, r⟩ := S.rep j c' q
      exact ⟨v2, by rw [List.getElem?_set_ne (Ne.symm n)]; exact e2, r.as bb⟩
  · rcases sh j a q with ⟨n, q⟩ | ⟨n, q⟩
    · rcases sh k a q' with ⟨n', q'⟩ | ⟨n', q'⟩
      · exact n.trans n'.symm
      · exact absurd (.inr q) (S.out k a q')
    · rcases sh k a q' with ⟨n', q'⟩ | ⟨n', q'⟩
      · exact absurd (.inr q') (S.out j a q)
      · exact S.inj j k a q q'
  · rcases sh j a q with ⟨n, q⟩ | ⟨n, q⟩
    · exact nb a q z
    · exact S.out j a q (.inl z)
  · rcases sh j a z with ⟨_, z⟩ | ⟨_, z⟩
    · exact .inl z
    · exact .inr ⟨j, z⟩
  · by_cases e : i = j
    · subst e
      unfold settable at hs
      rw [z] at hs
      cases hs
    · exact ⟨by rw [List.getElem?_set_ne e]; exact z, by rw [List.getElem?_set_ne e]⟩
def dPar (i j : Nat) (fs : List FO) : FS := fun env => match dOs fs env with
  | some ([.val c, .val c2], e1) => if settable e1 i then if settable (e1.set i (some c)) j then some (.nx, (e1.set i (some c)).set j (some c2)) else none else none
  | _ => none
theorem par_post (p : PostOs K B H σ env [.val c, .val c2] e1 [v, v2] H1) (h1 : settable e1 i = true) (h2 : settable (e1.set i (some c)) j = true) : PostS K B H σ env ((e1.set i (some c)).set j (some c2)) ((σ.set i (some v)).set j (some v2)) H1 := by
  have bq : ∀ a, BxOs B [.val c, .val c2] [v, v2] a ↔ Bx (Bx B c2 v2) c v a := fun a => by
    constructor
    · rintro (z | z | z | z)
      · exact .inl (.inl z)
      · exact .inr z
      · exact .inl (.inr z)
      · exact (show False from z).elim
    · rintro ((z | z) | z)
      · exact .inl z
      · exact .inr (.inr (.inl z))
      · exact .inr (.inl z)
  obtain ⟨_, _, e, ⟨r1, _⟩, _, _, e', ⟨r2, _⟩, _⟩ := p.ro
  cases e
  cases e'
  have S0 : Sta K (Bx (Bx B c2 v2) c v) H1 σ e1 := p.st.less fun a z => (bq a).mpr z
  have b0 : ∀ a, Bad (Bx (Bx B c2 v2) c v) σ e1 a → Bad (BxOs B [.val c, .val c2] [v, v2]) σ e1 a := fun a z => z.elim (fun z => .inl ((bq a).mpr z)) .inr
  obtain ⟨S1, o1, k1, b1⟩ := S0.store (i := i) (r1.as b0) (fun a z z2 => by
    rcases z2 with z2 | z2
    · exact p.nb a (.inl z) z2
    · exact p.nd.1 a z (.inl z2)) h1
  obtain ⟨S2, o2, k2, b2⟩ := S1.store (i := j) ((r2.as b0).as b1) (fun a z z2 => p.nb a (.inr (.inl z)) z2) h2
  refine ⟨p.fr, fun a z => ?_, S2, fun l d z => ?_⟩
  · rcases o2 a z with z | z
    · exact p.nw a (.inr (.inl z))
    · rcases o1 a z with z | ⟨l, z⟩
      · exact p.nw a (.inl z)
      · exact .inr ⟨l, p.sh l a z⟩
  · obtain ⟨d', z1⟩ := p.pk l d z
    obtain ⟨z2, z3⟩ := k1 l d' z1
    obtain ⟨z4, z5⟩ := k2 l d' z2
    exact ⟨⟨d', z4⟩, z5.trans z3⟩
theorem pds_par {x y : Str} {a b : Expr} {fa fb : FO} {px py pt pos : Pos} {kt k2 pt2} (hc : X.calm = true) (hN : X.N.Nodup) (hi : X.N[i]? = some x) (hj : X.N[j]? = some y) (hij : i ≠ j)
    (hx : X.env.scope.names.lookup x = some .local) (hy : X.env.scope.names.lookup y = some .local) (ha : PDs X [a, b] [fa, fb])
    (hw : swappedStores [.Tuple [.Name x px, .Name y py] kt pt] (.Tuple [a, b] k2 pt2) X.env = pure (some [x, y]))
    (hs : swapsWithSole [.Tuple [.Name x px, .Name y py] kt pt] (.Tuple [a, b] k2 pt2) pos.line X.env = pure false := by rfl) :
    PDS X (.Assign [.Tuple [.Name x px, .Name y py] kt pt] (.Tuple [a, b] k2 pt2) pos) (dPar i j [fa, fb]) := PSimp (ps_par hc hN hi hj hij hx hy ha hw hs) fun D σ H ⟨B, env, fl, env', S, hf, q⟩ => by
  unfold dPar at hf
  split at hf
  · rename_i c c2 e1 hos
    split at hf
    · rename_i h1
      split at hf
      · rename_i h2
        cases hf
        refine ⟨B, env, _, e1, S, hos, fun vs H1 p => ?_⟩
        have p' := p
        obtain ⟨v, _, e, _, v2, _, e', _, e''⟩ := p.ro
        cases (show _ = [] from e'')
        subst e'
        subst e
        exact ⟨v, v2, rfl, q _ _ (par_post p' h1 h2)⟩
      · cases hf
    · cases hf
  · cases hf
theorem pds_setLc {y : Str} {py : Pos} {elt tg iter : Expr} {ifs : List Expr} {scope : Scope} {own : List (Str × Nat)} {pos spos : Pos} {fi : FI} {g : PyData → Ev → Option Ev} {t : FT} {f : FE} (hc : X.calm = true) (hN : X.N.Nodup) (hy : X.N[i]? = some y) (hyl : X.env.scope.names.lookup y = some .local)
    (hsw : swapsWith (.ListComp elt [⟨tg, iter, ifs, 0⟩] scope pos) (some (.Name y py)) spos.line X.env = pure true) (hi : PDI X tg iter fi) (ok : BlkOk X.N X.env.scope scope own)
    (hg : ∀ (s : Shared) (H : Hp) (C : Addr) (cl : List (Str × Addr)) (fp : List Addr), PDG (X.blk s H scope (compEnvC scope cl C X.env) fp) tg (own.map (·.2)) g) (ht : ∀ (s : Shared) (H : Hp) (C : Addr) (cl : List (Str × Addr)) (fp : List Addr), PDTs (X.blk s H scope (compEnvC scope cl C X.env) fp) ifs t)
    (he : ∀ (s : Shared) (H : Hp) (C : Addr) (cl : List (Str × Addr)) (fp : List Addr), PD (X.blk s H scope (compEnvC scope cl C X.env) fp) elt f) (hs : ∀ x, foldedSetIterable iter X.env x = pure x := by intro _; rfl) :
    PDS X (.Assign [.Name y py] (.ListComp elt [⟨tg, iter, ifs, 0⟩] scope pos) spos) (dSet i (dLc fi (own.map (·.2)) g t f)) :=
  PSimp (ps_setLc (wi := tW X.K fi) (g := tG X.K (List.map (fun x : Str × Nat => x.2) own) g) (tt := tT X.K t) (te := tI X.K f) hc hN hy hyl hsw hi ok hg ht he hs) fun D σ H ⟨B, env, fl, env', S, hf, q⟩ => by
    unfold dSet at hf
    split at hf
    · rename_i c e1 he1
      split at hf
      · rename_i hset
        cases hf
        exact lc_imp ⟨B, env, c, e1, S, he1, fun v H1 p => q _ H1 (p.store hset)⟩
      · cases hf
    · cases hf
/-- x op= e -/
def dAug (i : Nat) (sem : List C → Option C) (f : FO) : FS := dSet i (dOp sem [dSlot i, f])
theorem pds_aug {x : Str} {e : Expr} {op : Operator} {r : R2} {sem : List C → Option C} {f : FO} {pos pos' : Pos} (ho : PIp X op r) (hr : Ok2 X.K r sem) (he : PDO X e f) (hN : X.N.Nodup) (hi : X.N[i]? = some x) (hx : Loc X.env.scope x) (hf : X.fn x = true ∨ X.env.scope.names.lookup x = some .local := by first | exact .inl rfl | exact .inr rfl | assumption) :
    PDS X (.AugAssign (.Name x pos') op e pos) (dAug i sem f) := PSimp (ps_aug hN hi hx he ho hf) fun D σ H ⟨B, env, fl, env', S, hf, q⟩ => by
  unfold dAug dSet at hf
  split at hf
  · rename_i c e1 he1
    split at hf
    · rename_i hset
      cases hf
      have h := tOs_two (dOp_imp hr (Q := fun v H1 => D.nx (σ.set i (some v)) H1) ⟨B, env, c, e1, S, he1, fun v H1 p => q _ H1 (p.store hset)⟩)
      obtain ⟨B2, env2, o, env3, S2, hs, q2⟩ := h
      unfold dSlot at hs
      split at hs
      · rename_i c0 hc0
        cases hs
        obtain ⟨w, hw, _⟩ := S2.rep i c0 hc0
        exact ⟨w, hw, q2 w H ⟨rfl, rfl, hw, c0, hc0⟩⟩
      · cases hs
    · cases hf
  · cases hf
/-- a written text -/
theorem pd_strS {x : Str} {l : List Nat} {j pos} (hx : x = (⟨⟨l⟩⟩ : Str)) (h : okS (⟨⟨l⟩⟩ : Str) = true := by decide +kernel) : PD X (.Constant (.str x) j pos) (dC (S l)) := by
  subst hx
  exact pd_str h
/-- a def as its callers see it -/
structure Callee (P : Program) (w : World) (K : PySem.W.Frag) (mg : Str → Option Value) (base : Heap) (x : Str) (k n : Nat) (F : Fn) : Prop where
  ex : ∃ (f : Addr) (fd : FuncData) (ps : List Str), FnOk P w K mg base CX0 k f fd ps (spD K n F) ∧ mg x = some (.ref f) ∧ PySem.W.keepIn K (.ref f) = true ∧ Binds K fd ps []
theorem pd_callC {k n : Nat} {F : Fn} {x : Str} {p pos : Pos} {e : Expr} {es : List Expr} {fs : List FO} (C : Callee X.prog X.w X.K X.mg X.base x k n F) (hr : Room k X.A) (hg : Gl X x)
    (ha : PDs X (e :: es) fs) (hn : fs.length = n := by rfl) (hdb : (x == ("__debug__" : Str)) = false := by decide) (he : starEach (e :: es) X.env = (false, eval e X.env) :: starEach es X.env := by rfl) (hpl : (backTo pos (starEach es X.env)).any (·.1) = false := by rfl) :
    PD X (.Call (.Name x p) (e :: es) [] pos) (dCall F fs) := by
  obtain ⟨f, fd, ps, G, hm, hk, hb⟩ := C.ex
  exact pd_call G hr hg hm hk hb ha hn hdb he hpl
theorem pd_call0C {k : Nat} {F : Fn} {x : Str} {p pos : Pos} (C : Callee X.prog X.w X.K X.mg X.base x k 0 F) (hr : Room k X.A) (hg : Gl X x) (hdb : (x == ("__debug__" : Str)) = false := by decide) :
    PD X (.Call (.Name x p) [] [] pos) (dCall F []) := by
  obtain ⟨f, fd, ps, G, hm, hk, hb⟩ := C.ex
  exact pd_call0 G hr hg hm hk hb hdb
noncomputable def semAddI : List C → Option C
  | [a, b] => match a.data, b.data with
    | some (.int i), some (.int j) => some (.fz (.int (i + j)))
    | some (.str x), some (.str y) => if fits (x.cps.toList.length + y.cps.toList.length ≤ 16777216) then some (.fz (S (x.cps.toList ++ y.cps.toList))) else none
    | _, _ => none
  | _ => none
def rAddI : R2 := fun x y H Q => rI0 (fun i j => .int (i + j)) x y H Q ∨ (∃ i j, x = .str i ∧ y = .str j ∧ i.length + j.length ≤ sizeLine ∧ Q (.str (i ++ j)) H)
theorem iop_addD : PIp X .Add rAddI := OpR.or iop_add iop_add_str
theorem ok_addI : Ok2 K rAddI semAddI := Ok2.mk fun bad H x y a b c Q trk ra rb hs q => by
  simp only [semAddI] at hs
  split at hs
  · rename_i i j ha hb
    cases hs
    exact .inl ⟨i, j, see_int ha ra, see_int hb rb, q _ _ Ext.refl rfl⟩
  · rename_i s t ha hb
    split at hs
    · rename_i hl0
      have hl := of_fits hl0
      cases hs
      obtain ⟨e1, o1⟩ := see_str ha ra
      obtain ⟨e2, o2⟩ := see_str hb rb
      refine .inr ⟨s, t, e1, e2, line_eq hl, ?_⟩
      rw [app_eq]
      exact q _ _ Ext.refl ⟨rfl, okS_append o1 o2 hl⟩
    · cases hs
  · cases hs
/-- the law's own call -/
theorem spD_law {F : Fn} {ns : List Int} {outs : List (Option C)} {E : XK} (hF : F [.sc ns] = some (.fz (.bool true), outs)) (hO : Only H) (hS : SqL K H a (ns.map V.int)) : spD K 1 F [.ref a] H (fun v _ => v = .bl true) E := by
  have hs : SqF K H a (ns.map V.int) := by
    rcases hS with (h | h) | h
    · rcases hO a with z | ⟨o, xs, z⟩
      · rw [z] at h
        cases h
      · rw [z] at h
        cases h
    · exact .inl h
    · exact .inr h
  have no : ∀ (env : Ev) (σ : L2.St) i b, env = [some (.sc ns)] → ¬ Owns σ env i b := fun env σ i b e ⟨c, h1, h2, _⟩ => by
    subst e
    cases i with
    | zero =>
      cases h1
      cases h2
    | succ i => simp at h1
  refine ⟨rfl, fun _ => False, [.sc ns], _, outs, ⟨rfl, fun _ z => z.elim, fun i c h => ?_, fun i j b h => (no _ _ i b rfl h).elim, fun i b h => (no _ _ i b rfl h).elim⟩, hF, fun v H' p => p.res⟩
  cases i with
  | zero =>
    cases h
    exact ⟨_, rfl, a, rfl, hs⟩
  | succ i => simp at h
end
end DL
set_option Elab.async false
set_option linter.all false
set_option maxRecDepth 100000
set_option maxHeartbeats 4000000
namespace DL
open PySem L2
/-! ### the operations' values, in plain words -/
theorem cut_to {α : Type} (l : List α) (k : Nat) : cutL l none (some (k : Int)) = l.take k := by
  unfold cutL
  rw [HT.sIx_none, HT.sIx_nat, List.drop_zero, Nat.sub_zero]
  by_cases h : k ≤ l.length
  · rw [Nat.min_eq_left h]
  · rw [Nat.min_eq_right (by omega), List.take_length, List.take_of_length_le (by omega)]
theorem cut_from {α : Type} (l : List α) (k : Nat) : cutL l (some (k : Int)) none = l.drop k := by
  unfold cutL
  rw [HT.sIx_none, HT.sIx_nat]
  by_cases h : k ≤ l.length
  · rw [Nat.min_eq_left h, List.take_of_length_le (by simp)]
  · rw [Nat.min_eq_right (by omega), List.drop_length, List.drop_of_length_le (by omega), List.take_nil]
theorem cut_mid {α : Type} (l : List α) (i j : Nat) : cutL l (some (i : Int)) (some (j : Int)) = (l.take j).drop i := by
  unfold cutL
  rw [HT.sIx_nat, HT.sIx_nat, List.drop_take]
  by_cases h : i ≤ l.length
  · rw [Nat.min_eq_left h]
    by_cases h2 : j ≤ l.length
    · rw [Nat.min_eq_left h2]
    · rw [Nat.min_eq_right (by omega), List.take_of_length_le (by simp), List.take_of_length_le (by simp; omega)]
  · have hi : min i l.length = l.length := Nat.min_eq_right (by omega)
    rw [hi, List.drop_length, List.drop_of_length_le (by omega), List.take_nil, List.take_nil]
theorem cut_all {α : Type} (l : List α) : cutL l none none = l := by
  unfold cutL
  rw [HT.sIx_none, HT.sIx_none]
  simp
theorem cut_toI {α : Type} (l : List α) {i : Int} (h : 0 ≤ i) : cutL l none (some i) = l.take i.toNat := by
  obtain ⟨k, rfl⟩ : ∃ k : Nat, i = k := ⟨i.toNat, by omega⟩
  exact cut_to l k
theorem cut_fromI {α : Type} (l : List α) {i : Int} (h : 0 ≤ i) : cutL l (some i) none = l.drop i.toNat := by
  obtain ⟨k, rfl⟩ : ∃ k : Nat, i = k := ⟨i.toNat, by omega⟩
  exact cut_from l k
theorem eqv_S (l m : List Nat) : PyData.eqv (S l) (S m) = decide (l = m) := by
  unfold PyData.eqv
  by_cases h : l = m
  · subst h
    simp
  · rw [decide_eq_false h]
    rw [beq_eq_false_iff_ne]
    intro e
    have e2 := congrArg (fun s : Str => s.cps.toList) e
    exact h e2
theorem eqv_int (i j : Int) : PyData.eqv (.int i) (.int j) = decide (i = j) := by
  unfold PyData.eqv
  by_cases h : i = j
  · subst h; simp
  · rw [decide_eq_false h, beq_eq_false_iff_ne]; exact h
theorem eqv_bool (i j : Bool) : PyData.eqv (.bool i) (.bool j) = (i == j) := by
  unfold PyData.eqv
  rfl
theorem eqv_none : PyData.eqv .none .none = true := rfl
theorem eqvAll_nil : PyData.eqvAll [] [] = true := rfl
theorem eqvAll_cons (x y : PyData) (xs ys : List PyData) : PyData.eqvAll (x :: xs) (y :: ys) = (PyData.eqv x y && PyData.eqvAll xs ys) := by
  rw [PyData.eqvAll]
theorem eqv_list (xs ys : List PyData) : PyData.eqv (.list xs) (.list ys) = PyData.eqvAll xs ys := by
  rw [PyData.eqv]
theorem eqv_tuple (xs ys : List PyData) : PyData.eqv (.tuple xs) (.tuple ys) = PyData.eqvAll xs ys := by
  rw [PyData.eqv]
theorem depth_S (l : List Nat) : dep (S l) = 0 := rfl
theorem depth_int (i : Int) : dep (PyData.int i) = 0 := rfl
theorem depth_bool (i : Bool) : dep (PyData.bool i) = 0 := rfl
theorem depth_none : dep (PyData.none) = 0 := rfl
theorem depth_list (xs : List PyData) : dep (PyData.list xs) = depAll xs + 1 := by rw [dep]
theorem depth_tuple (xs : List PyData) : dep (PyData.tuple xs) = depAll xs + 1 := by rw [dep]
theorem depthAll_nil : depAll [] = 0 := rfl
theorem depthAll_cons (x : PyData) (xs : List PyData) : depAll (x :: xs) = max (dep x) (depAll xs) := by rw [depAll]
theorem semEq_S (l m : List Nat) : semEq [.fz (S l), .fz (S m)] = some (.fz (.bool (decide (l = m)))) := by
  simp [semEq, C.data, eqv_S, depth_S]
theorem semNe_S (l m : List Nat) : semNe [.fz (S l), .fz (S m)] = some (.fz (.bool (!decide (l = m)))) := by
  simp [semNe, C.data, eqv_S, depth_S]
theorem semEq_int (i j : Int) : semEq [.fz (.int i), .fz (.int j)] = some (.fz (.bool (decide (i = j)))) := by
  simp [semEq, C.data, eqv_int, depth_int]
theorem semNe_int (i j : Int) : semNe [.fz (.int i), .fz (.int j)] = some (.fz (.bool (!decide (i = j)))) := by
  simp [semNe, C.data, eqv_int, depth_int]
theorem ixS {l : List Nat} {k : Nat} {x : Nat} (h : l[k]? = some x) : semIx [.fz (S l), .fz (.int (k : Int))] = some (.fz (S [x])) := by
  simp only [semIx, C.data]
  rw [atI_nat h]
theorem ixL {l : List PyData} {k : Nat} {x : PyData} (h : l[k]? = some x) : semIx [.fz (.list l), .fz (.int (k : Int))] = some (.fz x) := by
  simp only [semIx, C.data]
  rw [atI_nat h]
theorem ixO {l : List PyData} {k : Nat} {x : PyData} (h : l[k]? = some x) : semIx [.ow (.list l), .fz (.int (k : Int))] = some (.fz x) := by
  simp only [semIx, C.data]
  rw [atI_nat h]
theorem intsD_nil (lo : Int) : intsD lo 0 = [] := rfl
theorem intsD_succ (lo : Int) (n : Nat) : intsD lo (n + 1) = .int lo :: intsD (lo + 1) n := by
  unfold intsD
  rw [List.range_succ_eq_map, List.map_cons, List.map_map]
  congr 1
  · simp
  · apply List.map_congr_left
    intro k _
    simp
    omega
theorem intsD_end (lo : Int) (n : Nat) : intsD lo (n + 1) = intsD lo n ++ [.int (lo + n)] := by
  unfold intsD
  rw [List.range_succ, List.map_append]
  rfl
theorem mulOk_l {i j : Int} (h1 : -18446744073709551616 < i) (h2 : i < 18446744073709551616) : mulOk i j = true := fits_of (.inl ⟨h1, h2⟩)
theorem mulOk_r {i j : Int} (h1 : -18446744073709551616 < j) (h2 : j < 18446744073709551616) : mulOk i j = true := fits_of (.inr (.inl ⟨h1, h2⟩))
theorem atI0 {α : Type} {x : α} {r : List α} : atI (x :: r) 0 = some x := atI_nat (j := 0) rfl
theorem atI1 {α : Type} {x y : α} {r : List α} : atI (x :: y :: r) 1 = some y := atI_nat (j := 1) rfl
theorem atI2 {α : Type} {x y z : α} {r : List α} : atI (x :: y :: z :: r) 2 = some z := atI_nat (j := 2) rfl
theorem atI_pos {α : Type} {xs : List α} {i : Int} (h0 : 0 ≤ i) (h1 : i < xs.length) : ∃ x, atI xs i = some x ∧ x ∈ xs := by
  obtain ⟨j, rfl⟩ : ∃ j : Nat, i = j := ⟨i.toNat, by omega⟩
  have hj : j < xs.length := by omega
  exact ⟨xs[j], atI_nat (by simp [hj]), List.getElem_mem hj⟩
theorem atI_end {α : Type} {xs : List α} (h : xs ≠ []) : atI xs (-1) = some (xs.getLast h) := by
  have := atI_last xs.dropLast (xs.getLast h)
  rw [List.dropLast_concat_getLast] at this
  exact this
theorem log2_small {n : Int} (h : n.natAbs < 2 ^ 64) (h0 : 0 < n) : n.natAbs.log2 < 9000 := Nat.lt_trans ((Nat.log2_lt (by omega)).mpr h) (by decide)
theorem log2_len {n : Nat} (h : n < 18446744073709551616) (h0 : 0 < n) : ((n : Int)).natAbs.log2 < 9000 := by
  refine log2_small ?_ (by omega)
  rw [Int.natAbs_natCast]
  exact Nat.lt_of_lt_of_le h (by decide)
theorem strsOf_map : ∀ w : List (List Nat), strsOf (w.map S) = some (w.map fun x => (⟨⟨x⟩⟩ : Str))
  | [] => rfl
  | x :: w => by
    show (match strsOf (w.map S) with | some ys => some ((⟨⟨x⟩⟩ : Str) :: ys) | none => none) = _
    rw [strsOf_map w]
    rfl
theorem joinS_flat : ∀ w : List (List Nat), joinS [] w = w.flatten
  | [] => rfl
  | [x] => by simp [joinS]
  | x :: y :: w => by
    unfold joinS
    rw [joinS_flat (y :: w)]
    simp
theorem semJoin_flat (w : List (List Nat)) (h : w.flatten.length ≤ 16777216) : semJoin [.fz (S []), .ow (.list (w.map S))] = some (.fz (S w.flatten)) := by
  simp only [semJoin, C.data, strsOf_map]
  rw [if_pos]
  · rw [List.map_map]
    show some (C.fz (S (joinS [] (w.map fun x => x)))) = _
    rw [List.map_id', joinS_flat]
  · simp only [List.map_map, Function.comp_def, List.length_nil, Nat.mul_zero, Nat.add_zero]
    rw [List.length_flatten] at h
    exact fits_of h
theorem semAdd_S (l m : List Nat) (h : l.length + m.length ≤ 16777216) : semAdd [.fz (S l), .fz (S m)] = some (.fz (S (l ++ m))) := by
  simp only [semAdd, C.data]
  exact if_pos (fits_of h)
theorem semAddI_S (l m : List Nat) (h : l.length + m.length ≤ 16777216) : semAddI [.fz (S l), .fz (S m)] = some (.fz (S (l ++ m))) := by
  simp only [semAddI, C.data]
  exact if_pos (fits_of h)
theorem semMul_S (l : List Nat) (k : Nat) (hk : k < 16777216) (h : l.length * k ≤ 16777216) : semMul [.fz (S l), .fz (.int (k : Int))] = some (.fz (S (List.replicate k l).flatten)) := by
  have e : ((k : Nat) : Int).toNat = k := Int.toNat_natCast k
  simp only [semMul, C.data, e]
  exact if_pos (fits_of ⟨by omega, by omega, h⟩)
theorem semLen_S (l : List Nat) : semLen [.fz (S l)] = some (.fz (.int (l.length : Int))) := rfl
theorem semDiv_nat (i j : Nat) (h : 0 < j) (hj : j < 18446744073709551616) : semDiv [.fz (.int (i : Int)), .fz (.int (j : Int))] = some (.fz (.int ((i / j : Nat) : Int))) := by
  simp only [semDiv, C.data]
  rw [if_pos (fits_of ⟨by omega, log2_len hj h⟩), Int.natCast_ediv]
theorem semMod_nat (i j : Nat) (h : 0 < j) : semMod [.fz (.int (i : Int)), .fz (.int (j : Int))] = some (.fz (.int ((i % j : Nat) : Int))) := by
  simp only [semMod, C.data]
  rw [if_pos (by omega), Int.natCast_emod]
theorem semAdd_nat (i j : Nat) : semAdd [.fz (.int (i : Int)), .fz (.int (j : Int))] = some (.fz (.int ((i + j : Nat) : Int))) := rfl
theorem semAdd_nat1 (i : Nat) : semAdd [.fz (.int (i : Int)), .fz (.int 1)] = some (.fz (.int ((i + 1 : Nat) : Int))) := rfl
theorem semAddI_nat1 (i : Nat) : semAddI [.fz (.int (i : Int)), .fz (.int 1)] = some (.fz (.int ((i + 1 : Nat) : Int))) := rfl
theorem semMul_nat (i j : Nat) (h : i < 18446744073709551616) : semMul [.fz (.int (i : Int)), .fz (.int (j : Int))] = some (.fz (.int ((i * j : Nat) : Int))) := by
  simp only [semMul, C.data]
  rw [if_pos (mulOk_l (by omega) (by omega)), Int.natCast_mul]
theorem semSl01_S (l : List Nat) (k : Nat) : semSl01 [.fz (S l), .fz (.int (k : Int))] = some (.fz (S (l.take k))) := by
  rw [← cut_to]
  rfl
theorem semSl10_S (l : List Nat) (k : Nat) : semSl10 [.fz (S l), .fz (.int (k : Int))] = some (.fz (S (l.drop k))) := by
  rw [← cut_from]
  rfl
theorem semLt_nat (i j : Nat) : semLt [.fz (.int (i : Int)), .fz (.int (j : Int))] = some (.fz (.bool (decide (i < j)))) := by
  simp [semLt, C.data]
theorem semLe_nat (i j : Nat) : semLe [.fz (.int (i : Int)), .fz (.int (j : Int))] = some (.fz (.bool (decide (i ≤ j)))) := by
  simp [semLe, C.data]
theorem semMin2_nat (i j : Nat) : semMin2 [.fz (.int (i : Int)), .fz (.int (j : Int))] = some (.fz (.int ((min i j : Nat) : Int))) := by
  simp only [semMin2, C.data]
  congr 3
  split <;> omega
theorem semEq_nat (i j : Nat) : semEq [.fz (.int (i : Int)), .fz (.int (j : Int))] = some (.fz (.bool (decide (i = j)))) := by
  rw [semEq_int]
  congr 3
  simp [Int.ofNat_inj]
/-! ### loops by an invariant -/
theorem forL_range {g : PyData → Ev → Option Ev} {body : FS} {lo : Int} (I : Nat → Ev → Prop) (n : Nat) (step : ∀ k env, k < n → I k env → ∃ e1 e2, g (.int (lo + (k : Nat))) env = some e1 ∧ body e1 = some (.nx, e2) ∧ I (k + 1) e2) :
    ∀ env, I 0 env → ∃ e, dForL g body (intsD lo n) env = some (.nx, e) ∧ I n e := by
  have go : ∀ j, j ≤ n → ∀ env, I (n - j) env → ∃ e, dForL g body (intsD (lo + ((n - j : Nat) : Int)) j) env = some (.nx, e) ∧ I n e := by
    intro j
    induction j with
    | zero => intro _ env h; exact ⟨env, rfl, h⟩
    | succ j ih =>
      intro hj env h
      obtain ⟨e1, e2, h1, h2, h3⟩ := step (n - (j + 1)) env (by omega) h
      have e : n - (j + 1) + 1 = n - j := by omega
      rw [e] at h3
      obtain ⟨e', h4, h5⟩ := ih (by omega) e2 h3
      refine ⟨e', ?_, h5⟩
      rw [intsD_succ, dForL, h1]
      simp only [h2]
      rw [show lo + ((n - (j + 1) : Nat) : Int) + 1 = lo + ((n - j : Nat) : Int) by omega]
      exact h4
  intro env h
  have := go n (Nat.le_refl n) env (by rw [Nat.sub_self]; exact h)
  rw [Nat.sub_self] at this
  simpa using this
theorem forL_list {g : PyData → Ev → Option Ev} {body : FS} (I : List PyData → Ev → Prop) : ∀ (ds pre : List PyData), (∀ p d env, I p env → (∃ r, pre ++ ds = p ++ d :: r) → ∃ e1 e2, g d env = some e1 ∧ body e1 = some (.nx, e2) ∧ I (p ++ [d]) e2) →
    ∀ env, I pre env → ∃ e, dForL g body ds env = some (.nx, e) ∧ I (pre ++ ds) e
  | [], pre, _, env, h => ⟨env, rfl, by rw [List.append_nil]; exact h⟩
  | d :: ds, pre, step, env, h => by
    obtain ⟨e1, e2, h1, h2, h3⟩ := step pre d env h ⟨ds, rfl⟩
    obtain ⟨e, h4, h5⟩ := forL_list I ds (pre ++ [d]) (fun p d env hp hr => step p d env hp (by simpa using hr)) e2 h3
    refine ⟨e, ?_, by simpa using h5⟩
    rw [dForL, h1]
    simp only [h2]
    exact h4
/-- a comprehension that leaves the names as they are -/
theorem lcL_pure {vs : List Nat} {g : PyData → Ev → Option Ev} {t : FT} {f : FE} {env : Ev} (F : PyData → Option PyData) : ∀ (ds acc : List PyData), acc.length + ds.length ≤ 16777216 →
    (∀ d ∈ ds, ∃ e1, g d (wipeE env vs) = some e1 ∧ ((∃ e2 c e3 y, t e1 = some (true, e2) ∧ f e2 = some (c, e3) ∧ c.frozen = some y ∧ F d = some y ∧ backE env e3 vs = env) ∨ (∃ e2, t e1 = some (false, e2) ∧ F d = none ∧ backE env e2 vs = env))) →
    dLcL vs g t f ds acc env = some (acc ++ ds.filterMap F, env)
  | [], acc, _, _ => by simp [dLcL]
  | d :: ds, acc, hl, h => by
    obtain ⟨e1, h1, h2⟩ := h d (List.mem_cons_self ..)
    have hl' : fits (acc.length < 16777216) = true := fits_of (by simp at hl; omega)
    rw [dLcL, h1]
    rcases h2 with ⟨e2, c, e3, y, h3, h4, h5, h6, h7⟩ | ⟨e2, h3, h6, h7⟩
    · simp only [h3, h4, h5, if_pos hl', h7]
      rw [lcL_pure F ds (acc ++ [y]) (by simp at hl ⊢; omega) (fun d hd => h d (List.mem_cons_of_mem _ hd)), List.filterMap_cons, h6]
      simp
    · simp only [h3, h7]
      rw [lcL_pure F ds acc (by simp at hl ⊢; omega) (fun d hd => h d (List.mem_cons_of_mem _ hd)), List.filterMap_cons, h6]
theorem intsD_mem {lo : Int} {n : Nat} {d : PyData} (h : d ∈ intsD lo n) : ∃ k : Nat, k < n ∧ d = .int (lo + k) := by
  unfold intsD at h
  obtain ⟨k, h1, h2⟩ := List.mem_map.mp h
  exact ⟨k, List.mem_range.mp h1, h2.symm⟩
/-- a name that may be stored to -/
def np : Option C → Bool
  | some (.pw _) => false
  | _ => true
theorem np_none : np none = true := rfl
theorem np_fz {d : PyData} : np (some (.fz d)) = true := rfl
theorem np_ow {d : PyData} : np (some (.ow d)) = true := rfl
theorem np_sc {d : List Int} : np (some (.sc d)) = true := rfl
theorem settable_zero {x : Option C} {e : Ev} : settable (x :: e) 0 = np x := by
  cases x with
  | none => rfl
  | some c => cases c <;> rfl
theorem settable_succ {x : Option C} {e : Ev} {i : Nat} : settable (x :: e) (i + 1) = settable e i := rfl
theorem semMax2_nat (i j : Nat) : semMax2 [.fz (.int (i : Int)), .fz (.int (j : Int))] = some (.fz (.int ((max i j : Nat) : Int))) := by
  simp only [semMax2, C.data]
  congr 3
  split <;> omega
end DL
set_option Elab.async false
set_option linter.all false
set_option maxRecDepth 100000
set_option maxHeartbeats 4000000
namespace DL
open PySem PySem.Spec PyProof.Rows L2
/-! ### calls of which it is known, too, that nothing is being shown: repr of a list asks that -/
structure RoomG (k : Nat) (A : Around) : Prop where
  rm : Room k A
  gd : A.guards = some []
theorem RoomG.mono {j k : Nat} {A : Around} (g : RoomG k A) (h : j ≤ k) : RoomG j A := ⟨g.rm.mono h, g.gd⟩
theorem RoomG.units {k : Nat} {A : Around} (g : RoomG k A) : A.units + 64 < cLine := g.rm.units
theorem RoomG.more {k : Nat} {A : Around} (g : RoomG k A) : A.units + 66 < cLine := by have := g.rm.un; omega
theorem RoomG.down {k : Nat} {A : Around} (g : RoomG (k + 1) A) (env : Env) : RoomG k (A.deeper env) := ⟨g.rm.deeper env, g.gd⟩
structure FnG (P : Program) (w : World) (K : PySem.W.Frag) (mg : Str → Option Value) (base : Heap) (k : Nat) (f : Addr) (fd : FuncData) (ps : List Str) (sp : Sp) : Prop where
  len : ∀ xs H Q E, sp xs H Q E → xs.length = ps.length
  run : ∀ (A : Around) (out : List Env) (t : Shared) (H : Hp) (args : Args) (us : List Value) (xs : List V) (Q : VK) (E : XK), RoomG k A → Env0 P w K mg base A out t H → BindsTo t fd args (ps.zip us) → Vals xs us → sp xs H Q E → codeAny (model P w) A (.call (.ref f) args) (CR CX0 out P w H t Q E) t
section
variable {P : Program} {w : World} {K : PySem.W.Frag} {mg : Str → Option Value} {base : Heap}
/-- a def's promise, of its body -/
theorem fn_ofG {x qual : Str} {st : Stmt} {f : Addr} {fd : FuncData} {N ps : List Str} {k : Nat} {sp : Sp} (F : Fun K x qual st f fd) (S : FnScope N ps (defScope st)) (ln : ∀ xs H Q E, sp xs H Q E → xs.length = ps.length)
    (bd : ∀ (cdv : Value) (A : Around) (out : List Env) (t : Shared) (H : Hp) (xs : List V) (Q : VK) (E : XK), RoomG k (A.deeper (envOfC qual (defScope st) t.heap.objs.size f cdv)) → sp xs H Q E →
      ∃ D, PSs (cxOf CX0 P w K mg base N qual (defScope st) f cdv A out t H E).nox (defBody st) D ∧ D { nx := fun _ H1 => Q .non H1, rt := Q } (L2.start N xs) H) : FnG P w K mg base (k + 1) f fd ps sp := by
  obtain ⟨oc, od, kV, doc, pm, an, cdv, ct, osl, rfl, lk, hcd⟩ := F.ex
  constructor
  · exact ln
  intro A out t H args us xs Q E rm en bi rv hp
  have nl := ln _ _ _ _ hp
  have up : ∀ b o, base.get? b = some o → t.heap.get? b = some o := fun b o e => (en.bs b o e).1
  have kin := en.mod.kin.keeps up
  refine codeAny_call_function rm.rm.depth (kin f _ lk) rfl S.co S.gen rfl (PySem.W.codeRec_of kin hcd) (bi _ _ _ _ ?_)
  refine wpAny_newFunctionEnv_cells S.kind (fun y hy => ?_) fun env eq t1 made => ?_
  · obtain ⟨n, v⟩ := y
    have c := S.par n (List.of_mem_zip hy).1
    exact c.elim .inl fun q => .inr ⟨q, PySem.W.cellsFrom_some _ _ _ (.inl q)⟩
  · subst eq
    obtain ⟨D, h1, h2⟩ := bd cdv A out t H xs Q E (rm.down _) hp
    have J := inv_start (CX := CX0) (E := E) S rm.rm.hd en nl rv made
    refine ⟨(en.mod.nolimit.keeps up).keeps made.toInCall.keep, codeAny_func (wpAny_mono (h1.nox.run [] t1 (L2.start N xs) H _ J h2) ?_ fun _ _ q => q)⟩
    intro fl t2 e
    cases fl with
    | ret u =>
      obtain ⟨v, σ2, H2, J2, r2, q2⟩ := e
      exact ⟨v, H2, J2.os, J2.bare, J2.base, J2.hok, r2, q2⟩
    | next =>
      obtain ⟨σ2, H2, J2, q2⟩ := e
      exact ⟨V.non, H2, J2.os, J2.bare, J2.base, J2.hok, (rfl : Value.none = Value.none), q2⟩
    | brk => exact e.elim fun _ e => e.elim fun _ e => e.2.elim
    | cont => exact e.elim fun _ e => e.elim fun _ e => e.2.elim
theorem fn_okG {x qual : Str} {st : Stmt} {f : Addr} {fd : FuncData} {N ps : List Str} {k m : Nat} {body : FS} (F : Fun K x qual st f fd) (S : FnScope N ps (defScope st)) (hm : N.length = ps.length + m)
    (hb : ∀ (cdv : Value) (A : Around) (outer : List Env) (s : Shared) (H : Hp) (E : XK), RoomG k (A.deeper (envOfC qual (defScope st) s.heap.objs.size f cdv)) → PDB (cxOf CX0 P w K mg base N qual (defScope st) f cdv A outer s H E).nox (defBody st) body) :
    FnG P w K mg base (k + 1) f fd ps (spD K ps.length (mkFn ps.length m body)) := by
  refine fn_ofG F S (fun vs H Q E h => h.1) (fun cdv A outer s H vs Q E hr h => ⟨_, hb cdv A outer s H E hr, ?_⟩)
  obtain ⟨hl, B, cs, c, outs, S0, hf, q⟩ := h
  unfold mkFn at hf
  split at hf
  · rename_i hn
    have hst : L2.start N vs = vs.map some ++ List.replicate m none := by
      unfold L2.start
      rw [hm, hl, Nat.add_sub_cancel_left]
    have S1 : Sta K B H (L2.start N vs) (cs.map some ++ List.replicate m none) := by
      rw [hst]
      exact S0.start
    have hlen : vs.length = cs.length := by rw [hl, hn]
    split at hf
    · rename_i e he
      cases hf
      refine ⟨B, _, _, _, S1, he, fun σ' H' p => ?_⟩
      rw [← hn] at q
      refine q .non H' (PostR.call rfl hst hlen ⟨p.fr, p.st.less fun a z => z.elim id fun z => (by cases z.1), rfl, fun a z => (by cases z.1), fun a z => (by cases z.1), p.pk, rfl⟩)
    · rename_i c' e he
      cases hf
      refine ⟨B, _, _, _, S1, he, fun v σ' H' p => ?_⟩
      rw [← hn] at q
      exact q v H' (PostR.call rfl hst hlen p)
    · cases hf
  · cases hf
end
section
variable {X : Cx} {k n : Nat} {f : Addr} {fd : FuncData} {ps : List Str} {sp : Sp}
theorem run_G {pins : List (Addr × Obj)} {σ : L2.St} {H : Hp} {t : Shared} {Q : VK} {us : List Value} {xs : List V} (F : FnG X.prog X.w X.K X.mg X.base k f fd ps sp) (rm : RoomG k X.A) (bi : Binds X.K fd ps []) (I : Inv X pins σ H t) (rv : Vals xs us)
    (h : sp (xs ++ []) H Q E0) : wpAny (model X.prog X.w) X.A (call (.ref f) us) (EP X pins σ Q) X.xe t := by
  rw [List.append_nil] at h
  have nl : us.length = ps.length := rv.length.symm.trans (F.len _ _ _ _ h)
  have b := bi t us I.kIn (by rw [List.append_nil]; exact nl)
  rw [List.append_nil] at b
  refine wpAny_call (codeAny_mono (F.run X.A X.stack t H ⟨us, []⟩ us xs Q E0 rm I.env0 b rv h) ?_)
  intro r t2 z
  match r, z with
  | .ok (.ret u), z => exact I.after z
theorem pe_callG {x : Str} {p pos : Pos} {e : Expr} {es : List Expr} {t : TA} (F : FnG X.prog X.w X.K X.mg X.base k f fd ps sp) (rm : RoomG k X.A) (gl : Gl X x) (hm : X.mg x = some (.ref f)) (hk : PySem.W.keepIn X.K (.ref f) = true) (bi : Binds X.K fd ps []) (ha : PA X (e :: es) t)
    (nb : (x == ("__debug__" : Str)) = false) (se : starEach (e :: es) X.env = (false, eval e X.env) :: starEach es X.env) (pl : (backTo pos (starEach es X.env)).any (·.1) = false) : PE X (.Call (.Name x p) (e :: es) [] pos) (tCall sp [] E0 t) :=
  ⟨fun pins s σ H Q I h => wpAny_Call_Name_kw (ld_glob I gl hm (PySem.W.callWith_K (h₀ := X.base) I.ok.mod.kin hk (thn (ha.run pos pins s σ H _ I h) fun us s1 ⟨vs, H1, I1, r, q⟩ => ⟨I1.kIn, run_G F rm bi I1 r q⟩) se pl) nb)⟩
theorem pe_callG0 {x : Str} {p pos : Pos} (F : FnG X.prog X.w X.K X.mg X.base k f fd ps sp) (rm : RoomG k X.A) (gl : Gl X x) (hm : X.mg x = some (.ref f)) (hk : PySem.W.keepIn X.K (.ref f) = true) (bi : Binds X.K fd ps [])
    (nb : (x == ("__debug__" : Str)) = false) : PE X (.Call (.Name x p) [] [] pos) (tCall sp [] E0 tNil) :=
  ⟨fun pins s σ H Q I h => wpAny_Call_Name_kw (ld_glob I gl hm (PySem.W.callWith_K0 I.kIn hk (run_G (us := []) F rm bi I .nil h)) nb)⟩
end
/-- a def as its callers see it -/
structure CalleeG (P : Program) (w : World) (K : PySem.W.Frag) (mg : Str → Option Value) (base : Heap) (x : Str) (k n : Nat) (F : Fn) : Prop where
  ex : ∃ (f : Addr) (fd : FuncData) (ps : List Str), FnG P w K mg base k f fd ps (spD K n F) ∧ mg x = some (.ref f) ∧ PySem.W.keepIn K (.ref f) = true ∧ Binds K fd ps []
section
variable {X : Cx}
theorem pd_callCG {k n : Nat} {F : Fn} {x : Str} {p pos : Pos} {e : Expr} {es : List Expr} {fs : List FO} (C : CalleeG X.prog X.w X.K X.mg X.base x k n F) (hr : RoomG k X.A) (hg : Gl X x)
    (ha : PDs X (e :: es) fs) (hn : fs.length = n := by rfl) (hdb : (x == ("__debug__" : Str)) = false := by decide) (he : starEach (e :: es) X.env = (false, eval e X.env) :: starEach es X.env := by rfl) (hpl : (backTo pos (starEach es X.env)).any (·.1) = false := by rfl) :
    PD X (.Call (.Name x p) (e :: es) [] pos) (dCall F fs) := by
  obtain ⟨f, fd, ps, G, hm, hk, hb⟩ := C.ex
  exact PEimp (pe_callG G hr hg hm hk hb ha hdb he hpl) fun σ H Q h => dCall_imp hn h
theorem pd_call0CG {k : Nat} {F : Fn} {x : Str} {p pos : Pos} (C : CalleeG X.prog X.w X.K X.mg X.base x k 0 F) (hr : RoomG k X.A) (hg : Gl X x) (hdb : (x == ("__debug__" : Str)) = false := by decide) :
    PD X (.Call (.Name x p) [] [] pos) (dCall F []) := by
  obtain ⟨f, fd, ps, G, hm, hk, hb⟩ := C.ex
  exact PEimp (pe_callG0 G hr hg hm hk hb hdb) fun σ H Q h => by
    obtain ⟨B, env, os, e1, S, hos, q⟩ := dCall_imp (n := 0) (E := E0) rfl h
    cases hos
    exact q [] H (PostOs.nil S)
/-! repr -/
theorem call_reprD (hu : X.A.units + 66 < cLine) (hg : X.A.guards = some []) : CallR X (.builtin "repr") (fun xs H Q => ∃ x d, xs = [x] ∧ Dp X.K H x d ∧ d.canLay0 = true ∧ d.depth ≤ 64 ∧ d.showable = true ∧ d.shown.length ≤ sizeLine ∧ Q (.str d.shown) H) := by
  intro pins s σ H xs us Q I r h
  obtain ⟨x, d, rfl, hd, hl, h64, hs, hsz, q⟩ := h
  obtain ⟨u, rfl, t⟩ := vals1 r
  have list : ∀ (a : Addr) (as : List Addr), Reads s.heap (.ref a) d as → wpAny (model X.prog X.w) X.A (call (.builtin "repr") [.ref a]) (EP X pins σ Q) X.xe s := fun a as rd =>
    repr_of_reads' rd hs (PyData.noDict_hsm (PyData.hasDict_of_canLay d hl)) hg (by omega) (fun _ _ e => e) (fun h1 u tk kept => ⟨.str d.shown, H, I.kept kept, ⟨u, rfl⟩, q⟩) hsz
  obtain ⟨as, rd⟩ := Dp.reads I d x u hd t
  cases hd with
  | non =>
    cases (show u = .none from t)
    exact PySem.P.repr_of_none ⟨.str (PyData.shown .none), H, I.tok _, ⟨_, rfl⟩, q⟩
  | bl b =>
    cases (show u = .bool b from t)
    exact PySem.P.repr_of_bool ⟨.str (PyData.shown (.bool b)), H, I.tok _, ⟨_, rfl⟩, q⟩
  | int i =>
    obtain ⟨tk, rfl⟩ := (show ∃ tk, u = .int i tk from t)
    refine PySem.P.repr_of_int (by simpa [PyData.showable] using hs) ⟨.str (PyData.shown (.int i)), H, I.tok _, ⟨_, rfl⟩, q⟩
  | str y =>
    obtain ⟨tk, rfl⟩ := (show ∃ tk, u = .str y tk from t)
    exact PySem.P.repr_of_str ⟨.str (PyData.shown (.str y)), H, I.tok _, ⟨_, rfl⟩, q⟩ hsz
  | lst h1 h2 =>
    cases (show u = .ref _ from t)
    exact list _ as rd
  | tup h1 h2 =>
    cases (show u = .ref _ from t)
    exact list _ as rd
end
end DL
set_option Elab.async false
set_option linter.all false
set_option maxRecDepth 100000
set_option maxHeartbeats 4000000
namespace DL
open PySem PySem.Spec PyProof.Rows L2
section
variable {P : Program} {w : World} {K : PySem.W.Frag} {mg mb : Str → Option Value} {k : Nat} {fa a : Addr} {fd : FuncData} {x : Str} {sp : Sp} {t : Shared} {vs : List Value} {ns : List Int}
/-- the law's def is called over a heap of which nothing but the script is told -/
theorem law_overG {H : Hp} (KX : K.In t.heap) (gn : t.heap.Ns mainGlobals mg) (bn : t.heap.Ns builtinsNs mb) (bb : ∀ x : Str, x ≠ "__name__" → mb x = bootBuiltins x) (nl : t.heap.NoLimit) (gg : t.gens = #[])
    (ia : t.heap.get? a = some { cls := .type "list", data := .seq vs.toArray }) (rm : RoomG k callerA) (F : ∀ base : Heap, K.In base → base.Ns mainGlobals mg → FnG P w K mg base k fa fd [x] sp)
    (bi : ∀ (s : Shared) (u : Value), BindsTo s fd ⟨[u], []⟩ [(x, u)]) (only : Only H) (ok : HOk P w H t.heap) (atA : ∀ b, H b ≠ none → b = a) (noK : H a ≠ none → K.lookup a = none) (good : sp [.ref a] H (fun v _ => v = .bl true) fun _ _ _ => False) :
    codeAny (model P w) callerA (.call (.ref fa) ⟨[.ref a], []⟩) (fun r s' => r = .ok (.ret (.bool true)) ∧ OldK t.heap s'.heap ∧ s'.os = t.os ∧ AllBare s'.gens) t := by
  have none_of : ∀ b, (H b ≠ none → False) → H b = none := fun b h => Classical.byContradiction h
  have keepN : ∀ {b : Addr} {m : Str → Option Value}, t.heap.Ns b m → (hidT t.heap H).Ns b m := by
    rintro b m ⟨o, es, ep, h1, h2, h3⟩
    refine ⟨o, es, ep, hidT_get h1 (none_of b fun z => ?_), h2, h3⟩
    cases atA b z
    rw [ia] at h1
    cases h1
    exact nomatch h2
  have inB : K.In (hidT t.heap H) := fun b o h => hidT_get (KX b o h) (none_of b fun z => by
    cases atA b z
    rw [noK z] at h
    exact nomatch h)
  obtain ⟨mc, l1, l2⟩ := nl
  have en : Env0 P w K mg (hidT t.heap H) callerA [] t H := ⟨rfl, ⟨inB, keepN gn, ⟨mb, keepN bn, bb⟩, ⟨mc, keepN l1, l2⟩⟩, fun b o h => of_hidT h, Nat.le_of_eq (hidT_size _ _), trivial, fun b h => absurd (show b ∈ ([] : List Addr) from h) List.not_mem_nil, ok, .of_eq gg⟩
  refine codeAny_mono ((F _ inB (keepN gn)).run callerA [] t H ⟨[.ref a], []⟩ [.ref a] [.ref a] _ _ rm en (bi t (.ref a)) (.cons rfl .nil) good) ?_
  intro r t2 z
  match r, z with
  | .ok (.ret u), z =>
    obtain ⟨v, H2, z1, z2, un, ok2, z3, rfl⟩ := z
    obtain rfl : u = Value.bool true := z3
    refine ⟨rfl, OldK.of_keep fun b o h => ?_, z1, z2⟩
    rcases only b with c | ⟨ob, xs, c⟩
    · exact un.keep b o h c (fun q => absurd (show b ∈ ([] : List Addr) from q) List.not_mem_nil) List.not_mem_nil
    · have g1 := (ok b _ c).1
      have g2 := (ok2 b _ (un.frzs b ob _ c)).1
      exact g2.trans (g1.symm.trans h)
theorem law_callG (KX : K.In t.heap) (gn : t.heap.Ns mainGlobals mg) (bn : t.heap.Ns builtinsNs mb) (bb : ∀ x : Str, x ≠ "__name__" → mb x = bootBuiltins x) (nl : t.heap.NoLimit) (gg : t.gens = #[])
    (ia : t.heap.get? a = some { cls := .type "list", data := .seq vs.toArray }) (iar : IntsAre vs ns) (le : ns.length ≤ sizeLine) (rm : RoomG k callerA) (F : ∀ base : Heap, K.In base → base.Ns mainGlobals mg → FnG P w K mg base k fa fd [x] sp)
    (bi : ∀ (s : Shared) (u : Value), BindsTo s fd ⟨[u], []⟩ [(x, u)]) (good : ∀ H : Hp, Only H → SqL K H a (ns.map V.int) → sp [.ref a] H (fun v _ => v = .bl true) fun _ _ _ => False) :
    codeAny (model P w) callerA (.call (.ref fa) ⟨[.ref a], []⟩) (fun r s' => r = .ok (.ret (.bool true)) ∧ OldK t.heap s'.heap ∧ s'.os = t.os ∧ AllBare s'.gens) t := by
  have rv := vals_ints iar
  have ln := iar.length
  cases lk : K.lookup a with
  | some o =>
    have e := (KX a o lk).symm.trans ia
    cases e
    have on : Only (fun _ => none : Hp) := fun _ => .inl rfl
    exact law_overG KX gn bn bb nl gg ia rm F bi on (fun b u z => nomatch z) (fun b z => absurd rfl z) (fun z => absurd rfl z) (good _ on (.inr ⟨_, vs.toArray, _, lk, rfl, rfl, rfl, by rw [List.size_toArray, ln]; exact le, by simpa using rv⟩))
  | none =>
    let o : HO := .frz { cls := .type "list", data := .seq vs.toArray } (.lst (ns.map V.int))
    let H : Hp := fun b => if b = a then some o else none
    have ha : H a = some o := if_pos rfl
    have hn : ∀ b, b ≠ a → H b = none := fun b h => if_neg h
    have on : Only H := fun b => if h : b = a then .inr ⟨_, _, h ▸ ha⟩ else .inl (hn b h)
    have ok : HOk P w H t.heap := fun b u z => by
      by_cases h : b = a
      · subst h
        rw [ha] at z
        cases z
        exact ⟨ia, by rw [List.length_map]; exact le, vs, _, rv, ia⟩
      · rw [hn b h] at z
        exact nomatch z
    exact law_overG KX gn bn bb nl gg ia rm F bi on ok (fun b z => Classical.byContradiction fun h => z (hn b h)) (fun _ => lk) (good H on (.inl (.inr ⟨_, ha⟩)))
end
theorem walk_ofG {l : PySem.W.OpenLaw} {n k : Nat} {q : Program} {loose : List Str} {XP : (Str → Option Value) → Heap → Prop} {YP : World → Heap → Prop} {d : DefRec} {K : Params → PySem.W.Frag} {sp : World → Sp} {x : Str}
    (hn : l.most = some n) (hn2 : n ≤ sizeLine) (hdf : d.params.defaults = []) (rm : RoomG k callerA) (hY : ∀ (w : World) (h : Heap), YP w h → (K w.params).In h)
    (F : ∀ (w : World) (mg : Str → Option Value) (fa : Addr) (h : Heap), (K w.params).In h → h.Ns mainGlobals mg → mg d.name = some (.ref fa) →
      ∃ fd : FuncData, (∀ (s : Shared) (u : Value), BindsTo s fd ⟨[u], []⟩ [(x, u)]) ∧ ∀ base : Heap, (K w.params).In base → base.Ns mainGlobals mg → FnG l.prog w (K w.params) mg base k fa fd [x] (sp w))
    (good : ∀ (w : World) (H : Hp) (a : Addr) (ns : List Int), ns.length ≤ n → (∀ z ∈ ns, Builtin.Int.intBits z ≤ 1048576) → Only H → SqL (K w.params) H a (ns.map V.int) → sp w [.ref a] H (fun v _ => v = .bl true) fun _ _ _ => False) :
    PySem.W.WalkO q loose XP YP l.row.toRowW d [] (fun f vs => PySem.call f vs) :=
  Att.attach_callB hn hdf fun w s₀ s₁ mg mb fa o pm cd doc a vs ns G Y h1 h2 h3 h4 h5 h6 h7 h8 h9 => by
    obtain ⟨fd, b, f⟩ := F w mg fa _ (hY w _ Y) G.T.g h4
    exact law_callG (hY w _ Y) G.T.g G.T.b G.T.builtins G.T.nolimit h9 h5 h6 (Nat.le_trans h7 hn2) rm f b fun H e1 e2 => good w H a ns h7 h8 e1 e2
end DL
set_option Elab.async false
set_option linter.all false
set_option maxRecDepth 8000
set_option maxHeartbeats 4000000
namespace DL
open PySem PySem.Spec PyProof.Rows L2
/-! ### what repr says is a text, and not too long -/
def gdL (l : List Nat) : Prop := ∀ c ∈ l, c < 0x110000
def gd (x : Str) : Prop := gdL x.cps.toList
theorem gd_iff {x : Str} : PyData.strOk x = true ↔ gd x := by
  unfold PyData.strOk gd gdL
  rw [← Array.all_toList, List.all_eq_true]
  simp
theorem gd_app {x y : Str} (hx : gd x) (hy : gd y) : gd (x ++ y) := by
  intro c hc
  have e : (x ++ y).cps.toList = x.cps.toList ++ y.cps.toList := by
    show (x.cps ++ y.cps).toList = _
    simp
  rw [e] at hc
  rcases List.mem_append.mp hc with h | h
  · exact hx c h
  · exact hy c h
theorem char_lt (c : Char) : c.toNat < 0x110000 := by
  have h := c.valid
  have e : c.toNat = c.val.toNat := rfl
  rcases h with h | ⟨_, h⟩
  · have : c.val.toNat < 0xd800 := h
    omega
  · have : c.val.toNat < 0x110000 := h
    omega
theorem gd_ofString (s : String) : gd (Str.ofString s) := by
  intro c hc
  rw [Str.ofString_eq_toList] at hc
  simp only [List.toList_toArray, List.mem_map] at hc
  obtain ⟨d, _, rfl⟩ := hc
  exact char_lt d
theorem gdL_hex (w c : Nat) : gdL (List.replicate (w - ((Nat.toDigits 16 c).map Char.toNat).length) 48 ++ (Nat.toDigits 16 c).map Char.toNat) := by
  intro d hd
  rcases List.mem_append.mp hd with h | h
  · rw [(List.mem_replicate.mp h).2]
    decide
  · obtain ⟨e, _, rfl⟩ := List.mem_map.mp h
    exact char_lt e
theorem gdL_reprChar (q : Nat) {c : Nat} (hc : c < 0x110000) : gdL (Builtin.Str.reprChar q c) := by
  have two : ∀ a, a < 0x110000 → gdL [92, a] := fun a h d hd => by
    simp only [List.mem_cons, List.not_mem_nil, or_false] at hd
    rcases hd with rfl | rfl
    · decide
    · exact h
  have hex : ∀ a w, a < 0x110000 → gdL ([92, a] ++ (List.replicate (w - ((Nat.toDigits 16 c).map Char.toNat).length) 48 ++ (Nat.toDigits 16 c).map Char.toNat)) := fun a w h d hd => by
    rcases List.mem_append.mp hd with z | z
    · exact two a h d z
    · exact gdL_hex w c d z
  unfold Builtin.Str.reprChar
  dsimp only
  split
  · exact two c hc
  · split
    · exact two 110 (by decide)
    · split
      · exact two 114 (by decide)
      · split
        · exact two 116 (by decide)
        · split
          · intro d hd
            rw [List.mem_singleton.mp hd]
            exact hc
          · split
            · exact hex 120 2 (by decide)
            · split
              · exact hex 117 4 (by decide)
              · exact hex 85 8 (by decide)
theorem gd_fold (q : Nat) : ∀ (l : List Nat) (acc : Array Nat), gdL l → gdL acc.toList → gdL (l.foldl (fun out c => out ++ (Builtin.Str.reprChar q c).toArray) acc).toList
  | [], acc, _, h => h
  | c :: l, acc, h, ha => by
    rw [List.foldl_cons]
    refine gd_fold q l _ (fun d hd => h d (List.mem_cons_of_mem _ hd)) fun d hd => ?_
    rw [Array.toList_append] at hd
    rcases List.mem_append.mp hd with z | z
    · exact ha d z
    · exact gdL_reprChar q (h c List.mem_cons_self) d (by simpa using z)
theorem quote_lt (x : Str) : reprQuote x < 0x110000 := by
  unfold reprQuote
  split <;> decide
theorem gd_reprText {x : Str} (h : gd x) : gd (reprText x) := by
  unfold reprText
  intro c hc
  rw [Array.toList_push] at hc
  rcases List.mem_append.mp hc with z | z
  · rw [← Array.foldl_toList] at z
    refine gd_fold (reprQuote x) x.cps.toList #[reprQuote x] h (fun d hd => ?_) c z
    rw [show d = reprQuote x by simpa using hd]
    exact quote_lt x
  · rw [List.mem_singleton.mp z]
    exact quote_lt x
theorem gd_textFrom : ∀ (ts : List Str) (k : Nat) (acc : Str), gd acc → (∀ t ∈ ts, gd t) → gd (textFrom k acc ts)
  | [], _, acc, h, _ => h
  | t :: ts, k, acc, h, ht => by
    unfold textFrom
    refine gd_textFrom ts (k + 1) _ (gd_app (gd_app h ?_) (ht t List.mem_cons_self)) fun u hu => ht u (List.mem_cons_of_mem _ hu)
    exact gd_ofString _
theorem gd_join {sep : Str} (hs : gd sep) : ∀ ts : List Str, (∀ t ∈ ts, gd t) → gd (Str.join sep ts)
  | [], _ => fun c hc => by
    have : c ∈ (#[] : Array Nat).toList := hc
    simp at this
  | [x], h => h x List.mem_cons_self
  | x :: y :: r, h => by
    show gd (x ++ sep ++ Str.join sep (y :: r))
    exact gd_app (gd_app (h x List.mem_cons_self) hs) (gd_join hs (y :: r) fun t ht => h t (List.mem_cons_of_mem _ ht))
mutual
theorem gd_shown : ∀ d : PyData, d.canLay0 = true → gd d.shown
  | .none, _ => gd_ofString _
  | .bool b, _ => by cases b <;> exact gd_ofString _
  | .int i, _ => gd_ofString _
  | .str x, h => gd_reprText (gd_iff.mp h)
  | .list xs, h => gd_app (gd_textFrom _ 0 _ (gd_ofString _) (gd_shownAll xs h)) (gd_ofString _)
  | .tuple xs, h => gd_app (gd_app (gd_ofString _) (gd_join (gd_ofString _) _ (gd_shownAll xs h))) (gd_ofString _)
  | .dict _, h => by cases h
theorem gd_shownAll : ∀ ds : List PyData, PyData.canLayAll0 ds = true → ∀ t ∈ PyData.shownAll ds, gd t
  | [], _ => fun t ht => nomatch ht
  | d :: ds, h => fun t ht => by
    have h' : (d.canLay0 && PyData.canLayAll0 ds) = true := h
    rw [Bool.and_eq_true] at h'
    rcases List.mem_cons.mp ht with rfl | z
    · exact gd_shown d h'.1
    · exact gd_shownAll ds h'.2 t z
end
theorem okS_shown {d : PyData} (h : d.canLay0 = true) (hl : d.shown.length ≤ 16777216) : okS d.shown = true := by
  unfold okS
  rw [Bool.and_eq_true]
  refine ⟨gd_iff.mpr (gd_shown d h), decide_eq_true ?_⟩
  have : d.shown.length = d.shown.cps.toList.length := by simp [Str.length]
  rw [← this]
  exact hl
/-! lengths -/
mutual
def rsz : PyData → Nat
  | .none => 4
  | .bool _ => 5
  | .int i => (Str.ofString (toString i)).length
  | .str x => 10 * x.cps.toList.length + 2
  | .list xs => rszAll xs + 2
  | .tuple xs => rszAll xs + 3
  | .dict _ => 0
def rszAll : List PyData → Nat
  | [] => 0
  | d :: ds => rsz d + 2 + rszAll ds
end
theorem piled_cons (t : Str) (ts : List Str) : piled (t :: ts) = t.length + 2 + piled ts := by simp [piled]
theorem textFrom_up : ∀ (ts : List Str) (k : Nat) (acc : Str), (textFrom k acc ts).length ≤ acc.length + piled ts
  | [], k, acc => by show acc.length ≤ _; omega
  | t :: ts, k, acc => by
    unfold textFrom
    have := textFrom_up ts (k + 1) (acc ++ (if k > 0 then ", " else "" : String) ++ t)
    rw [piled_cons]
    have e : (acc ++ (if k > 0 then ", " else "" : String) ++ t).length ≤ acc.length + 2 + t.length := by
      rw [strLen_append, strLen_append]
      split
      · exact Nat.le_refl _
      · show acc.length + 0 + t.length ≤ _
        omega
    omega
theorem join_up : ∀ ts : List Str, (Str.join ", " ts).length ≤ piled ts
  | [] => Nat.zero_le _
  | t :: ts => by
    have := join_length_add (t :: ts) (by simp)
    omega
mutual
theorem shown_len : ∀ d : PyData, d.canLay0 = true → d.shown.length ≤ rsz d
  | .none, _ => Nat.le_refl _
  | .bool b, _ => by cases b <;> decide
  | .int i, _ => Nat.le_refl _
  | .str x, h => by
    have e : x.length = x.cps.toList.length := by simp [Str.length]
    have := StrLaws.reprText_len x (fun c hc => Nat.lt_of_lt_of_le (gd_iff.mp h c hc) (by decide))
    show (reprText x).length ≤ 10 * x.cps.toList.length + 2
    omega
  | .list xs, h => by
    have q := piled_len xs h
    have u := textFrom_up (PyData.shownAll xs) 0 "["
    show (textFrom 0 "[" (PyData.shownAll xs) ++ ("]" : Str)).length ≤ rszAll xs + 2
    rw [strLen_append]
    have e1 : (("[" : Str)).length = 1 := rfl
    have e2 : (("]" : Str)).length = 1 := rfl
    omega
  | .tuple xs, h => by
    have q := piled_len xs h
    have u := join_up (PyData.shownAll xs)
    show ((("(" : Str) ++ Str.join ", " (PyData.shownAll xs)) ++ (if (PyData.shownAll xs).length == 1 then ",)" else ")" : String)).length ≤ rszAll xs + 3
    rw [strLen_append, strLen_append]
    have e1 : (("(" : Str)).length = 1 := rfl
    have e2 : (Str.ofString (if (PyData.shownAll xs).length == 1 then ",)" else ")" : String)).length ≤ 2 := by split <;> decide
    have e3 : ((if (PyData.shownAll xs).length == 1 then ",)" else ")" : String) : Str).length ≤ 2 := e2
    omega
  | .dict _, h => by cases h
theorem piled_len : ∀ ds : List PyData, PyData.canLayAll0 ds = true → piled (PyData.shownAll ds) ≤ rszAll ds
  | [], _ => Nat.le_refl _
  | d :: ds, h => by
    have h' : (d.canLay0 && PyData.canLayAll0 ds) = true := h
    rw [Bool.and_eq_true] at h'
    have a := shown_len d h'.1
    have b := piled_len ds h'.2
    show piled (d.shown :: PyData.shownAll ds) ≤ rsz d + 2 + rszAll ds
    rw [piled_cons]
    omega
end
noncomputable def semRepr : List C → Option C
  | [a] => match a.data with
    | some d => if fits (dep d ≤ 64 ∧ d.showable = true ∧ rsz d ≤ 16777216) then some (.fz (.str d.shown)) else none
    | none => none
  | _ => none
section
variable {K : PySem.W.Frag}
theorem ok_repr : Ok K (fun xs H Q => ∃ x d, xs = [x] ∧ Dp K H x d ∧ d.canLay0 = true ∧ d.depth ≤ 64 ∧ d.showable = true ∧ d.shown.length ≤ sizeLine ∧ Q (.str d.shown) H) semRepr := by
  refine OkL1 (fun cs h => ?_) fun bad H x a c Q trk ra hs q => ?_
  · match cs, h with
    | [_], _ => rfl
    | [], h => exact absurd rfl h
    | _ :: _ :: _, h => exact absurd (by simp [semRepr]) h
  · simp only [semRepr] at hs
    split at hs
    · rename_i d ha
      split at hs
      · rename_i hf
        obtain ⟨h1, h2, h3⟩ := of_fits hf
        cases hs
        obtain ⟨d1, l1⟩ := see_dp ha ra (dep_le _ h1).1
        have h4 := Nat.le_trans (shown_len d l1) h3
        exact ⟨x, d, rfl, d1, l1, dep_depth h1, h2, line_eq h4, q _ _ Ext.refl ⟨rfl, okS_shown l1 h4⟩⟩
      · cases hs
    · cases hs
end
theorem semRepr_fz {d : PyData} (h1 : dep d ≤ 64) (h2 : d.showable = true) (h3 : rsz d ≤ 16777216) : semRepr [.fz d] = some (.fz (.str d.shown)) := by
  simp only [semRepr, C.data]
  exact if_pos (fits_of ⟨h1, h2, h3⟩)
theorem semRepr_ow {d : PyData} (h1 : dep d ≤ 64) (h2 : d.showable = true) (h3 : rsz d ≤ 16777216) : semRepr [.ow d] = some (.fz (.str d.shown)) := by
  simp only [semRepr, C.data]
  exact if_pos (fits_of ⟨h1, h2, h3⟩)
end DL
set_option Elab.async false
set_option linter.all false
set_option maxRecDepth 100000
set_option maxHeartbeats 4000000
namespace DL
open PySem PySem.Spec PyProof.Rows L2
/-! ### a < b < c -/
def OkC (K : PySem.W.Frag) (r : R2) (sem : List C → Option C) : Prop :=
  ∀ (bad : Addr → Prop) (H : Hp) (x y : V) (a b : C) (k : Bool) (Q : VK), (∀ a, bad a → H a ≠ none) → CRep K bad H a x → CRep K bad H b y → sem [a, b] = some (.fz (.bool k)) → Q (.bl k) H → r x y H Q
section
variable {K : PySem.W.Frag}
theorem okc_lt : OkC K rLtD semLt := fun bad H x y a b k Q trk ra rb hs q => by
  simp only [semLt] at hs
  split at hs
  · rename_i i j ha hb
    cases hs
    exact .inl ⟨i, j, see_int ha ra, see_int hb rb, q⟩
  · rename_i i j ha hb
    cases hs
    exact .inr ⟨i, j, (see_str ha ra).1, (see_str hb rb).1, q⟩
  · cases hs
theorem okc_le : OkC K rLeD semLe := fun bad H x y a b k Q trk ra rb hs q => by
  simp only [semLe] at hs
  split at hs
  · rename_i i j ha hb
    cases hs
    exact .inl ⟨i, j, see_int ha ra, see_int hb rb, q⟩
  · rename_i i j ha hb
    cases hs
    exact .inr ⟨i, j, (see_str ha ra).1, (see_str hb rb).1, q⟩
  · cases hs
theorem okc_gt : OkC K rGtD semGt := fun bad H x y a b k Q trk ra rb hs q => by
  simp only [semGt] at hs
  split at hs
  · rename_i i j ha hb
    cases hs
    exact .inl ⟨i, j, see_int ha ra, see_int hb rb, q⟩
  · rename_i i j ha hb
    cases hs
    exact .inr ⟨i, j, (see_str ha ra).1, (see_str hb rb).1, q⟩
  · cases hs
theorem okc_ge : OkC K rGeD semGe := fun bad H x y a b k Q trk ra rb hs q => by
  simp only [semGe] at hs
  split at hs
  · rename_i i j ha hb
    cases hs
    exact .inl ⟨i, j, see_int ha ra, see_int hb rb, q⟩
  · rename_i i j ha hb
    cases hs
    exact .inr ⟨i, j, (see_str ha ra).1, (see_str hb rb).1, q⟩
  · cases hs
theorem okc_eq : OkC K (rEqD K) semEq := fun bad H x y a b k Q trk ra rb hs q => by
  simp only [semEq] at hs
  split at hs
  · rename_i d e ha hb
    split at hs
    · rename_i hm
      cases hs
      obtain ⟨d1, l1⟩ := see_dp ha ra (dep_le _ hm.1).1
      obtain ⟨d2, l2⟩ := see_dp hb rb (dep_le _ hm.2).1
      exact ⟨d, e, d1, d2, shaped_of l1 (dep_depth hm.1), shaped_of l2 (dep_depth hm.2), q⟩
    · cases hs
  · cases hs
end
def dChain (s1 s2 : List C → Option C) (fa fb fc : FO) : FE := fun env => match fa env with
  | some (oa, e1) => match fb e1 with
    | some (ob, e2) => match seeAll e2 [oa, ob] with
      | some cs => match s1 cs with
        | some (.fz (.bool true)) => match fc e2 with
          | some (oc, e3) => match seeAll e3 [ob, oc] with
            | some ds => match s2 ds with
              | some (.fz (.bool k)) => some (.fz (.bool k), e3)
              | _ => none
            | none => none
          | none => none
        | some (.fz (.bool false)) => some (.fz (.bool false), e2)
        | _ => none
      | none => none
    | none => none
  | none => none
section
variable {K : PySem.W.Frag} {σ : L2.St} {H : Hp} {X : Cx}
theorem tI_chain {r r' : R2} {s1 s2 : List C → Option C} {fa fb fc : FO} (h1 : OkC K r s1) (h2 : OkC K r' s2) {Q : VK} (h : tI K (dChain s1 s2 fa fb fc) σ H Q) : tChain r r' (tO K fa) (tO K fb) (tO K fc) σ H Q := by
  obtain ⟨B, env, c, env', S, hf, q⟩ := h
  unfold dChain at hf
  split at hf
  · rename_i oa e1 ha
    split at hf
    · rename_i ob e2 hb
      split at hf
      · rename_i cs hcs
        refine ⟨B, env, oa, e1, S, ha, fun x H1 p1 => ⟨_, e1, ob, e2, PostO.st S p1, hb, fun y H2 p2 => ?_⟩⟩
        have S2 := PostO.st (PostO.st S p1) p2
        have P := PostOs.cons S p1 (PostOs.cons (PostO.st S p1) p2 (PostOs.nil S2))
        have R := P.st.seeAll (fun _ z => z) P.ro hcs
        match cs, R with
        | a :: b :: [], ⟨_, _, rfl, ra, _, _, rfl, rb, _⟩ =>
          split at hf
          · rename_i hs
            split at hf
            · rename_i oc e3 hc
              split at hf
              · rename_i ds hds
                split at hf
                · rename_i k hk
                  cases hf
                  refine h1 _ H2 _ _ a b true _ P.st.trkB ra rb hs ⟨true, rfl, ?_⟩
                  rw [if_pos rfl]
                  refine ⟨_, e2, oc, _, S2, hc, fun w H3 p3 => ?_⟩
                  have P3 := PostOs.cons S p1 (PostOs.cons (PostO.st S p1) p2 (PostOs.cons S2 p3 (PostOs.nil (PostO.st S2 p3))))
                  have ro := P3.ro
                  obtain ⟨_, _, e4, _, ro2⟩ := ro
                  cases e4
                  have R3 := P3.st.seeAll (fun _ z => z) ro2 hds
                  match ds, R3 with
                  | b' :: c' :: [], ⟨_, _, rfl, rb', _, _, rfl, rc', _⟩ =>
                    exact h2 _ H3 _ _ b' c' k Q P3.st.trkB rb' rc' hk (q _ H3 (P3.fin Ext.refl rfl))
                · cases hf
              · cases hf
            · cases hf
          · rename_i hs
            cases hf
            refine h1 _ H2 _ _ a b false _ P.st.trkB ra rb hs ⟨false, rfl, ?_⟩
            rw [if_neg (by decide)]
            exact q _ H2 (P.fin Ext.refl rfl)
          · cases hf
      · cases hf
    · cases hf
  · cases hf
theorem pd_chain {op op' : CmpOp} {a b c : Expr} {pos : Pos} {r r' : R2} {s1 s2 : List C → Option C} {fa fb fc : FO} (ho : OpR X (compareOp op) r) (ho' : OpR X (compareOp op') r') (h1 : OkC X.K r s1) (h2 : OkC X.K r' s2) (ha : PDO X a fa) (hb : PDO X b fb) (hc : PDO X c fc)
    (hm : lastMarks [op, op'] [b, c] = false := by with_unfolding_all rfl) : PD X (.Compare a [op, op'] [b, c] pos) (dChain s1 s2 fa fb fc) := PEimp (pe_chain ho ho' ha hb hc hm) fun σ H Q h => tI_chain h1 h2 h
theorem pt_chainD {op op' : CmpOp} {a b c : Expr} {pos : Pos} {r r' : R2} {s1 s2 : List C → Option C} {fa fb fc : FO} (ho : OpR X (compareOp op) r) (ho' : OpR X (compareOp op') r') (h1 : OkC X.K r s1) (h2 : OkC X.K r' s2) (ha : PDO X a fa) (hb : PDO X b fb) (hc : PDO X c fc)
    (hm : lastMarks [op, op'] [b, c] = false := by with_unfolding_all rfl) : PDT X (.Compare a [op, op'] [b, c] pos) (dTst (dChain s1 s2 fa fb fc)) := PTimp (pt_chain ho ho' ha hb hc hm) fun σ H Q h => tI_chain h1 h2 (tT_tst h)
/-! constants of the module -/
theorem pd_globS {x y : Str} {l : List Nat} {t : Tok} {pos : Pos} (hg : Gl X x) (hm : X.mg x = some (.str y t)) (hy : y = (⟨⟨l⟩⟩ : Str)) (h : okS (⟨⟨l⟩⟩ : Str) = true := by decide +kernel) (hd : (x == ("__debug__" : Str)) = false := by decide) : PD X (.Name x pos) (dC (S l)) := by
  subst hy
  exact pd_c (v := V.str ⟨⟨l⟩⟩) (pe_glob hg hm ⟨t, rfl⟩ hd) fun _ _ => ⟨rfl, h⟩
theorem pd_globI {x : Str} {i : Int} {t : Tok} {pos : Pos} (hg : Gl X x) (hm : X.mg x = some (.int i t)) (hd : (x == ("__debug__" : Str)) = false := by decide) : PD X (.Name x pos) (dC (.int i)) :=
  pd_c (v := V.int i) (pe_glob hg hm ⟨t, rfl⟩ hd) fun _ _ => rfl
end
end DL
set_option Elab.async false
set_option linter.all false
set_option maxRecDepth 100000
set_option maxHeartbeats 4000000
namespace DL
open PySem PySem.Spec PyProof.Rows L2
/-! ### isinstance(x, T), T a built-in class -/
def tyD : D → String
  | .none => "NoneType"
  | .bool _ => "bool"
  | .int _ => "int"
  | .str _ => "str"
  | .list _ => "list"
  | .tuple _ => "tuple"
  | .dict _ => "dict"
def subT (t T : String) : Bool := t == T || (t == "bool" && T == "int")
def okT (T : String) : Prop := T = "str" ∨ T = "tuple" ∨ T = "list" ∨ T = "int" ∨ T = "bool"
theorem kit_sub (K : PySem.W.Frag) (d : D) {T : String} (h : okT T) : PySem.W.kitOne K (.type (tyD d)) (.type T) = some (subT (tyD d) T) := by
  rcases h with rfl | rfl | rfl | rfl | rfl <;> cases d <;> rfl
noncomputable def semIsi (T : String) : List C → Option C
  | [a] => match a.data with
    | some d => some (.fz (.bool (subT (tyD d) T)))
    | none => none
  | _ => none
section
variable {K : PySem.W.Frag} {bad : Addr → Prop} {H : Hp} {c : C} {d : D} {x : V} {X : Cx} {σ : L2.St}
theorem see_ty (e : c.data = some d) (r : CRep K bad H c x) : TyX K H x (.type (tyD d)) := by
  have fz : ∀ {B : Addr → Prop}, Fz K B H d x → TyX K H x (.type (tyD d)) := fun {B} h => by
    cases d with
    | none => cases (show x = .non from h); exact .base .non
    | bool b => cases (show x = .bl b from h); exact .base (.bl b)
    | int i => cases (show x = .int i from h); exact .base (.int i)
    | str y => rw [h.1]; exact .base (.str y)
    | list ds =>
      obtain ⟨a, vs, rfl, h1, _⟩ := h
      exact .base (.lst h1)
    | tuple ds =>
      obtain ⟨a, vs, rfl, h1, _⟩ := h
      rcases h1 with (h | ⟨o, h⟩) | ⟨o, its, n, h, hc, _⟩
      · exact .base (.tup h)
      · exact .fTuple h
      · exact .kTuple h hc
    | dict kv =>
      obtain ⟨a, rfl, _, h⟩ := h
      rcases h with ⟨kvs, h, _⟩ | ⟨kvs, h, _⟩
      · exact .base (.dK h)
      · exact .base (.dT h)
  cases c with
  | fz d' =>
    cases e
    exact fz r
  | ow d' =>
    cases e
    obtain ⟨a, rfl, h⟩ := r
    cases d with
    | list ds =>
      obtain ⟨vs, h1, _⟩ := h
      exact .base (.lst h1)
    | none => exact (show False from h).elim
    | bool b => exact (show False from h).elim
    | int b => exact (show False from h).elim
    | str b => exact (show False from h).elim
    | tuple b => exact (show False from h).elim
    | dict b =>
      rcases h with ⟨kvs, h, _⟩ | ⟨kvs, h, _⟩
      · exact .base (.dK h)
      · exact .base (.dT h)
  | pw d' =>
    cases e
    obtain ⟨a, rfl, h⟩ := r
    cases d with
    | list ds =>
      obtain ⟨vs, h1, _⟩ := h
      exact .base (.lst h1)
    | none => exact (show False from h).elim
    | bool b => exact (show False from h).elim
    | int b => exact (show False from h).elim
    | str b => exact (show False from h).elim
    | tuple b => exact (show False from h).elim
    | dict b =>
      rcases h with ⟨kvs, h, _⟩ | ⟨kvs, h, _⟩
      · exact .base (.dK h)
      · exact .base (.dT h)
  | sc ns => cases e
theorem ok_isi {T : String} (hT : okT T) : Ok K (r1 fun x H Q => rIsi K [x, .ty T] H Q) (semIsi T) := by
  refine OkL1 (fun cs h => ?_) fun bad H x a c Q trk ra hs q => ?_
  · match cs, h with
    | [_], _ => rfl
    | [], h => exact absurd rfl h
    | _ :: _ :: _, h => exact absurd (by simp [semIsi]) h
  · simp only [semIsi] at hs
    split at hs
    · rename_i d ha
      cases hs
      intro y e
      cases e
      exact ⟨x, .ty T, _, _, _, rfl, .ty T, see_ty ha ra, kit_sub K d hT, q _ _ Ext.refl rfl⟩
    · cases hs
theorem pd_isi {e : Expr} {p p2 pos : Pos} {T : String} {x : Str} {f : FO} (hT : okT T) (he : PDO X e f) (hg : Gl X "isinstance") (hm : X.mg "isinstance" = none) (hv : bootBuiltins "isinstance" = some (.builtin "isinstance")) (hg2 : Gl X x) (hm2 : X.mg x = none) (hv2 : bootBuiltins x = some (.type T)) (hn : x ≠ "__name__") (hd : (x == ("__debug__" : Str)) = false)
    (s1 : starEach [e, .Name x p2] X.env = (false, eval e X.env) :: starEach [.Name x p2] X.env := by rfl) (pl : (backTo pos (starEach [.Name x p2] X.env)).any (·.1) = false := by rfl) : PD X (.Call (.Name "isinstance" p) [e, .Name x p2] [] pos) (dOp (semIsi T) [f]) :=
  PEimp (pe_callB call_isi hg hm hv (pa_cons he (pa_cons (pe_bltn (v := V.ty T) hg2 hm2 hv2 rfl hn hd) pa_nil) s1) (by decide) (by decide) s1 pl) fun σ H Q h => tOs_one (R := fun x H1 => rIsi X.K [x, .ty T] H1 Q) (dOp_imp (r := r1 fun x H Q => rIsi X.K [x, .ty T] H Q) (ok_isi hT) h)
end
end DL
set_option Elab.async false
set_option linter.all false
set_option maxRecDepth 100000
set_option maxHeartbeats 4000000
namespace DL
open PySem PySem.Spec PyProof.Rows L2
/-! ### all, any, sum, min, max of a list -/
def boolsOf : List D → Option (List Bool)
  | [] => some []
  | .bool b :: ds => match boolsOf ds with
    | some bs => some (b :: bs)
    | none => none
  | _ => none
def numsOf : List D → Option (List Int)
  | [] => some []
  | .int b :: ds => match numsOf ds with
    | some bs => some (b :: bs)
    | none => none
  | _ => none
def leastI : List Int → Int
  | [] => 0
  | [x] => x
  | x :: y :: r => if leastI (y :: r) < x then leastI (y :: r) else x
def mostI : List Int → Int
  | [] => 0
  | [x] => x
  | x :: y :: r => if x < mostI (y :: r) then mostI (y :: r) else x
theorem leastI_mem : ∀ {l : List Int}, l ≠ [] → leastI l ∈ l ∧ ∀ y ∈ l, leastI l ≤ y
  | [], h => absurd rfl h
  | [x], _ => by simp [leastI]
  | x :: y :: r, _ => by
    obtain ⟨h1, h2⟩ := leastI_mem (l := y :: r) (by simp)
    unfold leastI
    split
    · refine ⟨List.mem_cons_of_mem _ h1, fun z hz => ?_⟩
      rcases List.mem_cons.mp hz with rfl | hz
      · omega
      · exact h2 z hz
    · refine ⟨List.mem_cons_self, fun z hz => ?_⟩
      rcases List.mem_cons.mp hz with rfl | hz
      · omega
      · have := h2 z hz
        omega
theorem mostI_mem : ∀ {l : List Int}, l ≠ [] → mostI l ∈ l ∧ ∀ y ∈ l, y ≤ mostI l
  | [], h => absurd rfl h
  | [x], _ => by simp [mostI]
  | x :: y :: r, _ => by
    obtain ⟨h1, h2⟩ := mostI_mem (l := y :: r) (by simp)
    unfold mostI
    split
    · refine ⟨List.mem_cons_of_mem _ h1, fun z hz => ?_⟩
      rcases List.mem_cons.mp hz with rfl | hz
      · omega
      · exact h2 z hz
    · refine ⟨List.mem_cons_self, fun z hz => ?_⟩
      rcases List.mem_cons.mp hz with rfl | hz
      · omega
      · have := h2 z hz
        omega
def onBools (f : List Bool → D) : List C → Option C
  | [a] => match a.data with
    | some (.list xs) => match boolsOf xs with
      | some bs => some (.fz (f bs))
      | none => none
    | _ => none
  | _ => none
def onNums (ne : Bool) (f : List Int → D) : List C → Option C
  | [a] => match a.data with
    | some (.list xs) => match numsOf xs with
      | some bs => if ne && bs.isEmpty then none else some (.fz (f bs))
      | none => none
    | _ => none
  | _ => none
def semAll : List C → Option C := onBools fun bs => .bool (bs.all id)
def semAny : List C → Option C := onBools fun bs => .bool (bs.any id)
def semSum : List C → Option C := onNums false fun bs => .int bs.sum
def semMinL : List C → Option C := onNums true fun bs => .int (leastI bs)
def semMaxL : List C → Option C := onNums true fun bs => .int (mostI bs)
section
variable {K : PySem.W.Frag} {bad : Addr → Prop} {H : Hp}
theorem bools_rep : ∀ {xs : List D} {vs : List V} {bs : List Bool}, FzL K bad H xs vs → boolsOf xs = some bs → vs = bs.map V.bl
  | [], vs, bs, h, e => by
    cases e
    exact h
  | .bool b :: ds, _, bs, ⟨v, r, rfl, h1, h2⟩, e => by
    unfold boolsOf at e
    split at e
    · rename_i bs' hb
      cases e
      rw [bools_rep h2 hb, show v = .bl b from h1]
      rfl
    · cases e
  | .none :: ds, _, bs, h, e => by cases e
  | .int _ :: ds, _, bs, h, e => by cases e
  | .str _ :: ds, _, bs, h, e => by cases e
  | .list _ :: ds, _, bs, h, e => by cases e
  | .tuple _ :: ds, _, bs, h, e => by cases e
  | .dict _ :: ds, _, bs, h, e => by cases e
theorem nums_rep : ∀ {xs : List D} {vs : List V} {bs : List Int}, FzL K bad H xs vs → numsOf xs = some bs → vs = bs.map V.int
  | [], vs, bs, h, e => by
    cases e
    exact h
  | .int b :: ds, _, bs, ⟨v, r, rfl, h1, h2⟩, e => by
    unfold numsOf at e
    split at e
    · rename_i bs' hb
      cases e
      rw [nums_rep h2 hb, show v = .int b from h1]
      rfl
    · cases e
  | .none :: ds, _, bs, h, e => by cases e
  | .bool _ :: ds, _, bs, h, e => by cases e
  | .str _ :: ds, _, bs, h, e => by cases e
  | .list _ :: ds, _, bs, h, e => by cases e
  | .tuple _ :: ds, _, bs, h, e => by cases e
  | .dict _ :: ds, _, bs, h, e => by cases e
theorem ok_bools {r : List V → Hp → VK → Prop} {f : List Bool → D} (g : List Bool → Bool) (hf : ∀ bs, f bs = .bool (g bs)) (h : ∀ a bs H (Q : VK), SqL K H a (bs.map V.bl) → Q (.bl (g bs)) H → r [.ref a] H Q) : Ok K r (onBools f) := by
  refine OkL1 (fun cs h => ?_) fun bad H x a c Q trk ra hs q => ?_
  · match cs, h with
    | [_], _ => rfl
    | [], h => exact absurd rfl h
    | _ :: _ :: _, h => exact absurd rfl h
  · simp only [onBools] at hs
    split at hs
    · rename_i xs hz
      split at hs
      · rename_i bs hb
        cases hs
        obtain ⟨a1, v1, rfl, h1, f1⟩ := see_list hz ra
        rw [bools_rep f1 hb] at h1
        exact h a1 bs H Q (SqL.of h1) (q _ _ Ext.refl (by rw [hf]; rfl))
      · cases hs
    · cases hs
theorem ok_all : Ok K (rAll K) semAll := ok_bools (fun bs => bs.all id) (fun _ => rfl) fun a bs H Q s q => ⟨a, bs, rfl, s, q⟩
theorem ok_any : Ok K (rAny K) semAny := ok_bools (fun bs => bs.any id) (fun _ => rfl) fun a bs H Q s q => ⟨a, bs, rfl, s, q⟩
theorem ok_nums {r : List V → Hp → VK → Prop} {ne : Bool} {f : List Int → D} (g : List Int → Int) (hf : ∀ bs, f bs = .int (g bs)) (h : ∀ a bs H (Q : VK), (ne = true → bs ≠ []) → SqL K H a (bs.map V.int) → Q (.int (g bs)) H → r [.ref a] H Q) : Ok K r (onNums ne f) := by
  refine OkL1 (fun cs h => ?_) fun bad H x a c Q trk ra hs q => ?_
  · match cs, h with
    | [_], _ => rfl
    | [], h => exact absurd rfl h
    | _ :: _ :: _, h => exact absurd rfl h
  · simp only [onNums] at hs
    split at hs
    · rename_i xs hz
      split at hs
      · rename_i bs hb
        split at hs
        · cases hs
        · rename_i hne
          cases hs
          obtain ⟨a1, v1, rfl, h1, f1⟩ := see_list hz ra
          rw [nums_rep f1 hb] at h1
          refine h a1 bs H Q (fun e z => ?_) (SqL.of h1) (q _ _ Ext.refl (by rw [hf]; rfl))
          subst z
          rw [e] at hne
          exact hne rfl
      · cases hs
    · cases hs
theorem ok_sum : Ok K (rSum K) semSum := ok_nums (fun bs => bs.sum) (fun _ => rfl) fun a bs H Q _ s q => ⟨a, bs, rfl, s, q⟩
theorem ok_minL : Ok K (rMin K) semMinL := ok_nums leastI (fun _ => rfl) fun a bs H Q n s q => ⟨a, bs, rfl, s, List.length_pos_iff.mpr (n rfl), fun m h1 h2 => by
  obtain ⟨g1, g2⟩ := leastI_mem (n rfl)
  have : m = leastI bs := Int.le_antisymm (h2 _ g1) (g2 _ h1)
  rw [this]
  exact q⟩
theorem ok_maxL : Ok K (rMax K) semMaxL := ok_nums mostI (fun _ => rfl) fun a bs H Q n s q => ⟨a, bs, rfl, s, List.length_pos_iff.mpr (n rfl), fun m h1 h2 => by
  obtain ⟨g1, g2⟩ := mostI_mem (n rfl)
  have : m = mostI bs := Int.le_antisymm (g2 _ h1) (h2 _ g1)
  rw [this]
  exact q⟩
end
end DL
set_option Elab.async false
set_option linter.all false
set_option maxRecDepth 100000
set_option maxHeartbeats 4000000
namespace DL
open PySem PySem.Spec PyProof.Rows L2
/-! ### list(xs), tuple(xs) -/
def semListOf : List C → Option C
  | [a] => match a.data with
    | some (.list xs) => some (.ow (.list xs))
    | some (.tuple xs) => some (.ow (.list xs))
    | _ => none
  | _ => none
def semTupOf : List C → Option C
  | [a] => match a.data with
    | some (.list xs) => some (.fz (.tuple xs))
    | some (.tuple xs) => some (.fz (.tuple xs))
    | _ => none
  | _ => none
section
variable {K : PySem.W.Frag}
theorem ok_listOf : Ok K (fun xs H Q => ∃ p ys, xs = [V.ref p] ∧ (SqL K H p ys ∨ SqT K H p ys) ∧ ∀ l, H l = none → Q (.ref l) (upd H l (.lst ys))) semListOf := by
  refine OkL1 (fun cs h => ?_) fun bad H x a c Q trk ra hs q => ?_
  · match cs, h with
    | [_], _ => rfl
    | [], h => exact absurd rfl h
    | _ :: _ :: _, h => exact absurd rfl h
  · simp only [semListOf] at hs
    split at hs
    · rename_i xs ha
      cases hs
      obtain ⟨a1, v1, rfl, h1, f1⟩ := see_list ha ra
      exact ⟨a1, v1, rfl, .inl (SqL.of h1), fun p hp => q _ _ (Ext.new hp) (new_list trk hp f1)⟩
    · rename_i xs ha
      cases hs
      obtain ⟨a1, v1, rfl, h1, f1⟩ := see_tup ha ra
      exact ⟨a1, v1, rfl, .inr h1, fun p hp => q _ _ (Ext.new hp) (new_list trk hp f1)⟩
    · cases hs
theorem ok_tupOf : Ok K (fun xs H Q => ∃ p ys, xs = [V.ref p] ∧ ((SqL K H p ys ∧ ∀ l, H l = none → Q (.ref l) (upd H l (.tup ys))) ∨ (SqT K H p ys ∧ Q (.ref p) H))) semTupOf := by
  refine OkL1 (fun cs h => ?_) fun bad H x a c Q trk ra hs q => ?_
  · match cs, h with
    | [_], _ => rfl
    | [], h => exact absurd rfl h
    | _ :: _ :: _, h => exact absurd rfl h
  · simp only [semTupOf] at hs
    split at hs
    · rename_i xs ha
      cases hs
      obtain ⟨a1, v1, rfl, h1, f1⟩ := see_list ha ra
      exact ⟨a1, v1, rfl, .inl ⟨SqL.of h1, fun p hp => q _ _ (Ext.new hp) (new_tup hp f1)⟩⟩
    · rename_i xs ha
      cases hs
      obtain ⟨a1, v1, rfl, h1, f1⟩ := see_tup ha ra
      exact ⟨a1, v1, rfl, .inr ⟨h1, q _ _ Ext.refl ⟨a1, v1, rfl, h1, f1⟩⟩⟩
    · cases hs
end
noncomputable def upExtend (ds as : List D) : Option (List D × D) := match as with
  | [.list zs] => if fits (ds.length + zs.length ≤ 16777216) then some (ds ++ zs, .none) else none
  | _ => none
theorem ok_extend : OkM rExtend upExtend := fun K bad H a xs vs ds as ds' d Q ha hb f g h q => by
  unfold upExtend at h
  split at h
  · rename_i zs
    split at h
    · rename_i hl
      cases h
      obtain ⟨v, r, rfl, g1, g2⟩ := g
      cases (show r = [] from g2)
      obtain ⟨b, ws, rfl, h1, h2, h3⟩ := g1
      exact ⟨a, b, xs, ws, rfl, rfl, ha, h1, by rw [f.length, h3.length]; exact line_eq (of_fits hl), q _ _ (f.append h3) rfl⟩
    · cases h
  · cases h
/-! ### a tuple of the module, of plain items -/
def Lit : D → Value → Prop
  | .none, v => v = .none
  | .bool b, v => v = .bool b
  | .int i, v => ∃ t, v = .int i t
  | .str x, v => (∃ t, v = .str x t) ∧ okS x = true
  | _, _ => False
def LitAll : List D → List Value → Prop
  | [], us => us = []
  | d :: ds, us => ∃ u r, us = u :: r ∧ Lit d u ∧ LitAll ds r
theorem lit_rep {K : PySem.W.Frag} : ∀ {ds : List D} {us : List Value}, LitAll ds us → ∃ vs, Vals vs us ∧ ∀ (B : Addr → Prop) (H : Hp), FzL K B H ds vs
  | [], us, h => by
    cases (show us = [] from h)
    exact ⟨[], .nil, fun _ _ => rfl⟩
  | d :: ds, us, ⟨u, r, e, h1, h2⟩ => by
    subst e
    obtain ⟨vs, g1, g2⟩ := lit_rep (K := K) h2
    have one : ∃ v : V, RelV v u ∧ ∀ (B : Addr → Prop) (H : Hp), Fz K B H d v := by
      cases d with
      | none => exact ⟨.non, h1, fun _ _ => rfl⟩
      | bool b => exact ⟨.bl b, h1, fun _ _ => rfl⟩
      | int i => exact ⟨.int i, h1, fun _ _ => rfl⟩
      | str x => exact ⟨.str x, h1.1, fun _ _ => ⟨rfl, h1.2⟩⟩
      | list _ => exact (show False from h1).elim
      | tuple _ => exact (show False from h1).elim
      | dict _ => exact (show False from h1).elim
    obtain ⟨v, k1, k2⟩ := one
    exact ⟨v :: vs, .cons k1 g1, fun B H => ⟨v, vs, rfl, k2 B H, g2 B H⟩⟩
theorem pd_globT {X : Cx} {x : Str} {a : Addr} {o : Obj} {its : Array Value} {n : Nat} {ds : List D} {pos : Pos} (hg : Gl X x) (hm : X.mg x = some (.ref a)) (lk : X.K.lookup a = some o) (hc : o.cls = .type "tuple") (hd : o.data = .seq its n) (hs : its.size ≤ 16777216) (hl : LitAll ds its.toList)
    (nb : (x == ("__debug__" : Str)) = false := by decide) : PD X (.Name x pos) (dC (.tuple ds)) := by
  obtain ⟨vs, g1, g2⟩ := lit_rep (K := X.K) hl
  exact pd_c (v := V.ref a) (pe_glob hg hm rfl nb) fun B H => ⟨a, vs, rfl, .inr ⟨o, its, n, lk, hc, hd, line_eq hs, g1⟩, g2 B H⟩
end DL
set_option Elab.async false
set_option linter.all false
set_option maxRecDepth 100000
set_option maxHeartbeats 4000000
namespace DL
open PySem PySem.Spec PyProof.Rows L2
/-! ### any of the three that are walked; three names stored at once -/
def iAny (f : FE) : FI := fun env => match f env with
  | some (.fz (.list ds), e) => some (ds, e)
  | some (.ow (.list ds), e) => some (ds, e)
  | some (.fz (.tuple ds), e) => some (ds, e)
  | some (.fz (.str z), e) => some (z.cps.toList.map (fun c => .str ⟨#[c]⟩), e)
  | _ => none
theorem pi_any {X : Cx} {tg e : Expr} {f : FE} (h : PD X e f) : PDI X tg e (iAny f) := ⟨fun pins s σ H Q I ⟨B, env, ds, env', S, hf, q⟩ => by
  unfold iAny at hf
  split at hf
  · rename_i x y z
    exact (pi_lst h).run pins s σ H Q I ⟨B, env, ds, env', S, by unfold iLst; rw [z]; exact hf, q⟩
  · rename_i x y z
    exact (pi_lst h).run pins s σ H Q I ⟨B, env, ds, env', S, by unfold iLst; rw [z]; exact hf, q⟩
  · rename_i x y z
    exact (pi_tpl h).run pins s σ H Q I ⟨B, env, ds, env', S, by unfold iTpl; rw [z]; exact hf, q⟩
  · rename_i x y z
    exact (pi_strD h).run pins s σ H Q I ⟨B, env, ds, env', S, by unfold iStrD; rw [z]; exact hf, q⟩
  · cases hf⟩
def dPar3 (i j l : Nat) (fs : List FO) : FS := fun env => match dOs fs env with
  | some ([.val c, .val c2, .val c3], e1) => if settable e1 i then if settable (e1.set i (some c)) j then if settable ((e1.set i (some c)).set j (some c2)) l then some (.nx, ((e1.set i (some c)).set j (some c2)).set l (some c3)) else none else none else none
  | _ => none
section
variable {K : PySem.W.Frag} {B B' : Addr → Prop} {H H' H1 H2 : Hp} {σ : L2.St} {env env' e1 e2 : Ev} {c c2 c3 : C} {v v2 v3 : V} {X : Cx} {i j l : Nat}
theorem par3_post (p : PostOs K B H σ env [.val c, .val c2, .val c3] e1 [v, v2, v3] H1) (h1 : settable e1 i = true) (h2 : settable (e1.set i (some c)) j = true) (h3 : settable ((e1.set i (some c)).set j (some c2)) l = true) : PostS K B H σ env (((e1.set i (some c)).set j (some c2)).set l (some c3)) (((σ.set i (some v)).set j (some v2)).set l (some v3)) H1 := by
  have bq : ∀ a, BxOs B [.val c, .val c2, .val c3] [v, v2, v3] a ↔ Bx (Bx (Bx B c3 v3) c2 v2) c v a := fun a => by
    constructor
    · rintro (z | z | z | z | z)
      · exact .inl (.inl (.inl z))
      · exact .inr z
      · exact .inl (.inr z)
      · exact .inl (.inl (.inr z))
      · exact (show False from z).elim
    · rintro (((z | z) | z) | z)
      · exact .inl z
      · exact .inr (.inr (.inr (.inl z)))
      · exact .inr (.inr (.inl z))
      · exact .inr (.inl z)
  obtain ⟨_, _, e, ⟨r1, _⟩, _, _, e', ⟨r2, _⟩, _, _, e'', ⟨r3, _⟩, _⟩ := p.ro
  cases e
  cases e'
  cases e''
  have S0 : Sta K (Bx (Bx (Bx B c3 v3) c2 v2) c v) H1 σ e1 := p.st.less fun a z => (bq a).mpr z
  have b0 : ∀ a, Bad (Bx (Bx (Bx B c3 v3) c2 v2) c v) σ e1 a → Bad (BxOs B [.val c, .val c2, .val c3] [v, v2, v3]) σ e1 a := fun a z => z.elim (fun z => .inl ((bq a).mpr z)) .inr
  obtain ⟨S1, o1, k1, b1⟩ := S0.store (i := i) (r1.as b0) (fun a z z2 => by
    rcases z2 with (z2 | z2) | z2
    · exact p.nb a (.inl z) z2
    · exact p.nd.1 a z (.inr (.inl z2))
    · exact p.nd.1 a z (.inl z2)) h1
  obtain ⟨S2, o2, k2, b2⟩ := S1.store (i := j) ((r2.as b0).as b1) (fun a z z2 => by
    rcases z2 with z2 | z2
    · exact p.nb a (.inr (.inl z)) z2
    · exact p.nd.2.1 a z (.inl z2)) h2
  obtain ⟨S3, o3, k3, b3⟩ := S2.store (i := l) (((r3.as b0).as b1).as b2) (fun a z z2 => p.nb a (.inr (.inr (.inl z))) z2) h3
  refine ⟨p.fr, fun a z => ?_, S3, fun l d z => ?_⟩
  · rcases o3 a z with z | z
    · exact p.nw a (.inr (.inr (.inl z)))
    · rcases o2 a z with z | z
      · exact p.nw a (.inr (.inl z))
      · rcases o1 a z with z | ⟨l, z⟩
        · exact p.nw a (.inl z)
        · exact .inr ⟨l, p.sh l a z⟩
  · obtain ⟨d', z1⟩ := p.pk l d z
    obtain ⟨z2, z3⟩ := k1 l d' z1
    obtain ⟨z4, z5⟩ := k2 l d' z2
    obtain ⟨z6, z7⟩ := k3 l d' z4
    exact ⟨⟨d', z6⟩, z7.trans (z5.trans z3)⟩
theorem pds_par3 {x y z : Str} {a b c : Expr} {fa fb fc : FO} {px py pz pt pos : Pos} {kt k2 pt2} (hc : X.calm = true) (hN : X.N.Nodup) (hi : X.N[i]? = some x) (hj : X.N[j]? = some y) (hl : X.N[l]? = some z) (hij : i ≠ j) (hil : i ≠ l) (hjl : j ≠ l)
    (hx : X.env.scope.names.lookup x = some .local) (hy : X.env.scope.names.lookup y = some .local) (hz : X.env.scope.names.lookup z = some .local) (ha : PDs X [a, b, c] [fa, fb, fc])
    (hw : swappedStores [.Tuple [.Name x px, .Name y py, .Name z pz] kt pt] (.Tuple [a, b, c] k2 pt2) X.env = pure (some [x, y, z]))
    (hs : swapsWithSole [.Tuple [.Name x px, .Name y py, .Name z pz] kt pt] (.Tuple [a, b, c] k2 pt2) pos.line X.env = pure false := by rfl) :
    PDS X (.Assign [.Tuple [.Name x px, .Name y py, .Name z pz] kt pt] (.Tuple [a, b, c] k2 pt2) pos) (dPar3 i j l [fa, fb, fc]) := PSimp (ps_par3 hc hN hi hj hl hij hil hjl hx hy hz ha hw hs) fun D σ H ⟨B, env, fl, env', S, hf, q⟩ => by
  unfold dPar3 at hf
  split at hf
  · rename_i c c2 c3 e1 hos
    split at hf
    · rename_i h1
      split at hf
      · rename_i h2
        split at hf
        · rename_i h3
          cases hf
          refine ⟨B, env, _, e1, S, hos, fun vs H1 p => ?_⟩
          have p' := p
          obtain ⟨v, _, e, _, v2, _, e', _, v3, _, e'', _, e'''⟩ := p.ro
          cases (show _ = [] from e''')
          subst e''
          subst e'
          subst e
          exact ⟨v, v2, v3, rfl, q _ _ (par3_post p' h1 h2 h3)⟩
        · cases hf
      · cases hf
    · cases hf
  · cases hf
end
end DL
set_option Elab.async false
set_option linter.all false
set_option maxRecDepth 100000
set_option maxHeartbeats 4000000
/-! sets of texts, made of a list, and what is sorted of them -/
namespace TX
open PySem PySem.Spec PyProof.Rows PySem.Froz L2

/-- the table can be walked -/
def Way (w : World) (D : SD) : Prop := Ris D.2.2.place.toList ∧ (w.params.followText "set-order" = true ∨ D.2.2.led = true)
theorem Way.add {w : World} {D : SD} (g : Way w D) (h : Int) (v : Value) : Way w (addTx h v D) := by
  obtain ⟨es, ep, t⟩ := D
  obtain ⟨r, l⟩ := g
  have r1 := layNew_ris t es h v r
  have l1 := layNew_led t es h v
  unfold addTx tailTx
  simp only at r l r1 l1 ⊢
  generalize layNew t es h v = Z at r1 l1 ⊢
  have off : ∀ u : SetTable, Ris u.place.toList ∧ u.led = t.led → Ris (if u.plain = true then { u with plain := false } else u).place.toList ∧ (if u.plain = true then { u with plain := false } else u).led = t.led := fun u q => by
    by_cases c : u.plain = true
    · rw [if_pos c]; exact q
    · rw [if_neg c]; exact q
  have q := off Z.2.1 ⟨r1, l1⟩
  generalize (if Z.2.1.plain = true then { Z.2.1 with plain := false } else Z.2.1) = u at q ⊢
  by_cases c : (!Z.2.2.1 && u.tooFull) = true
  · rw [if_pos c]
    refine ⟨relayAll_ris u Z.1 _, l.imp id fun z => ?_⟩
    show (relayAll u Z.1 _).2.1.led = true
    rw [relayAll_led, q.2, z]
  · rw [if_neg c]
    exact ⟨q.1, l.imp id fun z => by show u.led = true; rw [q.2, z]⟩
/-- the members, each put to the elder ones where it is none of them -/
def mem : List Str → List Str → List Str
  | l, [] => l
  | l, x :: xs => mem (if x ∈ l then l else x :: l) xs
theorem mem_iff : ∀ (xs l : List Str) (k : Str), k ∈ mem l xs ↔ k ∈ l ∨ k ∈ xs
  | [], l, k => by simp [mem]
  | x :: xs, l, k => by
    unfold mem
    rw [mem_iff xs]
    by_cases c : x ∈ l
    · rw [if_pos c, List.mem_cons]
      exact ⟨fun z => z.elim .inl fun z => .inr (.inr z), fun z => z.elim .inl fun z => z.elim (fun z => .inl (z ▸ c)) .inr⟩
    · rw [if_neg c, List.mem_cons, List.mem_cons]
      exact ⟨fun z => z.elim (fun z => z.elim (fun z => .inr (.inl z)) .inl) fun z => .inr (.inr z), fun z => z.elim (fun z => .inl (.inr z)) fun z => z.elim (fun z => .inl (.inl z)) .inr⟩
theorem mem_nodup : ∀ (xs l : List Str), l.Nodup → (mem l xs).Nodup
  | [], l, h => h
  | x :: xs, l, h => by
    unfold mem
    refine mem_nodup xs _ ?_
    by_cases c : x ∈ l
    · rw [if_pos c]; exact h
    · rw [if_neg c]; exact List.nodup_cons.mpr ⟨c, h⟩
theorem mem_len : ∀ (xs l : List Str), (mem l xs).length ≤ l.length + xs.length
  | [], l => Nat.le_refl _
  | x :: xs, l => by
    unfold mem
    have := mem_len xs (if x ∈ l then l else x :: l)
    have e : (if x ∈ l then l else x :: l).length ≤ l.length + 1 := by split <;> simp
    rw [List.length_cons]
    omega
theorem mem_snoc : ∀ (xs l : List Str) (x : Str), mem l (xs ++ [x]) = if x ∈ mem l xs then mem l xs else x :: mem l xs
  | [], l, x => rfl
  | y :: xs, l, x => mem_snoc xs (if y ∈ l then l else y :: l) x

section
variable {P : Program} {w : World} {A : Around} {E : Value → Shared → Prop} {s : Shared}
/-- a text that is in stays in: nothing changes -/
theorem in_x {a : Addr} {D : SD} {l : List Str} {k : Str} {u : Tok} {Q : Bool → Shared → Prop} (ho : s.heap.get? a = some (sObj "set" D)) (F : TxOk P w D l) (hk : k ∈ l) (hb : l.length < scanBound) (h : Q false s) :
    wpAny (model P w) A (setAddHashed a (.str k u) (hashStr w k)) Q E s := by
  obtain ⟨es, ep, t⟩ := D
  have hf : t.fits es.size = true := F.fit
  have hel : ElemsOf (strKind P w) es.toList := F.el
  have hz : es.size = l.length := F.sz
  obtain ⟨e, he, hq⟩ := (F.mem k).mp hk
  obtain ⟨j, hj⟩ : ∃ j, List.findIdx? (fun e => (strKind P w).is k e.2) es.toList = some j := by
    cases q : List.findIdx? (fun e => (strKind P w).is k e.2) es.toList with
    | some j => exact ⟨j, rfl⟩
    | none => rw [List.findIdx?_eq_none_iff.mp q e he] at hq; cases hq
  unfold setAddHashed setAddHashedIn
  refine wpAny_holding (wpAny_bind (wpAny_setState_of ho (es := es) (ep := ep) (t := t) rfl hf ?_))
  dsimp only
  rw [byScan_of rfl (by omega) hel, if_pos rfl]
  unfold setAddByScan
  refine wpAny_bind (wpAny_bind (wpAny_rule (wpAny_bind (wpAny_setScan_of (knd := strKind P w) (k := k) (is_str k u) ho rfl hf hel ?_))))
  rw [hj]
  exact wpAny_pure (wpAny_pure h)
/-- add, of one that is in or not -/
theorem put_x {a : Addr} {D : SD} {l : List Str} {k : Str} {u : Tok} {Q : Bool → Shared → Prop} (ho : s.heap.get? a = some (sObj "set" D)) (F : TxOk P w D l) (g : Way w D) (hb : l.length + 1 < scanBound)
    (h : ∀ (h' : Heap) (b : Bool) (D' : SD), (∀ c o, c ≠ a → s.heap.get? c = some o → h'.get? c = some o) → h'.get? a = some (sObj "set" D') → TxOk P w D' (if k ∈ l then l else k :: l) → Way w D' → Q b { s with heap := h' }) :
    wpAny (model P w) A (setAddHashed a (.str k u) (hashStr w k)) Q E s := by
  by_cases c : k ∈ l
  · refine in_x ho F c (by omega) (h s.heap false D (fun _ _ _ e => e) ho ?_ g)
    rw [if_pos c]
    exact F
  · refine add_x ho F c hb (h _ true (addTx (hashStr w k) (.str k u) D) (fun b o hb e => ?_) (get_upd _ ho rfl) ?_ (g.add _ _))
    · exact (Heap.get?_update_other _ _ (Ne.symm hb)).trans e
    · rw [if_neg c]
      exact add_ok u F
end
section
variable {P : Program} {w : World} {A : Around} {R : Result → Shared → Prop} {I : Addr} {fp wr : List Addr} {G : Array GenState → Array GenState → Prop} {n : Nat} {V' : Nat → Value → Prop} {St : Nat → Shared → Prop}
/-- the set at a holds what was met so far -/
def Met (P : Program) (w : World) (h : Heap) (a : Addr) (xs : List Str) : Prop := ∃ D, h.get? a = some (sObj "set" D) ∧ TxOk P w D (mem [] xs) ∧ Way w D
theorem met_loop (W : WalksS P w A.in1 I fp wr G n V' St) (a : Addr) (na : a ∉ fp) (xs : List Str) (hn : n = xs.length) (hb : n + 1 < scanBound) (hv : ∀ i v, V' i v → ∃ x t, xs[i]? = some x ∧ v = .str x t) :
    ∀ (k i : Nat) (s : Shared), n - i = k → i ≤ n → St i s → Met P w s.heap a (xs.take i) → (∀ s', Moved (a :: wr) G s s' → Met P w s'.heap a xs → R (.ok (.ret .none)) s') → codeAny (model P w) A (.builtin "set.update.loop" ⟨[.ref a, .ref I], []⟩) R s := by
  have nw : a ∉ wr := fun h => na (W.sub _ h)
  have sub : ∀ b ∈ wr, b ∈ a :: wr := fun b h => List.mem_cons_of_mem _ h
  intro k
  induction k with
  | zero =>
    intro i s hk hi hst ⟨D, h1, h2, h3⟩ hR
    have e : i = n := by omega
    subst e
    have F : TxOk P w D (mem [] xs) := (List.take_of_length_le (l := xs) (i := i) (by omega)) ▸ h2
    refine codeAny_builtin PyProof.Rows.F.entry_set_update_loop ?_; rw [Around.under_plainId PyProof.Rows.F.plain_set_update_loop _]
    exact wpAny_bind (W.done s _ _ hst fun s' hm => wpAny_pure (hR s' (hm.mono sub) ⟨D, hm.heap a _ nw h1, F, h3⟩))
  | succ k ih =>
    intro i s hk hi hst ⟨D, h1, h2, h3⟩ hR
    have lt : i < n := by omega
    refine codeAny_builtin PyProof.Rows.F.entry_set_update_loop ?_; rw [Around.under_plainId PyProof.Rows.F.plain_set_update_loop _]
    refine wpAny_bind (W.item i s _ _ lt hst fun v s' hP hst' hm => ?_); clear hst
    obtain ⟨x, t, hx, rfl⟩ := hv i v hP
    have ho := hm.heap a _ nw h1
    have bnd : (mem [] (xs.take i)).length + 1 < scanBound := by have := mem_len (xs.take i) []; rw [List.length_take] at this; simp at this; omega
    show wpAny _ A.in1 (holding [Value.str x t] (setAdd a (.str x t)) >>= _) _ _ s'
    unfold setAdd
    refine wpAny_bind (wpAny_holding (wpAny_holding (wpAny_bind ((strKind P w).pyHash (k := x) (is_str x t) (put_x (s := { s' with toks := s'.toks + 1 }) ho h2 h3 bnd fun h' b D' keep hD F g => ?_)))))
    have F' : TxOk P w D' (mem [] (xs.take (i + 1))) := by
      rw [List.take_add_one, hx]
      exact (mem_snoc (xs.take i) [] x) ▸ F
    refine wpAny_pure ⟨plainId_quiet PyProof.Rows.F.plain_set_update_loop _, ih (i + 1) _ (by omega) lt (W.frame _ s' _ _ hst' (Nat.le_succ _) fun c hc o e => keep c o (fun z => na (z ▸ hc)) e) ⟨D', hD, F', g⟩ fun s2 m2 q2 => hR s2 (Moved.trans W.gtrans ((hm.mono sub).then_heap (Nat.le_succ _) fun c o hc e => ?_) m2) q2⟩
    exact keep c o (fun z => hc (z ▸ List.mem_cons_self)) e
end
/-! a set made of a list of texts -/
section
variable {P : Program} {w : World} {A : Around} {E : Value → Shared → Prop} {s : Shared}
/-- the new set, empty -/
def nw (w : World) : Obj := { cls := .type "set", dict := none, data := .set #[] 0 (.fresh 0 0 (!w.params.followText "set-order")) }
theorem nw_way : Way w (#[], 0, .fresh 0 0 (!w.params.followText "set-order")) := ⟨List.Pairwise.nil, by
  show _ ∨ (!w.params.followText "set-order") = true
  cases w.params.followText "set-order" <;> simp⟩
theorem met_nil {h : Heap} {a : Addr} (e : h.get? a = some (nw w)) : Met P w h a [] := ⟨(#[], 0, .fresh 0 0 (!w.params.followText "set-order")), e, TxOk.nil (by rfl), nw_way⟩
/-- what stands behind the call: a set of these texts at a new place, all else as it was -/
def Made (P : Program) (w : World) (s : Shared) (xs : List Str) (s2 : Shared) : Prop := ∃ h' tk, s2 = { s with heap := h', toks := tk } ∧ Met P w h' s.heap.objs.size xs ∧ ∀ b o, s.heap.get? b = some o → h'.get? b = some o
set_option maxHeartbeats 4000000 in
theorem set_x {l : Addr} {items : Array Value} {xs : List Str} {Q : Value → Shared → Prop} (hh : A.handled = none) (hl : s.heap.IsList l items) (hi : StrsAre items.toList xs) (hb : items.size + 1 < scanBound)
    (h : ∀ s2, Made P w s xs s2 → Q (.ref s.heap.objs.size) s2) : wpAny (model P w) A (call (.type "set") [.ref l]) Q E s := by
  have len : xs.length = items.size := by rw [← StrsAre.len_eq hi, Array.length_toList]
  obtain ⟨c, tl, hmro⟩ := PySem.F.called_set.mro
  have f1 := PySem.F.called_set.made; have f2 := PySem.F.called_set.sub; have f3 := PySem.F.called_set.notType; have f4 := PySem.F.called_set.canCreate; have f5 := PySem.F.typeCall_set_1 (.ref l)
  refine wpAny_call (codeAny_of_tree (wpAny_pure ⟨Code.quiet_builtin _ (by decide +kernel), codeAny_builtin PySem.F.entry_type_call ?_⟩))
  rw [Around.under_plain (weight_type_call_type "set" [.ref l] []) rfl]
  repeat (any_goals (first | assumption | wp_step))
  refine codeAny_mono (code_set_led1 (.ref l) (E := E) (Q₁ := fun o s1 => o = .ref s.heap.objs.size ∧ s1 = { s with heap := s.heap.push (nw w) }) ⟨rfl, rfl⟩) fun r s1 hr => ?_
  match r, hr with
  | .error e, hr => exact hr
  | .ok (.ret o), ⟨e1, e2⟩ =>
    subst e1; subst e2
    have at0 : (s.heap.push (nw w)).get? s.heap.objs.size = some (nw w) := Heap.get?_push_size _ rfl
    have ty : Shared.TypeIs { s with heap := s.heap.push (nw w) } (.ref s.heap.objs.size) "set" := ⟨_, at0, rfl⟩
    have g1 := PySem.F.called_set.init.lookup; have g2 := PySem.F.called_set.init.bind (.ref s.heap.objs.size)
    repeat (any_goals (first | assumption | wp_step))
    refine codeAny_mono (codeAny_call_builtin (R := wants (fun r s2 => r = .none ∧ Made P w s xs s2) E) PySem.F.called_set.init.plain PySem.F.entry_set_init (check_set_init_1 ty ?_)) fun r2 s2 hr2 => ?_
    · obtain ⟨⟨ol, dd, da, sl⟩, hol, ec, nl, ed⟩ := hl
      simp only at ec ed; subst ec; subst ed
      have lt : l < s.heap.objs.size := Heap.lt_size hol
      have z1 : (s.heap.push (nw w)).objs.size = s.heap.objs.size + 1 := Heap.size_push ..
      have il := Heap.get?_push_of_some (nw w) hol
      have hl1 : (s.heap.push (nw w)).IsList l items := ⟨_, il, rfl, nl, rfl⟩
      have k1 := PySem.F.sub_list_set; have k2 := PySem.F.sub_list_frozenset; have k3 : (Value.type "list" == Value.type "dict") = false := by decide
      unfold Builtin.«set.__init__» noKeywords Builtin.Frozenset.updateFrom; generalize hPI : pyIter = PI
      unfold nw at *
      wp_walk
      subst hPI
      refine wpAny_pyIter_list hl1 (wpAny_bind (wpAny_runValue ?_))
      have nI : l ≠ (s.heap.push (nw w)).objs.size := fun z => Nat.ne_of_lt (Nat.lt_succ_of_lt lt) (z.trans (Heap.size_push ..))
      have nS : s.heap.objs.size ∉ [(s.heap.push (nw w)).objs.size, l] := fun z => (List.mem_cons.mp z).elim (fun z => Nat.ne_of_lt (Nat.lt_succ_self s.heap.objs.size) (z.trans (Heap.size_push ..))) fun z => Nat.ne_of_gt lt (List.mem_singleton.mp z)
      unfold nw at nI nS
      have hv : ∀ (i : Nat) (v : Value), items[i]? = some v → ∃ x t, xs[i]? = some x ∧ v = .str x t := fun i v q => by
        have lt2 : i < xs.length := by rw [len]; exact (Array.getElem?_eq_some_iff.mp q).1
        obtain ⟨t, e⟩ := SS.strs_at hi i v (by rw [Array.getElem?_toList]; exact q)
        exact ⟨xs[i]'lt2, t, List.getElem?_eq_getElem lt2, by rw [e, List.getD_eq_getElem?_getD, List.getElem?_eq_getElem lt2]; rfl⟩
      refine met_loop (xs := xs) ((Walks.list (by simp [hh]) _ l nI items).toS) s.heap.objs.size nS len.symm hb hv (items.size - 0) 0 _ rfl (Nat.zero_le _) ⟨⟨_, Heap.get?_push_size _ rfl, rfl, rfl⟩, hl1.push _⟩ (met_nil (Heap.get?_push_of_some _ at0)) fun s' hm q => ?_
      obtain ⟨h', g', d', tk', os'⟩ := s'
      have u1 : g' = s.gens := hm.gens; have u2 : d' = s.drawn := hm.drawn; have u3 : os' = s.os := hm.os
      subst u1; subst u2; subst u3
      refine wpAny_pure (wpAny_pure ⟨rfl, h', tk', rfl, q, fun b o e => ?_⟩)
      have lb : b < s.heap.objs.size := Heap.lt_size e
      refine hm.heap b o ?_ (Heap.get?_push_of_some _ (Heap.get?_push_of_some _ e))
      exact fun z => (List.mem_cons.mp z).elim (Nat.ne_of_lt lb) fun z => Nat.ne_of_lt (Nat.lt_succ_of_lt lb) ((List.mem_singleton.mp z).trans z1)
    · match r2, hr2 with
      | .error e, hr2 => exact hr2
      | .ok (.ret r), ⟨e1, hm⟩ =>
        subst e1
        repeat (any_goals (first | assumption | wp_step))
        exact h _ hm
end
end TX
set_option Elab.async false
set_option linter.all false
set_option maxRecDepth 100000
set_option maxHeartbeats 4000000
namespace TX
open PySem PySem.Spec PyProof.Rows PySem.Froz L2
/-! ### texts in their order -/
def tv : Value → Str
  | .str x _ => x
  | _ => Str.empty
def ltT (v u : Value) : Bool := decide ((tv v).cps.toList < (tv u).cps.toList)
theorem swoT : SrtO.Swo ltT := ⟨fun x y h => decide_eq_false (List.lt_asymm (of_decide_eq_true h)), fun x y z h g => decide_eq_false (by
  have a : (tv x).cps.toList ≤ (tv y).cps.toList := of_decide_eq_false h
  have b : (tv y).cps.toList ≤ (tv z).cps.toList := of_decide_eq_false g
  exact List.le_trans a b)⟩
def leT (a b : Str) : Prop := ¬ b.cps.toList < a.cps.toList
instance (a b : Str) : Decidable (leT a b) := inferInstanceAs (Decidable (¬ _))
theorem str_ext {a b : Str} (h : a.cps.toList = b.cps.toList) : a = b := by
  obtain ⟨⟨x⟩⟩ := a
  obtain ⟨⟨y⟩⟩ := b
  have : x = y := h
  rw [this]
theorem leT_anti {a b : Str} (h : leT a b) (g : leT b a) : a = b := str_ext (by
  have x : a.cps.toList ≤ b.cps.toList := h
  have y : b.cps.toList ≤ a.cps.toList := g
  exact List.le_antisymm x y)
/-- texts rising, as they are sorted -/
def sortT (ts : List Str) : List Str := ts.mergeSort fun a b => decide (leT a b)
theorem sortT_perm (ts : List Str) : (sortT ts).Perm ts := List.mergeSort_perm _ _
theorem sortT_up (ts : List Str) : (sortT ts).Pairwise leT := by
  have := List.pairwise_mergeSort (le := fun a b => decide (leT a b)) (fun a b c h g => by
    have h := of_decide_eq_true h
    have g := of_decide_eq_true g
    have x : a.cps.toList ≤ b.cps.toList := h
    have y : b.cps.toList ≤ c.cps.toList := g
    exact decide_eq_true (show leT a c from (List.le_trans x y : a.cps.toList ≤ c.cps.toList))) (fun a b => by
    by_cases c : leT a b
    · simp [c]
    · have : b.cps.toList < a.cps.toList := Classical.not_not.mp c
      have z : leT b a := List.lt_asymm this
      simp [z]) ts
  exact this.imp fun h => of_decide_eq_true h
theorem sortT_one {ys ts : List Str} (h : ys.Pairwise leT) (p : ys.Perm ts) : ys = sortT ts := List.Perm.eq_of_pairwise (fun a b _ _ => leT_anti) h (sortT_up ts) (p.trans (sortT_perm ts).symm)
/-- the members of a set, rising -/
def sortU (ts : List Str) : List Str := sortT (mem [] ts)
theorem perm_same : ∀ {l ks : List Str}, l.Nodup → (∀ x ∈ l, x ∈ ks) → ks.length ≤ l.length → ks.Perm l
  | [], ks, _, _, h => by
    have : ks = [] := List.eq_nil_of_length_eq_zero (by simpa using h)
    rw [this]
  | x :: l, ks, h, g, e => by
    obtain ⟨h1, h2⟩ := List.nodup_cons.mp h
    have xk := g x (by simp)
    have p := List.perm_cons_erase xk
    refine p.trans (List.Perm.cons x (perm_same h2 (fun y hy => (List.mem_erase_of_ne (fun z => h1 (by rw [← z]; exact hy))).mpr (g y (List.mem_cons_of_mem _ hy))) ?_))
    rw [List.length_erase_of_mem xk]
    rw [List.length_cons] at e
    omega
theorem strs_tv : ∀ {vs : List Value}, (∀ v ∈ vs, ∃ k t, v = Value.str k t) → StrsAre vs (vs.map tv)
  | [], _ => .nil
  | v :: vs, h => by
    obtain ⟨k, t, rfl⟩ := h v (by simp)
    exact .cons k t (strs_tv fun u hu => h u (List.mem_cons_of_mem _ hu))
theorem strs_in : ∀ {vs : List Value} {ts : List Str}, StrsAre vs ts → ∀ v ∈ vs, ∃ k t, v = Value.str k t
  | _, _, .nil, v, h => absurd h (by simp)
  | _, _, .cons k t r, v, h => (List.mem_cons.mp h).elim (fun e => ⟨k, t, e⟩) (strs_in r v)
theorem tv_strs : ∀ {vs : List Value} {ts : List Str}, StrsAre vs ts → vs.map tv = ts
  | _, _, .nil => rfl
  | _, _, .cons k t r => congrArg (k :: ·) (tv_strs r)
section
variable {P : Program} {w : World} {A : Around} {E : Value → Shared → Prop} {s : Shared}
theorem sortable {a : Addr} {vs : List Value} {ts : List Str} (hI : StrsAre vs ts) (h2 : 2 ≤ vs.length) : SrtO.SortableO P w A s a vs ltT := fun h' _ => by
  refine ⟨oneType', fun Q E hq => ?_, fun p q hm hm' => ?_⟩
  · match vs, hI, h2 with
    | v1 :: v2 :: r, hI, _ => rw [keyKind_strs hI]; exact wpAny_pure hq
    | [], _, h => exact absurd h (by decide)
    | [v], _, h => exact absurd h (by simp)
  · obtain ⟨x, t, e⟩ := strs_in hI _ hm
    obtain ⟨y, u, e'⟩ := strs_in hI _ hm'
    show wpAny (model P w) A (keyLt' oneType' p.1 q.1) (fun r s' => s' = { s with heap := h' } ∧ r = ltT p.1 q.1) (fun _ _ => False) _
    rw [e, e', keyLt'_oneType]
    exact oneLt_str ⟨rfl, rfl⟩
theorem out_of {vs out : List Value} {ts : List Str} (hI : StrsAre vs ts) (hs : SrtO.Srtd ltT out) (hb : SrtO.Stb ltT out vs) : StrsAre out (sortT ts) := by
  have a := strs_tv fun v hv => strs_in hI v (hb.perm.mem_iff.mp hv)
  have p := hb.perm.map tv
  rw [tv_strs hI] at p
  have u : (out.map tv).Pairwise leT := List.pairwise_map.mpr (hs.imp fun {x y} h => of_decide_eq_false (p := (tv y).cps.toList < (tv x).cps.toList) h)
  rw [← sortT_one u p]
  exact a
/-- sorted of a set of texts -/
theorem sorted_x {a : Addr} {xs : List Str} {Q : Value → Shared → Prop} (M : Met P w s.heap a xs) (hh : A.handled = none) (hb : xs.length < scanBound)
    (h : ∀ s' p (out : Array Value) (c : Nat), (∀ b o, s.heap.get? b = some o → s'.heap.get? b = some o) → s'.gens = s.gens → s'.os = s.os → s.heap.objs.size ≤ p → s'.heap.get? p = some (seqObj "list" out c) → StrsAre out.toList (sortU xs) → Q (.ref p) s') :
    wpAny (model P w) A (call (.builtin "sorted") [.ref a]) Q E s := by
  obtain ⟨⟨es, ep, t⟩, ho, F, r, l⟩ := M
  have sz : es.size = (mem [] xs).length := F.sz
  have lm := mem_len xs []
  have eb : es.size < scanBound := by simp at lm; omega
  have shape : ∀ v ∈ es.toList.map (·.2), ∃ k t, v = Value.str k t := fun v hv => by
    obtain ⟨e, he, rfl⟩ := List.mem_map.mp hv
    obtain ⟨⟨k, hk, _⟩, _⟩ := F.el e he
    obtain ⟨t, q⟩ := Value.isStrOf_shape hk
    exact ⟨k, t, q⟩
  have pm0 : ((es.toList.map (·.2)).map tv).Perm (mem [] xs) := by
    refine perm_same (mem_nodup xs [] List.nodup_nil) (fun k hk => ?_) (by rw [List.length_map, List.length_map, Array.length_toList, sz]; exact Nat.le_refl _)
    obtain ⟨e, he, q⟩ := (F.mem k).mp hk
    obtain ⟨t, q⟩ := Value.isStrOf_shape q
    exact List.mem_map.mpr ⟨e.2, List.mem_map.mpr ⟨e, he, rfl⟩, by rw [q]; rfl⟩
  refine Calls.call_function_entry kind_sorted plain_sorted entry_sorted (args_sorted1 _) ?_; unfold Builtin.«sorted»
  refine wpAny_bind (m := checkCount "sorted" 1 1 _) (wpAny_pure (wpAny_bind (collect_set (A := A.in1) hh ⟨_, ho, rfl, rfl⟩ F.fit eb r l fun s1 vs k1 hz g1 o1 pm => ?_)))
  have vl : vs.length ≤ sizeLine := by rw [pm.length_eq, List.length_map, Array.length_toList]; exact fits_of_scanBound eb
  have hI := strs_tv fun v hv => shape v (pm.mem_iff.mp hv)
  have pt : (vs.map tv).Perm (mem [] xs) := (pm.map tv).trans pm0
  have hoL : (s1.heap.push (seqObj "list" vs.toArray 0)).get? s1.heap.objs.size = some (seqObj "list" vs.toArray 0) := Heap.get?_push_size _ rfl
  refine wpAny_bind (wpAny_newList (wpAny_bind (wpAny_holding (wpAny_call_entry slot_list_sort ⟨_, hoL, rfl⟩ entry_list_sort (SrtO.list_sort_ord swoT hoL vl (fun h2 => sortable hI h2) fun out hs hb => ⟨_, rfl, ?_⟩) (args_list_sort _)))) vl)
  obtain ⟨c, hc⟩ := sortedHeap_at (vs := vs) (out := out.toArray) hoL
  have fin := out_of hI hs hb
  rw [show sortT (vs.map tv) = sortU xs from (sortT_one (sortT_up _) ((sortT_perm _).trans pt))] at fin
  refine wpAny_pure ⟨_, rfl, h _ s1.heap.objs.size out.toArray c (fun b u e => ?_) g1 o1 hz hc (by simpa using fin)⟩
  have q := k1 b u e
  have lt := Heap.lt_size q
  exact (sortedHeap_old (Nat.ne_of_lt lt) (by rw [size_push']; exact Nat.lt_succ_of_lt lt)).trans (Heap.get?_push_of_some _ q)
end
end TX
namespace L2
open PySem PySem.Spec PyProof.Rows
/-- sorted(set(xs)), texts -/
def tSortSet (K : PySem.W.Frag) (ta : TE) : TE := fun σ H Q => ta σ H fun x H1 => ∃ (l : Addr) (xs : List Str), x = .ref l ∧ SqL K H1 l (xs.map V.str) ∧ xs.length + 1 < 4096 ∧ ∀ p, H1 p = none → Q (.ref p) (upd H1 p (.lst ((TX.sortU xs).map V.str)))
/-- sorted(xs), texts, however many -/
def rSortedT (K : PySem.W.Frag) : List V → Hp → VK → Prop := fun vs H Q => ∃ (a : Addr) (xs : List Str), vs = [V.ref a] ∧ SqL K H a (xs.map V.str) ∧ ∀ p, H p = none → Q (.ref p) (upd H p (.lst ((TX.sortT xs).map V.str)))
section
variable {X : Cx}
theorem cr_sortedT' : CallR X (.builtin "sorted") (rSortedT X.K) := by
  intro pins s σ H vs us Q I r h
  obtain ⟨a, xs, rfl, hs, q⟩ := h
  obtain ⟨its, rv, hl, hz⟩ := I.list hs
  rw [Vals.ref1 r]
  have hI := rv.strs
  refine SrtO.sorted_ord TX.swoT hl.isList (by rw [← rv.length]; exact hz) (fun h2 h1 a' _ _ => TX.sortable hI h2) fun out h1 h2 => ?_
  have fin := TX.out_of hI h1 h2
  obtain ⟨ep, he⟩ := PyProof.Rows.sortedAll_at s.heap its out.toArray
  have hlen : ((TX.sortT xs).map V.str).length ≤ sizeLine := by rw [List.length_map, (TX.sortT_perm xs).length_eq]; rw [List.length_map] at hz; exact hz
  exact ⟨.ref _, upd H (s.heap.objs.size + 1) (.lst ((TX.sortT xs).map V.str)), I.laid (t' := s.toks) (fun _ _ => PyProof.Rows.sortedAll_old) (Nat.le_succ _) ⟨hlen, out, ep, vals_of_strs fin, he⟩, rfl, q _ (I.hok.fresh (Nat.le_succ _))⟩
theorem pe_sortSet {a : Expr} {ta : TE} {p p2 q pos : Pos} (hc : X.calm = true) (hg : Gl X "sorted") (hm : X.mg "sorted" = none) (hg2 : Gl X "set") (hm2 : X.mg "set" = none) (ha : PE X a ta)
    (na : starEach [a] X.env = (false, eval a X.env) :: starEach [] X.env := by rfl) : PE X (.Call (.Name "sorted" p) [.Call (.Name "set" p2) [a] [] q] [] pos) (tSortSet X.K ta) := by
  refine ⟨fun pins s σ H Q I h => Call_ (ld_blt I hg hm boot_sorted (PyProof.Rows.callWith_builtin1 (PyProof.Rows.args_cons (Call_ (ld_blt I hg2 hm2 boot_set ?_)) rfl) rfl rfl))⟩
  refine PyProof.Rows.callWith_type1 (PyProof.Rows.args_cons (thn (ha.run pins s σ H _ I h) fun v s1 ⟨x, H1, I1, r1, q1⟩ => PyProof.Rows.args_nil ?_) na) na rfl
  obtain ⟨l, xs, rfl, hs, hb, q1⟩ := q1
  cases r1
  obtain ⟨its, rv, pl, hz⟩ := I1.list hs
  have len : its.length = xs.length := by rw [← rv.length, List.length_map]
  refine TX.set_x (xs := xs) (I1.ok.hd hc) pl.isList (by simpa using rv.strs) (by simp [len]; unfold scanBound; omega) fun s2 ⟨h', tk, e, M, keep⟩ => PyProof.Rows.args_nil ?_
  subst e
  have I2 : Inv X pins σ H1 { s1 with heap := h', toks := tk } := I1.kept keep
  refine TX.sorted_x M (I2.ok.hd hc) (by unfold scanBound; omega) fun s' p out c k g o hp hg hi => ?_
  have hlen : ((TX.sortU xs).map V.str).length ≤ sizeLine := by
    have := TX.mem_len xs []
    rw [List.length_map, show (TX.sortU xs).length = _ from (TX.sortT_perm _).length_eq, sizeLine_eq]
    simp at this
    omega
  have hn : H1 p = none := I2.hok.fresh hp
  have J : Inv X pins σ (upd H1 p (.lst ((TX.sortU xs).map V.str))) { s1 with heap := s'.heap, gens := s'.gens, drawn := s'.drawn, toks := s'.toks } :=
    Inv.call (s := { s1 with heap := h', toks := tk }) I2 (ch := []) (Un.laid k hp hn) (I2.hok.laid k hp ⟨hlen, out.toList, c, vals_of_strs hi, hg⟩) (by rw [g]; exact I2.bare) (fun _ z => nomatch z)
  have e : s' = { s1 with heap := s'.heap, gens := s'.gens, drawn := s'.drawn, toks := s'.toks } := by
    cases s'; cases s1; cases o; rfl
  rw [e]
  exact ⟨.ref p, _, J, rfl, q1 p hn⟩
end
end L2
set_option Elab.async false
set_option linter.all false
set_option maxRecDepth 100000
set_option maxHeartbeats 4000000
namespace DL
open PySem PySem.Spec PyProof.Rows L2
/-! ### sorted(set(xs)), sorted(xs) of texts -/
noncomputable def semSortSet : List C → Option C
  | [a] => match a.data with
    | some (.list ds) => match strsOf ds with
      | some ts => if fits (ts.length < 4000) then some (.ow (.list ((TX.sortU ts).map .str))) else none
      | none => none
    | _ => none
  | _ => none
noncomputable def semSortT : List C → Option C
  | [a] => match a.data with
    | some (.list ds) => match strsOf ds with
      | some ts => some (.ow (.list ((TX.sortT ts).map .str)))
      | none => none
    | _ => none
  | _ => none
section
variable {K : PySem.W.Frag} {bad : Addr → Prop} {H : Hp} {X : Cx}
theorem strs_ok : ∀ {ts : List Str} {vs : List V}, FzL K bad H (ts.map .str) vs → ∀ t ∈ ts, okS t = true
  | [], _, _, t, h => absurd h (by simp)
  | x :: ts, _, ⟨v, r, _, h1, h2⟩, t, h => by
    rcases List.mem_cons.mp h with e | h
    · rw [e]
      exact (show v = .str x ∧ okS x = true from h1).2
    · exact strs_ok h2 t h
theorem strs_fz : ∀ {ts : List Str}, (∀ t ∈ ts, okS t = true) → FzL K bad H (ts.map .str) (ts.map V.str)
  | [], _ => rfl
  | x :: ts, h => ⟨_, _, rfl, ⟨rfl, h x (by simp)⟩, strs_fz fun t ht => h t (List.mem_cons_of_mem _ ht)⟩
theorem ok_sortSet : Ok K (r1 fun x H Q => ∃ (l : Addr) (xs : List Str), x = .ref l ∧ SqL K H l (xs.map V.str) ∧ xs.length + 1 < 4096 ∧ ∀ p, H p = none → Q (.ref p) (upd H p (.lst ((TX.sortU xs).map V.str)))) semSortSet := by
  refine OkL1 (fun cs h => ?_) fun bad H x a c Q trk ra hs q => ?_
  · match cs, h with
    | [_], _ => rfl
    | [], h => exact absurd rfl h
    | _ :: _ :: _, h => exact absurd rfl h
  · simp only [semSortSet] at hs
    split at hs
    · rename_i ds ha
      split at hs
      · rename_i ts ht
        split at hs
        · rename_i hl
          cases hs
          obtain ⟨a1, v1, rfl, h1, f1⟩ := see_list ha ra
          rw [strsOf_eq ht] at f1
          have e := f1.of_strs
          subst e
          intro x' ex
          cases ex
          refine ⟨a1, ts, rfl, SqL.of h1, by have := of_fits hl; omega, fun p hp => q _ _ (Ext.new hp) (new_list trk hp (strs_fz fun t ht => strs_ok f1 t ?_))⟩
          have := ((TX.sortT_perm _).mem_iff.mp ht)
          rw [TX.mem_iff] at this
          exact this.resolve_left (by simp)
        · cases hs
      · cases hs
    · cases hs
theorem ok_sortT : Ok K (rSortedT K) semSortT := by
  refine OkL1 (fun cs h => ?_) fun bad H x a c Q trk ra hs q => ?_
  · match cs, h with
    | [_], _ => rfl
    | [], h => exact absurd rfl h
    | _ :: _ :: _, h => exact absurd rfl h
  · simp only [semSortT] at hs
    split at hs
    · rename_i ds ha
      split at hs
      · rename_i ts ht
        cases hs
        obtain ⟨a1, v1, rfl, h1, f1⟩ := see_list ha ra
        rw [strsOf_eq ht] at f1
        have e := f1.of_strs
        subst e
        exact ⟨a1, ts, rfl, SqL.of h1, fun p hp => q _ _ (Ext.new hp) (new_list trk hp (strs_fz fun t ht => strs_ok f1 t ((TX.sortT_perm _).mem_iff.mp ht)))⟩
      · cases hs
    · cases hs
theorem pd_sortSet {a : Expr} {fa : FO} {p p2 q pos : Pos} (ha : PDO X a fa) (hc : X.calm = true) (hg : Gl X "sorted") (hm : X.mg "sorted" = none) (hg2 : Gl X "set") (hm2 : X.mg "set" = none)
    (na : starEach [a] X.env = (false, eval a X.env) :: starEach [] X.env := by rfl) : PD X (.Call (.Name "sorted" p) [.Call (.Name "set" p2) [a] [] q] [] pos) (dOp semSortSet [fa]) :=
  PEimp (pe_sortSet hc hg hm hg2 hm2 ha na) fun σ H Q h => tOs_one (dOp_imp ok_sortSet h)
end
end DL
namespace LW
open DL PySem L2
/-! ### what is sorted, in plain words -/
def sS (w : List Nat) : Str := ⟨⟨w⟩⟩
/-- words rising, no one twice -/
noncomputable def upW (ws : List (List Nat)) : List (List Nat) := (TX.sortU (ws.map sS)).map fun t => t.cps.toList
theorem strsOf_S (ws : List (List Nat)) : strsOf (ws.map S) = some (ws.map sS) := strsOf_map ws
theorem back_S (ts : List Str) : ts.map PyData.str = (ts.map fun t => t.cps.toList).map S := by
  rw [List.map_map]
  apply List.map_congr_left
  intro t _
  obtain ⟨⟨l⟩⟩ := t
  rfl
theorem sortSet_ok (ws : List (List Nat)) (h : ws.length < 4000) : semSortSet [.ow (.list (ws.map S))] = some (.ow (.list ((upW ws).map S))) := by
  simp only [semSortSet, C.data, strsOf_S]
  rw [if_pos (fits_of (by simpa using h)), back_S]
  rfl
theorem upW_mem (ws : List (List Nat)) (w : List Nat) : w ∈ upW ws ↔ w ∈ ws := by
  unfold upW TX.sortU
  rw [List.mem_map]
  constructor
  · rintro ⟨t, ht, rfl⟩
    rw [(TX.sortT_perm _).mem_iff, TX.mem_iff] at ht
    obtain ⟨v, hv, rfl⟩ := List.mem_map.mp (ht.resolve_left (by simp))
    exact hv
  · intro h
    refine ⟨sS w, ?_, rfl⟩
    rw [(TX.sortT_perm _).mem_iff, TX.mem_iff]
    exact .inr (List.mem_map.mpr ⟨w, h, rfl⟩)
theorem upW_nodup (ws : List (List Nat)) : (upW ws).Nodup := by
  have := (TX.sortT_perm (TX.mem [] (ws.map sS))).nodup_iff.mpr (TX.mem_nodup _ [] List.nodup_nil)
  refine List.Pairwise.map _ (fun a b h z => h (TX.str_ext z)) this
theorem upW_up (ws : List (List Nat)) : (upW ws).Pairwise fun a b => ¬ b < a := List.Pairwise.map _ (fun a b h => h) (TX.sortT_up _)
theorem upW_len (ws : List (List Nat)) : (upW ws).length ≤ ws.length := by
  unfold upW TX.sortU
  have := TX.mem_len (ws.map sS) []
  rw [List.length_map, (TX.sortT_perm _).length_eq]
  simpa using this
noncomputable def upL (ws : List (List Nat)) : List (List Nat) := (TX.sortT (ws.map sS)).map fun t => t.cps.toList
theorem sortT_ok (ws : List (List Nat)) (c : C) (hc : c.data = some (.list (ws.map S))) : semSortT [c] = some (.ow (.list ((upL ws).map S))) := by
  simp only [semSortT, hc, strsOf_S]
  rw [back_S]
  rfl
theorem upL_perm (ws : List (List Nat)) : (upL ws).Perm ws := by
  have := (TX.sortT_perm (ws.map sS)).map fun t : Str => t.cps.toList
  rw [List.map_map] at this
  rw [show ((fun t : Str => t.cps.toList) ∘ sS) = id from rfl, List.map_id] at this
  exact this
theorem upL_up (ws : List (List Nat)) : (upL ws).Pairwise fun a b => ¬ b < a := List.Pairwise.map _ (fun a b h => h) (TX.sortT_up _)
end LW
set_option Elab.async false
set_option linter.all false
set_option maxRecDepth 100000
set_option maxHeartbeats 4000000
namespace DL
open PySem PySem.Spec PyProof.Rows L2
/-! ### is True, xs.pop(i), defs that call themselves -/
def semIsB : List C → Option C
  | [a, b] => match a.data, b.data with
    | some (.bool x), some (.bool y) => some (.fz (.bool (decide (x = y))))
    | _, _ => none
  | _ => none
def semNotB : List C → Option C
  | [a, b] => match a.data, b.data with
    | some (.bool x), some (.bool y) => some (.fz (.bool (!decide (x = y))))
    | _, _ => none
  | _ => none
noncomputable def upPopAt (ds as : List D) : Option (List D × D) := match as with
  | [.int i] => match seqIndex? i ds.length with
    | some k => if fits (-(2 ^ 63) ≤ i ∧ i < 2 ^ 63) then match ds[k]? with
      | some d => some (ds.eraseIdx k, d)
      | none => none else none
    | none => none
  | _ => none
section
variable {K : PySem.W.Frag} {bad : Addr → Prop} {H : Hp} {X : Cx} {c : C} {v : V}
theorem ok_isB : Ok2 K rIsB semIsB := Ok2.mk fun bad H x y a b c Q trk ra rb hs q => by
  simp only [semIsB] at hs
  split at hs
  · rename_i i j ha hb
    cases hs
    exact ⟨i, j, see_bool ha ra, see_bool hb rb, q _ _ Ext.refl rfl⟩
  · cases hs
theorem ok_notB : Ok2 K rNotB semNotB := Ok2.mk fun bad H x y a b c Q trk ra rb hs q => by
  simp only [semNotB] at hs
  split at hs
  · rename_i i j ha hb
    cases hs
    exact ⟨i, j, see_bool ha ra, see_bool hb rb, q _ _ Ext.refl rfl⟩
  · cases hs
theorem FzL.eraseIdx {ds : List PyData} {vs : List V} (h : FzL K bad H ds vs) (k : Nat) : FzL K bad H (ds.eraseIdx k) (vs.eraseIdx k) := by
  rw [List.eraseIdx_eq_take_drop_succ, List.eraseIdx_eq_take_drop_succ]
  exact (h.take k).append (h.drop (k + 1))
theorem ok_popAt : OkM rPopAt upPopAt := fun K bad H a xs vs ds as ds' d Q ha hb f g h q => by
  unfold upPopAt at h
  split at h
  · rename_i i
    split at h
    · rename_i k hk
      split at h
      · rename_i hl
        split at h
        · rename_i e he
          cases h
          obtain ⟨v, r, rfl, g1, g2⟩ := g
          cases (show r = [] from g2)
          cases (show v = .int i from g1)
          obtain ⟨v, hv, r⟩ := f.get he
          obtain ⟨l1, l2⟩ := of_fits hl
          exact ⟨a, xs, i, k, v, rfl, rfl, ha, l1, l2, by rw [f.length]; exact hk, hv, q _ _ (f.eraseIdx k) r⟩
        · cases h
      · cases h
    · cases h
  · cases h
/-- of a function that gives nothing all is promised -/
theorem fn_none {P : Program} {w : World} {mg : Str → Option Value} {base : Heap} {k : Nat} {f : Addr} {fd : FuncData} {ps : List Str} {n : Nat} (h : n = ps.length) : FnG P w K mg base k f fd ps (spD K n fun _ => none) where
  len := fun xs H Q E z => z.1.trans h
  run := fun A out t H args us xs Q E _ _ _ _ z => by
    obtain ⟨_, B, cs, c, outs, _, e, _⟩ := z
    cases e
end
end DL
set_option Elab.async false
set_option linter.all false
set_option maxRecDepth 100000
set_option maxHeartbeats 4000000
namespace DL
open PySem PySem.Spec PyProof.Rows L2
/-! ### x in ys: items of a list, of a tuple (flat ones), a sign of a text -/
def flatD : D → Bool
  | .none => true
  | .bool _ => true
  | .int _ => true
  | .str _ => true
  | _ => false
def semIn (neg : Bool) : List C → Option C
  | [a, b] => match a.data, b.data with
    | some d, some (.list ds) => if dep d ≤ 64 ∧ dep (PyData.list ds) ≤ 64 then some (.fz (.bool (neg != ds.any fun z => PyData.eqv z d))) else none
    | some d, some (.tuple ds) => if flatD d && ds.all flatD then some (.fz (.bool (neg != ds.any fun z => PyData.eqv z d))) else none
    | some (.str ⟨⟨[x]⟩⟩), some (.str z) => some (.fz (.bool (neg != decide (x ∈ z.cps.toList))))
    | _, _ => none
  | _ => none
section
variable {K : PySem.W.Frag} {bad : Addr → Prop} {H : Hp} {X : Cx} {c : C} {v : V}
/-- one of three -/
def rInA (K : PySem.W.Frag) : R2 := fun x y H Q => rInD K x y H Q ∨ rIn K false x y H Q ∨ ∃ (c : Nat) (z : Str), x = .str ⟨#[c]⟩ ∧ y = .str z ∧ Q (.bl (decide (c ∈ z.cps.toList))) H
def rNotInA (K : PySem.W.Frag) : R2 := fun x y H Q => rNotInD K x y H Q ∨ rIn K true x y H Q ∨ ∃ (c : Nat) (z : Str), x = .str ⟨#[c]⟩ ∧ y = .str z ∧ Q (.bl (!decide (c ∈ z.cps.toList))) H
theorem op_inA (hu : X.A.units + 66 < cLine) : OpR X (compareOp .In) (rInA X.K) := fun pins s σ H x y v u Q I rx ry h => by
  rcases h with h | h | h
  · exact op_inD (by omega) pins s σ H x y v u Q I rx ry h
  · exact op_in_seq pins s σ H x y v u Q I rx ry h
  · exact op_in_sign pins s σ H x y v u Q I rx ry h
theorem op_notInA (hu : X.A.units + 66 < cLine) : OpR X (compareOp .NotIn) (rNotInA X.K) := fun pins s σ H x y v u Q I rx ry h => by
  rcases h with h | h | h
  · exact op_notInD (by omega) pins s σ H x y v u Q I rx ry h
  · exact op_notIn_seq pins s σ H x y v u Q I rx ry h
  · exact op_notIn_sign pins s σ H x y v u Q I rx ry h
theorem flat_fz {d : D} {v : V} (h : Fz K bad H d v) (f : flatD d = true) : flatV v = true := by
  cases d with
  | none => cases (show v = .non from h); rfl
  | bool b => cases (show v = .bl b from h); rfl
  | int i => cases (show v = .int i from h); rfl
  | str x => rw [h.1]; rfl
  | list ds => cases f
  | tuple ds => cases f
  | dict kvs => cases f
theorem eqV_fz {d e : D} {v u : V} (h : Fz K bad H d v) (g : Fz K bad H e u) (f : flatD d = true) (f' : flatD e = true) : eqV v u = PyData.eqv d e := by
  cases d with
  | none =>
    cases (show v = .non from h)
    cases e with
    | none => cases (show u = .non from g); rfl
    | bool b => cases (show u = .bl b from g); rfl
    | int i => cases (show u = .int i from g); rfl
    | str x => rw [g.1]; rfl
    | _ => cases f'
  | bool a =>
    cases (show v = .bl a from h)
    cases e with
    | none => cases (show u = .non from g); rfl
    | bool b => cases (show u = .bl b from g); rfl
    | int i => cases (show u = .int i from g); rfl
    | str x => rw [g.1]; rfl
    | _ => cases f'
  | int a =>
    cases (show v = .int a from h)
    cases e with
    | none => cases (show u = .non from g); rfl
    | bool b => cases (show u = .bl b from g); rfl
    | int i => cases (show u = .int i from g); rfl
    | str x => rw [g.1]; rfl
    | _ => cases f'
  | str a =>
    rw [h.1]
    cases e with
    | none => cases (show u = .non from g); rfl
    | bool b => cases (show u = .bl b from g); rfl
    | int i => cases (show u = .int i from g); rfl
    | str x => rw [g.1]; rfl
    | _ => cases f'
  | _ => cases f
theorem flats_fz : ∀ {ds : List PyData} {vs : List V}, FzL K bad H ds vs → ds.all flatD = true → vs.all flatV = true
  | [], vs, h, _ => by
    have e : vs = [] := h
    subst e
    rfl
  | d :: ds, _, ⟨v, r, rfl, h1, h2⟩, f => by
    rw [List.all_cons, Bool.and_eq_true] at f
    rw [List.all_cons, flat_fz h1 f.1, flats_fz h2 f.2]
    rfl
theorem any_fz {d : D} {x : V} (hx : Fz K bad H d x) (fx : flatD d = true) : ∀ {ds : List PyData} {vs : List V}, FzL K bad H ds vs → ds.all flatD = true → inV x vs = ds.any fun z => PyData.eqv z d
  | [], vs, h, _ => by
    have e : vs = [] := h
    subst e
    rfl
  | e :: ds, _, ⟨v, r, rfl, h1, h2⟩, f => by
    rw [List.all_cons, Bool.and_eq_true] at f
    show (eqV v x || inV x r) = _
    rw [List.any_cons, eqV_fz h1 hx f.1 fx, any_fz hx fx h2 f.2]
theorem see_fz {d : D} (h : c.data = some d) (r : CRep K bad H c v) (f : flatD d = true) : Fz K bad H d v := by
  cases c with
  | fz e => cases h; exact r
  | ow e => cases h; obtain ⟨a, _, q⟩ := r; cases d <;> first | exact q.elim | cases f
  | pw e => cases h; obtain ⟨a, _, q⟩ := r; cases d <;> first | exact q.elim | cases f
  | sc e => cases h
theorem ok_inA : Ok2 K (rInA K) (semIn false) := Ok2.mk fun bad H x y a b c Q trk ra rb hs q => by
  simp only [semIn] at hs
  split at hs
  · rename_i d ds ha hb
    split at hs
    · rename_i hm
      cases hs
      obtain ⟨d1, l1⟩ := see_dp ha ra (dep_le _ hm.1).1
      obtain ⟨d2, l2⟩ := see_dp hb rb (dep_le _ hm.2).1
      refine .inl ⟨d, ds, d1, d2, shaped_of l1 (dep_depth hm.1), shaped_of l2 (dep_depth hm.2), q _ _ Ext.refl ?_⟩
      rw [Bool.false_bne]
      rfl
    · cases hs
  · rename_i d ds ha hb
    split at hs
    · rename_i hm
      cases hs
      rw [Bool.and_eq_true] at hm
      obtain ⟨p, xs, rfl, h1, h2⟩ := see_tup hb rb
      have fx := see_fz ha ra hm.1
      refine .inr (.inl ⟨p, xs, rfl, .inr h1, flat_fz fx hm.1, flats_fz h2 hm.2, q _ _ Ext.refl ?_⟩)
      rw [Bool.false_bne, ← any_fz fx hm.1 h2 hm.2]
      rfl
    · cases hs
  · rename_i z x z' ha hb
    cases hs
    refine .inr (.inr ⟨_, _, (see_str ha ra).1, (see_str hb rb).1, q _ _ Ext.refl ?_⟩)
    rw [Bool.false_bne]
    rfl
  · cases hs
theorem ok_notInA : Ok2 K (rNotInA K) (semIn true) := Ok2.mk fun bad H x y a b c Q trk ra rb hs q => by
  simp only [semIn] at hs
  split at hs
  · rename_i d ds ha hb
    split at hs
    · rename_i hm
      cases hs
      obtain ⟨d1, l1⟩ := see_dp ha ra (dep_le _ hm.1).1
      obtain ⟨d2, l2⟩ := see_dp hb rb (dep_le _ hm.2).1
      refine .inl ⟨d, ds, d1, d2, shaped_of l1 (dep_depth hm.1), shaped_of l2 (dep_depth hm.2), q _ _ Ext.refl ?_⟩
      rw [Bool.true_bne]
      rfl
    · cases hs
  · rename_i d ds ha hb
    split at hs
    · rename_i hm
      cases hs
      rw [Bool.and_eq_true] at hm
      obtain ⟨p, xs, rfl, h1, h2⟩ := see_tup hb rb
      have fx := see_fz ha ra hm.1
      refine .inr (.inl ⟨p, xs, rfl, .inr h1, flat_fz fx hm.1, flats_fz h2 hm.2, q _ _ Ext.refl ?_⟩)
      rw [Bool.true_bne, ← any_fz fx hm.1 h2 hm.2]
      rfl
    · cases hs
  · rename_i z x z' ha hb
    cases hs
    refine .inr (.inr ⟨_, _, (see_str ha ra).1, (see_str hb rb).1, q _ _ Ext.refl ?_⟩)
    rw [Bool.true_bne]
    rfl
  · cases hs
end
end DL
set_option Elab.async false
set_option linter.all false
set_option maxRecDepth 100000
set_option maxHeartbeats 4000000
namespace DL
open PySem PySem.Spec PyProof.Rows L2
/-! ### enumerate(xs), zip(xs, ys) walked; xs[::-1] -/
def enumD (ds : List D) : List D := ds.mapIdx fun i d => .tuple [.int (i : Nat), d]
def zipD (ds es : List D) : List D := List.zipWith (fun d e => .tuple [d, e]) ds es
def lstOf : C → Option (List D)
  | .fz (.list ds) => some ds
  | .ow (.list ds) => some ds
  | _ => none
def iEnumD (f : FE) : FI := fun env => match f env with
  | some (c, e) => match lstOf c with
    | some ds => some (enumD ds, e)
    | none => none
  | none => none
def iZipD (f g : FE) : FI := fun env => match f env with
  | some (c, e) => match g e with
    | some (c2, e2) => match lstOf c, lstOf c2 with
      | some ds, some es => some (zipD ds es, e2)
      | _, _ => none
    | none => none
  | none => none
section
variable {K : PySem.W.Frag} {B B' : Addr → Prop} {H H' H1 H2 : Hp} {σ : L2.St} {env env' e1 e2 : Ev} {c c2 : C} {v v2 x : V} {X : Cx} {a b : Addr}
theorem pair_new {d e : D} {x y : V} {T : Addr} (hT : H T = none) (h1 : Fz K B H d x) (h2 : Fz K B H e y) : Fz K B (upd H T (.tup [x, y])) (.tuple [d, e]) (.ref T) :=
  ⟨T, [x, y], rfl, SqT.of upd_same, FzL.cons (Fz.mono (Ext.new hT).fr (fun _ z _ => z) h1) (FzL.cons (Fz.mono (Ext.new hT).fr (fun _ z _ => z) h2) FzL.nil)⟩
theorem src_enum {ds : List PyData} {xs : List V} : Src K (Ite K a) (enumD ds) (fun B H => H a = some (.lst xs) ∧ ¬ B a ∧ FzL K B H ds xs) where
  mono := fun B B' H H' ⟨h1, h2, h3⟩ f hb => ⟨f.some h1 h2, fun z => h2 (hb a z (by rw [h1]; exact fun z => by cases z)), h3.mono f hb⟩
  walk := ⟨fun H => SqL K H a xs ∧ xs.length = ds.length, YPair (fun i => some (.int (i : Nat))) (fun i => xs[i]?), by
    have el : (enumD ds).length = ds.length := List.length_mapIdx
    refine ⟨fun i H hi h => (walk_enum (K := K) (a := a) (xs := xs)).goes i H (by omega) h.1, fun H h => ?_, fun i H x H' hi h y => (walk_enum (K := K) (a := a) (xs := xs)).yields i H x H' (by omega) h.1 y⟩
    have := (walk_enum (K := K) (a := a) (xs := xs)).stops H h.1
    rw [el, ← h.2]
    exact this, fun B H h => ⟨SqL.of h.1, h.2.2.length⟩, fun B H i x H' h hi y => by
    have el : (enumD ds).length = ds.length := List.length_mapIdx
    obtain ⟨T, u, w, rfl, hT, rfl, g1, g2⟩ := y
    cases g1
    have hi' : i < ds.length := by omega
    obtain ⟨v, hv, f⟩ := h.2.2.get (i := i) (d := ds[i]) (by simp [hi'])
    rw [show xs[i]? = some w from g2] at hv
    cases hv
    exact ⟨.tuple [.int (i : Nat), ds[i]], by unfold enumD; rw [List.getElem?_mapIdx, List.getElem?_eq_getElem hi']; rfl, Ext.new hT, pair_new hT rfl f⟩⟩
theorem src_zip {ds es : List PyData} {xs ys : List V} : Src K (Itz K a b) (zipD ds es) (fun B H => (H a = some (.lst xs) ∧ ¬ B a ∧ FzL K B H ds xs) ∧ H b = some (.lst ys) ∧ ¬ B b ∧ FzL K B H es ys) where
  mono := fun B B' H H' ⟨⟨h1, h2, h3⟩, g1, g2, g3⟩ f hb => ⟨⟨f.some h1 h2, fun z => h2 (hb a z (by rw [h1]; exact fun z => by cases z)), h3.mono f hb⟩, f.some g1 g2, fun z => g2 (hb b z (by rw [g1]; exact fun z => by cases z)), g3.mono f hb⟩
  walk := ⟨fun H => (SqL K H a xs ∧ SqL K H b ys) ∧ xs.length = ds.length ∧ ys.length = es.length, YPair (fun i => xs[i]?) (fun i => ys[i]?), by
    have el : (zipD ds es).length = min ds.length es.length := List.length_zipWith
    refine ⟨fun i H hi h => (walk_zip (K := K) (a := a) (b := b) (xs := xs) (ys := ys) rfl).goes i H (by omega) h.1, fun H h => ?_, fun i H x H' hi h y => (walk_zip (K := K) (a := a) (b := b) (xs := xs) (ys := ys) rfl).yields i H x H' (by omega) h.1 y⟩
    have := (walk_zip (K := K) (a := a) (b := b) (xs := xs) (ys := ys) rfl).stops H h.1
    rw [el, ← h.2.1, ← h.2.2]
    exact this, fun B H h => ⟨⟨SqL.of h.1.1, SqL.of h.2.1⟩, h.1.2.2.length, h.2.2.2.length⟩, fun B H i x H' h hi y => by
    have el : (zipD ds es).length = min ds.length es.length := List.length_zipWith
    obtain ⟨T, u, w, rfl, hT, rfl, g1, g2⟩ := y
    have h1 : i < ds.length := by omega
    have h2 : i < es.length := by omega
    obtain ⟨v, hv, f⟩ := h.1.2.2.get (i := i) (d := ds[i]) (by simp [h1])
    obtain ⟨v2, hv2, f2⟩ := h.2.2.2.get (i := i) (d := es[i]) (by simp [h2])
    rw [show xs[i]? = some u from g1] at hv
    rw [show ys[i]? = some w from g2] at hv2
    cases hv
    cases hv2
    exact ⟨.tuple [ds[i], es[i]], by unfold zipD; rw [List.getElem?_zipWith, List.getElem?_eq_getElem h1, List.getElem?_eq_getElem h2], Ext.new hT, pair_new hT f f2⟩⟩
theorem lst_of_rep {ds : List PyData} {bad bad' : Addr → Prop} (h : lstOf c = some ds) (r : CRep K bad H c v) (nb : ∀ a, ownV c v a → ¬ bad' a) (hb : ∀ a, bad' a → bad a) : ∃ a xs, v = .ref a ∧ H a = some (.lst xs) ∧ ¬ bad' a ∧ FzL K bad' H ds xs := by
  cases c with
  | fz d =>
    cases d <;> cases h
    obtain ⟨a, xs, e, h1, h2, h3⟩ := r
    exact ⟨a, xs, e, h1, fun z => h2 (hb a z), h3.mono Fr.refl fun a z _ => hb a z⟩
  | ow d =>
    cases d <;> cases h
    obtain ⟨a, rfl, xs, h1, h3⟩ := r
    exact ⟨a, xs, rfl, h1, nb a ⟨rfl, rfl⟩, h3.mono Fr.refl fun a z _ => hb a z⟩
  | pw d => cases h
  | sc d => cases h
theorem pi_enumD {e : Expr} {f : FE} {p pos tpos : Pos} {elts : List Expr} {kk : Nat} (hg : Gl X "enumerate") (hm : X.mg "enumerate" = none) (h : PDs X [e] [dVal f]) (hs : starEach [e] X.env = [(false, eval e X.env)] := by rfl) :
    PDI X (.Tuple elts kk tpos) (.Call (.Name "enumerate" p) [e] [] pos) (iEnumD f) := PIimp (pi_enum hg hm h hs) fun σ H R ⟨B, env, ds, env', S, hf, q⟩ => by
  unfold iEnumD at hf
  split at hf
  · rename_i c e1 he
    split at hf
    · rename_i ds hl
      cases hf
      refine ⟨B, env, [.val c], env', S, by simp only [dOs, dVal, he], fun vs H1 p => ?_⟩
      obtain ⟨v, r, rfl, ⟨r1, _⟩, r2⟩ := p.ro
      cases (show r = [] from r2)
      obtain ⟨a, xs, rfl, h1, h2, h3⟩ := lst_of_rep (bad' := Bad B σ env') hl r1 (fun a z z2 => z2.elim (p.nb a (.inl z)) fun ⟨i, z2⟩ => p.st.out i a z2 (.inr (.inl z))) fun a z => z.elim (fun z => .inl (.inl z)) .inr
      exact ⟨a, xs, rfl, SqL.of h1, q _ _ ⟨p.eff, _, src_enum, h1, h2, h3⟩⟩
    · cases hf
  · cases hf
theorem pi_zipD {e g : Expr} {f f2 : FE} {p pos tpos : Pos} {elts : List Expr} {kk : Nat} (hg : Gl X "zip") (hm : X.mg "zip" = none) (h : PDs X [e, g] [dVal f, dVal f2])
    (hs : starEach [e, g] X.env = (false, eval e X.env) :: starEach [g] X.env := by rfl) (hpl : (backTo pos (starEach [g] X.env)).any (·.1) = false := by rfl) :
    PDI X (.Tuple elts kk tpos) (.Call (.Name "zip" p) [e, g] [] pos) (iZipD f f2) := PIimp (pi_zip hg hm h hs hpl) fun σ H R ⟨B, env, ds, env', S, hf, q⟩ => by
  unfold iZipD at hf
  split at hf
  · rename_i c e1 he
    split at hf
    · rename_i c2 e2 he2
      split at hf
      · rename_i ds es hl hl2
        cases hf
        refine ⟨B, env, [.val c, .val c2], env', S, by simp only [dOs, dVal, he, he2], fun vs H1 p => ?_⟩
        obtain ⟨v, _, rfl, ⟨r1, _⟩, v2, _, rfl, ⟨r2, _⟩, r3⟩ := p.ro
        cases (show _ = [] from r3)
        obtain ⟨a, xs, rfl, h1, h2, h3⟩ := lst_of_rep (bad' := Bad B σ env') hl r1 (fun a z z2 => z2.elim (p.nb a (.inl z)) fun ⟨i, z2⟩ => p.st.out i a z2 (.inr (.inl z))) fun a z => z.elim (fun z => .inl (.inl z)) .inr
        obtain ⟨b, ys, rfl, g1, g2, g3⟩ := lst_of_rep (bad' := Bad B σ env') hl2 r2 (fun a z z2 => z2.elim (p.nb a (.inr (.inl z))) fun ⟨i, z2⟩ => p.st.out i a z2 (.inr (.inr (.inl z)))) fun a z => z.elim (fun z => .inl (.inl z)) .inr
        exact ⟨a, b, xs, ys, rfl, SqL.of h1, SqL.of g1, q _ _ ⟨p.eff, _, src_zip, ⟨h1, h2, h3⟩, g1, g2, g3⟩⟩
      · cases hf
    · cases hf
  · cases hf
end
end DL
set_option Elab.async false
set_option linter.all false
set_option maxRecDepth 100000
set_option maxHeartbeats 4000000
/-! sets and sorted of tuples of texts -/
namespace TX
open PySem PySem.Spec PyProof.Rows PySem.Froz L2
section
variable {P : Program} {w : World} {A : Around} {E : Value → Shared → Prop} {s : Shared}
set_option maxHeartbeats 4000000 in
theorem set_xT {l : Addr} {items : Array Value} {xs : List Str} {Q : Value → Shared → Prop} (hh : A.handled = none) (hl : s.heap.IsTuple l items) (hi : StrsAre items.toList xs) (hb : items.size + 1 < scanBound)
    (h : ∀ s2, Made P w s xs s2 → Q (.ref s.heap.objs.size) s2) : wpAny (model P w) A (call (.type "set") [.ref l]) Q E s := by
  have len : xs.length = items.size := by rw [← StrsAre.len_eq hi, Array.length_toList]
  obtain ⟨c, tl, hmro⟩ := PySem.F.called_set.mro
  have f1 := PySem.F.called_set.made; have f2 := PySem.F.called_set.sub; have f3 := PySem.F.called_set.notType; have f4 := PySem.F.called_set.canCreate; have f5 := PySem.F.typeCall_set_1 (.ref l)
  refine wpAny_call (codeAny_of_tree (wpAny_pure ⟨Code.quiet_builtin _ (by decide +kernel), codeAny_builtin PySem.F.entry_type_call ?_⟩))
  rw [Around.under_plain (weight_type_call_type "set" [.ref l] []) rfl]
  repeat (any_goals (first | assumption | wp_step))
  refine codeAny_mono (code_set_led1 (.ref l) (E := E) (Q₁ := fun o s1 => o = .ref s.heap.objs.size ∧ s1 = { s with heap := s.heap.push (nw w) }) ⟨rfl, rfl⟩) fun r s1 hr => ?_
  match r, hr with
  | .error e, hr => exact hr
  | .ok (.ret o), ⟨e1, e2⟩ =>
    subst e1; subst e2
    have at0 : (s.heap.push (nw w)).get? s.heap.objs.size = some (nw w) := Heap.get?_push_size _ rfl
    have ty : Shared.TypeIs { s with heap := s.heap.push (nw w) } (.ref s.heap.objs.size) "set" := ⟨_, at0, rfl⟩
    have g1 := PySem.F.called_set.init.lookup; have g2 := PySem.F.called_set.init.bind (.ref s.heap.objs.size)
    repeat (any_goals (first | assumption | wp_step))
    refine codeAny_mono (codeAny_call_builtin (R := wants (fun r s2 => r = .none ∧ Made P w s xs s2) E) PySem.F.called_set.init.plain PySem.F.entry_set_init (check_set_init_1 ty ?_)) fun r2 s2 hr2 => ?_
    · obtain ⟨⟨ol, dd, da, sl⟩, hol, ec, nl, ed⟩ := hl
      simp only at ec ed; subst ec; subst ed
      have lt : l < s.heap.objs.size := Heap.lt_size hol
      have z1 : (s.heap.push (nw w)).objs.size = s.heap.objs.size + 1 := Heap.size_push ..
      have il := Heap.get?_push_of_some (nw w) hol
      have hl1 : (s.heap.push (nw w)).IsTuple l items := ⟨_, il, rfl, nl, rfl⟩
      have k1 := PySem.F.sub_tuple_set; have k2 := PySem.F.sub_tuple_frozenset; have k3 : (Value.type "tuple" == Value.type "dict") = false := by decide
      unfold Builtin.«set.__init__» noKeywords Builtin.Frozenset.updateFrom; generalize hPI : pyIter = PI
      unfold nw at *
      wp_walk
      subst hPI
      refine wpAny_pyIter_tuple hl1 (wpAny_bind (wpAny_runValue ?_))
      have nI : l ≠ (s.heap.push (nw w)).objs.size := fun z => Nat.ne_of_lt (Nat.lt_succ_of_lt lt) (z.trans (Heap.size_push ..))
      have nS : s.heap.objs.size ∉ [(s.heap.push (nw w)).objs.size, l] := fun z => (List.mem_cons.mp z).elim (fun z => Nat.ne_of_lt (Nat.lt_succ_self s.heap.objs.size) (z.trans (Heap.size_push ..))) fun z => Nat.ne_of_gt lt (List.mem_singleton.mp z)
      unfold nw at nI nS
      have hv : ∀ (i : Nat) (v : Value), items[i]? = some v → ∃ x t, xs[i]? = some x ∧ v = .str x t := fun i v q => by
        have lt2 : i < xs.length := by rw [len]; exact (Array.getElem?_eq_some_iff.mp q).1
        obtain ⟨t, e⟩ := SS.strs_at hi i v (by rw [Array.getElem?_toList]; exact q)
        exact ⟨xs[i]'lt2, t, List.getElem?_eq_getElem lt2, by rw [e, List.getD_eq_getElem?_getD, List.getElem?_eq_getElem lt2]; rfl⟩
      refine met_loop (xs := xs) ((Walks.tuple (by simp [hh]) _ l nI items).toS) s.heap.objs.size nS len.symm hb hv (items.size - 0) 0 _ rfl (Nat.zero_le _) ⟨⟨_, Heap.get?_push_size _ rfl, rfl, rfl⟩, hl1.push _⟩ (met_nil (Heap.get?_push_of_some _ at0)) fun s' hm q => ?_
      obtain ⟨h', g', d', tk', os'⟩ := s'
      have u1 : g' = s.gens := hm.gens; have u2 : d' = s.drawn := hm.drawn; have u3 : os' = s.os := hm.os
      subst u1; subst u2; subst u3
      refine wpAny_pure (wpAny_pure ⟨rfl, h', tk', rfl, q, fun b o e => ?_⟩)
      have lb : b < s.heap.objs.size := Heap.lt_size e
      refine hm.heap b o ?_ (Heap.get?_push_of_some _ (Heap.get?_push_of_some _ e))
      exact fun z => (List.mem_cons.mp z).elim (Nat.ne_of_lt lb) fun z => Nat.ne_of_lt (Nat.lt_succ_of_lt lb) ((List.mem_singleton.mp z).trans z1)
    · match r2, hr2 with
      | .error e, hr2 => exact hr2
      | .ok (.ret r), ⟨e1, hm⟩ =>
        subst e1
        repeat (any_goals (first | assumption | wp_step))
        exact h _ hm
/-- sorted of a list or a tuple of texts -/
theorem sorted_sq {a : Addr} {T : String} {o : Obj} {items : Array Value} {n : Nat} {xs : List Str} {Q : Value → Shared → Prop} (hT : T = "list" ∨ T = "tuple") (ho : s.heap.get? a = some o) (hc : o.cls = .type T) (hd : o.data = .seq items n) (hz : items.size ≤ sizeLine) (hI : StrsAre items.toList xs)
    (h : ∀ (h1 h' : Heap) (out : Array Value) (c : Nat), (∀ b o, s.heap.get? b = some o → h1.get? b = some o) → (∀ b o, h1.get? b = some o → h'.get? b = some o) → h'.get? h1.objs.size = some (seqObj "list" out c) → StrsAre out.toList (sortT xs) → Q (.ref h1.objs.size) { s with heap := h' }) :
    wpAny (model P w) A (call (.builtin "sorted") [.ref a]) Q E s := by
  refine Calls.call_function_entry kind_sorted plain_sorted entry_sorted (args_sorted1 _) ?_; unfold Builtin.«sorted»
  refine wpAny_bind (m := checkCount "sorted" 1 1 _) (wpAny_pure (wpAny_bind (wpAny_collect_seq (A := A.in1) a hT ho hc hd (fun h1 k1 => ?_) hz)))
  have vl : items.toList.length ≤ sizeLine := by rw [Array.length_toList]; exact hz
  generalize items.toList = vs at vl hI ⊢
  have hoL : (h1.push (seqObj "list" vs.toArray 0)).get? h1.objs.size = some (seqObj "list" vs.toArray 0) := Heap.get?_push_size _ rfl
  refine wpAny_bind (wpAny_newList (wpAny_bind (wpAny_holding (wpAny_call_entry slot_list_sort ⟨_, hoL, rfl⟩ entry_list_sort (SrtO.list_sort_ord swoT hoL vl (fun h2 => sortable hI h2) fun out hs hb => ⟨_, rfl, ?_⟩) (args_list_sort _)))) vl)
  obtain ⟨c, hc⟩ := sortedHeap_at (vs := vs) (out := out.toArray) hoL
  have fin := out_of hI hs hb
  refine wpAny_pure ⟨_, rfl, h h1 _ out.toArray c k1 (fun b u q => ?_) hc (by simpa using fin)⟩
  have lt := Heap.lt_size q
  exact (sortedHeap_old (Nat.ne_of_lt lt) (by rw [size_push']; exact Nat.lt_succ_of_lt lt)).trans (Heap.get?_push_of_some _ q)
end
end TX
namespace L2
open PySem PySem.Spec PyProof.Rows
/-- sorted(set(xs)), texts, xs a list or a tuple -/
def tSortSetA (K : PySem.W.Frag) (ta : TE) : TE := fun σ H Q => ta σ H fun x H1 => ∃ (l : Addr) (xs : List Str), x = .ref l ∧ (SqL K H1 l (xs.map V.str) ∨ SqT K H1 l (xs.map V.str)) ∧ xs.length + 1 < 4096 ∧ ∀ p, H1 p = none → Q (.ref p) (upd H1 p (.lst ((TX.sortU xs).map V.str)))
def rSortedTA (K : PySem.W.Frag) : List V → Hp → VK → Prop := fun vs H Q => ∃ (a : Addr) (xs : List Str), vs = [V.ref a] ∧ (SqL K H a (xs.map V.str) ∨ SqT K H a (xs.map V.str)) ∧ ∀ p, H p = none → Q (.ref p) (upd H p (.lst ((TX.sortT xs).map V.str)))
section
variable {X : Cx}
theorem cr_sortedTA : CallR X (.builtin "sorted") (rSortedTA X.K) := by
  intro pins s σ H vs us Q I r h
  obtain ⟨a, xs, rfl, hs, q⟩ := h
  rw [Vals.ref1 r]
  have fin : ∀ (T : String) (o : Obj) (its : List Value) (n : Nat), T = "list" ∨ T = "tuple" → s.heap.get? a = some o → o.cls = .type T → o.data = .seq its.toArray n → Vals (xs.map V.str) its → (xs.map V.str).length ≤ sizeLine →
      wpAny (model X.prog X.w) X.A (call (.builtin "sorted") [.ref a]) (EP X pins σ Q) X.xe s := fun T o its n hT ho hc hd rv hz => by
    refine TX.sorted_sq hT ho hc hd (by rw [List.size_toArray, ← rv.length]; exact hz) (by simpa using rv.strs) fun h1 h' out c k1 k2 hg hi => ?_
    have I1 : Inv X pins σ H { s with heap := h1 } := I.kept (t' := s.toks) k1
    have hlen : ((TX.sortT xs).map V.str).length ≤ sizeLine := by rw [List.length_map, (TX.sortT_perm xs).length_eq]; rw [List.length_map] at hz; exact hz
    have I2 : Inv X pins σ (upd H h1.objs.size (.lst ((TX.sortT xs).map V.str))) { s with heap := h' } := I1.laid (t' := s.toks) k2 (Nat.le_refl _) ⟨hlen, out.toList, c, vals_of_strs hi, by simpa using hg⟩
    exact ⟨.ref _, _, I2, rfl, q _ (I1.hok.fresh (Nat.le_refl _))⟩
  rcases hs with hs | hs
  · obtain ⟨its, rv, pl, hz⟩ := I.list hs
    obtain ⟨o, ho, hc, n, hd⟩ := pl.isList
    exact fin "list" o its n (.inl rfl) ho hc hd rv hz
  · obtain ⟨its, rv, pl, hz⟩ := I.tuple hs
    obtain ⟨o, ho, hc, n, hd⟩ := pl
    exact fin "tuple" o its n (.inr rfl) ho hc hd rv hz
theorem pe_sortSetA {a : Expr} {ta : TE} {p p2 q pos : Pos} (hc : X.calm = true) (hg : Gl X "sorted") (hm : X.mg "sorted" = none) (hg2 : Gl X "set") (hm2 : X.mg "set" = none) (ha : PE X a ta)
    (na : starEach [a] X.env = (false, eval a X.env) :: starEach [] X.env := by rfl) : PE X (.Call (.Name "sorted" p) [.Call (.Name "set" p2) [a] [] q] [] pos) (tSortSetA X.K ta) := by
  refine ⟨fun pins s σ H Q I h => Call_ (ld_blt I hg hm boot_sorted (PyProof.Rows.callWith_builtin1 (PyProof.Rows.args_cons (Call_ (ld_blt I hg2 hm2 boot_set ?_)) rfl) rfl rfl))⟩
  refine PyProof.Rows.callWith_type1 (PyProof.Rows.args_cons (thn (ha.run pins s σ H _ I h) fun v s1 ⟨x, H1, I1, r1, q1⟩ => PyProof.Rows.args_nil ?_) na) na rfl
  obtain ⟨l, xs, rfl, hs, hb, q1⟩ := q1
  cases r1
  have fin : ∀ s2, TX.Made X.prog X.w s1 xs s2 → wpAny (model X.prog X.w) X.A (spliced (backTo pos (starEach [] X.env))) (fun rest s' => wpAny (model X.prog X.w) X.A (call (.builtin "sorted") (Value.ref s1.heap.objs.size :: rest)) (EP X pins σ Q) X.xe s') X.xe s2 := fun s2 ⟨h', tk, e, M, keep⟩ => PyProof.Rows.args_nil (by
    subst e
    have I2 : Inv X pins σ H1 { s1 with heap := h', toks := tk } := I1.kept keep
    refine TX.sorted_x M (I2.ok.hd hc) (by unfold scanBound; omega) fun s' p out c k g o hp hg hi => ?_
    have hlen : ((TX.sortU xs).map V.str).length ≤ sizeLine := by
      have := TX.mem_len xs []
      rw [List.length_map, show (TX.sortU xs).length = _ from (TX.sortT_perm _).length_eq, sizeLine_eq]
      simp at this
      omega
    have hn : H1 p = none := I2.hok.fresh hp
    have J : Inv X pins σ (upd H1 p (.lst ((TX.sortU xs).map V.str))) { s1 with heap := s'.heap, gens := s'.gens, drawn := s'.drawn, toks := s'.toks } :=
      Inv.call (s := { s1 with heap := h', toks := tk }) I2 (ch := []) (Un.laid k hp hn) (I2.hok.laid k hp ⟨hlen, out.toList, c, vals_of_strs hi, hg⟩) (by rw [g]; exact I2.bare) (fun _ z => nomatch z)
    have e : s' = { s1 with heap := s'.heap, gens := s'.gens, drawn := s'.drawn, toks := s'.toks } := by
      cases s'; cases s1; cases o; rfl
    rw [e]
    exact ⟨.ref p, _, J, rfl, q1 p hn⟩)
  rcases hs with hs | hs
  · obtain ⟨its, rv, pl, hz⟩ := I1.list hs
    have len : its.length = xs.length := by rw [← rv.length, List.length_map]
    exact TX.set_x (xs := xs) (I1.ok.hd hc) pl.isList (by simpa using rv.strs) (by simp [len]; unfold scanBound; omega) fin
  · obtain ⟨its, rv, pl, hz⟩ := I1.tuple hs
    have len : its.length = xs.length := by rw [← rv.length, List.length_map]
    exact TX.set_xT (xs := xs) (I1.ok.hd hc) pl (by simpa using rv.strs) (by simp [len]; unfold scanBound; omega) fin
end
end L2
namespace DL
open PySem PySem.Spec PyProof.Rows L2
noncomputable def semSortSetA : List C → Option C
  | [a] => match a.data with
    | some (.list ds) => match strsOf ds with
      | some ts => if fits (ts.length < 4000) then some (.ow (.list ((TX.sortU ts).map .str))) else none
      | none => none
    | some (.tuple ds) => match strsOf ds with
      | some ts => if fits (ts.length < 4000) then some (.ow (.list ((TX.sortU ts).map .str))) else none
      | none => none
    | _ => none
  | _ => none
noncomputable def semSortTA : List C → Option C
  | [a] => match a.data with
    | some (.list ds) => match strsOf ds with
      | some ts => some (.ow (.list ((TX.sortT ts).map .str)))
      | none => none
    | some (.tuple ds) => match strsOf ds with
      | some ts => some (.ow (.list ((TX.sortT ts).map .str)))
      | none => none
    | _ => none
  | _ => none
section
variable {K : PySem.W.Frag} {bad : Addr → Prop} {H : Hp} {X : Cx}
theorem ok_sortSetA : Ok K (r1 fun x H Q => ∃ (l : Addr) (xs : List Str), x = .ref l ∧ (SqL K H l (xs.map V.str) ∨ SqT K H l (xs.map V.str)) ∧ xs.length + 1 < 4096 ∧ ∀ p, H p = none → Q (.ref p) (upd H p (.lst ((TX.sortU xs).map V.str)))) semSortSetA := by
  refine OkL1 (fun cs h => ?_) fun bad H x a c Q trk ra hs q => ?_
  · match cs, h with
    | [_], _ => rfl
    | [], h => exact absurd rfl h
    | _ :: _ :: _, h => exact absurd rfl h
  · have fin : ∀ (ts : List Str) (a1 : Addr) (v1 : List V), (SqL K H a1 v1 ∨ SqT K H a1 v1) → FzL K bad H (ts.map .str) v1 → fits (ts.length < 4000) → c = .ow (.list ((TX.sortU ts).map .str)) → r1 (fun x H Q => ∃ (l : Addr) (xs : List Str), x = .ref l ∧ (SqL K H l (xs.map V.str) ∨ SqT K H l (xs.map V.str)) ∧ xs.length + 1 < 4096 ∧ ∀ p, H p = none → Q (.ref p) (upd H p (.lst ((TX.sortU xs).map V.str)))) [.ref a1] H Q := fun ts a1 v1 h1 f1 hl ec => by
      subst ec
      have e := f1.of_strs
      subst e
      intro x' ex
      cases ex
      refine ⟨a1, ts, rfl, h1, by have := of_fits hl; omega, fun p hp => q _ _ (Ext.new hp) (new_list trk hp (strs_fz fun t ht => strs_ok f1 t ?_))⟩
      have := ((TX.sortT_perm _).mem_iff.mp ht)
      rw [TX.mem_iff] at this
      exact this.resolve_left (by simp)
    simp only [semSortSetA] at hs
    split at hs
    · rename_i ds ha
      split at hs
      · rename_i ts ht
        split at hs
        · rename_i hl
          cases hs
          obtain ⟨a1, v1, rfl, h1, f1⟩ := see_list ha ra
          rw [strsOf_eq ht] at f1
          exact fin ts a1 v1 (.inl (SqL.of h1)) f1 hl rfl
        · cases hs
      · cases hs
    · rename_i ds ha
      split at hs
      · rename_i ts ht
        split at hs
        · rename_i hl
          cases hs
          obtain ⟨a1, v1, rfl, h1, f1⟩ := see_tup ha ra
          rw [strsOf_eq ht] at f1
          exact fin ts a1 v1 (.inr h1) f1 hl rfl
        · cases hs
      · cases hs
    · cases hs
theorem ok_sortTA : Ok K (rSortedTA K) semSortTA := by
  refine OkL1 (fun cs h => ?_) fun bad H x a c Q trk ra hs q => ?_
  · match cs, h with
    | [_], _ => rfl
    | [], h => exact absurd rfl h
    | _ :: _ :: _, h => exact absurd rfl h
  · simp only [semSortTA] at hs
    split at hs
    · rename_i ds ha
      split at hs
      · rename_i ts ht
        cases hs
        obtain ⟨a1, v1, rfl, h1, f1⟩ := see_list ha ra
        rw [strsOf_eq ht] at f1
        have e := f1.of_strs
        subst e
        exact ⟨a1, ts, rfl, .inl (SqL.of h1), fun p hp => q _ _ (Ext.new hp) (new_list trk hp (strs_fz fun t ht => strs_ok f1 t ((TX.sortT_perm _).mem_iff.mp ht)))⟩
      · cases hs
    · rename_i ds ha
      split at hs
      · rename_i ts ht
        cases hs
        obtain ⟨a1, v1, rfl, h1, f1⟩ := see_tup ha ra
        rw [strsOf_eq ht] at f1
        have e := f1.of_strs
        subst e
        exact ⟨a1, ts, rfl, .inr h1, fun p hp => q _ _ (Ext.new hp) (new_list trk hp (strs_fz fun t ht => strs_ok f1 t ((TX.sortT_perm _).mem_iff.mp ht)))⟩
      · cases hs
    · cases hs
theorem pd_sortSetA {a : Expr} {fa : FO} {p p2 q pos : Pos} (ha : PDO X a fa) (hc : X.calm = true) (hg : Gl X "sorted") (hm : X.mg "sorted" = none) (hg2 : Gl X "set") (hm2 : X.mg "set" = none)
    (na : starEach [a] X.env = (false, eval a X.env) :: starEach [] X.env := by rfl) : PD X (.Call (.Name "sorted" p) [.Call (.Name "set" p2) [a] [] q] [] pos) (dOp semSortSetA [fa]) :=
  PEimp (pe_sortSetA hc hg hm hg2 hm2 ha na) fun σ H Q h => tOs_one (dOp_imp ok_sortSetA h)
end
end DL
namespace LW
open DL PySem L2
theorem sortSetA_ok (ws : List (List Nat)) (c : C) (hc : c.data = some (.list (ws.map S)) ∨ c.data = some (.tuple (ws.map S))) (h : ws.length < 4000) : semSortSetA [c] = some (.ow (.list ((upW ws).map S))) := by
  rcases hc with hc | hc <;>
  · simp only [semSortSetA, hc, strsOf_S]
    rw [if_pos (fits_of (by simpa using h)), back_S]
    rfl
theorem sortTA_ok (ws : List (List Nat)) (c : C) (hc : c.data = some (.list (ws.map S)) ∨ c.data = some (.tuple (ws.map S))) : semSortTA [c] = some (.ow (.list ((upL ws).map S))) := by
  rcases hc with hc | hc <;>
  · simp only [semSortTA, hc, strsOf_S]
    rw [back_S]
    rfl
end LW
set_option Elab.async false
set_option linter.all false
set_option maxRecDepth 100000
set_option maxHeartbeats 4000000
/-! min(xs, key=len), xs a list of texts -/
namespace ML
open PySem PySem.Spec PyProof.Rows L2
section
variable {prog : Program} {w : World} {A : Around} {E : Value → Shared → Prop} {s : Shared} {l I S : Addr} {vs : List Value} {xs : List Str} {R : Result → Shared → Prop} {Q : Value → Shared → Prop}
def kf (xs : List Str) (i : Nat) : Int := ((xs.getD i Str.empty).length : Int)
def Kept (h h' : Heap) : Prop := ∀ b o, h.get? b = some o → h'.get? b = some o
theorem len_at (hi : StrsAre vs xs) (hz : ∀ x ∈ xs, ¬ (x.length : Int) ≥ 2 ^ 63) {j : Nat} {v : Value} (hv : vs[j]? = some v) {A : Around} {E : Value → Shared → Prop} {Q : Value → Shared → Prop} {s : Shared}
    (h : ∀ t tk, Q (.int (kf xs j) t) { s with toks := tk }) : wpAny (model prog w) A (call (.builtin "len") [v]) Q E s := by
  have lt : j < xs.length := by rw [← StrsAre.len_eq hi]; exact (List.getElem?_eq_some_iff.mp hv).1
  obtain ⟨t, e⟩ := SS.strs_at hi j v hv
  rw [e, show xs.getD j Str.empty = xs[j]'lt by rw [List.getD_eq_getElem?_getD, List.getElem?_eq_getElem lt]; rfl]
  have k : kf xs j = ((xs[j]'lt).length : Int) := by unfold kf; rw [List.getD_eq_getElem?_getD, List.getElem?_eq_getElem lt]; rfl
  refine len_str (hz _ (List.getElem_mem lt)) ?_
  rw [← k]
  exact h _ _
theorem loop (hh : A.handled = none) (hi : StrsAre vs xs) (hz : ∀ x ∈ xs, ¬ (x.length : Int) ≥ 2 ^ 63) (hl : s.heap.IsList l vs.toArray) (hI : s.heap.get? I = none) (hS : s.heap.get? S = none) (hSI : S ≠ I)
    (hR : ∀ i v h' tk', vs[i]? = some v → (∀ j, j < vs.length → kf xs i ≤ kf xs j ∧ (j < i → kf xs i < kf xs j)) → Kept s.heap h' → R (.ok (.ret v)) { s with heap := h', toks := tk' }) :
    ∀ (r j i : Nat) (h : Heap) (tk : Nat) (vb : Value) (tb : Tok) (c : Nat), vs.length - (j + 1) = r → j + 1 ≤ vs.length → Kept s.heap h → h.get? S = some (seqObj "list" #[vb, .int (kf xs i) tb] c) → h.IsListIter I l (j + 1) → vs[i]? = some vb → i ≤ j → (∀ j', j' ≤ j → kf xs i ≤ kf xs j' ∧ (j' < i → kf xs i < kf xs j')) →
      codeAny (model prog w) A (.builtin "min.loop" ⟨[.ref I, .builtin "len", .ref S], []⟩) R { s with heap := h, toks := tk } := by
  have hname : (toString "min" ++ toString ".loop" : String) = "min.loop" := by decide
  have hlI : l ≠ I := fun z => by obtain ⟨o, e, _⟩ := hl; rw [z, hI] at e; cases e
  have W := Walks.list (prog := prog) (w := w) (A := A.in1) hh I l hlI vs.toArray
  have hsz : vs.toArray.size = vs.length := List.size_toArray ..
  have lst : ∀ {h}, Kept s.heap h → h.IsList l vs.toArray := fun k => hl.at fun o e => k l o e
  have but : ∀ {h h' : Heap}, Kept s.heap h → (∀ b o, b ∉ [I] → h.get? b = some o → h'.get? b = some o) → Kept s.heap h' := fun k k2 b o e => k2 b o (fun z => by rw [List.mem_singleton.mp z, hI] at e; cases e) (k b o e)
  have butS : ∀ {h h' : Heap}, Kept s.heap h → Heap.SameBut S h h' → Kept s.heap h' := fun k k2 b o e => (k2.2 b (fun z => by rw [z, hS] at e; cases e)).trans (k b o e)
  intro r
  induction r with
  | zero =>
    intro j i h tk vb tb c hr hj F nS hit hvb hij hbest
    have hin : j + 1 = vs.length := by omega
    refine codeAny_builtin PySem.F.entry_min_loop ?_
    rw [Around.under_plainId PySem.F.plain_min_loop _]
    show wpAny _ A.in1 (seqItems? (.ref S) >>= _) _ _ _
    refine wpAny_bind (wpAny_seqItems nS rfl ?_)
    show wpAny _ A.in1 (tryCatch (pyNext (.ref I)) _ >>= _) _ _ _
    refine wpAny_bind (wpAny_tryCatch (W.done _ _ _ ⟨by rw [hsz, ← hin]; exact hit, lst F⟩ fun h' tk' hk' => ?_))
    have F1 := but F hk'
    have hS' := hk' S _ (by simpa using hSI) nS
    have s1 := Heap.SameBut.update h' S (Obj.mapSeq fun _ => (#[] : Array Value))
    show wpAny _ A.in1 (updateSeq S (fun _ => #[]) >>= _) _ _ _
    refine wpAny_bind ?_
    refine wpAny_updateSeq hS' rfl (wpAny_bind (wpAny_letGo (wpAny_pure ?_)))
    exact hR i vb _ _ hvb (fun j' hj' => hbest j' (by omega)) (butS F1 s1)
  | succ r ih =>
    intro j i h tk vb tb c hr hj F nS hit hvb hij hbest
    have hlt : j + 1 < vs.length := by omega
    refine codeAny_builtin PySem.F.entry_min_loop ?_
    rw [Around.under_plainId PySem.F.plain_min_loop _]
    show wpAny _ A.in1 (seqItems? (.ref S) >>= _) _ _ _
    refine wpAny_bind (wpAny_seqItems nS rfl ?_)
    show wpAny _ A.in1 (tryCatch (pyNext (.ref I)) _ >>= _) _ _ _
    refine wpAny_bind (wpAny_tryCatch (W.item (j + 1) _ _ _ (by rw [hsz]; exact hlt) ⟨hit, lst F⟩ fun v h' tk' hP hst' hk' => ?_))
    have hv : vs[j + 1]? = some v := by simpa using hP
    have F1 := but F hk'
    have nS1 := hk' S _ (by simpa using hSI) nS
    show wpAny _ A.in1 (tryCatch (holding [v] (call (.builtin "len") [v])) _ >>= _) _ _ _
    refine wpAny_bind (wpAny_tryCatch (wpAny_holding (len_at hi hz hv fun t2 tk2 => ?_)))
    have hit2 : h'.IsListIter I l (j + 1 + 1) := hst'.1
    show wpAny _ A.in1 (tryCatch (holding [v, .int (kf xs (j + 1)) t2] (richCompare .Lt (.int (kf xs (j + 1)) t2) (.int (kf xs i) tb) >>= _)) _ >>= _) _ _ _
    refine wpAny_bind (wpAny_tryCatch (wpAny_holding (wpAny_bind (CmpOf.ints_lt (prog := prog) (w := w) (A := A.in1) (P := fun i v => ∃ t, v = .int (kf xs i) t) (kf xs) (fun i v h => h) (j + 1) i _ _ _ _ _ ⟨t2, rfl⟩ ⟨tb, rfl⟩ ?_))))
    refine wpAny_bind (wpAny_holding (wpAny_truthy_bool ?_))
    refine wpAny_bind (wpAny_letGo (wpAny_pure ?_))
    by_cases hb' : kf xs (j + 1) < kf xs i
    · have s1 := Heap.SameBut.update h' S (Obj.mapSeq fun _ => #[v, .int (kf xs (j + 1)) t2])
      obtain ⟨c2, hc2⟩ : ∃ c2, (h'.update S (Obj.mapSeq fun _ => #[v, .int (kf xs (j + 1)) t2])).get? S = some (seqObj "list" #[v, .int (kf xs (j + 1)) t2] c2) := ⟨_, get?_update_seq nS1 fun _ => #[v, .int (kf xs (j + 1)) t2]⟩
      simp only [hb', decide_true, if_true]
      refine wpAny_bind ?_
      refine wpAny_updateSeq nS1 rfl (wpAny_bind (wpAny_letGo ?_))
      rw [hname]
      obtain ⟨oI', hoI', hoc, hod⟩ := hit2
      refine wpAny_pure ⟨plainId_quiet PySem.F.plain_min_loop _, ih (j + 1) (j + 1) _ _ v t2 c2 (by omega) hlt (butS F1 s1) hc2 ⟨oI', (s1.2 I hSI.symm).trans hoI', hoc, hod⟩ hv (Nat.le_refl _) fun j' hj' => ?_⟩
      by_cases e : j' = j + 1
      · subst e
        exact ⟨by omega, fun _ => by omega⟩
      · have hb1 := hbest j' (by omega)
        have hb2 := hb1.1
        exact ⟨by omega, fun _ => by omega⟩
    · simp only [hb', decide_false, Bool.false_eq_true, if_false]
      refine wpAny_bind (wpAny_letGo ?_)
      rw [hname]
      refine wpAny_pure ⟨plainId_quiet PySem.F.plain_min_loop _, ih (j + 1) i _ _ vb tb c (by omega) hlt F1 nS1 hit2 hvb (by omega) fun j' hj' => ?_⟩
      by_cases e : j' = j + 1
      · subst e
        exact ⟨by omega, fun _ => by omega⟩
      · exact hbest j' (by omega)
theorem min_len (hh : A.handled = none) (hi : StrsAre vs xs) (hz : ∀ x ∈ xs, ¬ (x.length : Int) ≥ 2 ^ 63) (hl : s.heap.IsList l vs.toArray) (hne : 0 < vs.length)
    (hQ : ∀ i v h' tk', vs[i]? = some v → (∀ j, j < vs.length → kf xs i ≤ kf xs j ∧ (j < i → kf xs i < kf xs j)) → Kept s.heap h' → Q v { s with heap := h', toks := tk' }) :
    wpAny (model prog w) A (call (.builtin "min") [.ref l] [(Str.ofString "key", .builtin "len")]) Q E s := by
  have hname : (toString "min" ++ toString ".loop" : String) = "min.loop" := by decide
  obtain ⟨ol, hol, _⟩ := id hl
  have hll : l < s.heap.objs.size := Heap.lt_size hol
  refine kmb_tree PySem.F.kind_min PySem.F.plain_min PySem.F.entry_min (kmb_min_key _ _) ?_
  show wpAny _ A.in1 (Builtin.Builtins.bindParams "min" ["key", "default"] 0 ⟨[], [(Str.ofString "key", .builtin "len")]⟩ >>= _) _ _ s
  refine wpAny_bind (wpAny_of_eq (show Builtin.Builtins.bindParams "min" ["key", "default"] 0 ⟨[], [(Str.ofString "key", .builtin "len")]⟩ = pure [some (.builtin "len"), none] from rfl) ?_)
  refine wpAny_bind (wpAny_pure ?_)
  refine wpAny_bind (wpAny_pyIter_list hl ?_)
  refine wpAny_bind (wpAny_newList ?_ (Nat.zero_le _))
  rw [hname]
  have hS : (s.heap.push { cls := .type "list_iterator", data := .fields #[.ref l, .int 0 0] }).objs.size = s.heap.objs.size + 1 := size_push' ..
  have hlI : l ≠ s.heap.objs.size := Nat.ne_of_lt hll
  have hSI : (s.heap.push { cls := .type "list_iterator", data := .fields #[.ref l, .int 0 0] }).objs.size ≠ s.heap.objs.size := by rw [hS]; exact Nat.ne_of_gt (Nat.lt_succ_self _)
  refine wpAny_pure ⟨plainId_quiet PySem.F.plain_min_loop _, ?_⟩
  have F0 : Kept s.heap ((s.heap.push { cls := .type "list_iterator", data := .fields #[.ref l, .int 0 0] }).push (seqObj "list" #[] 0)) := fun b o e => Heap.get?_push_of_some _ (Heap.get?_push_of_some _ e)
  have gI : ((s.heap.push { cls := .type "list_iterator", data := .fields #[.ref l, .int 0 0] }).push (seqObj "list" #[] 0)).get? s.heap.objs.size = some { cls := .type "list_iterator", data := .fields #[.ref l, .int 0 0] } :=
    Heap.get?_push_of_some _ (Heap.get?_push_size _ rfl)
  have gS : ((s.heap.push { cls := .type "list_iterator", data := .fields #[.ref l, .int 0 0] }).push (seqObj "list" #[] 0)).get? (s.heap.push { cls := .type "list_iterator", data := .fields #[.ref l, .int 0 0] }).objs.size = some (seqObj "list" #[] 0) := Heap.get?_push_size _ rfl
  have nI : s.heap.get? s.heap.objs.size = none := Heap.get?_none_of_le (Nat.le_refl _)
  have nSS : s.heap.get? (s.heap.push { cls := .type "list_iterator", data := .fields #[.ref l, .int 0 0] }).objs.size = none := Heap.get?_none_of_le (by rw [hS]; exact Nat.le_succ _)
  have W := Walks.list (prog := prog) (w := w) (A := A.in1) hh s.heap.objs.size l hlI vs.toArray
  have hsz : vs.toArray.size = vs.length := List.size_toArray ..
  refine codeAny_builtin PySem.F.entry_min_loop ?_
  rw [Around.under_plainId PySem.F.plain_min_loop _]
  show wpAny _ A.in1 (seqItems? (.ref _) >>= _) _ _ _
  refine wpAny_bind (wpAny_seqItems gS rfl ?_)
  show wpAny _ A.in1 (tryCatch (pyNext (.ref s.heap.objs.size)) _ >>= _) _ _ _
  refine wpAny_bind (wpAny_tryCatch (W.item 0 _ _ _ (by rw [hsz]; exact hne) ⟨⟨_, gI, rfl, rfl⟩, hl.at fun o e => F0 l o e⟩ fun v h' tk' hP hst' hk' => ?_))
  have hv : vs[0]? = some v := by simpa using hP
  have F1 : Kept s.heap h' := fun b o e => hk' b o (fun z => by rw [List.mem_singleton.mp z, nI] at e; cases e) (F0 b o e)
  have nS1 := hk' _ _ (by simpa using hSI) gS
  show wpAny _ A.in1 (tryCatch (holding [v] (call (.builtin "len") [v])) _ >>= _) _ _ _
  refine wpAny_bind (wpAny_tryCatch (wpAny_holding (len_at hi hz hv fun t2 tk2 => ?_)))
  have s1 := Heap.SameBut.update h' (s.heap.push { cls := .type "list_iterator", data := .fields #[.ref l, .int 0 0] }).objs.size (Obj.mapSeq fun _ => #[v, .int (kf xs 0) t2])
  obtain ⟨c2, hc2⟩ : ∃ c2, (h'.update (s.heap.push { cls := .type "list_iterator", data := .fields #[.ref l, .int 0 0] }).objs.size (Obj.mapSeq fun _ => #[v, .int (kf xs 0) t2])).get? (s.heap.push { cls := .type "list_iterator", data := .fields #[.ref l, .int 0 0] }).objs.size = some (seqObj "list" #[v, .int (kf xs 0) t2] c2) := ⟨_, get?_update_seq nS1 fun _ => #[v, .int (kf xs 0) t2]⟩
  show wpAny _ A.in1 (updateSeq (s.heap.push { cls := .type "list_iterator", data := .fields #[.ref l, .int 0 0] }).objs.size (fun _ => #[v, .int (kf xs 0) t2]) >>= _) _ _ _
  refine wpAny_bind ?_
  refine wpAny_updateSeq nS1 rfl ?_
  rw [hname]
  obtain ⟨oI', hoI', hoc, hod⟩ := hst'.1
  refine wpAny_pure ⟨plainId_quiet PySem.F.plain_min_loop _, loop hh hi hz hl nI nSS hSI hQ _ 0 0 _ _ v t2 c2 rfl hne (fun b o e => (s1.2 b (fun z => by rw [z, nSS] at e; cases e)).trans (F1 b o e)) hc2 ⟨oI', (s1.2 _ hSI.symm).trans hoI', hoc, hod⟩ hv (Nat.le_refl _) fun j' hj' => ?_⟩
  have e : j' = 0 := by omega
  subst e
  exact ⟨by omega, fun h => absurd h (Nat.lt_irrefl _)⟩
end
/-- the first of the shortest -/
def minL (xs : List Str) : Option Str := xs.find? fun x => xs.all fun y => decide (x.length ≤ y.length)
theorem minL_of {xs : List Str} {i : Nat} {x : Str} (hx : xs[i]? = some x) (hb : ∀ j, j < xs.length → kf xs i ≤ kf xs j ∧ (j < i → kf xs i < kf xs j)) : minL xs = some x := by
  have kv : ∀ {j : Nat} {y : Str}, xs[j]? = some y → kf xs j = (y.length : Int) := fun {j y} e => by unfold kf; rw [List.getD_eq_getElem?_getD, e]; rfl
  obtain ⟨lt, e⟩ := List.getElem?_eq_some_iff.mp hx
  unfold minL
  rw [List.find?_eq_some_iff_getElem]
  refine ⟨List.all_eq_true.mpr fun y hy => ?_, i, lt, e, fun j hj => ?_⟩
  · obtain ⟨j, hj, ej⟩ := List.getElem_of_mem hy
    have := (hb j hj).1
    rw [kv hx, kv (List.getElem?_eq_some_iff.mpr ⟨hj, ej⟩)] at this
    exact decide_eq_true (by omega)
  · have h2 := (hb j (by omega)).2 hj
    rw [kv hx, kv (List.getElem?_eq_getElem (by omega))] at h2
    rw [Bool.not_eq_true', List.all_eq_false]
    refine ⟨x, by rw [← e]; exact List.getElem_mem lt, ?_⟩
    simp only [decide_eq_true_eq]
    omega
end ML
namespace L2
open PySem PySem.Spec PyProof.Rows
def tMinLen (K : PySem.W.Frag) (ta : TE) : TE := fun σ H Q => ta σ H fun x H1 => ∃ (l : Addr) (xs : List Str), x = .ref l ∧ SqL K H1 l (xs.map V.str) ∧ xs ≠ [] ∧ (∀ x ∈ xs, x.length ≤ 16777216) ∧ ∀ x, ML.minL xs = some x → Q (.str x) H1
section
variable {X : Cx}
theorem pe_minLen {a : Expr} {ta : TE} {p p2 kpos pos : Pos} (hc : X.calm = true) (hg : Gl X "min") (hm : X.mg "min" = none) (hg2 : Gl X "len") (hm2 : X.mg "len" = none) (ha : PE X a ta)
    (he : backTo pos (starEach [a] X.env) = (false, eval a X.env) :: backTo pos (starEach [] X.env) := by rfl) (hs : starEach [a] X.env = (false, eval a X.env) :: starEach [] X.env := by rfl) (hpl : (backTo pos (starEach [a] X.env)).any (·.1) = false := by rfl)
    (hall : (backToKw pos (keywordEach [⟨some "key", .Name "len" p2, kpos⟩] X.env)).all (·.1.isSome) = true := by rfl) (hnone : (backToKw pos (keywordEach [⟨some "key", .Name "len" p2, kpos⟩] X.env)).any (·.1.isNone) = false := by rfl) (hks : (backToKw pos (keywordEach [⟨some "key", .Name "len" p2, kpos⟩] X.env)).filterMap (·.1) = [Str.ofString "key"] := by rfl) :
    PE X (.Call (.Name "min" p) [a] [⟨some "key", .Name "len" p2, kpos⟩] pos) (tMinLen X.K ta) := by
  refine ⟨fun pins s σ H Q I h => ?_⟩
  refine wpAny_Call_Name_kw (ld_blt I hg hm boot_min ?_)
  refine PyProof.Rows.callWith_kw (thn ((pa_cons ha pa_nil hs).run pos pins s σ H (fun vs H1 => match vs with | [x] => ∃ (l : Addr) (xs : List Str), x = .ref l ∧ SqL X.K H1 l (xs.map V.str) ∧ xs ≠ [] ∧ (∀ x ∈ xs, x.length ≤ 16777216) ∧ ∀ x, ML.minL xs = some x → Q (.str x) H1 | _ => False) I h) fun us s1 ⟨vs, H1, I1, r1, q1⟩ => ?_) he hpl hall hnone
  match vs, q1, r1 with
  | [x], q1, r1 =>
    obtain ⟨l, xs, rfl, hl, hne, hz, q1⟩ := q1
    rw [Vals.ref1 r1, hks]
    show wpAny _ _ (evalAll ((do let v ← eval (.Name "len" p2) X.env; standAt pos; pure v) :: [])) _ _ s1
    refine wpAny_evalAll_cons (wpAny_bind ((L2.pf_bltn hg2 hm2 boot_len).run pins s1 σ H1 _ I1 fun s2 I2 => wpAny_bind (wpAny_standAt (wpAny_pure (wpAny_evalAll_nil ?_)))))
    obtain ⟨its, rv, pl, hs⟩ := I2.list hl
    have hi := rv.strs
    refine ML.min_len (I2.ok.hd hc) hi (fun x hx => by have := hz x hx; omega) pl.isList (by rw [← rv.length, List.length_map]; exact List.length_pos_iff.mpr hne) fun i v h' tk' hv hb hk => ?_
    have lx : its.length = xs.length := StrsAre.len_eq hi
    have lt : i < xs.length := by rw [← lx]; exact (List.getElem?_eq_some_iff.mp hv).1
    obtain ⟨t, e⟩ := SS.strs_at hi i v hv
    have ex : xs.getD i Str.empty = xs[i]'lt := by rw [List.getD_eq_getElem?_getD, List.getElem?_eq_getElem lt]; rfl
    rw [e, ex]
    exact ⟨.str _, H1, I2.kept hk, ⟨t, rfl⟩, q1 _ (ML.minL_of (List.getElem?_eq_getElem lt) (by rw [← lx]; exact hb))⟩
end
end L2
namespace DL
open PySem PySem.Spec PyProof.Rows L2
def semMinLen : List C → Option C
  | [a] => match a.data with
    | some (.list ds) => match strsOf ds with
      | some ts => match ML.minL ts with
        | some x => some (.fz (.str x))
        | none => none
      | none => none
    | _ => none
  | _ => none
section
variable {K : PySem.W.Frag} {bad : Addr → Prop} {H : Hp} {X : Cx}
theorem ok_minLen : Ok K (r1 fun x H Q => ∃ (l : Addr) (xs : List Str), x = .ref l ∧ SqL K H l (xs.map V.str) ∧ xs ≠ [] ∧ (∀ x ∈ xs, x.length ≤ 16777216) ∧ ∀ x, ML.minL xs = some x → Q (.str x) H) semMinLen := by
  refine OkL1 (fun cs h => ?_) fun bad H x a c Q trk ra hs q => ?_
  · match cs, h with
    | [_], _ => rfl
    | [], h => exact absurd rfl h
    | _ :: _ :: _, h => exact absurd rfl h
  · simp only [semMinLen] at hs
    split at hs
    · rename_i ds ha
      split at hs
      · rename_i ts ht
        split at hs
        · rename_i z hz
          cases hs
          obtain ⟨a1, v1, rfl, h1, f1⟩ := see_list ha ra
          rw [strsOf_eq ht] at f1
          have e := f1.of_strs
          subst e
          intro x' ex
          cases ex
          have ok := strs_ok f1
          refine ⟨a1, ts, rfl, SqL.of h1, (fun z2 => by rw [z2] at hz; cases hz), fun y hy => (okS_iff.mp (ok y hy)).2, fun y hy => ?_⟩
          rw [hz] at hy
          cases hy
          exact q _ _ Ext.refl ⟨rfl, ok z (List.mem_of_find?_eq_some hz)⟩
        · cases hs
      · cases hs
    · cases hs
theorem pd_minLen {a : Expr} {fa : FO} {p p2 kpos pos : Pos} (ha : PDO X a fa) (hc : X.calm = true) (hg : Gl X "min") (hm : X.mg "min" = none) (hg2 : Gl X "len") (hm2 : X.mg "len" = none)
    (he : backTo pos (starEach [a] X.env) = (false, eval a X.env) :: backTo pos (starEach [] X.env) := by rfl) (hs : starEach [a] X.env = (false, eval a X.env) :: starEach [] X.env := by rfl) (hpl : (backTo pos (starEach [a] X.env)).any (·.1) = false := by rfl)
    (hall : (backToKw pos (keywordEach [⟨some "key", .Name "len" p2, kpos⟩] X.env)).all (·.1.isSome) = true := by rfl) (hnone : (backToKw pos (keywordEach [⟨some "key", .Name "len" p2, kpos⟩] X.env)).any (·.1.isNone) = false := by rfl) (hks : (backToKw pos (keywordEach [⟨some "key", .Name "len" p2, kpos⟩] X.env)).filterMap (·.1) = [Str.ofString "key"] := by rfl) :
    PD X (.Call (.Name "min" p) [a] [⟨some "key", .Name "len" p2, kpos⟩] pos) (dOp semMinLen [fa]) :=
  PEimp (pe_minLen hc hg hm hg2 hm2 ha he hs hpl hall hnone hks) fun σ H Q h => tOs_one (dOp_imp ok_minLen h)
end
end DL
namespace LW
open DL PySem L2
/-- the first of the shortest words -/
def minW (ws : List (List Nat)) : Option (List Nat) := (ML.minL (ws.map sS)).map fun t => t.cps.toList
theorem minLen_ok (ws : List (List Nat)) (c : C) (hc : c.data = some (.list (ws.map S))) (w : List Nat) (h : minW ws = some w) : semMinLen [c] = some (.fz (S w)) := by
  unfold minW at h
  simp only [semMinLen, hc, strsOf_S]
  cases e : ML.minL (ws.map sS) with
  | none => rw [e] at h; cases h
  | some x =>
    rw [e] at h
    cases h
    rfl
theorem minW_some {ws : List (List Nat)} (h : ws ≠ []) : ∃ w, minW ws = some w ∧ w ∈ ws ∧ ∀ v ∈ ws, w.length ≤ v.length := by
  have key : ∀ l : List (List Nat), l ≠ [] → ∃ w ∈ l, ∀ v ∈ l, w.length ≤ v.length := fun l => by
    induction l with
    | nil => exact fun z => absurd rfl z
    | cons a l ih =>
      intro _
      by_cases e : l = []
      · subst e
        exact ⟨a, by simp, fun v hv => by simp at hv; rw [hv]; exact Nat.le_refl _⟩
      · obtain ⟨w, hw, hb⟩ := ih e
        by_cases c : a.length ≤ w.length
        · exact ⟨a, by simp, fun v hv => (List.mem_cons.mp hv).elim (fun z => by rw [z]; exact Nat.le_refl _) fun z => Nat.le_trans c (hb v z)⟩
        · exact ⟨w, List.mem_cons_of_mem _ hw, fun v hv => (List.mem_cons.mp hv).elim (fun z => by rw [z]; omega) fun z => hb v z⟩
  obtain ⟨w, hw, hb⟩ := key ws h
  have sl : ∀ v : List Nat, (sS v).length = v.length := fun v => rfl
  cases e : ML.minL (ws.map sS) with
  | none =>
    unfold ML.minL at e
    have := List.find?_eq_none.mp e (sS w) (List.mem_map.mpr ⟨w, hw, rfl⟩)
    refine absurd ?_ this
    refine List.all_eq_true.mpr fun y hy => ?_
    obtain ⟨v, hv, rfl⟩ := List.mem_map.mp hy
    exact decide_eq_true (hb v hv)
  | some x =>
    have m := List.mem_of_find?_eq_some e
    have p := List.find?_some e
    obtain ⟨u, hu, rfl⟩ := List.mem_map.mp m
    refine ⟨u, by unfold minW; rw [e]; rfl, hu, fun v hv => ?_⟩
    have := List.all_eq_true.mp p (sS v) (List.mem_map.mpr ⟨v, hv, rfl⟩)
    exact of_decide_eq_true this
end LW
set_option Elab.async false
set_option linter.all false
set_option maxRecDepth 100000
set_option maxHeartbeats 4000000
/-! own dicts: {}, d[k] = x, sorted(d) -/
namespace DL
open PySem PySem.Spec PyProof.Rows L2
section
variable {K : PySem.W.Frag} {B B' : Addr → Prop} {H H' H1 H2 : Hp} {σ σ' σ1 σ2 : L2.St} {env env' e1 e2 : Ev} {c : C} {v x : V} {X : Cx} {d : D} {fl : Fl} {D : Ends} {i : Nat} {a : Addr}
/-- slot i's own thing is changed -/
theorem Sta.mutateG {dn : PyData} {on : HO} {r : PyData} (S : Sta K B H σ env) (h : env[i]? = some (some c)) (ho : c.isOwn = true) (hv : σ[i]? = some (some (.ref a)))
    (hy : Fr (Bad B σ env) H (upd H a on) → ∀ B' : Addr → Prop, (∀ b, B' b → Bad B σ env b) → Own K B' (upd H a on) dn a) (hr : Fz K (Bad B σ env) H r v) : PostE K B H σ env (.fz r) (env.set i (some (c.put dn))) v (upd H a (on)) := by
  have own : Owns σ env i a := ⟨c, h, ho, hv⟩
  obtain ⟨o, ha, hm⟩ := S.mut own
  have hi : i < env.length := (List.getElem?_eq_some_iff.mp h).1
  have sh : ∀ j b, Owns σ (env.set i (some (c.put dn))) j b → Owns σ env j b := fun j b ⟨c', e1, e2, e3⟩ => by
    rcases set_some e1 with ⟨n, q⟩ | ⟨n, q⟩
    · cases q
      subst n
      exact ⟨c, h, by rw [← C.put_own]; exact e2, e3⟩
    · exact ⟨c', q, e2, e3⟩
  have bb : ∀ b, Bad B σ (env.set i (some (c.put dn))) b → Bad B σ env b := fun b q => q.elim .inl fun ⟨j, z⟩ => .inr ⟨j, sh j b z⟩
  have fr : Fr (Ownd σ env) H (upd H a (on)) := fun b u hb hn => by
    by_cases e : b = a
    · subst e
      rw [ha] at hb
      cases hb
      exact absurd hm (hn ⟨i, own⟩)
    · rw [upd_ne e]
      exact hb
  have frB : Fr (Bad B σ env) H (upd H a (on)) := fr.mono fun _ z => .inr z
  have st : Sta K B (upd H a (on)) σ (env.set i (some (c.put dn))) := by
    refine ⟨by rw [List.length_set]; exact S.len, fun b z => ?_, fun j c' e => ?_, fun j k b q q' => S.inj j k b (sh j b q) (sh k b q'), fun j b q => S.out j b (sh j b q)⟩
    · by_cases e : b = a
      · subst e
        exact absurd z (S.out i b own)
      · rw [upd_ne e]
        exact S.trk b z
    · rcases set_some e with ⟨n, q⟩ | ⟨n, q⟩
      · cases q
        subst n
        refine ⟨_, hv, ?_⟩
        have nw : Own K (Bad B σ (env.set j (some (c.put dn)))) (upd H a (on)) dn a := hy frB _ bb
        cases c with
        | ow d => exact ⟨a, rfl, nw⟩
        | pw d => exact ⟨a, rfl, nw⟩
        | fz d => cases ho
        | sc d => cases ho
      · obtain ⟨v2, e2, r2⟩ := S.rep j c' q
        refine ⟨v2, e2, r2.mono frB (fun b z _ => bb b z) fun b u ho2 hv2 hb => ?_⟩
        rw [upd_ne]
        · exact hb
        · intro e
          subst e
          subst hv2
          exact n (S.inj j i b ⟨c', q, ho2, e2⟩ own)
  refine ⟨fr, sh, st.less fun b q => q.fz, (Fz.mono frB (fun b z _ => bb b z) hr : Fz K _ _ r v).as fun b q => q.elim (fun z => .inl z.fz) .inr, fun a z => (by cases z.1), fun a z => (by cases z.1), fun j ⟨c', q⟩ => ?_, fun j d' q => ?_, rfl⟩
  · by_cases e : i = j
    · subst e
      exact ⟨c.put dn, by rw [List.getElem?_set_self hi]⟩
    · exact ⟨c', by rw [List.getElem?_set_ne e]; exact q⟩
  · by_cases e : i = j
    · subst e
      rw [h] at q
      cases q
      exact ⟨_, by rw [List.getElem?_set_self hi]; rfl⟩
    · exact ⟨d', by rw [List.getElem?_set_ne e]; exact q⟩

end
def ownD (env : Ev) (i : Nat) : Option (C × List (PyData × PyData)) := match env[i]? with
  | some (some (.ow (.dict ps))) => some (.ow (.dict ps), ps)
  | some (some (.pw (.dict ps))) => some (.pw (.dict ps), ps)
  | _ => none
/-- d[k] = x, of the pairs -/
noncomputable def putD (ps : List (PyData × PyData)) (k d : PyData) : List (PyData × PyData) :=
  if (ps.any fun p => fits (p.1 = k)) = true then ps.map (fun p => if fits (p.1 = k) then (p.1, d) else p) else ps ++ [(k, d)]
/-- keys of one kind -/
def kindK (ps : List (PyData × PyData)) : Bool := ps.all fun p => (keyOf p.1).isSome
def dDict0 : FE := fun env => some (.ow (.dict []), env)
noncomputable def dSetKey (i : Nat) (fv fi : FO) : FS := fun env => match ownD env i with
  | some _ => match dOs [fv, fi] env with
    | some (os, e1) => match valDatas os with
      | some [dv, k] => match ownD e1 i with
        | some (c, ps) => if fits (ps.length < 16777216 ∧ (keyOf k).isSome = true ∧ kindK ps = true) then some (.nx, e1.set i (some (c.put (.dict (putD ps k dv))))) else none
        | none => none
      | _ => none
    | none => none
  | none => none
theorem keyOf_inj {a b : PyData} {q : Key} (h : keyOf a = some q) (g : keyOf b = some q) : a = b := by
  cases a <;> simp [keyOf] at h <;> cases b <;> simp [keyOf] at g
  · rw [← g] at h; cases h; rfl
  · obtain ⟨_, g⟩ := g
    rw [← g] at h
    cases h
  · obtain ⟨_, h⟩ := h
    rw [← g] at h
    cases h
  · obtain ⟨_, h⟩ := h
    obtain ⟨_, g⟩ := g
    rw [← g] at h
    cases h
    rfl
section
variable {K : PySem.W.Frag} {bad : Addr → Prop} {H : Hp} {X : Cx} {c : C} {v : V}
theorem FzD.len : ∀ {ps : List (PyData × PyData)} {kvs : List (Key × V)}, FzD K bad H ps kvs → kvs.length = ps.length
  | [], _, h => by cases (show _ = _ from h); rfl
  | (k, d) :: ps, _, ⟨q, v, r, rfl, _, _, h⟩ => by rw [List.length_cons, List.length_cons, FzD.len h]
theorem fits_key {a b : PyData} {q q' : Key} (h : keyOf a = some q') (g : keyOf b = some q) : fits (a = b) = decide (q' = q) := by
  by_cases e : q' = q
  · subst e
    rw [decide_eq_true rfl]
    exact fits_of (keyOf_inj h g)
  · rw [decide_eq_false e]
    cases f : fits (a = b) with
    | false => rfl
    | true =>
      have := of_fits f
      subst this
      rw [h] at g
      cases g
      exact absurd rfl e
theorem FzD.any {k : PyData} {q : Key} (hk : keyOf k = some q) : ∀ {ps : List (PyData × PyData)} {kvs : List (Key × V)}, FzD K bad H ps kvs → (ps.any fun p => fits (p.1 = k)) = kvs.any fun kv => decide (kv.1 = q)
  | [], _, h => by cases (show _ = _ from h); rfl
  | (k', d) :: ps, _, ⟨q', v, r, rfl, h1, _, h⟩ => by
    rw [List.any_cons, List.any_cons, FzD.any hk h, fits_key h1 hk]
theorem FzD.repl {k d : PyData} {q : Key} {v : V} (hk : keyOf k = some q) (hd : Fz K bad H d v) : ∀ {ps : List (PyData × PyData)} {kvs : List (Key × V)}, FzD K bad H ps kvs → FzD K bad H (ps.map fun p => if fits (p.1 = k) then (p.1, d) else p) (kvs.map fun kv => if kv.1 = q then (kv.1, v) else kv)
  | [], _, h => by cases (show _ = _ from h); rfl
  | (k', d') :: ps, _, ⟨q', v', r, rfl, h1, h2, h⟩ => by
    have t := FzD.repl hk hd h
    rw [List.map_cons, List.map_cons]
    have e := fits_key h1 hk
    by_cases c : q' = q
    · rw [decide_eq_true c] at e
      rw [if_pos e, if_pos c]
      exact ⟨q', v, _, rfl, h1, hd, t⟩
    · rw [decide_eq_false c] at e
      rw [if_neg (by simp only [e]; decide), if_neg c]
      exact ⟨q', v', _, rfl, h1, h2, t⟩
theorem FzD.snoc {k d : PyData} {q : Key} {v : V} (hk : keyOf k = some q) (hd : Fz K bad H d v) : ∀ {ps : List (PyData × PyData)} {kvs : List (Key × V)}, FzD K bad H ps kvs → FzD K bad H (ps ++ [(k, d)]) (kvs ++ [(q, v)])
  | [], _, h => by cases (show _ = _ from h); exact ⟨q, v, [], rfl, hk, hd, rfl⟩
  | (k', d') :: ps, _, ⟨q', v', r, rfl, h1, h2, h⟩ => ⟨q', v', _, rfl, h1, h2, FzD.snoc hk hd h⟩
theorem FzD.put {k d : PyData} {q : Key} {v : V} (hk : keyOf k = some q) (hd : Fz K bad H d v) {ps : List (PyData × PyData)} {kvs : List (Key × V)} (h : FzD K bad H ps kvs) : FzD K bad H (putD ps k d) (putK kvs q v) := by
  unfold putD putK
  rw [FzD.any hk h]
  split
  · exact FzD.repl hk hd h
  · exact FzD.snoc hk hd h
theorem pd_dict0 {pos : Pos} : PD X (.Dict [] [] pos) dDict0 := PEimp pe_dnewK fun σ H Q ⟨B, env, c, env', S, hf, q⟩ p hp => by
  cases hf
  exact q _ _ (PostE.new S (Ext.new hp) ⟨p, rfl, hp, .inl ⟨[], upd_same, rfl⟩⟩)
def rSetD : V → V → V → Hp → (Hp → Prop) → Prop := fun o i v H Q => ∃ p H', o = .ref p ∧ DPut H p i v H' ∧ Q H'
theorem set_dict (hu : X.A.units + 1 < cLine) : PSet X rSetD := by
  intro pins s σ H o i v ov iv u Q I ro ri rv h
  obtain ⟨p, H', rfl, g, q⟩ := h
  cases ro
  exact d_setItem hu I g ri rv fun s' I' => ⟨H', I', q⟩
theorem ownD_own {ps : List (PyData × PyData)} {env : Ev} {i : Nat} (h : ownD env i = some (c, ps)) : env[i]? = some (some c) ∧ c.isOwn = true ∧ c.data = some (.dict ps) := by
  unfold ownD at h
  split at h
  · rename_i e
    cases h
    exact ⟨e, rfl, rfl⟩
  · rename_i e
    cases h
    exact ⟨e, rfl, rfl⟩
  · cases h
theorem kindK_not {ps : List (PyData × PyData)} {kvs : List (List Key × V)} (h : FzT K bad H ps kvs) (n : ps ≠ []) (k : kindK ps = true) : False := by
  match ps, h, n, k with
  | (k', d) :: ps, ⟨q, v, r, _, h1, _⟩, _, k =>
    unfold kindK at k
    rw [List.all_cons, Bool.and_eq_true] at k
    cases k' <;> simp [tkeyOf] at h1 <;> simp [keyOf] at k
theorem Sta.ownD {B : Addr → Prop} {σ : L2.St} {env : Ev} {i : Nat} {ps : List (PyData × PyData)} (S : Sta K B H σ env) (h : DL.ownD env i = some (c, ps)) : ∃ a, σ[i]? = some (some (.ref a)) ∧ Owns σ env i a ∧ Own K (Bad B σ env) H (.dict ps) a := by
  obtain ⟨h1, h2, h3⟩ := ownD_own h
  obtain ⟨v, ev, r⟩ := S.rep i c h1
  cases c with
  | ow d =>
    cases h3
    obtain ⟨a, rfl, h4⟩ := r
    exact ⟨a, ev, ⟨_, h1, rfl, ev⟩, h4⟩
  | pw d =>
    cases h3
    obtain ⟨a, rfl, h4⟩ := r
    exact ⟨a, ev, ⟨_, h1, rfl, ev⟩, h4⟩
  | fz d => cases h2
  | sc d => cases h2
theorem key_rep {k : PyData} {q : Key} {v : V} (h : Fz K bad H k v) (e : keyOf k = some q) : v = kV q := by
  cases k <;> simp [keyOf] at e
  · subst e
    exact h
  · obtain ⟨_, e⟩ := e
    subst e
    exact h.1
theorem pds_setKey {x : Str} {i : Nat} {p pos tpos : Pos} {ei ev : Expr} {fv fi : FO} (hu : X.A.units + 1 < cLine) (ho : PE X (.Name x p) (tVar i)) (hi : PDO X ei fi) (hv : PDO X ev fv) (ha : ∀ v, assign (.Subscript (.Name x p) ei tpos) X.env v = (do
      let ov ← holding [v] (eval (.Name x p) X.env)
      let iv ← holding [v, ov] (eval ei X.env)
      standAt tpos
      holding [v, ov, iv] (setItem ov iv v)
      release [v, ov, iv] []) := by intro _; rfl)
    (hs : swapsWithSole [.Subscript (.Name x p) ei tpos] ev pos.line X.env = pure false := by rfl) (hw : swappedStores [.Subscript (.Name x p) ei tpos] ev X.env = pure none := by rfl)
    (h1 : (assignEach [.Subscript (.Name x p) ei tpos] X.env).map (·.2) = [assign (.Subscript (.Name x p) ei tpos) X.env] := by rfl) :
    PDS X (.Assign [.Subscript (.Name x p) ei tpos] ev pos) (dSetKey i fv fi) := PSimp (ps_asg hv (pg_sub ho hi (set_dict hu) ha) hs hw h1) fun D σ H ⟨B, env, fl, env', S, hf, q⟩ => by
  unfold dSetKey at hf
  split at hf
  · rename_i cd0 h0
    split at hf
    · rename_i os e1 hos
      split at hf
      · rename_i dv k has
        split at hf
        · rename_i c1 ps h1'
          split at hf
          · rename_i hk
            cases hf
            obtain ⟨hl, hk, kind⟩ := of_fits hk
            obtain ⟨q', hq⟩ := Option.isSome_iff_exists.mp hk
            obtain ⟨c0, ds0⟩ := cd0
            obtain ⟨a, ha, _, _⟩ := S.ownD h0
            have go : tOs X.K [fv, fi] σ H fun vs H1 => ∀ y z, vs = [y, z] → rSetD (.ref a) z y H1 fun H4 => D.nx σ H4 := by
              refine ⟨B, env, os, e1, S, hos, fun vs H1 p y z e => ?_⟩
              subst e
              obtain ⟨a1, ha1, own1, hx1⟩ := p.staB.ownD h1'
              rw [ha] at ha1
              cases ha1
              have fz := p.frozen has
              obtain ⟨v1, r1, e1', f1, f2⟩ := fz
              cases e1'
              obtain ⟨v2, r2, e2', f2', f3⟩ := f2
              have e3 := key_rep f2' hq
              cases e2'
              rcases hx1 with ⟨kvs, g1, g2⟩ | ⟨kvs, g1, g2, g3⟩
              · obtain ⟨k1, k2, k3⟩ := ownD_own h1'
                refine ⟨a, upd H1 a (.dK (putK kvs q' y)), rfl, by rw [e3]; exact DPut.k g1 (by rw [g2.len, sizeLine_eq]; omega), ?_⟩
                refine q σ _ (PostS.of (p.eff.seq (p.staB.mutateG (r := .none) (v := .non) k1 k2 ha (fun fr B' hB => .inl ⟨_, upd_same, ?_⟩) rfl)))
                exact (FzD.put hq f1 g2).mono fr fun b z _ => hB b z
              · exact (kindK_not g3 g2 kind).elim
            have two := tOs_two go
            obtain ⟨B', env2, o2, e2, S2, h2, q2⟩ := two
            refine ⟨B', env2, o2, e2, S2, h2, fun x1 H1 p1 => ⟨.ref a, ha, ?_⟩⟩
            exact q2 x1 H1 p1
          · cases hf
        · cases hf
      · cases hf
    · cases hf
  · cases hf
/-! sorted(d) -/
noncomputable def semSortD : List C → Option C
  | [a] => match a.data with
    | some (.dict ps) => match strsOf (ps.map (·.1)) with
      | some ts => if fits (ts.length < 64 ∧ kindK ps = true) then some (.ow (.list ((TX.sortT ts).map .str))) else none
      | none => none
    | _ => none
  | _ => none
def rSortedD : List V → Hp → VK → Prop := fun xs H Q => ∃ (a : Addr) (kvs : List (Key × V)) (ks : List Str), xs = [.ref a] ∧ Rd H a (.dK kvs) ∧ kvs.map (·.1) = ks.map Sum.inr ∧ ks.length < 64 ∧
    ∀ ys p, ys.Perm ks → PyProof.Rows.sortedS ys = true → H p = none → Q (.ref p) (upd H p (.lst (ys.map V.str)))
theorem see_dict {ps : List (PyData × PyData)} (h : c.data = some (.dict ps)) (r : CRep K bad H c v) : ∃ a, v = .ref a ∧ ((∃ kvs, H a = some (.dK kvs) ∧ FzD K bad H ps kvs) ∨ ∃ kvs, H a = some (.dT kvs) ∧ ps ≠ [] ∧ FzT K bad H ps kvs) := by
  cases c with
  | fz d => cases h; obtain ⟨a, e, _, q⟩ := r; exact ⟨a, e, q⟩
  | ow d => cases h; exact r
  | pw d => cases h; exact r
  | sc d => cases h
theorem FzD.keys : ∀ {ps : List (PyData × PyData)} {kvs : List (Key × V)} {ts : List Str}, FzD K bad H ps kvs → strsOf (ps.map (·.1)) = some ts → kvs.map (·.1) = ts.map Sum.inr ∧ ∀ t ∈ ts, okS t = true
  | [], _, ts, h, e => by
    cases (show _ = _ from h)
    have : ts = [] := by simpa [strsOf] using e.symm
    subst this
    exact ⟨rfl, by simp⟩
  | (k, d) :: ps, _, ts, ⟨q, v, r, rfl, h1, _, h⟩, e => by
    rw [List.map_cons] at e
    cases k with
    | str x =>
      unfold strsOf at e
      split at e
      · rename_i rest he
        cases e
        obtain ⟨a, b⟩ := FzD.keys h he
        by_cases ok : okS x = true
        · simp only [keyOf, if_pos ok] at h1
          cases h1
          rw [List.map_cons, List.map_cons, a]
          exact ⟨rfl, fun t ht => (List.mem_cons.mp ht).elim (fun z => z ▸ ok) (b t)⟩
        · simp only [keyOf, if_neg ok] at h1
          cases h1
      · cases e
    | _ => simp [strsOf] at e
theorem rising_pair : ∀ {x : Str} {ys : List Str}, PyProof.Rows.risingS x ys = true → (x :: ys).Pairwise TX.leT
  | x, [], _ => by simp
  | x, y :: ys, h => by
    have h' : (!ltCps y.cps.toList x.cps.toList && PyProof.Rows.risingS y ys) = true := h
    rw [Bool.and_eq_true] at h'
    have t := rising_pair h'.2
    have le : TX.leT x y := by
      have := h'.1
      unfold TX.leT
      intro z
      rw [PyProof.Rows.ltCps_eq, decide_eq_true z] at this
      cases this
    refine List.pairwise_cons.mpr ⟨fun z hz => ?_, t⟩
    rcases List.mem_cons.mp hz with rfl | hz
    · exact le
    · have l2 := (List.pairwise_cons.mp t).1 z hz
      have a : x.cps.toList ≤ y.cps.toList := le
      have b : y.cps.toList ≤ z.cps.toList := l2
      exact (List.le_trans a b : x.cps.toList ≤ z.cps.toList)
theorem sorted_pair {ys : List Str} (h : PyProof.Rows.sortedS ys = true) : ys.Pairwise TX.leT := by
  cases ys with
  | nil => simp
  | cons y ys => exact rising_pair h
theorem ok_sortD : Ok K (rSortedD) semSortD := by
  refine OkL1 (fun cs h => ?_) fun bad H x a c Q trk ra hs q => ?_
  · match cs, h with
    | [_], _ => rfl
    | [], h => exact absurd rfl h
    | _ :: _ :: _, h => exact absurd rfl h
  · simp only [semSortD] at hs
    split at hs
    · rename_i ps ha
      split at hs
      · rename_i ts ht
        split at hs
        · rename_i hf
          obtain ⟨h64, kind⟩ := of_fits hf
          cases hs
          obtain ⟨a1, rfl, h1⟩ := see_dict ha ra
          rcases h1 with ⟨kvs, g1, g2⟩ | ⟨kvs, g1, g2, g3⟩
          · obtain ⟨k1, k2⟩ := g2.keys ht
            refine ⟨a1, kvs, ts, rfl, .inl g1, k1, h64, fun ys p py sy hp => ?_⟩
            rw [TX.sortT_one (sorted_pair sy) py]
            exact q _ _ (Ext.new hp) (new_list trk hp (strs_fz fun t ht => k2 t ((TX.sortT_perm _).mem_iff.mp ht)))
          · exact (kindK_not g3 g2 kind).elim
        · cases hs
      · cases hs
    · cases hs
end
end DL
set_option Elab.async false
set_option linter.all false
set_option maxRecDepth 100000
set_option maxHeartbeats 4000000
/-! i >> k, n & 1, str(i) -/
namespace DL
open PySem PySem.Spec PyProof.Rows L2
def semShr : List C → Option C
  | [a, b] => match a.data, b.data with
    | some (.int i), some (.int j) => if 0 ≤ j then some (.fz (.int (i / 2 ^ j.toNat))) else none
    | _, _ => none
  | _ => none
def semOdd : List C → Option C
  | [a, b] => match a.data, b.data with
    | some (.int i), some (.int j) => if 0 ≤ i ∧ j = 1 then some (.fz (.int (i % 2))) else none
    | _, _ => none
  | _ => none
noncomputable def semStrI : List C → Option C
  | [a] => match a.data with
    | some (.int i) => if fits (i.natAbs.log2 < 1920 ∧ okS (toString i : String) = true) then some (.fz (.str (toString i : String))) else none
    | _ => none
  | _ => none
section
variable {K : PySem.W.Frag} {X : Cx}
theorem ok_shr : Ok2 K (rI (fun _ j => 0 ≤ j) fun i j => .int (i / 2 ^ j.toNat)) semShr := Ok2.mk fun bad H x y a b c Q trk ra rb hs q => by
  simp only [semShr] at hs
  split at hs
  · rename_i i j ha hb
    split at hs
    · rename_i hm
      cases hs
      exact ⟨i, j, see_int ha ra, see_int hb rb, hm, q _ _ Ext.refl rfl⟩
    · cases hs
  · cases hs
theorem ok_odd : Ok2 K (fun x y H Q => ∃ n : Nat, x = .int (n : Int) ∧ y = .int 1 ∧ Q (.int ((n % 2 : Nat) : Int)) H) semOdd := Ok2.mk fun bad H x y a b c Q trk ra rb hs q => by
  simp only [semOdd] at hs
  split at hs
  · rename_i i j ha hb
    split at hs
    · rename_i hm
      cases hs
      obtain ⟨h1, h2⟩ := hm
      obtain ⟨n, rfl⟩ : ∃ n : Nat, i = n := ⟨i.toNat, by omega⟩
      subst h2
      exact ⟨n, see_int ha ra, see_int hb rb, q _ _ Ext.refl (show V.int ((n % 2 : Nat) : Int) = .int ((n : Int) % 2) by congr 1)⟩
    · cases hs
  · cases hs
theorem ok_strI : Ok K (fun xs H Q => ∃ i, xs = [.int i] ∧ i.natAbs.log2 < 1920 ∧ Q (.str (toString i : String)) H) semStrI := by
  refine OkL1 (fun cs h => ?_) fun bad H x a c Q trk ra hs q => ?_
  · match cs, h with
    | [_], _ => rfl
    | [], h => exact absurd rfl h
    | _ :: _ :: _, h => exact absurd rfl h
  · simp only [semStrI] at hs
    split at hs
    · rename_i i ha
      split at hs
      · rename_i hf
        obtain ⟨h1, h2⟩ := of_fits hf
        cases hs
        exact ⟨i, by rw [see_int ha ra], h1, q _ _ Ext.refl ⟨rfl, h2⟩⟩
      · cases hs
    · cases hs
end
end DL
set_option Elab.async false
set_option linter.all false
set_option maxRecDepth 100000
set_option maxHeartbeats 4000000
/-! t[::-1] of a tuple, xs[::-1] of a list -/
namespace RT
open PySem PySem.Spec PyProof.Rows HT
section
variable {prog : Program} {w : World} {A : Around} {E : Value → Shared → Prop} {s : Shared}
theorem adjust_rev (n : Nat) : Builtin.Slice.sliceAdjust none none (-1) (n : Int) = ((n : Int) - 1, -1) := by
  unfold Builtin.Slice.sliceAdjust
  simp
theorem places_rev (n : Nat) : Builtin.Slice.slicePlaces ((n : Int) - 1) (-1) (-1) = n := by
  unfold Builtin.Slice.slicePlaces
  have h1 : ¬ ((-1 : Int) > 0) := by omega
  simp only [h1, if_false, Int.neg_neg, Int.ediv_one]
  split <;> omega
theorem applied_rev {sl : Addr} {vl vu vs : Value} {n : Nat} {Q : Int × Int × Nat → Shared → Prop} (hs : s.heap.IsSliceOf sl vl vu vs) (pl : IsPart vl none) (pu : IsPart vu none) (ps : IsPart vs (some (-1)))
    (h : Q ((n : Int) - 1, -1, n) s) : wpAny (model prog w) A (Builtin.Slice.sliceApplied (.ref sl) (pure (n : Int))) Q E s := by
  obtain ⟨os, hos, hcs, hds⟩ := id hs
  unfold Builtin.Slice.sliceApplied Builtin.Slice.sliceFields
  refine wpAny_bind (wpAny_bind (wpAny_field hos hds (x := vl) rfl (wpAny_bind (wpAny_field hos hds (x := vu) rfl (wpAny_bind (wpAny_field hos hds (x := vs) rfl (wpAny_pure ?_)))))))
  refine wpAny_bind (slicePart_ ps ?_)
  show wpAny _ _ (if ((-1 : Int) == 0) = true then _ else _) _ _ s
  rw [if_neg (by decide)]
  refine wpAny_bind (slicePart_ pl (wpAny_bind (slicePart_ pu (wpAny_bind (wpAny_pure ?_)))))
  show wpAny _ _ (match Builtin.Slice.sliceAdjust none none (-1) (n : Int) with | (lo, hi) => pure (lo, (-1 : Int), Builtin.Slice.slicePlaces lo hi (-1))) _ _ s
  rw [adjust_rev n]
  show wpAny _ _ (pure ((n : Int) - 1, (-1 : Int), Builtin.Slice.slicePlaces ((n : Int) - 1) (-1) (-1))) _ _ s
  rw [places_rev]
  exact wpAny_pure h
theorem pick_rev (xs : Array Value) : ((List.range xs.size).filterMap fun (m : Nat) => xs[(((xs.size : Int) - 1) + (m : Int) * -1).toNat]?).toArray = xs.toList.reverse.toArray := by
  congr 1
  have key : ∀ k, k ≤ xs.size → (List.range k).filterMap (fun (m : Nat) => xs[(((xs.size : Int) - 1) + (m : Int) * -1).toNat]?) = (xs.toList.reverse.take k) := fun k hk => by
    induction k with
    | zero => simp
    | succ k ih =>
      rw [List.range_succ, List.filterMap_append, ih (by omega), List.take_succ]
      congr 1
      have e : (((xs.size : Int) - 1) + (k : Int) * -1).toNat = xs.size - 1 - k := by omega
      have hlt : xs.size - 1 - k < xs.size := by omega
      have h1 : xs[(((xs.size : Int) - 1) + (k : Int) * -1).toNat]? = some (xs[xs.size - 1 - k]'hlt) := by rw [e]; exact Array.getElem?_eq_getElem hlt
      rw [List.filterMap_cons, h1, List.filterMap_nil]
      rw [List.getElem?_reverse (by simp; omega)]
      simp [hlt]
  rw [key _ (Nat.le_refl _), List.take_of_length_le (by simp)]
theorem getItem_tuple_rev {t sl : Addr} {items : Array Value} {vl vu vs : Value} {Q : Value → Shared → Prop} (ht : IsTup s.heap t items) (hs : s.heap.IsSliceOf sl vl vu vs) (pl : IsPart vl none) (pu : IsPart vu none) (ps : IsPart vs (some (-1)))
    (h : Q (.ref s.heap.objs.size) { s with heap := s.heap.push { cls := .type "tuple", data := .seq items.toList.reverse.toArray } })
    (hsz : items.size ≤ sizeLine) : wpAny (model prog w) A (getItem (.ref t) (.ref sl)) Q E s := by
  have htake : sizeOk (.seq items.toList.reverse.toArray) := by
    show items.toList.reverse.toArray.size ≤ sizeLine
    simpa using hsz
  obtain ⟨os, hos, hcs, hds⟩ := id hs
  have hTs : s.TypeIs (.ref sl) "slice" := ⟨os, hos, hcs⟩
  unfold getItem
  try with_reducible refine wpAny_holding ?_
  first | refine wpAny_bind (wpAny_pure ?_) | skip
  refine wpAny_bind (wpAny_sequenceKey ht.typeIs (by decide) ?_)
  refine wpAny_bind (wpAny_callSpecial?_slot (name := Str.ofString "__getitem__") ht.typeIs PyProof.Rows.slot_tuple_getitem
    (wpAny_call_entry PyProof.Rows.slot_tuple_getitem ht.typeIs entry_tuple_getitem ?_ (args_tuple_getitem _ _)))
  show wpAny _ _ (Builtin.Tuple.tupleItemsOf (.ref t) >>= _) _ _ s
  refine wpAny_bind (tupleItemsOf_ ht ?_)
  refine wpAny_bind (wpAny_typeOf hTs ?_)
  rw [if_pos (by decide)]
  refine wpAny_bind (applied_rev hs pl pu ps ?_)
  have hno : ¬ ((((items.size : Int) - 1) == 0 && (-1 : Int) == 1 && items.size == items.size) = true) := by simp
  show wpAny _ _ (if ((((items.size : Int) - 1) == 0 && (-1 : Int) == 1 && items.size == items.size)) = true then _ else _) _ _ s
  rw [if_neg hno, pick_rev]
  first
    | exact wpAny_bind (m := Builtin.Tuple.tupleExact _) (wpAny_newObj_type (wpAny_pure ⟨_, rfl, wpAny_pure h⟩) htake)
    | exact wpAny_bind (m := Builtin.Tuple.tupleExact _) (wpAny_newObj_type (wpAny_bind (wpAny_pure (wpAny_pure ⟨_, rfl, wpAny_pure h⟩))) htake)
    | exact wpAny_bind (wpAny_bind (m := Builtin.Tuple.tupleExact _) (wpAny_newObj_type (wpAny_pure (wpAny_pure ⟨_, rfl, wpAny_pure h⟩)) htake))
    | exact wpAny_bind (wpAny_bind (m := Builtin.Tuple.tupleExact _) (wpAny_newObj_type (wpAny_pure ⟨_, rfl, wpAny_pure h⟩) htake))
end
end RT
namespace L2
open PySem PySem.Spec PyProof.Rows
def tRevA (K : PySem.W.Frag) (te : TE) : TE := fun σ H Q => te σ H fun x H1 => ∃ a xs, x = .ref a ∧ ((SqL K H1 a xs ∧ ∀ p, H1 p = none → Q (.ref p) (upd H1 p (.lst xs.reverse))) ∨ (SqT K H1 a xs ∧ ∀ p, H1 p = none → Q (.ref p) (upd H1 p (.tup xs.reverse))))
section
variable {X : Cx}
theorem pe_revA {e : Expr} {te : TE} {k : Nat} {p1 p2 p3 pos : Pos} (he : PE X e te) : PE X (.Subscript e (.Slice none none (some (.UnaryOp .USub (.Constant (.int 1) k p1) p2)) p3) pos) (tRevA X.K te) := by
  refine ⟨fun pins s σ H Q I h => ?_⟩
  refine Subscript_ (thn (he.run pins s σ H _ I h) fun v s1 ⟨x, H1, I1, r1, q1⟩ => ?_)
  obtain ⟨a, xs, ex, q⟩ := q1
  subst ex
  cases r1
  have hst : PO X (some (.UnaryOp .USub (.Constant (.int 1) k p1) p2)) (tPart (tUn (rU fun i => .int (-i)) (tC (.int 1)))) := po_some (pe_un un_neg pe_int)
  refine wpAny_Slice (thn (po_none.run pins s1 σ H1 (fun o H2 => o = none ∧ H2 = H1) I1 ⟨rfl, rfl⟩) fun vl s2 ⟨l, H2, I2, pl, el, e2⟩ => ?_)
  subst el e2
  refine thn (po_none.run pins s2 σ H2 (fun o H3 => o = none ∧ H3 = H2) I2 ⟨rfl, rfl⟩) fun vu s3 ⟨u, H3, I3, pu, eu, e3⟩ => ?_
  subst eu e3
  refine thn (hst.run pins s3 σ H3 (fun o H4 => o = some (-1) ∧ H4 = H3) I3 ⟨1, rfl, -1, rfl, rfl, rfl⟩) fun vs s4 ⟨o, H4, I4, ps, eo, e4⟩ => ?_
  subst eo e4
  have I5 : Inv X pins σ H4 { s4 with heap := s4.heap.push { cls := .type "slice", data := .fields #[vl, vu, vs] } } := I4.kept (t' := s4.toks) fun b ob q => Heap.get?_push_of_some _ q
  show wpAny (model X.prog X.w) X.A (subscriptTail e (.Slice none none (some (.UnaryOp .USub (.Constant (.int 1) k p1) p2)) p3) (.ref a) (.ref s4.heap.objs.size)) (EP X pins σ Q) X.xe { s4 with heap := s4.heap.push { cls := .type "slice", data := .fields #[vl, vu, vs] } }
  rcases q with ⟨hx, q⟩ | ⟨hx, q⟩
  · obtain ⟨its, r, ht, hz⟩ := I5.list hx
    have hlen := r.length
    refine tail_any (ops := [.ref a, .ref s4.heap.objs.size]) ht.isList.typeIs (PySem.slot_list_getitem.lookup) ?_ (by with_unfolding_all rfl)
    refine wpAny_getItem_list_slice ht.isList (Heap.IsSliceOf.new _ vl vu vs) pl pu ps (by decide) ?_ (by rw [List.size_toArray]; omega)
    rw [PySem.W.krv_pick]
    refine ⟨.ref _, _, I5.laid (t' := s4.toks) (o := .lst xs.reverse) (fun b ob q => Heap.get?_push_of_some _ q) (Nat.le_refl _) ?_, rfl, q _ (I5.hok.fresh (Nat.le_refl _))⟩
    exact ⟨by rw [List.length_reverse]; exact hz, _, 0, r.reverse, Heap.get?_push_size _ rfl⟩
  · obtain ⟨its, r, ht, hz⟩ := I5.tuple hx
    have hlen := r.length
    refine tail_any (ops := [.ref a, .ref s4.heap.objs.size]) ht.typeIs PyProof.Rows.slot_tuple_getitem.lookup ?_ (by with_unfolding_all rfl)
    refine RT.getItem_tuple_rev ht (Heap.IsSliceOf.new _ vl vu vs) pl pu ps ?_ (by rw [List.size_toArray]; omega)
    refine ⟨.ref _, _, I5.laid (t' := s4.toks) (o := .tup xs.reverse) (fun b ob q => Heap.get?_push_of_some _ q) (Nat.le_refl _) ?_, rfl, q _ (I5.hok.fresh (Nat.le_refl _))⟩
    exact ⟨by rw [List.length_reverse]; exact hz, _, r.reverse, IsTup.new _ _⟩
end
end L2
namespace DL
open PySem PySem.Spec PyProof.Rows L2
def semRev : List C → Option C
  | [a] => match a.data with
    | some (.list ds) => some (.ow (.list ds.reverse))
    | some (.tuple ds) => some (.fz (.tuple ds.reverse))
    | _ => none
  | _ => none
section
variable {K : PySem.W.Frag} {bad : Addr → Prop} {H : Hp} {X : Cx}
theorem FzL.reverse : ∀ {ds : List PyData} {vs : List V}, FzL K bad H ds vs → FzL K bad H ds.reverse vs.reverse
  | [], vs, h => by
    have e : vs = [] := h
    subst e
    rfl
  | d :: ds, _, ⟨v, r, rfl, h1, h2⟩ => by
    rw [List.reverse_cons, List.reverse_cons]
    exact (FzL.reverse h2).snoc h1
theorem ok_rev : Ok K (r1 fun x H Q => ∃ a xs, x = .ref a ∧ ((SqL K H a xs ∧ ∀ p, H p = none → Q (.ref p) (upd H p (.lst xs.reverse))) ∨ (SqT K H a xs ∧ ∀ p, H p = none → Q (.ref p) (upd H p (.tup xs.reverse))))) semRev := by
  refine OkL1 (fun cs h => ?_) fun bad H x a c Q trk ra hs q => ?_
  · match cs, h with
    | [_], _ => rfl
    | [], h => exact absurd rfl h
    | _ :: _ :: _, h => exact absurd rfl h
  · simp only [semRev] at hs
    split at hs
    · rename_i ds ha
      cases hs
      obtain ⟨a1, v1, rfl, h1, f1⟩ := see_list ha ra
      intro x' ex
      cases ex
      exact ⟨a1, v1, rfl, .inl ⟨SqL.of h1, fun p hp => q _ _ (Ext.new hp) (new_list trk hp f1.reverse)⟩⟩
    · rename_i ds ha
      cases hs
      obtain ⟨a1, v1, rfl, h1, f1⟩ := see_tup ha ra
      intro x' ex
      cases ex
      exact ⟨a1, v1, rfl, .inr ⟨h1, fun p hp => q _ _ (Ext.new hp) (new_tup hp f1.reverse)⟩⟩
    · cases hs
theorem pd_rev {e : Expr} {f : FO} {k : Nat} {p1 p2 p3 pos : Pos} (he : PDO X e f) : PD X (.Subscript e (.Slice none none (some (.UnaryOp .USub (.Constant (.int 1) k p1) p2)) p3) pos) (dOp semRev [f]) :=
  PEimp (pe_revA he) fun σ H Q h => tOs_one (dOp_imp ok_rev h)
end
end DL
set_option Elab.async false
set_option linter.all false
set_option maxRecDepth 100000
set_option maxHeartbeats 4000000
/-! {k: v, ..} -/
namespace DL
open PySem PySem.Spec PyProof.Rows L2
def pairsOf : List PyData → Option (List (PyData × PyData))
  | [] => some []
  | [_] => none
  | k :: v :: ds => match pairsOf ds with
    | some ps => some ((k, v) :: ps)
    | none => none
def pairV : List V → List (V × V)
  | [] => []
  | [_] => []
  | k :: v :: vs => (k, v) :: pairV vs
def trsOf (K : PySem.W.Frag) : List FO → List (TE × TE)
  | [] => []
  | [_] => []
  | f :: g :: fs => (tO K f, tO K g) :: trsOf K fs
def evenL {α : Type} : List α → Bool
  | [] => true
  | [_] => false
  | _ :: _ :: fs => evenL fs
noncomputable def dDict (fs : List FO) : FE := fun env => match dOs fs env with
  | some (os, e1) => match valDatas os with
    | some ds => match pairsOf ds with
      | some ps => if fits (ps.length ≤ 15 ∧ kindK ps = true ∧ (ps.map (·.1)).Nodup) then some (.ow (.dict ps), e1) else none
      | none => none
    | none => none
  | none => none
section
variable {K : PySem.W.Frag} {B B' bad : Addr → Prop} {H H' H1 H2 : Hp} {σ : L2.St} {env env' e1 e2 : Ev} {c : C} {v x : V} {X : Cx}
theorem tO_mono {f : FO} {Q Q' : VK} (h : tO K f σ H Q) (i : ∀ v H1, Q v H1 → Q' v H1) : tO K f σ H Q' := by
  obtain ⟨B, env, o, env', S, hf, q⟩ := h
  exact ⟨B, env, o, env', S, hf, fun v H1 p => i _ _ (q v H1 p)⟩
theorem tOs_mono {fs : List FO} {Q Q' : List V → Hp → Prop} (h : tOs K fs σ H Q) (i : ∀ v H1, Q v H1 → Q' v H1) : tOs K fs σ H Q' := by
  obtain ⟨B, env, o, env', S, hf, q⟩ := h
  exact ⟨B, env, o, env', S, hf, fun v H1 p => i _ _ (q v H1 p)⟩
theorem tOs_cons {f : FO} {fs : List FO} {Q : List V → Hp → Prop} (h : tOs K (f :: fs) σ H Q) : tO K f σ H fun x H1 => tOs K fs σ H1 fun xs H2 => Q (x :: xs) H2 := by
  obtain ⟨B, env, os, env', S, hf, q⟩ := h
  unfold dOs at hf
  split at hf
  · rename_i o e1 ho
    split at hf
    · rename_i os' e2 hos
      cases hf
      exact ⟨B, env, o, e1, S, ho, fun x H1 p => ⟨_, e1, os', _, PostO.st S p, hos, fun vs H2 p2 => q _ _ (PostOs.cons S p p2)⟩⟩
    · cases hf
  · cases hf
theorem pairs_imp : ∀ (fs : List FO) {H : Hp} {Q : List (V × V) → Hp → Prop}, evenL fs = true → tOs K fs σ H (fun vs H1 => Q (pairV vs) H1) → tPairs (trsOf K fs) σ H Q
  | [], H, Q, _, h => by
    obtain ⟨B, env, os, env', S, hf, q⟩ := h
    cases hf
    exact q [] H (PostOs.nil S)
  | [_], _, _, e, _ => by cases e
  | f :: g :: fs, H, Q, e, h => by
    refine tO_mono (tOs_cons h) fun x H1 h1 => tO_mono (tOs_cons h1) fun y H2 h2 => ?_
    exact pairs_imp fs (H := H2) (Q := fun ps H3 => Q ((x, y) :: ps) H3) e h2
theorem Sta.at' {p : Addr} {o0 o : HO} (S : Sta K B H σ env) (hB : B p) (h0 : H p = some o0) (hm : Mut (some o0)) : Sta K B (upd H p o) σ env where
  len := S.len
  trk := fun a q => by
    by_cases e : a = p
    · subst e
      rw [upd_same]
      exact fun z => by cases z
    · rw [upd_ne e]
      exact S.trk a q
  rep := fun i c e => by
    obtain ⟨v, ev, r⟩ := S.rep i c e
    refine ⟨v, ev, r.mono (fun a u hb hn => ?_) (fun a q _ => q) fun a u ho hv hb => ?_⟩
    · by_cases e : a = p
      · subst e
        rw [h0] at hb
        cases hb
        exact absurd hm (hn (.inl hB))
      · rw [upd_ne e]
        exact hb
    · rw [upd_ne]
      · exact hb
      · intro z
        subst z
        subst hv
        exact S.out i a ⟨c, e, ho, ev⟩ hB
  inj := S.inj
  out := S.out
theorem pairs_fz : ∀ {ds : List PyData} {vs : List V} {ps : List (PyData × PyData)}, FzL K bad H ds vs → pairsOf ds = some ps → kindK ps = true → ∃ kvs : List (Key × V), pairV vs = kvs.map (fun kv => (kV kv.1, kv.2)) ∧ FzD K bad H ps kvs
  | [], vs, ps, h, e, _ => by
    cases (show _ = _ from h)
    cases e
    exact ⟨[], rfl, rfl⟩
  | [_], _, _, _, e, _ => by cases e
  | k :: d :: ds, vs, ps, h, e, kk => by
    obtain ⟨v1, r1, rfl, h1, h⟩ := h
    obtain ⟨v2, r2, rfl, h2, h⟩ := h
    unfold pairsOf at e
    split at e
    · rename_i ps' e'
      cases e
      unfold kindK at kk
      rw [List.all_cons, Bool.and_eq_true] at kk
      obtain ⟨q, hq⟩ := Option.isSome_iff_exists.mp kk.1
      obtain ⟨kvs, g1, g2⟩ := pairs_fz h e' kk.2
      refine ⟨(q, v2) :: kvs, ?_, q, v2, kvs, rfl, hq, h2, g2⟩
      rw [pairV, g1, List.map_cons, key_rep h1 hq]
    · cases e
theorem merge_nodup : ∀ (kvs acc : List (Key × V)), (acc.map (·.1) ++ kvs.map (·.1)).Nodup → mergeK acc kvs = acc ++ kvs
  | [], acc, _ => by rw [List.append_nil]; rfl
  | (k, v) :: kvs, acc, h => by
    have na : ¬ (acc.any fun kv => decide (kv.1 = k)) = true := fun z => by
      obtain ⟨kv, hk, e⟩ := List.any_eq_true.mp z
      have e := of_decide_eq_true e
      rw [List.nodup_append] at h
      exact h.2.2 kv.1 (List.mem_map.mpr ⟨kv, hk, rfl⟩) k (by simp) e
    show mergeK (putK acc k v) kvs = _
    have e : putK acc k v = acc ++ [(k, v)] := by unfold putK; rw [if_neg na]
    rw [e, merge_nodup kvs (acc ++ [(k, v)]) (by simpa using h), List.append_assoc]
    rfl
theorem FzD.nodup : ∀ {ps : List (PyData × PyData)} {kvs : List (Key × V)}, FzD K bad H ps kvs → (ps.map (·.1)).Nodup → (kvs.map (·.1)).Nodup
  | [], _, h, _ => by cases (show _ = _ from h); simp
  | (k, d) :: ps, _, ⟨q, v, r, rfl, h1, h2, h⟩, n => by
    rw [List.map_cons, List.nodup_cons] at n
    rw [List.map_cons, List.nodup_cons]
    refine ⟨fun z => n.1 ?_, FzD.nodup h n.2⟩
    clear n h2
    induction ps generalizing r with
    | nil => cases (show _ = _ from h); simp at z
    | cons p ps ih =>
      obtain ⟨k', d'⟩ := p
      obtain ⟨q', v', r', rfl, g1, g2, g3⟩ := h
      rw [List.map_cons, List.mem_cons] at z ⊢
      rcases z with z | z
      · left
        have z : q = q' := z
        subst z
        exact keyOf_inj h1 g1
      · exact .inr (ih r' g3 z)
theorem pd_disp {pos : Pos} {keys : List (Option Expr)} {values : List Expr} {fs : List FO} (h : PPs X pos keys values (trsOf X.K fs)) (he : evenL fs = true) (hall : keys.all (·.isSome) = true) (hl : keys.length = values.length) (h0 : keys ≠ [])
    (h15 : keys.length ≤ 15) : PD X (.Dict keys values pos) (dDict fs) := PEimp (pe_disp h hall hl h0 h15) fun σ H Q ⟨B, env, c, env', S, hf, q⟩ p hp => by
  unfold dDict at hf
  split at hf
  · rename_i os e1 hos
    split at hf
    · rename_i ds hds
      split at hf
      · rename_i ps hps
        split at hf
        · rename_i hk
          cases hf
          obtain ⟨hlen, kk, nd⟩ := of_fits hk
          have S1 : Sta X.K (fun a => B a ∨ a = p) (upd H p (.dK [])) σ env := S.more (Ext.new hp) (fun a z => by rw [z]; exact hp) fun a z => by rw [z, upd_same]; exact fun w => by cases w
          refine pairs_imp fs he ⟨_, env, os, env', S1, hos, fun vs H2 post => ?_⟩
          have np : ¬ Ownd σ env p := fun ⟨i, z⟩ => by
            obtain ⟨o, e, _⟩ := S.mut z
            rw [hp] at e
            cases e
          have at2 : H2 p = some (.dK []) := post.fr.some upd_same np
          have fz := post.frozen hds
          obtain ⟨kvs, g1, g2⟩ := pairs_fz fz hps kk
          have mk : mergeK [] kvs = kvs := by rw [merge_nodup kvs [] (by simpa using g2.nodup nd)]; rfl
          refine ⟨at2, kvs, g1, by rw [g2.len]; exact hlen, ?_⟩
          rw [mk]
          have own : ∀ b, ownV (.ow (.dict ps)) (.ref p) b → b = p := fun b z => by
            have := z.2
            cases this
            rfl
          have frB : Fr (Bad (fun a => B a ∨ a = p) σ env') H2 (upd H2 p (.dK kvs)) := fun a u hb hn => by
            by_cases e : a = p
            · subst e
              rw [at2] at hb
              cases hb
              exact absurd trivial (hn (.inl (.inr rfl)))
            · rw [upd_ne e]
              exact hb
          have st := post.staB.at' (o := .dK kvs) (.inr rfl) at2 trivial
          refine q _ _ ⟨fun a u hb hn => ?_, post.sh, st.less fun a z => z.elim .inl fun w => .inr (own a w), ⟨p, rfl, .inl ⟨kvs, upd_same, g2.mono frB fun b z _ => ?_⟩⟩, fun a z w => ?_, fun a z => ?_, post.bd, post.pk, rfl⟩
          · have ne : a ≠ p := fun z => by rw [z, hp] at hb; cases hb
            have h1 : upd H p (.dK []) a = some u := by rw [upd_ne ne]; exact hb
            rw [upd_ne ne]
            exact post.fr a u h1 hn
          · rcases z with z | z
            · exact .inl (z.elim .inl fun w => .inr (own b w))
            · exact .inr z
          · rw [own a z] at w
            exact S.trk p w hp
          · rw [own a z]
            exact .inl hp
        · cases hf
      · cases hf
    · cases hf
  · cases hf
end
end DL
set_option Elab.async false
set_option linter.all false
set_option maxRecDepth 8000
set_option maxHeartbeats 4000000
namespace DL
open PySem PySem.Spec PyProof.Rows L2
/-! ### repr of data with dicts in it -/
mutual
/-- every text is one, every dict's keys are ints and texts -/
def layO : PyData → Bool
  | .none => true
  | .bool _ => true
  | .int _ => true
  | .str x => PyData.strOk x
  | .list xs => layOs xs
  | .tuple xs => layOs xs
  | .dict ps => kindK ps && layOp ps
def layOs : List PyData → Bool
  | [] => true
  | d :: ds => layO d && layOs ds
def layOp : List (PyData × PyData) → Bool
  | [] => true
  | (k, d) :: ps => layO k && layO d && layOp ps
end
mutual
/-- how long what repr tells is at most -/
def rszO : PyData → Nat
  | .none => 4
  | .bool _ => 5
  | .int i => (Str.ofString (toString i)).length
  | .str x => 10 * x.cps.toList.length + 2
  | .list xs => rszOs xs + 2
  | .tuple xs => rszOs xs + 3
  | .dict ps => rszOp ps + 2
def rszOs : List PyData → Nat
  | [] => 0
  | d :: ds => rszO d + 2 + rszOs ds
def rszOp : List (PyData × PyData) → Nat
  | [] => 0
  | (k, d) :: ps => rszO k + rszO d + 4 + rszOp ps
end
mutual
theorem gdO : ∀ d : PyData, layO d = true → gd d.shown
  | .none, _ => gd_ofString _
  | .bool b, _ => by cases b <;> exact gd_ofString _
  | .int i, _ => gd_ofString _
  | .str x, h => gd_reprText (gd_iff.mp h)
  | .list xs, h => gd_app (gd_textFrom _ 0 _ (gd_ofString _) (gdOs xs h)) (gd_ofString _)
  | .tuple xs, h => gd_app (gd_app (gd_ofString _) (gd_join (gd_ofString _) _ (gdOs xs h))) (gd_ofString _)
  | .dict ps, h => by
    have h' : (kindK ps && layOp ps) = true := h
    rw [Bool.and_eq_true] at h'
    exact gd_app (gd_app (gd_ofString _) (gd_join (gd_ofString _) _ (gdOp ps h'.2))) (gd_ofString _)
theorem gdOs : ∀ ds : List PyData, layOs ds = true → ∀ t ∈ PyData.shownAll ds, gd t
  | [], _ => fun t ht => nomatch ht
  | d :: ds, h => fun t ht => by
    have h' : (layO d && layOs ds) = true := h
    rw [Bool.and_eq_true] at h'
    rcases List.mem_cons.mp ht with rfl | z
    · exact gdO d h'.1
    · exact gdOs ds h'.2 t z
theorem gdOp : ∀ ps : List (PyData × PyData), layOp ps = true → ∀ t ∈ PyData.shownKv ps, gd t
  | [], _ => fun t ht => nomatch ht
  | (k, d) :: ps, h => fun t ht => by
    have h' : (layO k && layO d && layOp ps) = true := h
    rw [Bool.and_eq_true, Bool.and_eq_true] at h'
    rcases List.mem_cons.mp ht with rfl | z
    · exact gd_app (gd_app (gdO k h'.1.1) (gd_ofString _)) (gdO d h'.1.2)
    · exact gdOp ps h'.2 t z
end
mutual
theorem lenO : ∀ d : PyData, layO d = true → d.shown.length ≤ rszO d
  | .none, _ => Nat.le_refl _
  | .bool b, _ => by cases b <;> decide
  | .int i, _ => Nat.le_refl _
  | .str x, h => by
    have e : x.length = x.cps.toList.length := by simp [Str.length]
    have := StrLaws.reprText_len x (fun c hc => Nat.lt_of_lt_of_le (gd_iff.mp h c hc) (by decide))
    show (reprText x).length ≤ 10 * x.cps.toList.length + 2
    omega
  | .list xs, h => by
    have q := pileO xs h
    have u := textFrom_up (PyData.shownAll xs) 0 "["
    show (textFrom 0 "[" (PyData.shownAll xs) ++ ("]" : Str)).length ≤ rszOs xs + 2
    rw [strLen_append]
    have e1 : (("[" : Str)).length = 1 := rfl
    have e2 : (("]" : Str)).length = 1 := rfl
    omega
  | .tuple xs, h => by
    have q := pileO xs h
    have u := join_up (PyData.shownAll xs)
    show ((("(" : Str) ++ Str.join ", " (PyData.shownAll xs)) ++ (if (PyData.shownAll xs).length == 1 then ",)" else ")" : String)).length ≤ rszOs xs + 3
    rw [strLen_append, strLen_append]
    have e1 : (("(" : Str)).length = 1 := rfl
    have e2 : (Str.ofString (if (PyData.shownAll xs).length == 1 then ",)" else ")" : String)).length ≤ 2 := by split <;> decide
    have e3 : ((if (PyData.shownAll xs).length == 1 then ",)" else ")" : String) : Str).length ≤ 2 := e2
    omega
  | .dict ps, h => by
    have h' : (kindK ps && layOp ps) = true := h
    rw [Bool.and_eq_true] at h'
    have q := pileOp ps h'.2
    have u := join_up (PyData.shownKv ps)
    show ((("{" : Str) ++ Str.join ", " (PyData.shownKv ps)) ++ ("}" : Str)).length ≤ rszOp ps + 2
    rw [strLen_append, strLen_append]
    have e1 : (("{" : Str)).length = 1 := rfl
    have e2 : (("}" : Str)).length = 1 := rfl
    omega
theorem pileO : ∀ ds : List PyData, layOs ds = true → piled (PyData.shownAll ds) ≤ rszOs ds
  | [], _ => Nat.le_refl _
  | d :: ds, h => by
    have h' : (layO d && layOs ds) = true := h
    rw [Bool.and_eq_true] at h'
    have a := lenO d h'.1
    have b := pileO ds h'.2
    show piled (d.shown :: PyData.shownAll ds) ≤ rszO d + 2 + rszOs ds
    rw [piled_cons]
    omega
theorem pileOp : ∀ ps : List (PyData × PyData), layOp ps = true → piled (PyData.shownKv ps) ≤ rszOp ps
  | [], _ => Nat.le_refl _
  | (k, d) :: ps, h => by
    have h' : (layO k && layO d && layOp ps) = true := h
    rw [Bool.and_eq_true, Bool.and_eq_true] at h'
    have a := lenO k h'.1.1
    have b := lenO d h'.1.2
    have c := pileOp ps h'.2
    show piled ((k.shown ++ (": " : Str) ++ d.shown) :: PyData.shownKv ps) ≤ rszO k + rszO d + 4 + rszOp ps
    rw [piled_cons, strLen_append, strLen_append]
    have e1 : ((": " : Str)).length = 2 := rfl
    omega
end
theorem okS_shownO {d : PyData} (h : layO d = true) (hl : d.shown.length ≤ 16777216) : okS d.shown = true := by
  unfold okS
  rw [Bool.and_eq_true]
  refine ⟨gd_iff.mpr (gdO d h), decide_eq_true ?_⟩
  have : d.shown.length = d.shown.cps.toList.length := by simp [Str.length]
  rw [← this]
  exact hl
/-! what stands in memory -/
section
variable {X : Cx} {pins : List (Addr × Obj)} {σ : L2.St} {H : Hp} {s : Shared} {B : Addr → Prop}
/-- a value is the data, with what repr asks of its parts -/
def ShO (X : Cx) (s : Shared) (d : PyData) (u : Value) : Prop := ∃ as bs, Reads s.heap u d as ∧ ReadAtMost s.heap d.depth bs ∧ (d.showable = true → d.shown.length ≤ sizeLine → ReprK X.prog X.w bs s.heap d.depth u d.shown)
def ShOs (X : Cx) (s : Shared) (ds : List PyData) (us : List Value) : Prop := ∃ as bs, ReadsAll s.heap us ds as ∧ ReadAtMost s.heap (PyData.depthAll ds) bs ∧
  (PyData.showableAll ds = true → (∀ t ∈ PyData.shownAll ds, t.length ≤ sizeLine) → ReprAllK X.prog X.w bs s.heap (PyData.depthAll ds) us (PyData.shownAll ds))
theorem ShOs.nil : ShOs X s [] [] := ⟨[], [], .nil, (fun b hb => nomatch hb), fun _ _ => by rw [show PyData.shownAll [] = [] from rfl]; exact .nil⟩
theorem ShOs.cons {d : PyData} {ds : List PyData} {u : Value} {us : List Value} (h : ShO X s d u) (g : ShOs X s ds us) : ShOs X s (d :: ds) (u :: us) := by
  obtain ⟨a1, b1, r1, m1, k1⟩ := h
  obtain ⟨a2, b2, r2, m2, k2⟩ := g
  have dd : PyData.depthAll (d :: ds) = max d.depth (PyData.depthAll ds) := by rw [PyData.depthAll]
  have tt : PyData.shownAll (d :: ds) = d.shown :: PyData.shownAll ds := by rw [PyData.shownAll]
  refine ⟨a1 ++ a2, b1 ++ b2, .cons r1 r2, ?_, fun hs hl => ?_⟩
  · rw [dd]
    exact (m1.mono (Nat.le_max_left ..)).append (m2.mono (Nat.le_max_right ..))
  · have hs' : (d.showable && PyData.showableAll ds) = true := by rw [← hs, PyData.showableAll]
    rw [Bool.and_eq_true] at hs'
    rw [tt] at hl
    rw [dd, tt]
    have q1 := k1 hs'.1 (hl _ (List.mem_cons_self ..))
    have q2 := k2 hs'.2 fun t ht => hl t (List.mem_cons_of_mem _ ht)
    exact .cons ((q1.more (as' := b1 ++ b2) fun b z => List.mem_append_left _ z).level_le (Nat.le_max_left ..)) (q2.more_le (fun b z => List.mem_append_right _ z) (Nat.le_max_right ..))
theorem ShO.int (i : Int) (t : Tok) : ShO X s (.int i) (.int i t) := ⟨[], [], .int i t, (fun b hb => nomatch hb), fun hs _ => by rw [PyData.shown]; exact .of_is (ReprIs.int t (by simpa [PyData.showable] using hs)) _ _ _⟩
theorem ShO.str (x : Str) (t : Tok) : ShO X s (.str x) (.str x t) := ⟨[], [], .str x t, (fun b hb => nomatch hb), fun _ hz => by rw [PyData.shown] at hz ⊢; exact .of_is (ReprIs.str x t hz) _ _ _⟩
/-- so of each value -/
def AllV (p : PyData → Prop) : List (PyData × PyData) → Prop
  | [] => True
  | (_, d) :: ps => p d ∧ AllV p ps
/-- keys and values of a dict's entries -/
theorem ents : ∀ {ps : List (PyData × PyData)} {kvs : List (Key × V)} {prs : List (Key × Value)} {es : List DictEntry}, FzD X.K B H ps kvs → KV kvs prs → Pairs (mixKind X.prog X.w) es prs →
    AllV (fun d => ∀ (v : V) (u : Value), Fz X.K B H d v → RelV v u → ShO X s d u) ps → ShOs X s (ps.map (·.1)) (es.map (·.key)) ∧ ShOs X s (ps.map (·.2)) (es.map (·.val))
  | [], kvs, prs, es, f, k, p, h => by
    cases (show kvs = [] from f)
    cases k
    cases p
    exact ⟨.nil, .nil⟩
  | (k0, d) :: ps, _, prs, es, ⟨q, v, r, rfl, hk, f1, f2⟩, k, p, h => by
    cases k with
    | cons k1 k2 =>
      cases p with
      | cons p1 p2 p3 =>
        rename_i kv prs' e es'
        obtain ⟨i1, i2⟩ := ents f2 k2 p3 h.2
        obtain ⟨e1, e2⟩ := k1
        have e1 : q = kv.1 := e1
        refine ⟨.cons ?_ i1, .cons ?_ i2⟩
        · show ShO X s k0 e.key
          have p1 : keyIs kv.1 e.key = true := p1
          rw [← e1] at p1
          rcases keyIs_shape p1 with ⟨i, t, eq, ek⟩ | ⟨x, t, eq, ek⟩
          · subst eq
            rw [ek]
            cases k0 with
            | int j => cases hk; exact .int _ t
            | str y =>
              simp only [keyOf] at hk
              split at hk <;> cases hk
            | _ => cases hk
          · subst eq
            rw [ek]
            cases k0 with
            | int j => cases hk
            | str y =>
              simp only [keyOf] at hk
              split at hk
              · cases hk
                exact .str _ t
              · cases hk
            | _ => cases hk
        · show ShO X s d e.val
          rw [p2]
          exact h.1 v kv.2 f1 e2
mutual
theorem shO (I : Inv X pins σ H s) : ∀ (d : PyData) (v : V) (u : Value), layO d = true → Fz X.K B H d v → RelV v u → ShO X s d u
  | .none, v, u, _, h, r => by
    cases (show v = .non from h)
    cases (show u = .none from r)
    exact ⟨[], [], .none, (fun b hb => nomatch hb), fun _ _ => by rw [PyData.shown]; exact .of_is ReprIs.none _ _ _⟩
  | .bool b, v, u, _, h, r => by
    cases (show v = .bl b from h)
    cases (show u = .bool b from r)
    exact ⟨[], [], .bool b, (fun b hb => nomatch hb), fun _ _ => by rw [PyData.shown]; exact .of_is (ReprIs.bool b) _ _ _⟩
  | .int i, v, u, _, h, r => by
    cases (show v = .int i from h)
    obtain ⟨t, rfl⟩ := (show ∃ t, u = .int i t from r)
    exact .int i t
  | .str x, v, u, _, h, r => by
    cases (show v = .str x from h.1)
    obtain ⟨t, rfl⟩ := (show ∃ t, u = .str x t from r)
    exact .str x t
  | .list ds, v, u, hl, h, r => by
    obtain ⟨a, vs, rfl, h1, _, h2⟩ := h
    cases (show u = .ref a from r)
    obtain ⟨its, rv, ⟨o, n, ho, hc, _, hd⟩, _⟩ := I.list (SqL.of h1)
    obtain ⟨as, bs, q1, q2, q3⟩ := shOs I ds vs its hl h2 rv
    have rd : Reads s.heap (.ref a) (.list ds) (a :: as) := .list ho hc hd q1
    have na : a ∉ bs := not_mem_of_deeper rd (by rw [PyData.depth]; omega) q2
    refine ⟨a :: as, a :: bs, rd, ReadAtMost.cons rd (by rw [PyData.depth]; omega) q2, fun hs hz => ?_⟩
    rw [PyData.showable] at hs
    rw [PyData.shown] at hz ⊢
    rw [PyData.depth]
    have k := q3 hs fun t ht => Nat.le_trans (listText_mem_le ht) hz
    cases its with
    | nil =>
      cases q1
      have e : listText (PyData.shownAll []) = "[]" := listText_nil
      rw [e]
      exact ReprK.listEmpty ho hc hd
    | cons x l =>
      have hd' : o.data = .seq (x :: l).toArray n := hd
      exact ReprK.list ho hc hd' na (by simpa using k.length_eq) fun i y e => k.item i y (by simpa using e)
  | .tuple ds, v, u, hl, h, r => by
    obtain ⟨a, vs, rfl, h1, h2⟩ := h
    cases (show u = .ref a from r)
    obtain ⟨its, rv, ⟨o, ho, hc, n, hd⟩, _⟩ := I.tuple h1
    obtain ⟨as, bs, q1, q2, q3⟩ := shOs I ds vs its hl h2 rv
    have rd : Reads s.heap (.ref a) (.tuple ds) as := .tuple ho hc hd q1
    have na : a ∉ bs := not_mem_of_deeper rd (by rw [PyData.depth]; omega) q2
    refine ⟨as, a :: bs, rd, ReadAtMost.cons rd (by rw [PyData.depth]; omega) q2, fun hs hz => ?_⟩
    rw [PyData.showable] at hs
    rw [PyData.shown] at hz ⊢
    rw [PyData.depth]
    have k := q3 hs fun t ht => Nat.le_trans (tupleText_mem_le ht) hz
    exact ReprK.tuple ho hc hd na k
  | .dict ps, v, u, hl, h, r => by
    have hl' : (kindK ps && layOp ps) = true := hl
    rw [Bool.and_eq_true] at hl'
    obtain ⟨a, rfl, _, h2⟩ := h
    cases (show u = .ref a from r)
    rcases h2 with ⟨kvs, h2, h3⟩ | ⟨kvs, _, h3, h4⟩
    · obtain ⟨_, hsys, prs, kv, ⟨o, es, ep, ho, ⟨hc, _, _⟩, hd, _, pr, _⟩⟩ := dk_of I.hok h2
      obtain ⟨⟨ak, bk, k1, k2, k3⟩, ⟨av, bv, v1, v2, v3⟩⟩ := ents (X := X) (s := s) h3 kv pr (shOp I ps hl'.2)
      have rd : Reads s.heap (.ref a) (.dict ps) (a :: ak ++ av) := .dict ho hc hd k1 v1
      have dk := PyData.depthAll_keys_le ps
      have dv := PyData.depthAll_vals_le ps
      have at2 : ReadAtMost s.heap (PyData.depthKv ps) (bk ++ bv) := (k2.mono dk).append (v2.mono dv)
      have na : a ∉ bk ++ bv := not_mem_of_deeper rd (by rw [PyData.depth]; omega) at2
      refine ⟨_, a :: (bk ++ bv), rd, ReadAtMost.cons rd (by rw [PyData.depth]; omega) at2, fun hs hz => ?_⟩
      rw [PyData.showable] at hs
      obtain ⟨s1, s2⟩ := PyData.showableKv_split ps hs
      rw [PyData.shown] at hz
      rw [PyData.shown, PyData.depth, PyData.shownKv_eq]
      have kk := k3 s1 fun t ht => by
        obtain ⟨p, hp, hle⟩ := PyData.shownKv_key_le ps t ht
        exact Nat.le_trans hle (Nat.le_trans (dictText_mem_le hp) hz)
      have vv := v3 s2 fun t ht => by
        obtain ⟨p, hp, hle⟩ := PyData.shownKv_val_le ps t ht
        exact Nat.le_trans hle (Nat.le_trans (dictText_mem_le hp) hz)
      exact ReprK.dict ho hc hd hsys na (ReprEntriesK.of_two es.toList _ _ (kk.more_le (fun b z => List.mem_append_left bv z) dk) (vv.more_le (fun b z => List.mem_append_right bk z) dv))
    · exact (kindK_not h4 h3 hl'.1).elim
theorem shOs (I : Inv X pins σ H s) : ∀ (ds : List PyData) (vs : List V) (us : List Value), layOs ds = true → FzL X.K B H ds vs → Vals vs us → ShOs X s ds us
  | [], vs, us, _, h, r => by
    cases (show vs = [] from h)
    cases r
    exact .nil
  | d :: ds, _, us, hl, ⟨v, w, rfl, h1, h2⟩, r => by
    have hl' : (layO d && layOs ds) = true := hl
    rw [Bool.and_eq_true] at hl'
    cases r with
    | cons r1 r2 => exact .cons (shO I d v _ hl'.1 h1 r1) (shOs I ds w _ hl'.2 h2 r2)
theorem shOp (I : Inv X pins σ H s) : ∀ (ps : List (PyData × PyData)), layOp ps = true → AllV (fun d => ∀ (v : V) (u : Value), Fz X.K B H d v → RelV v u → ShO X s d u) ps
  | [], _ => trivial
  | (k, e) :: ps, hl => by
    have hl' : (layO k && layO e && layOp ps) = true := hl
    rw [Bool.and_eq_true, Bool.and_eq_true] at hl'
    exact ⟨fun v u h r => shO I e v u hl'.1.2 h r, shOp I ps hl'.2⟩
end
/-- repr of any such data -/
theorem call_reprO (hu : X.A.units + 66 < cLine) (hg : X.A.guards = some []) : CallR X (.builtin "repr") (fun xs H Q => ∃ x d B, xs = [x] ∧ Fz X.K B H d x ∧ layO d = true ∧ d.depth ≤ 64 ∧ d.showable = true ∧ d.shown.length ≤ sizeLine ∧ Q (.str d.shown) H) := by
  intro pins s σ H xs us Q I r h
  obtain ⟨x, d, B, rfl, hd, hl, h64, hs, hsz, q⟩ := h
  obtain ⟨u, rfl, t⟩ := vals1 r
  have last : ∀ (h1 : Heap) (w1 : Tok) (tk : Nat), (∀ b o, s.heap.get? b = some o → h1.get? b = some o) → EP X pins σ Q (.str d.shown w1) { s with heap := h1, toks := tk } := fun h1 w1 tk kept => ⟨.str d.shown, H, I.kept kept, ⟨w1, rfl⟩, q⟩
  cases d with
  | none =>
    cases (show x = .non from hd)
    cases (show u = .none from t)
    exact PySem.P.repr_of_none ⟨.str (PyData.shown .none), H, I.tok _, ⟨_, rfl⟩, q⟩
  | bool b =>
    cases (show x = .bl b from hd)
    cases (show u = .bool b from t)
    exact PySem.P.repr_of_bool ⟨.str (PyData.shown (.bool b)), H, I.tok _, ⟨_, rfl⟩, q⟩
  | int i =>
    cases (show x = .int i from hd)
    obtain ⟨tk, rfl⟩ := (show ∃ tk, u = .int i tk from t)
    refine PySem.P.repr_of_int (by simpa [PyData.showable] using hs) ⟨.str (PyData.shown (.int i)), H, I.tok _, ⟨_, rfl⟩, q⟩
  | str y =>
    cases (show x = .str y from hd.1)
    obtain ⟨tk, rfl⟩ := (show ∃ tk, u = .str y tk from t)
    exact PySem.P.repr_of_str ⟨.str (PyData.shown (.str y)), H, I.tok _, ⟨_, rfl⟩, q⟩ hsz
  | list ds =>
    obtain ⟨a, vs, rfl, h1, _, h2⟩ := hd
    cases (show u = .ref a from t)
    obtain ⟨its, rv, ⟨o, n, ho, hc, _, hdt⟩, _⟩ := I.list (SqL.of h1)
    obtain ⟨as, bs, q1, q2, q3⟩ := shOs I ds vs its hl h2 rv
    have rd : Reads s.heap (.ref a) (.list ds) (a :: as) := .list ho hc hdt q1
    have na : a ∉ bs := not_mem_of_deeper rd (by rw [PyData.depth]; omega) q2
    rw [PyData.showable] at hs
    rw [PyData.shown] at hsz last
    rw [PyData.depth] at h64
    have k := q3 hs fun t ht => Nat.le_trans (listText_mem_le ht) hsz
    refine call_repr_slot (by omega) ⟨o, ho, hc⟩ F.slot_list_repr.toG ?_
    cases its with
    | nil =>
      cases q1
      have e : listText (PyData.shownAll []) = "[]" := listText_nil
      rw [e] at last
      exact call_list_repr_empty ⟨o, ho, hc⟩ ho hdt ⟨_, _, rfl, last _ _ _ fun _ _ e => e⟩
    | cons z l =>
      have hdt' : o.data = .seq (z :: l).toArray n := hdt
      exact call_list_reprK ho hc hdt' na (by simpa using k.length_eq) (fun i y e => k.item i y (by simpa using e)) hg (fun b _ => Clear.nil b) (by show X.A.units + 1 + _ < _; omega) (fun _ _ e => e) (fun h1 w1 tk kept => ⟨_, _, rfl, last h1 w1 tk kept⟩) hsz
  | tuple ds =>
    obtain ⟨a, vs, rfl, h1, h2⟩ := hd
    cases (show u = .ref a from t)
    obtain ⟨its, rv, ⟨o, ho, hc, n, hdt⟩, _⟩ := I.tuple h1
    obtain ⟨as, bs, q1, q2, q3⟩ := shOs I ds vs its hl h2 rv
    have rd : Reads s.heap (.ref a) (.tuple ds) as := .tuple ho hc hdt q1
    have na : a ∉ bs := not_mem_of_deeper rd (by rw [PyData.depth]; omega) q2
    rw [PyData.showable] at hs
    rw [PyData.shown] at hsz last
    rw [PyData.depth] at h64
    have k := q3 hs fun t ht => Nat.le_trans (tupleText_mem_le ht) hsz
    exact call_repr_slot (by omega) ⟨o, ho, hc⟩ F.slot_tuple_repr (call_tuple_reprK ho hc hdt na k hg (fun b _ => Clear.nil b) (by show X.A.units + 1 + _ < _; omega) (fun _ _ e => e) (fun h1 w1 tk kept => ⟨_, _, rfl, last h1 w1 tk kept⟩) hsz)
  | dict ps =>
    have hl' : (kindK ps && layOp ps) = true := hl
    rw [Bool.and_eq_true] at hl'
    obtain ⟨a, rfl, _, h2⟩ := hd
    cases (show u = .ref a from t)
    rcases h2 with ⟨kvs, h2, h3⟩ | ⟨kvs, _, h3, h4⟩
    · obtain ⟨_, hsys, prs, kv, ⟨o, es, ep, ho, ⟨hc, _, _⟩, hdt, _, pr, _⟩⟩ := dk_of I.hok h2
      obtain ⟨⟨ak, bk, k1, k2, k3⟩, ⟨av, bv, v1, v2, v3⟩⟩ := ents (X := X) (s := s) h3 kv pr (shOp I ps hl'.2)
      have rd : Reads s.heap (.ref a) (.dict ps) (a :: ak ++ av) := .dict ho hc hdt k1 v1
      have dk := PyData.depthAll_keys_le ps
      have dv := PyData.depthAll_vals_le ps
      have at2 : ReadAtMost s.heap (PyData.depthKv ps) (bk ++ bv) := (k2.mono dk).append (v2.mono dv)
      have na : a ∉ bk ++ bv := not_mem_of_deeper rd (by rw [PyData.depth]; omega) at2
      rw [PyData.showable] at hs
      obtain ⟨s1, s2⟩ := PyData.showableKv_split ps hs
      rw [PyData.shown] at hsz last
      rw [PyData.depth] at h64
      have kk := k3 s1 fun t ht => by
        obtain ⟨p, hp, hle⟩ := PyData.shownKv_key_le ps t ht
        exact Nat.le_trans hle (Nat.le_trans (dictText_mem_le hp) hsz)
      have vv := v3 s2 fun t ht => by
        obtain ⟨p, hp, hle⟩ := PyData.shownKv_val_le ps t ht
        exact Nat.le_trans hle (Nat.le_trans (dictText_mem_le hp) hsz)
      rw [PyData.shownKv_eq] at hsz last
      exact call_repr_slot (by omega) ⟨o, ho, hc⟩ F.slot_dict_repr (call_dict_reprK ho hc hdt hsys na (ReprEntriesK.of_two es.toList _ _ (kk.more_le (fun b z => List.mem_append_left bv z) dk) (vv.more_le (fun b z => List.mem_append_right bk z) dv)) hg (fun b _ => Clear.nil b) (by show X.A.units + 1 + _ < _; omega) (fun _ _ e => e) (fun h1 w1 tk kept => ⟨_, _, rfl, last h1 w1 tk kept⟩) hsz)
    · exact (kindK_not h4 h3 hl'.1).elim
end
noncomputable def semReprO : List C → Option C
  | [a] => match a.data with
    | some d => if fits (layO d = true ∧ d.depth ≤ 64 ∧ d.showable = true ∧ rszO d ≤ 16777216) then some (.fz (.str d.shown)) else none
    | none => none
  | _ => none
section
variable {K : PySem.W.Frag}
theorem see_fzO {bad : Addr → Prop} {H : Hp} {a : C} {x : V} {d : PyData} (h : a.data = some d) (r : CRep K bad H a x) : ∃ B, Fz K B H d x := by
  have own : ∀ p, x = .ref p → Own K bad H d p → ∃ B, Fz K B H d x := fun p e o => by
    subst e
    refine ⟨fun _ => False, ?_⟩
    cases d with
    | list ds =>
      obtain ⟨vs, h1, h2⟩ := o
      exact ⟨p, vs, rfl, h1, id, h2.mono Fr.refl fun a z _ => z.elim⟩
    | dict ps =>
      refine ⟨p, rfl, id, ?_⟩
      rcases o with ⟨kvs, h1, h2⟩ | ⟨kvs, h1, h2, h3⟩
      · exact .inl ⟨kvs, h1, h2.mono Fr.refl fun a z _ => z.elim⟩
      · exact .inr ⟨kvs, h1, h2, h3.mono Fr.refl fun a z _ => z.elim⟩
    | _ => exact o.elim
  cases a with
  | fz e => cases h; exact ⟨_, r⟩
  | ow e =>
    cases h
    obtain ⟨p, e1, o⟩ := r
    exact own p e1 o
  | pw e =>
    cases h
    obtain ⟨p, e1, o⟩ := r
    exact own p e1 o
  | sc ns => cases h
theorem ok_reprO : Ok K (fun xs H Q => ∃ x d B, xs = [x] ∧ Fz K B H d x ∧ layO d = true ∧ d.depth ≤ 64 ∧ d.showable = true ∧ d.shown.length ≤ sizeLine ∧ Q (.str d.shown) H) semReprO := by
  refine OkL1 (fun cs h => ?_) fun bad H x a c Q trk ra hs q => ?_
  · match cs, h with
    | [_], _ => rfl
    | [], h => exact absurd rfl h
    | _ :: _ :: _, h => exact absurd (by simp [semReprO]) h
  · simp only [semReprO] at hs
    split at hs
    · rename_i d ha
      split at hs
      · rename_i hf
        obtain ⟨h1, h2, h3, h4⟩ := of_fits hf
        cases hs
        obtain ⟨B, f⟩ := see_fzO ha ra
        have hl := Nat.le_trans (lenO d h1) h4
        exact ⟨x, d, B, rfl, f, h1, h2, h3, line_eq hl, q _ _ Ext.refl ⟨rfl, okS_shownO h1 hl⟩⟩
      · cases hs
    · cases hs
end
theorem reprO {c : C} {d : PyData} (hc : c.data = some d) (h1 : layO d = true) (h2 : d.depth ≤ 64) (h3 : d.showable = true) (h4 : rszO d ≤ 16777216) : semReprO [c] = some (.fz (.str d.shown)) := by
  simp only [semReprO, hc]
  exact if_pos (fits_of ⟨h1, h2, h3, h4⟩)
end DL
set_option Elab.async false
set_option linter.all false
set_option maxRecDepth 8000
set_option maxHeartbeats 4000000
namespace LW
open DL PySem L2
/-! ### words and their steps, in plain Lean -/
theorem least_is (P : Nat → Prop) : ∀ n, P n → ∃ m, P m ∧ ∀ k, P k → m ≤ k := by
  intro n
  induction n using Nat.strongRecOn with
  | ind n ih =>
    intro h
    by_cases c : ∃ k, k < n ∧ P k
    · obtain ⟨k, h1, h2⟩ := c
      exact ih k h1 h2
    · exact ⟨n, h, fun k hk => Nat.le_of_not_lt fun hlt => c ⟨k, hlt, hk⟩⟩
/-- a word said over and over -/
def reps (k : Nat) (l : List Nat) : List Nat := (List.replicate k l).flatten
theorem reps_len (k : Nat) (l : List Nat) : (reps k l).length = l.length * k := flatten_len k l
theorem reps_at (l : List Nat) : ∀ (q k : Nat), k < l.length * q → (reps q l)[k]? = l[k % l.length]?
  | 0, k, h => by omega
  | q + 1, k, h => by
    unfold reps
    rw [List.replicate_succ, List.flatten_cons]
    by_cases hk : k < l.length
    · rw [List.getElem?_append_left hk, Nat.mod_eq_of_lt hk]
    · rw [List.getElem?_append_right (by omega)]
      have := reps_at l q (k - l.length) (by rw [Nat.mul_succ] at h; omega)
      unfold reps at this
      rw [this, ← Nat.mod_eq_sub_mod (by omega)]
/-- a step at which a word is like itself -/
def per (w : List Nat) (p : Nat) : Prop := ∀ i, i + p < w.length → w[i]? = w[i + p]?
theorem per_len (w : List Nat) : per w w.length := fun i h => by omega
theorem per_mul {w : List Nat} {p : Nat} (h : per w p) : ∀ k, per w (k * p)
  | 0, i, hi => by simp
  | k + 1, i, hi => by
    rw [Nat.succ_mul] at hi ⊢
    rw [per_mul h k i (by omega), h (i + k * p) (by omega)]
    congr 1
    omega
theorem per_mod {w : List Nat} {p : Nat} (h : per w p) {i : Nat} (hi : i < w.length) : w[i]? = w[i % p]? := by
  have e : i % p + i / p * p = i := by rw [Nat.mul_comm]; exact Nat.mod_add_div i p
  have := per_mul h (i / p) (i % p) (by rw [e]; exact hi)
  rw [e] at this
  exact this.symm
theorem per_sub {w : List Nat} {p q : Nat} (hp : per w p) (hq : per w q) (hpq : p ≤ q) (hn : p + q ≤ w.length) : per w (q - p) := by
  intro i hi
  by_cases h : p ≤ i
  · have a := hp (i - p) (by omega)
    have b := hq (i - p) (by omega)
    rw [Nat.sub_add_cancel h] at a
    rw [← a, b]
    congr 1
    omega
  · have a := hq i (by omega)
    have b := hp (i + (q - p)) (by omega)
    rw [a, b]
    congr 1
    omega
theorem per_gcd {w : List Nat} : ∀ (m p q : Nat), p + q ≤ m → per w p → per w q → p + q ≤ w.length → per w (Nat.gcd p q)
  | 0, p, q, hm, hp, hq, hn => by
    have : p = 0 := by omega
    subst this
    rw [Nat.gcd_zero_left]
    exact hq
  | m + 1, p, q, hm, hp, hq, hn => by
    by_cases p0 : p = 0
    · subst p0
      rw [Nat.gcd_zero_left]
      exact hq
    by_cases q0 : q = 0
    · subst q0
      rw [Nat.gcd_zero_right]
      exact hp
    by_cases h : p ≤ q
    · have := per_gcd m p (q - p) (by omega) hp (per_sub hp hq h hn) (by omega)
      rw [Nat.gcd_sub_self_right h] at this
      exact this
    · have := per_gcd m (p - q) q (by omega) (per_sub hq hp (by omega) (by omega)) hq (by omega)
      rw [Nat.gcd_sub_self_left (by omega)] at this
      exact this
/-- the least step that goes up in the word's size -/
structure IsRl (w : List Nat) (r : Nat) : Prop where
  pos : 0 < r
  dvd : r ∣ w.length
  pr : per w r
  least : ∀ s, 0 < s → s ∣ w.length → per w s → r ≤ s
theorem IsRl.le {w : List Nat} {r : Nat} (h : IsRl w r) (hw : w ≠ []) : r ≤ w.length := Nat.le_of_dvd (List.length_pos_iff.mpr hw) h.dvd
theorem IsRl.unique {w : List Nat} {r s : Nat} (h : IsRl w r) (g : IsRl w s) : r = s := Nat.le_antisymm (h.least s g.pos g.dvd g.pr) (g.least r h.pos h.dvd h.pr)
theorem IsRl.ex {w : List Nat} (hw : w ≠ []) : ∃ r, IsRl w r := by
  obtain ⟨r, ⟨h1, h2, h3⟩, h4⟩ := least_is (fun s => 0 < s ∧ s ∣ w.length ∧ per w s) w.length ⟨List.length_pos_iff.mpr hw, Nat.dvd_refl _, per_len w⟩
  exact ⟨r, h1, h2, h3, fun s a b c => h4 s ⟨a, b, c⟩⟩
theorem reps_ne {m : Nat} {w : List Nat} (hm : 0 < m) (hw : w ≠ []) : reps m w ≠ [] := by
  intro e
  have := reps_len m w
  rw [e] at this
  have p : 0 < w.length := List.length_pos_iff.mpr hw
  have := Nat.mul_pos p hm
  simp at *
  omega
theorem IsRl.reps {w : List Nat} {r : Nat} (h : IsRl w r) (hw : w ≠ []) {m : Nat} (hm : 0 < m) : IsRl (reps m w) r := by
  have n0 : 0 < w.length := List.length_pos_iff.mpr hw
  have L := reps_len m w
  have at_ : ∀ i, i < w.length * m → (LW.reps m w)[i]? = w[i % r]? := fun i hi => by
    rw [reps_at w m i hi, per_mod h.pr (Nat.mod_lt i n0)]
    congr 1
    exact Nat.mod_mod_of_dvd i h.dvd
  have nm : w.length ≤ w.length * m := Nat.le_mul_of_pos_right _ hm
  have ft : ∀ i, i < w.length → (LW.reps m w)[i]? = w[i]? := fun i hi => by
    rw [reps_at w m i (by omega), Nat.mod_eq_of_lt hi]
  refine ⟨h.pos, by rw [L]; exact Nat.dvd_mul_right_of_dvd h.dvd m, fun i hi => ?_, fun s s0 s1 s2 => ?_⟩
  · rw [L] at hi
    rw [at_ i (by omega), at_ (i + r) hi, Nat.add_mod_right]
  · by_cases c : w.length < s
    · exact Nat.le_trans (h.le hw) (by omega)
    · have down : ∀ g, per (LW.reps m w) g → per w g := fun g hg i hi => by
        rw [← ft i (by omega), ← ft (i + g) hi]
        exact hg i (by rw [L]; omega)
      by_cases m1 : m = 1
      · subst m1
        rw [Nat.mul_one] at L
        exact h.least s s0 (by rw [← L]; exact s1) (down s s2)
      · have m2 : w.length + w.length ≤ w.length * m := by
          have := Nat.mul_le_mul_left w.length (show 2 ≤ m by omega)
          omega
        have pn : per (LW.reps m w) w.length := fun i hi => by
          rw [L] at hi
          rw [reps_at w m i (by omega), reps_at w m _ hi, Nat.add_mod_right]
        have pg := per_gcd _ s w.length (Nat.le_refl _) s2 pn (by rw [L]; omega)
        have g0 : 0 < Nat.gcd s w.length := Nat.gcd_pos_of_pos_left _ s0
        exact Nat.le_trans (h.least _ g0 (Nat.gcd_dvd_right s w.length) (down _ pg)) (Nat.le_of_dvd s0 (Nat.gcd_dvd_left s w.length))
/-- a word is its root, said over and over -/
theorem root_reps {w : List Nat} {s : Nat} (s0 : 0 < s) (s1 : s ∣ w.length) (s2 : per w s) : reps (w.length / s) (w.take s) = w := by
  by_cases hw : w = []
  · subst hw
    simp [reps]
  have n0 : 0 < w.length := List.length_pos_iff.mpr hw
  have sl : s ≤ w.length := Nat.le_of_dvd n0 s1
  have tl : (w.take s).length = s := by rw [List.length_take]; omega
  have L := reps_len (w.length / s) (w.take s)
  rw [tl, Nat.mul_div_cancel' s1] at L
  apply List.ext_getElem?
  intro i
  by_cases hi : i < w.length
  · rw [reps_at _ _ i (by rw [tl, Nat.mul_div_cancel' s1]; exact hi), tl, per_mod s2 hi, List.getElem?_take_of_lt (Nat.mod_lt i s0)]
  · rw [List.getElem?_eq_none (by omega), List.getElem?_eq_none (by omega)]
theorem reps_root {w : List Nat} {s : Nat} (s0 : 0 < s) (sl : s ≤ w.length) (h : reps (w.length / s) (w.take s) = w) : s ∣ w.length ∧ per w s := by
  have tl : (w.take s).length = s := by rw [List.length_take]; omega
  have L := reps_len (w.length / s) (w.take s)
  rw [tl, h] at L
  refine ⟨⟨_, L⟩, fun i hi => ?_⟩
  have e : ∀ i, i < w.length → w[i]? = w[i % s]? := fun i hi => by
    have := reps_at (w.take s) (w.length / s) i (by rw [tl, ← L]; exact hi)
    rw [h, tl, List.getElem?_take_of_lt (Nat.mod_lt i s0)] at this
    exact this
  rw [e i (by omega), e (i + s) hi, Nat.add_mod_right]
theorem IsRl.root {w : List Nat} {r : Nat} (h : IsRl w r) (hw : w ≠ []) : IsRl (w.take r) r := by
  have n0 : 0 < w.length := List.length_pos_iff.mpr hw
  have rl := h.le hw
  have tn : w.take r ≠ [] := by
    intro e
    have e2 := congrArg List.length e
    rw [List.length_take, List.length_nil] at e2
    have := h.pos
    omega
  obtain ⟨s, hs⟩ := IsRl.ex tn
  have := hs.reps tn (m := w.length / r) (Nat.div_pos rl h.pos)
  rw [root_reps h.pos h.dvd h.pr] at this
  rw [← this.unique h] at hs
  have e := h.unique this
  subst e
  exact hs
/-- a word turned about -/
def rot (w : List Nat) (a : Nat) : List Nat := w.drop a ++ w.take a
theorem rot_len (w : List Nat) (a : Nat) : (rot w a).length = w.length := by
  unfold rot
  rw [List.length_append, List.length_drop, List.length_take]
  omega
theorem rot_at {w : List Nat} {a i : Nat} (ha : a ≤ w.length) (hi : i < w.length) : (rot w a)[i]? = w[(i + a) % w.length]? := by
  unfold rot
  by_cases c : i < w.length - a
  · rw [List.getElem?_append_left (by rw [List.length_drop]; exact c), List.getElem?_drop, Nat.mod_eq_of_lt (by omega), Nat.add_comm]
  · rw [List.getElem?_append_right (by rw [List.length_drop]; omega), List.length_drop, List.getElem?_take_of_lt (by omega)]
    congr 1
    rw [Nat.mod_eq_sub_mod (by omega), Nat.mod_eq_of_lt (by omega)]
    omega
theorem rot_back {w : List Nat} {a : Nat} (ha : a ≤ w.length) : rot (rot w a) (w.length - a) = w := by
  unfold rot
  rw [List.drop_left' (by rw [List.length_drop]), List.take_left' (by rw [List.length_drop])]
  exact List.take_append_drop a w
theorem rot_per {w : List Nat} {a s : Nat} (ha : a ≤ w.length) (s1 : s ∣ w.length) (s2 : per w s) : per (rot w a) s := by
  intro i hi
  rw [rot_len] at hi
  have n0 : 0 < w.length := by omega
  rw [rot_at ha (by omega), rot_at ha hi, per_mod s2 (Nat.mod_lt _ n0), per_mod s2 (Nat.mod_lt (i + s + a) n0), Nat.mod_mod_of_dvd _ s1, Nat.mod_mod_of_dvd _ s1]
  congr 1
  rw [show i + s + a = (i + a) + s by omega, Nat.add_mod_right]
theorem IsRl.rot {w : List Nat} {r a : Nat} (h : IsRl w r) (ha : a ≤ w.length) : IsRl (rot w a) r := by
  refine ⟨h.pos, by rw [rot_len]; exact h.dvd, rot_per ha h.dvd h.pr, fun s s0 s1 s2 => ?_⟩
  rw [rot_len] at s1
  have := rot_per (w := LW.rot w a) (a := w.length - a) (s := s) (by rw [rot_len]; omega) (by rw [rot_len]; exact s1) s2
  rw [rot_back ha] at this
  exact h.least s s0 s1 this
theorem rot_root {w : List Nat} {r a : Nat} (h : IsRl w r) (hw : w ≠ []) (ha : a ≤ w.length) : (rot w a).take r = rot (w.take r) (a % r) := by
  have n0 : 0 < w.length := List.length_pos_iff.mpr hw
  have rl := h.le hw
  have r0 := h.pos
  have tl : (w.take r).length = r := by rw [List.length_take]; omega
  have am := Nat.mod_lt a r0
  apply List.ext_getElem?
  intro i
  by_cases hi : i < r
  · rw [List.getElem?_take_of_lt hi, rot_at ha (by omega), rot_at (by rw [tl]; omega) (by rw [tl]; exact hi), tl, List.getElem?_take_of_lt (Nat.mod_lt _ r0), per_mod h.pr (Nat.mod_lt _ n0), Nat.mod_mod_of_dvd _ h.dvd, Nat.add_mod_mod]
  · rw [List.getElem?_eq_none (by rw [List.length_take, rot_len]; omega), List.getElem?_eq_none (by rw [rot_len, tl]; omega)]
theorem rot_rot {w : List Nat} {a b : Nat} (ha : a < w.length) (hb : b < w.length) : rot (rot w a) b = rot w ((a + b) % w.length) := by
  have n0 : 0 < w.length := by omega
  have m := Nat.mod_lt (a + b) n0
  apply List.ext_getElem?
  intro i
  by_cases hi : i < w.length
  · have mb := Nat.mod_lt (i + b) n0
    rw [rot_at (by rw [rot_len]; omega) (by rw [rot_len]; exact hi), rot_len, rot_at (by omega) mb, rot_at (by omega) hi, Nat.mod_add_mod, Nat.add_mod_mod]
    congr 2
    omega
  · rw [List.getElem?_eq_none (by rw [rot_len, rot_len]; omega), List.getElem?_eq_none (by rw [rot_len]; omega)]
theorem rot_zero (w : List Nat) : rot w 0 = w := by simp [rot]
/-! borders -/
/-- the first b signs of the first k are also the last b of them -/
def isB (w : List Nat) (k b : Nat) : Prop := b < k ∧ ∀ i, i < b → w[i]? = w[k - b + i]?
def isBd (w : List Nat) (k m : Nat) : Prop := isB w k m ∧ ∀ b, isB w k b → b ≤ m
theorem isBd_one (w : List Nat) : isBd w 1 0 := ⟨⟨by omega, fun i h => by omega⟩, fun b h => by have := h.1; omega⟩
theorem isB_in {w : List Nat} {k a b : Nat} (h1 : isB w k a) (h2 : isB w k b) (h : b < a) : isB w a b := by
  refine ⟨h, fun i hi => ?_⟩
  rw [h2.2 i hi]
  have := h1.2 (a - b + i) (by omega)
  rw [this]
  congr 1
  have := h1.1
  omega
theorem isB_trans {w : List Nat} {k a b : Nat} (h1 : isB w k a) (h2 : isB w a b) : isB w k b := by
  have p1 := h1.1
  have p2 := h2.1
  refine ⟨by omega, fun i hi => ?_⟩
  rw [h2.2 i hi, h1.2 (a - b + i) (by omega)]
  congr 1
  omega
theorem isB_ext {w : List Nat} {k b : Nat} (h : isB w k b) (e : w[b]? = w[k]?) : isB w (k + 1) (b + 1) := by
  have p1 := h.1
  refine ⟨by omega, fun i hi => ?_⟩
  by_cases c : i < b
  · rw [h.2 i c]
    congr 1
    omega
  · have : i = b := by omega
    subst this
    rw [e]
    congr 1
    omega
theorem isB_cut {w : List Nat} {k b : Nat} (h : isB w (k + 1) (b + 1)) : isB w k b ∧ w[b]? = w[k]? := by
  have p1 := h.1
  refine ⟨⟨by omega, fun i hi => ?_⟩, ?_⟩
  · rw [h.2 i (by omega)]
    congr 1
    omega
  · rw [h.2 b (by omega)]
    congr 1
    omega
theorem isBd_eq {w : List Nat} {k s : Nat} (h : isB w k s) (big : ∀ b, isB w k b → s < b → w[b]? ≠ w[k]?) (e : w[s]? = w[k]?) : isBd w (k + 1) (s + 1) := by
  refine ⟨isB_ext h e, fun b hb => ?_⟩
  cases b with
  | zero => omega
  | succ b =>
    obtain ⟨h1, h2⟩ := isB_cut hb
    by_cases c : s < b
    · exact absurd h2 (big b h1 c)
    · omega
theorem isBd_ne {w : List Nat} {k : Nat} (k0 : 0 < k) (big : ∀ b, isB w k b → 0 < b → w[b]? ≠ w[k]?) (e : w[0]? ≠ w[k]?) : isBd w (k + 1) 0 := by
  refine ⟨⟨by omega, fun i h => by omega⟩, fun b hb => ?_⟩
  cases b with
  | zero => omega
  | succ b =>
    obtain ⟨h1, h2⟩ := isB_cut hb
    by_cases c : 0 < b
    · exact absurd h2 (big b h1 c)
    · have : b = 0 := by omega
      subst this
      exact absurd h2 e
/-- the least step, out of the longest border -/
theorem isBd_per {w : List Nat} {m : Nat} (h : isBd w w.length m) : per w (w.length - m) ∧ 0 < w.length - m ∧ ∀ q, 0 < q → q ≤ w.length → per w q → w.length - m ≤ q := by
  have p1 := h.1.1
  refine ⟨fun i hi => ?_, by omega, fun q q0 q1 q2 => ?_⟩
  · rw [h.1.2 i (by omega)]
    congr 1
    omega
  · have := h.2 (w.length - q) ⟨by omega, fun i hi => ?_⟩
    · omega
    · rw [q2 i (by omega)]
      congr 1
      omega
theorem isBd_rl {w : List Nat} {m : Nat} (h : isBd w w.length m) : IsRl w (if w.length % (w.length - m) = 0 then w.length - m else w.length) := by
  obtain ⟨h1, h2, h3⟩ := isBd_per h
  have n0 : 0 < w.length := by omega
  generalize w.length - m = p at *
  split
  · rename_i c
    exact ⟨h2, Nat.dvd_of_mod_eq_zero c, h1, fun s s0 s1 s2 => h3 s s0 (Nat.le_of_dvd n0 s1) s2⟩
  · rename_i c
    refine ⟨n0, Nat.dvd_refl _, per_len w, fun s s0 s1 s2 => ?_⟩
    obtain ⟨q, hq⟩ := s1
    by_cases q1 : q ≤ 1
    · have := Nat.mul_le_mul_left s q1
      omega
    · have := Nat.mul_le_mul_left s (show 2 ≤ q by omega)
      have ps := h3 s s0 (by omega) s2
      have pg := per_gcd _ p s (Nat.le_refl _) h1 s2 (by omega)
      have g0 : 0 < Nat.gcd p s := Nat.gcd_pos_of_pos_left _ h2
      have gd := Nat.gcd_dvd_left p s
      have gp := h3 _ g0 (by have := Nat.le_of_dvd h2 gd; omega) pg
      have e : Nat.gcd p s = p := Nat.le_antisymm (Nat.le_of_dvd h2 gd) gp
      have : p ∣ s := by rw [← e]; exact Nat.gcd_dvd_right p s
      exact absurd (Nat.mod_eq_zero_of_dvd (Nat.dvd_trans this ⟨q, hq⟩)) c
end LW
set_option Elab.async false
set_option linter.all false
set_option maxRecDepth 8000
set_option maxHeartbeats 4000000
namespace LW
open DL PySem L2
/-! ### evaluation: more of the operations, in plain words -/
/-- a comprehension over things of one kind, each kept -/
theorem lcL_map {α : Type} {vs : List Nat} {g : PyData → Ev → Option Ev} {t : FT} {f : FE} {env : Ev} (φ ψ : α → PyData) : ∀ (xs : List α) (acc : List PyData), acc.length + xs.length ≤ 16777216 →
    (∀ x ∈ xs, ∃ e1, g (φ x) (wipeE env vs) = some e1 ∧ ∃ e2 c e3, t e1 = some (true, e2) ∧ f e2 = some (c, e3) ∧ c.frozen = some (ψ x) ∧ backE env e3 vs = env) →
    dLcL vs g t f (xs.map φ) acc env = some (acc ++ xs.map ψ, env)
  | [], acc, _, _ => by simp [dLcL]
  | x :: xs, acc, hl, h => by
    obtain ⟨e1, h1, e2, c, e3, h3, h4, h5, h7⟩ := h x (List.mem_cons_self ..)
    have hl' : fits (acc.length < 16777216) = true := fits_of (by simp at hl; omega)
    rw [List.map_cons, dLcL, h1]
    simp only [h3, h4, h5, if_pos hl', h7]
    rw [lcL_map φ ψ xs (acc ++ [ψ x]) (by simp at hl ⊢; omega) (fun y hy => h y (List.mem_cons_of_mem _ hy)), List.map_cons]
    simp
/-- the same, some left out -/
theorem lcL_filter {α : Type} {vs : List Nat} {g : PyData → Ev → Option Ev} {t : FT} {f : FE} {env : Ev} (φ ψ : α → PyData) (p : α → Bool) : ∀ (xs : List α) (acc : List PyData), acc.length + xs.length ≤ 16777216 →
    (∀ x ∈ xs, ∃ e1 e2, g (φ x) (wipeE env vs) = some e1 ∧ t e1 = some (p x, e2) ∧ (p x = true → ∃ c e3, f e2 = some (c, e3) ∧ c.frozen = some (ψ x) ∧ backE env e3 vs = env) ∧ (p x = false → backE env e2 vs = env)) →
    dLcL vs g t f (xs.map φ) acc env = some (acc ++ (xs.filter p).map ψ, env)
  | [], acc, _, _ => by simp [dLcL]
  | x :: xs, acc, hl, h => by
    obtain ⟨e1, e2, h1, h2, h3, h4⟩ := h x (List.mem_cons_self ..)
    have hl' : fits (acc.length < 16777216) = true := fits_of (by simp at hl; omega)
    rw [List.map_cons, dLcL, h1]
    cases hp : p x with
    | true =>
      obtain ⟨c, e3, h5, h6, h7⟩ := h3 hp
      rw [hp] at h2
      simp only [h2, h5, h6, if_pos hl', h7]
      rw [lcL_filter φ ψ p xs (acc ++ [ψ x]) (by simp at hl ⊢; omega) (fun y hy => h y (List.mem_cons_of_mem _ hy)), List.filter_cons, if_pos hp]
      simp
    | false =>
      rw [hp] at h2
      simp only [h2, h4 hp]
      rw [lcL_filter φ ψ p xs acc (by simp at hl ⊢; omega) (fun y hy => h y (List.mem_cons_of_mem _ hy)), List.filter_cons, if_neg (by rw [hp]; simp)]
theorem boolsOf_map {α : Type} (f : α → Bool) : ∀ xs : List α, boolsOf (xs.map fun x => .bool (f x)) = some (xs.map f)
  | [] => rfl
  | x :: xs => by
    show (match boolsOf (xs.map fun x => PyData.bool (f x)) with | some bs => some (f x :: bs) | none => none) = _
    rw [boolsOf_map f xs]
    rfl
theorem numsOf_map {α : Type} (f : α → Int) : ∀ xs : List α, numsOf (xs.map fun x => .int (f x)) = some (xs.map f)
  | [] => rfl
  | x :: xs => by
    show (match numsOf (xs.map fun x => PyData.int (f x)) with | some bs => some (f x :: bs) | none => none) = _
    rw [numsOf_map f xs]
    rfl
theorem semAll_map {α : Type} (f : α → Bool) (xs : List α) : semAll [.ow (.list (xs.map fun x => .bool (f x)))] = some (.fz (.bool (xs.all f))) := by
  simp only [semAll, onBools, C.data, boolsOf_map]
  rw [List.all_map]
  rfl
theorem semAny_map {α : Type} (f : α → Bool) (xs : List α) : semAny [.ow (.list (xs.map fun x => .bool (f x)))] = some (.fz (.bool (xs.any f))) := by
  simp only [semAny, onBools, C.data, boolsOf_map]
  rw [List.any_map]
  rfl
theorem semMinL_map {α : Type} (f : α → Int) (xs : List α) (h : xs ≠ []) : semMinL [.ow (.list (xs.map fun x => .int (f x)))] = some (.fz (.int (leastI (xs.map f)))) := by
  simp only [semMinL, onNums, C.data, numsOf_map]
  cases xs with
  | nil => exact absurd rfl h
  | cons x xs => rfl
theorem semMaxL_map {α : Type} (f : α → Int) (xs : List α) (h : xs ≠ []) : semMaxL [.ow (.list (xs.map fun x => .int (f x)))] = some (.fz (.int (mostI (xs.map f)))) := by
  simp only [semMaxL, onNums, C.data, numsOf_map]
  cases xs with
  | nil => exact absurd rfl h
  | cons x xs => rfl
theorem semSum_map {α : Type} (f : α → Int) (xs : List α) : semSum [.ow (.list (xs.map fun x => .int (f x)))] = some (.fz (.int ((xs.map f).sum))) := by
  simp only [semSum, onNums, C.data, numsOf_map]
  rfl
theorem sl10_T (ds : List PyData) (k : Nat) : semSl10 [.fz (.tuple ds), .fz (.int (k : Int))] = some (.fz (.tuple (ds.drop k))) := by
  rw [← cut_from]
  rfl
theorem sl01_T (ds : List PyData) (k : Nat) : semSl01 [.fz (.tuple ds), .fz (.int (k : Int))] = some (.fz (.tuple (ds.take k))) := by
  rw [← cut_to]
  rfl
theorem ixT {l : List PyData} {k : Nat} {x : PyData} (h : l[k]? = some x) : semIx [.fz (.tuple l), .fz (.int (k : Int))] = some (.fz x) := by
  simp only [semIx, C.data]
  rw [atI_nat h]
theorem addT (xs ys : List PyData) (h : xs.length + ys.length ≤ 16777216) : semAdd [.fz (.tuple xs), .fz (.tuple ys)] = some (.fz (.tuple (xs ++ ys))) := by
  simp only [semAdd, C.data]
  exact if_pos (fits_of h)
theorem semMul_r (l : List Nat) (k : Nat) (hk : k < 16777216) (h : l.length * k ≤ 16777216) : semMul [.fz (S l), .fz (.int (k : Int))] = some (.fz (S (reps k l))) := semMul_S l k hk h
theorem semEq_bool (a b : Bool) : semEq [.fz (.bool a), .fz (.bool b)] = some (.fz (.bool (a == b))) := by
  simp [semEq, C.data, eqv_bool, depth_bool]
theorem semNe_bool (a b : Bool) : semNe [.fz (.bool a), .fz (.bool b)] = some (.fz (.bool (!(a == b)))) := by
  simp [semNe, C.data, eqv_bool, depth_bool]
theorem eqv_str (x : Str) : PyData.eqv (.str x) (.str x) = true := by
  unfold PyData.eqv
  simp
theorem semNe_str (x : Str) : semNe [.fz (.str x), .fz (.str x)] = some (.fz (.bool false)) := by
  simp only [semNe, C.data, eqv_str]
  simp [fits_iff, show dep (PyData.str x) = 0 from rfl]
theorem isN_none : semIsN [.fz .none, .fz .none] = some (.fz (.bool true)) := rfl
theorem isN_S (l : List Nat) : semIsN [.fz (S l), .fz .none] = some (.fz (.bool false)) := rfl
theorem semGt_nat (i j : Nat) : semGt [.fz (.int (i : Int)), .fz (.int (j : Int))] = some (.fz (.bool (decide (j < i)))) := by
  simp [semGt, C.data]
/-- a list's items, walked, each kept or the walk left -/
theorem forL_nx {g : PyData → Ev → Option Ev} {body : FS} (I : Ev → Prop) : ∀ (ds : List PyData), (∀ d ∈ ds, ∀ env, I env → ∃ e1 e2, g d env = some e1 ∧ body e1 = some (.nx, e2) ∧ I e2) → ∀ env, I env → ∃ e, dForL g body ds env = some (.nx, e) ∧ I e
  | [], _, env, h => ⟨env, rfl, h⟩
  | d :: ds, step, env, h => by
    obtain ⟨e1, e2, h1, h2, h3⟩ := step d (List.mem_cons_self ..) env h
    obtain ⟨e, h4, h5⟩ := forL_nx I ds (fun d hd => step d (List.mem_cons_of_mem _ hd)) e2 h3
    refine ⟨e, ?_, h5⟩
    rw [dForL, h1]
    simp only [h2]
    exact h4
end LW
set_option Elab.async false
set_option linter.all false
set_option maxRecDepth 100000
set_option maxHeartbeats 4000000
namespace LW
open DL PySem
noncomputable def e1_is_word : FE := dOrV (dChain semLe semLe (dVal (dC (S [32]))) (dSlot 1) (dVal (dC (S [36])))) (dChain semLe semLe (dVal (dC (S [38]))) (dSlot 1) (dVal (dC (S [126]))))
noncomputable def b_is_word : FS := dRet (dAndV (dOp (semIsi "str") [dSlot 0]) (dOp semAll [dVal (dLc (iAny (dVar 0)) [1] (gSet 1) (tYesD) (e1_is_word))]))
noncomputable def f_is_word : Fn := mkFn 1 1 b_is_word
noncomputable def t1_common : FT := dAnd (dTst (dOp semLt [dSlot 2, dVal (dOp semLen [dSlot 0])])) (dAnd (dTst (dOp semLt [dSlot 2, dVal (dOp semLen [dSlot 1])])) (dTst (dOp semEq [dVal (dOp semIx [dSlot 0, dSlot 2]), dVal (dOp semIx [dSlot 1, dSlot 2])])))
noncomputable def u1_common : FS := dAug 2 semAddI (dVal (dC (.int 1)))
noncomputable def b_common : FS := dSeq (dSet 2 (dC (.int 0))) (dSeq (dWhile (t1_common) (u1_common)) (dRet (dOp semSl01 [dSlot 0, dSlot 2])))
noncomputable def f_common : Fn := mkFn 2 1 b_common
noncomputable def t1_borders : FT := dAnd (dTst (dOp semGt [dSlot 3, dVal (dC (.int 0))])) (dTst (dOp semNe [dVal (dOp semIx [dSlot 0, dSlot 3]), dVal (dOp semIx [dSlot 0, dSlot 2])]))
noncomputable def u1_borders : FS := dSet 3 (dOp semIx [dSlot 1, dVal (dOp semSub [dSlot 3, dVal (dC (.int 1))])])
noncomputable def v1_borders : FS := dSeq (dSet 3 (dOp semIx [dSlot 1, dVal (dOp semNeg [dVal (dC (.int 1))])])) (dSeq (dWhile (t1_borders) (u1_borders)) (dExp (dMut 1 upAppend [dVal (dOp semAdd [dSlot 3, dVal (dOp semInt [dVal (dOp semEq [dVal (dOp semIx [dSlot 0, dSlot 3]), dVal (dOp semIx [dSlot 0, dSlot 2])])])])])))
noncomputable def b_borders : FS := dSeq (dSet 1 (dLst [dVal (dC (.int 0))])) (dSeq (dFor (iRg2 [dVal (dC (.int 1)), dVal (dOp semLen [dSlot 0])]) (gSet 2) (v1_borders)) (dRetV 1))
noncomputable def f_borders : Fn := mkFn 1 3 b_borders
noncomputable def b_least_round : FS := dSeq (dSet 1 (dOp semSub [dVal (dOp semLen [dSlot 0]), dVal (dOp semIx [dVal (dCall f_borders [dVal (dVar 0)]), dVal (dOp semNeg [dVal (dC (.int 1))])])])) (dRet (dIf (dTst (dOp semEq [dVal (dOp semMod [dVal (dOp semLen [dSlot 0]), dSlot 1]), dVal (dC (.int 0))])) (dOp semSl01 [dSlot 0, dSlot 1]) (dVar 0)))
noncomputable def f_least_round : Fn := mkFn 1 1 b_least_round
noncomputable def b_of_endless : FS := dRet (dOp semSl01 [dVal (dOp semMul [dSlot 0, dVal (dOp semAdd [dVal (dOp semDiv [dSlot 1, dVal (dOp semLen [dSlot 0])]), dVal (dC (.int 1))])]), dSlot 1])
noncomputable def f_of_endless : Fn := mkFn 2 0 b_of_endless
noncomputable def b_rounds_meet : FS := dSeq (dIfS (dTst (dOp semEq [dVal (dOp semAdd [dSlot 0, dSlot 1]), dVal (dOp semAdd [dSlot 1, dSlot 0])])) (dRet (dC .none)) (dNext)) (dSeq (dSet 2 (dOp semAdd [dVal (dOp semLen [dSlot 0]), dVal (dOp semLen [dSlot 1])])) (dRet (dCall f_common [dVal (dCall f_of_endless [dVal (dVar 0), dVal (dVar 2)]), dVal (dCall f_of_endless [dVal (dVar 1), dVal (dVar 2)])])))
noncomputable def f_rounds_meet : Fn := mkFn 2 1 b_rounds_meet
noncomputable def b_along : FS := dRet (dCall f_common [dVal (dVar 0), dVal (dCall f_of_endless [dVal (dVar 1), dVal (dOp semLen [dSlot 0])])])
noncomputable def f_along : Fn := mkFn 2 0 b_along
noncomputable def e1_is_pair : FE := dCall f_is_word [dVal (dVar 4)]
noncomputable def b_is_pair : FS := dSeq (dIfS (dOr (dNot (dTst (dOp (semIsi "tuple") [dSlot 0]))) (dOr (dTst (dOp semNe [dVal (dOp semLen [dSlot 0]), dVal (dC (.int 3))])) (dNot (dTst (dOp semAll [dVal (dLc (iAny (dVar 0)) [4] (gSet 4) (tYesD) (e1_is_pair))]))))) (dRet (dC (.bool false))) (dNext)) (dSeq (dAsg (gTuple 3 (gMore (gSet 1) (gMore (gSet 2) (gMore (gSet 3) (gEnd))))) (dVar 0)) (dSeq (dIfS (dTst (dOp semEq [dSlot 2, dVal (dC (S [97, 108, 108]))])) (dRet (dOp semEq [dSlot 3, dVal (dC (S []))])) (dNext)) (dSeq (dIfS (dTst (dOp semEq [dSlot 2, dVal (dC (S [114, 111, 117, 110, 100]))])) (dRet (dAndV (dOp semNe [dSlot 3, dVal (dC (S []))]) (dOp semEq [dVal (dCall f_least_round [dVal (dVar 3)]), dSlot 3]))) (dNext)) (dRet (dOp semEq [dSlot 2, dVal (dC (S [119, 111, 114, 100]))])))))
noncomputable def f_is_pair : Fn := mkFn 1 4 b_is_pair
noncomputable def b_heard : FS := dSeq (dAsg (gTuple 2 (gMore (gSet 2) (gMore (gSet 3) (gEnd)))) (dVar 0)) (dSeq (dIfS (dTst (dOp semEq [dSlot 2, dVal (dC (S [97, 108, 108]))])) (dRet (dVar 1)) (dNext)) (dRet (dIf (dTst (dOp semEq [dSlot 2, dVal (dC (S [119, 111, 114, 100]))])) (dCall f_common [dVal (dVar 1), dVal (dVar 3)]) (dCall f_along [dVal (dVar 1), dVal (dVar 3)]))))
noncomputable def f_heard : Fn := mkFn 2 2 b_heard
noncomputable def b_met : FS := dSeq (dIfS (dTst (dOp semEq [dVal (dOp semIx [dSlot 0, dVal (dC (.int 0))]), dVal (dC (S [97, 108, 108]))])) (dRet (dVar 1)) (dNext)) (dSeq (dIfS (dTst (dOp semEq [dVal (dOp semIx [dSlot 1, dVal (dC (.int 0))]), dVal (dC (S [97, 108, 108]))])) (dRet (dVar 0)) (dNext)) (dSeq (dIfS (dTst (dOp semEq [dVal (dOp semIx [dSlot 0, dVal (dC (.int 0))]), dVal (dC (S [119, 111, 114, 100]))])) (dRet (dTup [dVal (dC (S [119, 111, 114, 100])), dVal (dCall f_heard [dVal (dVar 1), dVal (dOp semIx [dSlot 0, dVal (dC (.int 1))])])])) (dNext)) (dSeq (dIfS (dTst (dOp semEq [dVal (dOp semIx [dSlot 1, dVal (dC (.int 0))]), dVal (dC (S [119, 111, 114, 100]))])) (dRet (dTup [dVal (dC (S [119, 111, 114, 100])), dVal (dCall f_heard [dVal (dVar 0), dVal (dOp semIx [dSlot 1, dVal (dC (.int 1))])])])) (dNext)) (dSeq (dSet 2 (dCall f_rounds_meet [dVal (dOp semIx [dSlot 0, dVal (dC (.int 1))]), dVal (dOp semIx [dSlot 1, dVal (dC (.int 1))])])) (dRet (dIf (dTst (dOp semIsN [dSlot 2, dVal (dC .none)])) (dVar 0) (dTup [dVal (dC (S [119, 111, 114, 100])), dVal (dVar 2)])))))))
noncomputable def f_met : Fn := mkFn 2 1 b_met
noncomputable def b_round_of : FS := dRet (dTup [dVal (dC (S [114, 111, 117, 110, 100])), dVal (dCall f_least_round [dVal (dVar 0)])])
noncomputable def f_round_of : Fn := mkFn 1 0 b_round_of
noncomputable def b_led_by : FS := dSeq (dAsg (gTuple 2 (gMore (gSet 2) (gMore (gSet 3) (gEnd)))) (dVar 1)) (dSeq (dIfS (dOr (dTst (dOp semEq [dSlot 2, dVal (dC (S [97, 108, 108]))])) (dAnd (dTst (dOp semEq [dSlot 2, dVal (dC (S [114, 111, 117, 110, 100]))])) (dTst (dOp semEq [dVal (dCall f_least_round [dVal (dVar 0)]), dSlot 3])))) (dRet (dCall f_round_of [dVal (dVar 0)])) (dNext)) (dSeq (dIfS (dTst (dOp semEq [dSlot 2, dVal (dC (S [119, 111, 114, 100]))])) (dRet (dTup [dVal (dC (S [119, 111, 114, 100])), dVal (dCall f_along [dVal (dOp semAdd [dSlot 0, dSlot 3]), dVal (dVar 0)])])) (dNext)) (dRet (dTup [dVal (dC (S [119, 111, 114, 100])), dVal (dOp semAdd [dSlot 0, dVal (dCall f_rounds_meet [dVal (dVar 0), dVal (dVar 3)])])]))))
noncomputable def f_led_by : Fn := mkFn 2 2 b_led_by
noncomputable def b_both : FS := dSeq (dIfS (dTst (dOp semGt [dVal (dOp semLen [dVal (dOp semIx [dSlot 0, dVal (dC (.int 0))])]), dVal (dOp semLen [dVal (dOp semIx [dSlot 1, dVal (dC (.int 0))])])])) (dPar 0 1 [dVal (dVar 1), dVal (dVar 0)]) (dNext)) (dSeq (dPar 2 3 [dVal (dOp semIx [dSlot 0, dVal (dC (.int 0))]), dVal (dOp semIx [dSlot 1, dVal (dC (.int 0))])]) (dSeq (dIfS (dTst (dOp semNe [dVal (dCall f_common [dVal (dVar 2), dVal (dVar 3)]), dSlot 2])) (dRet (dOp semAdd [dVal (dTup [dVal (dCall f_common [dVal (dVar 2), dVal (dVar 3)])]), dVal (dC (.tuple [S [119, 111, 114, 100], S []]))])) (dNext)) (dSeq (dIfS (dTst (dOp semEq [dSlot 2, dSlot 3])) (dRet (dOp semAdd [dVal (dTup [dVal (dVar 2)]), dVal (dCall f_met [dVal (dOp semSl10 [dSlot 0, dVal (dC (.int 1))]), dVal (dOp semSl10 [dSlot 1, dVal (dC (.int 1))])])])) (dNext)) (dRet (dOp semAdd [dVal (dTup [dVal (dVar 2)]), dVal (dCall f_met [dVal (dOp semSl10 [dSlot 0, dVal (dC (.int 1))]), dVal (dCall f_led_by [dVal (dOp semSl10 [dSlot 3, dVal (dOp semLen [dSlot 2])]), dVal (dOp semSl10 [dSlot 1, dVal (dC (.int 1))])])])])))))
noncomputable def f_both : Fn := mkFn 2 2 b_both
noncomputable def v1_pair_of : FS := dSet 1 (dCall f_both [dVal (dVar 1), dVal (dTup [dVal (dVar 2), dVal (dC (S [97, 108, 108])), dVal (dC (S []))])])
noncomputable def b_pair_of : FS := dSeq (dSet 1 (dTup [dVal (dOp semIx [dSlot 0, dVal (dC (.int 0))]), dVal (dC (S [97, 108, 108])), dVal (dC (S []))])) (dSeq (dFor (iAny (dOp semSl10 [dSlot 0, dVal (dC (.int 1))])) (gSet 2) (v1_pair_of)) (dRetV 1))
noncomputable def f_pair_of : Fn := mkFn 1 2 b_pair_of
noncomputable def b_law_hand : FS := dSeq (dSet 2 (dIf (dTst (dOp semLt [dSlot 1, dVal (dOp semLen [dSlot 0])])) (dOp semIx [dSlot 0, dSlot 1]) (dC (.int 0)))) (dSeq (dSet 3 (dOp semMod [dVal (dOp semAdd [dVal (dOp semAdd [dVal (dOp semMul [dVal (dOp semMod [dSlot 2, dVal (dC (.int 2305843009213693951))]), dVal (dC (.int 1000033))]), dVal (dOp semMul [dVal (dC (.int 6857)), dSlot 1])]), dVal (dC (.int 41))]), dVal (dC (.int 2305843009213693921))])) (dRet (dLst [dVal (dOp semMul [dVal (dOp semAbs [dSlot 2]), dVal (dOp semInt [dVal (dOp semGe [dVal (dOp semAbs [dSlot 2]), dVal (dOp semPow [dVal (dC (.int 10)), dVal (dC (.int 18))])])])]), dVal (dVar 3), dVal (dC (.int 0))])))
noncomputable def f_law_hand : Fn := mkFn 2 2 b_law_hand
noncomputable def b_law_take : FS := dSeq (dIfS (dTst (dOp semGt [dVal (dOp semIx [dSlot 0, dVal (dC (.int 0))]), dVal (dC (.int 0))])) (dSeq (dSet 6 (dOp semMod [dVal (dOp semIx [dSlot 0, dVal (dC (.int 0))]), dSlot 1])) (dSeq (dSetIx 0 (dVal (dOp semDiv [dVal (dOp semIx [dSlot 0, dVal (dC (.int 0))]), dSlot 1])) (dVal (dC (.int 0)))) (dRetV 6))) (dNext)) (dSeq (dSetIx 0 (dVal (dOp semAdd [dVal (dOp semIx [dSlot 0, dVal (dC (.int 2))]), dVal (dC (.int 1))])) (dVal (dC (.int 2)))) (dSeq (dSet 2 (dOp semAdd [dVal (dOp semIx [dSlot 0, dVal (dC (.int 1))]), dVal (dOp semMul [dVal (dC (.int 15485867)), dVal (dOp semIx [dSlot 0, dVal (dC (.int 2))])])])) (dSeq (dSet 3 (dOp semAdd [dVal (dOp semAdd [dVal (dOp semMod [dVal (dOp semIx [dSlot 0, dVal (dC (.int 1))]), dVal (dC (.int 7907))]), dVal (dOp semMul [dVal (dC (.int 32452867)), dVal (dOp semIx [dSlot 0, dVal (dC (.int 2))])])]), dVal (dC (.int 19))])) (dSeq (dSet 4 (dOp semMod [dVal (dOp semMul [dSlot 2, dSlot 3]), dVal (dC (.int 2305843009213693951))])) (dSeq (dSet 5 (dOp semAdd [dVal (dOp semAdd [dVal (dOp semMod [dSlot 4, dVal (dC (.int 1000003))]), dVal (dOp semMul [dVal (dC (.int 6700441)), dVal (dOp semIx [dSlot 0, dVal (dC (.int 2))])])]), dVal (dC (.int 7))])) (dRet (dOp semMod [dVal (dOp semDiv [dVal (dOp semMod [dVal (dOp semMul [dVal (dOp semAdd [dSlot 4, dVal (dC (.int 11))]), dSlot 5]), dVal (dC (.int 2305843009213693907))]), dVal (dC (.int 64))]), dSlot 1])))))))
noncomputable def f_law_take : Fn := mkFn 2 5 b_law_take
noncomputable def b_law_pick : FS := dRet (dOp semIx [dSlot 1, dVal (dCall f_law_take [dSlot 0, dVal (dOp semLen [dSlot 1])])])
noncomputable def f_law_pick : Fn := mkFn 2 0 b_law_pick
noncomputable def b_law_signs : FS := dRet (dCall f_law_pick [dSlot 0, dVal (dLst [dVal (dC (S [97, 98])), dVal (dC (S [98, 97])), dVal (dC (S [97, 32])), dVal (dC (S [97, 98, 99])), dVal (dC (S [126, 34])), dVal (dC (S [48, 92, 120])), dVal (dC (S [97])), dVal (dC (S [97, 65]))])])
noncomputable def f_law_signs : Fn := mkFn 1 0 b_law_signs
noncomputable def e1_law_word : FE := dCall f_law_pick [dSlot 0, dVal (dVar 1)]
noncomputable def b_law_word : FS := dRet (dMth semJoin (dVal (dC (S []))) [dVal (dLc (iRg1 [dVal (dCall f_law_take [dSlot 0, dVal (dOp semAdd [dSlot 2, dVal (dC (.int 1))])])]) [3] (gSet 3) (tYesD) (e1_law_word))])
noncomputable def f_law_word : Fn := mkFn 3 1 b_law_word
noncomputable def e1_law_words : FE := dOp semAdd [dSlot 3, dVal (dCall f_law_word [dSlot 0, dVal (dVar 1), dVal (dC (.int 5))])]
noncomputable def e2_law_words : FE := dOp semAdd [dSlot 3, dVal (dOp semMul [dSlot 5, dVal (dCall f_law_take [dSlot 0, dVal (dC (.int 4))])])]
noncomputable def e3_law_words : FE := dCall f_law_word [dSlot 0, dVal (dVar 1), dVal (dC (.int 6))]
noncomputable def b_law_words : FS := dSeq (dAsg (gTuple 3 (gMore (gSet 2) (gMore (gSet 3) (gMore (gSet 4) (gEnd))))) (dTup [dVal (dCall f_law_take [dSlot 0, dVal (dC (.int 7))]), dVal (dCall f_law_word [dSlot 0, dVal (dVar 1), dVal (dC (.int 4))]), dVal (dOp semAdd [dVal (dC (.int 1)), dVal (dCall f_law_take [dSlot 0, dVal (dC (.int 5))])])])) (dSeq (dAsg (gTuple 2 (gMore (gSet 5) (gMore (gSet 6) (gEnd)))) (dTup [dVal (dOp semAdd [dVal (dCall f_law_word [dSlot 0, dVal (dVar 1), dVal (dC (.int 3))]), dVal (dOp semIx [dSlot 1, dVal (dC (.int 0))])]), dVal (dOp semAdd [dVal (dCall f_law_word [dSlot 0, dVal (dVar 1), dVal (dC (.int 4))]), dVal (dOp semIx [dSlot 1, dVal (dOp semNeg [dVal (dC (.int 1))])])])])) (dSeq (dIfS (dTst (dOp semEq [dSlot 2, dVal (dC (.int 0))])) (dRet (dLc (iRg1 [dSlot 4]) [7] (gSet 7) (tYesD) (e3_law_words))) (dNext)) (dSeq (dIfS (dTst (dOp semEq [dSlot 2, dVal (dC (.int 1))])) (dRet (dLst [dVal (dVar 3)])) (dNext)) (dSeq (dIfS (dTst (dOp semEq [dSlot 2, dVal (dC (.int 2))])) (dRet (dOp semAdd [dVal (dLc (iRg1 [dSlot 4]) [7] (gSet 7) (tYesD) (e2_law_words)), dVal (dLst [dVal (dVar 3)])])) (dNext)) (dSeq (dIfS (dTst (dOp semEq [dSlot 2, dVal (dC (.int 3))])) (dRet (dLst [dVal (dVar 3), dVal (dOp semAdd [dSlot 3, dVal (dOp semMul [dSlot 5, dVal (dOp semAdd [dVal (dC (.int 1)), dVal (dCall f_law_take [dSlot 0, dVal (dC (.int 3))])])])]), dVal (dOp semAdd [dSlot 3, dVal (dOp semMul [dSlot 6, dVal (dOp semAdd [dVal (dC (.int 1)), dVal (dCall f_law_take [dSlot 0, dVal (dC (.int 3))])])])])])) (dNext)) (dSeq (dIfS (dTst (dOp semEq [dSlot 2, dVal (dC (.int 4))])) (dRet (dLst [dVal (dOp semAdd [dVal (dOp semAdd [dSlot 3, dVal (dOp semMul [dSlot 5, dVal (dC (.int 2))])]), dSlot 6]), dVal (dVar 3), dVal (dOp semAdd [dVal (dOp semAdd [dSlot 3, dVal (dOp semMul [dSlot 5, dVal (dC (.int 3))])]), dVal (dOp semSl01 [dSlot 6, dVal (dC (.int 1))])]), dVal (dOp semAdd [dSlot 3, dSlot 5])])) (dNext)) (dRet (dOp semAdd [dVal (dLc (iRg1 [dSlot 4]) [7] (gSet 7) (tYesD) (e1_law_words)), dVal (dOp semMul [dVal (dLst [dVal (dVar 3)]), dVal (dOp semInt [dVal (dOp semEq [dSlot 2, dVal (dC (.int 5))])])])]))))))))
noncomputable def f_law_words : Fn := mkFn 2 6 b_law_words
noncomputable def e1_law_begin : FE := dOp semEq [dVal (dOp semIx [dSlot 3, dSlot 2]), dVal (dOp semIx [dVal (dOp semIx [dSlot 0, dVal (dC (.int 0))]), dSlot 2])]
noncomputable def t1_law_begin : FT := dAnd (dTst (dOp semLt [dSlot 2, dSlot 1])) (dTst (dOp semAll [dVal (dLc (iAny (dVar 0)) [3] (gSet 3) (tYesD) (e1_law_begin))]))
noncomputable def u1_law_begin : FS := dSet 2 (dOp semAdd [dSlot 2, dVal (dC (.int 1))])
noncomputable def e2_law_begin : FE := dOp semLen [dSlot 3]
noncomputable def b_law_begin : FS := dSeq (dAsg (gTuple 2 (gMore (gSet 1) (gMore (gSet 2) (gEnd)))) (dTup [dVal (dOp semMinL [dVal (dLc (iAny (dVar 0)) [3] (gSet 3) (tYesD) (e2_law_begin))]), dVal (dC (.int 0))])) (dSeq (dWhile (t1_law_begin) (u1_law_begin)) (dRet (dOp semSl01 [dVal (dOp semIx [dSlot 0, dVal (dC (.int 0))]), dSlot 2])))
noncomputable def f_law_begin : Fn := mkFn 1 3 b_law_begin
noncomputable def v1_law_round : FS := dIfS (dTst (dOp semEq [dVal (dOp semMul [dVal (dOp semSl01 [dSlot 0, dSlot 1]), dVal (dOp semDiv [dVal (dOp semLen [dSlot 0]), dSlot 1])]), dSlot 0])) (dRet (dOp semSl01 [dSlot 0, dSlot 1])) (dNext)
noncomputable def b_law_round : FS := dSeq (dFor (iRg2 [dVal (dC (.int 1)), dVal (dOp semLen [dSlot 0])]) (gSet 1) (v1_law_round)) (dRet (dVar 0))
noncomputable def f_law_round : Fn := mkFn 1 1 b_law_round
noncomputable def e1_law_due : FE := dOp semSl01 [dVal (dOp semMul [dSlot 5, dVal (dOp semAdd [dVal (dOp semDiv [dSlot 3, dVal (dOp semLen [dSlot 5])]), dVal (dC (.int 1))])]), dSlot 3]
noncomputable def e2_law_due : FE := dOp semLen [dSlot 5]
noncomputable def e3_law_due : FE := dOp semSl10 [dSlot 6, dVal (dOp semLen [dSlot 1])]
noncomputable def b_law_due : FS := dSeq (dSet 1 (dCall f_law_begin [dVal (dVar 0)])) (dSeq (dSet 2 (dOp semSortSet [dVal (dLc (iAny (dVar 0)) [6] (gSet 6) (tYesD) (e3_law_due))])) (dSeq (dIfS (dTst (dOp semEq [dVal (dOp semLen [dSlot 2]), dVal (dC (.int 1))])) (dRet (dTup [dVal (dVar 1), dVal (dC (S [97, 108, 108])), dVal (dC (S []))])) (dNext)) (dSeq (dIfS (dTst (dOp semNe [dVal (dOp semIx [dSlot 2, dVal (dC (.int 0))]), dVal (dC (S []))])) (dRet (dTup [dVal (dVar 1), dVal (dC (S [119, 111, 114, 100])), dVal (dC (S []))])) (dNext)) (dSeq (dSet 3 (dOp semMul [dVal (dC (.int 2)), dVal (dOp semMaxL [dVal (dLc (iAny (dVar 2)) [5] (gSet 5) (tYesD) (e2_law_due))])])) (dSeq (dSet 4 (dCall f_law_begin [dVal (dLc (iAny (dOp semSl10 [dSlot 2, dVal (dC (.int 1))])) [5] (gSet 5) (tYesD) (e1_law_due))])) (dRet (dIf (dTst (dOp semEq [dVal (dOp semLen [dSlot 4]), dSlot 3])) (dTup [dVal (dVar 1), dVal (dC (S [114, 111, 117, 110, 100])), dVal (dCall f_law_round [dVal (dOp semIx [dSlot 2, dVal (dC (.int 1))])])]) (dTup [dVal (dVar 1), dVal (dC (S [119, 111, 114, 100])), dVal (dVar 4)]))))))))
noncomputable def f_law_due : Fn := mkFn 1 6 b_law_due
noncomputable def e1_law_is_word : FE := dOrV (dChain semLe semLe (dVal (dC (S [32]))) (dSlot 1) (dVal (dC (S [36])))) (dChain semLe semLe (dVal (dC (S [38]))) (dSlot 1) (dVal (dC (S [126]))))
noncomputable def b_law_is_word : FS := dRet (dAndV (dOp (semIsi "str") [dSlot 0]) (dOp semAll [dVal (dLc (iAny (dVar 0)) [1] (gSet 1) (tYesD) (e1_law_is_word))]))
noncomputable def f_law_is_word : Fn := mkFn 1 1 b_law_is_word
noncomputable def e1_law_is_pair : FE := dCall f_law_is_word [dVal (dVar 1)]
noncomputable def b_law_is_pair : FS := dSeq (dIfS (dOr (dNot (dTst (dOp (semIsi "tuple") [dSlot 0]))) (dOr (dTst (dOp semNe [dVal (dOp semLen [dSlot 0]), dVal (dC (.int 3))])) (dNot (dTst (dOp semAll [dVal (dLc (iAny (dVar 0)) [1] (gSet 1) (tYesD) (e1_law_is_pair))]))))) (dRet (dC (.bool false))) (dNext)) (dSeq (dIfS (dTst (dOp semEq [dVal (dOp semIx [dSlot 0, dVal (dC (.int 1))]), dVal (dC (S [97, 108, 108]))])) (dRet (dOp semEq [dVal (dOp semIx [dSlot 0, dVal (dC (.int 2))]), dVal (dC (S []))])) (dNext)) (dRet (dOrV (dOp semEq [dVal (dOp semIx [dSlot 0, dVal (dC (.int 1))]), dVal (dC (S [119, 111, 114, 100]))]) (dAndV (dOp semEq [dVal (dOp semIx [dSlot 0, dVal (dC (.int 1))]), dVal (dC (S [114, 111, 117, 110, 100]))]) (dAndV (dOp semNe [dVal (dOp semIx [dSlot 0, dVal (dC (.int 2))]), dVal (dC (S []))]) (dOp semEq [dVal (dCall f_law_round [dVal (dOp semIx [dSlot 0, dVal (dC (.int 2))])]), dVal (dOp semIx [dSlot 0, dVal (dC (.int 2))])]))))))
noncomputable def f_law_is_pair : Fn := mkFn 1 1 b_law_is_pair
noncomputable def v1_law_odd : FS := dSet 4 (dCall f_law_pick [dSlot 0, dVal (dLst [dVal (dTup [dVal (dVar 4)]), dVal (dLst [dVal (dVar 4)]), dVal (dTup [dVal (dVar 4), dVal (dC (S [97, 108, 108])), dVal (dC (S []))])])])
noncomputable def b_law_odd : FS := dSeq (dSet 2 (dOp semAdd [dVal (dCall f_law_word [dSlot 0, dVal (dVar 1), dVal (dC (.int 3))]), dVal (dOp semIx [dSlot 1, dVal (dC (.int 0))])])) (dSeq (dSet 3 (dLst [dVal (dC .none), dVal (dC (.bool true)), dVal (dC (.int 0)), dVal (dC (.int 1)), dVal (dC (S [])), dVal (dVar 2), dVal (dOp semMul [dSlot 2, dVal (dC (.int 2))]), dVal (dOp semAdd [dSlot 2, dVal (dC (S [10]))]), dVal (dC (S [9])), dVal (dC (S [97, 10, 98])), dVal (dC (S [97, 108, 108])), dVal (dC (S [119, 111, 114, 100]))])) (dSeq (dSet 3 (dOp semAdd [dSlot 3, dVal (dLst [dVal (dC (S [114, 111, 117, 110, 100])), dVal (dC (S [65, 76, 76])), dVal (dC (S [97, 108, 108, 32])), dVal (dTup [dVal (dC (S [97, 108, 108]))]), dVal (dLst []), dVal (dDict0), dVal (dTup []), dVal (dTup [dVal (dVar 2)]), dVal (dLst [dVal (dVar 2)]), dVal (dDict [dVal (dVar 2), dVal (dVar 2)])])])) (dSeq (dSet 4 (dCall f_law_pick [dSlot 0, dVal (dVar 3)])) (dSeq (dFor (iRg1 [dVal (dCall f_law_pick [dSlot 0, dVal (dLst [dVal (dC (.int 0)), dVal (dC (.int 0)), dVal (dC (.int 0)), dVal (dC (.int 1)), dVal (dC (.int 48))])])]) (gSet 5) (v1_law_odd)) (dRetV 4)))))
noncomputable def f_law_odd : Fn := mkFn 2 4 b_law_odd
noncomputable def b_law_bent : FS := dSeq (dPar3 3 4 5 [dVal (dCall f_law_take [dSlot 0, dVal (dC (.int 8))]), dVal (dCall f_law_take [dSlot 0, dVal (dC (.int 3))]), dVal (dCall f_law_odd [dSlot 0, dVal (dVar 1)])]) (dSeq (dIfS (dTst (dOp semLt [dSlot 3, dVal (dC (.int 3))])) (dRet (dOp semAdd [dVal (dOp semAdd [dVal (dOp semSl01 [dSlot 2, dSlot 4]), dVal (dTup [dVal (dVar 5)])]), dVal (dOp semSl10 [dSlot 2, dVal (dOp semAdd [dSlot 4, dVal (dC (.int 1))])])])) (dNext)) (dSeq (dIfS (dTst (dOp semEq [dSlot 3, dVal (dC (.int 3))])) (dRet (dOp semAdd [dVal (dOp semAdd [dVal (dOp semSl01 [dSlot 2, dVal (dC (.int 1))]), dVal (dTup [dVal (dCall f_law_pick [dSlot 0, dVal (dLst [dVal (dC (S [97, 108, 108])), dVal (dC (S [119, 111, 114, 100])), dVal (dC (S [114, 111, 117, 110, 100]))])])])]), dVal (dOp semSl10 [dSlot 2, dVal (dC (.int 2))])])) (dNext)) (dSeq (dIfS (dTst (dOp semEq [dSlot 3, dVal (dC (.int 4))])) (dRet (dOp semAdd [dVal (dOp semSl01 [dSlot 2, dVal (dC (.int 2))]), dVal (dTup [dVal (dOp semMul [dVal (dCall f_law_word [dSlot 0, dVal (dVar 1), dVal (dC (.int 3))]), dVal (dOp semAdd [dVal (dC (.int 1)), dVal (dCall f_law_take [dSlot 0, dVal (dC (.int 3))])])])])])) (dNext)) (dSeq (dIfS (dTst (dOp semEq [dSlot 3, dVal (dC (.int 5))])) (dRet (dOp semIx [dVal (dLst [dVal (dOp semListOf [dSlot 2]), dVal (dOp semAdd [dSlot 2, dVal (dTup [dVal (dVar 5)])]), dVal (dOp semSl01 [dSlot 2, dVal (dC (.int 2))])]), dSlot 4])) (dNext)) (dRet (dIf (dTst (dOp semEq [dSlot 3, dVal (dC (.int 6))])) (dOp semRev [dSlot 2]) (dVar 5)))))))
noncomputable def f_law_bent : Fn := mkFn 3 3 b_law_bent
noncomputable def b_law_some_words : FS := dSeq (dAsg (gTuple 3 (gMore (gSet 2) (gMore (gSet 3) (gMore (gSet 4) (gEnd))))) (dVar 0)) (dSeq (dIfS (dTst (dOp semEq [dSlot 3, dVal (dC (S [97, 108, 108]))])) (dRet (dTup [dVal (dVar 2)])) (dNext)) (dSeq (dIfS (dTst (dOp semEq [dSlot 3, dVal (dC (S [114, 111, 117, 110, 100]))])) (dRet (dTup [dVal (dOp semAdd [dSlot 2, dSlot 4]), dVal (dVar 2)])) (dNext)) (dRet (dTup [dVal (dOp semAdd [dVal (dOp semAdd [dVal (dOp semAdd [dSlot 2, dSlot 4]), dVal (dC (S [120]))]), dVal (dOp semIx [dSlot 1, dVal (dC (.int 0))])]), dVal (dVar 2), dVal (dOp semAdd [dVal (dOp semAdd [dSlot 2, dSlot 4]), dVal (dC (S [121]))])]))))
noncomputable def f_law_some_words : Fn := mkFn 2 3 b_law_some_words
noncomputable def v1_law : FS := dSeq (dPar 7 8 [dVal (dOp semReprO [dSlot 6]), dVal (dCall f_law_is_pair [dVal (dVar 6)])]) (dSeq (dIfS (dOr (dTst (dOp semNe [dVal (dOp semReprO [dVal (dCall f_is_pair [dVal (dVar 6)])]), dVal (dOp semReprO [dSlot 8])])) (dTst (dOp semNe [dVal (dOp semReprO [dSlot 6]), dSlot 7]))) (dRet (dC (.bool false))) (dNext)) (dIfS (dAnd (dTst (dVar 8)) (dTst (dOp semNe [dVal (dCall f_pair_of [dVal (dCall f_law_some_words [dVal (dVar 6), dVal (dVar 3)])]), dSlot 6]))) (dRet (dC (.bool false))) (dNext)))
noncomputable def v2_law : FS := dSeq (dExp (dMut 4 upAppend [dVal (dCall f_law_bent [dSlot 2, dVal (dVar 3), dVal (dVar 5)])])) (dSeq (dExp (dMut 4 upAppend [dVal (dCall f_law_bent [dSlot 2, dVal (dVar 3), dVal (dVar 5)])])) (dExp (dMut 4 upAppend [dVal (dCall f_law_odd [dSlot 2, dVal (dVar 3)])])))
noncomputable def e1_law : FE := dCall f_law_due [dVal (dCall f_law_words [dSlot 2, dVal (dVar 3)])]
noncomputable def v3_law : FS := dSeq (dSet 2 (dCall f_law_hand [dSlot 0, dVal (dVar 1)])) (dSeq (dSet 3 (dCall f_law_signs [dSlot 2])) (dSeq (dSet 4 (dLc (iRg1 [dVal (dC (.int 8))]) [9] (gSet 9) (tYesD) (e1_law))) (dSeq (dFor (iAny (dOp semListOf [dSlot 4])) (gSet 5) (v2_law)) (dFor (iAny (dOp semAdd [dSlot 4, dVal (dLst [dVal (dTup [dVal (dC (S [])), dVal (dC (S [97, 108, 108])), dVal (dC (S []))]), dVal (dTup [dVal (dC (S [])), dVal (dC (S [119, 111, 114, 100])), dVal (dC (S []))]), dVal (dTup [dVal (dC (S [])), dVal (dC (S [114, 111, 117, 110, 100])), dVal (dC (S []))])])])) (gSet 6) (v1_law)))))
noncomputable def b_law : FS := dSeq (dFor (iRg1 [dVal (dOp semMax2 [dVal (dC (.int 1)), dVal (dOp semMin2 [dVal (dC (.int 4)), dVal (dOp semLen [dSlot 0])])])]) (gSet 1) (v3_law)) (dRet (dC (.bool true)))
noncomputable def f_law : Fn := mkFn 1 9 b_law
end LW
set_option Elab.async false
set_option linter.all false
set_option maxRecDepth 8000
set_option maxHeartbeats 4000000
namespace LW
open DL PySem L2
/-! ### the law's own helpers, by what they hand back -/
abbrev hand (a b c : Int) : PyData := .list [.int a, .int b, .int c]
structure Hd (a b c : Int) (n : Nat) : Prop where
  a0 : 0 ≤ a
  b0 : 0 ≤ b
  b1 : b < 2305843009213693951
  c0 : 0 ≤ c
  c1 : c ≤ n
theorem Hd.mono {a b c : Int} {n m : Nat} (h : Hd a b c n) (hm : n ≤ m) : Hd a b c m := ⟨h.a0, h.b0, h.b1, h.c0, Int.le_trans h.c1 (Int.ofNat_le.mpr hm)⟩
/-- the mixed number that the next is drawn of -/
def mixX (b c : Int) : Int :=
  ((b + 15485867 * (c + 1)) * (b % 7907 + 32452867 * (c + 1) + 19) % 2305843009213693951 + 11) * ((b + 15485867 * (c + 1)) * (b % 7907 + 32452867 * (c + 1) + 19) % 2305843009213693951 % 1000003 + 6700441 * (c + 1) + 7) % 2305843009213693907 / 64
theorem take_neg (a b c many : Int) (n : Nat) (h : Hd a b c n) (hn : n < 68719476736) (ha : ¬ 0 < a) (hm : 0 < many) :
    f_law_take [.pw (hand a b c), .fz (.int many)] = some (.fz (.int (mixX b c % many)), [some (.pw (hand a b (c + 1))), some (.fz (.int many))]) := by
  obtain ⟨h1, h2, h3, h4, h5⟩ := h
  have m1 : mulOk 15485867 (c + 1) = true := mulOk_l (by omega) (by omega)
  have m2 : mulOk 32452867 (c + 1) = true := mulOk_l (by omega) (by omega)
  have m3 : mulOk 6700441 (c + 1) = true := mulOk_l (by omega) (by omega)
  have m4 : ∀ z, mulOk (b + 15485867 * (c + 1)) z = true := fun z => mulOk_l (by omega) (by omega)
  have m5 : ∀ y z, mulOk (y % 2305843009213693951 + 11) z = true := fun y z => mulOk_l (by omega) (by omega)
  have l1 : Nat.log2 64 < 9000 := by decide
  simp [f_law_take, b_law_take, dSeq, dIfS, dTst, dOp, dOs, dVal, dSlot, dC, dVar, dIf, dAnd, dOr, dNot, dAndV, dOrV, dNotV, dTup, dLst, seeAll, see, valDatas, C.data, C.put, C.frozen, dSet, settable, dSetIx, ownL, dMut, dRetV, dRet, dRetN, dExp, dNext, dPar, dPar3, iAny, iEnumD, iZipD, lstOf, dChain, dAug, dCall, passAll, passO, ownSlots, nodupB, writeAll, dFor, iRg1, iRg2, iLst, iTpl, iStrD, gSet, gTuple, gMore, gEnd, dAsg, dMth, isStr, mkFn, isNone, intOf, DL.cutD, dLc, plainAt, tYesD, dSl11, semAdd, semSub, semMul, semMod, semDiv, semPow, semNeg, semLt, semLe, semGt, semGe, semEq, semNe, semIsN, semNotN, semLen, semAbs, semInt, semMax2, semMin2, semJoin, semIx, semSl01, semSl10, semSl11, semSl00, semAddI, upAppend, upPop, fits_iff, ha, hm, m1, m2, m3, m4, m5, atI0, atI1, atI2, ixN, l1, mixX]
theorem take_pos (a b c many : Int) (ha : 0 < a) (hm : 0 < many) (hb : many.natAbs.log2 < 9000) :
    f_law_take [.pw (hand a b c), .fz (.int many)] = some (.fz (.int (a % many)), [some (.pw (hand (a / many) b c)), some (.fz (.int many))]) := by
  simp [f_law_take, b_law_take, dSeq, dIfS, dTst, dOp, dOs, dVal, dSlot, dC, dVar, dIf, dAnd, dOr, dNot, dAndV, dOrV, dNotV, dTup, dLst, seeAll, see, valDatas, C.data, C.put, C.frozen, dSet, settable, dSetIx, ownL, dMut, dRetV, dRet, dRetN, dExp, dNext, dPar, dPar3, iAny, iEnumD, iZipD, lstOf, dChain, dAug, dCall, passAll, passO, ownSlots, nodupB, writeAll, dFor, iRg1, iRg2, iLst, iTpl, iStrD, gSet, gTuple, gMore, gEnd, dAsg, dMth, isStr, mkFn, isNone, intOf, DL.cutD, dLc, plainAt, tYesD, dSl11, semAdd, semSub, semMul, semMod, semDiv, semPow, semNeg, semLt, semLe, semGt, semGe, semEq, semNe, semIsN, semNotN, semLen, semAbs, semInt, semMax2, semMin2, semJoin, semIx, semSl01, semSl10, semSl11, semSl00, semAddI, upAppend, upPop, fits_iff, atI0, atI1, atI2, ixN, ha, hm, hb]
theorem take_ok {a b c many : Int} {n : Nat} (h : Hd a b c n) (hn : n < 68719476736) (hm : 0 < many) (hb : many.natAbs.log2 < 9000) :
    ∃ r a' c', f_law_take [.pw (hand a b c), .fz (.int many)] = some (.fz (.int r), [some (.pw (hand a' b c')), some (.fz (.int many))]) ∧ 0 ≤ r ∧ r < many ∧ Hd a' b c' (n + 1) := by
  by_cases ha : 0 < a
  · exact ⟨_, _, _, take_pos a b c many ha hm hb, Int.emod_nonneg _ (by omega), Int.emod_lt_of_pos _ hm, ⟨Int.ediv_nonneg h.a0 (by omega), h.b0, h.b1, h.c0, by have := h.c1; omega⟩⟩
  · exact ⟨_, a, c + 1, take_neg a b c many n h hn ha hm, Int.emod_nonneg _ (by omega), Int.emod_lt_of_pos _ hm, ⟨h.a0, h.b0, h.b1, by have := h.c0; omega, by have := h.c1; omega⟩⟩
/-- a sign of a word that isn't empty -/
theorem pickS_ok {a b c : Int} {n : Nat} {l : List Nat} (h : Hd a b c n) (hn : n < 68719476736) (hl : l ≠ []) (hs : l.length < 18446744073709551616) :
    ∃ x a' c', f_law_pick [.pw (hand a b c), .fz (S l)] = some (.fz (S [x]), [some (.pw (hand a' b c')), some (.fz (S l))]) ∧ x ∈ l ∧ Hd a' b c' (n + 1) := by
  have p : 0 < l.length := List.length_pos_iff.mpr hl
  obtain ⟨r, a', c', e, h1, h2, h3⟩ := take_ok (many := (l.length : Int)) h hn (by omega) (log2_len hs p)
  obtain ⟨x, hx, hm⟩ := atI_pos (xs := l) h1 h2
  refine ⟨x, a', c', ?_, hm, h3⟩
  simp [f_law_pick, b_law_pick, dSeq, dIfS, dTst, dOp, dOs, dVal, dSlot, dC, dVar, dIf, dAnd, dOr, dNot, dAndV, dOrV, dNotV, dTup, dLst, seeAll, see, valDatas, C.data, C.put, C.frozen, dSet, settable, dSetIx, ownL, dMut, dRetV, dRet, dRetN, dExp, dNext, dPar, dPar3, iAny, iEnumD, iZipD, lstOf, dChain, dAug, dCall, passAll, passO, ownSlots, nodupB, writeAll, dFor, iRg1, iRg2, iLst, iTpl, iStrD, gSet, gTuple, gMore, gEnd, dAsg, dMth, isStr, mkFn, isNone, intOf, DL.cutD, dLc, plainAt, tYesD, dSl11, semAdd, semSub, semMul, semMod, semDiv, semPow, semNeg, semLt, semLe, semGt, semGe, semEq, semNe, semIsN, semNotN, semLen, semAbs, semInt, semMax2, semMin2, semJoin, semIx, semSl01, semSl10, semSl11, semSl00, semAddI, upAppend, upPop, e, hx]
/-- an item of a list that isn't empty -/
theorem pickL_ok {a b c : Int} {n : Nat} {ds : List PyData} (h : Hd a b c n) (hn : n < 68719476736) (hl : ds ≠ []) (hs : ds.length < 18446744073709551616) :
    ∃ x a' c', f_law_pick [.pw (hand a b c), .ow (.list ds)] = some (.fz x, [some (.pw (hand a' b c')), some (.ow (.list ds))]) ∧ x ∈ ds ∧ Hd a' b c' (n + 1) := by
  have p : 0 < ds.length := List.length_pos_iff.mpr hl
  obtain ⟨r, a', c', e, h1, h2, h3⟩ := take_ok (many := (ds.length : Int)) h hn (by omega) (log2_len hs p)
  obtain ⟨x, hx, hm⟩ := atI_pos (xs := ds) h1 h2
  refine ⟨x, a', c', ?_, hm, h3⟩
  simp [f_law_pick, b_law_pick, dSeq, dIfS, dTst, dOp, dOs, dVal, dSlot, dC, dVar, dIf, dAnd, dOr, dNot, dAndV, dOrV, dNotV, dTup, dLst, seeAll, see, valDatas, C.data, C.put, C.frozen, dSet, settable, dSetIx, ownL, dMut, dRetV, dRet, dRetN, dExp, dNext, dPar, dPar3, iAny, iEnumD, iZipD, lstOf, dChain, dAug, dCall, passAll, passO, ownSlots, nodupB, writeAll, dFor, iRg1, iRg2, iLst, iTpl, iStrD, gSet, gTuple, gMore, gEnd, dAsg, dMth, isStr, mkFn, isNone, intOf, DL.cutD, dLc, plainAt, tYesD, dSl11, semAdd, semSub, semMul, semMod, semDiv, semPow, semNeg, semLt, semLe, semGt, semGe, semEq, semNe, semIsN, semNotN, semLen, semAbs, semInt, semMax2, semMin2, semJoin, semIx, semSl01, semSl10, semSl11, semSl00, semAddI, upAppend, upPop, e, hx]
theorem signs_ok {a b c : Int} {n : Nat} (h : Hd a b c n) (hn : n < 68719476736) :
    ∃ l a' c', f_law_signs [.pw (hand a b c)] = some (.fz (S l), [some (.pw (hand a' b c'))]) ∧ l ≠ [] ∧ l.length ≤ 3 ∧ (∀ x ∈ l, x < 127 ∧ 32 ≤ x ∧ x ≠ 37) ∧ Hd a' b c' (n + 1) := by
  obtain ⟨x, a', c', e, hx, h3⟩ := pickL_ok (ds := [S [97, 98], S [98, 97], S [97, 32], S [97, 98, 99], S [126, 34], S [48, 92, 120], S [97], S [97, 65]]) h hn (by simp) (by decide)
  have hx' : ∃ l, x = S l ∧ l ≠ [] ∧ l.length ≤ 3 ∧ ∀ x ∈ l, x < 127 ∧ 32 ≤ x ∧ x ≠ 37 := by
    simp only [List.mem_cons, List.not_mem_nil, or_false] at hx
    rcases hx with h | h | h | h | h | h | h | h <;> exact ⟨_, h, by simp, by decide, by decide⟩
  obtain ⟨l, rfl, h4, h5, h6⟩ := hx'
  refine ⟨l, a', c', ?_, h4, h5, h6, h3⟩
  simp [f_law_signs, b_law_signs, dSeq, dIfS, dTst, dOp, dOs, dVal, dSlot, dC, dVar, dIf, dAnd, dOr, dNot, dAndV, dOrV, dNotV, dTup, dLst, seeAll, see, valDatas, C.data, C.put, C.frozen, dSet, settable, dSetIx, ownL, dMut, dRetV, dRet, dRetN, dExp, dNext, dPar, dPar3, iAny, iEnumD, iZipD, lstOf, dChain, dAug, dCall, passAll, passO, ownSlots, nodupB, writeAll, dFor, iRg1, iRg2, iLst, iTpl, iStrD, gSet, gTuple, gMore, gEnd, dAsg, dMth, isStr, mkFn, isNone, intOf, DL.cutD, dLc, plainAt, tYesD, dSl11, semAdd, semSub, semMul, semMod, semDiv, semPow, semNeg, semLt, semLe, semGt, semGe, semEq, semNe, semIsN, semNotN, semLen, semAbs, semInt, semMax2, semMin2, semJoin, semIx, semSl01, semSl10, semSl11, semSl00, semAddI, upAppend, upPop, e]
/-! words -/
theorem join_signs (w : List Nat) (h : w.length ≤ 16777216) : semJoin [.fz (S []), .ow (.list (w.map fun x => S [x]))] = some (.fz (S w)) := by
  have e : ∀ w : List Nat, (w.map fun x => [x]).flatten = w := fun w => by induction w with | nil => rfl | cons x w ih => simp [ih]
  have := semJoin_flat (w.map fun x => [x]) (by rw [e]; exact h)
  rw [e, List.map_map] at this
  exact this
theorem word_loop {l : List Nat} (hl : l ≠ []) (hs : l.length < 18446744073709551616) (M : PyData) {b : Int} : ∀ (k : Nat) (lo : Int) (acc : List Nat) (a c : Int) (n : Nat), Hd a b c n → n + k < 68719476736 → acc.length + k ≤ 16777216 →
    ∃ w a' c', dLcL [3] (gSet 3) tYesD e1_law_word (intsD lo k) (acc.map fun x => S [x]) [some (.pw (hand a b c)), some (.fz (S l)), some (.fz M), none] = some ((acc ++ w).map (fun x => S [x]), [some (.pw (hand a' b c')), some (.fz (S l)), some (.fz M), none]) ∧ w.length = k ∧ (∀ x ∈ w, x ∈ l) ∧ Hd a' b c' (n + k)
  | 0, lo, acc, a, c, n, h, _, _ => ⟨[], a, c, by simp [intsD, dLcL], rfl, by simp, h⟩
  | k + 1, lo, acc, a, c, n, h, hn, ha => by
    obtain ⟨x, a1, c1, e, hx, h1⟩ := pickS_ok h (by omega) hl hs
    obtain ⟨w, a2, c2, e2, h2, h3, h4⟩ := word_loop hl hs M k (lo + 1) (acc ++ [x]) a1 c1 (n + 1) h1 (by omega) (by simp; omega)
    refine ⟨x :: w, a2, c2, ?_, by simp [h2], fun y hy => ?_, h4.mono (by omega)⟩
    · rw [intsD_succ]
      have hlen : fits ((acc.map fun x => S [x]).length < 16777216) = true := fits_of (by simp; omega)
      have el : e1_law_word [some (.pw (hand a b c)), some (.fz (S l)), some (.fz M), some (.fz (.int lo))] = some (.fz (S [x]), [some (.pw (hand a1 b c1)), some (.fz (S l)), some (.fz M), some (.fz (.int lo))]) := by
        simp [e1_law_word, dSeq, dIfS, dTst, dOp, dOs, dVal, dSlot, dC, dVar, dIf, dAnd, dOr, dNot, dAndV, dOrV, dNotV, dTup, dLst, seeAll, see, valDatas, C.data, C.put, C.frozen, dSet, settable, dSetIx, ownL, dMut, dRetV, dRet, dRetN, dExp, dNext, dPar, dPar3, iAny, iEnumD, iZipD, lstOf, dChain, dAug, dCall, passAll, passO, ownSlots, nodupB, writeAll, dFor, iRg1, iRg2, iLst, iTpl, iStrD, gSet, gTuple, gMore, gEnd, dAsg, dMth, isStr, mkFn, isNone, intOf, DL.cutD, dLc, plainAt, tYesD, dSl11, e]
      rw [dLcL]
      simp only [gSet, wipeE, backE, dSeq, dIfS, dTst, dOp, dOs, dVal, dSlot, dC, dVar, dIf, dAnd, dOr, dNot, dAndV, dOrV, dNotV, dTup, dLst, seeAll, see, valDatas, C.data, C.put, C.frozen, dSet, settable, dSetIx, ownL, dMut, dRetV, dRet, dRetN, dExp, dNext, dPar, dPar3, iAny, iEnumD, iZipD, lstOf, dChain, dAug, dCall, passAll, passO, ownSlots, nodupB, writeAll, dFor, iRg1, iRg2, iLst, iTpl, iStrD, gSet, gTuple, gMore, gEnd, dAsg, dMth, isStr, mkFn, isNone, intOf, DL.cutD, dLc, plainAt, tYesD, dSl11, List.getElem?_cons_zero, List.getElem?_cons_succ, List.getElem?_nil, List.set_cons_zero, List.set_cons_succ, List.length_cons, List.length_nil, List.map_cons, List.map_nil, List.replicate_succ, List.replicate_zero, List.cons_append, List.nil_append, List.append_nil, List.take_succ_cons, List.take_zero, List.contains_cons, List.contains_nil, Nat.reduceAdd, Nat.reduceLeDiff, Nat.reduceEqDiff, reduceIte, Nat.zero_add, Bool.and_true, Bool.true_and, Bool.not_false, Bool.false_eq_true, decide_true, decide_false, Bool.not_true, beq_self_eq_true, Bool.or_false, Bool.false_or, Nat.reduceBEq, el]
      rw [if_pos hlen]
      simpa using e2
    · rcases List.mem_cons.mp hy with q | q
      · rw [q]
        exact hx
      · exact h3 y q
theorem word_ok {a b c most : Int} {n : Nat} {l : List Nat} (h : Hd a b c n) (hn : n < 68700000000) (hl : l ≠ []) (hs : l.length < 18446744073709551616) (h0 : 0 ≤ most) (h1 : most < 1000000) :
    ∃ w a' c', f_law_word [.pw (hand a b c), .fz (S l), .fz (.int most)] = some (.fz (S w), [some (.pw (hand a' b c')), some (.fz (S l)), some (.fz (.int most))]) ∧ w.length ≤ most.toNat ∧ (∀ x ∈ w, x ∈ l) ∧ Hd a' b c' (n + most.toNat + 1) := by
  obtain ⟨r, a1, c1, e, h2, h3, h4⟩ := take_ok (many := most + 1) h (by omega) (by omega) (log2_small (by omega) (by omega))
  obtain ⟨w, a2, c2, e2, h5, h6, h7⟩ := word_loop hl hs (.int most) r.toNat 0 [] a1 c1 (n + 1) h4 (by omega) (by simp; omega)
  refine ⟨w, a2, c2, ?_, by omega, h6, h7.mono (by omega)⟩
  have hr1 : -4611686018427387904 ≤ r := by omega
  have hr2 : r < 4611686018427387904 := by omega
  simp only [List.map_nil, List.nil_append] at e2
  simp [f_law_word, b_law_word, dSeq, dIfS, dTst, dOp, dOs, dVal, dSlot, dC, dVar, dIf, dAnd, dOr, dNot, dAndV, dOrV, dNotV, dTup, dLst, seeAll, see, valDatas, C.data, C.put, C.frozen, dSet, settable, dSetIx, ownL, dMut, dRetV, dRet, dRetN, dExp, dNext, dPar, dPar3, iAny, iEnumD, iZipD, lstOf, dChain, dAug, dCall, passAll, passO, ownSlots, nodupB, writeAll, dFor, iRg1, iRg2, iLst, iTpl, iStrD, gSet, gTuple, gMore, gEnd, dAsg, dMth, isStr, mkFn, isNone, intOf, DL.cutD, dLc, plainAt, tYesD, dSl11, e, e2, semAdd, join_signs w (by omega), fits_iff, hr1, hr2]
theorem hand_ok (ns : List Int) (k : Nat) (hk : k < 1000) : ∃ a b, f_law_hand [.sc ns, .fz (.int (k : Int))] = some (.ow (hand a b 0), [some (.sc ns), some (.fz (.int (k : Int)))]) ∧ Hd a b 0 0 := by
  have p1 : (0 : Int) ≤ 18 ∧ (18 : Int) ≤ 1000000 ∧ (10 : Int).natAbs < 18446744073709551616 := by decide
  have m1 : ∀ z : Int, mulOk (z % 2305843009213693951) 1000033 = true := fun z => mulOk_r (by decide) (by decide)
  have m2 : mulOk 6857 (k : Int) = true := mulOk_l (by decide) (by decide)
  have m3 : ∀ z : Int, mulOk z 0 = true := fun z => mulOk_r (by decide) (by decide)
  have m4 : ∀ z : Int, mulOk z 1 = true := fun z => mulOk_r (by decide) (by decide)
  have fin : ∀ z : Int, (if (k : Int) < ns.length then atI ns (k : Int) else some 0) = some z → ∃ a b, f_law_hand [.sc ns, .fz (.int (k : Int))] = some (.ow (hand a b 0), [some (.sc ns), some (.fz (.int (k : Int)))]) ∧ Hd a b 0 0 := by
    intro z hz
    have h0 : 0 ≤ (z % 2305843009213693951 * 1000033 + 6857 * k + 41) % 2305843009213693921 := Int.emod_nonneg _ (by decide)
    have h1 : (z % 2305843009213693951 * 1000033 + 6857 * k + 41) % 2305843009213693921 < 2305843009213693921 := Int.emod_lt_of_pos _ (by decide)
    have ab : 0 ≤ (if z < 0 then -z else z) := by split <;> omega
    have e0 : ∀ c, dIf (dTst (dOp semLt [dSlot 1, dVal (dOp semLen [dSlot 0])])) (dOp semIx [dSlot 0, dSlot 1]) (dC (.int 0)) [some (.sc ns), some (.fz (.int (k : Int))), none, c] = some (.fz (.int z), [some (.sc ns), some (.fz (.int (k : Int))), none, c]) := fun c => by
      by_cases hlt : (k : Int) < ns.length
      · rw [if_pos hlt] at hz
        have hlt2 : k < ns.length := by omega
        simp [dSeq, dIfS, dTst, dOp, dOs, dVal, dSlot, dC, dVar, dIf, dAnd, dOr, dNot, dAndV, dOrV, dNotV, dTup, dLst, seeAll, see, valDatas, C.data, C.put, C.frozen, dSet, settable, dSetIx, ownL, dMut, dRetV, dRet, dRetN, dExp, dNext, dPar, dPar3, iAny, iEnumD, iZipD, lstOf, dChain, dAug, dCall, passAll, passO, ownSlots, nodupB, writeAll, dFor, iRg1, iRg2, iLst, iTpl, iStrD, gSet, gTuple, gMore, gEnd, dAsg, dMth, isStr, mkFn, isNone, intOf, DL.cutD, dLc, plainAt, tYesD, dSl11, semAdd, semSub, semMul, semMod, semDiv, semPow, semNeg, semLt, semLe, semGt, semGe, semEq, semNe, semIsN, semNotN, semLen, semAbs, semInt, semMax2, semMin2, semJoin, semIx, semSl01, semSl10, semSl11, semSl00, semAddI, upAppend, upPop, hlt2, hz]
      · rw [if_neg hlt] at hz
        cases hz
        have hlt2 : ¬ k < ns.length := by omega
        simp [dSeq, dIfS, dTst, dOp, dOs, dVal, dSlot, dC, dVar, dIf, dAnd, dOr, dNot, dAndV, dOrV, dNotV, dTup, dLst, seeAll, see, valDatas, C.data, C.put, C.frozen, dSet, settable, dSetIx, ownL, dMut, dRetV, dRet, dRetN, dExp, dNext, dPar, dPar3, iAny, iEnumD, iZipD, lstOf, dChain, dAug, dCall, passAll, passO, ownSlots, nodupB, writeAll, dFor, iRg1, iRg2, iLst, iTpl, iStrD, gSet, gTuple, gMore, gEnd, dAsg, dMth, isStr, mkFn, isNone, intOf, DL.cutD, dLc, plainAt, tYesD, dSl11, semAdd, semSub, semMul, semMod, semDiv, semPow, semNeg, semLt, semLe, semGt, semGe, semEq, semNe, semIsN, semNotN, semLen, semAbs, semInt, semMax2, semMin2, semJoin, semIx, semSl01, semSl10, semSl11, semSl00, semAddI, upAppend, upPop, hlt2]
    by_cases hb : (1000000000000000000 : Int) ≤ (if z < 0 then -z else z)
    · refine ⟨(if z < 0 then -z else z), (z % 2305843009213693951 * 1000033 + 6857 * k + 41) % 2305843009213693921, ?_, ⟨ab, h0, by omega, by decide, by decide⟩⟩
      simp [f_law_hand, b_law_hand, mkFn, dSeq, dSet, e0]
      simp [dSeq, dIfS, dTst, dOp, dOs, dVal, dSlot, dC, dVar, dIf, dAnd, dOr, dNot, dAndV, dOrV, dNotV, dTup, dLst, seeAll, see, valDatas, C.data, C.put, C.frozen, dSet, settable, dSetIx, ownL, dMut, dRetV, dRet, dRetN, dExp, dNext, dPar, dPar3, iAny, iEnumD, iZipD, lstOf, dChain, dAug, dCall, passAll, passO, ownSlots, nodupB, writeAll, dFor, iRg1, iRg2, iLst, iTpl, iStrD, gSet, gTuple, gMore, gEnd, dAsg, dMth, isStr, mkFn, isNone, intOf, DL.cutD, dLc, plainAt, tYesD, dSl11, semAdd, semSub, semMul, semMod, semDiv, semPow, semNeg, semLt, semLe, semGt, semGe, semEq, semNe, semIsN, semNotN, semLen, semAbs, semInt, semMax2, semMin2, semJoin, semIx, semSl01, semSl10, semSl11, semSl00, semAddI, upAppend, upPop, fits_iff, m1, m2, m4, p1, hb]
    · refine ⟨0, (z % 2305843009213693951 * 1000033 + 6857 * k + 41) % 2305843009213693921, ?_, ⟨by decide, h0, by omega, by decide, by decide⟩⟩
      simp [f_law_hand, b_law_hand, mkFn, dSeq, dSet, e0]
      simp [dSeq, dIfS, dTst, dOp, dOs, dVal, dSlot, dC, dVar, dIf, dAnd, dOr, dNot, dAndV, dOrV, dNotV, dTup, dLst, seeAll, see, valDatas, C.data, C.put, C.frozen, dSet, settable, dSetIx, ownL, dMut, dRetV, dRet, dRetN, dExp, dNext, dPar, dPar3, iAny, iEnumD, iZipD, lstOf, dChain, dAug, dCall, passAll, passO, ownSlots, nodupB, writeAll, dFor, iRg1, iRg2, iLst, iTpl, iStrD, gSet, gTuple, gMore, gEnd, dAsg, dMth, isStr, mkFn, isNone, intOf, DL.cutD, dLc, plainAt, tYesD, dSl11, semAdd, semSub, semMul, semMod, semDiv, semPow, semNeg, semLt, semLe, semGt, semGe, semEq, semNe, semIsN, semNotN, semLen, semAbs, semInt, semMax2, semMin2, semJoin, semIx, semSl01, semSl10, semSl11, semSl00, semAddI, upAppend, upPop, fits_iff, m1, m2, m3, p1, hb]
  by_cases hlt : (k : Int) < ns.length
  · have : k < ns.length := by omega
    exact fin ns[k] (by rw [if_pos hlt]; exact atI_nat (by simp [this]))
  · exact fin 0 (by rw [if_neg hlt])
end LW
set_option Elab.async false
set_option linter.all false
set_option maxRecDepth 8000
set_option maxHeartbeats 4000000
namespace LW
open DL PySem L2
/-! ### comprehensions that draw -/
theorem lcL_draw {vs : List Nat} {g : PyData → Ev → Option Ev} {f : FE} {b : Int} (E : Int → Int → Ev) (P N : Nat) (Dd Q : PyData → Prop)
    (step : ∀ a c n d, Hd a b c n → n < N → Dd d → ∃ e1 y a' c' e3, g d (wipeE (E a c) vs) = some e1 ∧ f e1 = some (.fz y, e3) ∧ Q y ∧ backE (E a c) e3 vs = E a' c' ∧ Hd a' b c' (n + P)) :
    ∀ (ds acc : List PyData) (a c : Int) (n : Nat), (∀ d ∈ ds, Dd d) → Hd a b c n → n + ds.length * P < N → acc.length + ds.length ≤ 16777216 →
      ∃ ys a' c', dLcL vs g tYesD f ds acc (E a c) = some (acc ++ ys, E a' c') ∧ ys.length = ds.length ∧ (∀ y ∈ ys, Q y) ∧ Hd a' b c' (n + ds.length * P)
  | [], acc, a, c, n, _, h, _, _ => ⟨[], a, c, by simp [dLcL], rfl, by simp, by simpa using h⟩
  | d :: ds, acc, a, c, n, hd, h, hn, ha => by
    rw [List.length_cons, Nat.succ_mul] at hn
    obtain ⟨e1, y, a1, c1, e3, g1, g2, g3, g4, H⟩ := step a c n d h (by omega) (hd d (by simp))
    have hl' : fits (acc.length < 16777216) = true := fits_of (by simp at ha; omega)
    obtain ⟨ys, a2, c2, i1, i2, i3, i4⟩ := lcL_draw E P N Dd Q step ds (acc ++ [y]) a1 c1 (n + P) (fun x hx => hd x (List.mem_cons_of_mem _ hx)) H (by omega) (by simp at ha ⊢; omega)
    refine ⟨y :: ys, a2, c2, ?_, by simp [i2], fun z hz => ?_, i4.mono (by rw [List.length_cons, Nat.succ_mul]; omega)⟩
    · rw [dLcL, g1]
      simp only [tYesD, g2, C.frozen, if_pos hl', g4, i1]
      simp
    · rcases List.mem_cons.mp hz with rfl | hz
      · exact g3
      · exact i3 z hz
theorem strs_of {R : List Nat → Prop} : ∀ {ys : List PyData}, (∀ y ∈ ys, ∃ w, y = S w ∧ R w) → ∃ ws : List (List Nat), ys = ws.map S ∧ ws.length = ys.length ∧ ∀ w ∈ ws, R w
  | [], _ => ⟨[], rfl, rfl, by simp⟩
  | y :: ys, h => by
    obtain ⟨w, rfl, r⟩ := h y (by simp)
    obtain ⟨ws, rfl, l, q⟩ := strs_of (ys := ys) fun z hz => h z (List.mem_cons_of_mem _ hz)
    refine ⟨w :: ws, rfl, by simp, fun v hv => ?_⟩
    rcases List.mem_cons.mp hv with rfl | hv
    · exact r
    · exact q v hv
theorem intsD_len (lo : Int) (n : Nat) : (intsD lo n).length = n := by simp [intsD]
theorem eqI_yes {r i : Nat} (h : i = r) : semEq [.fz (.int (r : Int)), .fz (.int (i : Int))] = some (.fz (.bool true)) := by rw [semEq_nat]; simp [h]
theorem eqI_no {r i : Nat} (h : i ≠ r) : semEq [.fz (.int (r : Int)), .fz (.int (i : Int))] = some (.fz (.bool false)) := by rw [semEq_nat]; simp [Ne.symm h]
theorem take_nat {a b c : Int} {n : Nat} (m : Nat) (h : Hd a b c n) (hn : n < 68719476736) (hm : 0 < m) (hb : m < 18446744073709551616) :
    ∃ (r : Nat) (a' c' : Int), f_law_take [.pw (hand a b c), .fz (.int (m : Int))] = some (.fz (.int (r : Int)), [some (.pw (hand a' b c')), some (.fz (.int (m : Int)))]) ∧ r < m ∧ Hd a' b c' (n + 1) := by
  obtain ⟨r, a1, c1, e1, r0, r6, H1⟩ := take_ok (many := (m : Int)) h hn (by omega) (log2_len hb hm)
  obtain ⟨rn, rfl⟩ : ∃ rn : Nat, r = rn := ⟨r.toNat, by omega⟩
  exact ⟨rn, a1, c1, e1, by omega, H1⟩
theorem word_nat {a b c : Int} {n : Nat} {l : List Nat} (m : Nat) (h : Hd a b c n) (hn : n < 68700000000) (hl : l ≠ []) (hs : l.length ≤ 3) (h1 : m < 1000000) :
    ∃ w a' c', f_law_word [.pw (hand a b c), .fz (S l), .fz (.int (m : Int))] = some (.fz (S w), [some (.pw (hand a' b c')), some (.fz (S l)), some (.fz (.int (m : Int)))]) ∧ w.length ≤ m ∧ (∀ x ∈ w, x ∈ l) ∧ Hd a' b c' (n + m + 1) := by
  obtain ⟨w, a', c', e, q1, q2, q3⟩ := word_ok (most := (m : Int)) h hn hl (by omega) (by omega) (by omega)
  exact ⟨w, a', c', e, by simpa using q1, q2, by simpa using q3⟩
/-! words of these signs -/
def inL (l w : List Nat) : Prop := ∀ x ∈ w, x ∈ l
theorem inL.app {l u v : List Nat} (h : inL l u) (g : inL l v) : inL l (u ++ v) := fun x hx => (List.mem_append.mp hx).elim (h x) (g x)
theorem inL.reps {l u : List Nat} (h : inL l u) (k : Nat) : inL l (LW.reps k u) := fun x hx => by
  unfold LW.reps at hx
  obtain ⟨v, hv, hx⟩ := List.mem_flatten.mp hx
  rw [(List.mem_replicate.mp hv).2] at hx
  exact h x hx
theorem inL.take {l u : List Nat} (h : inL l u) (k : Nat) : inL l (u.take k) := fun x hx => h x (List.mem_of_mem_take hx)
theorem inL.drop {l u : List Nat} (h : inL l u) (k : Nat) : inL l (u.drop k) := fun x hx => h x (List.mem_of_mem_drop hx)
theorem inL.one {l : List Nat} {x : Nat} (h : x ∈ l) : inL l [x] := fun y hy => by
  rw [List.mem_singleton] at hy
  rw [hy]
  exact h
theorem inL.nil {l : List Nat} : inL l [] := fun x hx => by simp at hx
end LW
set_option Elab.async false
set_option linter.all false
set_option maxRecDepth 8000
set_option maxHeartbeats 4000000
namespace LW
open DL PySem L2
/-! ### borders and the least round, by the code -/
def nats (ms : List Nat) : List PyData := ms.map fun (m : Nat) => PyData.int (m : Int)
theorem nats_at {ms : List Nat} {j m : Nat} (h : ms[j]? = some m) : (nats ms)[j]? = some (.int (m : Int)) := by
  unfold nats
  rw [List.getElem?_map, h]
  rfl
theorem nats_end (ms : List Nat) (m : Nat) : nats (ms ++ [m]) = nats ms ++ [.int (m : Int)] := by simp [nats]
theorem nats_last {ms : List Nat} {m : Nat} : semIx [.ow (.list (nats (ms ++ [m]))), .fz (.int (-1))] = some (.fz (.int (m : Int))) := by
  simp only [semIx, C.data, nats_end, atI_last]
theorem borders_while {w : List Nat} {ms : List Nat} {k : Nat} (hk : k < w.length) (hms : ∀ j m, ms[j]? = some m → isBd w (j + 1) m) (hl : ms.length = k) :
    ∀ s, isB w k s → (∀ b, isB w k b → s < b → w[b]? ≠ w[k]?) → ∃ (N : Nat) (s' : Nat), dWhileN t1_borders u1_borders N [some (.fz (S w)), some (.ow (.list (nats ms))), some (.fz (.int (k : Int))), some (.fz (.int (s : Int)))] =
      some (.nx, [some (.fz (S w)), some (.ow (.list (nats ms))), some (.fz (.int (k : Int))), some (.fz (.int (s' : Int)))]) ∧ isB w k s' ∧ (∀ b, isB w k b → s' < b → w[b]? ≠ w[k]?) ∧ (s' = 0 ∨ w[s']? = w[k]?) := by
  intro s
  induction s using Nat.strongRecOn with
  | ind s ih =>
    intro h big
    have sk := h.1
    have e1 : w[s]? = some w[s] := by simp
    have e2 : w[k]? = some w[k] := by simp
    by_cases s0 : s = 0
    · subst s0
      refine ⟨1, 0, ?_, h, big, .inl rfl⟩
      have test : t1_borders [some (.fz (S w)), some (.ow (.list (nats ms))), some (.fz (.int (k : Int))), some (.fz (.int ((0 : Nat) : Int)))] = some (false, [some (.fz (S w)), some (.ow (.list (nats ms))), some (.fz (.int (k : Int))), some (.fz (.int ((0 : Nat) : Int)))]) := by
        simp [t1_borders, dSeq, dIfS, dTst, dOp, dOs, dVal, dSlot, dC, dVar, dIf, dAnd, dOr, dNot, dAndV, dOrV, dNotV, dTup, dLst, seeAll, see, valDatas, C.data, C.put, C.frozen, dSet, settable, dSetIx, ownL, dMut, dRetV, dRet, dRetN, dExp, dNext, dPar, dPar3, iAny, iEnumD, iZipD, lstOf, dChain, dAug, dCall, passAll, passO, ownSlots, nodupB, writeAll, dFor, iRg1, iRg2, iLst, iTpl, iStrD, gSet, gTuple, gMore, gEnd, dAsg, dMth, isStr, mkFn, isNone, intOf, DL.cutD, dLc, plainAt, tYesD, dSl11, semGt]
      rw [dWhileN, test]
    · have gt : semGt [.fz (.int (s : Int)), .fz (.int 0)] = some (.fz (.bool true)) := by
        simp [semGt, C.data]
        omega
      by_cases q : w[s] = w[k]
      · refine ⟨1, s, ?_, h, big, .inr (by rw [e1, e2, q])⟩
        have test : t1_borders [some (.fz (S w)), some (.ow (.list (nats ms))), some (.fz (.int (k : Int))), some (.fz (.int (s : Int)))] = some (false, [some (.fz (S w)), some (.ow (.list (nats ms))), some (.fz (.int (k : Int))), some (.fz (.int (s : Int)))]) := by
          simp only [t1_borders, dSeq, dIfS, dTst, dOp, dOs, dVal, dSlot, dC, dVar, dIf, dAnd, dOr, dNot, dAndV, dOrV, dNotV, dTup, dLst, seeAll, see, valDatas, C.data, C.put, C.frozen, dSet, settable, dSetIx, ownL, dMut, dRetV, dRet, dRetN, dExp, dNext, dPar, dPar3, iAny, iEnumD, iZipD, lstOf, dChain, dAug, dCall, passAll, passO, ownSlots, nodupB, writeAll, dFor, iRg1, iRg2, iLst, iTpl, iStrD, gSet, gTuple, gMore, gEnd, dAsg, dMth, isStr, mkFn, isNone, intOf, DL.cutD, dLc, plainAt, tYesD, dSl11, List.getElem?_cons_zero, List.getElem?_cons_succ, List.getElem?_nil, List.set_cons_zero, List.set_cons_succ, List.length_cons, List.length_nil, List.map_cons, List.map_nil, List.replicate_succ, List.replicate_zero, List.cons_append, List.nil_append, List.append_nil, List.take_succ_cons, List.take_zero, List.contains_cons, List.contains_nil, Nat.reduceAdd, Nat.reduceLeDiff, Nat.reduceEqDiff, reduceIte, Nat.zero_add, Bool.and_true, Bool.true_and, Bool.not_false, Bool.false_eq_true, decide_true, decide_false, Bool.not_true, beq_self_eq_true, Bool.or_false, Bool.false_or, Nat.reduceBEq, gt, ixS e1, ixS e2, semNe_S]
          simp [q]
        rw [dWhileN, test]
      · have test : t1_borders [some (.fz (S w)), some (.ow (.list (nats ms))), some (.fz (.int (k : Int))), some (.fz (.int (s : Int)))] = some (true, [some (.fz (S w)), some (.ow (.list (nats ms))), some (.fz (.int (k : Int))), some (.fz (.int (s : Int)))]) := by
          simp only [t1_borders, dSeq, dIfS, dTst, dOp, dOs, dVal, dSlot, dC, dVar, dIf, dAnd, dOr, dNot, dAndV, dOrV, dNotV, dTup, dLst, seeAll, see, valDatas, C.data, C.put, C.frozen, dSet, settable, dSetIx, ownL, dMut, dRetV, dRet, dRetN, dExp, dNext, dPar, dPar3, iAny, iEnumD, iZipD, lstOf, dChain, dAug, dCall, passAll, passO, ownSlots, nodupB, writeAll, dFor, iRg1, iRg2, iLst, iTpl, iStrD, gSet, gTuple, gMore, gEnd, dAsg, dMth, isStr, mkFn, isNone, intOf, DL.cutD, dLc, plainAt, tYesD, dSl11, List.getElem?_cons_zero, List.getElem?_cons_succ, List.getElem?_nil, List.set_cons_zero, List.set_cons_succ, List.length_cons, List.length_nil, List.map_cons, List.map_nil, List.replicate_succ, List.replicate_zero, List.cons_append, List.nil_append, List.append_nil, List.take_succ_cons, List.take_zero, List.contains_cons, List.contains_nil, Nat.reduceAdd, Nat.reduceLeDiff, Nat.reduceEqDiff, reduceIte, Nat.zero_add, Bool.and_true, Bool.true_and, Bool.not_false, Bool.false_eq_true, decide_true, decide_false, Bool.not_true, beq_self_eq_true, Bool.or_false, Bool.false_or, Nat.reduceBEq, gt, ixS e1, ixS e2, semNe_S]
          simp [q]
        have m0 : ms[s - 1]? = some (ms[s - 1]'(by omega)) := by simp
        have bd := hms _ _ m0
        rw [show s - 1 + 1 = s by omega] at bd
        generalize ms[s - 1]'(by omega) = m at m0 bd
        have sb : semSub [.fz (.int (s : Int)), .fz (.int 1)] = some (.fz (.int ((s - 1 : Nat) : Int))) := by
          simp only [semSub, C.data]
          congr 3
          omega
        have body : u1_borders [some (.fz (S w)), some (.ow (.list (nats ms))), some (.fz (.int (k : Int))), some (.fz (.int (s : Int)))] = some (.nx, [some (.fz (S w)), some (.ow (.list (nats ms))), some (.fz (.int (k : Int))), some (.fz (.int (m : Int)))]) := by
          simp only [u1_borders, dSeq, dIfS, dTst, dOp, dOs, dVal, dSlot, dC, dVar, dIf, dAnd, dOr, dNot, dAndV, dOrV, dNotV, dTup, dLst, seeAll, see, valDatas, C.data, C.put, C.frozen, dSet, dSetIx, ownL, dMut, dRetV, dRet, dRetN, dExp, dNext, dPar, dPar3, iAny, iEnumD, iZipD, lstOf, dChain, dAug, dCall, passAll, passO, ownSlots, nodupB, writeAll, dFor, iRg1, iRg2, iLst, iTpl, iStrD, gSet, gTuple, gMore, gEnd, dAsg, dMth, isStr, mkFn, isNone, intOf, DL.cutD, dLc, plainAt, tYesD, dSl11, settable_zero, settable_succ, np_none, np_fz, np_ow, np_sc, List.getElem?_cons_zero, List.getElem?_cons_succ, List.getElem?_nil, List.set_cons_zero, List.set_cons_succ, List.length_cons, List.length_nil, List.map_cons, List.map_nil, List.replicate_succ, List.replicate_zero, List.cons_append, List.nil_append, List.append_nil, List.take_succ_cons, List.take_zero, List.contains_cons, List.contains_nil, Nat.reduceAdd, Nat.reduceLeDiff, Nat.reduceEqDiff, reduceIte, Nat.zero_add, Bool.and_true, Bool.true_and, Bool.not_false, Bool.false_eq_true, decide_true, decide_false, Bool.not_true, beq_self_eq_true, Bool.or_false, Bool.false_or, Nat.reduceBEq, sb, ixO (nats_at m0)]
        obtain ⟨N, s', h1, h2⟩ := ih m bd.1.1 (isB_trans h bd.1) (fun b hb hm => by
          by_cases c : s < b
          · exact big b hb c
          · by_cases c2 : b = s
            · subst c2
              rw [e1, e2]
              simpa using q
            · have := bd.2 b (isB_in h hb (by omega))
              omega)
        refine ⟨N + 1, s', ?_, h2⟩
        rw [dWhileN, test]
        simp only [body]
        exact h1
theorem borders_ok {w : List Nat} (hw : w ≠ []) (hn : w.length ≤ 1000000) : ∃ ms m, f_borders [.fz (S w)] = some (.ow (.list (nats (ms ++ [m]))), [some (.fz (S w))]) ∧ isBd w w.length m := by
  have n0 : 0 < w.length := List.length_pos_iff.mpr hw
  obtain ⟨e, h1, ms, m, x2, x3, rfl, h2, h3, _, _⟩ := forL_range (g := gSet 2) (body := v1_borders) (lo := 1) (fun k env => ∃ ms m x2 x3, env = [some (.fz (S w)), some (.ow (.list (nats (ms ++ [m])))), x2, x3] ∧ ms.length = k ∧ (∀ j m', (ms ++ [m])[j]? = some m' → isBd w (j + 1) m') ∧ np x2 = true ∧ np x3 = true) (w.length - 1) (by
    rintro k env hk ⟨ms, m, x2, x3, rfl, h2, h3, q2, q3⟩
    have bd := h3 k m (by rw [← h2]; simp)
    have e2 : w[k + 1]? = some (w[k + 1]'(by omega)) := by simp
    obtain ⟨N, s', c1, c2, c3, c4⟩ := borders_while (w := w) (ms := ms ++ [m]) (k := k + 1) (by omega) h3 (by simp [h2]) m bd.1 (fun b hb hm => by have := bd.2 b hb; omega)
    have e1 : w[s']? = some (w[s']'(by have := c2.1; omega)) := by simp
    have c1 := dWhile_of c1
    have z : (1 : Int) + (k : Int) = ((k + 1 : Nat) : Int) := by omega
    have ap : ∀ d : PyData, upAppend (nats (ms ++ [m])) [d] = some (nats (ms ++ [m]) ++ [d], .none) := fun d => by
      unfold upAppend
      exact if_pos (fits_of (by simp [nats, h2]; omega))
    have neg : semNeg [.fz (.int 1)] = some (.fz (.int (-1))) := rfl
    have eq := semEq_S [w[s']'(by have := c2.1; omega)] [w[k + 1]'(by omega)]
    have fin : ∀ m' : Nat, semAdd [.fz (.int (s' : Int)), .fz (.int (if decide ([w[s']'(by have := c2.1; omega)] = [w[k + 1]'(by omega)]) then 1 else 0))] = some (.fz (.int (m' : Int))) → isBd w (k + 2) m' →
        ∃ e1 e2, gSet 2 (.int (1 + (k : Int))) [some (.fz (S w)), some (.ow (.list (nats (ms ++ [m])))), x2, x3] = some e1 ∧ v1_borders e1 = some (.nx, e2) ∧ ∃ ms m x2 x3, e2 = [some (.fz (S w)), some (.ow (.list (nats (ms ++ [m])))), x2, x3] ∧ ms.length = k + 1 ∧ (∀ j m', (ms ++ [m])[j]? = some m' → isBd w (j + 1) m') ∧ np x2 = true ∧ np x3 = true := by
      intro m' g1 g2
      refine ⟨[some (.fz (S w)), some (.ow (.list (nats (ms ++ [m])))), some (.fz (.int ((k + 1 : Nat) : Int))), x3], [some (.fz (S w)), some (.ow (.list (nats (ms ++ [m] ++ [m'])))), some (.fz (.int ((k + 1 : Nat) : Int))), some (.fz (.int (s' : Int)))], ?_, ?_, ms ++ [m], m', some (.fz (.int ((k + 1 : Nat) : Int))), some (.fz (.int (s' : Int))), rfl, by simp [h2], ?_, rfl, rfl⟩
      · simp only [dSeq, dIfS, dTst, dOp, dOs, dVal, dSlot, dC, dVar, dIf, dAnd, dOr, dNot, dAndV, dOrV, dNotV, dTup, dLst, seeAll, see, valDatas, C.data, C.put, C.frozen, dSet, dSetIx, ownL, dMut, dRetV, dRet, dRetN, dExp, dNext, dPar, dPar3, iAny, iEnumD, iZipD, lstOf, dChain, dAug, dCall, passAll, passO, ownSlots, nodupB, writeAll, dFor, iRg1, iRg2, iLst, iTpl, iStrD, gSet, gTuple, gMore, gEnd, dAsg, dMth, isStr, mkFn, isNone, intOf, DL.cutD, dLc, plainAt, tYesD, dSl11, settable_zero, settable_succ, np_none, np_fz, np_ow, np_sc, List.getElem?_cons_zero, List.getElem?_cons_succ, List.getElem?_nil, List.set_cons_zero, List.set_cons_succ, List.length_cons, List.length_nil, List.map_cons, List.map_nil, List.replicate_succ, List.replicate_zero, List.cons_append, List.nil_append, List.append_nil, List.take_succ_cons, List.take_zero, List.contains_cons, List.contains_nil, Nat.reduceAdd, Nat.reduceLeDiff, Nat.reduceEqDiff, reduceIte, Nat.zero_add, Bool.and_true, Bool.true_and, Bool.not_false, Bool.false_eq_true, decide_true, decide_false, Bool.not_true, beq_self_eq_true, Bool.or_false, Bool.false_or, Nat.reduceBEq, q2, z]
      · simp only [v1_borders, dSeq, dIfS, dTst, dOp, dOs, dVal, dSlot, dC, dVar, dIf, dAnd, dOr, dNot, dAndV, dOrV, dNotV, dTup, dLst, seeAll, see, valDatas, C.data, C.put, C.frozen, dSet, dSetIx, ownL, dMut, dRetV, dRet, dRetN, dExp, dNext, dPar, dPar3, iAny, iEnumD, iZipD, lstOf, dChain, dAug, dCall, passAll, passO, ownSlots, nodupB, writeAll, dFor, iRg1, iRg2, iLst, iTpl, iStrD, gSet, gTuple, gMore, gEnd, dAsg, dMth, isStr, mkFn, isNone, intOf, DL.cutD, dLc, plainAt, tYesD, dSl11, settable_zero, settable_succ, np_none, np_fz, np_ow, np_sc, List.getElem?_cons_zero, List.getElem?_cons_succ, List.getElem?_nil, List.set_cons_zero, List.set_cons_succ, List.length_cons, List.length_nil, List.map_cons, List.map_nil, List.replicate_succ, List.replicate_zero, List.cons_append, List.nil_append, List.append_nil, List.take_succ_cons, List.take_zero, List.contains_cons, List.contains_nil, Nat.reduceAdd, Nat.reduceLeDiff, Nat.reduceEqDiff, reduceIte, Nat.zero_add, Bool.and_true, Bool.true_and, Bool.not_false, Bool.false_eq_true, decide_true, decide_false, Bool.not_true, beq_self_eq_true, Bool.or_false, Bool.false_or, Nat.reduceBEq, q3, neg, nats_last, c1, ixS e1, ixS e2, eq, semInt, g1, ap, nats_end (ms ++ [m]) m']
      · intro j m'' hj
        by_cases c : j < (ms ++ [m]).length
        · rw [List.getElem?_append_left c] at hj
          exact h3 j m'' hj
        · have jl := (List.getElem?_eq_some_iff.mp hj).1
          simp [h2] at c jl
          have : j = k + 1 := by omega
          subst this
          rw [List.getElem?_append_right (by simp [h2])] at hj
          simp [h2] at hj
          rw [← hj]
          exact g2
    by_cases q : w[s']'(by have := c2.1; omega) = w[k + 1]'(by omega)
    · refine fin (s' + 1) ?_ (isBd_eq c2 c3 (by rw [e1, e2, q]))
      rw [if_pos (by simp [q])]
      rfl
    · have s0 : s' = 0 := by
        rcases c4 with c | c
        · exact c
        · exact absurd (Option.some.inj ((e1.symm.trans c).trans e2)) q
      subst s0
      refine fin 0 ?_ (isBd_ne (by omega) c3 (by rw [e1, e2]; simpa using q))
      rw [if_neg (by simp [q])]
      rfl) [some (.fz (S w)), some (.ow (.list [.int 0])), none, none] ⟨[], 0, none, none, rfl, rfl, fun j m' hj => by
        have jl := (List.getElem?_eq_some_iff.mp hj).1
        simp at jl
        subst jl
        simp at hj
        rw [← hj]
        exact isBd_one w, rfl, rfl⟩
  refine ⟨ms, m, ?_, ?_⟩
  · have b1 : fits (-4611686018427387904 ≤ (1 : Int) ∧ (1 : Int) < 4611686018427387904 ∧ -4611686018427387904 ≤ (w.length : Int) ∧ (w.length : Int) < 4611686018427387904) = true := fits_of (by omega)
    have n1 : ((w.length : Int) - 1).toNat = w.length - 1 := by omega
    simp only [f_borders, b_borders, dSeq, dIfS, dTst, dOp, dOs, dVal, dSlot, dC, dVar, dIf, dAnd, dOr, dNot, dAndV, dOrV, dNotV, dTup, dLst, seeAll, see, valDatas, C.data, C.put, C.frozen, dSet, settable, dSetIx, ownL, dMut, dRetV, dRet, dRetN, dExp, dNext, dPar, dPar3, iAny, iEnumD, iZipD, lstOf, dChain, dAug, dCall, passAll, passO, ownSlots, nodupB, writeAll, dFor, iRg1, iRg2, iLst, iTpl, iStrD, gSet, gTuple, gMore, gEnd, dAsg, dMth, isStr, mkFn, isNone, intOf, DL.cutD, dLc, plainAt, tYesD, dSl11, List.getElem?_cons_zero, List.getElem?_cons_succ, List.getElem?_nil, List.set_cons_zero, List.set_cons_succ, List.length_cons, List.length_nil, List.map_cons, List.map_nil, List.replicate_succ, List.replicate_zero, List.cons_append, List.nil_append, List.append_nil, List.take_succ_cons, List.take_zero, List.contains_cons, List.contains_nil, Nat.reduceAdd, Nat.reduceLeDiff, Nat.reduceEqDiff, reduceIte, Nat.zero_add, Bool.and_true, Bool.true_and, Bool.not_false, Bool.false_eq_true, decide_true, decide_false, Bool.not_true, beq_self_eq_true, Bool.or_false, Bool.false_or, Nat.reduceBEq, semLen_S, b1, n1, h1]
  · have := h3 (w.length - 1) m (by rw [← h2]; simp)
    rw [show w.length - 1 + 1 = w.length by omega] at this
    exact this
theorem least_ok {w : List Nat} (hw : w ≠ []) (hn : w.length ≤ 1000000) : ∃ r, IsRl w r ∧ f_least_round [.fz (S w)] = some (.fz (S (w.take r)), [some (.fz (S w))]) := by
  obtain ⟨ms, m, e, bd⟩ := borders_ok hw hn
  refine ⟨_, isBd_rl bd, ?_⟩
  have mn := bd.1.1
  have sb : semSub [.fz (.int (w.length : Int)), .fz (.int (m : Int))] = some (.fz (.int ((w.length - m : Nat) : Int))) := by
    simp only [semSub, C.data]
    congr 3
    omega
  have neg : semNeg [.fz (.int 1)] = some (.fz (.int (-1))) := rfl
  have md := semMod_nat w.length (w.length - m) (by omega)
  have eq := semEq_nat (w.length % (w.length - m)) 0
  simp only [Int.natCast_zero] at eq
  by_cases c : w.length % (w.length - m) = 0
  · rw [if_pos c]
    rw [decide_eq_true c] at eq
    simp only [f_least_round, b_least_round, dSeq, dIfS, dTst, dOp, dOs, dVal, dSlot, dC, dVar, dIf, dAnd, dOr, dNot, dAndV, dOrV, dNotV, dTup, dLst, seeAll, see, valDatas, C.data, C.put, C.frozen, dSet, settable, dSetIx, ownL, dMut, dRetV, dRet, dRetN, dExp, dNext, dPar, dPar3, iAny, iEnumD, iZipD, lstOf, dChain, dAug, dCall, passAll, passO, ownSlots, nodupB, writeAll, dFor, iRg1, iRg2, iLst, iTpl, iStrD, gSet, gTuple, gMore, gEnd, dAsg, dMth, isStr, mkFn, isNone, intOf, DL.cutD, dLc, plainAt, tYesD, dSl11, List.getElem?_cons_zero, List.getElem?_cons_succ, List.getElem?_nil, List.set_cons_zero, List.set_cons_succ, List.length_cons, List.length_nil, List.map_cons, List.map_nil, List.replicate_succ, List.replicate_zero, List.cons_append, List.nil_append, List.append_nil, List.take_succ_cons, List.take_zero, List.contains_cons, List.contains_nil, Nat.reduceAdd, Nat.reduceLeDiff, Nat.reduceEqDiff, reduceIte, Nat.zero_add, Bool.and_true, Bool.true_and, Bool.not_false, Bool.false_eq_true, decide_true, decide_false, Bool.not_true, beq_self_eq_true, Bool.or_false, Bool.false_or, Nat.reduceBEq, semLen_S, e, neg, nats_last, sb, md, eq, semSl01_S]
  · rw [if_neg c, List.take_length]
    rw [decide_eq_false c] at eq
    simp only [f_least_round, b_least_round, dSeq, dIfS, dTst, dOp, dOs, dVal, dSlot, dC, dVar, dIf, dAnd, dOr, dNot, dAndV, dOrV, dNotV, dTup, dLst, seeAll, see, valDatas, C.data, C.put, C.frozen, dSet, settable, dSetIx, ownL, dMut, dRetV, dRet, dRetN, dExp, dNext, dPar, dPar3, iAny, iEnumD, iZipD, lstOf, dChain, dAug, dCall, passAll, passO, ownSlots, nodupB, writeAll, dFor, iRg1, iRg2, iLst, iTpl, iStrD, gSet, gTuple, gMore, gEnd, dAsg, dMth, isStr, mkFn, isNone, intOf, DL.cutD, dLc, plainAt, tYesD, dSl11, List.getElem?_cons_zero, List.getElem?_cons_succ, List.getElem?_nil, List.set_cons_zero, List.set_cons_succ, List.length_cons, List.length_nil, List.map_cons, List.map_nil, List.replicate_succ, List.replicate_zero, List.cons_append, List.nil_append, List.append_nil, List.take_succ_cons, List.take_zero, List.contains_cons, List.contains_nil, Nat.reduceAdd, Nat.reduceLeDiff, Nat.reduceEqDiff, reduceIte, Nat.zero_add, Bool.and_true, Bool.true_and, Bool.not_false, Bool.false_eq_true, decide_true, decide_false, Bool.not_true, beq_self_eq_true, Bool.or_false, Bool.false_or, Nat.reduceBEq, semLen_S, e, neg, nats_last, sb, md, eq]
end LW
set_option Elab.async false
set_option linter.all false
set_option maxRecDepth 8000
set_option maxHeartbeats 4000000
namespace LW
open DL PySem L2
/-! ### the law's own least round -/
theorem round_loop {w : List Nat} {r : Nat} (h : IsRl w r) (hw : w ≠ []) (hn : w.length ≤ 1000000) : ∀ (j s : Nat), 0 < s → s + j = w.length → s ≤ r → ∀ x, np x = true →
    (r = w.length ∧ ∃ y, dForL (gSet 1) v1_law_round (intsD (s : Int) j) [some (.fz (S w)), x] = some (.nx, [some (.fz (S w)), y])) ∨ (∃ y, dForL (gSet 1) v1_law_round (intsD (s : Int) j) [some (.fz (S w)), x] = some (.rt (.fz (S (w.take r))), [some (.fz (S w)), y]))
  | 0, s, s0, hs, hr, x, hx => .inl ⟨by have := h.le hw; omega, x, rfl⟩
  | j + 1, s, s0, hs, hr, x, hx => by
    have n0 : 0 < w.length := List.length_pos_iff.mpr hw
    have g : gSet 1 (.int (s : Int)) [some (.fz (S w)), x] = some [some (.fz (S w)), some (.fz (.int (s : Int)))] := by simp only [dSeq, dIfS, dTst, dOp, dOs, dVal, dSlot, dC, dVar, dIf, dAnd, dOr, dNot, dAndV, dOrV, dNotV, dTup, dLst, seeAll, see, valDatas, C.data, C.put, C.frozen, dSet, dSetIx, ownL, dMut, dRetV, dRet, dRetN, dExp, dNext, dPar, dPar3, iAny, iEnumD, iZipD, lstOf, dChain, dAug, dCall, passAll, passO, ownSlots, nodupB, writeAll, dFor, iRg1, iRg2, iLst, iTpl, iStrD, gSet, gTuple, gMore, gEnd, dAsg, dMth, isStr, mkFn, isNone, intOf, DL.cutD, dLc, plainAt, tYesD, dSl11, settable_zero, settable_succ, np_none, np_fz, np_ow, np_sc, List.getElem?_cons_zero, List.getElem?_cons_succ, List.getElem?_nil, List.set_cons_zero, List.set_cons_succ, List.length_cons, List.length_nil, List.map_cons, List.map_nil, List.replicate_succ, List.replicate_zero, List.cons_append, List.nil_append, List.append_nil, List.take_succ_cons, List.take_zero, List.contains_cons, List.contains_nil, Nat.reduceAdd, Nat.reduceLeDiff, Nat.reduceEqDiff, reduceIte, Nat.zero_add, Bool.and_true, Bool.true_and, Bool.not_false, Bool.false_eq_true, decide_true, decide_false, Bool.not_true, beq_self_eq_true, Bool.or_false, Bool.false_or, Nat.reduceBEq, hx]
    have tl : (w.take s).length = s := by rw [List.length_take]; omega
    have dl := Nat.mul_div_le w.length s
    have dq := Nat.div_le_self w.length s
    have sl := semSl01_S w s
    have dv := semDiv_nat w.length s s0 (by omega)
    have ml := semMul_S (w.take s) (w.length / s) (by omega) (by rw [tl]; omega)
    have eq := semEq_S (reps (w.length / s) (w.take s)) w
    have body : v1_law_round [some (.fz (S w)), some (.fz (.int (s : Int)))] = if reps (w.length / s) (w.take s) = w then some (.rt (.fz (S (w.take s))), [some (.fz (S w)), some (.fz (.int (s : Int)))]) else some (.nx, [some (.fz (S w)), some (.fz (.int (s : Int)))]) := by
      unfold reps at eq ⊢
      by_cases c : (List.replicate (w.length / s) (w.take s)).flatten = w
      · rw [if_pos c]
        rw [decide_eq_true c] at eq
        simp only [v1_law_round, dSeq, dIfS, dTst, dOp, dOs, dVal, dSlot, dC, dVar, dIf, dAnd, dOr, dNot, dAndV, dOrV, dNotV, dTup, dLst, seeAll, see, valDatas, C.data, C.put, C.frozen, dSet, settable, dSetIx, ownL, dMut, dRetV, dRet, dRetN, dExp, dNext, dPar, dPar3, iAny, iEnumD, iZipD, lstOf, dChain, dAug, dCall, passAll, passO, ownSlots, nodupB, writeAll, dFor, iRg1, iRg2, iLst, iTpl, iStrD, gSet, gTuple, gMore, gEnd, dAsg, dMth, isStr, mkFn, isNone, intOf, DL.cutD, dLc, plainAt, tYesD, dSl11, List.getElem?_cons_zero, List.getElem?_cons_succ, List.getElem?_nil, List.set_cons_zero, List.set_cons_succ, List.length_cons, List.length_nil, List.map_cons, List.map_nil, List.replicate_succ, List.replicate_zero, List.cons_append, List.nil_append, List.append_nil, List.take_succ_cons, List.take_zero, List.contains_cons, List.contains_nil, Nat.reduceAdd, Nat.reduceLeDiff, Nat.reduceEqDiff, reduceIte, Nat.zero_add, Bool.and_true, Bool.true_and, Bool.not_false, Bool.false_eq_true, decide_true, decide_false, Bool.not_true, beq_self_eq_true, Bool.or_false, Bool.false_or, Nat.reduceBEq, sl, semLen_S, dv, ml, eq]
      · rw [if_neg c]
        rw [decide_eq_false c] at eq
        simp only [v1_law_round, dSeq, dIfS, dTst, dOp, dOs, dVal, dSlot, dC, dVar, dIf, dAnd, dOr, dNot, dAndV, dOrV, dNotV, dTup, dLst, seeAll, see, valDatas, C.data, C.put, C.frozen, dSet, settable, dSetIx, ownL, dMut, dRetV, dRet, dRetN, dExp, dNext, dPar, dPar3, iAny, iEnumD, iZipD, lstOf, dChain, dAug, dCall, passAll, passO, ownSlots, nodupB, writeAll, dFor, iRg1, iRg2, iLst, iTpl, iStrD, gSet, gTuple, gMore, gEnd, dAsg, dMth, isStr, mkFn, isNone, intOf, DL.cutD, dLc, plainAt, tYesD, dSl11, List.getElem?_cons_zero, List.getElem?_cons_succ, List.getElem?_nil, List.set_cons_zero, List.set_cons_succ, List.length_cons, List.length_nil, List.map_cons, List.map_nil, List.replicate_succ, List.replicate_zero, List.cons_append, List.nil_append, List.append_nil, List.take_succ_cons, List.take_zero, List.contains_cons, List.contains_nil, Nat.reduceAdd, Nat.reduceLeDiff, Nat.reduceEqDiff, reduceIte, Nat.zero_add, Bool.and_true, Bool.true_and, Bool.not_false, Bool.false_eq_true, decide_true, decide_false, Bool.not_true, beq_self_eq_true, Bool.or_false, Bool.false_or, Nat.reduceBEq, sl, semLen_S, dv, ml, eq]
    rw [intsD_succ, dForL, g]
    simp only [body]
    by_cases c : reps (w.length / s) (w.take s) = w
    · obtain ⟨c1, c2⟩ := reps_root s0 (by omega) c
      have : r = s := Nat.le_antisymm (h.least s s0 c1 c2) hr
      subst this
      rw [if_pos c]
      exact .inr ⟨_, rfl⟩
    · rw [if_neg c]
      have : s ≠ r := fun e => by
        subst e
        exact c (root_reps h.pos h.dvd h.pr)
      have z : (s : Int) + 1 = ((s + 1 : Nat) : Int) := rfl
      rw [z]
      exact round_loop h hw hn j (s + 1) (by omega) (by omega) (by omega) _ rfl
theorem round_ok {w : List Nat} {r : Nat} (h : IsRl w r) (hw : w ≠ []) (hn : w.length ≤ 1000000) : f_law_round [.fz (S w)] = some (.fz (S (w.take r)), [some (.fz (S w))]) := by
  have n0 : 0 < w.length := List.length_pos_iff.mpr hw
  have b1 : fits (-4611686018427387904 ≤ (1 : Int) ∧ (1 : Int) < 4611686018427387904 ∧ -4611686018427387904 ≤ (w.length : Int) ∧ (w.length : Int) < 4611686018427387904) = true := fits_of (by omega)
  have n1 : ((w.length : Int) - 1).toNat = w.length - 1 := by omega
  have lp := round_loop h hw hn (w.length - 1) 1 (by decide) (by omega) h.pos none rfl
  simp only [Int.natCast_one] at lp
  rcases lp with ⟨e, y, lp⟩ | ⟨y, lp⟩
  · simp only [f_law_round, b_law_round, dSeq, dIfS, dTst, dOp, dOs, dVal, dSlot, dC, dVar, dIf, dAnd, dOr, dNot, dAndV, dOrV, dNotV, dTup, dLst, seeAll, see, valDatas, C.data, C.put, C.frozen, dSet, settable, dSetIx, ownL, dMut, dRetV, dRet, dRetN, dExp, dNext, dPar, dPar3, iAny, iEnumD, iZipD, lstOf, dChain, dAug, dCall, passAll, passO, ownSlots, nodupB, writeAll, dFor, iRg1, iRg2, iLst, iTpl, iStrD, gSet, gTuple, gMore, gEnd, dAsg, dMth, isStr, mkFn, isNone, intOf, DL.cutD, dLc, plainAt, tYesD, dSl11, List.getElem?_cons_zero, List.getElem?_cons_succ, List.getElem?_nil, List.set_cons_zero, List.set_cons_succ, List.length_cons, List.length_nil, List.map_cons, List.map_nil, List.replicate_succ, List.replicate_zero, List.cons_append, List.nil_append, List.append_nil, List.take_succ_cons, List.take_zero, List.contains_cons, List.contains_nil, Nat.reduceAdd, Nat.reduceLeDiff, Nat.reduceEqDiff, reduceIte, Nat.zero_add, Bool.and_true, Bool.true_and, Bool.not_false, Bool.false_eq_true, decide_true, decide_false, Bool.not_true, beq_self_eq_true, Bool.or_false, Bool.false_or, Nat.reduceBEq, semLen_S, b1, n1, lp]
    rw [e, List.take_length]
  · simp only [f_law_round, b_law_round, dSeq, dIfS, dTst, dOp, dOs, dVal, dSlot, dC, dVar, dIf, dAnd, dOr, dNot, dAndV, dOrV, dNotV, dTup, dLst, seeAll, see, valDatas, C.data, C.put, C.frozen, dSet, settable, dSetIx, ownL, dMut, dRetV, dRet, dRetN, dExp, dNext, dPar, dPar3, iAny, iEnumD, iZipD, lstOf, dChain, dAug, dCall, passAll, passO, ownSlots, nodupB, writeAll, dFor, iRg1, iRg2, iLst, iTpl, iStrD, gSet, gTuple, gMore, gEnd, dAsg, dMth, isStr, mkFn, isNone, intOf, DL.cutD, dLc, plainAt, tYesD, dSl11, List.getElem?_cons_zero, List.getElem?_cons_succ, List.getElem?_nil, List.set_cons_zero, List.set_cons_succ, List.length_cons, List.length_nil, List.map_cons, List.map_nil, List.replicate_succ, List.replicate_zero, List.cons_append, List.nil_append, List.append_nil, List.take_succ_cons, List.take_zero, List.contains_cons, List.contains_nil, Nat.reduceAdd, Nat.reduceLeDiff, Nat.reduceEqDiff, reduceIte, Nat.zero_add, Bool.and_true, Bool.true_and, Bool.not_false, Bool.false_eq_true, decide_true, decide_false, Bool.not_true, beq_self_eq_true, Bool.or_false, Bool.false_or, Nat.reduceBEq, semLen_S, b1, n1, lp]
end LW
set_option Elab.async false
set_option linter.all false
set_option maxRecDepth 8000
set_option maxHeartbeats 4000000
namespace LW
open DL PySem L2
def lcp : List Nat → List Nat → List Nat
  | x :: l, y :: m => if x = y then x :: lcp l m else []
  | _, _ => []
theorem lcp_at : ∀ (l m : List Nat) (i : Nat), i < (lcp l m).length → ∃ x, l[i]? = some x ∧ m[i]? = some x
  | [], m, i, h => by simp [lcp] at h
  | x :: l, [], i, h => by simp [lcp] at h
  | x :: l, y :: m, i, h => by
    unfold lcp at h
    by_cases e : x = y
    · rw [if_pos e] at h
      cases i with
      | zero => exact ⟨x, rfl, by rw [e]; rfl⟩
      | succ i =>
        obtain ⟨z, h1, h2⟩ := lcp_at l m i (by simpa using h)
        exact ⟨z, by simpa using h1, by simpa using h2⟩
    · rw [if_neg e] at h
      simp at h
theorem lcp_end : ∀ (l m : List Nat) (x y : Nat), l[(lcp l m).length]? = some x → m[(lcp l m).length]? = some y → x ≠ y
  | [], m, x, y, h, _ => by simp at h
  | a :: l, [], x, y, _, h => by simp at h
  | a :: l, b :: m, x, y, h1, h2 => by
    unfold lcp at h1 h2
    by_cases e : a = b
    · rw [if_pos e] at h1 h2
      exact lcp_end l m x y (by simpa using h1) (by simpa using h2)
    · rw [if_neg e] at h1 h2
      simp at h1 h2
      rw [← h1, ← h2]
      exact e
theorem lcp_take : ∀ l m : List Nat, l.take (lcp l m).length = lcp l m
  | [], m => by simp [lcp]
  | x :: l, [] => by simp [lcp]
  | x :: l, y :: m => by
    unfold lcp
    by_cases e : x = y
    · rw [if_pos e]
      simp [lcp_take l m]
    · rw [if_neg e]
      rfl
theorem lcp_comm : ∀ l m : List Nat, lcp l m = lcp m l
  | [], [] => rfl
  | [], y :: m => rfl
  | x :: l, [] => rfl
  | x :: l, y :: m => by
    unfold lcp
    by_cases e : x = y
    · rw [if_pos e, if_pos e.symm, e, lcp_comm l m]
    · rw [if_neg e, if_neg (Ne.symm e)]
theorem lcp_self : ∀ l : List Nat, lcp l l = l
  | [] => rfl
  | x :: l => by
    unfold lcp
    rw [if_pos rfl, lcp_self l]
theorem lcp_le1 (l m : List Nat) : (lcp l m).length ≤ l.length := by
  rw [← lcp_take l m]
  simp
  omega
theorem lcp_le2 (l m : List Nat) : (lcp l m).length ≤ m.length := by
  rw [lcp_comm]
  exact lcp_le1 m l
theorem lcp_full : ∀ (l m : List Nat), (∀ k, k < l.length → m[k]? = l[k]?) → lcp l m = l
  | [], m, _ => by simp [lcp]
  | x :: l, [], h => by have := h 0 (by simp); simp at this
  | x :: l, y :: m, h => by
    have e : y = x := by have := h 0 (by simp); simpa using this
    unfold lcp
    rw [if_pos e.symm, lcp_full l m fun k hk => by have := h (k + 1) (by simp; omega); simpa using this]
theorem lcp_size {l m : List Nat} {i : Nat} (h1 : i ≤ l.length) (h2 : ∀ k, k < i → l[k]? = m[k]?) (h3 : i < l.length → l[i]? ≠ m[i]?) (hm : i ≤ m.length) : (lcp l m).length = i := by
  rcases Nat.lt_trichotomy (lcp l m).length i with h | h | h
  · have e1 : l[(lcp l m).length]? = some l[(lcp l m).length] := by simp
    have e2 : m[(lcp l m).length]? = some m[(lcp l m).length] := by simp
    have := lcp_end l m _ _ e1 e2
    have e3 := h2 _ h
    rw [e1, e2] at e3
    exact absurd (Option.some.inj e3) this
  · exact h
  · obtain ⟨x, e1, e2⟩ := lcp_at l m i h
    exact absurd (e1.trans e2.symm) (h3 (List.getElem?_eq_some_iff.mp e1).1)
/-! common -/
theorem common_loop (l m : List Nat) : ∀ (k i : Nat), i + k = (lcp l m).length →
    dWhileN t1_common u1_common (k + 1) [some (.fz (S l)), some (.fz (S m)), some (.fz (.int (i : Int)))] = some (.nx, [some (.fz (S l)), some (.fz (S m)), some (.fz (.int ((lcp l m).length : Int)))])
  | 0, i, h => by
    have hi : i = (lcp l m).length := by omega
    subst hi
    have test : t1_common [some (.fz (S l)), some (.fz (S m)), some (.fz (.int ((lcp l m).length : Int)))] = some (false, [some (.fz (S l)), some (.fz (S m)), some (.fz (.int ((lcp l m).length : Int)))]) := by
      by_cases h1 : (lcp l m).length < l.length
      · by_cases h2 : (lcp l m).length < m.length
        · have e1 : l[(lcp l m).length]? = some l[(lcp l m).length] := by simp [h1]
          have e2 : m[(lcp l m).length]? = some m[(lcp l m).length] := by simp [h2]
          have ne := lcp_end l m _ _ e1 e2
          simp [t1_common, dSeq, dIfS, dTst, dOp, dOs, dVal, dSlot, dC, dVar, dIf, dAnd, dOr, dNot, dAndV, dOrV, dNotV, dTup, dLst, seeAll, see, valDatas, C.data, C.put, C.frozen, dSet, settable, dSetIx, ownL, dMut, dRetV, dRet, dRetN, dExp, dNext, dPar, dPar3, iAny, iEnumD, iZipD, lstOf, dChain, dAug, dCall, passAll, passO, ownSlots, nodupB, writeAll, dFor, iRg1, iRg2, iLst, iTpl, iStrD, gSet, gTuple, gMore, gEnd, dAsg, dMth, isStr, mkFn, isNone, intOf, DL.cutD, dLc, plainAt, tYesD, dSl11, semLt, semLen, h1, h2, ixS e1, ixS e2, semEq_S, ne]
        · simp [t1_common, dSeq, dIfS, dTst, dOp, dOs, dVal, dSlot, dC, dVar, dIf, dAnd, dOr, dNot, dAndV, dOrV, dNotV, dTup, dLst, seeAll, see, valDatas, C.data, C.put, C.frozen, dSet, settable, dSetIx, ownL, dMut, dRetV, dRet, dRetN, dExp, dNext, dPar, dPar3, iAny, iEnumD, iZipD, lstOf, dChain, dAug, dCall, passAll, passO, ownSlots, nodupB, writeAll, dFor, iRg1, iRg2, iLst, iTpl, iStrD, gSet, gTuple, gMore, gEnd, dAsg, dMth, isStr, mkFn, isNone, intOf, DL.cutD, dLc, plainAt, tYesD, dSl11, semLt, semLen, h1, h2]
      · simp [t1_common, dSeq, dIfS, dTst, dOp, dOs, dVal, dSlot, dC, dVar, dIf, dAnd, dOr, dNot, dAndV, dOrV, dNotV, dTup, dLst, seeAll, see, valDatas, C.data, C.put, C.frozen, dSet, settable, dSetIx, ownL, dMut, dRetV, dRet, dRetN, dExp, dNext, dPar, dPar3, iAny, iEnumD, iZipD, lstOf, dChain, dAug, dCall, passAll, passO, ownSlots, nodupB, writeAll, dFor, iRg1, iRg2, iLst, iTpl, iStrD, gSet, gTuple, gMore, gEnd, dAsg, dMth, isStr, mkFn, isNone, intOf, DL.cutD, dLc, plainAt, tYesD, dSl11, semLt, semLen, h1]
    rw [dWhileN, test]
  | k + 1, i, h => by
    obtain ⟨x, e1, e2⟩ := lcp_at l m i (by omega)
    have h1 : i < l.length := (List.getElem?_eq_some_iff.mp e1).1
    have h2 : i < m.length := (List.getElem?_eq_some_iff.mp e2).1
    have ih := common_loop l m k (i + 1) (by omega)
    have test : t1_common [some (.fz (S l)), some (.fz (S m)), some (.fz (.int (i : Int)))] = some (true, [some (.fz (S l)), some (.fz (S m)), some (.fz (.int (i : Int)))]) := by
      simp [t1_common, dSeq, dIfS, dTst, dOp, dOs, dVal, dSlot, dC, dVar, dIf, dAnd, dOr, dNot, dAndV, dOrV, dNotV, dTup, dLst, seeAll, see, valDatas, C.data, C.put, C.frozen, dSet, settable, dSetIx, ownL, dMut, dRetV, dRet, dRetN, dExp, dNext, dPar, dPar3, iAny, iEnumD, iZipD, lstOf, dChain, dAug, dCall, passAll, passO, ownSlots, nodupB, writeAll, dFor, iRg1, iRg2, iLst, iTpl, iStrD, gSet, gTuple, gMore, gEnd, dAsg, dMth, isStr, mkFn, isNone, intOf, DL.cutD, dLc, plainAt, tYesD, dSl11, semLt, semLen, h1, h2, ixS e1, ixS e2, semEq_S]
    have body : u1_common [some (.fz (S l)), some (.fz (S m)), some (.fz (.int (i : Int)))] = some (.nx, [some (.fz (S l)), some (.fz (S m)), some (.fz (.int ((i + 1 : Nat) : Int)))]) := by
      simp [u1_common, dSeq, dIfS, dTst, dOp, dOs, dVal, dSlot, dC, dVar, dIf, dAnd, dOr, dNot, dAndV, dOrV, dNotV, dTup, dLst, seeAll, see, valDatas, C.data, C.put, C.frozen, dSet, settable, dSetIx, ownL, dMut, dRetV, dRet, dRetN, dExp, dNext, dPar, dPar3, iAny, iEnumD, iZipD, lstOf, dChain, dAug, dCall, passAll, passO, ownSlots, nodupB, writeAll, dFor, iRg1, iRg2, iLst, iTpl, iStrD, gSet, gTuple, gMore, gEnd, dAsg, dMth, isStr, mkFn, isNone, intOf, DL.cutD, dLc, plainAt, tYesD, dSl11, semAddI]
    rw [dWhileN, test]
    simp only [body]
    exact ih
theorem common_ok (l m : List Nat) : f_common [.fz (S l), .fz (S m)] = some (.fz (S (lcp l m)), [some (.fz (S l)), some (.fz (S m))]) := by
  have lp := dWhile_of (common_loop l m (lcp l m).length 0 (by omega))
  simp only [Int.natCast_zero] at lp
  simp [f_common, b_common, lp, dSeq, dIfS, dTst, dOp, dOs, dVal, dSlot, dC, dVar, dIf, dAnd, dOr, dNot, dAndV, dOrV, dNotV, dTup, dLst, seeAll, see, valDatas, C.data, C.put, C.frozen, dSet, settable, dSetIx, ownL, dMut, dRetV, dRet, dRetN, dExp, dNext, dPar, dPar3, iAny, iEnumD, iZipD, lstOf, dChain, dAug, dCall, passAll, passO, ownSlots, nodupB, writeAll, dFor, iRg1, iRg2, iLst, iTpl, iStrD, gSet, gTuple, gMore, gEnd, dAsg, dMth, isStr, mkFn, isNone, intOf, DL.cutD, dLc, plainAt, tYesD, dSl11, semSl01, cut_to, lcp_take]
/-! along -/
def endless (l : List Nat) (n : Nat) : List Nat := (List.replicate (n / l.length + 1) l).flatten.take n
theorem rep_at (l : List Nat) : ∀ (q k : Nat), k < l.length * q → (List.replicate q l).flatten[k]? = l[k % l.length]?
  | 0, k, h => by omega
  | q + 1, k, h => by
    rw [List.replicate_succ, List.flatten_cons]
    by_cases hk : k < l.length
    · rw [List.getElem?_append_left hk, Nat.mod_eq_of_lt hk]
    · rw [List.getElem?_append_right (by omega), rep_at l q (k - l.length) (by rw [Nat.mul_succ] at h; omega), ← Nat.mod_eq_sub_mod (by omega)]
theorem endless_enough (l : List Nat) (n : Nat) (hl : l ≠ []) : n ≤ l.length * (n / l.length + 1) := by
  have p : 0 < l.length := List.length_pos_iff.mpr hl
  have := Nat.div_add_mod n l.length
  have := Nat.mod_lt n p
  rw [Nat.mul_succ]
  omega
theorem endless_len (l : List Nat) (n : Nat) (hl : l ≠ []) : (endless l n).length = n := by
  unfold endless
  rw [List.length_take, flatten_len]
  exact Nat.min_eq_left (endless_enough l n hl)
theorem endless_at (l : List Nat) (n k : Nat) (hl : l ≠ []) (hk : k < n) : (endless l n)[k]? = l[k % l.length]? := by
  unfold endless
  rw [List.getElem?_take_of_lt hk, rep_at]
  exact Nat.lt_of_lt_of_le hk (endless_enough l n hl)
theorem endless_ok (l : List Nat) (n : Nat) (hl : l ≠ []) (h1 : n + l.length ≤ 1000000) : f_of_endless [.fz (S l), .fz (.int (n : Int))] = some (.fz (S (endless l n)), [some (.fz (S l)), some (.fz (.int (n : Int)))]) := by
  have p : 0 < l.length := List.length_pos_iff.mpr hl
  have q1 : n / l.length ≤ n := Nat.div_le_self _ _
  have q2 : l.length * (n / l.length + 1) ≤ 1000000 := by
    have := Nat.mul_div_le n l.length
    rw [Nat.mul_succ]
    omega
  have dv := semDiv_nat n l.length p (by omega)
  have ml := semMul_S l (n / l.length + 1) (by omega) (by omega)
  simp only [f_of_endless, b_of_endless, dSeq, dIfS, dTst, dOp, dOs, dVal, dSlot, dC, dVar, dIf, dAnd, dOr, dNot, dAndV, dOrV, dNotV, dTup, dLst, seeAll, see, valDatas, C.data, C.put, C.frozen, dSet, settable, dSetIx, ownL, dMut, dRetV, dRet, dRetN, dExp, dNext, dPar, dPar3, iAny, iEnumD, iZipD, lstOf, dChain, dAug, dCall, passAll, passO, ownSlots, nodupB, writeAll, dFor, iRg1, iRg2, iLst, iTpl, iStrD, gSet, gTuple, gMore, gEnd, dAsg, dMth, isStr, mkFn, isNone, intOf, DL.cutD, dLc, plainAt, tYesD, dSl11, List.getElem?_cons_zero, List.getElem?_cons_succ, List.getElem?_nil, List.set_cons_zero, List.set_cons_succ, List.length_cons, List.length_nil, List.map_cons, List.map_nil, List.replicate_succ, List.replicate_zero, List.cons_append, List.nil_append, List.append_nil, List.take_succ_cons, List.take_zero, List.contains_cons, List.contains_nil, Nat.reduceAdd, Nat.reduceLeDiff, Nat.reduceEqDiff, reduceIte, Nat.zero_add, Bool.and_true, Bool.true_and, Bool.not_false, Bool.false_eq_true, decide_true, decide_false, Bool.not_true, beq_self_eq_true, Bool.or_false, Bool.false_or, Nat.reduceBEq, semLen_S, dv, semAdd_nat1, ml, semSl01_S]
  rfl
end LW
set_option Elab.async false
set_option linter.all false
set_option maxRecDepth 8000
set_option maxHeartbeats 4000000
namespace LW
open DL PySem L2
/-! ### where two words, said without end, part -/
def ew (u : List Nat) (k : Nat) : Option Nat := u[k % u.length]?
theorem comm_same {u v : List Nat} (hu : u ≠ []) (hv : v ≠ []) (h : u ++ v = v ++ u) (k : Nat) : ew u k = ew v k := by
  have p0 : 0 < u.length := List.length_pos_iff.mpr hu
  have q0 : 0 < v.length := List.length_pos_iff.mpr hv
  have a1 : ∀ i, i < u.length → (u ++ v)[i]? = u[i]? := fun i hi => List.getElem?_append_left hi
  have a2 : ∀ i, (u ++ v)[u.length + i]? = v[i]? := fun i => by rw [List.getElem?_append_right (by omega)]; congr 1; omega
  have b1 : ∀ i, i < v.length → (u ++ v)[i]? = v[i]? := fun i hi => by rw [h]; exact List.getElem?_append_left hi
  have b2 : ∀ i, (u ++ v)[v.length + i]? = u[i]? := fun i => by rw [h, List.getElem?_append_right (by omega)]; congr 1; omega
  have L : (u ++ v).length = u.length + v.length := List.length_append
  have P : per (u ++ v) u.length := fun i hi => by
    rw [L] at hi
    rw [b1 i (by omega), Nat.add_comm i, a2]
  have Q : per (u ++ v) v.length := fun i hi => by
    rw [L] at hi
    rw [a1 i (by omega), Nat.add_comm i, b2]
  have G := per_gcd _ u.length v.length (Nat.le_refl _) P Q (by omega)
  have e1 : ew u k = (u ++ v)[k % Nat.gcd u.length v.length]? := by
    unfold ew
    have m := Nat.mod_lt k p0
    rw [← a1 _ m, per_mod G (by omega), Nat.mod_mod_of_dvd _ (Nat.gcd_dvd_left _ _)]
  have e2 : ew v k = (u ++ v)[k % Nat.gcd u.length v.length]? := by
    unfold ew
    have m := Nat.mod_lt k q0
    rw [← b1 _ m, per_mod G (by omega), Nat.mod_mod_of_dvd _ (Nat.gcd_dvd_right _ _)]
  rw [e1, e2]
theorem ew_lt {u : List Nat} {k : Nat} (h : k < u.length) : ew u k = u[k]? := by
  unfold ew
  rw [Nat.mod_eq_of_lt h]
theorem ew_sub {u : List Nat} {k : Nat} (h : u.length ≤ k) : ew u (k - u.length) = ew u k := by
  unfold ew
  rw [← Nat.mod_eq_sub_mod h]
theorem cat_ew {u v : List Nat} (h : ∀ k, k < v.length → ew u k = ew v k) {i : Nat} (hi : i < u.length + v.length) : (u ++ v)[i]? = ew u i := by
  by_cases c : i < u.length
  · rw [List.getElem?_append_left c, ew_lt c]
  · rw [List.getElem?_append_right (by omega), ← ew_lt (by omega), ← h _ (by omega), ew_sub (by omega)]
theorem same_comm {u v : List Nat} (h : ∀ k, k < u.length + v.length → ew u k = ew v k) : u ++ v = v ++ u := by
  apply List.ext_getElem?
  intro i
  by_cases hi : i < u.length + v.length
  · rw [cat_ew (fun k hk => h k (by omega)) hi, cat_ew (fun k hk => (h k (by omega)).symm) (by omega), h i hi]
  · rw [List.getElem?_eq_none (by rw [List.length_append]; omega), List.getElem?_eq_none (by rw [List.length_append]; omega)]
theorem ew_reps {u : List Nat} (hu : u ≠ []) {m : Nat} (hm : 0 < m) (k : Nat) : ew (reps m u) k = ew u k := by
  have p0 : 0 < u.length := List.length_pos_iff.mpr hu
  unfold ew
  rw [reps_len, reps_at u m _ (Nat.mod_lt _ (Nat.mul_pos p0 hm)), Nat.mod_mod_of_dvd k (Nat.dvd_mul_right _ _)]
theorem end_ew {u : List Nat} (hu : u ≠ []) {n k : Nat} (hk : k < n) : (endless u n)[k]? = ew u k := endless_at u n k hu hk
theorem end_take {u : List Nat} (hu : u ≠ []) {n i : Nat} (h : i ≤ n) : (endless u n).take i = endless u i := by
  apply List.ext_getElem?
  intro k
  by_cases hk : k < i
  · rw [List.getElem?_take_of_lt hk, end_ew hu (by omega), end_ew hu hk]
  · rw [List.getElem?_eq_none (by rw [List.length_take, endless_len u n hu]; omega), List.getElem?_eq_none (by rw [endless_len u i hu]; omega)]
theorem end_same {u v : List Nat} (hu : u ≠ []) (hv : v ≠ []) (h : ∀ k, ew u k = ew v k) (i : Nat) : endless u i = endless v i := by
  apply List.ext_getElem?
  intro k
  by_cases hk : k < i
  · rw [end_ew hu hk, end_ew hv hk, h]
  · rw [List.getElem?_eq_none (by rw [endless_len u i hu]; omega), List.getElem?_eq_none (by rw [endless_len v i hv]; omega)]
/-- the first place at which two words, said without end, are unlike -/
def parts (u v : List Nat) (i : Nat) : Prop := (∀ k, k < i → ew u k = ew v k) ∧ ew u i ≠ ew v i
theorem parts_lcp {u v : List Nat} (hu : u ≠ []) (hv : v ≠ []) {i n : Nat} (h : parts u v i) (hi : i < n) : lcp (endless u n) (endless v n) = endless u i := by
  have L := lcp_size (l := endless u n) (m := endless v n) (i := i) (by rw [endless_len u n hu]; omega) (fun k hk => by rw [end_ew hu (by omega), end_ew hv (by omega), h.1 k hk]) (fun _ => by rw [end_ew hu hi, end_ew hv hi]; exact h.2) (by rw [endless_len v n hv]; omega)
  rw [← lcp_take, L, end_take hu (by omega)]
theorem parts_ex {u v : List Nat} (h : u ++ v ≠ v ++ u) : ∃ i, i < u.length + v.length ∧ parts u v i := by
  have : ∃ k, k < u.length + v.length ∧ ew u k ≠ ew v k := Classical.byContradiction fun c => h (same_comm fun k hk => Classical.byContradiction fun z => c ⟨k, hk, z⟩)
  obtain ⟨k, h1, h2⟩ := this
  obtain ⟨i, a, b⟩ := least_is (fun k => ew u k ≠ ew v k) k h2
  exact ⟨i, by have := b k h2; omega, fun j hj => Classical.byContradiction fun z => by have := b j z; omega, a⟩
theorem parts_one {u v : List Nat} {i j : Nat} (h : parts u v i) (g : parts u v j) : i = j := by
  rcases Nat.lt_trichotomy i j with c | c | c
  · exact absurd (g.1 i c) h.2
  · exact c
  · exact absurd (h.1 j c) g.2
/-- the common beginning that is due, or none -/
noncomputable def meet (u v : List Nat) : PyData := if u ++ v = v ++ u then .none else S (lcp (endless u (u.length + v.length)) (endless v (u.length + v.length)))
theorem meet_comm (u v : List Nat) : meet u v = meet v u := by
  unfold meet
  by_cases h : u ++ v = v ++ u
  · rw [if_pos h, if_pos h.symm]
  · rw [if_neg h, if_neg (Ne.symm h), lcp_comm, Nat.add_comm]
theorem meet_none {u v : List Nat} (h : u ++ v = v ++ u) : meet u v = .none := if_pos h
theorem meet_some {u v : List Nat} (hu : u ≠ []) (hv : v ≠ []) {i : Nat} (h : parts u v i) : meet u v = S (endless u i) := by
  have ne : u ++ v ≠ v ++ u := fun e => h.2 (comm_same hu hv e i)
  obtain ⟨j, h1, h2⟩ := parts_ex ne
  cases parts_one h h2
  unfold meet
  rw [if_neg ne, parts_lcp hu hv h h1]
theorem meet_reps {u v : List Nat} (hu : u ≠ []) (hv : v ≠ []) {m l : Nat} (hm : 0 < m) (hl : 0 < l) : meet (reps m u) (reps l v) = meet u v := by
  by_cases h : u ++ v = v ++ u
  · rw [meet_none h]
    refine meet_none (same_comm fun k _ => ?_)
    rw [ew_reps hu hm, ew_reps hv hl]
    exact comm_same hu hv h k
  · obtain ⟨i, _, h2⟩ := parts_ex h
    have h3 : parts (reps m u) (reps l v) i := ⟨fun k hk => by rw [ew_reps hu hm, ew_reps hv hl]; exact h2.1 k hk, by rw [ew_reps hu hm, ew_reps hv hl]; exact h2.2⟩
    rw [meet_some hu hv h2, meet_some (reps_ne hm hu) (reps_ne hl hv) h3, end_same (reps_ne hm hu) hu (ew_reps hu hm)]
/-- two words' roots are one word where the words commute, and there alone -/
theorem roots_same {u v : List Nat} (hu : u ≠ []) (hv : v ≠ []) {r s : Nat} (R : IsRl u r) (T : IsRl v s) : u.take r = v.take s ↔ u ++ v = v ++ u := by
  have tu : (u.take r).length = r := by rw [List.length_take]; have := R.le hu; omega
  have tv : (v.take s).length = s := by rw [List.length_take]; have := T.le hv; omega
  have eu : ∀ k, ew (u.take r) k = ew u k := fun k => by
    have p0 : 0 < u.length := List.length_pos_iff.mpr hu
    unfold ew
    rw [tu, List.getElem?_take_of_lt (Nat.mod_lt _ R.pos), per_mod R.pr (Nat.mod_lt k p0), Nat.mod_mod_of_dvd _ R.dvd]
  have evv : ∀ k, ew (v.take s) k = ew v k := fun k => by
    have p0 : 0 < v.length := List.length_pos_iff.mpr hv
    unfold ew
    rw [tv, List.getElem?_take_of_lt (Nat.mod_lt _ T.pos), per_mod T.pr (Nat.mod_lt k p0), Nat.mod_mod_of_dvd _ T.dvd]
  constructor
  · intro e
    exact same_comm fun k _ => by rw [← eu, ← evv, e]
  · intro e
    have p0 : 0 < u.length := List.length_pos_iff.mpr hu
    have q0 : 0 < v.length := List.length_pos_iff.mpr hv
    have sm := comm_same hu hv e
    have L1 := reps_len v.length u
    have L2 := reps_len u.length v
    have big : reps v.length u = reps u.length v := by
      apply List.ext_getElem?
      intro i
      by_cases hi : i < u.length * v.length
      · rw [reps_at u v.length i hi, reps_at v u.length i (by rw [Nat.mul_comm]; exact hi)]
        exact sm i
      · rw [List.getElem?_eq_none (by omega), List.getElem?_eq_none (by rw [L2, Nat.mul_comm]; omega)]
    have R2 := R.reps hu q0
    rw [big] at R2
    have rs := R2.unique (T.reps hv p0)
    subst rs
    apply List.ext_getElem?
    intro i
    by_cases hi : i < r
    · have a := eu i
      have b := evv i
      rw [ew_lt (by omega)] at a b
      rw [a, b, sm]
    · rw [List.getElem?_eq_none (by omega), List.getElem?_eq_none (by omega)]
end LW
set_option Elab.async false
set_option linter.all false
set_option maxRecDepth 8000
set_option maxHeartbeats 4000000
namespace LW
open DL PySem L2
/-! ### pairs, in plain words: a head and an echo -/
theorem lcp_pre : ∀ {l m x : List Nat}, x <+: lcp l m ↔ x <+: l ∧ x <+: m
  | [], m, x => by
    unfold lcp
    constructor
    · intro h
      have := List.prefix_nil.mp h
      subst this
      exact ⟨List.nil_prefix, List.nil_prefix⟩
    · exact fun h => h.1
  | a :: l, [], x => by
    unfold lcp
    constructor
    · intro h
      have := List.prefix_nil.mp h
      subst this
      exact ⟨List.nil_prefix, List.nil_prefix⟩
    · exact fun h => h.2
  | a :: l, b :: m, [] => by simp
  | a :: l, b :: m, c :: x => by
    unfold lcp
    by_cases e : a = b
    · rw [if_pos e]
      subst e
      rw [List.cons_prefix_cons, List.cons_prefix_cons, List.cons_prefix_cons, lcp_pre (l := l) (m := m)]
      constructor
      · rintro ⟨h1, h2, h3⟩
        exact ⟨⟨h1, h2⟩, h1, h3⟩
      · rintro ⟨⟨h1, h2⟩, _, h3⟩
        exact ⟨h1, h2, h3⟩
    · rw [if_neg e, List.cons_prefix_cons, List.cons_prefix_cons]
      constructor
      · intro h
        have := List.prefix_nil.mp h
        cases this
      · rintro ⟨⟨h1, _⟩, h2, _⟩
        exact absurd (h1.symm.trans h2) e
theorem pre_ext {l m : List Nat} (h : ∀ x, x <+: l ↔ x <+: m) : l = m := by
  have a := (h l).mp (List.prefix_refl l)
  have b := (h m).mpr (List.prefix_refl m)
  exact a.eq_of_length (Nat.le_antisymm a.length_le b.length_le)
theorem pre_at {x l : List Nat} : x <+: l ↔ ∀ k, k < x.length → l[k]? = x[k]? := by
  constructor
  · rintro ⟨r, rfl⟩ k hk
    exact List.getElem?_append_left hk
  · intro h
    have e : x = l.take x.length := by
      apply List.ext_getElem?
      intro k
      by_cases hk : k < x.length
      · rw [List.getElem?_take_of_lt hk, h k hk]
      · rw [List.getElem?_eq_none (by omega), List.getElem?_eq_none (by rw [List.length_take]; omega)]
    rw [e]
    exact List.take_prefix _ _
theorem pre_app {x h z : List Nat} : x <+: h ++ z ↔ x <+: h ∨ ∃ y, x = h ++ y ∧ y <+: z := by
  constructor
  · intro p
    by_cases c : x.length ≤ h.length
    · exact .inl (List.prefix_of_prefix_length_le p (List.prefix_append h z) c)
    · have q := List.prefix_of_prefix_length_le (List.prefix_append h z) p (by omega)
      obtain ⟨y, rfl⟩ := q
      exact .inr ⟨y, rfl, (List.prefix_append_right_inj h).mp p⟩
  · rintro (p | ⟨y, rfl, p⟩)
    · exact p.trans (List.prefix_append h z)
    · exact (List.prefix_append_right_inj h).mpr p
theorem lcp_eq_pre {l m : List Nat} : lcp l m = l ↔ l <+: m := by
  constructor
  · intro e
    have := (lcp_pre (l := l) (m := m) (x := l)).mp (by rw [e]; exact List.prefix_refl l)
    exact this.2
  · intro h
    exact pre_ext fun x => by
      rw [lcp_pre]
      exact ⟨fun h => h.1, fun z => ⟨z, z.trans h⟩⟩
theorem lcp_eq_pre2 {l m : List Nat} : lcp l m = m ↔ m <+: l := by
  rw [lcp_comm, lcp_eq_pre]
theorem lcp_app (h l m : List Nat) : lcp (h ++ l) (h ++ m) = h ++ lcp l m := by
  induction h with
  | nil => rfl
  | cons x h ih =>
    show (if x = x then x :: lcp (h ++ l) (h ++ m) else []) = _
    rw [if_pos rfl, ih]
    rfl
theorem lcp_assoc (a b c : List Nat) : lcp (lcp a b) c = lcp a (lcp b c) := pre_ext fun x => by
  rw [lcp_pre, lcp_pre, lcp_pre, lcp_pre]
  constructor
  · rintro ⟨⟨h1, h2⟩, h3⟩
    exact ⟨h1, h2, h3⟩
  · rintro ⟨h1, h2, h3⟩
    exact ⟨⟨h1, h2⟩, h3⟩
/-- a word with which the endless of a word begins -/
def rnd (t x : List Nat) : Prop := ∀ k, k < x.length → x[k]? = ew t k
theorem rnd_end {t x : List Nat} (ht : t ≠ []) {n : Nat} (h : x.length ≤ n) : x <+: endless t n ↔ rnd t x := by
  rw [pre_at]
  constructor
  · intro q k hk
    rw [← q k hk, end_ew ht (by omega)]
  · intro q k hk
    rw [q k hk, end_ew ht (by omega)]
theorem rnd_pre {t x y : List Nat} (h : rnd t x) (p : y <+: x) : rnd t y := fun k hk => by
  have := p.length_le
  rw [← h k (by omega)]
  exact (pre_at.mp p k hk).symm
theorem rnd_endless {t : List Nat} (ht : t ≠ []) (n : Nat) : rnd t (endless t n) := (rnd_end ht (by rw [endless_len t n ht]; exact Nat.le_refl _)).mp (List.prefix_refl _)
theorem rnd_same {s t x : List Nat} (h : ∀ k, ew s k = ew t k) : rnd s x ↔ rnd t x :=
  ⟨fun q k hk => by rw [q k hk, h], fun q k hk => by rw [q k hk, h]⟩
theorem ew_some {t : List Nat} (ht : t ≠ []) (k : Nat) : ∃ c, ew t k = some c := by
  have p : 0 < t.length := List.length_pos_iff.mpr ht
  exact ⟨t[k % t.length]'(Nat.mod_lt _ p), by unfold ew; simp [Nat.mod_lt _ p]⟩
/-- two of one endless: the shorter one begins the longer one -/
theorem rnd_two {t x y : List Nat} (hx : rnd t x) (hy : rnd t y) (h : x.length ≤ y.length) : x <+: y := pre_at.mpr fun k hk => by rw [hx k hk, hy k (by omega)]
theorem rnd_snoc {t x : List Nat} {c : Nat} (h : rnd t x) (e : ew t x.length = some c) : rnd t (x ++ [c]) := fun k hk => by
  rw [List.length_append, List.length_singleton] at hk
  by_cases c1 : k < x.length
  · rw [List.getElem?_append_left c1, h k c1]
  · have : k = x.length := by omega
    subst this
    rw [List.getElem?_append_right (Nat.le_refl _), e]
    simp
theorem ew_shift {t : List Nat} (k : Nat) : ew t (t.length + k) = ew t k := by
  unfold ew
  rw [Nat.add_mod_left]
theorem rnd_app {t x : List Nat} : rnd t (t ++ x) ↔ rnd t x := by
  constructor
  · intro h k hk
    have := h (t.length + k) (by rw [List.length_append]; omega)
    rw [ew_shift] at this
    rw [← this, List.getElem?_append_right (by omega)]
    congr 1
    omega
  · intro h k hk
    rw [List.length_append] at hk
    by_cases c : k < t.length
    · rw [List.getElem?_append_left c, ew_lt c]
    · rw [List.getElem?_append_right (by omega), h _ (by omega), ← ew_shift]
      congr 1
      omega
theorem rnd_take {t : List Nat} : rnd t t := fun k hk => by rw [ew_lt hk]
inductive Ec where
  | all | word (w : List Nat) | round (t : List Nat)
  deriving DecidableEq
def Has : Ec → List Nat → Prop
  | .all, _ => True
  | .word u, x => x <+: u
  | .round t, x => rnd t x
def okE : Ec → Prop
  | .round t => t ≠ []
  | _ => True
/-- what an echo has of a word -/
def hrd : Ec → List Nat → List Nat
  | .all, w => w
  | .word u, w => lcp w u
  | .round t, w => lcp w (endless t w.length)
theorem has_hrd {e : Ec} (he : okE e) {x w : List Nat} : x <+: hrd e w ↔ x <+: w ∧ Has e x := by
  cases e with
  | all => exact ⟨fun h => ⟨h, trivial⟩, fun h => h.1⟩
  | word u => exact lcp_pre
  | round t =>
    rw [hrd, lcp_pre]
    constructor
    · rintro ⟨h1, h2⟩
      exact ⟨h1, (rnd_end he h1.length_le).mp h2⟩
    · rintro ⟨h1, h2⟩
      exact ⟨h1, (rnd_end he h1.length_le).mpr h2⟩
theorem has_pre {e : Ec} {x y : List Nat} (h : Has e x) (p : y <+: x) : Has e y := by
  cases e with
  | all => trivial
  | word u => exact p.trans h
  | round t => exact rnd_pre h p
theorem hrd_nil {e : Ec} (he : okE e) : hrd e [] = [] := List.prefix_nil.mp ((has_hrd he).mp (List.prefix_refl _)).1
theorem hrd_all {e : Ec} (he : okE e) {w : List Nat} (h : Has e w) : hrd e w = w := pre_ext fun x => by
  rw [has_hrd he]
  exact ⟨fun z => z.1, fun z => ⟨z, has_pre h z⟩⟩
theorem hrd_eq {e : Ec} (he : okE e) {w : List Nat} : hrd e w = w ↔ Has e w :=
  ⟨fun h => ((has_hrd he).mp (by rw [h]; exact List.prefix_refl w)).2, hrd_all he⟩
abbrev Pr := List Nat × Ec
def pw (p : Pr) (w : List Nat) : List Nat := p.1 ++ hrd p.2 w
/-! canonical pairs -/
def canE : Ec → Prop
  | .round t => t ≠ [] ∧ IsRl t t.length
  | _ => True
theorem canE.ok {e : Ec} (h : canE e) : okE e := by
  cases e with
  | all => trivial
  | word u => trivial
  | round t => exact h.1
theorem root_one {s t : List Nat} (hs : s ≠ []) (ht : t ≠ []) (R : IsRl s s.length) (T : IsRl t t.length) (h : ∀ k, ew s k = ew t k) : s = t := by
  have := (roots_same hs ht R T).mpr (same_comm fun k _ => h k)
  simpa using this
theorem rnd_all_same {s t : List Nat} (hs : s ≠ []) (ht : t ≠ []) (h : ∀ x, rnd s x ↔ rnd t x) (k : Nat) : ew s k = ew t k := by
  have := (h (endless s (k + 1))).mp (rnd_endless hs _) k (by rw [endless_len s _ hs]; omega)
  rw [end_ew hs (by omega)] at this
  exact this
theorem can_one {e f : Ec} (he : canE e) (hf : canE f) (h : ∀ x, Has e x ↔ Has f x) : e = f := by
  have long : ∀ (t u : List Nat), t ≠ [] → ¬ (∀ x, rnd t x ↔ x <+: u) := fun t u ht q => by
    have := (q (endless t (u.length + 1))).mp (rnd_endless ht _)
    have := this.length_le
    rw [endless_len t _ ht] at this
    omega
  have noall : ∀ (u : List Nat), ¬ (∀ x, True ↔ x <+: u) := fun u q => by
    have := ((q (u ++ [0])).mp trivial).length_le
    rw [List.length_append, List.length_singleton] at this
    omega
  have nor : ∀ (t : List Nat), t ≠ [] → ¬ (∀ x, True ↔ rnd t x) := fun t ht q => by
    obtain ⟨c, hc⟩ := ew_some ht 0
    have := (q [c + 1]).mp trivial 0 (by simp)
    rw [hc] at this
    simp at this
  cases e with
  | all =>
    cases f with
    | all => rfl
    | word u => exact absurd h (noall u)
    | round t => exact absurd h (nor t hf.1)
  | word u =>
    cases f with
    | all => exact absurd (fun x => (h x).symm) (noall u)
    | word v => rw [pre_ext h]
    | round t => exact absurd (fun x => (h x).symm) (long t u hf.1)
  | round s =>
    cases f with
    | all => exact absurd (fun x => (h x).symm) (nor s he.1)
    | word u => exact absurd h (long s u he.1)
    | round t => rw [root_one he.1 hf.1 he.2 hf.2 (rnd_all_same he.1 hf.1 h)]
theorem pw_nil {p : Pr} (h : okE p.2) : pw p [] = p.1 := by
  unfold pw
  rw [hrd_nil h, List.append_nil]
theorem can_pair {p q : Pr} (hp : canE p.2) (hq : canE q.2) (h : ∀ w, pw p w = pw q w) : p = q := by
  have e1 : p.1 = q.1 := by
    have := h []
    rwa [pw_nil hp.ok, pw_nil hq.ok] at this
  have e2 : p.2 = q.2 := can_one hp hq fun x => by
    have := h x
    unfold pw at this
    rw [e1] at this
    have := List.append_cancel_left this
    rw [← hrd_eq hp.ok, ← hrd_eq hq.ok, this]
  exact Prod.ext e1 e2
/-! two echoes together -/
noncomputable def metE : Ec → Ec → Ec
  | .all, f => f
  | .word u, .all => .word u
  | .round t, .all => .round t
  | .word u, f => .word (hrd f u)
  | .round s, .word v => .word (hrd (.round s) v)
  | .round s, .round t => if s ++ t = t ++ s then .round s else .word (lcp (endless s (s.length + t.length)) (endless t (s.length + t.length)))
theorem meet_has {s t : List Nat} (hs : s ≠ []) (ht : t ≠ []) (h : s ++ t ≠ t ++ s) {x : List Nat} : x <+: lcp (endless s (s.length + t.length)) (endless t (s.length + t.length)) ↔ rnd s x ∧ rnd t x := by
  obtain ⟨i, hi, hp⟩ := parts_ex h
  rw [lcp_pre]
  constructor
  · rintro ⟨h1, h2⟩
    have l1 := h1.length_le
    rw [endless_len s _ hs] at l1
    exact ⟨(rnd_end hs l1).mp h1, (rnd_end ht l1).mp h2⟩
  · rintro ⟨h1, h2⟩
    have l1 : x.length ≤ i := Nat.le_of_not_lt fun hlt => hp.2 ((h1 i hlt).symm.trans (h2 i hlt))
    exact ⟨(rnd_end hs (by omega)).mpr h1, (rnd_end ht (by omega)).mpr h2⟩
theorem has_met {e f : Ec} (he : okE e) (hf : okE f) {x : List Nat} : Has (metE e f) x ↔ Has e x ∧ Has f x := by
  cases e with
  | all => exact ⟨fun h => ⟨trivial, h⟩, fun h => h.2⟩
  | word u =>
    cases f with
    | all => exact ⟨fun h => ⟨h, trivial⟩, fun h => h.1⟩
    | word v => exact has_hrd (e := .word v) hf
    | round t => exact has_hrd (e := .round t) hf
  | round s =>
    cases f with
    | all => exact ⟨fun h => ⟨h, trivial⟩, fun h => h.1⟩
    | word v => exact (has_hrd (e := .round s) he).trans ⟨fun h => ⟨h.2, h.1⟩, fun h => ⟨h.2, h.1⟩⟩
    | round t =>
      simp only [metE]
      split
      · rename_i c
        exact ⟨fun h => ⟨h, (rnd_same (comm_same he hf c)).mp h⟩, fun h => h.1⟩
      · rename_i c
        exact meet_has he hf c
theorem can_met {e f : Ec} (he : canE e) (hf : canE f) : canE (metE e f) := by
  cases e with
  | all => exact hf
  | word u => cases f <;> trivial
  | round s =>
    cases f with
    | all => exact he
    | word v => trivial
    | round t =>
      simp only [metE]
      split
      · exact he
      · trivial
/-! a word ahead of an echo, and its endless -/
theorem lr_ex (d : List Nat) : ∃ r : Nat, d ≠ [] → IsRl d r := by
  by_cases h : d = []
  · exact ⟨0, fun z => absurd h z⟩
  · obtain ⟨r, R⟩ := IsRl.ex h
    exact ⟨r, fun _ => R⟩
noncomputable def lr (d : List Nat) : List Nat := d.take (Classical.choose (lr_ex d))
theorem lr_of {d : List Nat} {r : Nat} (hd : d ≠ []) (R : IsRl d r) : lr d = d.take r := by
  unfold lr
  rw [(Classical.choose_spec (lr_ex d) hd).unique R]
theorem lr_can {d : List Nat} (hd : d ≠ []) : lr d ≠ [] ∧ IsRl (lr d) (lr d).length := by
  obtain ⟨r, R⟩ := IsRl.ex hd
  rw [lr_of hd R]
  have l := R.le hd
  have tl : (d.take r).length = r := by rw [List.length_take]; omega
  refine ⟨fun e => ?_, by rw [tl]; exact R.root hd⟩
  rw [e] at tl
  have := R.pos
  simp at tl
  omega
theorem lr_ew {d : List Nat} (hd : d ≠ []) (k : Nat) : ew (lr d) k = ew d k := by
  obtain ⟨r, R⟩ := IsRl.ex hd
  rw [lr_of hd R]
  have p0 : 0 < d.length := List.length_pos_iff.mpr hd
  have tu : (d.take r).length = r := by rw [List.length_take]; have := R.le hd; omega
  unfold ew
  rw [tu, List.getElem?_take_of_lt (Nat.mod_lt _ R.pos), per_mod R.pr (Nat.mod_lt k p0), Nat.mod_mod_of_dvd _ R.dvd]
theorem lr_le (d : List Nat) : (lr d).length ≤ d.length := by
  unfold lr
  rw [List.length_take]
  omega
theorem lr_self {t : List Nat} (ht : t ≠ []) (h : IsRl t t.length) : lr t = t := by
  rw [lr_of ht h, List.take_length]
theorem lr_same {d t : List Nat} (hd : d ≠ []) (ht : t ≠ []) (T : IsRl t t.length) : lr d = t ↔ ∀ k, ew d k = ew t k := by
  constructor
  · intro e k
    rw [← lr_ew hd, e]
  · intro h
    exact root_one (lr_can hd).1 ht (lr_can hd).2 T fun k => by rw [lr_ew hd, h]
noncomputable def ledE (d : List Nat) : Ec → Ec
  | .all => .round (lr d)
  | .word v => .word (lcp (d ++ v) (endless d (d ++ v).length))
  | .round t => if lr d = t then .round (lr d) else .word (d ++ lcp (endless d (d.length + t.length)) (endless t (d.length + t.length)))
/-- a word with which d and an echo behind it begins -/
def dHas (d : List Nat) (e : Ec) (x : List Nat) : Prop := x <+: d ∨ ∃ y, x = d ++ y ∧ Has e y
theorem rnd_lead {d x : List Nat} (h : rnd d x) : x <+: d ∨ ∃ y, x = d ++ y ∧ rnd d y := by
  by_cases c : x.length ≤ d.length
  · exact .inl (rnd_two h rnd_take c)
  · obtain ⟨y, rfl⟩ := rnd_two rnd_take h (by omega)
    exact .inr ⟨y, rfl, rnd_app.mp h⟩
theorem rnd_begin {d x : List Nat} (h : x <+: d) : rnd d x := rnd_pre rnd_take h
/-- x goes along w and d with w behind: it goes along the endless of d -/
theorem pre_round {d : List Nat} (hd : d ≠ []) : ∀ {x w : List Nat}, x <+: w → x <+: d ++ w → rnd d x := fun {x w} h1 h2 => by
  have p : 0 < d.length := List.length_pos_iff.mpr hd
  have key : ∀ k, k < x.length → x[k]? = ew d k := by
    intro k
    induction k using Nat.strongRecOn with
    | ind k ih =>
      intro hk
      have a := pre_at.mp h2 k hk
      by_cases c : k < d.length
      · rw [← a, List.getElem?_append_left c, ew_lt c]
      · rw [List.getElem?_append_right (by omega)] at a
        have b := pre_at.mp h1 (k - d.length) (by omega)
        rw [← a, b, ih (k - d.length) (by omega) (by omega), ew_sub (by omega)]
  exact key
theorem lead_has {d : List Nat} (hd : d ≠ []) {e : Ec} (he : okE e) {x w : List Nat} (h : x <+: w) : x <+: d ++ hrd e w ↔ rnd d x ∧ dHas d e x := by
  constructor
  · intro p
    refine ⟨pre_round hd h (p.trans ((List.prefix_append_right_inj d).mpr ((has_hrd he).mp (List.prefix_refl _)).1)), ?_⟩
    rcases pre_app.mp p with q | ⟨y, rfl, q⟩
    · exact .inl q
    · exact .inr ⟨y, rfl, ((has_hrd he).mp q).2⟩
  · rintro ⟨r, q | ⟨y, rfl, q⟩⟩
    · exact pre_app.mpr (.inl q)
    · refine pre_app.mpr (.inr ⟨y, rfl, (has_hrd he).mpr ⟨?_, q⟩⟩)
      have r2 := rnd_app.mp r
      exact (rnd_two r2 r (by simp)).trans h
theorem has_led {d : List Nat} (hd : d ≠ []) {e : Ec} (he : canE e) {x : List Nat} : Has (ledE d e) x ↔ rnd d x ∧ dHas d e x := by
  have via : rnd d x → dHas d .all x := fun h => by
    rcases rnd_lead h with q | ⟨y, q, _⟩
    · exact .inl q
    · exact .inr ⟨y, q, trivial⟩
  cases e with
  | all => exact (rnd_same (lr_ew hd)).trans ⟨fun h => ⟨h, via h⟩, fun h => h.1⟩
  | word v =>
    show x <+: lcp (d ++ v) (endless d (d ++ v).length) ↔ _
    rw [lcp_pre]
    constructor
    · rintro ⟨h1, h2⟩
      exact ⟨(rnd_end hd h1.length_le).mp h2, pre_app.mp h1⟩
    · rintro ⟨h1, h2⟩
      have h3 := pre_app.mpr h2
      exact ⟨h3, (rnd_end hd h3.length_le).mpr h1⟩
  | round t =>
    have T := lr_same (d := d) hd he.1 he.2
    simp only [ledE]
    split
    · rename_i c
      have sm := T.mp c
      refine (rnd_same (lr_ew hd)).trans ⟨fun h => ⟨h, ?_⟩, fun h => h.1⟩
      rcases rnd_lead h with q | ⟨y, q, r⟩
      · exact .inl q
      · exact .inr ⟨y, q, (rnd_same sm).mp r⟩
    · rename_i c
      have ne : d ++ t ≠ t ++ d := fun e => c (T.mpr (comm_same hd he.1 e))
      show x <+: d ++ _ ↔ _
      rw [pre_app]
      constructor
      · rintro (q | ⟨y, rfl, q⟩)
        · exact ⟨rnd_begin q, .inl q⟩
        · obtain ⟨a, b⟩ := (meet_has hd he.1 ne).mp q
          exact ⟨rnd_app.mpr a, .inr ⟨y, rfl, b⟩⟩
      · rintro ⟨h1, q | ⟨y, rfl, q⟩⟩
        · exact .inl q
        · exact .inr ⟨y, rfl, (meet_has hd he.1 ne).mpr ⟨rnd_app.mp h1, q⟩⟩
theorem can_led {d : List Nat} (hd : d ≠ []) {e : Ec} (he : canE e) : canE (ledE d e) := by
  cases e with
  | all => exact lr_can hd
  | word v => trivial
  | round t =>
    simp only [ledE]
    split
    · exact lr_can hd
    · trivial
/-! both -/
noncomputable def bothL (p q : Pr) : Pr :=
  if lcp p.1 q.1 ≠ p.1 then (lcp p.1 q.1, .word [])
  else if p.1 = q.1 then (p.1, metE p.2 q.2)
  else (p.1, metE p.2 (ledE (q.1.drop p.1.length) q.2))
noncomputable def bothP (p q : Pr) : Pr := if q.1.length < p.1.length then bothL q p else bothL p q
theorem drop_pre {h l : List Nat} (e : lcp h l = h) : l = h ++ l.drop h.length := by
  obtain ⟨r, rfl⟩ := lcp_eq_pre.mp e
  rw [List.drop_left]
theorem drop_ne {h l : List Nat} (e : lcp h l = h) (n : h ≠ l) : l.drop h.length ≠ [] := fun z => n (by rw [drop_pre e, z, List.append_nil])
theorem bothL_pw {p q : Pr} (hp : canE p.2) (hq : canE q.2) (hl : p.1.length ≤ q.1.length) (w : List Nat) : pw (bothL p q) w = lcp (pw p w) (pw q w) := by
  obtain ⟨h, e⟩ := p
  obtain ⟨l, f⟩ := q
  simp only at hp hq hl
  unfold bothL
  simp only
  split
  · rename_i c
    unfold pw
    simp only [hrd, lcp_comm w []]
    rw [show lcp [] w = [] by unfold lcp; rfl, List.append_nil]
    have : ¬ h <+: l := fun z => c (lcp_eq_pre.mpr z)
    refine pre_ext fun x => ?_
    rw [lcp_pre, lcp_pre]
    constructor
    · rintro ⟨a, b⟩
      exact ⟨a.trans (List.prefix_append _ _), b.trans (List.prefix_append _ _)⟩
    · rintro ⟨a, b⟩
      by_cases c1 : x.length ≤ h.length
      · exact ⟨List.prefix_of_prefix_length_le a (List.prefix_append _ _) c1, List.prefix_of_prefix_length_le b (List.prefix_append _ _) (by omega)⟩
      · have h1 : h <+: x := List.prefix_of_prefix_length_le (List.prefix_append _ _) a (by omega)
        exact absurd (List.prefix_of_prefix_length_le (h1.trans b) (List.prefix_append _ _) hl) this
  · rename_i c
    have c := Classical.not_not.mp c
    split
    · rename_i c2
      subst c2
      unfold pw
      simp only
      rw [lcp_app]
      congr 1
      refine pre_ext fun x => ?_
      rw [has_hrd (can_met hp hq).ok, has_met hp.ok hq.ok, lcp_pre, has_hrd hp.ok, has_hrd hq.ok]
      exact ⟨fun ⟨a, b, c⟩ => ⟨⟨a, b⟩, a, c⟩, fun ⟨⟨a, b⟩, _, c⟩ => ⟨a, b, c⟩⟩
    · rename_i c2
      have dn := drop_ne c c2
      have el := drop_pre c
      unfold pw
      simp only
      generalize l.drop h.length = d at dn el
      subst el
      rw [List.append_assoc, lcp_app]
      congr 1
      refine pre_ext fun x => ?_
      rw [has_hrd (can_met hp (can_led dn hq)).ok, has_met hp.ok (can_led dn hq).ok, lcp_pre, has_hrd hp.ok, has_led dn hq]
      constructor
      · rintro ⟨a, b, c⟩
        exact ⟨⟨a, b⟩, (lead_has dn hq.ok a).mpr c⟩
      · rintro ⟨⟨a, b⟩, c⟩
        exact ⟨a, b, (lead_has dn hq.ok a).mp c⟩
theorem both_pw {p q : Pr} (hp : canE p.2) (hq : canE q.2) (w : List Nat) : pw (bothP p q) w = lcp (pw p w) (pw q w) := by
  unfold bothP
  split
  · rw [bothL_pw hq hp (by omega), lcp_comm]
  · rw [bothL_pw hp hq (by omega)]
theorem bothL_can {p q : Pr} (hp : canE p.2) (hq : canE q.2) : canE (bothL p q).2 := by
  unfold bothL
  split
  · trivial
  · rename_i c
    have c := Classical.not_not.mp c
    split
    · exact can_met hp hq
    · rename_i c2
      exact can_met hp (can_led (drop_ne c c2) hq)
theorem both_can {p q : Pr} (hp : canE p.2) (hq : canE q.2) : canE (bothP p q).2 := by
  unfold bothP
  split
  · exact bothL_can hq hp
  · exact bothL_can hp hq
theorem both_comm {p q : Pr} (hp : canE p.2) (hq : canE q.2) : bothP p q = bothP q p := can_pair (both_can hp hq) (both_can hq hp) fun w => by
  rw [both_pw hp hq, both_pw hq hp, lcp_comm]
theorem both_assoc {p q r : Pr} (hp : canE p.2) (hq : canE q.2) (hr : canE r.2) : bothP (bothP p q) r = bothP p (bothP q r) := can_pair (both_can (both_can hp hq) hr) (both_can hp (both_can hq hr)) fun w => by
  rw [both_pw (both_can hp hq) hr, both_pw hp hq, both_pw hp (both_can hq hr), both_pw hq hr, lcp_assoc]
theorem both_self {p : Pr} (hp : canE p.2) : bothP p p = p := can_pair (both_can hp hp) hp fun w => by
  rw [both_pw hp hp, lcp_self]
/-- one's set tells all that the other one's tells -/
def inP (p q : Pr) : Prop := ∀ w, pw q w <+: pw p w
theorem in_iff {p q : Pr} (hp : canE p.2) (hq : canE q.2) : bothP p q = q ↔ inP p q := by
  constructor
  · intro e w
    have := both_pw hp hq w
    rw [e] at this
    exact lcp_eq_pre2.mp this.symm
  · intro h
    exact can_pair (both_can hp hq) hq fun w => by rw [both_pw hp hq]; exact lcp_eq_pre2.mpr (h w)
/-! sizes -/
def szE : Ec → Nat
  | .all => 0
  | .word u => u.length
  | .round t => t.length
def szP (p : Pr) : Nat := p.1.length + szE p.2
theorem met_sz (e f : Ec) : szE (metE e f) ≤ szE e + szE f := by
  cases e with
  | all => simp [metE, szE]
  | word u =>
    cases f with
    | all => simp [metE, szE]
    | word v => have := lcp_le1 u v; simp only [metE, szE, hrd]; omega
    | round t => have := lcp_le1 u (endless t u.length); simp only [metE, szE, hrd]; omega
  | round s =>
    cases f with
    | all => simp [metE, szE]
    | word v => have := lcp_le1 v (endless s v.length); simp only [metE, szE, hrd]; omega
    | round t =>
      simp only [metE]
      split
      · simp [szE]
      · have := lcp_le1 (endless s (s.length + t.length)) (endless t (s.length + t.length))
        have e2 : (endless s (s.length + t.length)).length ≤ s.length + t.length := by unfold endless; rw [List.length_take]; omega
        simp only [szE]
        omega
theorem led_sz (d : List Nat) (e : Ec) : szE (ledE d e) ≤ 2 * d.length + szE e := by
  cases e with
  | all => have := lr_le d; simp only [ledE, szE]; omega
  | word v => have := lcp_le1 (d ++ v) (endless d (d ++ v).length); have := List.length_append (as := d) (bs := v); simp only [ledE, szE]; omega
  | round t =>
    simp only [ledE]
    split
    · have := lr_le d; simp only [szE]; omega
    · have := lcp_le1 (endless d (d.length + t.length)) (endless t (d.length + t.length))
      have e2 : (endless d (d.length + t.length)).length ≤ d.length + t.length := by unfold endless; rw [List.length_take]; omega
      simp only [szE, List.length_append]
      omega
theorem bothL_sz (p q : Pr) : szP (bothL p q) ≤ szP p + 2 * szP q := by
  unfold bothL
  split
  · have := lcp_le1 p.1 q.1
    simp only [szP, szE, List.length_nil]
    omega
  · split
    · have := met_sz p.2 q.2
      simp only [szP]
      omega
    · have a := met_sz p.2 (ledE (q.1.drop p.1.length) q.2)
      have b := led_sz (q.1.drop p.1.length) q.2
      rw [List.length_drop] at b
      simp only [szP]
      omega
theorem both_sz (p q : Pr) : szP (bothP p q) ≤ 2 * szP p + 2 * szP q := by
  unfold bothP
  split
  · have := bothL_sz q p
    omega
  · have := bothL_sz p q
    omega
/-! the longest word with which all of some begin -/
def lcpL : List (List Nat) → List Nat
  | [] => []
  | [w] => w
  | w :: v :: r => lcp w (lcpL (v :: r))
theorem lcpL_pre : ∀ {ws : List (List Nat)} {x : List Nat}, ws ≠ [] → (x <+: lcpL ws ↔ ∀ w ∈ ws, x <+: w)
  | [], _, h => absurd rfl h
  | [w], x, _ => by simp [lcpL]
  | w :: v :: r, x, _ => by
    unfold lcpL
    rw [lcp_pre, lcpL_pre (ws := v :: r) (by simp)]
    constructor
    · rintro ⟨h1, h2⟩ u hu
      rcases List.mem_cons.mp hu with rfl | hu
      · exact h1
      · exact h2 u hu
    · intro h
      exact ⟨h w (by simp), fun u hu => h u (List.mem_cons_of_mem _ hu)⟩
theorem lcpL_two (u v : List Nat) : lcpL [u, v] = lcp u v := rfl
end LW
set_option Elab.async false
set_option linter.all false
set_option maxRecDepth 8000
set_option maxHeartbeats 4000000
namespace LW
open DL PySem L2
/-! ### behind, and which words' pair a pair is -/
noncomputable def latR (t : List Nat) (m : Nat) : List Nat := rot (lr t) (m % (lr t).length)
theorem lat_ew {t : List Nat} (ht : t ≠ []) (m k : Nat) : ew (latR t m) k = ew t (m + k) := by
  have c := lr_can ht
  have p : 0 < (lr t).length := List.length_pos_iff.mpr c.1
  have a := Nat.mod_lt m p
  rw [← lr_ew ht (m + k)]
  unfold latR ew
  rw [rot_len, rot_at (by omega) (Nat.mod_lt _ p), Nat.mod_add_mod, Nat.add_mod_mod, Nat.add_comm k m]
theorem lat_can {t : List Nat} (ht : t ≠ []) (m : Nat) : canE (.round (latR t m)) := by
  have c := lr_can ht
  have p : 0 < (lr t).length := List.length_pos_iff.mpr c.1
  have a := Nat.mod_lt m p
  have l : (latR t m).length = (lr t).length := by unfold latR; rw [rot_len]
  refine ⟨fun e => ?_, ?_⟩
  · rw [e] at l
    simp at l
    omega
  · rw [l]
    exact c.2.rot (by omega)
theorem lat_le (t : List Nat) (m : Nat) : (latR t m).length ≤ t.length := by
  unfold latR
  rw [rot_len]
  exact lr_le t
noncomputable def restE (e : Ec) (w : List Nat) : Option Ec := match e with
  | .all => some .all
  | .word u => if lcp w u = w then some (.word (u.drop w.length)) else none
  | .round t => if lcp w (endless t w.length) = w then some (.round (latR t w.length)) else none
theorem has_nil (e : Ec) : Has e [] := by
  cases e with
  | all => trivial
  | word u => exact List.nil_prefix
  | round t => exact fun k hk => by simp at hk
theorem rnd_cut {t w y : List Nat} (ht : t ≠ []) (h : rnd t w) : rnd t (w ++ y) ↔ rnd (latR t w.length) y := by
  constructor
  · intro q k hk
    have := q (w.length + k) (by rw [List.length_append]; omega)
    rw [List.getElem?_append_right (by omega)] at this
    rw [lat_ew ht, ← this]
    congr 1
    omega
  · intro q k hk
    rw [List.length_append] at hk
    by_cases c : k < w.length
    · rw [List.getElem?_append_left c, h k c]
    · rw [List.getElem?_append_right (by omega), q _ (by omega), lat_ew ht]
      congr 1
      omega
theorem rest_some {e r : Ec} (he : canE e) {w : List Nat} (h : restE e w = some r) : canE r ∧ ∀ y, Has e (w ++ y) ↔ Has r y := by
  cases e with
  | all =>
    cases h
    exact ⟨trivial, fun y => Iff.rfl⟩
  | word u =>
    simp only [restE] at h
    split at h
    · rename_i c
      cases h
      refine ⟨trivial, fun y => ?_⟩
      obtain ⟨v, rfl⟩ := lcp_eq_pre.mp c
      rw [List.drop_left]
      exact List.prefix_append_right_inj w
    · cases h
  | round t =>
    simp only [restE] at h
    split at h
    · rename_i c
      cases h
      exact ⟨lat_can he.1 _, fun y => rnd_cut he.1 ((hrd_eq (e := .round t) he.1).mp c)⟩
    · cases h
theorem rest_none {e : Ec} (he : canE e) {w : List Nat} (h : restE e w = none) : ¬ Has e w := by
  cases e with
  | all => cases h
  | word u =>
    simp only [restE] at h
    split at h
    · cases h
    · rename_i c
      exact fun z => c (hrd_all (e := .word u) trivial z)
  | round t =>
    simp only [restE] at h
    split at h
    · cases h
    · rename_i c
      exact fun z => c (hrd_all (e := .round t) he.1 z)
noncomputable def behindP (p q : Pr) : Pr := match restE p.2 q.1 with
  | none => (p.1 ++ hrd p.2 q.1, .word [])
  | some r => (p.1 ++ q.1, metE r q.2)
theorem behind_pw {p q : Pr} (hp : canE p.2) (hq : canE q.2) (w : List Nat) : pw (behindP p q) w = pw p (pw q w) := by
  obtain ⟨h, e⟩ := p
  obtain ⟨l, f⟩ := q
  simp only at hp hq
  unfold behindP
  simp only
  cases c : restE e l with
  | none =>
    have n := rest_none hp c
    have z : hrd (.word []) w = [] := List.prefix_nil.mp (lcp_le2 w [] |> fun _ => (lcp_pre.mp (List.prefix_refl _)).2)
    unfold pw
    simp only [z, List.append_nil]
    congr 1
    refine pre_ext fun x => ?_
    rw [has_hrd hp.ok, has_hrd hp.ok]
    constructor
    · rintro ⟨a, b⟩
      exact ⟨a.trans (List.prefix_append _ _), b⟩
    · rintro ⟨a, b⟩
      rcases pre_app.mp a with q | ⟨y, rfl, _⟩
      · exact ⟨q, b⟩
      · exact absurd (has_pre b (List.prefix_append _ _)) n
  | some r =>
    obtain ⟨rc, rh⟩ := rest_some hp c
    have hl : Has e l := by
      have := (rh []).mpr (has_nil r)
      rwa [List.append_nil] at this
    unfold pw
    simp only
    rw [List.append_assoc]
    congr 1
    refine pre_ext fun x => ?_
    rw [has_hrd hp.ok, pre_app, pre_app]
    constructor
    · rintro (q | ⟨y, rfl, q⟩)
      · exact ⟨.inl q, has_pre hl q⟩
      · obtain ⟨a, b⟩ := (has_hrd (can_met rc hq).ok).mp q
        obtain ⟨b1, b2⟩ := (has_met rc.ok hq.ok).mp b
        exact ⟨.inr ⟨y, rfl, (has_hrd hq.ok).mpr ⟨a, b2⟩⟩, (rh y).mpr b1⟩
    · rintro ⟨q | ⟨y, rfl, q⟩, b⟩
      · exact .inl q
      · obtain ⟨a1, a2⟩ := (has_hrd hq.ok).mp q
        exact .inr ⟨y, rfl, (has_hrd (can_met rc hq).ok).mpr ⟨a1, (has_met rc.ok hq.ok).mpr ⟨(rh y).mp b, a2⟩⟩⟩
theorem behind_can {p q : Pr} (hp : canE p.2) (hq : canE q.2) : canE (behindP p q).2 := by
  unfold behindP
  cases c : restE p.2 q.1 with
  | none => trivial
  | some r => exact can_met (rest_some hp c).1 hq
theorem rest_sz {e r : Ec} {w : List Nat} (h : restE e w = some r) : szE r ≤ szE e := by
  cases e with
  | all =>
    cases h
    exact Nat.le_refl _
  | word u =>
    simp only [restE] at h
    split at h
    · cases h
      simp only [szE, List.length_drop]
      omega
    · cases h
  | round t =>
    simp only [restE] at h
    split at h
    · cases h
      exact lat_le t _
    · cases h
theorem hrd_le (e : Ec) (w : List Nat) : (hrd e w).length ≤ w.length := by
  cases e with
  | all => exact Nat.le_refl _
  | word u => exact lcp_le1 w u
  | round t => exact lcp_le1 w _
theorem behind_sz (p q : Pr) : szP (behindP p q) ≤ szP p + szP q := by
  unfold behindP
  cases c : restE p.2 q.1 with
  | none =>
    have := hrd_le p.2 q.1
    simp only [szP, szE, List.length_append, List.length_nil]
    omega
  | some r =>
    have a := rest_sz c
    have b := met_sz r q.2
    simp only [szP, List.length_append]
    omega
/-- the pair of just these words -/
structure SP (p : Pr) (ws : List (List Nat)) : Prop where
  can : canE p.2
  ne : ws ≠ []
  is : ∀ w x, x <+: pw p w ↔ ∀ a ∈ ws, x <+: a ++ w
theorem SP.eq {p : Pr} {ws : List (List Nat)} (h : SP p ws) (w : List Nat) : pw p w = lcpL (ws.map (· ++ w)) := pre_ext fun x => by
  rw [h.is, lcpL_pre (by simp [h.ne])]
  simp
theorem SP.one (w : List Nat) : SP (w, .all) [w] := ⟨trivial, by simp, fun v x => by simp [pw, hrd]⟩
theorem SP.set {p : Pr} {A B : List (List Nat)} (h : SP p A) (e : ∀ a, a ∈ A ↔ a ∈ B) : SP p B := by
  refine ⟨h.can, fun z => ?_, fun w x => ?_⟩
  · subst z
    cases A with
    | nil => exact h.ne rfl
    | cons a r => exact absurd ((e a).mp (by simp)) (by simp)
  · rw [h.is]
    exact ⟨fun q a ha => q a ((e a).mpr ha), fun q a ha => q a ((e a).mp ha)⟩
theorem SP.one_pair {p q : Pr} {A : List (List Nat)} (h : SP p A) (g : SP q A) : p = q := can_pair h.can g.can fun w => by rw [h.eq, g.eq]
theorem SP.both {p q : Pr} {A B : List (List Nat)} (h : SP p A) (g : SP q B) : SP (bothP p q) (A ++ B) := by
  refine ⟨both_can h.can g.can, by simp [h.ne], fun w x => ?_⟩
  rw [both_pw h.can g.can, lcp_pre, h.is, g.is]
  simp only [List.mem_append]
  exact ⟨fun ⟨a, b⟩ c hc => hc.elim (a c) (b c), fun a => ⟨fun c hc => a c (.inl hc), fun c hc => a c (.inr hc)⟩⟩
/-- all words of the one with each of the other behind -/
def prodW (A B : List (List Nat)) : List (List Nat) := A.flatMap fun a => B.map fun b => a ++ b
theorem mem_prod {A B : List (List Nat)} {x : List Nat} : x ∈ prodW A B ↔ ∃ a ∈ A, ∃ b ∈ B, a ++ b = x := by
  unfold prodW
  simp [List.mem_flatMap, List.mem_map]
theorem pre_app_all {x a : List Nat} {L : List (List Nat)} (h : L ≠ []) : x <+: a ++ lcpL L ↔ ∀ l ∈ L, x <+: a ++ l := by
  rw [pre_app]
  constructor
  · rintro (q | ⟨y, rfl, q⟩) l hl
    · exact q.trans (List.prefix_append _ _)
    · exact (List.prefix_append_right_inj a).mpr ((lcpL_pre h).mp q l hl)
  · intro q
    by_cases c : x.length ≤ a.length
    · obtain ⟨l, hl⟩ := List.exists_mem_of_ne_nil L h
      exact .inl (List.prefix_of_prefix_length_le (q l hl) (List.prefix_append _ _) c)
    · obtain ⟨l, hl⟩ := List.exists_mem_of_ne_nil L h
      obtain ⟨y, rfl⟩ := List.prefix_of_prefix_length_le (List.prefix_append a l) (q l hl) (by omega)
      exact .inr ⟨y, rfl, (lcpL_pre h).mpr fun l hl => (List.prefix_append_right_inj a).mp (q l hl)⟩
theorem SP.behind {p q : Pr} {A B : List (List Nat)} (h : SP p A) (g : SP q B) : SP (behindP p q) (prodW A B) := by
  have ne : prodW A B ≠ [] := by
    obtain ⟨a, ha⟩ := List.exists_mem_of_ne_nil A h.ne
    obtain ⟨b, hb⟩ := List.exists_mem_of_ne_nil B g.ne
    exact List.ne_nil_of_mem (mem_prod.mpr ⟨a, ha, b, hb, rfl⟩)
  refine ⟨behind_can h.can g.can, ne, fun w x => ?_⟩
  rw [behind_pw h.can g.can, h.is, g.eq]
  constructor
  · intro q c hc
    obtain ⟨a, ha, b, hb, rfl⟩ := mem_prod.mp hc
    have := (pre_app_all (by simp [g.ne])).mp (q a ha) (b ++ w) (List.mem_map.mpr ⟨b, hb, rfl⟩)
    rwa [List.append_assoc]
  · intro q a ha
    refine (pre_app_all (by simp [g.ne])).mpr fun l hl => ?_
    obtain ⟨b, hb, rfl⟩ := List.mem_map.mp hl
    have := q (a ++ b) (mem_prod.mpr ⟨a, ha, b, hb, rfl⟩)
    rwa [List.append_assoc] at this
/-! the pair of some words, one by one -/
noncomputable def pairs : Pr → List (List Nat) → Pr
  | p, [] => p
  | p, w :: ws => pairs (bothP p (w, .all)) ws
theorem SP.pairs {p : Pr} : ∀ {ws A : List (List Nat)}, SP p A → SP (LW.pairs p ws) (A ++ ws)
  | [], A, h => by rw [List.append_nil]; exact h
  | w :: ws, A, h => by
    have := SP.pairs (p := bothP p (w, .all)) (ws := ws) (h.both (SP.one w))
    rw [List.append_assoc] at this
    exact this
/-- a pair's head is what all begin with -/
theorem SP.head {p : Pr} {A : List (List Nat)} (h : SP p A) : p.1 = lcpL A := by
  rw [← pw_nil h.can.ok, h.eq]
  simp
/-! how long a pair of some words is -/
def bnd (M : Nat) (p : Pr) : Prop := p.1.length ≤ M ∧ match p.2 with
  | .all => True
  | .word u => p.1.length + u.length ≤ 3 * M
  | .round t => t.length ≤ M
theorem bnd.sz {M : Nat} {p : Pr} (h : bnd M p) : szP p ≤ 4 * M := by
  obtain ⟨h1, h2⟩ := h
  obtain ⟨l, e⟩ := p
  cases e with
  | all => simp only [szP, szE] at *; omega
  | word u => simp only [szP, szE] at *; omega
  | round t => simp only [szP, szE] at *; omega
theorem meet_le (s t : List Nat) : (lcp (endless s (s.length + t.length)) (endless t (s.length + t.length))).length ≤ s.length + t.length := by
  have := lcp_le1 (endless s (s.length + t.length)) (endless t (s.length + t.length))
  have e2 : (endless s (s.length + t.length)).length ≤ s.length + t.length := by unfold endless; rw [List.length_take]; omega
  omega
theorem bnd.one {M : Nat} {w : List Nat} (h : w.length ≤ M) : bnd M (w, .all) := ⟨h, trivial⟩
theorem bnd.both {M : Nat} {p : Pr} {w : List Nat} (h : bnd M p) (hw : w.length ≤ M) : bnd M (bothP p (w, .all)) := by
  obtain ⟨l, e⟩ := p
  obtain ⟨h1, h2⟩ := h
  simp only at h1 h2
  unfold bothP
  simp only
  split
  · rename_i lt
    unfold bothL
    simp only
    split
    · have := lcp_le1 w l
      exact ⟨by simp only; omega, by simp only [List.length_nil]; omega⟩
    · rename_i c
      have c := Classical.not_not.mp c
      split
      · rename_i c2
        subst c2
        omega
      · have dl : (l.drop w.length).length = l.length - w.length := List.length_drop
        cases e with
        | all =>
          have := lr_le (l.drop w.length)
          exact ⟨hw, by simp only [metE, ledE]; omega⟩
        | word u =>
          have := lcp_le1 (l.drop w.length ++ u) (endless (l.drop w.length) (l.drop w.length ++ u).length)
          have e3 := List.length_append (as := l.drop w.length) (bs := u)
          simp only at h2
          exact ⟨hw, by simp only [metE, ledE]; omega⟩
        | round t =>
          refine ⟨hw, ?_⟩
          simp only [metE, ledE]
          split
          · rename_i x e4
            split at e4
            · cases e4
            · cases e4
          · rename_i x u e4
            split at e4
            · cases e4
            · cases e4
              have := meet_le (l.drop w.length) t
              rw [List.length_append]
              simp only at h2
              omega
          · rename_i x t' e4
            split at e4
            · cases e4
              have := lr_le (l.drop w.length)
              omega
            · cases e4
  · rename_i lt
    unfold bothL
    simp only
    split
    · have := lcp_le1 l w
      exact ⟨by simp only; omega, by simp only [List.length_nil]; omega⟩
    · split
      · cases e with
        | all => exact ⟨h1, trivial⟩
        | word u => exact ⟨h1, h2⟩
        | round t => exact ⟨h1, h2⟩
      · have dl : (w.drop l.length).length = w.length - l.length := List.length_drop
        have rl := lr_le (w.drop l.length)
        cases e with
        | all => exact ⟨h1, by simp only [metE, ledE]; omega⟩
        | word u =>
          have := lcp_le1 u (endless (lr (w.drop l.length)) u.length)
          simp only at h2
          exact ⟨h1, by simp only [metE, ledE, hrd]; omega⟩
        | round t =>
          simp only at h2
          refine ⟨h1, ?_⟩
          simp only [metE, ledE]
          split
          · rename_i x e4
            split at e4
            · cases e4
            · cases e4
          · rename_i x u e4
            split at e4
            · cases e4
            · cases e4
              have := meet_le t (lr (w.drop l.length))
              omega
          · rename_i x t' e4
            split at e4
            · cases e4
              omega
            · cases e4
theorem bnd.pairs {M : Nat} : ∀ {ws : List (List Nat)} {p : Pr}, bnd M p → (∀ w ∈ ws, w.length ≤ M) → bnd M (LW.pairs p ws)
  | [], p, h, _ => h
  | w :: ws, p, h, hw => bnd.pairs (ws := ws) (p := bothP p (w, .all)) (h.both (hw w (by simp))) fun v hv => hw v (List.mem_cons_of_mem _ hv)
end LW
set_option Elab.async false
set_option linter.all false
set_option maxRecDepth 8000
set_option maxHeartbeats 4000000
namespace LW
open DL PySem L2
/-! ### the pair of some words by heads, tails and endless ones -/
theorem SP.sz {p : Pr} {ws : List (List Nat)} (h : SP p ws) {M : Nat} (hw : ∀ w ∈ ws, w.length ≤ M) : szP p ≤ 4 * M := by
  cases ws with
  | nil => exact absurd rfl h.ne
  | cons w r =>
    have g : SP (LW.pairs (w, .all) r) (w :: r) := (SP.one w).pairs
    rw [h.one_pair g]
    exact (bnd.pairs (bnd.one (hw w (by simp))) fun v hv => hw v (List.mem_cons_of_mem _ hv)).sz
theorem SP.bn {p : Pr} {ws : List (List Nat)} (h : SP p ws) {M : Nat} (hw : ∀ w ∈ ws, w.length ≤ M) : bnd M p := by
  cases ws with
  | nil => exact absurd rfl h.ne
  | cons w r =>
    have g : SP (LW.pairs (w, .all) r) (w :: r) := (SP.one w).pairs
    rw [h.one_pair g]
    exact bnd.pairs (bnd.one (hw w (by simp))) fun v hv => hw v (List.mem_cons_of_mem _ hv)
theorem bnd.tx {M : Nat} {p : Pr} (h : bnd M p) : szE p.2 ≤ 3 * M := by
  obtain ⟨h1, h2⟩ := h
  obtain ⟨l, e⟩ := p
  cases e with
  | all => simp [szE]
  | word u => simp only [szE] at *; omega
  | round t => simp only [szE] at *; omega
/-! behind: what stays as it is, and brackets -/
theorem behind_unitL {p : Pr} (hp : canE p.2) : behindP ([], .all) p = p := can_pair (behind_can (p := ([], .all)) trivial hp) hp fun w => by
  rw [behind_pw (p := ([], .all)) trivial hp]
  rfl
theorem behind_unitR {p : Pr} (hp : canE p.2) : behindP p ([], .all) = p := can_pair (behind_can (q := ([], .all)) hp trivial) hp fun w => by
  rw [behind_pw (q := ([], .all)) hp trivial]
  rfl
theorem behind_assoc {p q r : Pr} (hp : canE p.2) (hq : canE q.2) (hr : canE r.2) : behindP (behindP p q) r = behindP p (behindP q r) := can_pair (behind_can (behind_can hp hq) hr) (behind_can hp (behind_can hq hr)) fun w => by
  rw [behind_pw (behind_can hp hq) hr, behind_pw hp hq, behind_pw hp (behind_can hq hr), behind_pw hq hr]
theorem due_all {ws : List (List Nat)} (hn : ws ≠ []) {h : List Nat} (e : lcpL ws = h) (one : ∀ a ∈ ws, ∀ b ∈ ws, a = b) : SP (h, .all) ws := by
  have P := (lcpL_pre hn (x := h)).mp (by rw [e]; exact List.prefix_refl _)
  have all : ∀ a ∈ ws, a = h := fun a ha => by
    have : a <+: lcpL ws := (lcpL_pre hn).mpr fun b hb => one a ha b hb ▸ List.prefix_refl _
    rw [e] at this
    exact this.eq_of_length (Nat.le_antisymm this.length_le (P a ha).length_le)
  refine ⟨trivial, hn, fun w x => ?_⟩
  show x <+: h ++ w ↔ _
  constructor
  · intro q a ha
    rw [all a ha]
    exact q
  · intro q
    obtain ⟨a, ha⟩ := List.exists_mem_of_ne_nil ws hn
    have := q a ha
    rwa [all a ha] at this
theorem due_none {ws : List (List Nat)} (hn : ws ≠ []) {h : List Nat} (e : lcpL ws = h) (far : ∀ a ∈ ws, h.length < a.length) : SP (h, .word []) ws := by
  have P := (lcpL_pre hn (x := h)).mp (by rw [e]; exact List.prefix_refl _)
  refine ⟨trivial, hn, fun w x => ?_⟩
  have z : hrd (.word []) w = [] := List.prefix_nil.mp (lcp_pre.mp (List.prefix_refl _)).2
  unfold pw
  simp only [z, List.append_nil]
  constructor
  · intro q a ha
    exact (q.trans (P a ha)).trans (List.prefix_append _ _)
  · intro q
    have y : x.take (h.length + 1) <+: lcpL ws := (lcpL_pre hn).mpr fun a ha => by
      have l := far a ha
      exact List.prefix_of_prefix_length_le ((List.take_prefix _ _).trans (q a ha)) (List.prefix_append _ _) (by rw [List.length_take]; omega)
    rw [e] at y
    have yl := y.length_le
    rw [List.length_take] at yl
    have : x.take (h.length + 1) = x := List.take_of_length_le (by omega)
    rw [this] at y
    exact y
/-- some word is the head itself; the others go on behind it by these tails -/
theorem due_echo {ws : List (List Nat)} {h : List Nat} {N : List (List Nat)} (hh : h ∈ ws) (hN : ∀ t ∈ N, t ≠ [] ∧ h ++ t ∈ ws) (hw : ∀ a ∈ ws, a = h ∨ ∃ t ∈ N, a = h ++ t) {e : Ec} (he : canE e) (H : ∀ y, Has e y ↔ ∀ t ∈ N, rnd t y) : SP (h, e) ws := by
  refine ⟨he, List.ne_nil_of_mem hh, fun w x => ?_⟩
  show x <+: h ++ hrd e w ↔ _
  rw [pre_app]
  constructor
  · rintro (q | ⟨y, rfl, q⟩) a ha
    · rcases hw a ha with rfl | ⟨t, _, rfl⟩
      · exact q.trans (List.prefix_append _ _)
      · rw [List.append_assoc]
        exact q.trans (List.prefix_append _ _)
    · obtain ⟨y1, y2⟩ := (has_hrd he.ok).mp q
      rcases hw a ha with rfl | ⟨t, ht, rfl⟩
      · exact (List.prefix_append_right_inj _).mpr y1
      · rw [List.append_assoc]
        refine (List.prefix_append_right_inj _).mpr ((lead_has (hN t ht).1 (e := .all) trivial y1).mpr ?_)
        have r := (H y).mp y2 t ht
        refine ⟨r, ?_⟩
        rcases rnd_lead r with z | ⟨u, z, _⟩
        · exact .inl z
        · exact .inr ⟨u, z, trivial⟩
  · intro q
    have q0 := q h hh
    rcases pre_app.mp q0 with z | ⟨y, rfl, z⟩
    · exact .inl z
    · refine .inr ⟨y, rfl, (has_hrd he.ok).mpr ⟨z, (H y).mpr fun t ht => ?_⟩⟩
      have := q _ (hN t ht).2
      rw [List.append_assoc] at this
      exact pre_round (hN t ht).1 z ((List.prefix_append_right_inj _).mp this)
/-- the endless ones of these, said so far -/
def spell (N : List (List Nat)) (n : Nat) : List (List Nat) := N.map fun t => endless t n
theorem spell_pre {N : List (List Nat)} (hN : N ≠ []) (h0 : ∀ t ∈ N, t ≠ []) {n : Nat} {y : List Nat} (hy : y.length ≤ n) : y <+: lcpL (spell N n) ↔ ∀ t ∈ N, rnd t y := by
  unfold spell
  rw [lcpL_pre (by simp [hN])]
  constructor
  · intro h t ht
    exact (rnd_end (h0 t ht) hy).mp (h _ (List.mem_map.mpr ⟨t, ht, rfl⟩))
  · intro h x hx
    obtain ⟨t, ht, rfl⟩ := List.mem_map.mp hx
    exact (rnd_end (h0 t ht) hy).mpr (h t ht)
theorem spell_le {N : List (List Nat)} (hN : N ≠ []) (h0 : ∀ t ∈ N, t ≠ []) (n : Nat) : (lcpL (spell N n)).length ≤ n := by
  obtain ⟨t, ht⟩ := List.exists_mem_of_ne_nil N hN
  have := ((lcpL_pre (ws := spell N n) (by simp [spell, hN])).mp (List.prefix_refl _) (endless t n) (List.mem_map.mpr ⟨t, ht, rfl⟩)).length_le
  rwa [endless_len t n (h0 t ht)] at this
theorem spell_round {N : List (List Nat)} (h0 : ∀ t ∈ N, t ≠ []) {n : Nat} (hl : ∀ t ∈ N, 2 * t.length ≤ n) (full : (lcpL (spell N n)).length = n) {t1 : List Nat} (h1 : t1 ∈ N) (y : List Nat) : Has (.round (lr t1)) y ↔ ∀ t ∈ N, rnd t y := by
  have hN := List.ne_nil_of_mem h1
  have all := (spell_pre hN h0 (n := n) (y := lcpL (spell N n)) (by omega)).mp (List.prefix_refl _)
  have sm : ∀ t ∈ N, ∀ k, ew t1 k = ew t k := fun t ht => comm_same (h0 t1 h1) (h0 t ht) (same_comm fun k hk => by
    have a := hl t1 h1
    have b := hl t ht
    have kl : k < (lcpL (spell N n)).length := by omega
    exact (all t1 h1 k kl).symm.trans (all t ht k kl))
  show rnd (lr t1) y ↔ _
  rw [rnd_same (lr_ew (h0 t1 h1))]
  exact ⟨fun h t ht => (rnd_same (sm t ht)).mp h, fun h => h t1 h1⟩
theorem spell_word {N : List (List Nat)} (hN : N ≠ []) (h0 : ∀ t ∈ N, t ≠ []) {n : Nat} (short : (lcpL (spell N n)).length ≠ n) (y : List Nat) : Has (.word (lcpL (spell N n))) y ↔ ∀ t ∈ N, rnd t y := by
  show y <+: lcpL (spell N n) ↔ _
  have le := spell_le hN h0 n
  by_cases c : y.length ≤ n
  · exact spell_pre hN h0 c
  · constructor
    · intro h
      have := h.length_le
      omega
    · intro h
      have z : y.take n <+: lcpL (spell N n) := (spell_pre hN h0 (by rw [List.length_take]; omega)).mpr fun t ht => rnd_pre (h t ht) (List.take_prefix _ _)
      have := z.length_le
      rw [List.length_take] at this
      omega
end LW
set_option Elab.async false
set_option linter.all false
set_option maxRecDepth 8000
set_option maxHeartbeats 4000000
namespace LW
open DL PySem L2
/-! ### pairs, by the code -/
def kd : Ec → List Nat
  | .all => [97, 108, 108]
  | .word _ => [119, 111, 114, 100]
  | .round _ => [114, 111, 117, 110, 100]
def tx : Ec → List Nat
  | .all => []
  | .word w => w
  | .round t => t
theorem kd_all : kd .all = [97, 108, 108] := rfl
theorem kd_word (w : List Nat) : kd (.word w) = [119, 111, 114, 100] := rfl
theorem kd_round (w : List Nat) : kd (.round w) = [114, 111, 117, 110, 100] := rfl
theorem tx_all : tx .all = [] := rfl
theorem tx_word (w : List Nat) : tx (.word w) = w := rfl
theorem tx_round (w : List Nat) : tx (.round w) = w := rfl
def de (e : Ec) : PyData := .tuple [S (kd e), S (tx e)]
def dp (p : Pr) : PyData := .tuple [S p.1, S (kd p.2), S (tx p.2)]
theorem eqK (a b : List Nat) (c : Bool) (h : decide (a = b) = c) : semEq [.fz (S a), .fz (S b)] = some (.fz (.bool c)) := by rw [semEq_S, h]
theorem eAA : semEq [.fz (S [97, 108, 108]), .fz (S [97, 108, 108])] = some (.fz (.bool true)) := eqK _ _ _ (by decide)
theorem eWA : semEq [.fz (S [119, 111, 114, 100]), .fz (S [97, 108, 108])] = some (.fz (.bool false)) := eqK _ _ _ (by decide)
theorem eRA : semEq [.fz (S [114, 111, 117, 110, 100]), .fz (S [97, 108, 108])] = some (.fz (.bool false)) := eqK _ _ _ (by decide)
theorem eAW : semEq [.fz (S [97, 108, 108]), .fz (S [119, 111, 114, 100])] = some (.fz (.bool false)) := eqK _ _ _ (by decide)
theorem eWW : semEq [.fz (S [119, 111, 114, 100]), .fz (S [119, 111, 114, 100])] = some (.fz (.bool true)) := eqK _ _ _ (by decide)
theorem eRW : semEq [.fz (S [114, 111, 117, 110, 100]), .fz (S [119, 111, 114, 100])] = some (.fz (.bool false)) := eqK _ _ _ (by decide)
theorem eAR : semEq [.fz (S [97, 108, 108]), .fz (S [114, 111, 117, 110, 100])] = some (.fz (.bool false)) := eqK _ _ _ (by decide)
theorem eWR : semEq [.fz (S [119, 111, 114, 100]), .fz (S [114, 111, 117, 110, 100])] = some (.fz (.bool false)) := eqK _ _ _ (by decide)
theorem eRR : semEq [.fz (S [114, 111, 117, 110, 100]), .fz (S [114, 111, 117, 110, 100])] = some (.fz (.bool true)) := eqK _ _ _ (by decide)
theorem dp1 (p : Pr) : semSl10 [.fz (dp p), .fz (.int 1)] = some (.fz (de p.2)) := sl10_T _ 1
theorem dp0 (p : Pr) : semIx [.fz (dp p), .fz (.int 0)] = some (.fz (S p.1)) := ixT (k := 0) rfl
theorem dpk (p : Pr) : semIx [.fz (dp p), .fz (.int 1)] = some (.fz (S (kd p.2))) := ixT (k := 1) rfl
theorem dpt (p : Pr) : semIx [.fz (dp p), .fz (.int 2)] = some (.fz (S (tx p.2))) := ixT (k := 2) rfl
theorem de0 (e : Ec) : semIx [.fz (de e), .fz (.int 0)] = some (.fz (S (kd e))) := ixT (k := 0) rfl
theorem de1 (e : Ec) : semIx [.fz (de e), .fz (.int 1)] = some (.fz (S (tx e))) := ixT (k := 1) rfl
theorem along_ok (w u : List Nat) (hu : u ≠ []) (h : w.length + u.length ≤ 1000000) : f_along [.fz (S w), .fz (S u)] = some (.fz (S (lcp w (endless u w.length))), [some (.fz (S w)), some (.fz (S u))]) := by
  have e1 := endless_ok u w.length hu h
  have e2 := common_ok w (endless u w.length)
  simp only [f_along, b_along, dSeq, dIfS, dTst, dOp, dOs, dVal, dSlot, dC, dVar, dIf, dAnd, dOr, dNot, dAndV, dOrV, dNotV, dTup, dLst, seeAll, see, valDatas, C.data, C.put, C.frozen, dSet, settable, dSetIx, ownL, dMut, dRetV, dRet, dRetN, dExp, dNext, dPar, dPar3, iAny, iEnumD, iZipD, lstOf, dChain, dAug, dCall, passAll, passO, ownSlots, nodupB, writeAll, dFor, iRg1, iRg2, iLst, iTpl, iStrD, gSet, gTuple, gMore, gEnd, dAsg, dMth, isStr, mkFn, isNone, intOf, DL.cutD, dLc, plainAt, tYesD, dSl11, List.getElem?_cons_zero, List.getElem?_cons_succ, List.getElem?_nil, List.set_cons_zero, List.set_cons_succ, List.length_cons, List.length_nil, List.map_cons, List.map_nil, List.replicate_succ, List.replicate_zero, List.cons_append, List.nil_append, List.append_nil, List.take_succ_cons, List.take_zero, List.contains_cons, List.contains_nil, Nat.reduceAdd, Nat.reduceLeDiff, Nat.reduceEqDiff, reduceIte, Nat.zero_add, Bool.and_true, Bool.true_and, Bool.not_false, Bool.false_eq_true, decide_true, decide_false, Bool.not_true, beq_self_eq_true, Bool.or_false, Bool.false_or, Nat.reduceBEq, semLen_S, e1, e2]
theorem meet_ok {u v : List Nat} (hu : u ≠ []) (hv : v ≠ []) (h1 : u.length ≤ 100000) (h2 : v.length ≤ 100000) : f_rounds_meet [.fz (S u), .fz (S v)] = some (.fz (meet u v), [some (.fz (S u)), some (.fz (S v))]) := by
  have a1 := semAdd_S u v (by omega)
  have a2 := semAdd_S v u (by omega)
  have eq := semEq_S (u ++ v) (v ++ u)
  have a3 := semAdd_nat u.length v.length
  have e1 := endless_ok u (u.length + v.length) hu (by omega)
  have e2 := endless_ok v (u.length + v.length) hv (by omega)
  have e3 := common_ok (endless u (u.length + v.length)) (endless v (u.length + v.length))
  unfold meet
  by_cases c : u ++ v = v ++ u
  · rw [if_pos c]
    rw [decide_eq_true c] at eq
    simp only [f_rounds_meet, b_rounds_meet, dSeq, dIfS, dTst, dOp, dOs, dVal, dSlot, dC, dVar, dIf, dAnd, dOr, dNot, dAndV, dOrV, dNotV, dTup, dLst, seeAll, see, valDatas, C.data, C.put, C.frozen, dSet, settable, dSetIx, ownL, dMut, dRetV, dRet, dRetN, dExp, dNext, dPar, dPar3, iAny, iEnumD, iZipD, lstOf, dChain, dAug, dCall, passAll, passO, ownSlots, nodupB, writeAll, dFor, iRg1, iRg2, iLst, iTpl, iStrD, gSet, gTuple, gMore, gEnd, dAsg, dMth, isStr, mkFn, isNone, intOf, DL.cutD, dLc, plainAt, tYesD, dSl11, List.getElem?_cons_zero, List.getElem?_cons_succ, List.getElem?_nil, List.set_cons_zero, List.set_cons_succ, List.length_cons, List.length_nil, List.map_cons, List.map_nil, List.replicate_succ, List.replicate_zero, List.cons_append, List.nil_append, List.append_nil, List.take_succ_cons, List.take_zero, List.contains_cons, List.contains_nil, Nat.reduceAdd, Nat.reduceLeDiff, Nat.reduceEqDiff, reduceIte, Nat.zero_add, Bool.and_true, Bool.true_and, Bool.not_false, Bool.false_eq_true, decide_true, decide_false, Bool.not_true, beq_self_eq_true, Bool.or_false, Bool.false_or, Nat.reduceBEq, a1, a2, eq]
  · rw [if_neg c]
    rw [decide_eq_false c] at eq
    simp only [f_rounds_meet, b_rounds_meet, dSeq, dIfS, dTst, dOp, dOs, dVal, dSlot, dC, dVar, dIf, dAnd, dOr, dNot, dAndV, dOrV, dNotV, dTup, dLst, seeAll, see, valDatas, C.data, C.put, C.frozen, dSet, settable, dSetIx, ownL, dMut, dRetV, dRet, dRetN, dExp, dNext, dPar, dPar3, iAny, iEnumD, iZipD, lstOf, dChain, dAug, dCall, passAll, passO, ownSlots, nodupB, writeAll, dFor, iRg1, iRg2, iLst, iTpl, iStrD, gSet, gTuple, gMore, gEnd, dAsg, dMth, isStr, mkFn, isNone, intOf, DL.cutD, dLc, plainAt, tYesD, dSl11, List.getElem?_cons_zero, List.getElem?_cons_succ, List.getElem?_nil, List.set_cons_zero, List.set_cons_succ, List.length_cons, List.length_nil, List.map_cons, List.map_nil, List.replicate_succ, List.replicate_zero, List.cons_append, List.nil_append, List.append_nil, List.take_succ_cons, List.take_zero, List.contains_cons, List.contains_nil, Nat.reduceAdd, Nat.reduceLeDiff, Nat.reduceEqDiff, reduceIte, Nat.zero_add, Bool.and_true, Bool.true_and, Bool.not_false, Bool.false_eq_true, decide_true, decide_false, Bool.not_true, beq_self_eq_true, Bool.or_false, Bool.false_or, Nat.reduceBEq, a1, a2, eq, semLen_S, a3, e1, e2, e3]
theorem heard_ok {e : Ec} (he : okE e) (w : List Nat) (h : w.length + szE e ≤ 100000) : f_heard [.fz (de e), .fz (S w)] = some (.fz (S (hrd e w)), [some (.fz (de e)), some (.fz (S w))]) := by
  cases e with
  | all =>
    simp only [f_heard, b_heard, de, kd, tx, hrd, dSeq, dIfS, dTst, dOp, dOs, dVal, dSlot, dC, dVar, dIf, dAnd, dOr, dNot, dAndV, dOrV, dNotV, dTup, dLst, seeAll, see, valDatas, C.data, C.put, C.frozen, dSet, dSetIx, ownL, dMut, dRetV, dRet, dRetN, dExp, dNext, dPar, dPar3, iAny, iEnumD, iZipD, lstOf, dChain, dAug, dCall, passAll, passO, ownSlots, nodupB, writeAll, dFor, iRg1, iRg2, iLst, iTpl, iStrD, gSet, gTuple, gMore, gEnd, dAsg, dMth, isStr, mkFn, isNone, intOf, DL.cutD, dLc, plainAt, tYesD, dSl11, settable_zero, settable_succ, np_none, np_fz, np_ow, np_sc, List.getElem?_cons_zero, List.getElem?_cons_succ, List.getElem?_nil, List.set_cons_zero, List.set_cons_succ, List.length_cons, List.length_nil, List.map_cons, List.map_nil, List.replicate_succ, List.replicate_zero, List.cons_append, List.nil_append, List.append_nil, List.take_succ_cons, List.take_zero, List.contains_cons, List.contains_nil, Nat.reduceAdd, Nat.reduceLeDiff, Nat.reduceEqDiff, reduceIte, Nat.zero_add, Bool.and_true, Bool.true_and, Bool.not_false, Bool.false_eq_true, decide_true, decide_false, Bool.not_true, beq_self_eq_true, Bool.or_false, Bool.false_or, Nat.reduceBEq, eAA]
  | word u =>
    have c := common_ok w u
    simp only [f_heard, b_heard, de, kd, tx, hrd, dSeq, dIfS, dTst, dOp, dOs, dVal, dSlot, dC, dVar, dIf, dAnd, dOr, dNot, dAndV, dOrV, dNotV, dTup, dLst, seeAll, see, valDatas, C.data, C.put, C.frozen, dSet, dSetIx, ownL, dMut, dRetV, dRet, dRetN, dExp, dNext, dPar, dPar3, iAny, iEnumD, iZipD, lstOf, dChain, dAug, dCall, passAll, passO, ownSlots, nodupB, writeAll, dFor, iRg1, iRg2, iLst, iTpl, iStrD, gSet, gTuple, gMore, gEnd, dAsg, dMth, isStr, mkFn, isNone, intOf, DL.cutD, dLc, plainAt, tYesD, dSl11, settable_zero, settable_succ, np_none, np_fz, np_ow, np_sc, List.getElem?_cons_zero, List.getElem?_cons_succ, List.getElem?_nil, List.set_cons_zero, List.set_cons_succ, List.length_cons, List.length_nil, List.map_cons, List.map_nil, List.replicate_succ, List.replicate_zero, List.cons_append, List.nil_append, List.append_nil, List.take_succ_cons, List.take_zero, List.contains_cons, List.contains_nil, Nat.reduceAdd, Nat.reduceLeDiff, Nat.reduceEqDiff, reduceIte, Nat.zero_add, Bool.and_true, Bool.true_and, Bool.not_false, Bool.false_eq_true, decide_true, decide_false, Bool.not_true, beq_self_eq_true, Bool.or_false, Bool.false_or, Nat.reduceBEq, eWA, eWW, c]
  | round t =>
    have c := along_ok w t he (by simp only [szE] at h; omega)
    simp only [f_heard, b_heard, de, kd, tx, hrd, dSeq, dIfS, dTst, dOp, dOs, dVal, dSlot, dC, dVar, dIf, dAnd, dOr, dNot, dAndV, dOrV, dNotV, dTup, dLst, seeAll, see, valDatas, C.data, C.put, C.frozen, dSet, dSetIx, ownL, dMut, dRetV, dRet, dRetN, dExp, dNext, dPar, dPar3, iAny, iEnumD, iZipD, lstOf, dChain, dAug, dCall, passAll, passO, ownSlots, nodupB, writeAll, dFor, iRg1, iRg2, iLst, iTpl, iStrD, gSet, gTuple, gMore, gEnd, dAsg, dMth, isStr, mkFn, isNone, intOf, DL.cutD, dLc, plainAt, tYesD, dSl11, settable_zero, settable_succ, np_none, np_fz, np_ow, np_sc, List.getElem?_cons_zero, List.getElem?_cons_succ, List.getElem?_nil, List.set_cons_zero, List.set_cons_succ, List.length_cons, List.length_nil, List.map_cons, List.map_nil, List.replicate_succ, List.replicate_zero, List.cons_append, List.nil_append, List.append_nil, List.take_succ_cons, List.take_zero, List.contains_cons, List.contains_nil, Nat.reduceAdd, Nat.reduceLeDiff, Nat.reduceEqDiff, reduceIte, Nat.zero_add, Bool.and_true, Bool.true_and, Bool.not_false, Bool.false_eq_true, decide_true, decide_false, Bool.not_true, beq_self_eq_true, Bool.or_false, Bool.false_or, Nat.reduceBEq, eRA, eRW, c]
theorem met_ok {e f : Ec} (he : okE e) (hf : okE f) (h : szE e + szE f ≤ 90000) : f_met [.fz (de e), .fz (de f)] = some (.fz (de (metE e f)), [some (.fz (de e)), some (.fz (de f))]) := by
  have i0 := de0 e
  have i1 := de1 e
  have j0 := de0 f
  have j1 := de1 f
  cases e with
  | all =>
    simp only [kd, tx] at i0 i1
    simp only [f_met, b_met, dSeq, dIfS, dTst, dOp, dOs, dVal, dSlot, dC, dVar, dIf, dAnd, dOr, dNot, dAndV, dOrV, dNotV, dTup, dLst, seeAll, see, valDatas, C.data, C.put, C.frozen, dSet, settable, dSetIx, ownL, dMut, dRetV, dRet, dRetN, dExp, dNext, dPar, dPar3, iAny, iEnumD, iZipD, lstOf, dChain, dAug, dCall, passAll, passO, ownSlots, nodupB, writeAll, dFor, iRg1, iRg2, iLst, iTpl, iStrD, gSet, gTuple, gMore, gEnd, dAsg, dMth, isStr, mkFn, isNone, intOf, DL.cutD, dLc, plainAt, tYesD, dSl11, List.getElem?_cons_zero, List.getElem?_cons_succ, List.getElem?_nil, List.set_cons_zero, List.set_cons_succ, List.length_cons, List.length_nil, List.map_cons, List.map_nil, List.replicate_succ, List.replicate_zero, List.cons_append, List.nil_append, List.append_nil, List.take_succ_cons, List.take_zero, List.contains_cons, List.contains_nil, Nat.reduceAdd, Nat.reduceLeDiff, Nat.reduceEqDiff, reduceIte, Nat.zero_add, Bool.and_true, Bool.true_and, Bool.not_false, Bool.false_eq_true, decide_true, decide_false, Bool.not_true, beq_self_eq_true, Bool.or_false, Bool.false_or, Nat.reduceBEq, i0, eAA, metE]
  | word u =>
    simp only [kd, tx] at i0 i1
    cases f with
    | all =>
      simp only [kd, tx] at j0 j1
      simp only [f_met, b_met, dSeq, dIfS, dTst, dOp, dOs, dVal, dSlot, dC, dVar, dIf, dAnd, dOr, dNot, dAndV, dOrV, dNotV, dTup, dLst, seeAll, see, valDatas, C.data, C.put, C.frozen, dSet, settable, dSetIx, ownL, dMut, dRetV, dRet, dRetN, dExp, dNext, dPar, dPar3, iAny, iEnumD, iZipD, lstOf, dChain, dAug, dCall, passAll, passO, ownSlots, nodupB, writeAll, dFor, iRg1, iRg2, iLst, iTpl, iStrD, gSet, gTuple, gMore, gEnd, dAsg, dMth, isStr, mkFn, isNone, intOf, DL.cutD, dLc, plainAt, tYesD, dSl11, List.getElem?_cons_zero, List.getElem?_cons_succ, List.getElem?_nil, List.set_cons_zero, List.set_cons_succ, List.length_cons, List.length_nil, List.map_cons, List.map_nil, List.replicate_succ, List.replicate_zero, List.cons_append, List.nil_append, List.append_nil, List.take_succ_cons, List.take_zero, List.contains_cons, List.contains_nil, Nat.reduceAdd, Nat.reduceLeDiff, Nat.reduceEqDiff, reduceIte, Nat.zero_add, Bool.and_true, Bool.true_and, Bool.not_false, Bool.false_eq_true, decide_true, decide_false, Bool.not_true, beq_self_eq_true, Bool.or_false, Bool.false_or, Nat.reduceBEq, i0, j0, eWA, eAA, metE]
    | word v =>
      simp only [kd, tx] at j0 j1
      have c := heard_ok (e := .word v) hf u (by simp only [szE] at *; omega)
      simp only [f_met, b_met, dSeq, dIfS, dTst, dOp, dOs, dVal, dSlot, dC, dVar, dIf, dAnd, dOr, dNot, dAndV, dOrV, dNotV, dTup, dLst, seeAll, see, valDatas, C.data, C.put, C.frozen, dSet, settable, dSetIx, ownL, dMut, dRetV, dRet, dRetN, dExp, dNext, dPar, dPar3, iAny, iEnumD, iZipD, lstOf, dChain, dAug, dCall, passAll, passO, ownSlots, nodupB, writeAll, dFor, iRg1, iRg2, iLst, iTpl, iStrD, gSet, gTuple, gMore, gEnd, dAsg, dMth, isStr, mkFn, isNone, intOf, DL.cutD, dLc, plainAt, tYesD, dSl11, List.getElem?_cons_zero, List.getElem?_cons_succ, List.getElem?_nil, List.set_cons_zero, List.set_cons_succ, List.length_cons, List.length_nil, List.map_cons, List.map_nil, List.replicate_succ, List.replicate_zero, List.cons_append, List.nil_append, List.append_nil, List.take_succ_cons, List.take_zero, List.contains_cons, List.contains_nil, Nat.reduceAdd, Nat.reduceLeDiff, Nat.reduceEqDiff, reduceIte, Nat.zero_add, Bool.and_true, Bool.true_and, Bool.not_false, Bool.false_eq_true, decide_true, decide_false, Bool.not_true, beq_self_eq_true, Bool.or_false, Bool.false_or, Nat.reduceBEq, i0, i1, j0, eWA, eWW, c, metE]
      rfl
    | round t =>
      simp only [kd, tx] at j0 j1
      have c := heard_ok (e := .round t) hf u (by simp only [szE] at *; omega)
      simp only [f_met, b_met, dSeq, dIfS, dTst, dOp, dOs, dVal, dSlot, dC, dVar, dIf, dAnd, dOr, dNot, dAndV, dOrV, dNotV, dTup, dLst, seeAll, see, valDatas, C.data, C.put, C.frozen, dSet, settable, dSetIx, ownL, dMut, dRetV, dRet, dRetN, dExp, dNext, dPar, dPar3, iAny, iEnumD, iZipD, lstOf, dChain, dAug, dCall, passAll, passO, ownSlots, nodupB, writeAll, dFor, iRg1, iRg2, iLst, iTpl, iStrD, gSet, gTuple, gMore, gEnd, dAsg, dMth, isStr, mkFn, isNone, intOf, DL.cutD, dLc, plainAt, tYesD, dSl11, List.getElem?_cons_zero, List.getElem?_cons_succ, List.getElem?_nil, List.set_cons_zero, List.set_cons_succ, List.length_cons, List.length_nil, List.map_cons, List.map_nil, List.replicate_succ, List.replicate_zero, List.cons_append, List.nil_append, List.append_nil, List.take_succ_cons, List.take_zero, List.contains_cons, List.contains_nil, Nat.reduceAdd, Nat.reduceLeDiff, Nat.reduceEqDiff, reduceIte, Nat.zero_add, Bool.and_true, Bool.true_and, Bool.not_false, Bool.false_eq_true, decide_true, decide_false, Bool.not_true, beq_self_eq_true, Bool.or_false, Bool.false_or, Nat.reduceBEq, i0, i1, j0, eWA, eRA, eWW, c, metE]
      rfl
  | round s =>
    simp only [kd, tx] at i0 i1
    cases f with
    | all =>
      simp only [kd, tx] at j0 j1
      simp only [f_met, b_met, dSeq, dIfS, dTst, dOp, dOs, dVal, dSlot, dC, dVar, dIf, dAnd, dOr, dNot, dAndV, dOrV, dNotV, dTup, dLst, seeAll, see, valDatas, C.data, C.put, C.frozen, dSet, settable, dSetIx, ownL, dMut, dRetV, dRet, dRetN, dExp, dNext, dPar, dPar3, iAny, iEnumD, iZipD, lstOf, dChain, dAug, dCall, passAll, passO, ownSlots, nodupB, writeAll, dFor, iRg1, iRg2, iLst, iTpl, iStrD, gSet, gTuple, gMore, gEnd, dAsg, dMth, isStr, mkFn, isNone, intOf, DL.cutD, dLc, plainAt, tYesD, dSl11, List.getElem?_cons_zero, List.getElem?_cons_succ, List.getElem?_nil, List.set_cons_zero, List.set_cons_succ, List.length_cons, List.length_nil, List.map_cons, List.map_nil, List.replicate_succ, List.replicate_zero, List.cons_append, List.nil_append, List.append_nil, List.take_succ_cons, List.take_zero, List.contains_cons, List.contains_nil, Nat.reduceAdd, Nat.reduceLeDiff, Nat.reduceEqDiff, reduceIte, Nat.zero_add, Bool.and_true, Bool.true_and, Bool.not_false, Bool.false_eq_true, decide_true, decide_false, Bool.not_true, beq_self_eq_true, Bool.or_false, Bool.false_or, Nat.reduceBEq, i0, j0, eRA, eAA, metE]
    | word v =>
      simp only [kd, tx] at j0 j1
      have c := heard_ok (e := .round s) he v (by simp only [szE] at *; omega)
      simp only [f_met, b_met, dSeq, dIfS, dTst, dOp, dOs, dVal, dSlot, dC, dVar, dIf, dAnd, dOr, dNot, dAndV, dOrV, dNotV, dTup, dLst, seeAll, see, valDatas, C.data, C.put, C.frozen, dSet, settable, dSetIx, ownL, dMut, dRetV, dRet, dRetN, dExp, dNext, dPar, dPar3, iAny, iEnumD, iZipD, lstOf, dChain, dAug, dCall, passAll, passO, ownSlots, nodupB, writeAll, dFor, iRg1, iRg2, iLst, iTpl, iStrD, gSet, gTuple, gMore, gEnd, dAsg, dMth, isStr, mkFn, isNone, intOf, DL.cutD, dLc, plainAt, tYesD, dSl11, List.getElem?_cons_zero, List.getElem?_cons_succ, List.getElem?_nil, List.set_cons_zero, List.set_cons_succ, List.length_cons, List.length_nil, List.map_cons, List.map_nil, List.replicate_succ, List.replicate_zero, List.cons_append, List.nil_append, List.append_nil, List.take_succ_cons, List.take_zero, List.contains_cons, List.contains_nil, Nat.reduceAdd, Nat.reduceLeDiff, Nat.reduceEqDiff, reduceIte, Nat.zero_add, Bool.and_true, Bool.true_and, Bool.not_false, Bool.false_eq_true, decide_true, decide_false, Bool.not_true, beq_self_eq_true, Bool.or_false, Bool.false_or, Nat.reduceBEq, i0, i1, j0, j1, eWA, eRA, eRW, eWW, c, metE]
      rfl
    | round t =>
      simp only [kd, tx] at j0 j1
      have c := meet_ok (u := s) (v := t) he hf (by simp only [szE] at h; omega) (by simp only [szE] at h; omega)
      by_cases cc : s ++ t = t ++ s
      · rw [meet_none cc] at c
        simp only [f_met, b_met, dSeq, dIfS, dTst, dOp, dOs, dVal, dSlot, dC, dVar, dIf, dAnd, dOr, dNot, dAndV, dOrV, dNotV, dTup, dLst, seeAll, see, valDatas, C.data, C.put, C.frozen, dSet, settable, dSetIx, ownL, dMut, dRetV, dRet, dRetN, dExp, dNext, dPar, dPar3, iAny, iEnumD, iZipD, lstOf, dChain, dAug, dCall, passAll, passO, ownSlots, nodupB, writeAll, dFor, iRg1, iRg2, iLst, iTpl, iStrD, gSet, gTuple, gMore, gEnd, dAsg, dMth, isStr, mkFn, isNone, intOf, DL.cutD, dLc, plainAt, tYesD, dSl11, List.getElem?_cons_zero, List.getElem?_cons_succ, List.getElem?_nil, List.set_cons_zero, List.set_cons_succ, List.length_cons, List.length_nil, List.map_cons, List.map_nil, List.replicate_succ, List.replicate_zero, List.cons_append, List.nil_append, List.append_nil, List.take_succ_cons, List.take_zero, List.contains_cons, List.contains_nil, Nat.reduceAdd, Nat.reduceLeDiff, Nat.reduceEqDiff, reduceIte, Nat.zero_add, Bool.and_true, Bool.true_and, Bool.not_false, Bool.false_eq_true, decide_true, decide_false, Bool.not_true, beq_self_eq_true, Bool.or_false, Bool.false_or, Nat.reduceBEq, i0, i1, j0, j1, eRA, eRW, c, isN_none, metE, if_pos cc]
      · unfold meet at c
        rw [if_neg cc] at c
        simp only [f_met, b_met, dSeq, dIfS, dTst, dOp, dOs, dVal, dSlot, dC, dVar, dIf, dAnd, dOr, dNot, dAndV, dOrV, dNotV, dTup, dLst, seeAll, see, valDatas, C.data, C.put, C.frozen, dSet, settable, dSetIx, ownL, dMut, dRetV, dRet, dRetN, dExp, dNext, dPar, dPar3, iAny, iEnumD, iZipD, lstOf, dChain, dAug, dCall, passAll, passO, ownSlots, nodupB, writeAll, dFor, iRg1, iRg2, iLst, iTpl, iStrD, gSet, gTuple, gMore, gEnd, dAsg, dMth, isStr, mkFn, isNone, intOf, DL.cutD, dLc, plainAt, tYesD, dSl11, List.getElem?_cons_zero, List.getElem?_cons_succ, List.getElem?_nil, List.set_cons_zero, List.set_cons_succ, List.length_cons, List.length_nil, List.map_cons, List.map_nil, List.replicate_succ, List.replicate_zero, List.cons_append, List.nil_append, List.append_nil, List.take_succ_cons, List.take_zero, List.contains_cons, List.contains_nil, Nat.reduceAdd, Nat.reduceLeDiff, Nat.reduceEqDiff, reduceIte, Nat.zero_add, Bool.and_true, Bool.true_and, Bool.not_false, Bool.false_eq_true, decide_true, decide_false, Bool.not_true, beq_self_eq_true, Bool.or_false, Bool.false_or, Nat.reduceBEq, i0, i1, j0, j1, eRA, eRW, c, isN_S, metE, if_neg cc]
        rfl
theorem lr_ok {d : List Nat} (hd : d ≠ []) (h : d.length ≤ 100000) : f_least_round [.fz (S d)] = some (.fz (S (lr d)), [some (.fz (S d))]) := by
  obtain ⟨r, R, e⟩ := least_ok hd (by omega)
  rw [lr_of hd R]
  exact e
theorem led_ok {d : List Nat} (hd : d ≠ []) {e : Ec} (he : canE e) (h : d.length + szE e ≤ 90000) : f_led_by [.fz (S d), .fz (de e)] = some (.fz (de (ledE d e)), [some (.fz (S d)), some (.fz (de e))]) := by
  have l := lr_ok hd (by omega)
  cases e with
  | all =>
    simp only [f_led_by, b_led_by, f_round_of, b_round_of, de, kd, tx, dSeq, dIfS, dTst, dOp, dOs, dVal, dSlot, dC, dVar, dIf, dAnd, dOr, dNot, dAndV, dOrV, dNotV, dTup, dLst, seeAll, see, valDatas, C.data, C.put, C.frozen, dSet, dSetIx, ownL, dMut, dRetV, dRet, dRetN, dExp, dNext, dPar, dPar3, iAny, iEnumD, iZipD, lstOf, dChain, dAug, dCall, passAll, passO, ownSlots, nodupB, writeAll, dFor, iRg1, iRg2, iLst, iTpl, iStrD, gSet, gTuple, gMore, gEnd, dAsg, dMth, isStr, mkFn, isNone, intOf, DL.cutD, dLc, plainAt, tYesD, dSl11, settable_zero, settable_succ, np_none, np_fz, np_ow, np_sc, List.getElem?_cons_zero, List.getElem?_cons_succ, List.getElem?_nil, List.set_cons_zero, List.set_cons_succ, List.length_cons, List.length_nil, List.map_cons, List.map_nil, List.replicate_succ, List.replicate_zero, List.cons_append, List.nil_append, List.append_nil, List.take_succ_cons, List.take_zero, List.contains_cons, List.contains_nil, Nat.reduceAdd, Nat.reduceLeDiff, Nat.reduceEqDiff, reduceIte, Nat.zero_add, Bool.and_true, Bool.true_and, Bool.not_false, Bool.false_eq_true, decide_true, decide_false, Bool.not_true, beq_self_eq_true, Bool.or_false, Bool.false_or, Nat.reduceBEq, eAA, l, ledE]
  | word v =>
    have a := semAdd_S d v (by simp only [szE] at h; omega)
    have c := along_ok (d ++ v) d hd (by simp only [szE, List.length_append] at *; omega)
    simp only [f_led_by, b_led_by, de, kd, tx, dSeq, dIfS, dTst, dOp, dOs, dVal, dSlot, dC, dVar, dIf, dAnd, dOr, dNot, dAndV, dOrV, dNotV, dTup, dLst, seeAll, see, valDatas, C.data, C.put, C.frozen, dSet, dSetIx, ownL, dMut, dRetV, dRet, dRetN, dExp, dNext, dPar, dPar3, iAny, iEnumD, iZipD, lstOf, dChain, dAug, dCall, passAll, passO, ownSlots, nodupB, writeAll, dFor, iRg1, iRg2, iLst, iTpl, iStrD, gSet, gTuple, gMore, gEnd, dAsg, dMth, isStr, mkFn, isNone, intOf, DL.cutD, dLc, plainAt, tYesD, dSl11, settable_zero, settable_succ, np_none, np_fz, np_ow, np_sc, List.getElem?_cons_zero, List.getElem?_cons_succ, List.getElem?_nil, List.set_cons_zero, List.set_cons_succ, List.length_cons, List.length_nil, List.map_cons, List.map_nil, List.replicate_succ, List.replicate_zero, List.cons_append, List.nil_append, List.append_nil, List.take_succ_cons, List.take_zero, List.contains_cons, List.contains_nil, Nat.reduceAdd, Nat.reduceLeDiff, Nat.reduceEqDiff, reduceIte, Nat.zero_add, Bool.and_true, Bool.true_and, Bool.not_false, Bool.false_eq_true, decide_true, decide_false, Bool.not_true, beq_self_eq_true, Bool.or_false, Bool.false_or, Nat.reduceBEq, eWA, eWR, eWW, a, c, ledE]
  | round t =>
    have q := semEq_S (lr d) t
    by_cases cc : lr d = t
    · rw [decide_eq_true cc] at q
      simp only [f_led_by, b_led_by, f_round_of, b_round_of, de, kd, tx, dSeq, dIfS, dTst, dOp, dOs, dVal, dSlot, dC, dVar, dIf, dAnd, dOr, dNot, dAndV, dOrV, dNotV, dTup, dLst, seeAll, see, valDatas, C.data, C.put, C.frozen, dSet, dSetIx, ownL, dMut, dRetV, dRet, dRetN, dExp, dNext, dPar, dPar3, iAny, iEnumD, iZipD, lstOf, dChain, dAug, dCall, passAll, passO, ownSlots, nodupB, writeAll, dFor, iRg1, iRg2, iLst, iTpl, iStrD, gSet, gTuple, gMore, gEnd, dAsg, dMth, isStr, mkFn, isNone, intOf, DL.cutD, dLc, plainAt, tYesD, dSl11, settable_zero, settable_succ, np_none, np_fz, np_ow, np_sc, List.getElem?_cons_zero, List.getElem?_cons_succ, List.getElem?_nil, List.set_cons_zero, List.set_cons_succ, List.length_cons, List.length_nil, List.map_cons, List.map_nil, List.replicate_succ, List.replicate_zero, List.cons_append, List.nil_append, List.append_nil, List.take_succ_cons, List.take_zero, List.contains_cons, List.contains_nil, Nat.reduceAdd, Nat.reduceLeDiff, Nat.reduceEqDiff, reduceIte, Nat.zero_add, Bool.and_true, Bool.true_and, Bool.not_false, Bool.false_eq_true, decide_true, decide_false, Bool.not_true, beq_self_eq_true, Bool.or_false, Bool.false_or, Nat.reduceBEq, eRA, eRR, l, q, ledE, if_pos cc]
    · rw [decide_eq_false cc] at q
      have T := lr_same (d := d) hd he.1 he.2
      have ne : d ++ t ≠ t ++ d := fun e => cc (T.mpr (comm_same hd he.1 e))
      have c := meet_ok (u := d) (v := t) hd he.1 (by simp only [szE] at h; omega) (by simp only [szE] at h; omega)
      unfold meet at c
      rw [if_neg ne] at c
      have ll := lcp_le1 (endless d (d.length + t.length)) (endless t (d.length + t.length))
      rw [endless_len d _ hd] at ll
      have a := semAdd_S d (lcp (endless d (d.length + t.length)) (endless t (d.length + t.length))) (by simp only [szE] at h; omega)
      simp only [f_led_by, b_led_by, de, kd, tx, dSeq, dIfS, dTst, dOp, dOs, dVal, dSlot, dC, dVar, dIf, dAnd, dOr, dNot, dAndV, dOrV, dNotV, dTup, dLst, seeAll, see, valDatas, C.data, C.put, C.frozen, dSet, dSetIx, ownL, dMut, dRetV, dRet, dRetN, dExp, dNext, dPar, dPar3, iAny, iEnumD, iZipD, lstOf, dChain, dAug, dCall, passAll, passO, ownSlots, nodupB, writeAll, dFor, iRg1, iRg2, iLst, iTpl, iStrD, gSet, gTuple, gMore, gEnd, dAsg, dMth, isStr, mkFn, isNone, intOf, DL.cutD, dLc, plainAt, tYesD, dSl11, settable_zero, settable_succ, np_none, np_fz, np_ow, np_sc, List.getElem?_cons_zero, List.getElem?_cons_succ, List.getElem?_nil, List.set_cons_zero, List.set_cons_succ, List.length_cons, List.length_nil, List.map_cons, List.map_nil, List.replicate_succ, List.replicate_zero, List.cons_append, List.nil_append, List.append_nil, List.take_succ_cons, List.take_zero, List.contains_cons, List.contains_nil, Nat.reduceAdd, Nat.reduceLeDiff, Nat.reduceEqDiff, reduceIte, Nat.zero_add, Bool.and_true, Bool.true_and, Bool.not_false, Bool.false_eq_true, decide_true, decide_false, Bool.not_true, beq_self_eq_true, Bool.or_false, Bool.false_or, Nat.reduceBEq, eRA, eRR, eRW, l, q, c, a, ledE, if_neg cc]
theorem both_ok {p q : Pr} (hp : canE p.2) (hq : canE q.2) (h : szP p + szP q ≤ 20000) : ∃ o1 o2, f_both [.fz (dp p), .fz (dp q)] = some (.fz (dp (bothP p q)), [o1, o2]) := by
  have gt : semGt [.fz (.int (p.1.length : Int)), .fz (.int (q.1.length : Int))] = some (.fz (.bool (decide (q.1.length < p.1.length)))) := by
    simp [semGt, C.data]
  have main : ∀ {p q : Pr}, canE p.2 → canE q.2 → szP p + szP q ≤ 20000 → p.1.length ≤ q.1.length → ∀ e, e = [some (.fz (dp p)), some (.fz (dp q)), none, none] → (match (dSeq (dPar 2 3 [dVal (dOp semIx [dSlot 0, dVal (dC (.int 0))]), dVal (dOp semIx [dSlot 1, dVal (dC (.int 0))])]) (dSeq (dIfS (dTst (dOp semNe [dVal (dCall f_common [dVal (dVar 2), dVal (dVar 3)]), dSlot 2])) (dRet (dOp semAdd [dVal (dTup [dVal (dCall f_common [dVal (dVar 2), dVal (dVar 3)])]), dVal (dC (.tuple [S [119, 111, 114, 100], S []]))])) (dNext)) (dSeq (dIfS (dTst (dOp semEq [dSlot 2, dSlot 3])) (dRet (dOp semAdd [dVal (dTup [dVal (dVar 2)]), dVal (dCall f_met [dVal (dOp semSl10 [dSlot 0, dVal (dC (.int 1))]), dVal (dOp semSl10 [dSlot 1, dVal (dC (.int 1))])])])) (dNext)) (dRet (dOp semAdd [dVal (dTup [dVal (dVar 2)]), dVal (dCall f_met [dVal (dOp semSl10 [dSlot 0, dVal (dC (.int 1))]), dVal (dCall f_led_by [dVal (dOp semSl10 [dSlot 3, dVal (dOp semLen [dSlot 2])]), dVal (dOp semSl10 [dSlot 1, dVal (dC (.int 1))])])])]))))) e with
      | some (.nx, e) => some (C.fz .none, e.take 2)
      | some (.rt c, e) => some (c, e.take 2)
      | _ => none) = some (C.fz (dp (bothL p q)), [some (.fz (dp p)), some (.fz (dp q))]) := by
    intro p q hp hq h hl e he
    subst he
    have i0 := dp0 p
    have j0 := dp0 q
    have i1 := dp1 p
    have j1 := dp1 q
    have cm := common_ok p.1 q.1
    have ne := semNe_S (lcp p.1 q.1) p.1
    unfold szP at h
    unfold bothL
    by_cases c1 : lcp p.1 q.1 = p.1
    · rw [decide_eq_true c1] at ne
      rw [if_neg (by simp [c1])]
      have eq := semEq_S p.1 q.1
      by_cases c2 : p.1 = q.1
      · rw [decide_eq_true c2] at eq
        rw [if_pos c2]
        have mt := met_ok hp.ok hq.ok (by omega)
        have ad := addT [S p.1] [S (kd (metE p.2 q.2)), S (tx (metE p.2 q.2))] (by simp)
        simp only [dSeq, dIfS, dTst, dOp, dOs, dVal, dSlot, dC, dVar, dIf, dAnd, dOr, dNot, dAndV, dOrV, dNotV, dTup, dLst, seeAll, see, valDatas, C.data, C.put, C.frozen, dSet, dSetIx, ownL, dMut, dRetV, dRet, dRetN, dExp, dNext, dPar, dPar3, iAny, iEnumD, iZipD, lstOf, dChain, dAug, dCall, passAll, passO, ownSlots, nodupB, writeAll, dFor, iRg1, iRg2, iLst, iTpl, iStrD, gSet, gTuple, gMore, gEnd, dAsg, dMth, isStr, mkFn, isNone, intOf, DL.cutD, dLc, plainAt, tYesD, dSl11, settable_zero, settable_succ, np_none, np_fz, np_ow, np_sc, List.getElem?_cons_zero, List.getElem?_cons_succ, List.getElem?_nil, List.set_cons_zero, List.set_cons_succ, List.length_cons, List.length_nil, List.map_cons, List.map_nil, List.replicate_succ, List.replicate_zero, List.cons_append, List.nil_append, List.append_nil, List.take_succ_cons, List.take_zero, List.contains_cons, List.contains_nil, Nat.reduceAdd, Nat.reduceLeDiff, Nat.reduceEqDiff, reduceIte, Nat.zero_add, Bool.and_true, Bool.true_and, Bool.not_false, Bool.false_eq_true, decide_true, decide_false, Bool.not_true, beq_self_eq_true, Bool.or_false, Bool.false_or, Nat.reduceBEq, i0, j0, cm, ne, eq, i1, j1, mt]
        simp only [de, ad]
        rfl
      · rw [decide_eq_false c2] at eq
        rw [if_neg c2]
        have dn := drop_ne c1 c2
        have sl := semSl10_S q.1 p.1.length
        have dl : (q.1.drop p.1.length).length ≤ q.1.length := by rw [List.length_drop]; omega
        have ld := led_ok dn hq (by omega)
        have lz := led_sz (q.1.drop p.1.length) q.2
        have mt := met_ok hp.ok (can_led dn hq).ok (by omega)
        generalize ledE (q.1.drop p.1.length) q.2 = L at *
        have ad := addT [S p.1] [S (kd (metE p.2 L)), S (tx (metE p.2 L))] (by simp)
        simp only [dSeq, dIfS, dTst, dOp, dOs, dVal, dSlot, dC, dVar, dIf, dAnd, dOr, dNot, dAndV, dOrV, dNotV, dTup, dLst, seeAll, see, valDatas, C.data, C.put, C.frozen, dSet, dSetIx, ownL, dMut, dRetV, dRet, dRetN, dExp, dNext, dPar, dPar3, iAny, iEnumD, iZipD, lstOf, dChain, dAug, dCall, passAll, passO, ownSlots, nodupB, writeAll, dFor, iRg1, iRg2, iLst, iTpl, iStrD, gSet, gTuple, gMore, gEnd, dAsg, dMth, isStr, mkFn, isNone, intOf, DL.cutD, dLc, plainAt, tYesD, dSl11, settable_zero, settable_succ, np_none, np_fz, np_ow, np_sc, List.getElem?_cons_zero, List.getElem?_cons_succ, List.getElem?_nil, List.set_cons_zero, List.set_cons_succ, List.length_cons, List.length_nil, List.map_cons, List.map_nil, List.replicate_succ, List.replicate_zero, List.cons_append, List.nil_append, List.append_nil, List.take_succ_cons, List.take_zero, List.contains_cons, List.contains_nil, Nat.reduceAdd, Nat.reduceLeDiff, Nat.reduceEqDiff, reduceIte, Nat.zero_add, Bool.and_true, Bool.true_and, Bool.not_false, Bool.false_eq_true, decide_true, decide_false, Bool.not_true, beq_self_eq_true, Bool.or_false, Bool.false_or, Nat.reduceBEq, i0, j0, cm, ne, eq, i1, j1, semLen_S, sl, ld, mt]
        simp only [de, ad]
        rfl
    · rw [decide_eq_false c1] at ne
      rw [if_pos c1]
      have ad := addT [S (lcp p.1 q.1)] [S [119, 111, 114, 100], S []] (by simp)
      simp only [dSeq, dIfS, dTst, dOp, dOs, dVal, dSlot, dC, dVar, dIf, dAnd, dOr, dNot, dAndV, dOrV, dNotV, dTup, dLst, seeAll, see, valDatas, C.data, C.put, C.frozen, dSet, dSetIx, ownL, dMut, dRetV, dRet, dRetN, dExp, dNext, dPar, dPar3, iAny, iEnumD, iZipD, lstOf, dChain, dAug, dCall, passAll, passO, ownSlots, nodupB, writeAll, dFor, iRg1, iRg2, iLst, iTpl, iStrD, gSet, gTuple, gMore, gEnd, dAsg, dMth, isStr, mkFn, isNone, intOf, DL.cutD, dLc, plainAt, tYesD, dSl11, settable_zero, settable_succ, np_none, np_fz, np_ow, np_sc, List.getElem?_cons_zero, List.getElem?_cons_succ, List.getElem?_nil, List.set_cons_zero, List.set_cons_succ, List.length_cons, List.length_nil, List.map_cons, List.map_nil, List.replicate_succ, List.replicate_zero, List.cons_append, List.nil_append, List.append_nil, List.take_succ_cons, List.take_zero, List.contains_cons, List.contains_nil, Nat.reduceAdd, Nat.reduceLeDiff, Nat.reduceEqDiff, reduceIte, Nat.zero_add, Bool.and_true, Bool.true_and, Bool.not_false, Bool.false_eq_true, decide_true, decide_false, Bool.not_true, beq_self_eq_true, Bool.or_false, Bool.false_or, Nat.reduceBEq, i0, j0, cm, ne, ad]
      rfl
  by_cases c : q.1.length < p.1.length
  · rw [decide_eq_true c] at gt
    have h1 := main hq hp (by omega) (by omega) _ rfl
    refine ⟨some (.fz (dp q)), some (.fz (dp p)), ?_⟩
    unfold bothP
    rw [if_pos c, ← h1]
    have i0 := dp0 p
    have j0 := dp0 q
    simp only [f_both, b_both]
    rw [mkFn, if_pos (show ([C.fz (dp p), C.fz (dp q)]).length = 2 from rfl)]
    rw [dSeq]
    have e1 : dIfS (dTst (dOp semGt [dVal (dOp semLen [dVal (dOp semIx [dSlot 0, dVal (dC (.int 0))])]), dVal (dOp semLen [dVal (dOp semIx [dSlot 1, dVal (dC (.int 0))])])])) (dPar 0 1 [dVal (dVar 1), dVal (dVar 0)]) (dNext) [some (.fz (dp p)), some (.fz (dp q)), none, none] = some (.nx, [some (.fz (dp q)), some (.fz (dp p)), none, none]) := by
      simp only [dSeq, dIfS, dTst, dOp, dOs, dVal, dSlot, dC, dVar, dIf, dAnd, dOr, dNot, dAndV, dOrV, dNotV, dTup, dLst, seeAll, see, valDatas, C.data, C.put, C.frozen, dSet, dSetIx, ownL, dMut, dRetV, dRet, dRetN, dExp, dNext, dPar, dPar3, iAny, iEnumD, iZipD, lstOf, dChain, dAug, dCall, passAll, passO, ownSlots, nodupB, writeAll, dFor, iRg1, iRg2, iLst, iTpl, iStrD, gSet, gTuple, gMore, gEnd, dAsg, dMth, isStr, mkFn, isNone, intOf, DL.cutD, dLc, plainAt, tYesD, dSl11, settable_zero, settable_succ, np_none, np_fz, np_ow, np_sc, List.getElem?_cons_zero, List.getElem?_cons_succ, List.getElem?_nil, List.set_cons_zero, List.set_cons_succ, List.length_cons, List.length_nil, List.map_cons, List.map_nil, List.replicate_succ, List.replicate_zero, List.cons_append, List.nil_append, List.append_nil, List.take_succ_cons, List.take_zero, List.contains_cons, List.contains_nil, Nat.reduceAdd, Nat.reduceLeDiff, Nat.reduceEqDiff, reduceIte, Nat.zero_add, Bool.and_true, Bool.true_and, Bool.not_false, Bool.false_eq_true, decide_true, decide_false, Bool.not_true, beq_self_eq_true, Bool.or_false, Bool.false_or, Nat.reduceBEq, i0, j0, semLen_S, gt]
    simp only [List.map_cons, List.map_nil, List.replicate_succ, List.replicate_zero, List.cons_append, List.nil_append, e1]
    try rfl
  · rw [decide_eq_false c] at gt
    have h1 := main hp hq h (by omega) _ rfl
    refine ⟨some (.fz (dp p)), some (.fz (dp q)), ?_⟩
    unfold bothP
    rw [if_neg c, ← h1]
    have i0 := dp0 p
    have j0 := dp0 q
    simp only [f_both, b_both]
    rw [mkFn, if_pos (show ([C.fz (dp p), C.fz (dp q)]).length = 2 from rfl)]
    rw [dSeq]
    have e1 : dIfS (dTst (dOp semGt [dVal (dOp semLen [dVal (dOp semIx [dSlot 0, dVal (dC (.int 0))])]), dVal (dOp semLen [dVal (dOp semIx [dSlot 1, dVal (dC (.int 0))])])])) (dPar 0 1 [dVal (dVar 1), dVal (dVar 0)]) (dNext) [some (.fz (dp p)), some (.fz (dp q)), none, none] = some (.nx, [some (.fz (dp p)), some (.fz (dp q)), none, none]) := by
      simp only [dSeq, dIfS, dTst, dOp, dOs, dVal, dSlot, dC, dVar, dIf, dAnd, dOr, dNot, dAndV, dOrV, dNotV, dTup, dLst, seeAll, see, valDatas, C.data, C.put, C.frozen, dSet, dSetIx, ownL, dMut, dRetV, dRet, dRetN, dExp, dNext, dPar, dPar3, iAny, iEnumD, iZipD, lstOf, dChain, dAug, dCall, passAll, passO, ownSlots, nodupB, writeAll, dFor, iRg1, iRg2, iLst, iTpl, iStrD, gSet, gTuple, gMore, gEnd, dAsg, dMth, isStr, mkFn, isNone, intOf, DL.cutD, dLc, plainAt, tYesD, dSl11, settable_zero, settable_succ, np_none, np_fz, np_ow, np_sc, List.getElem?_cons_zero, List.getElem?_cons_succ, List.getElem?_nil, List.set_cons_zero, List.set_cons_succ, List.length_cons, List.length_nil, List.map_cons, List.map_nil, List.replicate_succ, List.replicate_zero, List.cons_append, List.nil_append, List.append_nil, List.take_succ_cons, List.take_zero, List.contains_cons, List.contains_nil, Nat.reduceAdd, Nat.reduceLeDiff, Nat.reduceEqDiff, reduceIte, Nat.zero_add, Bool.and_true, Bool.true_and, Bool.not_false, Bool.false_eq_true, decide_true, decide_false, Bool.not_true, beq_self_eq_true, Bool.or_false, Bool.false_or, Nat.reduceBEq, i0, j0, semLen_S, gt]
    simp only [List.map_cons, List.map_nil, List.replicate_succ, List.replicate_zero, List.cons_append, List.nil_append, e1]
    try rfl
theorem dp_inj {p q : Pr} : p = q ↔ p.1 = q.1 ∧ kd p.2 = kd q.2 ∧ tx p.2 = tx q.2 := by
  constructor
  · rintro rfl
    exact ⟨rfl, rfl, rfl⟩
  · obtain ⟨h, e⟩ := p
    obtain ⟨l, f⟩ := q
    rintro ⟨h1, h2, h3⟩
    simp only at h1 h2 h3
    subst h1
    cases e <;> cases f <;> simp_all [kd, tx]
theorem eqv_dp (p q : Pr) : PyData.eqv (dp p) (dp q) = decide (p = q) := by
  unfold dp
  rw [eqv_tuple, eqvAll_cons, eqvAll_cons, eqvAll_cons, eqvAll_nil, eqv_S, eqv_S, eqv_S, Bool.and_true, decide_eq_decide.mpr (dp_inj (p := p) (q := q)), Bool.decide_and, Bool.decide_and]
theorem depth_dp (p : Pr) : dep (dp p) = 1 := by
  unfold dp
  rw [depth_tuple, depthAll_cons, depthAll_cons, depthAll_cons, depthAll_nil, depth_S, depth_S, depth_S]
  rfl
theorem semEq_dp (p q : Pr) : semEq [.fz (dp p), .fz (dp q)] = some (.fz (.bool (decide (p = q)))) := by
  simp only [semEq, C.data, eqv_dp, depth_dp]
  rfl
theorem semNe_dp (p q : Pr) : semNe [.fz (dp p), .fz (dp q)] = some (.fz (.bool (!decide (p = q)))) := by
  simp only [semNe, C.data, eqv_dp, depth_dp]
  rfl
theorem repr_bool (b : Bool) : semRepr [.fz (.bool b)] = some (.fz (.str (PyData.bool b).shown)) := semRepr_fz (by rw [depth_bool]; decide) rfl (by cases b <;> decide)
theorem spl_end {t : List Nat} (ht : t ≠ []) {n m : Nat} (h : n ≤ t.length * m) : (reps m t).take n = endless t n := by
  apply List.ext_getElem?
  intro k
  by_cases hk : k < n
  · rw [List.getElem?_take_of_lt hk, reps_at t m k (by omega), end_ew ht hk]
    rfl
  · rw [List.getElem?_eq_none (by rw [List.length_take]; omega), List.getElem?_eq_none (by rw [endless_len t _ ht]; omega)]
theorem lcp_take_end {t w : List Nat} : lcp w (endless t w.length) = hrd (.round t) w := rfl
end LW
set_option Elab.async false
set_option linter.all false
set_option maxRecDepth 8000
set_option maxHeartbeats 4000000
namespace LW
open DL PySem L2
/-! ### behind, with_word, pair_of, by the code -/
noncomputable def deO : Option Ec → PyData
  | none => .none
  | some r => de r
theorem isN_de (e : Ec) : semIsN [.fz (de e), .fz .none] = some (.fz (.bool false)) := rfl
theorem pairof_loop {T : C} {M : Nat} (hM : M ≤ 3000) : ∀ (ws : List (List Nat)) (p : Pr) (x : Option C), canE p.2 → bnd M p → (∀ w ∈ ws, w.length ≤ M) → np x = true →
    ∃ y, dForL (gSet 2) v1_pair_of (ws.map S) [some T, some (.fz (dp p)), x] = some (.nx, [some T, some (.fz (dp (pairs p ws))), y])
  | [], p, x, _, _, _, _ => ⟨x, rfl⟩
  | w :: ws, p, x, hp, hb, hw, hx => by
    have wl := hw w (by simp)
    have z1 := hb.sz
    obtain ⟨o1, o2, bo⟩ := both_ok (p := p) (q := (w, .all)) hp trivial (by
      have : szP (w, .all) = w.length := rfl
      omega)
    have g : gSet 2 (S w) [some T, some (.fz (dp p)), x] = some [some T, some (.fz (dp p)), some (.fz (S w))] := by simp only [dSeq, dIfS, dTst, dOp, dOs, dVal, dSlot, dC, dVar, dIf, dAnd, dOr, dNot, dAndV, dOrV, dNotV, dTup, dLst, seeAll, see, valDatas, C.data, C.put, C.frozen, dSet, dSetIx, ownL, dMut, dRetV, dRet, dRetN, dExp, dNext, dPar, dPar3, iAny, iEnumD, iZipD, lstOf, dChain, dAug, dCall, passAll, passO, ownSlots, nodupB, writeAll, dFor, iRg1, iRg2, iLst, iTpl, iStrD, gSet, gTuple, gMore, gEnd, dAsg, dMth, isStr, mkFn, isNone, intOf, DL.cutD, dLc, plainAt, tYesD, dSl11, settable_zero, settable_succ, np_none, np_fz, np_ow, np_sc, List.getElem?_cons_zero, List.getElem?_cons_succ, List.getElem?_nil, List.set_cons_zero, List.set_cons_succ, List.length_cons, List.length_nil, List.map_cons, List.map_nil, List.replicate_succ, List.replicate_zero, List.cons_append, List.nil_append, List.append_nil, List.take_succ_cons, List.take_zero, List.contains_cons, List.contains_nil, Nat.reduceAdd, Nat.reduceLeDiff, Nat.reduceEqDiff, reduceIte, Nat.zero_add, Bool.and_true, Bool.true_and, Bool.not_false, Bool.false_eq_true, decide_true, decide_false, Bool.not_true, beq_self_eq_true, Bool.or_false, Bool.false_or, Nat.reduceBEq, hx]
    have bo' : f_both [.fz (dp p), .fz (.tuple [S w, S [97, 108, 108], S []])] = some (.fz (dp (bothP p (w, .all))), [o1, o2]) := bo
    have body : v1_pair_of [some T, some (.fz (dp p)), some (.fz (S w))] = some (.nx, [some T, some (.fz (dp (bothP p (w, .all)))), some (.fz (S w))]) := by
      simp only [v1_pair_of, dSeq, dIfS, dTst, dOp, dOs, dVal, dSlot, dC, dVar, dIf, dAnd, dOr, dNot, dAndV, dOrV, dNotV, dTup, dLst, seeAll, see, valDatas, C.data, C.put, C.frozen, dSet, dSetIx, ownL, dMut, dRetV, dRet, dRetN, dExp, dNext, dPar, dPar3, iAny, iEnumD, iZipD, lstOf, dChain, dAug, dCall, passAll, passO, ownSlots, nodupB, writeAll, dFor, iRg1, iRg2, iLst, iTpl, iStrD, gSet, gTuple, gMore, gEnd, dAsg, dMth, isStr, mkFn, isNone, intOf, DL.cutD, dLc, plainAt, tYesD, dSl11, settable_zero, settable_succ, np_none, np_fz, np_ow, np_sc, List.getElem?_cons_zero, List.getElem?_cons_succ, List.getElem?_nil, List.set_cons_zero, List.set_cons_succ, List.length_cons, List.length_nil, List.map_cons, List.map_nil, List.replicate_succ, List.replicate_zero, List.cons_append, List.nil_append, List.append_nil, List.take_succ_cons, List.take_zero, List.contains_cons, List.contains_nil, Nat.reduceAdd, Nat.reduceLeDiff, Nat.reduceEqDiff, reduceIte, Nat.zero_add, Bool.and_true, Bool.true_and, Bool.not_false, Bool.false_eq_true, decide_true, decide_false, Bool.not_true, beq_self_eq_true, Bool.or_false, Bool.false_or, Nat.reduceBEq, bo']
    rw [List.map_cons, dForL, g]
    simp only [body]
    exact pairof_loop hM ws _ _ (both_can hp trivial) (hb.both wl) (fun v hv => hw v (List.mem_cons_of_mem _ hv)) rfl
/-- pair_of tells the pair of its words -/
theorem pairof_ok {ws : List (List Nat)} {M : Nat} (hn : ws ≠ []) (hM : M ≤ 3000) (hw : ∀ w ∈ ws, w.length ≤ M) : ∃ p, f_pair_of [.fz (.tuple (ws.map S))] = some (.fz (dp p), [some (.fz (.tuple (ws.map S)))]) ∧ SP p ws ∧ szP p ≤ 4 * M := by
  cases ws with
  | nil => exact absurd rfl hn
  | cons w r =>
    have hw1 : w.length ≤ M := hw w (by simp)
    have hr : ∀ v ∈ r, v.length ≤ M := fun v hv => hw v (List.mem_cons_of_mem _ hv)
    have i0 : semIx [.fz (.tuple (S w :: r.map S)), .fz (.int 0)] = some (.fz (S w)) := ixT (k := 0) rfl
    have sl := sl10_T (S w :: r.map S) 1
    simp only [Int.natCast_one, List.drop_succ_cons, List.drop_zero] at sl
    obtain ⟨y, lp⟩ := pairof_loop (T := .fz (.tuple (S w :: r.map S))) hM r (w, .all) none trivial (bnd.one hw1) hr rfl
    have d0 : dp (w, .all) = .tuple [S w, S [97, 108, 108], S []] := rfl
    rw [d0] at lp
    refine ⟨pairs (w, .all) r, ?_, (SP.one w).pairs, (bnd.pairs (bnd.one hw1) hr).sz⟩
    simp only [f_pair_of, b_pair_of, List.map_cons, dSeq, dIfS, dTst, dOp, dOs, dVal, dSlot, dC, dVar, dIf, dAnd, dOr, dNot, dAndV, dOrV, dNotV, dTup, dLst, seeAll, see, valDatas, C.data, C.put, C.frozen, dSet, dSetIx, ownL, dMut, dRetV, dRet, dRetN, dExp, dNext, dPar, dPar3, iAny, iEnumD, iZipD, lstOf, dChain, dAug, dCall, passAll, passO, ownSlots, nodupB, writeAll, dFor, iRg1, iRg2, iLst, iTpl, iStrD, gSet, gTuple, gMore, gEnd, dAsg, dMth, isStr, mkFn, isNone, intOf, DL.cutD, dLc, plainAt, tYesD, dSl11, settable_zero, settable_succ, np_none, np_fz, np_ow, np_sc, List.getElem?_cons_zero, List.getElem?_cons_succ, List.getElem?_nil, List.set_cons_zero, List.set_cons_succ, List.length_cons, List.length_nil, List.map_cons, List.map_nil, List.replicate_succ, List.replicate_zero, List.cons_append, List.nil_append, List.append_nil, List.take_succ_cons, List.take_zero, List.contains_cons, List.contains_nil, Nat.reduceAdd, Nat.reduceLeDiff, Nat.reduceEqDiff, reduceIte, Nat.zero_add, Bool.and_true, Bool.true_and, Bool.not_false, Bool.false_eq_true, decide_true, decide_false, Bool.not_true, beq_self_eq_true, Bool.or_false, Bool.false_or, Nat.reduceBEq, i0, sl, lp]
end LW
set_option Elab.async false
set_option linter.all false
set_option maxRecDepth 8000
set_option maxHeartbeats 4000000
namespace LW
open DL PySem L2
/-! ### the law's own longest word with which all of some begin -/
theorem begin_all {w : List Nat} {r : List (List Nat)} {i : Nat} (h : ∀ v ∈ w :: r, i < v.length) (c : C) (m : Int) (hr : r.length < 16000000) (hc : c = .fz (.list ((w :: r).map S))) :
    dLcL [3] (gSet 3) tYesD e1_law_begin ((w :: r).map S) [] [some c, some (.fz (.int m)), some (.fz (.int (i : Int))), none] = some ((w :: r).map (fun v => .bool (decide (v[i]? = w[i]?))), [some c, some (.fz (.int m)), some (.fz (.int (i : Int))), none]) := by
  have := lcL_map (vs := [3]) (g := gSet 3) (t := tYesD) (f := e1_law_begin) (env := [some c, some (.fz (.int m)), some (.fz (.int (i : Int))), none]) S (fun v => .bool (decide (v[i]? = w[i]?))) (w :: r) [] (by simp; omega) (fun v hv => by
    have e1 : v[i]? = some (v[i]'(h v hv)) := by simp [h v hv]
    have e2 : w[i]? = some (w[i]'(h w (by simp))) := by simp [h w (by simp)]
    have i0 : semIx [.fz (.list (S w :: r.map S)), .fz (.int 0)] = some (.fz (S w)) := ixL (k := 0) rfl
    have q := semEq_S [v[i]'(h v hv)] [w[i]'(h w (by simp))]
    have qq : decide ([v[i]'(h v hv)] = [w[i]'(h w (by simp))]) = decide (v[i]? = w[i]?) := by rw [e1, e2]; simp
    rw [qq] at q
    subst hc
    exact ⟨_, by simp only [gSet, wipeE, dSeq, dIfS, dTst, dOp, dOs, dVal, dSlot, dC, dVar, dIf, dAnd, dOr, dNot, dAndV, dOrV, dNotV, dTup, dLst, seeAll, see, valDatas, C.data, C.put, C.frozen, dSet, settable, dSetIx, ownL, dMut, dRetV, dRet, dRetN, dExp, dNext, dPar, dPar3, iAny, iEnumD, iZipD, lstOf, dChain, dAug, dCall, passAll, passO, ownSlots, nodupB, writeAll, dFor, iRg1, iRg2, iLst, iTpl, iStrD, gSet, gTuple, gMore, gEnd, dAsg, dMth, isStr, mkFn, isNone, intOf, DL.cutD, dLc, plainAt, tYesD, dSl11, List.getElem?_cons_zero, List.getElem?_cons_succ, List.getElem?_nil, List.set_cons_zero, List.set_cons_succ, List.length_cons, List.length_nil, List.map_cons, List.map_nil, List.replicate_succ, List.replicate_zero, List.cons_append, List.nil_append, List.append_nil, List.take_succ_cons, List.take_zero, List.contains_cons, List.contains_nil, Nat.reduceAdd, Nat.reduceLeDiff, Nat.reduceEqDiff, reduceIte, Nat.zero_add, Bool.and_true, Bool.true_and, Bool.not_false, Bool.false_eq_true, decide_true, decide_false, Bool.not_true, beq_self_eq_true, Bool.or_false, Bool.false_or, Nat.reduceBEq]; rfl, _, _, _, by simp only [tYesD]; rfl, by simp only [e1_law_begin, dSeq, dIfS, dTst, dOp, dOs, dVal, dSlot, dC, dVar, dIf, dAnd, dOr, dNot, dAndV, dOrV, dNotV, dTup, dLst, seeAll, see, valDatas, C.data, C.put, C.frozen, dSet, settable, dSetIx, ownL, dMut, dRetV, dRet, dRetN, dExp, dNext, dPar, dPar3, iAny, iEnumD, iZipD, lstOf, dChain, dAug, dCall, passAll, passO, ownSlots, nodupB, writeAll, dFor, iRg1, iRg2, iLst, iTpl, iStrD, gSet, gTuple, gMore, gEnd, dAsg, dMth, isStr, mkFn, isNone, intOf, DL.cutD, dLc, plainAt, tYesD, dSl11, List.getElem?_cons_zero, List.getElem?_cons_succ, List.getElem?_nil, List.set_cons_zero, List.set_cons_succ, List.length_cons, List.length_nil, List.map_cons, List.map_nil, List.replicate_succ, List.replicate_zero, List.cons_append, List.nil_append, List.append_nil, List.take_succ_cons, List.take_zero, List.contains_cons, List.contains_nil, Nat.reduceAdd, Nat.reduceLeDiff, Nat.reduceEqDiff, reduceIte, Nat.zero_add, Bool.and_true, Bool.true_and, Bool.not_false, Bool.false_eq_true, decide_true, decide_false, Bool.not_true, beq_self_eq_true, Bool.or_false, Bool.false_or, Nat.reduceBEq, ixS e1, ixS e2, i0, q]; rfl, rfl, by simp only [backE, dSeq, dIfS, dTst, dOp, dOs, dVal, dSlot, dC, dVar, dIf, dAnd, dOr, dNot, dAndV, dOrV, dNotV, dTup, dLst, seeAll, see, valDatas, C.data, C.put, C.frozen, dSet, settable, dSetIx, ownL, dMut, dRetV, dRet, dRetN, dExp, dNext, dPar, dPar3, iAny, iEnumD, iZipD, lstOf, dChain, dAug, dCall, passAll, passO, ownSlots, nodupB, writeAll, dFor, iRg1, iRg2, iLst, iTpl, iStrD, gSet, gTuple, gMore, gEnd, dAsg, dMth, isStr, mkFn, isNone, intOf, DL.cutD, dLc, plainAt, tYesD, dSl11, List.getElem?_cons_zero, List.getElem?_cons_succ, List.getElem?_nil, List.set_cons_zero, List.set_cons_succ, List.length_cons, List.length_nil, List.map_cons, List.map_nil, List.replicate_succ, List.replicate_zero, List.cons_append, List.nil_append, List.append_nil, List.take_succ_cons, List.take_zero, List.contains_cons, List.contains_nil, Nat.reduceAdd, Nat.reduceLeDiff, Nat.reduceEqDiff, reduceIte, Nat.zero_add, Bool.and_true, Bool.true_and, Bool.not_false, Bool.false_eq_true, decide_true, decide_false, Bool.not_true, beq_self_eq_true, Bool.or_false, Bool.false_or, Nat.reduceBEq]⟩)
  rw [List.nil_append] at this
  exact this
theorem begin_loop {w : List Nat} {r : List (List Nat)} {m : Int} (hr : r.length < 16000000) (hm : ∃ v ∈ w :: r, m = (v.length : Int)) (hm2 : ∀ v ∈ w :: r, m ≤ (v.length : Int)) : ∀ (k i : Nat), i + k = (lcpL (w :: r)).length →
    dWhileN t1_law_begin u1_law_begin (k + 1) [some (.fz (.list ((w :: r).map S))), some (.fz (.int m)), some (.fz (.int (i : Int))), none] = some (.nx, [some (.fz (.list ((w :: r).map S))), some (.fz (.int m)), some (.fz (.int ((lcpL (w :: r)).length : Int))), none]) := by
  have P : ∀ v ∈ w :: r, lcpL (w :: r) <+: v := (lcpL_pre (by simp)).mp (List.prefix_refl _)
  have lt : ∀ i : Nat, semLt [.fz (.int (i : Int)), .fz (.int m)] = some (.fz (.bool (decide ((i : Int) < m)))) := fun i => by simp [semLt, C.data]
  have test : ∀ i : Nat, t1_law_begin [some (.fz (.list ((w :: r).map S))), some (.fz (.int m)), some (.fz (.int (i : Int))), none] = some (decide ((i : Int) < m) && (w :: r).all (fun v => decide (v[i]? = w[i]?)), [some (.fz (.list ((w :: r).map S))), some (.fz (.int m)), some (.fz (.int (i : Int))), none]) := fun i => by
    by_cases c : (i : Int) < m
    · have l1 := lt i
      rw [decide_eq_true c] at l1 ⊢
      have bl := begin_all (w := w) (r := r) (i := i) (fun v hv => by have := hm2 v hv; omega) _ m hr rfl
      have al := semAll_map (fun v : List Nat => decide (v[i]? = w[i]?)) (w :: r)
      simp only [List.map_cons, decide_true] at bl al ⊢
      simp only [t1_law_begin, dSeq, dIfS, dTst, dOp, dOs, dVal, dSlot, dC, dVar, dIf, dAnd, dOr, dNot, dAndV, dOrV, dNotV, dTup, dLst, seeAll, see, valDatas, C.data, C.put, C.frozen, dSet, settable, dSetIx, ownL, dMut, dRetV, dRet, dRetN, dExp, dNext, dPar, dPar3, iAny, iEnumD, iZipD, lstOf, dChain, dAug, dCall, passAll, passO, ownSlots, nodupB, writeAll, dFor, iRg1, iRg2, iLst, iTpl, iStrD, gSet, gTuple, gMore, gEnd, dAsg, dMth, isStr, mkFn, isNone, intOf, DL.cutD, dLc, plainAt, tYesD, dSl11, List.getElem?_cons_zero, List.getElem?_cons_succ, List.getElem?_nil, List.set_cons_zero, List.set_cons_succ, List.length_cons, List.length_nil, List.map_cons, List.map_nil, List.replicate_succ, List.replicate_zero, List.cons_append, List.nil_append, List.append_nil, List.take_succ_cons, List.take_zero, List.contains_cons, List.contains_nil, Nat.reduceAdd, Nat.reduceLeDiff, Nat.reduceEqDiff, reduceIte, Nat.zero_add, Bool.and_true, Bool.true_and, Bool.not_false, Bool.false_eq_true, decide_true, decide_false, Bool.not_true, beq_self_eq_true, Bool.or_false, Bool.false_or, Nat.reduceBEq, l1, bl, al]
    · have l1 := lt i
      rw [decide_eq_false c] at l1 ⊢
      simp only [t1_law_begin, dSeq, dIfS, dTst, dOp, dOs, dVal, dSlot, dC, dVar, dIf, dAnd, dOr, dNot, dAndV, dOrV, dNotV, dTup, dLst, seeAll, see, valDatas, C.data, C.put, C.frozen, dSet, settable, dSetIx, ownL, dMut, dRetV, dRet, dRetN, dExp, dNext, dPar, dPar3, iAny, iEnumD, iZipD, lstOf, dChain, dAug, dCall, passAll, passO, ownSlots, nodupB, writeAll, dFor, iRg1, iRg2, iLst, iTpl, iStrD, gSet, gTuple, gMore, gEnd, dAsg, dMth, isStr, mkFn, isNone, intOf, DL.cutD, dLc, plainAt, tYesD, dSl11, List.getElem?_cons_zero, List.getElem?_cons_succ, List.getElem?_nil, List.set_cons_zero, List.set_cons_succ, List.length_cons, List.length_nil, List.map_cons, List.map_nil, List.replicate_succ, List.replicate_zero, List.cons_append, List.nil_append, List.append_nil, List.take_succ_cons, List.take_zero, List.contains_cons, List.contains_nil, Nat.reduceAdd, Nat.reduceLeDiff, Nat.reduceEqDiff, reduceIte, Nat.zero_add, Bool.and_true, Bool.true_and, Bool.not_false, Bool.false_eq_true, decide_true, decide_false, Bool.not_true, beq_self_eq_true, Bool.or_false, Bool.false_or, Nat.reduceBEq, l1, Bool.false_and]
  intro k
  induction k with
  | zero =>
    intro i h
    have hi : i = (lcpL (w :: r)).length := by omega
    have no : (decide ((i : Int) < m) && (w :: r).all (fun v => decide (v[i]? = w[i]?))) = false := by
      rw [Bool.and_eq_false_iff]
      by_cases c : (i : Int) < m
      · right
        rw [Bool.eq_false_iff]
        intro al
        rw [List.all_eq_true] at al
        have wl : i < w.length := by have := hm2 w (by simp); omega
        have : w.take (i + 1) <+: lcpL (w :: r) := (lcpL_pre (by simp)).mpr fun v hv => pre_at.mpr fun k hk => by
          rw [List.length_take] at hk
          rw [List.getElem?_take_of_lt (by omega)]
          by_cases ck : k < i
          · have a := pre_at.mp (P v hv) k (by omega)
            have b := pre_at.mp (P w (by simp)) k (by omega)
            rw [a, b]
          · have : k = i := by omega
            subst this
            exact of_decide_eq_true (al v hv)
        have := this.length_le
        rw [List.length_take] at this
        omega
      · left
        exact decide_eq_false c
    rw [dWhileN, test, no]
    subst hi
    rfl
  | succ k ih =>
    intro i h
    have yes : (decide ((i : Int) < m) && (w :: r).all (fun v => decide (v[i]? = w[i]?))) = true := by
      rw [Bool.and_eq_true, decide_eq_true_eq, List.all_eq_true]
      constructor
      · obtain ⟨v, hv, rfl⟩ := hm
        have := (P v hv).length_le
        omega
      · intro v hv
        have a := pre_at.mp (P v hv) i (by omega)
        have b := pre_at.mp (P w (by simp)) i (by omega)
        rw [a, b]
        simp
    have body : u1_law_begin [some (.fz (.list ((w :: r).map S))), some (.fz (.int m)), some (.fz (.int (i : Int))), none] = some (.nx, [some (.fz (.list ((w :: r).map S))), some (.fz (.int m)), some (.fz (.int ((i + 1 : Nat) : Int))), none]) := by
      have a := semAdd_nat1 i
      simp only [u1_law_begin, dSeq, dIfS, dTst, dOp, dOs, dVal, dSlot, dC, dVar, dIf, dAnd, dOr, dNot, dAndV, dOrV, dNotV, dTup, dLst, seeAll, see, valDatas, C.data, C.put, C.frozen, dSet, dSetIx, ownL, dMut, dRetV, dRet, dRetN, dExp, dNext, dPar, dPar3, iAny, iEnumD, iZipD, lstOf, dChain, dAug, dCall, passAll, passO, ownSlots, nodupB, writeAll, dFor, iRg1, iRg2, iLst, iTpl, iStrD, gSet, gTuple, gMore, gEnd, dAsg, dMth, isStr, mkFn, isNone, intOf, DL.cutD, dLc, plainAt, tYesD, dSl11, settable_zero, settable_succ, np_none, np_fz, np_ow, np_sc, List.getElem?_cons_zero, List.getElem?_cons_succ, List.getElem?_nil, List.set_cons_zero, List.set_cons_succ, List.length_cons, List.length_nil, List.map_cons, List.map_nil, List.replicate_succ, List.replicate_zero, List.cons_append, List.nil_append, List.append_nil, List.take_succ_cons, List.take_zero, List.contains_cons, List.contains_nil, Nat.reduceAdd, Nat.reduceLeDiff, Nat.reduceEqDiff, reduceIte, Nat.zero_add, Bool.and_true, Bool.true_and, Bool.not_false, Bool.false_eq_true, decide_true, decide_false, Bool.not_true, beq_self_eq_true, Bool.or_false, Bool.false_or, Nat.reduceBEq, a]
    rw [dWhileN, test, yes]
    simp only [body]
    exact ih (i + 1) (by omega)
theorem begin_ok {ws : List (List Nat)} (hw : ws ≠ []) (hr : ws.length < 16000000) (c : C) (hc : c = .fz (.list (ws.map S)) ∨ c = .ow (.list (ws.map S))) : f_law_begin [c] = some (.fz (S (lcpL ws)), [some (.fz (.list (ws.map S)))]) := by
  cases ws with
  | nil => exact absurd rfl hw
  | cons w r =>
    have lens : ∀ env : Ev, env = [some (.fz (.list ((w :: r).map S))), none, none, none] → dLcL [3] (gSet 3) tYesD e2_law_begin ((w :: r).map S) [] env = some ((w :: r).map (fun v => .int (v.length : Int)), env) := fun env he => by
      have := lcL_map (vs := [3]) (g := gSet 3) (t := tYesD) (f := e2_law_begin) (env := env) S (fun v => .int (v.length : Int)) (w :: r) [] (by simp at hr ⊢; omega) (fun v hv => by
        subst he
        exact ⟨_, by simp only [gSet, wipeE, dSeq, dIfS, dTst, dOp, dOs, dVal, dSlot, dC, dVar, dIf, dAnd, dOr, dNot, dAndV, dOrV, dNotV, dTup, dLst, seeAll, see, valDatas, C.data, C.put, C.frozen, dSet, settable, dSetIx, ownL, dMut, dRetV, dRet, dRetN, dExp, dNext, dPar, dPar3, iAny, iEnumD, iZipD, lstOf, dChain, dAug, dCall, passAll, passO, ownSlots, nodupB, writeAll, dFor, iRg1, iRg2, iLst, iTpl, iStrD, gSet, gTuple, gMore, gEnd, dAsg, dMth, isStr, mkFn, isNone, intOf, DL.cutD, dLc, plainAt, tYesD, dSl11, List.getElem?_cons_zero, List.getElem?_cons_succ, List.getElem?_nil, List.set_cons_zero, List.set_cons_succ, List.length_cons, List.length_nil, List.map_cons, List.map_nil, List.replicate_succ, List.replicate_zero, List.cons_append, List.nil_append, List.append_nil, List.take_succ_cons, List.take_zero, List.contains_cons, List.contains_nil, Nat.reduceAdd, Nat.reduceLeDiff, Nat.reduceEqDiff, reduceIte, Nat.zero_add, Bool.and_true, Bool.true_and, Bool.not_false, Bool.false_eq_true, decide_true, decide_false, Bool.not_true, beq_self_eq_true, Bool.or_false, Bool.false_or, Nat.reduceBEq]; rfl, _, _, _, by simp only [tYesD]; rfl, by simp only [e2_law_begin, dSeq, dIfS, dTst, dOp, dOs, dVal, dSlot, dC, dVar, dIf, dAnd, dOr, dNot, dAndV, dOrV, dNotV, dTup, dLst, seeAll, see, valDatas, C.data, C.put, C.frozen, dSet, settable, dSetIx, ownL, dMut, dRetV, dRet, dRetN, dExp, dNext, dPar, dPar3, iAny, iEnumD, iZipD, lstOf, dChain, dAug, dCall, passAll, passO, ownSlots, nodupB, writeAll, dFor, iRg1, iRg2, iLst, iTpl, iStrD, gSet, gTuple, gMore, gEnd, dAsg, dMth, isStr, mkFn, isNone, intOf, DL.cutD, dLc, plainAt, tYesD, dSl11, List.getElem?_cons_zero, List.getElem?_cons_succ, List.getElem?_nil, List.set_cons_zero, List.set_cons_succ, List.length_cons, List.length_nil, List.map_cons, List.map_nil, List.replicate_succ, List.replicate_zero, List.cons_append, List.nil_append, List.append_nil, List.take_succ_cons, List.take_zero, List.contains_cons, List.contains_nil, Nat.reduceAdd, Nat.reduceLeDiff, Nat.reduceEqDiff, reduceIte, Nat.zero_add, Bool.and_true, Bool.true_and, Bool.not_false, Bool.false_eq_true, decide_true, decide_false, Bool.not_true, beq_self_eq_true, Bool.or_false, Bool.false_or, Nat.reduceBEq, semLen_S]; rfl, rfl, by simp only [backE, dSeq, dIfS, dTst, dOp, dOs, dVal, dSlot, dC, dVar, dIf, dAnd, dOr, dNot, dAndV, dOrV, dNotV, dTup, dLst, seeAll, see, valDatas, C.data, C.put, C.frozen, dSet, settable, dSetIx, ownL, dMut, dRetV, dRet, dRetN, dExp, dNext, dPar, dPar3, iAny, iEnumD, iZipD, lstOf, dChain, dAug, dCall, passAll, passO, ownSlots, nodupB, writeAll, dFor, iRg1, iRg2, iLst, iTpl, iStrD, gSet, gTuple, gMore, gEnd, dAsg, dMth, isStr, mkFn, isNone, intOf, DL.cutD, dLc, plainAt, tYesD, dSl11, List.getElem?_cons_zero, List.getElem?_cons_succ, List.getElem?_nil, List.set_cons_zero, List.set_cons_succ, List.length_cons, List.length_nil, List.map_cons, List.map_nil, List.replicate_succ, List.replicate_zero, List.cons_append, List.nil_append, List.append_nil, List.take_succ_cons, List.take_zero, List.contains_cons, List.contains_nil, Nat.reduceAdd, Nat.reduceLeDiff, Nat.reduceEqDiff, reduceIte, Nat.zero_add, Bool.and_true, Bool.true_and, Bool.not_false, Bool.false_eq_true, decide_true, decide_false, Bool.not_true, beq_self_eq_true, Bool.or_false, Bool.false_or, Nat.reduceBEq]⟩)
      rw [List.nil_append] at this
      exact this
    have l1 := lens _ rfl
    have mn := semMinL_map (fun v : List Nat => (v.length : Int)) (w :: r) (by simp)
    obtain ⟨q1, q2⟩ := leastI_mem (l := (w :: r).map (fun v : List Nat => (v.length : Int))) (by simp)
    have lp := dWhile_of (begin_loop (w := w) (r := r) (m := leastI ((w :: r).map (fun v : List Nat => (v.length : Int)))) (by simp at hr; omega) (by
      obtain ⟨v, hv, e⟩ := List.mem_map.mp q1
      exact ⟨v, hv, e.symm⟩) (fun v hv => q2 _ (List.mem_map.mpr ⟨v, hv, rfl⟩)) (lcpL (w :: r)).length 0 (by omega))
    have P : lcpL (w :: r) <+: w := (lcpL_pre (by simp)).mp (List.prefix_refl _) w (by simp)
    have tk : w.take (lcpL (w :: r)).length = lcpL (w :: r) := by
      obtain ⟨z, hz⟩ := P
      conv => lhs; arg 2; rw [← hz]
      exact List.take_left
    have sl := semSl01_S w (lcpL (w :: r)).length
    rw [tk] at sl
    generalize lcpL (w :: r) = L at *
    generalize leastI ((w :: r).map (fun v : List Nat => (v.length : Int))) = M at *
    have i0 : semIx [.fz (.list (S w :: r.map S)), .fz (.int 0)] = some (.fz (S w)) := ixL (k := 0) rfl
    simp only [List.map_cons, Int.natCast_zero] at l1 mn lp hc ⊢
    rcases hc with rfl | rfl
    · simp only [f_law_begin, b_law_begin, dSeq, dIfS, dTst, dOp, dOs, dVal, dSlot, dC, dVar, dIf, dAnd, dOr, dNot, dAndV, dOrV, dNotV, dTup, dLst, seeAll, see, valDatas, C.data, C.put, C.frozen, dSet, dSetIx, ownL, dMut, dRetV, dRet, dRetN, dExp, dNext, dPar, dPar3, iAny, iEnumD, iZipD, lstOf, dChain, dAug, dCall, passAll, passO, ownSlots, nodupB, writeAll, dFor, iRg1, iRg2, iLst, iTpl, iStrD, gSet, gTuple, gMore, gEnd, dAsg, dMth, isStr, mkFn, isNone, intOf, DL.cutD, dLc, plainAt, tYesD, dSl11, settable_zero, settable_succ, np_none, np_fz, np_ow, np_sc, List.getElem?_cons_zero, List.getElem?_cons_succ, List.getElem?_nil, List.set_cons_zero, List.set_cons_succ, List.length_cons, List.length_nil, List.map_cons, List.map_nil, List.replicate_succ, List.replicate_zero, List.cons_append, List.nil_append, List.append_nil, List.take_succ_cons, List.take_zero, List.contains_cons, List.contains_nil, Nat.reduceAdd, Nat.reduceLeDiff, Nat.reduceEqDiff, reduceIte, Nat.zero_add, Bool.and_true, Bool.true_and, Bool.not_false, Bool.false_eq_true, decide_true, decide_false, Bool.not_true, beq_self_eq_true, Bool.or_false, Bool.false_or, Nat.reduceBEq, l1, mn, lp, i0, sl]
    · simp only [f_law_begin, b_law_begin, dSeq, dIfS, dTst, dOp, dOs, dVal, dSlot, dC, dVar, dIf, dAnd, dOr, dNot, dAndV, dOrV, dNotV, dTup, dLst, seeAll, see, valDatas, C.data, C.put, C.frozen, dSet, dSetIx, ownL, dMut, dRetV, dRet, dRetN, dExp, dNext, dPar, dPar3, iAny, iEnumD, iZipD, lstOf, dChain, dAug, dCall, passAll, passO, ownSlots, nodupB, writeAll, dFor, iRg1, iRg2, iLst, iTpl, iStrD, gSet, gTuple, gMore, gEnd, dAsg, dMth, isStr, mkFn, isNone, intOf, DL.cutD, dLc, plainAt, tYesD, dSl11, settable_zero, settable_succ, np_none, np_fz, np_ow, np_sc, List.getElem?_cons_zero, List.getElem?_cons_succ, List.getElem?_nil, List.set_cons_zero, List.set_cons_succ, List.length_cons, List.length_nil, List.map_cons, List.map_nil, List.replicate_succ, List.replicate_zero, List.cons_append, List.nil_append, List.append_nil, List.take_succ_cons, List.take_zero, List.contains_cons, List.contains_nil, Nat.reduceAdd, Nat.reduceLeDiff, Nat.reduceEqDiff, reduceIte, Nat.zero_add, Bool.and_true, Bool.true_and, Bool.not_false, Bool.false_eq_true, decide_true, decide_false, Bool.not_true, beq_self_eq_true, Bool.or_false, Bool.false_or, Nat.reduceBEq, l1, mn, lp, i0, sl]
end LW
set_option Elab.async false
set_option linter.all false
set_option maxRecDepth 8000
set_option maxHeartbeats 4000000
namespace LW
open DL PySem L2
/-! ### the law's own pair of some words -/
theorem sl10_L (ds : List PyData) (k : Nat) (c : C) (hc : c.data = some (.list ds)) : semSl10 [c, .fz (.int (k : Int))] = some (.ow (.list (ds.drop k))) := by
  show cutD c (some (k : Int)) none = _
  unfold cutD
  rw [hc]
  simp only [cut_from]
theorem lt_nil (w : List Nat) (h : w ≠ []) : [] < w := by
  cases w with
  | nil => exact absurd rfl h
  | cons x r => exact List.nil_lt_cons x r
theorem due_ok {ws : List (List Nat)} (hn : ws ≠ []) (hl : ws.length < 3900) {M : Nat} (hM : M ≤ 4000) (hw : ∀ w ∈ ws, w.length ≤ M) (c : C) (hc : c = .fz (.list (ws.map S)) ∨ c = .ow (.list (ws.map S))) :
    ∃ p o, f_law_due [c] = some (.fz (dp p), [o]) ∧ SP p ws ∧ szP p ≤ 4 * M := by
  have bg := begin_ok hn (by omega) (.fz (.list (ws.map S))) (.inl rfl)
  have P := (lcpL_pre hn (x := lcpL ws)).mp (List.prefix_refl _)
  generalize hh : lcpL ws = h at bg P
  have cut : ∀ a ∈ ws, a = h ++ a.drop h.length := fun a ha => by
    obtain ⟨r, rfl⟩ := P a ha
    rw [List.drop_left]
  have tails := lcL_map (vs := [6]) (g := gSet 6) (t := tYesD) (f := e3_law_due) (env := [some (.fz (.list (ws.map S))), some (.fz (S h)), none, none, none, none, none]) S (fun v => S (v.drop h.length)) ws [] (by simp; omega) (fun v hv => by
    have sl := semSl10_S v h.length
    exact ⟨_, by (simp only [gSet, wipeE, dSeq, dIfS, dTst, dOp, dOs, dVal, dSlot, dC, dVar, dIf, dAnd, dOr, dNot, dAndV, dOrV, dNotV, dTup, dLst, seeAll, see, valDatas, C.data, C.put, C.frozen, dSet, settable, dSetIx, ownL, dMut, dRetV, dRet, dRetN, dExp, dNext, dPar, dPar3, iAny, iEnumD, iZipD, lstOf, dChain, dAug, dCall, passAll, passO, ownSlots, nodupB, writeAll, dFor, iRg1, iRg2, iLst, iTpl, iStrD, gSet, gTuple, gMore, gEnd, dAsg, dMth, isStr, mkFn, isNone, intOf, DL.cutD, dLc, plainAt, tYesD, dSl11, List.getElem?_cons_zero, List.getElem?_cons_succ, List.getElem?_nil, List.set_cons_zero, List.set_cons_succ, List.length_cons, List.length_nil, List.map_cons, List.map_nil, List.replicate_succ, List.replicate_zero, List.cons_append, List.nil_append, List.append_nil, List.take_succ_cons, List.take_zero, List.contains_cons, List.contains_nil, Nat.reduceAdd, Nat.reduceLeDiff, Nat.reduceEqDiff, reduceIte, Nat.zero_add, Bool.and_true, Bool.true_and, Bool.not_false, Bool.false_eq_true, decide_true, decide_false, Bool.not_true, beq_self_eq_true, Bool.or_false, Bool.false_or, Nat.reduceBEq]) <;> rfl, _, _, _, by (simp only [tYesD]) <;> rfl, by (simp only [e3_law_due, dSeq, dIfS, dTst, dOp, dOs, dVal, dSlot, dC, dVar, dIf, dAnd, dOr, dNot, dAndV, dOrV, dNotV, dTup, dLst, seeAll, see, valDatas, C.data, C.put, C.frozen, dSet, settable, dSetIx, ownL, dMut, dRetV, dRet, dRetN, dExp, dNext, dPar, dPar3, iAny, iEnumD, iZipD, lstOf, dChain, dAug, dCall, passAll, passO, ownSlots, nodupB, writeAll, dFor, iRg1, iRg2, iLst, iTpl, iStrD, gSet, gTuple, gMore, gEnd, dAsg, dMth, isStr, mkFn, isNone, intOf, DL.cutD, dLc, plainAt, tYesD, dSl11, List.getElem?_cons_zero, List.getElem?_cons_succ, List.getElem?_nil, List.set_cons_zero, List.set_cons_succ, List.length_cons, List.length_nil, List.map_cons, List.map_nil, List.replicate_succ, List.replicate_zero, List.cons_append, List.nil_append, List.append_nil, List.take_succ_cons, List.take_zero, List.contains_cons, List.contains_nil, Nat.reduceAdd, Nat.reduceLeDiff, Nat.reduceEqDiff, reduceIte, Nat.zero_add, Bool.and_true, Bool.true_and, Bool.not_false, Bool.false_eq_true, decide_true, decide_false, Bool.not_true, beq_self_eq_true, Bool.or_false, Bool.false_or, Nat.reduceBEq, semLen_S, sl]) <;> rfl, rfl, by (simp only [backE, dSeq, dIfS, dTst, dOp, dOs, dVal, dSlot, dC, dVar, dIf, dAnd, dOr, dNot, dAndV, dOrV, dNotV, dTup, dLst, seeAll, see, valDatas, C.data, C.put, C.frozen, dSet, settable, dSetIx, ownL, dMut, dRetV, dRet, dRetN, dExp, dNext, dPar, dPar3, iAny, iEnumD, iZipD, lstOf, dChain, dAug, dCall, passAll, passO, ownSlots, nodupB, writeAll, dFor, iRg1, iRg2, iLst, iTpl, iStrD, gSet, gTuple, gMore, gEnd, dAsg, dMth, isStr, mkFn, isNone, intOf, DL.cutD, dLc, plainAt, tYesD, dSl11, List.getElem?_cons_zero, List.getElem?_cons_succ, List.getElem?_nil, List.set_cons_zero, List.set_cons_succ, List.length_cons, List.length_nil, List.map_cons, List.map_nil, List.replicate_succ, List.replicate_zero, List.cons_append, List.nil_append, List.append_nil, List.take_succ_cons, List.take_zero, List.contains_cons, List.contains_nil, Nat.reduceAdd, Nat.reduceLeDiff, Nat.reduceEqDiff, reduceIte, Nat.zero_add, Bool.and_true, Bool.true_and, Bool.not_false, Bool.false_eq_true, decide_true, decide_false, Bool.not_true, beq_self_eq_true, Bool.or_false, Bool.false_or, Nat.reduceBEq]) <;> rfl⟩)
  rw [List.nil_append] at tails
  have so := sortSet_ok (ws.map fun v => v.drop h.length) (by simpa using Nat.lt_of_lt_of_le hl (by decide))
  rw [List.map_map] at so
  have so' : semSortSet [.ow (.list (ws.map fun v => S (v.drop h.length)))] = some (.ow (.list ((upW (ws.map fun v => v.drop h.length)).map S))) := so
  have tm : ∀ t, t ∈ upW (ws.map fun v => v.drop h.length) ↔ h ++ t ∈ ws := fun t => by
    rw [upW_mem, List.mem_map]
    constructor
    · rintro ⟨a, ha, rfl⟩
      rw [← cut a ha]
      exact ha
    · intro q
      exact ⟨_, q, List.drop_left⟩
  have nd := upW_nodup (ws.map fun v => v.drop h.length)
  have up := upW_up (ws.map fun v => v.drop h.length)
  have ul := upW_len (ws.map fun v => v.drop h.length)
  rw [List.length_map] at ul
  generalize upW (ws.map fun v => v.drop h.length) = T at so' tm nd up ul
  have tlen : ∀ t ∈ T, t.length ≤ M := fun t ht => by
    have := hw _ ((tm t).mp ht)
    rw [List.length_append] at this
    omega
  clear so
  -- how many there are
  have len : semLen [.ow (.list (T.map S))] = some (.fz (.int (T.length : Int))) := by
    show some (C.fz (.int ((T.map S).length : Int))) = _
    rw [List.length_map]
  cases T with
  | nil =>
    obtain ⟨a, ha⟩ := List.exists_mem_of_ne_nil ws hn
    have := (tm (a.drop h.length)).mpr (by rw [← cut a ha]; exact ha)
    simp at this
  | cons t0 N =>
    have e1 := semEq_nat (t0 :: N).length 1
    by_cases one : N = []
    · subst one
      have sp : SP (h, .all) ws := due_all hn hh fun a ha b hb => by
        have x := (tm (a.drop h.length)).mpr (by rw [← cut a ha]; exact ha)
        have y := (tm (b.drop h.length)).mpr (by rw [← cut b hb]; exact hb)
        rw [List.mem_singleton] at x y
        rw [cut a ha, cut b hb, x, y]
      refine ⟨(h, .all), some (.fz (.list (ws.map S))), ?_, sp, sp.sz hw⟩
      simp only [List.length_cons, List.length_nil, Nat.zero_add, decide_true, Int.natCast_one] at e1 len
      rcases hc with rfl | rfl
      · (simp only [f_law_due, b_law_due, dp, kd_all, kd_word, kd_round, tx_all, tx_word, tx_round, dSeq, dIfS, dTst, dOp, dOs, dVal, dSlot, dC, dVar, dIf, dAnd, dOr, dNot, dAndV, dOrV, dNotV, dTup, dLst, seeAll, see, valDatas, C.data, C.put, C.frozen, dSet, dSetIx, ownL, dMut, dRetV, dRet, dRetN, dExp, dNext, dPar, dPar3, iAny, iEnumD, iZipD, lstOf, dChain, dAug, dCall, passAll, passO, ownSlots, nodupB, writeAll, dFor, iRg1, iRg2, iLst, iTpl, iStrD, gSet, gTuple, gMore, gEnd, dAsg, dMth, isStr, mkFn, isNone, intOf, DL.cutD, dLc, plainAt, tYesD, dSl11, settable_zero, settable_succ, np_none, np_fz, np_ow, np_sc, List.getElem?_cons_zero, List.getElem?_cons_succ, List.getElem?_nil, List.set_cons_zero, List.set_cons_succ, List.length_cons, List.length_nil, List.map_cons, List.map_nil, List.replicate_succ, List.replicate_zero, List.cons_append, List.nil_append, List.append_nil, List.take_succ_cons, List.take_zero, List.contains_cons, List.contains_nil, Nat.reduceAdd, Nat.reduceLeDiff, Nat.reduceEqDiff, reduceIte, Nat.zero_add, Bool.and_true, Bool.true_and, Bool.not_false, Bool.false_eq_true, decide_true, decide_false, Bool.not_true, beq_self_eq_true, Bool.or_false, Bool.false_or, Nat.reduceBEq, bg, tails, so', len, e1]) <;> rfl
      · (simp only [f_law_due, b_law_due, dp, kd_all, kd_word, kd_round, tx_all, tx_word, tx_round, dSeq, dIfS, dTst, dOp, dOs, dVal, dSlot, dC, dVar, dIf, dAnd, dOr, dNot, dAndV, dOrV, dNotV, dTup, dLst, seeAll, see, valDatas, C.data, C.put, C.frozen, dSet, dSetIx, ownL, dMut, dRetV, dRet, dRetN, dExp, dNext, dPar, dPar3, iAny, iEnumD, iZipD, lstOf, dChain, dAug, dCall, passAll, passO, ownSlots, nodupB, writeAll, dFor, iRg1, iRg2, iLst, iTpl, iStrD, gSet, gTuple, gMore, gEnd, dAsg, dMth, isStr, mkFn, isNone, intOf, DL.cutD, dLc, plainAt, tYesD, dSl11, settable_zero, settable_succ, np_none, np_fz, np_ow, np_sc, List.getElem?_cons_zero, List.getElem?_cons_succ, List.getElem?_nil, List.set_cons_zero, List.set_cons_succ, List.length_cons, List.length_nil, List.map_cons, List.map_nil, List.replicate_succ, List.replicate_zero, List.cons_append, List.nil_append, List.append_nil, List.take_succ_cons, List.take_zero, List.contains_cons, List.contains_nil, Nat.reduceAdd, Nat.reduceLeDiff, Nat.reduceEqDiff, reduceIte, Nat.zero_add, Bool.and_true, Bool.true_and, Bool.not_false, Bool.false_eq_true, decide_true, decide_false, Bool.not_true, beq_self_eq_true, Bool.or_false, Bool.false_or, Nat.reduceBEq, bg, tails, so', len, e1]) <;> rfl
    · have n1 : (t0 :: N).length ≠ 1 := by
        rw [List.length_cons]
        have : N.length ≠ 0 := fun z => one (List.eq_nil_of_length_eq_zero z)
        omega
      rw [decide_eq_false n1] at e1
      have i0 : semIx [.ow (.list (S t0 :: N.map S)), .fz (.int 0)] = some (.fz (S t0)) := ixO (k := 0) rfl
      have ne := semNe_S t0 []
      simp only [Int.natCast_one] at e1
      obtain ⟨nd1, nd2⟩ := List.nodup_cons.mp nd
      obtain ⟨up1, up2⟩ := List.pairwise_cons.mp up
      by_cases z0 : t0 = []
      · subst z0
        rw [decide_eq_true rfl] at ne
        have N0 : ∀ t ∈ N, t ≠ [] := fun t ht z => nd1 (z ▸ ht)
        have NM : ∀ t ∈ N, t ≠ [] ∧ h ++ t ∈ ws := fun t ht => ⟨N0 t ht, (tm t).mp (List.mem_cons_of_mem _ ht)⟩
        have hin : h ∈ ws := by
          have := (tm []).mp (by simp)
          rwa [List.append_nil] at this
        have hall : ∀ a ∈ ws, a = h ∨ ∃ t ∈ N, a = h ++ t := fun a ha => by
          have x := (tm (a.drop h.length)).mpr (by rw [← cut a ha]; exact ha)
          rcases List.mem_cons.mp x with x | x
          · left
            have y := cut a ha
            rw [x, List.append_nil] at y
            exact y
          · exact .inr ⟨_, x, cut a ha⟩
        -- the longest tail
        have lens := lcL_map (vs := [5]) (g := gSet 5) (t := tYesD) (f := e2_law_due) (env := [some (.fz (.list (ws.map S))), some (.fz (S h)), some (.fz (.list (([] :: N).map S))), none, none, none, none]) S (fun v => .int (v.length : Int)) ([] :: N) [] (by simp at ul ⊢; omega) (fun v hv => by
          exact ⟨_, by (simp only [gSet, wipeE, dSeq, dIfS, dTst, dOp, dOs, dVal, dSlot, dC, dVar, dIf, dAnd, dOr, dNot, dAndV, dOrV, dNotV, dTup, dLst, seeAll, see, valDatas, C.data, C.put, C.frozen, dSet, settable, dSetIx, ownL, dMut, dRetV, dRet, dRetN, dExp, dNext, dPar, dPar3, iAny, iEnumD, iZipD, lstOf, dChain, dAug, dCall, passAll, passO, ownSlots, nodupB, writeAll, dFor, iRg1, iRg2, iLst, iTpl, iStrD, gSet, gTuple, gMore, gEnd, dAsg, dMth, isStr, mkFn, isNone, intOf, DL.cutD, dLc, plainAt, tYesD, dSl11, List.getElem?_cons_zero, List.getElem?_cons_succ, List.getElem?_nil, List.set_cons_zero, List.set_cons_succ, List.length_cons, List.length_nil, List.map_cons, List.map_nil, List.replicate_succ, List.replicate_zero, List.cons_append, List.nil_append, List.append_nil, List.take_succ_cons, List.take_zero, List.contains_cons, List.contains_nil, Nat.reduceAdd, Nat.reduceLeDiff, Nat.reduceEqDiff, reduceIte, Nat.zero_add, Bool.and_true, Bool.true_and, Bool.not_false, Bool.false_eq_true, decide_true, decide_false, Bool.not_true, beq_self_eq_true, Bool.or_false, Bool.false_or, Nat.reduceBEq]) <;> rfl, _, _, _, by (simp only [tYesD]) <;> rfl, by (simp only [e2_law_due, dSeq, dIfS, dTst, dOp, dOs, dVal, dSlot, dC, dVar, dIf, dAnd, dOr, dNot, dAndV, dOrV, dNotV, dTup, dLst, seeAll, see, valDatas, C.data, C.put, C.frozen, dSet, settable, dSetIx, ownL, dMut, dRetV, dRet, dRetN, dExp, dNext, dPar, dPar3, iAny, iEnumD, iZipD, lstOf, dChain, dAug, dCall, passAll, passO, ownSlots, nodupB, writeAll, dFor, iRg1, iRg2, iLst, iTpl, iStrD, gSet, gTuple, gMore, gEnd, dAsg, dMth, isStr, mkFn, isNone, intOf, DL.cutD, dLc, plainAt, tYesD, dSl11, List.getElem?_cons_zero, List.getElem?_cons_succ, List.getElem?_nil, List.set_cons_zero, List.set_cons_succ, List.length_cons, List.length_nil, List.map_cons, List.map_nil, List.replicate_succ, List.replicate_zero, List.cons_append, List.nil_append, List.append_nil, List.take_succ_cons, List.take_zero, List.contains_cons, List.contains_nil, Nat.reduceAdd, Nat.reduceLeDiff, Nat.reduceEqDiff, reduceIte, Nat.zero_add, Bool.and_true, Bool.true_and, Bool.not_false, Bool.false_eq_true, decide_true, decide_false, Bool.not_true, beq_self_eq_true, Bool.or_false, Bool.false_or, Nat.reduceBEq, semLen_S]) <;> rfl, rfl, by (simp only [backE, dSeq, dIfS, dTst, dOp, dOs, dVal, dSlot, dC, dVar, dIf, dAnd, dOr, dNot, dAndV, dOrV, dNotV, dTup, dLst, seeAll, see, valDatas, C.data, C.put, C.frozen, dSet, settable, dSetIx, ownL, dMut, dRetV, dRet, dRetN, dExp, dNext, dPar, dPar3, iAny, iEnumD, iZipD, lstOf, dChain, dAug, dCall, passAll, passO, ownSlots, nodupB, writeAll, dFor, iRg1, iRg2, iLst, iTpl, iStrD, gSet, gTuple, gMore, gEnd, dAsg, dMth, isStr, mkFn, isNone, intOf, DL.cutD, dLc, plainAt, tYesD, dSl11, List.getElem?_cons_zero, List.getElem?_cons_succ, List.getElem?_nil, List.set_cons_zero, List.set_cons_succ, List.length_cons, List.length_nil, List.map_cons, List.map_nil, List.replicate_succ, List.replicate_zero, List.cons_append, List.nil_append, List.append_nil, List.take_succ_cons, List.take_zero, List.contains_cons, List.contains_nil, Nat.reduceAdd, Nat.reduceLeDiff, Nat.reduceEqDiff, reduceIte, Nat.zero_add, Bool.and_true, Bool.true_and, Bool.not_false, Bool.false_eq_true, decide_true, decide_false, Bool.not_true, beq_self_eq_true, Bool.or_false, Bool.false_or, Nat.reduceBEq]) <;> rfl⟩)
        rw [List.nil_append] at lens
        have mx := semMaxL_map (fun v : List Nat => (v.length : Int)) ([] :: N) (by simp)
        obtain ⟨q1, q2⟩ := mostI_mem (l := ([] :: N).map (fun v : List Nat => (v.length : Int))) (by simp)
        obtain ⟨m, hm, hmM⟩ : ∃ m : Nat, mostI (([] :: N).map (fun v : List Nat => (v.length : Int))) = (m : Int) ∧ m ≤ M := by
          obtain ⟨v, hv, e⟩ := List.mem_map.mp q1
          exact ⟨v.length, e.symm, tlen v hv⟩
        rw [hm] at mx q2
        have tm2 : ∀ t ∈ N, t.length ≤ m := fun t ht => by
          have := q2 _ (List.mem_map.mpr ⟨t, List.mem_cons_of_mem _ ht, rfl⟩)
          omega
        have ml := semMul_nat 2 m (by decide)
        simp only [Int.cast_ofNat_Int] at ml
        have sl := sl10_L (([] :: N).map S) 1 (.fz (.list (([] :: N).map S))) rfl
        have spl := lcL_map (vs := [5]) (g := gSet 5) (t := tYesD) (f := e1_law_due) (env := [some (.fz (.list (ws.map S))), some (.fz (S h)), some (.fz (.list (([] :: N).map S))), some (.fz (.int ((2 * m : Nat) : Int))), none, none, none]) S (fun v => S (endless v (2 * m))) N [] (by simp at ul ⊢; omega) (fun v hv => by
          have v0 := List.length_pos_iff.mpr (N0 v hv)
          have vm := tm2 v hv
          have dv := semDiv_nat (2 * m) v.length v0 (by omega)
          have ad := semAdd_nat1 (2 * m / v.length)
          have dl := Nat.div_le_self (2 * m) v.length
          have db := Nat.mul_div_le (2 * m) v.length
          have mr := semMul_r v (2 * m / v.length + 1) (by omega) (by rw [Nat.mul_succ]; omega)
          have tk := semSl01_S (reps (2 * m / v.length + 1) v) (2 * m)
          exact ⟨_, by (simp only [gSet, wipeE, dSeq, dIfS, dTst, dOp, dOs, dVal, dSlot, dC, dVar, dIf, dAnd, dOr, dNot, dAndV, dOrV, dNotV, dTup, dLst, seeAll, see, valDatas, C.data, C.put, C.frozen, dSet, settable, dSetIx, ownL, dMut, dRetV, dRet, dRetN, dExp, dNext, dPar, dPar3, iAny, iEnumD, iZipD, lstOf, dChain, dAug, dCall, passAll, passO, ownSlots, nodupB, writeAll, dFor, iRg1, iRg2, iLst, iTpl, iStrD, gSet, gTuple, gMore, gEnd, dAsg, dMth, isStr, mkFn, isNone, intOf, DL.cutD, dLc, plainAt, tYesD, dSl11, List.getElem?_cons_zero, List.getElem?_cons_succ, List.getElem?_nil, List.set_cons_zero, List.set_cons_succ, List.length_cons, List.length_nil, List.map_cons, List.map_nil, List.replicate_succ, List.replicate_zero, List.cons_append, List.nil_append, List.append_nil, List.take_succ_cons, List.take_zero, List.contains_cons, List.contains_nil, Nat.reduceAdd, Nat.reduceLeDiff, Nat.reduceEqDiff, reduceIte, Nat.zero_add, Bool.and_true, Bool.true_and, Bool.not_false, Bool.false_eq_true, decide_true, decide_false, Bool.not_true, beq_self_eq_true, Bool.or_false, Bool.false_or, Nat.reduceBEq]) <;> rfl, _, _, _, by (simp only [tYesD]) <;> rfl, by (simp only [e1_law_due, dSeq, dIfS, dTst, dOp, dOs, dVal, dSlot, dC, dVar, dIf, dAnd, dOr, dNot, dAndV, dOrV, dNotV, dTup, dLst, seeAll, see, valDatas, C.data, C.put, C.frozen, dSet, settable, dSetIx, ownL, dMut, dRetV, dRet, dRetN, dExp, dNext, dPar, dPar3, iAny, iEnumD, iZipD, lstOf, dChain, dAug, dCall, passAll, passO, ownSlots, nodupB, writeAll, dFor, iRg1, iRg2, iLst, iTpl, iStrD, gSet, gTuple, gMore, gEnd, dAsg, dMth, isStr, mkFn, isNone, intOf, DL.cutD, dLc, plainAt, tYesD, dSl11, List.getElem?_cons_zero, List.getElem?_cons_succ, List.getElem?_nil, List.set_cons_zero, List.set_cons_succ, List.length_cons, List.length_nil, List.map_cons, List.map_nil, List.replicate_succ, List.replicate_zero, List.cons_append, List.nil_append, List.append_nil, List.take_succ_cons, List.take_zero, List.contains_cons, List.contains_nil, Nat.reduceAdd, Nat.reduceLeDiff, Nat.reduceEqDiff, reduceIte, Nat.zero_add, Bool.and_true, Bool.true_and, Bool.not_false, Bool.false_eq_true, decide_true, decide_false, Bool.not_true, beq_self_eq_true, Bool.or_false, Bool.false_or, Nat.reduceBEq, semLen_S, dv, ad, mr, tk]) <;> rfl, rfl, by (simp only [backE, dSeq, dIfS, dTst, dOp, dOs, dVal, dSlot, dC, dVar, dIf, dAnd, dOr, dNot, dAndV, dOrV, dNotV, dTup, dLst, seeAll, see, valDatas, C.data, C.put, C.frozen, dSet, settable, dSetIx, ownL, dMut, dRetV, dRet, dRetN, dExp, dNext, dPar, dPar3, iAny, iEnumD, iZipD, lstOf, dChain, dAug, dCall, passAll, passO, ownSlots, nodupB, writeAll, dFor, iRg1, iRg2, iLst, iTpl, iStrD, gSet, gTuple, gMore, gEnd, dAsg, dMth, isStr, mkFn, isNone, intOf, DL.cutD, dLc, plainAt, tYesD, dSl11, List.getElem?_cons_zero, List.getElem?_cons_succ, List.getElem?_nil, List.set_cons_zero, List.set_cons_succ, List.length_cons, List.length_nil, List.map_cons, List.map_nil, List.replicate_succ, List.replicate_zero, List.cons_append, List.nil_append, List.append_nil, List.take_succ_cons, List.take_zero, List.contains_cons, List.contains_nil, Nat.reduceAdd, Nat.reduceLeDiff, Nat.reduceEqDiff, reduceIte, Nat.zero_add, Bool.and_true, Bool.true_and, Bool.not_false, Bool.false_eq_true, decide_true, decide_false, Bool.not_true, beq_self_eq_true, Bool.or_false, Bool.false_or, Nat.reduceBEq]) <;> rfl⟩)
        rw [List.nil_append] at spl
        have bs := begin_ok (ws := spell N (2 * m)) (by simp [spell, one]) (by simp [spell] at ul ⊢; omega) (.ow (.list ((spell N (2 * m)).map S))) (.inr rfl)
        have bs' : f_law_begin [.ow (.list (N.map fun v => S (endless v (2 * m))))] = some (.fz (S (lcpL (spell N (2 * m)))), [some (.fz (.list ((spell N (2 * m)).map S)))]) := by
          rw [← bs]
          unfold spell
          rw [List.map_map]
          rfl
        have eq := semEq_nat (lcpL (spell N (2 * m))).length (2 * m)
        simp only [List.map_cons, List.length_cons, List.length_nil, Int.natCast_one, List.drop_succ_cons, List.drop_zero] at lens mx sl spl so' len e1
        by_cases full : (lcpL (spell N (2 * m))).length = 2 * m
        · rw [decide_eq_true full] at eq
          obtain ⟨t1, N1, hN⟩ := List.exists_cons_of_ne_nil one
          have t1N : t1 ∈ N := by rw [hN]; simp
          have i1 : semIx [.fz (.list (S [] :: N.map S)), .fz (.int 1)] = some (.fz (S t1)) := ixL (k := 1) (by rw [hN]; rfl)
          have t10 := N0 t1 t1N
          obtain ⟨r, R⟩ := IsRl.ex t10
          have rd := round_ok R t10 (by have := tm2 t1 t1N; omega)
          rw [← lr_of t10 R] at rd
          have sp : SP (h, .round (lr t1)) ws := due_echo hin NM hall (lr_can t10) (spell_round N0 (fun t ht => by have := tm2 t ht; omega) full t1N)
          refine ⟨(h, .round (lr t1)), some (.fz (.list (ws.map S))), ?_, sp, sp.sz hw⟩
          rcases hc with rfl | rfl
          · (simp only [f_law_due, b_law_due, dp, kd_all, kd_word, kd_round, tx_all, tx_word, tx_round, dSeq, dIfS, dTst, dOp, dOs, dVal, dSlot, dC, dVar, dIf, dAnd, dOr, dNot, dAndV, dOrV, dNotV, dTup, dLst, seeAll, see, valDatas, C.data, C.put, C.frozen, dSet, dSetIx, ownL, dMut, dRetV, dRet, dRetN, dExp, dNext, dPar, dPar3, iAny, iEnumD, iZipD, lstOf, dChain, dAug, dCall, passAll, passO, ownSlots, nodupB, writeAll, dFor, iRg1, iRg2, iLst, iTpl, iStrD, gSet, gTuple, gMore, gEnd, dAsg, dMth, isStr, mkFn, isNone, intOf, DL.cutD, dLc, plainAt, tYesD, dSl11, settable_zero, settable_succ, np_none, np_fz, np_ow, np_sc, List.getElem?_cons_zero, List.getElem?_cons_succ, List.getElem?_nil, List.set_cons_zero, List.set_cons_succ, List.length_cons, List.length_nil, List.map_cons, List.map_nil, List.replicate_succ, List.replicate_zero, List.cons_append, List.nil_append, List.append_nil, List.take_succ_cons, List.take_zero, List.contains_cons, List.contains_nil, Nat.reduceAdd, Nat.reduceLeDiff, Nat.reduceEqDiff, reduceIte, Nat.zero_add, Bool.and_true, Bool.true_and, Bool.not_false, Bool.false_eq_true, decide_true, decide_false, Bool.not_true, beq_self_eq_true, Bool.or_false, Bool.false_or, Nat.reduceBEq, bg, tails, so', len, e1, i0, ne, lens, mx, ml, sl, spl, bs', semLen_S, eq, i1, rd]) <;> rfl
          · (simp only [f_law_due, b_law_due, dp, kd_all, kd_word, kd_round, tx_all, tx_word, tx_round, dSeq, dIfS, dTst, dOp, dOs, dVal, dSlot, dC, dVar, dIf, dAnd, dOr, dNot, dAndV, dOrV, dNotV, dTup, dLst, seeAll, see, valDatas, C.data, C.put, C.frozen, dSet, dSetIx, ownL, dMut, dRetV, dRet, dRetN, dExp, dNext, dPar, dPar3, iAny, iEnumD, iZipD, lstOf, dChain, dAug, dCall, passAll, passO, ownSlots, nodupB, writeAll, dFor, iRg1, iRg2, iLst, iTpl, iStrD, gSet, gTuple, gMore, gEnd, dAsg, dMth, isStr, mkFn, isNone, intOf, DL.cutD, dLc, plainAt, tYesD, dSl11, settable_zero, settable_succ, np_none, np_fz, np_ow, np_sc, List.getElem?_cons_zero, List.getElem?_cons_succ, List.getElem?_nil, List.set_cons_zero, List.set_cons_succ, List.length_cons, List.length_nil, List.map_cons, List.map_nil, List.replicate_succ, List.replicate_zero, List.cons_append, List.nil_append, List.append_nil, List.take_succ_cons, List.take_zero, List.contains_cons, List.contains_nil, Nat.reduceAdd, Nat.reduceLeDiff, Nat.reduceEqDiff, reduceIte, Nat.zero_add, Bool.and_true, Bool.true_and, Bool.not_false, Bool.false_eq_true, decide_true, decide_false, Bool.not_true, beq_self_eq_true, Bool.or_false, Bool.false_or, Nat.reduceBEq, bg, tails, so', len, e1, i0, ne, lens, mx, ml, sl, spl, bs', semLen_S, eq, i1, rd]) <;> rfl
        · rw [decide_eq_false full] at eq
          have sp : SP (h, .word (lcpL (spell N (2 * m)))) ws := due_echo hin NM hall trivial (spell_word one N0 full)
          refine ⟨(h, .word (lcpL (spell N (2 * m)))), some (.fz (.list (ws.map S))), ?_, sp, sp.sz hw⟩
          rcases hc with rfl | rfl
          · (simp only [f_law_due, b_law_due, dp, kd_all, kd_word, kd_round, tx_all, tx_word, tx_round, dSeq, dIfS, dTst, dOp, dOs, dVal, dSlot, dC, dVar, dIf, dAnd, dOr, dNot, dAndV, dOrV, dNotV, dTup, dLst, seeAll, see, valDatas, C.data, C.put, C.frozen, dSet, dSetIx, ownL, dMut, dRetV, dRet, dRetN, dExp, dNext, dPar, dPar3, iAny, iEnumD, iZipD, lstOf, dChain, dAug, dCall, passAll, passO, ownSlots, nodupB, writeAll, dFor, iRg1, iRg2, iLst, iTpl, iStrD, gSet, gTuple, gMore, gEnd, dAsg, dMth, isStr, mkFn, isNone, intOf, DL.cutD, dLc, plainAt, tYesD, dSl11, settable_zero, settable_succ, np_none, np_fz, np_ow, np_sc, List.getElem?_cons_zero, List.getElem?_cons_succ, List.getElem?_nil, List.set_cons_zero, List.set_cons_succ, List.length_cons, List.length_nil, List.map_cons, List.map_nil, List.replicate_succ, List.replicate_zero, List.cons_append, List.nil_append, List.append_nil, List.take_succ_cons, List.take_zero, List.contains_cons, List.contains_nil, Nat.reduceAdd, Nat.reduceLeDiff, Nat.reduceEqDiff, reduceIte, Nat.zero_add, Bool.and_true, Bool.true_and, Bool.not_false, Bool.false_eq_true, decide_true, decide_false, Bool.not_true, beq_self_eq_true, Bool.or_false, Bool.false_or, Nat.reduceBEq, bg, tails, so', len, e1, i0, ne, lens, mx, ml, sl, spl, bs', semLen_S, eq]) <;> rfl
          · (simp only [f_law_due, b_law_due, dp, kd_all, kd_word, kd_round, tx_all, tx_word, tx_round, dSeq, dIfS, dTst, dOp, dOs, dVal, dSlot, dC, dVar, dIf, dAnd, dOr, dNot, dAndV, dOrV, dNotV, dTup, dLst, seeAll, see, valDatas, C.data, C.put, C.frozen, dSet, dSetIx, ownL, dMut, dRetV, dRet, dRetN, dExp, dNext, dPar, dPar3, iAny, iEnumD, iZipD, lstOf, dChain, dAug, dCall, passAll, passO, ownSlots, nodupB, writeAll, dFor, iRg1, iRg2, iLst, iTpl, iStrD, gSet, gTuple, gMore, gEnd, dAsg, dMth, isStr, mkFn, isNone, intOf, DL.cutD, dLc, plainAt, tYesD, dSl11, settable_zero, settable_succ, np_none, np_fz, np_ow, np_sc, List.getElem?_cons_zero, List.getElem?_cons_succ, List.getElem?_nil, List.set_cons_zero, List.set_cons_succ, List.length_cons, List.length_nil, List.map_cons, List.map_nil, List.replicate_succ, List.replicate_zero, List.cons_append, List.nil_append, List.append_nil, List.take_succ_cons, List.take_zero, List.contains_cons, List.contains_nil, Nat.reduceAdd, Nat.reduceLeDiff, Nat.reduceEqDiff, reduceIte, Nat.zero_add, Bool.and_true, Bool.true_and, Bool.not_false, Bool.false_eq_true, decide_true, decide_false, Bool.not_true, beq_self_eq_true, Bool.or_false, Bool.false_or, Nat.reduceBEq, bg, tails, so', len, e1, i0, ne, lens, mx, ml, sl, spl, bs', semLen_S, eq]) <;> rfl
      · rw [decide_eq_false z0] at ne
        have sp : SP (h, .word []) ws := due_none hn hh fun a ha => by
          have x := (tm (a.drop h.length)).mpr (by rw [← cut a ha]; exact ha)
          have y : a.drop h.length ≠ [] := fun z => by
            rw [z] at x
            rcases List.mem_cons.mp x with x | x
            · exact z0 x.symm
            · exact up1 [] x (lt_nil t0 z0)
          have := List.length_pos_iff.mpr y
          rw [List.length_drop] at this
          omega
        refine ⟨(h, .word []), some (.fz (.list (ws.map S))), ?_, sp, sp.sz hw⟩
        simp only [List.map_cons, List.length_cons] at so' len e1
        rcases hc with rfl | rfl
        · (simp only [f_law_due, b_law_due, dp, kd_all, kd_word, kd_round, tx_all, tx_word, tx_round, dSeq, dIfS, dTst, dOp, dOs, dVal, dSlot, dC, dVar, dIf, dAnd, dOr, dNot, dAndV, dOrV, dNotV, dTup, dLst, seeAll, see, valDatas, C.data, C.put, C.frozen, dSet, dSetIx, ownL, dMut, dRetV, dRet, dRetN, dExp, dNext, dPar, dPar3, iAny, iEnumD, iZipD, lstOf, dChain, dAug, dCall, passAll, passO, ownSlots, nodupB, writeAll, dFor, iRg1, iRg2, iLst, iTpl, iStrD, gSet, gTuple, gMore, gEnd, dAsg, dMth, isStr, mkFn, isNone, intOf, DL.cutD, dLc, plainAt, tYesD, dSl11, settable_zero, settable_succ, np_none, np_fz, np_ow, np_sc, List.getElem?_cons_zero, List.getElem?_cons_succ, List.getElem?_nil, List.set_cons_zero, List.set_cons_succ, List.length_cons, List.length_nil, List.map_cons, List.map_nil, List.replicate_succ, List.replicate_zero, List.cons_append, List.nil_append, List.append_nil, List.take_succ_cons, List.take_zero, List.contains_cons, List.contains_nil, Nat.reduceAdd, Nat.reduceLeDiff, Nat.reduceEqDiff, reduceIte, Nat.zero_add, Bool.and_true, Bool.true_and, Bool.not_false, Bool.false_eq_true, decide_true, decide_false, Bool.not_true, beq_self_eq_true, Bool.or_false, Bool.false_or, Nat.reduceBEq, bg, tails, so', len, e1, i0, ne]) <;> rfl
        · (simp only [f_law_due, b_law_due, dp, kd_all, kd_word, kd_round, tx_all, tx_word, tx_round, dSeq, dIfS, dTst, dOp, dOs, dVal, dSlot, dC, dVar, dIf, dAnd, dOr, dNot, dAndV, dOrV, dNotV, dTup, dLst, seeAll, see, valDatas, C.data, C.put, C.frozen, dSet, dSetIx, ownL, dMut, dRetV, dRet, dRetN, dExp, dNext, dPar, dPar3, iAny, iEnumD, iZipD, lstOf, dChain, dAug, dCall, passAll, passO, ownSlots, nodupB, writeAll, dFor, iRg1, iRg2, iLst, iTpl, iStrD, gSet, gTuple, gMore, gEnd, dAsg, dMth, isStr, mkFn, isNone, intOf, DL.cutD, dLc, plainAt, tYesD, dSl11, settable_zero, settable_succ, np_none, np_fz, np_ow, np_sc, List.getElem?_cons_zero, List.getElem?_cons_succ, List.getElem?_nil, List.set_cons_zero, List.set_cons_succ, List.length_cons, List.length_nil, List.map_cons, List.map_nil, List.replicate_succ, List.replicate_zero, List.cons_append, List.nil_append, List.append_nil, List.take_succ_cons, List.take_zero, List.contains_cons, List.contains_nil, Nat.reduceAdd, Nat.reduceLeDiff, Nat.reduceEqDiff, reduceIte, Nat.zero_add, Bool.and_true, Bool.true_and, Bool.not_false, Bool.false_eq_true, decide_true, decide_false, Bool.not_true, beq_self_eq_true, Bool.or_false, Bool.false_or, Nat.reduceBEq, bg, tails, so', len, e1, i0, ne]) <;> rfl
end LW
set_option Elab.async false
set_option linter.all false
set_option maxRecDepth 8000
set_option maxHeartbeats 4000000
namespace LW
open DL PySem L2
/-! ### the law's own drawn words -/
theorem getLast_ix {l : List Nat} (hl : l ≠ []) : semIx [.fz (S l), .fz (.int (-1))] = some (.fz (S [l.getLast hl])) := by
  simp only [semIx, C.data, atI_end hl]
theorem semMul_L1 (xs : List PyData) (k : Nat) (hk : k ≤ 1) (h : xs.length ≤ 1000) : semMul [.ow (.list xs), .fz (.int (k : Int))] = some (.ow (.list (List.replicate k xs).flatten)) := by
  have e : ((k : Nat) : Int).toNat = k := Int.toNat_natCast k
  simp only [semMul, C.data, e]
  exact if_pos (fits_of ⟨by omega, by omega, by have := Nat.mul_le_mul h hk; omega⟩)
theorem addL (xs ys : List PyData) (h : xs.length + ys.length ≤ 16777216) : semAdd [.ow (.list xs), .ow (.list ys)] = some (.ow (.list (xs ++ ys))) := by
  simp only [semAdd, C.data]
  exact if_pos (fits_of h)
theorem words_al {a b c : Int} {n : Nat} {l : List Nat} (h : Hd a b c n) (hn : n < 68500000000) (hl : l ≠ []) (h3 : l.length ≤ 3) :
    ∃ ws a' c', f_law_words [.pw (hand a b c), .fz (S l)] = some (.ow (.list (ws.map S)), [some (.pw (hand a' b c')), some (.fz (S l))]) ∧ ws ≠ [] ∧ ws.length ≤ 6 ∧ (∀ w ∈ ws, w.length ≤ 40 ∧ inL l w) ∧ Hd a' b c' (n + 200) := by
  have lp : 0 < l.length := List.length_pos_iff.mpr hl
  obtain ⟨s, a1, c1, e1, s7, H1⟩ := take_nat 7 h (by omega) (by decide) (by decide)
  obtain ⟨hd, a2, c2, e2, hdl, hda, H2⟩ := word_nat 4 H1 (by omega) hl h3 (by decide)
  obtain ⟨m, a3, c3, e3, m5, H3⟩ := take_nat 5 H2 (by omega) (by decide) (by decide)
  obtain ⟨o, a4, c4, e4, ol, oa, H4⟩ := word_nat 3 H3 (by omega) hl h3 (by decide)
  obtain ⟨t, a5, c5, e5, tl, ta, H5⟩ := word_nat 4 H4 (by omega) hl h3 (by decide)
  have i0 : semIx [.fz (S l), .fz (.int 0)] = some (.fz (S [l[0]])) := ixS (k := 0) (by simp)
  have i1 := getLast_ix hl
  have neg : semNeg [.fz (.int 1)] = some (.fz (.int (-1))) := rfl
  have hda : inL l hd := hda
  have onea : inL l (o ++ [l[0]]) := inL.app oa (inL.one (List.getElem_mem lp))
  have twoa : inL l (t ++ [l.getLast hl]) := inL.app ta (inL.one (List.getLast_mem hl))
  have ad1 := semAdd_nat 1 m
  have ad2 := semAdd_S o [l[0]] (by simp; omega)
  have ad3 := semAdd_S t [l.getLast hl] (by simp; omega)
  have o4 : (o ++ [l[0]]).length ≤ 4 := by rw [List.length_append, List.length_singleton]; omega
  have t5 : (t ++ [l.getLast hl]).length ≤ 5 := by rw [List.length_append, List.length_singleton]; omega
  generalize o ++ [l[0]] = one at *
  generalize t ++ [l.getLast hl] = two at *
  have b1 : fits (-4611686018427387904 ≤ ((1 + m : Nat) : Int) ∧ ((1 + m : Nat) : Int) < 4611686018427387904) = true := fits_of (by omega)
  have fin : s = 0 ∨ s = 1 ∨ s = 2 ∨ s = 3 ∨ s = 4 ∨ s = 5 ∨ s = 6 := by omega
  have H5 : Hd a5 b c5 (n + 20) := H5.mono (by omega)
  have H1' := H1
  clear H1 H2 H3 H4
  -- what is drawn for each of some
  have many : ∀ (f : FE), (∀ a c n i, Hd a b c n → n < 68600000000 → ∃ w a' c', f [some (.pw (hand a b c)), some (.fz (S l)), some (.fz (.int (s : Int))), some (.fz (S hd)), some (.fz (.int ((1 + m : Nat) : Int))), some (.fz (S one)), some (.fz (S two)), some (.fz (.int i))] = some (.fz (S w), [some (.pw (hand a' b c')), some (.fz (S l)), some (.fz (.int (s : Int))), some (.fz (S hd)), some (.fz (.int ((1 + m : Nat) : Int))), some (.fz (S one)), some (.fz (S two)), some (.fz (.int i))]) ∧ (w.length ≤ 40 ∧ inL l w) ∧ Hd a' b c' (n + 10)) →
      ∃ (ws : List (List Nat)) (a' c' : Int), dLcL [7] (gSet 7) tYesD f (intsD 0 (1 + m)) [] [some (.pw (hand a5 b c5)), some (.fz (S l)), some (.fz (.int (s : Int))), some (.fz (S hd)), some (.fz (.int ((1 + m : Nat) : Int))), some (.fz (S one)), some (.fz (S two)), none] = some (ws.map S, [some (.pw (hand a' b c')), some (.fz (S l)), some (.fz (.int (s : Int))), some (.fz (S hd)), some (.fz (.int ((1 + m : Nat) : Int))), some (.fz (S one)), some (.fz (S two)), none]) ∧ ws.length = 1 + m ∧ (∀ w ∈ ws, w.length ≤ 40 ∧ inL l w) ∧ Hd a' b c' (n + 150) := by
    intro f hf
    obtain ⟨ys, a', c', q1, q2, q3, q4⟩ := lcL_draw (vs := [7]) (g := gSet 7) (f := f) (b := b) (fun a c => [some (.pw (hand a b c)), some (.fz (S l)), some (.fz (.int (s : Int))), some (.fz (S hd)), some (.fz (.int ((1 + m : Nat) : Int))), some (.fz (S one)), some (.fz (S two)), none]) 10 68600000000 (fun d => ∃ i, d = .int i) (fun y => ∃ w, y = S w ∧ w.length ≤ 40 ∧ inL l w) (by
      rintro a c n d H hn ⟨i, rfl⟩
      obtain ⟨w, a', c', g1, g2, g3⟩ := hf a c n i H hn
      exact ⟨_, _, _, _, _, by (simp only [gSet, wipeE, dSeq, dIfS, dTst, dOp, dOs, dVal, dSlot, dC, dVar, dIf, dAnd, dOr, dNot, dAndV, dOrV, dNotV, dTup, dLst, seeAll, see, valDatas, C.data, C.put, C.frozen, dSet, dSetIx, ownL, dMut, dRetV, dRet, dRetN, dExp, dNext, dPar, dPar3, iAny, iEnumD, iZipD, lstOf, dChain, dAug, dCall, passAll, passO, ownSlots, nodupB, writeAll, dFor, iRg1, iRg2, iLst, iTpl, iStrD, gSet, gTuple, gMore, gEnd, dAsg, dMth, isStr, mkFn, isNone, intOf, DL.cutD, dLc, plainAt, tYesD, dSl11, settable_zero, settable_succ, np_none, np_fz, np_ow, np_sc, List.getElem?_cons_zero, List.getElem?_cons_succ, List.getElem?_nil, List.set_cons_zero, List.set_cons_succ, List.length_cons, List.length_nil, List.map_cons, List.map_nil, List.replicate_succ, List.replicate_zero, List.cons_append, List.nil_append, List.append_nil, List.take_succ_cons, List.take_zero, List.contains_cons, List.contains_nil, Nat.reduceAdd, Nat.reduceLeDiff, Nat.reduceEqDiff, reduceIte, Nat.zero_add, Bool.and_true, Bool.true_and, Bool.not_false, Bool.false_eq_true, decide_true, decide_false, Bool.not_true, beq_self_eq_true, Bool.or_false, Bool.false_or, Nat.reduceBEq]) <;> rfl, g1, ⟨w, rfl, g2⟩, by (simp only [backE, dSeq, dIfS, dTst, dOp, dOs, dVal, dSlot, dC, dVar, dIf, dAnd, dOr, dNot, dAndV, dOrV, dNotV, dTup, dLst, seeAll, see, valDatas, C.data, C.put, C.frozen, dSet, settable, dSetIx, ownL, dMut, dRetV, dRet, dRetN, dExp, dNext, dPar, dPar3, iAny, iEnumD, iZipD, lstOf, dChain, dAug, dCall, passAll, passO, ownSlots, nodupB, writeAll, dFor, iRg1, iRg2, iLst, iTpl, iStrD, gSet, gTuple, gMore, gEnd, dAsg, dMth, isStr, mkFn, isNone, intOf, DL.cutD, dLc, plainAt, tYesD, dSl11, List.getElem?_cons_zero, List.getElem?_cons_succ, List.getElem?_nil, List.set_cons_zero, List.set_cons_succ, List.length_cons, List.length_nil, List.map_cons, List.map_nil, List.replicate_succ, List.replicate_zero, List.cons_append, List.nil_append, List.append_nil, List.take_succ_cons, List.take_zero, List.contains_cons, List.contains_nil, Nat.reduceAdd, Nat.reduceLeDiff, Nat.reduceEqDiff, reduceIte, Nat.zero_add, Bool.and_true, Bool.true_and, Bool.not_false, Bool.false_eq_true, decide_true, decide_false, Bool.not_true, beq_self_eq_true, Bool.or_false, Bool.false_or, Nat.reduceBEq]) <;> rfl, g3⟩) (intsD 0 (1 + m)) [] a5 c5 (n + 20) (fun d hd => by
        obtain ⟨k, _, e⟩ := intsD_mem hd
        exact ⟨_, e⟩) H5 (by rw [intsD_len]; omega) (by rw [intsD_len]; simp; omega)
    obtain ⟨ws, rfl, w2, w3⟩ := strs_of q3
    refine ⟨ws, a', c', q1, by rw [w2, q2, intsD_len], w3, q4.mono (by rw [intsD_len]; omega)⟩
  rcases fin with rfl | rfl | rfl | rfl | rfl | rfl | rfl
  · have p0 := eqI_yes (r := 0) (i := 0) rfl
    obtain ⟨ws, a6, c6, q1, q2, q3, q4⟩ := many e3_law_words (fun a c n i H hn => by
      obtain ⟨w, a', c', g1, g2, ga, g3⟩ := word_nat 6 H (by omega) hl h3 (by decide)
      exact ⟨w, a', c', by simp only [Int.cast_ofNat_Int] at g1; simp only [e3_law_words, dSeq, dIfS, dTst, dOp, dOs, dVal, dSlot, dC, dVar, dIf, dAnd, dOr, dNot, dAndV, dOrV, dNotV, dTup, dLst, seeAll, see, valDatas, C.data, C.put, C.frozen, dSet, settable, dSetIx, ownL, dMut, dRetV, dRet, dRetN, dExp, dNext, dPar, dPar3, iAny, iEnumD, iZipD, lstOf, dChain, dAug, dCall, passAll, passO, ownSlots, nodupB, writeAll, dFor, iRg1, iRg2, iLst, iTpl, iStrD, gSet, gTuple, gMore, gEnd, dAsg, dMth, isStr, mkFn, isNone, intOf, DL.cutD, dLc, plainAt, tYesD, dSl11, List.getElem?_cons_zero, List.getElem?_cons_succ, List.getElem?_nil, List.set_cons_zero, List.set_cons_succ, List.length_cons, List.length_nil, List.map_cons, List.map_nil, List.replicate_succ, List.replicate_zero, List.cons_append, List.nil_append, List.append_nil, List.take_succ_cons, List.take_zero, List.contains_cons, List.contains_nil, Nat.reduceAdd, Nat.reduceLeDiff, Nat.reduceEqDiff, reduceIte, Nat.zero_add, Bool.and_true, Bool.true_and, Bool.not_false, Bool.false_eq_true, decide_true, decide_false, Bool.not_true, beq_self_eq_true, Bool.or_false, Bool.false_or, Nat.reduceBEq, g1], ⟨by omega, ga⟩, g3.mono (by omega)⟩)
    simp only [Int.natCast_zero, Int.natCast_one, Int.cast_ofNat_Int] at *
    refine ⟨ws, a6, c6, ?_, fun e => ?_, by omega, q3, q4.mono (by omega)⟩
    · simp only [f_law_words, b_law_words, dSeq, dIfS, dTst, dOp, dOs, dVal, dSlot, dC, dVar, dIf, dAnd, dOr, dNot, dAndV, dOrV, dNotV, dTup, dLst, seeAll, see, valDatas, C.data, C.put, C.frozen, dSet, dSetIx, ownL, dMut, dRetV, dRet, dRetN, dExp, dNext, dPar, dPar3, iAny, iEnumD, iZipD, lstOf, dChain, dAug, dCall, passAll, passO, ownSlots, nodupB, writeAll, dFor, iRg1, iRg2, iLst, iTpl, iStrD, gSet, gTuple, gMore, gEnd, dAsg, dMth, isStr, mkFn, isNone, intOf, DL.cutD, dLc, plainAt, tYesD, dSl11, settable_zero, settable_succ, np_none, np_fz, np_ow, np_sc, List.getElem?_cons_zero, List.getElem?_cons_succ, List.getElem?_nil, List.set_cons_zero, List.set_cons_succ, List.length_cons, List.length_nil, List.map_cons, List.map_nil, List.replicate_succ, List.replicate_zero, List.cons_append, List.nil_append, List.append_nil, List.take_succ_cons, List.take_zero, List.contains_cons, List.contains_nil, Nat.reduceAdd, Nat.reduceLeDiff, Nat.reduceEqDiff, reduceIte, Nat.zero_add, Bool.and_true, Bool.true_and, Bool.not_false, Bool.false_eq_true, decide_true, decide_false, Bool.not_true, beq_self_eq_true, Bool.or_false, Bool.false_or, Nat.reduceBEq, e1, e2, e3, e4, e5, i0, i1, neg, ad1, ad2, ad3, p0, b1, Int.toNat_natCast, q1]
    · rw [e] at q2
      simp at q2
      omega
  · have p0 := eqI_no (r := 1) (i := 0) (by decide)
    have p1 := eqI_yes (r := 1) (i := 1) rfl
    simp only [Int.natCast_zero, Int.natCast_one, Int.cast_ofNat_Int] at *
    refine ⟨[hd], a5, c5, ?_, by simp, by simp, fun w hw => by (rw [List.mem_singleton] at hw; subst hw; exact ⟨by omega, hda⟩), H5.mono (by omega)⟩
    simp only [f_law_words, b_law_words, dSeq, dIfS, dTst, dOp, dOs, dVal, dSlot, dC, dVar, dIf, dAnd, dOr, dNot, dAndV, dOrV, dNotV, dTup, dLst, seeAll, see, valDatas, C.data, C.put, C.frozen, dSet, dSetIx, ownL, dMut, dRetV, dRet, dRetN, dExp, dNext, dPar, dPar3, iAny, iEnumD, iZipD, lstOf, dChain, dAug, dCall, passAll, passO, ownSlots, nodupB, writeAll, dFor, iRg1, iRg2, iLst, iTpl, iStrD, gSet, gTuple, gMore, gEnd, dAsg, dMth, isStr, mkFn, isNone, intOf, DL.cutD, dLc, plainAt, tYesD, dSl11, settable_zero, settable_succ, np_none, np_fz, np_ow, np_sc, List.getElem?_cons_zero, List.getElem?_cons_succ, List.getElem?_nil, List.set_cons_zero, List.set_cons_succ, List.length_cons, List.length_nil, List.map_cons, List.map_nil, List.replicate_succ, List.replicate_zero, List.cons_append, List.nil_append, List.append_nil, List.take_succ_cons, List.take_zero, List.contains_cons, List.contains_nil, Nat.reduceAdd, Nat.reduceLeDiff, Nat.reduceEqDiff, reduceIte, Nat.zero_add, Bool.and_true, Bool.true_and, Bool.not_false, Bool.false_eq_true, decide_true, decide_false, Bool.not_true, beq_self_eq_true, Bool.or_false, Bool.false_or, Nat.reduceBEq, e1, e2, e3, e4, e5, i0, i1, neg, ad1, ad2, ad3, p0, p1]
  · have p0 := eqI_no (r := 2) (i := 0) (by decide)
    have p1 := eqI_no (r := 2) (i := 1) (by decide)
    have p2 := eqI_yes (r := 2) (i := 2) rfl
    obtain ⟨ws, a6, c6, q1, q2, q3, q4⟩ := many e2_law_words (fun a c n i H hn => by
      obtain ⟨k, a', c', g1, g2, g3⟩ := take_nat 4 H (by omega) (by decide) (by decide)
      have mm : one.length * k ≤ 12 := Nat.le_trans (Nat.mul_le_mul o4 (show k ≤ 3 by omega)) (by decide)
      have ml := semMul_r one k (by omega) (by omega)
      have ad := semAdd_S hd (reps k one) (by rw [reps_len]; omega)
      exact ⟨hd ++ reps k one, a', c', by simp only [Int.cast_ofNat_Int] at g1; simp only [e2_law_words, dSeq, dIfS, dTst, dOp, dOs, dVal, dSlot, dC, dVar, dIf, dAnd, dOr, dNot, dAndV, dOrV, dNotV, dTup, dLst, seeAll, see, valDatas, C.data, C.put, C.frozen, dSet, settable, dSetIx, ownL, dMut, dRetV, dRet, dRetN, dExp, dNext, dPar, dPar3, iAny, iEnumD, iZipD, lstOf, dChain, dAug, dCall, passAll, passO, ownSlots, nodupB, writeAll, dFor, iRg1, iRg2, iLst, iTpl, iStrD, gSet, gTuple, gMore, gEnd, dAsg, dMth, isStr, mkFn, isNone, intOf, DL.cutD, dLc, plainAt, tYesD, dSl11, List.getElem?_cons_zero, List.getElem?_cons_succ, List.getElem?_nil, List.set_cons_zero, List.set_cons_succ, List.length_cons, List.length_nil, List.map_cons, List.map_nil, List.replicate_succ, List.replicate_zero, List.cons_append, List.nil_append, List.append_nil, List.take_succ_cons, List.take_zero, List.contains_cons, List.contains_nil, Nat.reduceAdd, Nat.reduceLeDiff, Nat.reduceEqDiff, reduceIte, Nat.zero_add, Bool.and_true, Bool.true_and, Bool.not_false, Bool.false_eq_true, decide_true, decide_false, Bool.not_true, beq_self_eq_true, Bool.or_false, Bool.false_or, Nat.reduceBEq, g1, ml, ad], ⟨by rw [List.length_append, reps_len]; omega, hda.app (onea.reps k)⟩, g3.mono (by omega)⟩)
    simp only [Int.natCast_zero, Int.natCast_one, Int.cast_ofNat_Int] at *
    have al := addL (ws.map S) [S hd] (by simp; omega)
    refine ⟨ws ++ [hd], a6, c6, ?_, by simp, by simp; omega, fun w hw => ?_, q4.mono (by omega)⟩
    · rw [List.map_append]
      simp only [f_law_words, b_law_words, dSeq, dIfS, dTst, dOp, dOs, dVal, dSlot, dC, dVar, dIf, dAnd, dOr, dNot, dAndV, dOrV, dNotV, dTup, dLst, seeAll, see, valDatas, C.data, C.put, C.frozen, dSet, dSetIx, ownL, dMut, dRetV, dRet, dRetN, dExp, dNext, dPar, dPar3, iAny, iEnumD, iZipD, lstOf, dChain, dAug, dCall, passAll, passO, ownSlots, nodupB, writeAll, dFor, iRg1, iRg2, iLst, iTpl, iStrD, gSet, gTuple, gMore, gEnd, dAsg, dMth, isStr, mkFn, isNone, intOf, DL.cutD, dLc, plainAt, tYesD, dSl11, settable_zero, settable_succ, np_none, np_fz, np_ow, np_sc, List.getElem?_cons_zero, List.getElem?_cons_succ, List.getElem?_nil, List.set_cons_zero, List.set_cons_succ, List.length_cons, List.length_nil, List.map_cons, List.map_nil, List.replicate_succ, List.replicate_zero, List.cons_append, List.nil_append, List.append_nil, List.take_succ_cons, List.take_zero, List.contains_cons, List.contains_nil, Nat.reduceAdd, Nat.reduceLeDiff, Nat.reduceEqDiff, reduceIte, Nat.zero_add, Bool.and_true, Bool.true_and, Bool.not_false, Bool.false_eq_true, decide_true, decide_false, Bool.not_true, beq_self_eq_true, Bool.or_false, Bool.false_or, Nat.reduceBEq, e1, e2, e3, e4, e5, i0, i1, neg, ad1, ad2, ad3, p0, p1, p2, b1, Int.toNat_natCast, q1, al]
    · rcases List.mem_append.mp hw with q | q
      · exact q3 w q
      · simp at q; subst q; exact ⟨by omega, hda⟩
  · have p0 := eqI_no (r := 3) (i := 0) (by decide)
    have p1 := eqI_no (r := 3) (i := 1) (by decide)
    have p2 := eqI_no (r := 3) (i := 2) (by decide)
    have p3 := eqI_yes (r := 3) (i := 3) rfl
    obtain ⟨k, a6, c6, e6, k3, H6⟩ := take_nat 3 H5 (by omega) (by decide) (by decide)
    obtain ⟨j, a7, c7, e7, j3, H7⟩ := take_nat 3 H6 (by omega) (by decide) (by decide)
    have adk := semAdd_nat 1 k
    have adj := semAdd_nat 1 j
    have mk : one.length * (1 + k) ≤ 12 := Nat.le_trans (Nat.mul_le_mul o4 (show 1 + k ≤ 3 by omega)) (by decide)
    have mj : two.length * (1 + j) ≤ 15 := Nat.le_trans (Nat.mul_le_mul t5 (show 1 + j ≤ 3 by omega)) (by decide)
    have mlk := semMul_r one (1 + k) (by omega) (by omega)
    have mlj := semMul_r two (1 + j) (by omega) (by omega)
    have ak := semAdd_S hd (reps (1 + k) one) (by rw [reps_len]; omega)
    have aj := semAdd_S hd (reps (1 + j) two) (by rw [reps_len]; omega)
    simp only [Int.natCast_zero, Int.natCast_one, Int.cast_ofNat_Int] at *
    refine ⟨[hd, hd ++ reps (1 + k) one, hd ++ reps (1 + j) two], a7, c7, ?_, by simp, by simp, ?_, H7.mono (by omega)⟩
    · simp only [f_law_words, b_law_words, dSeq, dIfS, dTst, dOp, dOs, dVal, dSlot, dC, dVar, dIf, dAnd, dOr, dNot, dAndV, dOrV, dNotV, dTup, dLst, seeAll, see, valDatas, C.data, C.put, C.frozen, dSet, dSetIx, ownL, dMut, dRetV, dRet, dRetN, dExp, dNext, dPar, dPar3, iAny, iEnumD, iZipD, lstOf, dChain, dAug, dCall, passAll, passO, ownSlots, nodupB, writeAll, dFor, iRg1, iRg2, iLst, iTpl, iStrD, gSet, gTuple, gMore, gEnd, dAsg, dMth, isStr, mkFn, isNone, intOf, DL.cutD, dLc, plainAt, tYesD, dSl11, settable_zero, settable_succ, np_none, np_fz, np_ow, np_sc, List.getElem?_cons_zero, List.getElem?_cons_succ, List.getElem?_nil, List.set_cons_zero, List.set_cons_succ, List.length_cons, List.length_nil, List.map_cons, List.map_nil, List.replicate_succ, List.replicate_zero, List.cons_append, List.nil_append, List.append_nil, List.take_succ_cons, List.take_zero, List.contains_cons, List.contains_nil, Nat.reduceAdd, Nat.reduceLeDiff, Nat.reduceEqDiff, reduceIte, Nat.zero_add, Bool.and_true, Bool.true_and, Bool.not_false, Bool.false_eq_true, decide_true, decide_false, Bool.not_true, beq_self_eq_true, Bool.or_false, Bool.false_or, Nat.reduceBEq, e1, e2, e3, e4, e5, e6, e7, i0, i1, neg, ad1, ad2, ad3, p0, p1, p2, p3, adk, adj, mlk, mlj, ak, aj]
    · intro w hw
      simp only [List.mem_cons, List.not_mem_nil, or_false] at hw
      rcases hw with rfl | rfl | rfl
      · exact ⟨by omega, hda⟩
      · exact ⟨by rw [List.length_append, reps_len]; omega, hda.app (onea.reps _)⟩
      · exact ⟨by rw [List.length_append, reps_len]; omega, hda.app (twoa.reps _)⟩
  · have p0 := eqI_no (r := 4) (i := 0) (by decide)
    have p1 := eqI_no (r := 4) (i := 1) (by decide)
    have p2 := eqI_no (r := 4) (i := 2) (by decide)
    have p3 := eqI_no (r := 4) (i := 3) (by decide)
    have p4 := eqI_yes (r := 4) (i := 4) rfl
    have ml2 := semMul_r one 2 (by omega) (by omega)
    have ml3 := semMul_r one 3 (by omega) (by omega)
    have a2' := semAdd_S hd (reps 2 one) (by rw [reps_len]; omega)
    have a3' := semAdd_S hd (reps 3 one) (by rw [reps_len]; omega)
    have a4' := semAdd_S (hd ++ reps 2 one) two (by rw [List.length_append, reps_len]; omega)
    have sl := semSl01_S two 1
    have a5' := semAdd_S (hd ++ reps 3 one) (two.take 1) (by rw [List.length_append, reps_len, List.length_take]; omega)
    have a6' := semAdd_S hd one (by omega)
    simp only [Int.natCast_zero, Int.natCast_one, Int.cast_ofNat_Int] at *
    refine ⟨[hd ++ reps 2 one ++ two, hd, hd ++ reps 3 one ++ two.take 1, hd ++ one], a5, c5, ?_, by simp, by simp, ?_, H5.mono (by omega)⟩
    · simp only [f_law_words, b_law_words, dSeq, dIfS, dTst, dOp, dOs, dVal, dSlot, dC, dVar, dIf, dAnd, dOr, dNot, dAndV, dOrV, dNotV, dTup, dLst, seeAll, see, valDatas, C.data, C.put, C.frozen, dSet, dSetIx, ownL, dMut, dRetV, dRet, dRetN, dExp, dNext, dPar, dPar3, iAny, iEnumD, iZipD, lstOf, dChain, dAug, dCall, passAll, passO, ownSlots, nodupB, writeAll, dFor, iRg1, iRg2, iLst, iTpl, iStrD, gSet, gTuple, gMore, gEnd, dAsg, dMth, isStr, mkFn, isNone, intOf, DL.cutD, dLc, plainAt, tYesD, dSl11, settable_zero, settable_succ, np_none, np_fz, np_ow, np_sc, List.getElem?_cons_zero, List.getElem?_cons_succ, List.getElem?_nil, List.set_cons_zero, List.set_cons_succ, List.length_cons, List.length_nil, List.map_cons, List.map_nil, List.replicate_succ, List.replicate_zero, List.cons_append, List.nil_append, List.append_nil, List.take_succ_cons, List.take_zero, List.contains_cons, List.contains_nil, Nat.reduceAdd, Nat.reduceLeDiff, Nat.reduceEqDiff, reduceIte, Nat.zero_add, Bool.and_true, Bool.true_and, Bool.not_false, Bool.false_eq_true, decide_true, decide_false, Bool.not_true, beq_self_eq_true, Bool.or_false, Bool.false_or, Nat.reduceBEq, e1, e2, e3, e4, e5, i0, i1, neg, ad1, ad2, ad3, p0, p1, p2, p3, p4, ml2, ml3, a2', a3', a4', sl, a5', a6']
    · intro w hw
      simp only [List.mem_cons, List.not_mem_nil, or_false] at hw
      rcases hw with rfl | rfl | rfl | rfl
      · exact ⟨by rw [List.length_append, List.length_append, reps_len]; omega, (hda.app (onea.reps _)).app twoa⟩
      · exact ⟨by omega, hda⟩
      · exact ⟨by rw [List.length_append, List.length_append, reps_len, List.length_take]; omega, (hda.app (onea.reps _)).app (twoa.take _)⟩
      · exact ⟨by rw [List.length_append]; omega, hda.app onea⟩
  · have p0 := eqI_no (r := 5) (i := 0) (by decide)
    have p1 := eqI_no (r := 5) (i := 1) (by decide)
    have p2 := eqI_no (r := 5) (i := 2) (by decide)
    have p3 := eqI_no (r := 5) (i := 3) (by decide)
    have p4 := eqI_no (r := 5) (i := 4) (by decide)
    have p5 := eqI_yes (r := 5) (i := 5) rfl
    have si : semInt [.fz (.bool true)] = some (.fz (.int 1)) := rfl
    have mL := semMul_L1 [S hd] 1 (by decide) (by simp)
    obtain ⟨ws, a6, c6, q1, q2, q3, q4⟩ := many e1_law_words (fun a c n i H hn => by
      obtain ⟨w, a', c', g1, g2, ga, g3⟩ := word_nat 5 H (by omega) hl h3 (by decide)
      have ad := semAdd_S hd w (by omega)
      exact ⟨hd ++ w, a', c', by simp only [Int.cast_ofNat_Int] at g1; simp only [e1_law_words, dSeq, dIfS, dTst, dOp, dOs, dVal, dSlot, dC, dVar, dIf, dAnd, dOr, dNot, dAndV, dOrV, dNotV, dTup, dLst, seeAll, see, valDatas, C.data, C.put, C.frozen, dSet, settable, dSetIx, ownL, dMut, dRetV, dRet, dRetN, dExp, dNext, dPar, dPar3, iAny, iEnumD, iZipD, lstOf, dChain, dAug, dCall, passAll, passO, ownSlots, nodupB, writeAll, dFor, iRg1, iRg2, iLst, iTpl, iStrD, gSet, gTuple, gMore, gEnd, dAsg, dMth, isStr, mkFn, isNone, intOf, DL.cutD, dLc, plainAt, tYesD, dSl11, List.getElem?_cons_zero, List.getElem?_cons_succ, List.getElem?_nil, List.set_cons_zero, List.set_cons_succ, List.length_cons, List.length_nil, List.map_cons, List.map_nil, List.replicate_succ, List.replicate_zero, List.cons_append, List.nil_append, List.append_nil, List.take_succ_cons, List.take_zero, List.contains_cons, List.contains_nil, Nat.reduceAdd, Nat.reduceLeDiff, Nat.reduceEqDiff, reduceIte, Nat.zero_add, Bool.and_true, Bool.true_and, Bool.not_false, Bool.false_eq_true, decide_true, decide_false, Bool.not_true, beq_self_eq_true, Bool.or_false, Bool.false_or, Nat.reduceBEq, g1, ad], ⟨by rw [List.length_append]; omega, hda.app ga⟩, g3.mono (by omega)⟩)
    simp only [Int.natCast_zero, Int.natCast_one, Int.cast_ofNat_Int] at *
    have al := addL (ws.map S) (List.replicate 1 [S hd]).flatten (by simp; omega)
    refine ⟨ws ++ [hd], a6, c6, ?_, by simp, by simp; omega, fun w hw => ?_, q4.mono (by omega)⟩
    · rw [List.map_append]
      simp only [f_law_words, b_law_words, dSeq, dIfS, dTst, dOp, dOs, dVal, dSlot, dC, dVar, dIf, dAnd, dOr, dNot, dAndV, dOrV, dNotV, dTup, dLst, seeAll, see, valDatas, C.data, C.put, C.frozen, dSet, dSetIx, ownL, dMut, dRetV, dRet, dRetN, dExp, dNext, dPar, dPar3, iAny, iEnumD, iZipD, lstOf, dChain, dAug, dCall, passAll, passO, ownSlots, nodupB, writeAll, dFor, iRg1, iRg2, iLst, iTpl, iStrD, gSet, gTuple, gMore, gEnd, dAsg, dMth, isStr, mkFn, isNone, intOf, DL.cutD, dLc, plainAt, tYesD, dSl11, settable_zero, settable_succ, np_none, np_fz, np_ow, np_sc, List.getElem?_cons_zero, List.getElem?_cons_succ, List.getElem?_nil, List.set_cons_zero, List.set_cons_succ, List.length_cons, List.length_nil, List.map_cons, List.map_nil, List.replicate_succ, List.replicate_zero, List.cons_append, List.nil_append, List.append_nil, List.take_succ_cons, List.take_zero, List.contains_cons, List.contains_nil, Nat.reduceAdd, Nat.reduceLeDiff, Nat.reduceEqDiff, reduceIte, Nat.zero_add, Bool.and_true, Bool.true_and, Bool.not_false, Bool.false_eq_true, decide_true, decide_false, Bool.not_true, beq_self_eq_true, Bool.or_false, Bool.false_or, Nat.reduceBEq, e1, e2, e3, e4, e5, i0, i1, neg, ad1, ad2, ad3, p0, p1, p2, p3, p4, p5, si, mL, b1, Int.toNat_natCast, q1] at al ⊢
      simp only [dSeq, dIfS, dTst, dOp, dOs, dVal, dSlot, dC, dVar, dIf, dAnd, dOr, dNot, dAndV, dOrV, dNotV, dTup, dLst, seeAll, see, valDatas, C.data, C.put, C.frozen, dSet, dSetIx, ownL, dMut, dRetV, dRet, dRetN, dExp, dNext, dPar, dPar3, iAny, iEnumD, iZipD, lstOf, dChain, dAug, dCall, passAll, passO, ownSlots, nodupB, writeAll, dFor, iRg1, iRg2, iLst, iTpl, iStrD, gSet, gTuple, gMore, gEnd, dAsg, dMth, isStr, mkFn, isNone, intOf, DL.cutD, dLc, plainAt, tYesD, dSl11, settable_zero, settable_succ, np_none, np_fz, np_ow, np_sc, List.getElem?_cons_zero, List.getElem?_cons_succ, List.getElem?_nil, List.set_cons_zero, List.set_cons_succ, List.length_cons, List.length_nil, List.map_cons, List.map_nil, List.replicate_succ, List.replicate_zero, List.cons_append, List.nil_append, List.append_nil, List.take_succ_cons, List.take_zero, List.contains_cons, List.contains_nil, Nat.reduceAdd, Nat.reduceLeDiff, Nat.reduceEqDiff, reduceIte, Nat.zero_add, Bool.and_true, Bool.true_and, Bool.not_false, Bool.false_eq_true, decide_true, decide_false, Bool.not_true, beq_self_eq_true, Bool.or_false, Bool.false_or, Nat.reduceBEq, al]
      try rfl
    · rcases List.mem_append.mp hw with q | q
      · exact q3 w q
      · simp at q; subst q; exact ⟨by omega, hda⟩
  · have p0 := eqI_no (r := 6) (i := 0) (by decide)
    have p1 := eqI_no (r := 6) (i := 1) (by decide)
    have p2 := eqI_no (r := 6) (i := 2) (by decide)
    have p3 := eqI_no (r := 6) (i := 3) (by decide)
    have p4 := eqI_no (r := 6) (i := 4) (by decide)
    have p5 := eqI_no (r := 6) (i := 5) (by decide)
    have si : semInt [.fz (.bool false)] = some (.fz (.int 0)) := rfl
    have mL := semMul_L1 [S hd] 0 (by decide) (by simp)
    obtain ⟨ws, a6, c6, q1, q2, q3, q4⟩ := many e1_law_words (fun a c n i H hn => by
      obtain ⟨w, a', c', g1, g2, ga, g3⟩ := word_nat 5 H (by omega) hl h3 (by decide)
      have ad := semAdd_S hd w (by omega)
      exact ⟨hd ++ w, a', c', by simp only [Int.cast_ofNat_Int] at g1; simp only [e1_law_words, dSeq, dIfS, dTst, dOp, dOs, dVal, dSlot, dC, dVar, dIf, dAnd, dOr, dNot, dAndV, dOrV, dNotV, dTup, dLst, seeAll, see, valDatas, C.data, C.put, C.frozen, dSet, settable, dSetIx, ownL, dMut, dRetV, dRet, dRetN, dExp, dNext, dPar, dPar3, iAny, iEnumD, iZipD, lstOf, dChain, dAug, dCall, passAll, passO, ownSlots, nodupB, writeAll, dFor, iRg1, iRg2, iLst, iTpl, iStrD, gSet, gTuple, gMore, gEnd, dAsg, dMth, isStr, mkFn, isNone, intOf, DL.cutD, dLc, plainAt, tYesD, dSl11, List.getElem?_cons_zero, List.getElem?_cons_succ, List.getElem?_nil, List.set_cons_zero, List.set_cons_succ, List.length_cons, List.length_nil, List.map_cons, List.map_nil, List.replicate_succ, List.replicate_zero, List.cons_append, List.nil_append, List.append_nil, List.take_succ_cons, List.take_zero, List.contains_cons, List.contains_nil, Nat.reduceAdd, Nat.reduceLeDiff, Nat.reduceEqDiff, reduceIte, Nat.zero_add, Bool.and_true, Bool.true_and, Bool.not_false, Bool.false_eq_true, decide_true, decide_false, Bool.not_true, beq_self_eq_true, Bool.or_false, Bool.false_or, Nat.reduceBEq, g1, ad], ⟨by rw [List.length_append]; omega, hda.app ga⟩, g3.mono (by omega)⟩)
    simp only [Int.natCast_zero, Int.natCast_one, Int.cast_ofNat_Int] at *
    have al := addL (ws.map S) [] (by simp; omega)
    rw [List.append_nil] at al
    refine ⟨ws, a6, c6, ?_, fun e => ?_, by omega, q3, q4.mono (by omega)⟩
    · simp only [f_law_words, b_law_words, dSeq, dIfS, dTst, dOp, dOs, dVal, dSlot, dC, dVar, dIf, dAnd, dOr, dNot, dAndV, dOrV, dNotV, dTup, dLst, seeAll, see, valDatas, C.data, C.put, C.frozen, dSet, dSetIx, ownL, dMut, dRetV, dRet, dRetN, dExp, dNext, dPar, dPar3, iAny, iEnumD, iZipD, lstOf, dChain, dAug, dCall, passAll, passO, ownSlots, nodupB, writeAll, dFor, iRg1, iRg2, iLst, iTpl, iStrD, gSet, gTuple, gMore, gEnd, dAsg, dMth, isStr, mkFn, isNone, intOf, DL.cutD, dLc, plainAt, tYesD, dSl11, settable_zero, settable_succ, np_none, np_fz, np_ow, np_sc, List.getElem?_cons_zero, List.getElem?_cons_succ, List.getElem?_nil, List.set_cons_zero, List.set_cons_succ, List.length_cons, List.length_nil, List.map_cons, List.map_nil, List.replicate_succ, List.replicate_zero, List.cons_append, List.nil_append, List.append_nil, List.take_succ_cons, List.take_zero, List.contains_cons, List.contains_nil, Nat.reduceAdd, Nat.reduceLeDiff, Nat.reduceEqDiff, reduceIte, Nat.zero_add, Bool.and_true, Bool.true_and, Bool.not_false, Bool.false_eq_true, decide_true, decide_false, Bool.not_true, beq_self_eq_true, Bool.or_false, Bool.false_or, Nat.reduceBEq, e1, e2, e3, e4, e5, i0, i1, neg, ad1, ad2, ad3, p0, p1, p2, p3, p4, p5, si, mL, b1, Int.toNat_natCast, q1, List.flatten_nil, al]
      try rfl
    · rw [e] at q2
      simp at q2
      omega
theorem words_ok {a b c : Int} {n : Nat} {l : List Nat} (h : Hd a b c n) (hn : n < 68500000000) (hl : l ≠ []) (h3 : l.length ≤ 3) :
    ∃ ws a' c', f_law_words [.pw (hand a b c), .fz (S l)] = some (.ow (.list (ws.map S)), [some (.pw (hand a' b c')), some (.fz (S l))]) ∧ ws ≠ [] ∧ ws.length ≤ 6 ∧ (∀ w ∈ ws, w.length ≤ 40) ∧ Hd a' b c' (n + 200) := by
  obtain ⟨ws, a', c', e, h1, h2, h3, h4⟩ := words_al h hn hl h3
  exact ⟨ws, a', c', e, h1, h2, fun w hw => (h3 w hw).1, h4⟩
end LW
set_option Elab.async false
set_option linter.all false
set_option maxRecDepth 8000
set_option maxHeartbeats 4000000
namespace LW
open DL PySem L2
/-! ### more of the helpers: picked of a frozen list, texts of pairs, lists put together -/
theorem pickF_ok {a b c : Int} {n : Nat} {ds : List PyData} (h : Hd a b c n) (hn : n < 68719476736) (hl : ds ≠ []) (hs : ds.length < 18446744073709551616) :
    ∃ x a' c', f_law_pick [.pw (hand a b c), .fz (.list ds)] = some (.fz x, [some (.pw (hand a' b c')), some (.fz (.list ds))]) ∧ x ∈ ds ∧ Hd a' b c' (n + 1) := by
  have p : 0 < ds.length := List.length_pos_iff.mpr hl
  obtain ⟨r, a', c', e, h1, h2, h3⟩ := take_ok (many := (ds.length : Int)) h hn (by omega) (log2_len hs p)
  obtain ⟨x, hx, hm⟩ := atI_pos (xs := ds) h1 h2
  refine ⟨x, a', c', ?_, hm, h3⟩
  simp [f_law_pick, b_law_pick, dSeq, dIfS, dTst, dOp, dOs, dVal, dSlot, dC, dVar, dIf, dAnd, dOr, dNot, dAndV, dOrV, dNotV, dTup, dLst, seeAll, see, valDatas, C.data, C.put, C.frozen, dSet, settable, dSetIx, ownL, dMut, dRetV, dRet, dRetN, dExp, dNext, dPar, dPar3, iAny, iEnumD, iZipD, lstOf, dChain, dAug, dCall, passAll, passO, ownSlots, nodupB, writeAll, dFor, iRg1, iRg2, iLst, iTpl, iStrD, gSet, gTuple, gMore, gEnd, dAsg, dMth, isStr, mkFn, isNone, intOf, DL.cutD, dLc, plainAt, tYesD, dSl11, semAdd, semSub, semMul, semMod, semDiv, semPow, semNeg, semLt, semLe, semGt, semGe, semEq, semNe, semIsN, semNotN, semLen, semAbs, semInt, semMax2, semMin2, semJoin, semIx, semSl01, semSl10, semSl11, semSl00, semAddI, upAppend, upPop, e, hx]
theorem repr_dp {p : Pr} (h : szP p ≤ 100000) : semRepr [.fz (dp p)] = some (.fz (.str (dp p).shown)) := semRepr_fz (by rw [depth_dp]; decide) (by cases p with | mk h e => rfl) (by
  have xl : (tx p.2).length ≤ szE p.2 := by cases p.2 <;> simp [tx, szE]
  have kl : (kd p.2).length ≤ 5 := by cases p.2 <;> simp [kd]
  unfold szP at h
  show (10 * p.1.length + 2 + 2 + (10 * (kd p.2).length + 2 + 2 + (10 * (tx p.2).length + 2 + 2 + 0)) + 3 : Nat) ≤ 16777216
  omega)
theorem addLL (xs ys : List PyData) (a b : C) (ha : a.data = some (.list xs)) (hb : b.data = some (.list ys)) (h : xs.length + ys.length ≤ 16777216) : semAdd [a, b] = some (.ow (.list (xs ++ ys))) := by
  simp only [semAdd, ha, hb]
  exact if_pos (fits_of h)
theorem addLS (A B : List (List Nat)) (a b : C) (ha : a.data = some (.list (A.map S))) (hb : b.data = some (.list (B.map S))) (h : A.length + B.length ≤ 16777216) : semAdd [a, b] = some (.ow (.list ((A ++ B).map S))) := by
  rw [addLL _ _ a b ha hb (by simpa using h), List.map_append]
theorem sl01_L (ds : List PyData) (k : Nat) (c : C) (hc : c.data = some (.list ds)) : semSl01 [c, .fz (.int (k : Int))] = some (.ow (.list (ds.take k))) := by
  show cutD c none (some (k : Int)) = _
  unfold cutD
  rw [hc]
  simp only [cut_to]
theorem mulL2 (x : PyData) : semMul [.ow (.list [x]), .fz (.int 2)] = some (.ow (.list [x, x])) := by
  simp only [semMul, C.data]
  rw [if_pos (fits_of ⟨by decide, by decide, show 1 * 2 ≤ 16777216 by decide⟩)]
  rfl
theorem neL2 (x : Str) : semNe [.ow (.list [.str x, .str x]), .ow (.list [.str x, .str x])] = some (.fz (.bool false)) := by
  simp only [semNe, C.data]
  rw [if_pos (by rw [depth_list, depthAll_cons, depthAll_cons, depthAll_nil]; exact ⟨show max 0 (max 0 0) + 1 ≤ 64 by decide, show max 0 (max 0 0) + 1 ≤ 64 by decide⟩)]
  simp only [eqv_list, eqvAll_cons, eqvAll_nil, eqv_str]
  rfl
theorem semNe_dp_same (p : Pr) : semNe [.fz (dp p), .fz (dp p)] = some (.fz (.bool false)) := by rw [semNe_dp, decide_eq_true rfl]; rfl
/-- the same set of words: the same pair -/
theorem SP.same {p q : Pr} {A B : List (List Nat)} (h : SP p A) (g : SP q B) (e : ∀ a, a ∈ A ↔ a ∈ B) : p = q := (h.set e).one_pair g
theorem sl10_neg (l : List Nat) (hl : l ≠ []) : semSl10 [.fz (S l), .fz (.int (-1))] = some (.fz (S [l.getLast hl])) := by
  have e : semSl10 [.fz (S l), .fz (.int (-1))] = some (.fz (S (cutL l (some (-1)) none))) := rfl
  rw [e]
  have p : 0 < l.length := List.length_pos_iff.mpr hl
  have s1 : HT.sIx l.length 0 (some (-1)) = l.length - 1 := by
    show (if (-1 : Int) < 0 then ((-1 : Int) + (l.length : Int)).toNat else min (-1 : Int).toNat l.length) = _
    rw [if_pos (by decide)]
    omega
  have : cutL l (some (-1)) none = [l.getLast hl] := by
    unfold cutL
    rw [s1, HT.sIx_none]
    have d : l.drop (l.length - 1) = [l.getLast hl] := by
      conv => lhs; arg 2; rw [← List.dropLast_concat_getLast hl]
      rw [List.drop_left' (by rw [List.length_dropLast])]
    rw [d]
    exact List.take_of_length_le (by simp; omega)
  rw [this]
theorem lcpL_le {ws : List (List Nat)} (hn : ws ≠ []) {M : Nat} (hw : ∀ w ∈ ws, w.length ≤ M) : (lcpL ws).length ≤ M := by
  obtain ⟨a, ha⟩ := List.exists_mem_of_ne_nil ws hn
  exact Nat.le_trans ((lcpL_pre hn).mp (List.prefix_refl _) a ha).length_le (hw a ha)
end LW
set_option Elab.async false
set_option linter.all false
set_option maxRecDepth 8000
set_option maxHeartbeats 4000000
namespace LW
open DL PySem L2
/-! ### pairs of signs: is_pair -/
def sg (w : List Nat) : Prop := ∀ x ∈ w, 32 ≤ x ∧ x ≤ 126 ∧ x ≠ 37
theorem sg.app {u v : List Nat} (h : sg u) (g : sg v) : sg (u ++ v) := fun x hx => (List.mem_append.mp hx).elim (h x) (g x)
theorem sg.of_pre {u v : List Nat} (h : sg v) (p : u <+: v) : sg u := fun x hx => h x (p.subset hx)
theorem sg.take {u : List Nat} (h : sg u) (k : Nat) : sg (u.take k) := fun x hx => h x (List.mem_of_mem_take hx)
theorem sg.drop {u : List Nat} (h : sg u) (k : Nat) : sg (u.drop k) := fun x hx => h x (List.mem_of_mem_drop hx)
theorem sg.nil : sg [] := fun x hx => by simp at hx
theorem sg.lcp {u v : List Nat} (h : sg u) : sg (lcp u v) := h.of_pre (lcp_pre.mp (List.prefix_refl _)).1
theorem sg.endless {u : List Nat} (h : sg u) (n : Nat) : sg (endless u n) := fun x hx => by
  unfold LW.endless at hx
  obtain ⟨v, hv, hx⟩ := List.mem_flatten.mp (List.mem_of_mem_take hx)
  rw [(List.mem_replicate.mp hv).2] at hx
  exact h x hx
theorem sg.lr {u : List Nat} (h : sg u) : sg (lr u) := by
  unfold LW.lr
  exact h.take _
theorem sg.lat {u : List Nat} (h : sg u) (m : Nat) : sg (latR u m) := by
  unfold latR rot
  exact (h.lr.drop _).app (h.lr.take _)
def sgE (e : Ec) : Prop := sg (tx e)
def sgP (p : Pr) : Prop := sg p.1 ∧ sgE p.2
theorem sg_hrd {e : Ec} {w : List Nat} (h : sg w) : sg (hrd e w) := by
  cases e with
  | all => exact h
  | word u => exact h.lcp
  | round t => exact h.lcp
theorem sg_met {e f : Ec} (he : sgE e) (hf : sgE f) : sgE (metE e f) := by
  cases e with
  | all => exact hf
  | word u =>
    cases f with
    | all => exact he
    | word v => exact sg_hrd (e := .word v) (w := u) he
    | round t => exact sg_hrd (e := .round t) (w := u) he
  | round s =>
    cases f with
    | all => exact he
    | word v => exact sg_hrd (e := .round s) (w := v) hf
    | round t =>
      simp only [metE]
      split
      · exact he
      · exact (sg.endless (u := s) he _).lcp
theorem sg_led {d : List Nat} {e : Ec} (hd : sg d) (he : sgE e) : sgE (ledE d e) := by
  cases e with
  | all => exact hd.lr
  | word v => exact (sg.app hd (show sg v from he)).lcp
  | round t =>
    simp only [ledE]
    split
    · exact hd.lr
    · exact hd.app (hd.endless _).lcp
theorem sg_bothL {p q : Pr} (hp : sgP p) (hq : sgP q) : sgP (bothL p q) := by
  unfold bothL
  split
  · exact ⟨hp.1.lcp, sg.nil⟩
  · split
    · exact ⟨hp.1, sg_met hp.2 hq.2⟩
    · exact ⟨hp.1, sg_met hp.2 (sg_led (hq.1.drop _) hq.2)⟩
theorem sg_both {p q : Pr} (hp : sgP p) (hq : sgP q) : sgP (bothP p q) := by
  unfold bothP
  split
  · exact sg_bothL hq hp
  · exact sg_bothL hp hq
theorem sg_behind {p q : Pr} (hp : sgP p) (hq : sgP q) : sgP (behindP p q) := by
  unfold behindP
  cases c : restE p.2 q.1 with
  | none => exact ⟨hp.1.app (sg_hrd hq.1), sg.nil⟩
  | some r =>
    refine ⟨hp.1.app hq.1, sg_met ?_ hq.2⟩
    have h2 := hp.2
    generalize p.2 = e at c h2
    cases e with
    | all => cases c; exact sg.nil
    | word u =>
      simp only [restE] at c
      split at c
      · cases c; exact sg.drop (u := u) h2 _
      · cases c
    | round t =>
      simp only [restE] at c
      split at c
      · cases c; exact sg.lat (u := t) h2 _
      · cases c
theorem sg_pairs : ∀ {ws : List (List Nat)} {p : Pr}, sgP p → (∀ w ∈ ws, sg w) → sgP (LW.pairs p ws)
  | [], p, h, _ => h
  | w :: ws, p, h, hw => sg_pairs (ws := ws) (p := bothP p (w, .all)) (sg_both h ⟨hw w (by simp), sg.nil⟩) fun v hv => hw v (List.mem_cons_of_mem _ hv)
theorem SP.sg {p : Pr} {ws : List (List Nat)} (h : SP p ws) (hw : ∀ w ∈ ws, LW.sg w) : sgP p := by
  cases ws with
  | nil => exact absurd rfl h.ne
  | cons w r =>
    have g : SP (LW.pairs (w, .all) r) (w :: r) := (SP.one w).pairs
    rw [h.one_pair g]
    exact sg_pairs ⟨hw w (by simp), sg.nil⟩ fun v hv => hw v (List.mem_cons_of_mem _ hv)
theorem semLe_S1 (a b : Nat) : semLe [.fz (S [a]), .fz (S [b])] = some (.fz (.bool (decide (a ≤ b)))) := by
  show some (C.fz (.bool (!decide ([b] < [a])))) = _
  congr 3
  by_cases h : a ≤ b
  · rw [decide_eq_true h]
    have : ¬ [b] < [a] := fun z => by
      rcases List.cons_lt_cons_iff.mp z with z | ⟨_, z⟩
      · omega
      · exact absurd z (List.lt_irrefl [])
    simp [this]
  · rw [decide_eq_false h]
    have : [b] < [a] := List.cons_lt_cons_iff.mpr (.inl (by omega))
    simp [this]
theorem is_word_ok {w : List Nat} (h : sg w) (hl : w.length ≤ 1000000) : f_is_word [.fz (S w)] = some (.fz (.bool true), [some (.fz (S w))]) := by
  have is : semIsi "str" [.fz (S w)] = some (.fz (.bool true)) := rfl
  have lc := lcL_map (vs := [1]) (g := gSet 1) (t := tYesD) (f := e1_is_word) (env := [some (.fz (S w)), none]) (fun c : Nat => (.str ⟨#[c]⟩ : PyData)) (fun _ => .bool true) w [] (by simp; omega) (fun c hc => by
    obtain ⟨h1, h2, h3⟩ := h c hc
    have a1 := semLe_S1 32 c
    have a2 := semLe_S1 c 36
    have a3 := semLe_S1 38 c
    have a4 := semLe_S1 c 126
    rw [decide_eq_true h1] at a1
    rw [decide_eq_true h2] at a4
    refine ⟨[some (.fz (S w)), some (.fz (S [c]))], by (simp only [gSet, wipeE, dSeq, dIfS, dTst, dOp, dOs, dVal, dSlot, dC, dVar, dIf, dAnd, dOr, dNot, dAndV, dOrV, dNotV, dTup, dLst, seeAll, see, valDatas, C.data, C.put, C.frozen, dSet, settable, dSetIx, ownL, dMut, dRetV, dRet, dRetN, dExp, dNext, dPar, dPar3, iAny, iEnumD, iZipD, lstOf, dChain, dAug, dCall, passAll, passO, ownSlots, nodupB, writeAll, dFor, iRg1, iRg2, iLst, iTpl, iStrD, gSet, gTuple, gMore, gEnd, dAsg, dMth, isStr, mkFn, isNone, intOf, DL.cutD, dLc, plainAt, tYesD, dSl11, List.getElem?_cons_zero, List.getElem?_cons_succ, List.getElem?_nil, List.set_cons_zero, List.set_cons_succ, List.length_cons, List.length_nil, List.map_cons, List.map_nil, List.replicate_succ, List.replicate_zero, List.cons_append, List.nil_append, List.append_nil, List.take_succ_cons, List.take_zero, List.contains_cons, List.contains_nil, Nat.reduceAdd, Nat.reduceLeDiff, Nat.reduceEqDiff, reduceIte, Nat.zero_add, Bool.and_true, Bool.true_and, Bool.not_false, Bool.false_eq_true, decide_true, decide_false, Bool.not_true, beq_self_eq_true, Bool.or_false, Bool.false_or, Nat.reduceBEq]) <;> rfl, [some (.fz (S w)), some (.fz (S [c]))], .fz (.bool true), [some (.fz (S w)), some (.fz (S [c]))], by (simp only [tYesD]) <;> rfl, ?_, rfl, by (simp only [backE, dSeq, dIfS, dTst, dOp, dOs, dVal, dSlot, dC, dVar, dIf, dAnd, dOr, dNot, dAndV, dOrV, dNotV, dTup, dLst, seeAll, see, valDatas, C.data, C.put, C.frozen, dSet, settable, dSetIx, ownL, dMut, dRetV, dRet, dRetN, dExp, dNext, dPar, dPar3, iAny, iEnumD, iZipD, lstOf, dChain, dAug, dCall, passAll, passO, ownSlots, nodupB, writeAll, dFor, iRg1, iRg2, iLst, iTpl, iStrD, gSet, gTuple, gMore, gEnd, dAsg, dMth, isStr, mkFn, isNone, intOf, DL.cutD, dLc, plainAt, tYesD, dSl11, List.getElem?_cons_zero, List.getElem?_cons_succ, List.getElem?_nil, List.set_cons_zero, List.set_cons_succ, List.length_cons, List.length_nil, List.map_cons, List.map_nil, List.replicate_succ, List.replicate_zero, List.cons_append, List.nil_append, List.append_nil, List.take_succ_cons, List.take_zero, List.contains_cons, List.contains_nil, Nat.reduceAdd, Nat.reduceLeDiff, Nat.reduceEqDiff, reduceIte, Nat.zero_add, Bool.and_true, Bool.true_and, Bool.not_false, Bool.false_eq_true, decide_true, decide_false, Bool.not_true, beq_self_eq_true, Bool.or_false, Bool.false_or, Nat.reduceBEq]) <;> rfl⟩
    by_cases q : c ≤ 36
    · rw [decide_eq_true q] at a2
      simp only [e1_is_word, dChain, dSeq, dIfS, dTst, dOp, dOs, dVal, dSlot, dC, dVar, dIf, dAnd, dOr, dNot, dAndV, dOrV, dNotV, dTup, dLst, seeAll, see, valDatas, C.data, C.put, C.frozen, dSet, settable, dSetIx, ownL, dMut, dRetV, dRet, dRetN, dExp, dNext, dPar, dPar3, iAny, iEnumD, iZipD, lstOf, dChain, dAug, dCall, passAll, passO, ownSlots, nodupB, writeAll, dFor, iRg1, iRg2, iLst, iTpl, iStrD, gSet, gTuple, gMore, gEnd, dAsg, dMth, isStr, mkFn, isNone, intOf, DL.cutD, dLc, plainAt, tYesD, dSl11, List.getElem?_cons_zero, List.getElem?_cons_succ, List.getElem?_nil, List.set_cons_zero, List.set_cons_succ, List.length_cons, List.length_nil, List.map_cons, List.map_nil, List.replicate_succ, List.replicate_zero, List.cons_append, List.nil_append, List.append_nil, List.take_succ_cons, List.take_zero, List.contains_cons, List.contains_nil, Nat.reduceAdd, Nat.reduceLeDiff, Nat.reduceEqDiff, reduceIte, Nat.zero_add, Bool.and_true, Bool.true_and, Bool.not_false, Bool.false_eq_true, decide_true, decide_false, Bool.not_true, beq_self_eq_true, Bool.or_false, Bool.false_or, Nat.reduceBEq, a1, a2]
    · rw [decide_eq_false q] at a2
      rw [decide_eq_true (show 38 ≤ c by omega)] at a3
      simp only [e1_is_word, dChain, dSeq, dIfS, dTst, dOp, dOs, dVal, dSlot, dC, dVar, dIf, dAnd, dOr, dNot, dAndV, dOrV, dNotV, dTup, dLst, seeAll, see, valDatas, C.data, C.put, C.frozen, dSet, settable, dSetIx, ownL, dMut, dRetV, dRet, dRetN, dExp, dNext, dPar, dPar3, iAny, iEnumD, iZipD, lstOf, dChain, dAug, dCall, passAll, passO, ownSlots, nodupB, writeAll, dFor, iRg1, iRg2, iLst, iTpl, iStrD, gSet, gTuple, gMore, gEnd, dAsg, dMth, isStr, mkFn, isNone, intOf, DL.cutD, dLc, plainAt, tYesD, dSl11, List.getElem?_cons_zero, List.getElem?_cons_succ, List.getElem?_nil, List.set_cons_zero, List.set_cons_succ, List.length_cons, List.length_nil, List.map_cons, List.map_nil, List.replicate_succ, List.replicate_zero, List.cons_append, List.nil_append, List.append_nil, List.take_succ_cons, List.take_zero, List.contains_cons, List.contains_nil, Nat.reduceAdd, Nat.reduceLeDiff, Nat.reduceEqDiff, reduceIte, Nat.zero_add, Bool.and_true, Bool.true_and, Bool.not_false, Bool.false_eq_true, decide_true, decide_false, Bool.not_true, beq_self_eq_true, Bool.or_false, Bool.false_or, Nat.reduceBEq, a1, a2, a3, a4])
  rw [List.nil_append] at lc
  have al := semAll_map (fun _ : Nat => true) w
  have lc' : dLcL [1] (gSet 1) tYesD e1_is_word (List.map (fun c : Nat => (.str ⟨#[c]⟩ : PyData)) w) [] [some (.fz (S w)), none] = some (w.map (fun _ => .bool true), [some (.fz (S w)), none]) := lc
  have alt : (w.all fun _ => true) = true := by simp
  rw [alt] at al
  have cp : (S w) = .str ⟨⟨w⟩⟩ := rfl
  rw [cp] at is lc' ⊢
  simp only [f_is_word, b_is_word, dSeq, dIfS, dTst, dOp, dOs, dVal, dSlot, dC, dVar, dIf, dAnd, dOr, dNot, dAndV, dOrV, dNotV, dTup, dLst, seeAll, see, valDatas, C.data, C.put, C.frozen, dSet, dSetIx, ownL, dMut, dRetV, dRet, dRetN, dExp, dNext, dPar, dPar3, iAny, iEnumD, iZipD, lstOf, dChain, dAug, dCall, passAll, passO, ownSlots, nodupB, writeAll, dFor, iRg1, iRg2, iLst, iTpl, iStrD, gSet, gTuple, gMore, gEnd, dAsg, dMth, isStr, mkFn, isNone, intOf, DL.cutD, dLc, plainAt, tYesD, dSl11, settable_zero, settable_succ, np_none, np_fz, np_ow, np_sc, List.getElem?_cons_zero, List.getElem?_cons_succ, List.getElem?_nil, List.set_cons_zero, List.set_cons_succ, List.length_cons, List.length_nil, List.map_cons, List.map_nil, List.replicate_succ, List.replicate_zero, List.cons_append, List.nil_append, List.append_nil, List.take_succ_cons, List.take_zero, List.contains_cons, List.contains_nil, Nat.reduceAdd, Nat.reduceLeDiff, Nat.reduceEqDiff, reduceIte, Nat.zero_add, Bool.and_true, Bool.true_and, Bool.not_false, Bool.false_eq_true, decide_true, decide_false, Bool.not_true, beq_self_eq_true, Bool.or_false, Bool.false_or, Nat.reduceBEq, is, lc', al]
theorem tyT (ds : List PyData) : semIsi "tuple" [.fz (.tuple ds)] = some (.fz (.bool true)) := rfl
theorem semLen_T (ds : List PyData) : semLen [.fz (.tuple ds)] = some (.fz (.int (ds.length : Int))) := rfl
theorem kd_sg (e : Ec) : sg (kd e) := by
  cases e <;> (intro x hx; simp [kd] at hx; omega)
theorem is_pair_ok {p : Pr} (hp : canE p.2) (hs : sgP p) (hz : szP p ≤ 100000) : f_is_pair [.fz (dp p)] = some (.fz (.bool true), [some (.fz (dp p))]) := by
  have xl : (tx p.2).length ≤ szE p.2 := by cases p.2 <;> simp [tx, szE]
  have kl : (kd p.2).length ≤ 5 := by cases p.2 <;> simp [kd]
  unfold szP at hz
  have is := tyT [S p.1, S (kd p.2), S (tx p.2)]
  have ln := semLen_T [S p.1, S (kd p.2), S (tx p.2)]
  have ne : semNe [.fz (.int 3), .fz (.int 3)] = some (.fz (.bool false)) := by rw [semNe_int]; rfl
  have lc := lcL_map (vs := [4]) (g := gSet 4) (t := tYesD) (f := e1_is_pair) (env := [some (.fz (.tuple [S p.1, S (kd p.2), S (tx p.2)])), none, none, none, none]) S (fun _ => .bool true) [p.1, kd p.2, tx p.2] [] (by simp) (fun v hv => by
    have w : f_is_word [.fz (S v)] = some (.fz (.bool true), [some (.fz (S v))]) := by
      simp only [List.mem_cons, List.not_mem_nil, or_false] at hv
      rcases hv with rfl | rfl | rfl
      · exact is_word_ok hs.1 (by omega)
      · exact is_word_ok (kd_sg _) (by omega)
      · exact is_word_ok hs.2 (by omega)
    exact ⟨_, by (simp only [gSet, wipeE, dSeq, dIfS, dTst, dOp, dOs, dVal, dSlot, dC, dVar, dIf, dAnd, dOr, dNot, dAndV, dOrV, dNotV, dTup, dLst, seeAll, see, valDatas, C.data, C.put, C.frozen, dSet, settable, dSetIx, ownL, dMut, dRetV, dRet, dRetN, dExp, dNext, dPar, dPar3, iAny, iEnumD, iZipD, lstOf, dChain, dAug, dCall, passAll, passO, ownSlots, nodupB, writeAll, dFor, iRg1, iRg2, iLst, iTpl, iStrD, gSet, gTuple, gMore, gEnd, dAsg, dMth, isStr, mkFn, isNone, intOf, DL.cutD, dLc, plainAt, tYesD, dSl11, List.getElem?_cons_zero, List.getElem?_cons_succ, List.getElem?_nil, List.set_cons_zero, List.set_cons_succ, List.length_cons, List.length_nil, List.map_cons, List.map_nil, List.replicate_succ, List.replicate_zero, List.cons_append, List.nil_append, List.append_nil, List.take_succ_cons, List.take_zero, List.contains_cons, List.contains_nil, Nat.reduceAdd, Nat.reduceLeDiff, Nat.reduceEqDiff, reduceIte, Nat.zero_add, Bool.and_true, Bool.true_and, Bool.not_false, Bool.false_eq_true, decide_true, decide_false, Bool.not_true, beq_self_eq_true, Bool.or_false, Bool.false_or, Nat.reduceBEq]) <;> rfl, _, _, _, by (simp only [tYesD]) <;> rfl, by (simp only [e1_is_pair, dSeq, dIfS, dTst, dOp, dOs, dVal, dSlot, dC, dVar, dIf, dAnd, dOr, dNot, dAndV, dOrV, dNotV, dTup, dLst, seeAll, see, valDatas, C.data, C.put, C.frozen, dSet, settable, dSetIx, ownL, dMut, dRetV, dRet, dRetN, dExp, dNext, dPar, dPar3, iAny, iEnumD, iZipD, lstOf, dChain, dAug, dCall, passAll, passO, ownSlots, nodupB, writeAll, dFor, iRg1, iRg2, iLst, iTpl, iStrD, gSet, gTuple, gMore, gEnd, dAsg, dMth, isStr, mkFn, isNone, intOf, DL.cutD, dLc, plainAt, tYesD, dSl11, List.getElem?_cons_zero, List.getElem?_cons_succ, List.getElem?_nil, List.set_cons_zero, List.set_cons_succ, List.length_cons, List.length_nil, List.map_cons, List.map_nil, List.replicate_succ, List.replicate_zero, List.cons_append, List.nil_append, List.append_nil, List.take_succ_cons, List.take_zero, List.contains_cons, List.contains_nil, Nat.reduceAdd, Nat.reduceLeDiff, Nat.reduceEqDiff, reduceIte, Nat.zero_add, Bool.and_true, Bool.true_and, Bool.not_false, Bool.false_eq_true, decide_true, decide_false, Bool.not_true, beq_self_eq_true, Bool.or_false, Bool.false_or, Nat.reduceBEq, w]) <;> rfl, rfl, by (simp only [backE, dSeq, dIfS, dTst, dOp, dOs, dVal, dSlot, dC, dVar, dIf, dAnd, dOr, dNot, dAndV, dOrV, dNotV, dTup, dLst, seeAll, see, valDatas, C.data, C.put, C.frozen, dSet, settable, dSetIx, ownL, dMut, dRetV, dRet, dRetN, dExp, dNext, dPar, dPar3, iAny, iEnumD, iZipD, lstOf, dChain, dAug, dCall, passAll, passO, ownSlots, nodupB, writeAll, dFor, iRg1, iRg2, iLst, iTpl, iStrD, gSet, gTuple, gMore, gEnd, dAsg, dMth, isStr, mkFn, isNone, intOf, DL.cutD, dLc, plainAt, tYesD, dSl11, List.getElem?_cons_zero, List.getElem?_cons_succ, List.getElem?_nil, List.set_cons_zero, List.set_cons_succ, List.length_cons, List.length_nil, List.map_cons, List.map_nil, List.replicate_succ, List.replicate_zero, List.cons_append, List.nil_append, List.append_nil, List.take_succ_cons, List.take_zero, List.contains_cons, List.contains_nil, Nat.reduceAdd, Nat.reduceLeDiff, Nat.reduceEqDiff, reduceIte, Nat.zero_add, Bool.and_true, Bool.true_and, Bool.not_false, Bool.false_eq_true, decide_true, decide_false, Bool.not_true, beq_self_eq_true, Bool.or_false, Bool.false_or, Nat.reduceBEq]) <;> rfl⟩)
  rw [List.nil_append] at lc
  have al := semAll_map (fun _ : List Nat => true) [p.1, kd p.2, tx p.2]
  have alt : ([p.1, kd p.2, tx p.2].all fun _ => true) = true := rfl
  rw [alt] at al
  simp only [List.map_cons, List.map_nil, List.length_cons, List.length_nil, Nat.zero_add, Nat.reduceAdd, Int.cast_ofNat_Int] at lc al ln
  obtain ⟨hd, e⟩ := p
  have eE : semEq [.fz (S []), .fz (S [])] = some (.fz (.bool true)) := eqK _ _ _ (by decide)
  cases e with
  | all =>
    simp only [dp, kd_all, kd_word, kd_round, tx_all, tx_word, tx_round] at *
    simp only [f_is_pair, b_is_pair, dSeq, dIfS, dTst, dOp, dOs, dVal, dSlot, dC, dVar, dIf, dAnd, dOr, dNot, dAndV, dOrV, dNotV, dTup, dLst, seeAll, see, valDatas, C.data, C.put, C.frozen, dSet, dSetIx, ownL, dMut, dRetV, dRet, dRetN, dExp, dNext, dPar, dPar3, iAny, iEnumD, iZipD, lstOf, dChain, dAug, dCall, passAll, passO, ownSlots, nodupB, writeAll, dFor, iRg1, iRg2, iLst, iTpl, iStrD, gSet, gTuple, gMore, gEnd, dAsg, dMth, isStr, mkFn, isNone, intOf, DL.cutD, dLc, plainAt, tYesD, dSl11, settable_zero, settable_succ, np_none, np_fz, np_ow, np_sc, List.getElem?_cons_zero, List.getElem?_cons_succ, List.getElem?_nil, List.set_cons_zero, List.set_cons_succ, List.length_cons, List.length_nil, List.map_cons, List.map_nil, List.replicate_succ, List.replicate_zero, List.cons_append, List.nil_append, List.append_nil, List.take_succ_cons, List.take_zero, List.contains_cons, List.contains_nil, Nat.reduceAdd, Nat.reduceLeDiff, Nat.reduceEqDiff, reduceIte, Nat.zero_add, Bool.and_true, Bool.true_and, Bool.not_false, Bool.false_eq_true, decide_true, decide_false, Bool.not_true, beq_self_eq_true, Bool.or_false, Bool.false_or, Nat.reduceBEq, is, ln, ne, lc, al, eAA, eE]
  | word u =>
    simp only [dp, kd_all, kd_word, kd_round, tx_all, tx_word, tx_round] at *
    simp only [f_is_pair, b_is_pair, dSeq, dIfS, dTst, dOp, dOs, dVal, dSlot, dC, dVar, dIf, dAnd, dOr, dNot, dAndV, dOrV, dNotV, dTup, dLst, seeAll, see, valDatas, C.data, C.put, C.frozen, dSet, dSetIx, ownL, dMut, dRetV, dRet, dRetN, dExp, dNext, dPar, dPar3, iAny, iEnumD, iZipD, lstOf, dChain, dAug, dCall, passAll, passO, ownSlots, nodupB, writeAll, dFor, iRg1, iRg2, iLst, iTpl, iStrD, gSet, gTuple, gMore, gEnd, dAsg, dMth, isStr, mkFn, isNone, intOf, DL.cutD, dLc, plainAt, tYesD, dSl11, settable_zero, settable_succ, np_none, np_fz, np_ow, np_sc, List.getElem?_cons_zero, List.getElem?_cons_succ, List.getElem?_nil, List.set_cons_zero, List.set_cons_succ, List.length_cons, List.length_nil, List.map_cons, List.map_nil, List.replicate_succ, List.replicate_zero, List.cons_append, List.nil_append, List.append_nil, List.take_succ_cons, List.take_zero, List.contains_cons, List.contains_nil, Nat.reduceAdd, Nat.reduceLeDiff, Nat.reduceEqDiff, reduceIte, Nat.zero_add, Bool.and_true, Bool.true_and, Bool.not_false, Bool.false_eq_true, decide_true, decide_false, Bool.not_true, beq_self_eq_true, Bool.or_false, Bool.false_or, Nat.reduceBEq, is, ln, ne, lc, al, eWA, eWR, eWW]
  | round t =>
    simp only [szE] at hz
    have lr := lr_ok hp.1 (by omega)
    rw [lr_self hp.1 hp.2] at lr
    have nn := semNe_S t []
    rw [decide_eq_false hp.1] at nn
    have et := semEq_S t t
    rw [decide_eq_true rfl] at et
    simp only [dp, kd_all, kd_word, kd_round, tx_all, tx_word, tx_round] at *
    simp only [f_is_pair, b_is_pair, dSeq, dIfS, dTst, dOp, dOs, dVal, dSlot, dC, dVar, dIf, dAnd, dOr, dNot, dAndV, dOrV, dNotV, dTup, dLst, seeAll, see, valDatas, C.data, C.put, C.frozen, dSet, dSetIx, ownL, dMut, dRetV, dRet, dRetN, dExp, dNext, dPar, dPar3, iAny, iEnumD, iZipD, lstOf, dChain, dAug, dCall, passAll, passO, ownSlots, nodupB, writeAll, dFor, iRg1, iRg2, iLst, iTpl, iStrD, gSet, gTuple, gMore, gEnd, dAsg, dMth, isStr, mkFn, isNone, intOf, DL.cutD, dLc, plainAt, tYesD, dSl11, settable_zero, settable_succ, np_none, np_fz, np_ow, np_sc, List.getElem?_cons_zero, List.getElem?_cons_succ, List.getElem?_nil, List.set_cons_zero, List.set_cons_succ, List.length_cons, List.length_nil, List.map_cons, List.map_nil, List.replicate_succ, List.replicate_zero, List.cons_append, List.nil_append, List.append_nil, List.take_succ_cons, List.take_zero, List.contains_cons, List.contains_nil, Nat.reduceAdd, Nat.reduceLeDiff, Nat.reduceEqDiff, reduceIte, Nat.zero_add, Bool.and_true, Bool.true_and, Bool.not_false, Bool.false_eq_true, decide_true, decide_false, Bool.not_true, beq_self_eq_true, Bool.or_false, Bool.false_or, Nat.reduceBEq, is, ln, ne, lc, al, eRA, eRR, nn, lr, et]
end LW
set_option Elab.async false
set_option linter.all false
set_option maxRecDepth 8000
set_option maxHeartbeats 4000000
namespace LW
open DL PySem L2
/-! ### pairs of anything: the program's look and the law's own are one -/
def inR (c : Nat) : Bool := (decide (32 ≤ c) && decide (c ≤ 36)) || (decide (38 ≤ c) && decide (c ≤ 126))
def isWordD : PyData → Bool
  | .str x => x.cps.toList.all inR
  | _ => false
noncomputable def lastOk (k t : List Nat) : Bool :=
  if k = [97, 108, 108] then decide (t = [])
  else if k = [114, 111, 117, 110, 100] then !decide (t = []) && decide (lr t = t)
  else decide (k = [119, 111, 114, 100])
noncomputable def lastD : PyData → PyData → Bool
  | .str k, .str t => lastOk k.cps.toList t.cps.toList
  | _, _ => false
noncomputable def isPairD : PyData → Bool
  | .tuple [a, b, c] => (isWordD a && isWordD b && isWordD c) && lastD b c
  | _ => false
theorem semLe_S1' (a b : Nat) : semLe [.fz (S [a]), .fz (S [b])] = some (.fz (.bool (decide (a ≤ b)))) := by
  show some (C.fz (.bool (!decide ([b] < [a])))) = _
  congr 3
  by_cases h : a ≤ b
  · rw [decide_eq_true h]
    have : ¬ [b] < [a] := fun z => by
      rcases List.cons_lt_cons_iff.mp z with z | ⟨_, z⟩
      · omega
      · exact absurd z (List.lt_irrefl [])
    simp [this]
  · rw [decide_eq_false h]
    have : [b] < [a] := List.cons_lt_cons_iff.mpr (.inl (by omega))
    simp [this]
theorem not_strD {d : PyData} (h : ∀ x, d ≠ .str x) : semIsi "str" [.fz d] = some (.fz (.bool false)) := by
  cases d with
  | str x => exact absurd rfl (h x)
  | _ => rfl
theorem not_wordD {d : PyData} (h : ∀ x, d ≠ .str x) : isWordD d = false := by
  cases d with
  | str x => exact absurd rfl (h x)
  | _ => rfl
def short (d : PyData) : Prop := ∀ x, d = .str x → x.cps.toList.length ≤ 100000
theorem sign_ok (c : Nat) (e : FE) (he : e = dOrV (dChain semLe semLe (dVal (dC (S [32]))) (dSlot 1) (dVal (dC (S [36])))) (dChain semLe semLe (dVal (dC (S [38]))) (dSlot 1) (dVal (dC (S [126]))))) (x : Option C) :
    e [x, some (.fz (S [c]))] = some (.fz (.bool (inR c)), [x, some (.fz (S [c]))]) := by
  subst he
  have a1 := semLe_S1' 32 c
  have a2 := semLe_S1' c 36
  have a3 := semLe_S1' 38 c
  have a4 := semLe_S1' c 126
  unfold inR
  cases h1 : decide (32 ≤ c) <;> cases h2 : decide (c ≤ 36) <;> cases h3 : decide (38 ≤ c) <;> cases h4 : decide (c ≤ 126) <;> rw [h1] at a1 <;> rw [h2] at a2 <;> rw [h3] at a3 <;> rw [h4] at a4 <;>
    simp only [dChain, dSeq, dIfS, dTst, dOp, dOs, dVal, dSlot, dC, dVar, dIf, dAnd, dOr, dNot, dAndV, dOrV, dNotV, dTup, dLst, seeAll, see, valDatas, C.data, C.put, C.frozen, dSet, settable, dSetIx, ownL, dMut, dRetV, dRet, dRetN, dExp, dNext, dPar, dPar3, iAny, iEnumD, iZipD, lstOf, dChain, dAug, dCall, passAll, passO, ownSlots, nodupB, writeAll, dFor, iRg1, iRg2, iLst, iTpl, iStrD, gSet, gTuple, gMore, gEnd, dAsg, dMth, isStr, mkFn, isNone, intOf, DL.cutD, dLc, plainAt, tYesD, dSl11, List.getElem?_cons_zero, List.getElem?_cons_succ, List.getElem?_nil, List.set_cons_zero, List.set_cons_succ, List.length_cons, List.length_nil, List.map_cons, List.map_nil, List.replicate_succ, List.replicate_zero, List.cons_append, List.nil_append, List.append_nil, List.take_succ_cons, List.take_zero, List.contains_cons, List.contains_nil, Nat.reduceAdd, Nat.reduceLeDiff, Nat.reduceEqDiff, reduceIte, Nat.zero_add, Bool.and_true, Bool.true_and, Bool.not_false, Bool.false_eq_true, decide_true, decide_false, Bool.not_true, beq_self_eq_true, Bool.or_false, Bool.false_or, Nat.reduceBEq, a1, a2, a3, a4, Bool.and_false, Bool.false_and, Bool.true_or, Bool.or_true]
theorem is_wordD_ok (d : PyData) (hl : short d) : f_is_word [.fz d] = some (.fz (.bool (isWordD d)), [some (.fz d)]) := by
  by_cases hs : ∃ x, d = .str x
  · obtain ⟨⟨⟨l⟩⟩, rfl⟩ := hs
    have hl := hl _ rfl
    have is : semIsi "str" [.fz (.str ⟨⟨l⟩⟩)] = some (.fz (.bool true)) := rfl
    have lc := lcL_map (vs := [1]) (g := gSet 1) (t := tYesD) (f := e1_is_word) (env := [some (.fz (.str ⟨⟨l⟩⟩)), none]) (fun c : Nat => (.str ⟨#[c]⟩ : PyData)) (fun c => .bool (inR c)) l [] (by simp; simp at hl; omega) (fun c hc => by
      have sg := sign_ok c e1_is_word rfl (some (.fz (.str ⟨⟨l⟩⟩)))
      exact ⟨[some (.fz (.str ⟨⟨l⟩⟩)), some (.fz (S [c]))], by (simp only [gSet, wipeE, dSeq, dIfS, dTst, dOp, dOs, dVal, dSlot, dC, dVar, dIf, dAnd, dOr, dNot, dAndV, dOrV, dNotV, dTup, dLst, seeAll, see, valDatas, C.data, C.put, C.frozen, dSet, settable, dSetIx, ownL, dMut, dRetV, dRet, dRetN, dExp, dNext, dPar, dPar3, iAny, iEnumD, iZipD, lstOf, dChain, dAug, dCall, passAll, passO, ownSlots, nodupB, writeAll, dFor, iRg1, iRg2, iLst, iTpl, iStrD, gSet, gTuple, gMore, gEnd, dAsg, dMth, isStr, mkFn, isNone, intOf, DL.cutD, dLc, plainAt, tYesD, dSl11, List.getElem?_cons_zero, List.getElem?_cons_succ, List.getElem?_nil, List.set_cons_zero, List.set_cons_succ, List.length_cons, List.length_nil, List.map_cons, List.map_nil, List.replicate_succ, List.replicate_zero, List.cons_append, List.nil_append, List.append_nil, List.take_succ_cons, List.take_zero, List.contains_cons, List.contains_nil, Nat.reduceAdd, Nat.reduceLeDiff, Nat.reduceEqDiff, reduceIte, Nat.zero_add, Bool.and_true, Bool.true_and, Bool.not_false, Bool.false_eq_true, decide_true, decide_false, Bool.not_true, beq_self_eq_true, Bool.or_false, Bool.false_or, Nat.reduceBEq]) <;> rfl, _, _, _, by (simp only [tYesD]) <;> rfl, sg, rfl, by (simp only [backE, dSeq, dIfS, dTst, dOp, dOs, dVal, dSlot, dC, dVar, dIf, dAnd, dOr, dNot, dAndV, dOrV, dNotV, dTup, dLst, seeAll, see, valDatas, C.data, C.put, C.frozen, dSet, settable, dSetIx, ownL, dMut, dRetV, dRet, dRetN, dExp, dNext, dPar, dPar3, iAny, iEnumD, iZipD, lstOf, dChain, dAug, dCall, passAll, passO, ownSlots, nodupB, writeAll, dFor, iRg1, iRg2, iLst, iTpl, iStrD, gSet, gTuple, gMore, gEnd, dAsg, dMth, isStr, mkFn, isNone, intOf, DL.cutD, dLc, plainAt, tYesD, dSl11, List.getElem?_cons_zero, List.getElem?_cons_succ, List.getElem?_nil, List.set_cons_zero, List.set_cons_succ, List.length_cons, List.length_nil, List.map_cons, List.map_nil, List.replicate_succ, List.replicate_zero, List.cons_append, List.nil_append, List.append_nil, List.take_succ_cons, List.take_zero, List.contains_cons, List.contains_nil, Nat.reduceAdd, Nat.reduceLeDiff, Nat.reduceEqDiff, reduceIte, Nat.zero_add, Bool.and_true, Bool.true_and, Bool.not_false, Bool.false_eq_true, decide_true, decide_false, Bool.not_true, beq_self_eq_true, Bool.or_false, Bool.false_or, Nat.reduceBEq]) <;> rfl⟩)
    rw [List.nil_append] at lc
    have al := semAll_map inR l
    show f_is_word _ = some (C.fz (.bool (l.all inR)), _)
    simp only [f_is_word, b_is_word, dSeq, dIfS, dTst, dOp, dOs, dVal, dSlot, dC, dVar, dIf, dAnd, dOr, dNot, dAndV, dOrV, dNotV, dTup, dLst, seeAll, see, valDatas, C.data, C.put, C.frozen, dSet, dSetIx, ownL, dMut, dRetV, dRet, dRetN, dExp, dNext, dPar, dPar3, iAny, iEnumD, iZipD, lstOf, dChain, dAug, dCall, passAll, passO, ownSlots, nodupB, writeAll, dFor, iRg1, iRg2, iLst, iTpl, iStrD, gSet, gTuple, gMore, gEnd, dAsg, dMth, isStr, mkFn, isNone, intOf, DL.cutD, dLc, plainAt, tYesD, dSl11, settable_zero, settable_succ, np_none, np_fz, np_ow, np_sc, List.getElem?_cons_zero, List.getElem?_cons_succ, List.getElem?_nil, List.set_cons_zero, List.set_cons_succ, List.length_cons, List.length_nil, List.map_cons, List.map_nil, List.replicate_succ, List.replicate_zero, List.cons_append, List.nil_append, List.append_nil, List.take_succ_cons, List.take_zero, List.contains_cons, List.contains_nil, Nat.reduceAdd, Nat.reduceLeDiff, Nat.reduceEqDiff, reduceIte, Nat.zero_add, Bool.and_true, Bool.true_and, Bool.not_false, Bool.false_eq_true, decide_true, decide_false, Bool.not_true, beq_self_eq_true, Bool.or_false, Bool.false_or, Nat.reduceBEq, is, lc, al]
  · have is := not_strD fun x e => hs ⟨x, e⟩
    rw [not_wordD fun x e => hs ⟨x, e⟩]
    simp only [f_is_word, b_is_word, dSeq, dIfS, dTst, dOp, dOs, dVal, dSlot, dC, dVar, dIf, dAnd, dOr, dNot, dAndV, dOrV, dNotV, dTup, dLst, seeAll, see, valDatas, C.data, C.put, C.frozen, dSet, dSetIx, ownL, dMut, dRetV, dRet, dRetN, dExp, dNext, dPar, dPar3, iAny, iEnumD, iZipD, lstOf, dChain, dAug, dCall, passAll, passO, ownSlots, nodupB, writeAll, dFor, iRg1, iRg2, iLst, iTpl, iStrD, gSet, gTuple, gMore, gEnd, dAsg, dMth, isStr, mkFn, isNone, intOf, DL.cutD, dLc, plainAt, tYesD, dSl11, settable_zero, settable_succ, np_none, np_fz, np_ow, np_sc, List.getElem?_cons_zero, List.getElem?_cons_succ, List.getElem?_nil, List.set_cons_zero, List.set_cons_succ, List.length_cons, List.length_nil, List.map_cons, List.map_nil, List.replicate_succ, List.replicate_zero, List.cons_append, List.nil_append, List.append_nil, List.take_succ_cons, List.take_zero, List.contains_cons, List.contains_nil, Nat.reduceAdd, Nat.reduceLeDiff, Nat.reduceEqDiff, reduceIte, Nat.zero_add, Bool.and_true, Bool.true_and, Bool.not_false, Bool.false_eq_true, decide_true, decide_false, Bool.not_true, beq_self_eq_true, Bool.or_false, Bool.false_or, Nat.reduceBEq, is]
theorem law_is_wordD_ok (d : PyData) (hl : short d) : f_law_is_word [.fz d] = some (.fz (.bool (isWordD d)), [some (.fz d)]) := by
  by_cases hs : ∃ x, d = .str x
  · obtain ⟨⟨⟨l⟩⟩, rfl⟩ := hs
    have hl := hl _ rfl
    have is : semIsi "str" [.fz (.str ⟨⟨l⟩⟩)] = some (.fz (.bool true)) := rfl
    have lc := lcL_map (vs := [1]) (g := gSet 1) (t := tYesD) (f := e1_law_is_word) (env := [some (.fz (.str ⟨⟨l⟩⟩)), none]) (fun c : Nat => (.str ⟨#[c]⟩ : PyData)) (fun c => .bool (inR c)) l [] (by simp; simp at hl; omega) (fun c hc => by
      have sg := sign_ok c e1_law_is_word rfl (some (.fz (.str ⟨⟨l⟩⟩)))
      exact ⟨[some (.fz (.str ⟨⟨l⟩⟩)), some (.fz (S [c]))], by (simp only [gSet, wipeE, dSeq, dIfS, dTst, dOp, dOs, dVal, dSlot, dC, dVar, dIf, dAnd, dOr, dNot, dAndV, dOrV, dNotV, dTup, dLst, seeAll, see, valDatas, C.data, C.put, C.frozen, dSet, settable, dSetIx, ownL, dMut, dRetV, dRet, dRetN, dExp, dNext, dPar, dPar3, iAny, iEnumD, iZipD, lstOf, dChain, dAug, dCall, passAll, passO, ownSlots, nodupB, writeAll, dFor, iRg1, iRg2, iLst, iTpl, iStrD, gSet, gTuple, gMore, gEnd, dAsg, dMth, isStr, mkFn, isNone, intOf, DL.cutD, dLc, plainAt, tYesD, dSl11, List.getElem?_cons_zero, List.getElem?_cons_succ, List.getElem?_nil, List.set_cons_zero, List.set_cons_succ, List.length_cons, List.length_nil, List.map_cons, List.map_nil, List.replicate_succ, List.replicate_zero, List.cons_append, List.nil_append, List.append_nil, List.take_succ_cons, List.take_zero, List.contains_cons, List.contains_nil, Nat.reduceAdd, Nat.reduceLeDiff, Nat.reduceEqDiff, reduceIte, Nat.zero_add, Bool.and_true, Bool.true_and, Bool.not_false, Bool.false_eq_true, decide_true, decide_false, Bool.not_true, beq_self_eq_true, Bool.or_false, Bool.false_or, Nat.reduceBEq]) <;> rfl, _, _, _, by (simp only [tYesD]) <;> rfl, sg, rfl, by (simp only [backE, dSeq, dIfS, dTst, dOp, dOs, dVal, dSlot, dC, dVar, dIf, dAnd, dOr, dNot, dAndV, dOrV, dNotV, dTup, dLst, seeAll, see, valDatas, C.data, C.put, C.frozen, dSet, settable, dSetIx, ownL, dMut, dRetV, dRet, dRetN, dExp, dNext, dPar, dPar3, iAny, iEnumD, iZipD, lstOf, dChain, dAug, dCall, passAll, passO, ownSlots, nodupB, writeAll, dFor, iRg1, iRg2, iLst, iTpl, iStrD, gSet, gTuple, gMore, gEnd, dAsg, dMth, isStr, mkFn, isNone, intOf, DL.cutD, dLc, plainAt, tYesD, dSl11, List.getElem?_cons_zero, List.getElem?_cons_succ, List.getElem?_nil, List.set_cons_zero, List.set_cons_succ, List.length_cons, List.length_nil, List.map_cons, List.map_nil, List.replicate_succ, List.replicate_zero, List.cons_append, List.nil_append, List.append_nil, List.take_succ_cons, List.take_zero, List.contains_cons, List.contains_nil, Nat.reduceAdd, Nat.reduceLeDiff, Nat.reduceEqDiff, reduceIte, Nat.zero_add, Bool.and_true, Bool.true_and, Bool.not_false, Bool.false_eq_true, decide_true, decide_false, Bool.not_true, beq_self_eq_true, Bool.or_false, Bool.false_or, Nat.reduceBEq]) <;> rfl⟩)
    rw [List.nil_append] at lc
    have al := semAll_map inR l
    show f_law_is_word _ = some (C.fz (.bool (l.all inR)), _)
    simp only [f_law_is_word, b_law_is_word, dSeq, dIfS, dTst, dOp, dOs, dVal, dSlot, dC, dVar, dIf, dAnd, dOr, dNot, dAndV, dOrV, dNotV, dTup, dLst, seeAll, see, valDatas, C.data, C.put, C.frozen, dSet, dSetIx, ownL, dMut, dRetV, dRet, dRetN, dExp, dNext, dPar, dPar3, iAny, iEnumD, iZipD, lstOf, dChain, dAug, dCall, passAll, passO, ownSlots, nodupB, writeAll, dFor, iRg1, iRg2, iLst, iTpl, iStrD, gSet, gTuple, gMore, gEnd, dAsg, dMth, isStr, mkFn, isNone, intOf, DL.cutD, dLc, plainAt, tYesD, dSl11, settable_zero, settable_succ, np_none, np_fz, np_ow, np_sc, List.getElem?_cons_zero, List.getElem?_cons_succ, List.getElem?_nil, List.set_cons_zero, List.set_cons_succ, List.length_cons, List.length_nil, List.map_cons, List.map_nil, List.replicate_succ, List.replicate_zero, List.cons_append, List.nil_append, List.append_nil, List.take_succ_cons, List.take_zero, List.contains_cons, List.contains_nil, Nat.reduceAdd, Nat.reduceLeDiff, Nat.reduceEqDiff, reduceIte, Nat.zero_add, Bool.and_true, Bool.true_and, Bool.not_false, Bool.false_eq_true, decide_true, decide_false, Bool.not_true, beq_self_eq_true, Bool.or_false, Bool.false_or, Nat.reduceBEq, is, lc, al]
  · have is := not_strD fun x e => hs ⟨x, e⟩
    rw [not_wordD fun x e => hs ⟨x, e⟩]
    simp only [f_law_is_word, b_law_is_word, dSeq, dIfS, dTst, dOp, dOs, dVal, dSlot, dC, dVar, dIf, dAnd, dOr, dNot, dAndV, dOrV, dNotV, dTup, dLst, seeAll, see, valDatas, C.data, C.put, C.frozen, dSet, dSetIx, ownL, dMut, dRetV, dRet, dRetN, dExp, dNext, dPar, dPar3, iAny, iEnumD, iZipD, lstOf, dChain, dAug, dCall, passAll, passO, ownSlots, nodupB, writeAll, dFor, iRg1, iRg2, iLst, iTpl, iStrD, gSet, gTuple, gMore, gEnd, dAsg, dMth, isStr, mkFn, isNone, intOf, DL.cutD, dLc, plainAt, tYesD, dSl11, settable_zero, settable_succ, np_none, np_fz, np_ow, np_sc, List.getElem?_cons_zero, List.getElem?_cons_succ, List.getElem?_nil, List.set_cons_zero, List.set_cons_succ, List.length_cons, List.length_nil, List.map_cons, List.map_nil, List.replicate_succ, List.replicate_zero, List.cons_append, List.nil_append, List.append_nil, List.take_succ_cons, List.take_zero, List.contains_cons, List.contains_nil, Nat.reduceAdd, Nat.reduceLeDiff, Nat.reduceEqDiff, reduceIte, Nat.zero_add, Bool.and_true, Bool.true_and, Bool.not_false, Bool.false_eq_true, decide_true, decide_false, Bool.not_true, beq_self_eq_true, Bool.or_false, Bool.false_or, Nat.reduceBEq, is]
theorem isPair_len {ds : List PyData} (h : ds.length ≠ 3) : isPairD (.tuple ds) = false := by
  match ds, h with
  | [], _ => rfl
  | [_], _ => rfl
  | [_, _], _ => rfl
  | [_, _, _], h => exact absurd rfl h
  | _ :: _ :: _ :: _ :: _, _ => rfl
theorem isPair_no {d : PyData} (h : ∀ ds, d ≠ .tuple ds) : isPairD d = false := by
  cases d with
  | tuple ds => exact absurd rfl (h ds)
  | _ => rfl
theorem not_tupD {d : PyData} (h : ∀ x, d ≠ .tuple x) : semIsi "tuple" [.fz d] = some (.fz (.bool false)) := by
  cases d with
  | tuple x => exact absurd rfl (h x)
  | _ => rfl
def shorts (d : PyData) : Prop := ∀ ds, d = .tuple ds → ∀ e ∈ ds, short e
theorem is_pairD_ok (d : PyData) (hl : shorts d) : ∃ o, f_is_pair [.fz d] = some (.fz (.bool (isPairD d)), [o]) := by
  by_cases ht : ∃ ds, d = .tuple ds
  · obtain ⟨ds, rfl⟩ := ht
    have hl := hl ds rfl
    have is : semIsi "tuple" [.fz (.tuple ds)] = some (.fz (.bool true)) := rfl
    have ln : semLen [.fz (.tuple ds)] = some (.fz (.int (ds.length : Int))) := rfl
    have ne : semNe [.fz (.int (ds.length : Int)), .fz (.int 3)] = some (.fz (.bool (!decide (ds.length = 3)))) := by
      rw [semNe_int]
      congr 4
      exact decide_eq_decide.mpr (by omega)
    by_cases h3 : ds.length = 3
    · rw [decide_eq_true h3] at ne
      match ds, h3 with
      | [a, b, c], _ =>
        simp only [List.length_cons, List.length_nil] at ln ne
        have lc := lcL_map (vs := [4]) (g := gSet 4) (t := tYesD) (f := e1_is_pair) (env := [some (.fz (.tuple [a, b, c])), none, none, none, none]) (fun d : PyData => d) (fun d => .bool (isWordD d)) [a, b, c] [] (by simp) (fun v hv => by
          have w := is_wordD_ok v (hl v hv)
          exact ⟨_, by (simp only [gSet, wipeE, dSeq, dIfS, dTst, dOp, dOs, dVal, dSlot, dC, dVar, dIf, dAnd, dOr, dNot, dAndV, dOrV, dNotV, dTup, dLst, seeAll, see, valDatas, C.data, C.put, C.frozen, dSet, settable, dSetIx, ownL, dMut, dRetV, dRet, dRetN, dExp, dNext, dPar, dPar3, iAny, iEnumD, iZipD, lstOf, dChain, dAug, dCall, passAll, passO, ownSlots, nodupB, writeAll, dFor, iRg1, iRg2, iLst, iTpl, iStrD, gSet, gTuple, gMore, gEnd, dAsg, dMth, isStr, mkFn, isNone, intOf, DL.cutD, dLc, plainAt, tYesD, dSl11, List.getElem?_cons_zero, List.getElem?_cons_succ, List.getElem?_nil, List.set_cons_zero, List.set_cons_succ, List.length_cons, List.length_nil, List.map_cons, List.map_nil, List.replicate_succ, List.replicate_zero, List.cons_append, List.nil_append, List.append_nil, List.take_succ_cons, List.take_zero, List.contains_cons, List.contains_nil, Nat.reduceAdd, Nat.reduceLeDiff, Nat.reduceEqDiff, reduceIte, Nat.zero_add, Bool.and_true, Bool.true_and, Bool.not_false, Bool.false_eq_true, decide_true, decide_false, Bool.not_true, beq_self_eq_true, Bool.or_false, Bool.false_or, Nat.reduceBEq]) <;> rfl, _, _, _, by (simp only [tYesD]) <;> rfl, by (simp only [e1_is_pair, dSeq, dIfS, dTst, dOp, dOs, dVal, dSlot, dC, dVar, dIf, dAnd, dOr, dNot, dAndV, dOrV, dNotV, dTup, dLst, seeAll, see, valDatas, C.data, C.put, C.frozen, dSet, settable, dSetIx, ownL, dMut, dRetV, dRet, dRetN, dExp, dNext, dPar, dPar3, iAny, iEnumD, iZipD, lstOf, dChain, dAug, dCall, passAll, passO, ownSlots, nodupB, writeAll, dFor, iRg1, iRg2, iLst, iTpl, iStrD, gSet, gTuple, gMore, gEnd, dAsg, dMth, isStr, mkFn, isNone, intOf, DL.cutD, dLc, plainAt, tYesD, dSl11, List.getElem?_cons_zero, List.getElem?_cons_succ, List.getElem?_nil, List.set_cons_zero, List.set_cons_succ, List.length_cons, List.length_nil, List.map_cons, List.map_nil, List.replicate_succ, List.replicate_zero, List.cons_append, List.nil_append, List.append_nil, List.take_succ_cons, List.take_zero, List.contains_cons, List.contains_nil, Nat.reduceAdd, Nat.reduceLeDiff, Nat.reduceEqDiff, reduceIte, Nat.zero_add, Bool.and_true, Bool.true_and, Bool.not_false, Bool.false_eq_true, decide_true, decide_false, Bool.not_true, beq_self_eq_true, Bool.or_false, Bool.false_or, Nat.reduceBEq, w]) <;> rfl, rfl, by (simp only [backE, dSeq, dIfS, dTst, dOp, dOs, dVal, dSlot, dC, dVar, dIf, dAnd, dOr, dNot, dAndV, dOrV, dNotV, dTup, dLst, seeAll, see, valDatas, C.data, C.put, C.frozen, dSet, settable, dSetIx, ownL, dMut, dRetV, dRet, dRetN, dExp, dNext, dPar, dPar3, iAny, iEnumD, iZipD, lstOf, dChain, dAug, dCall, passAll, passO, ownSlots, nodupB, writeAll, dFor, iRg1, iRg2, iLst, iTpl, iStrD, gSet, gTuple, gMore, gEnd, dAsg, dMth, isStr, mkFn, isNone, intOf, DL.cutD, dLc, plainAt, tYesD, dSl11, List.getElem?_cons_zero, List.getElem?_cons_succ, List.getElem?_nil, List.set_cons_zero, List.set_cons_succ, List.length_cons, List.length_nil, List.map_cons, List.map_nil, List.replicate_succ, List.replicate_zero, List.cons_append, List.nil_append, List.append_nil, List.take_succ_cons, List.take_zero, List.contains_cons, List.contains_nil, Nat.reduceAdd, Nat.reduceLeDiff, Nat.reduceEqDiff, reduceIte, Nat.zero_add, Bool.and_true, Bool.true_and, Bool.not_false, Bool.false_eq_true, decide_true, decide_false, Bool.not_true, beq_self_eq_true, Bool.or_false, Bool.false_or, Nat.reduceBEq]) <;> rfl⟩)
        rw [List.nil_append, List.map_id'] at lc
        have al := semAll_map isWordD [a, b, c]
        simp only [List.map_cons, List.map_nil] at lc al
        by_cases hw : ([a, b, c].all isWordD) = true
        · rw [hw] at al
          simp only [List.all_cons, List.all_nil, Bool.and_true, Bool.and_eq_true] at hw
          obtain ⟨wa, wb, wc⟩ := hw
          cases b with
          | str k =>
            cases c with
            | str t =>
              obtain ⟨⟨k⟩⟩ := k
              obtain ⟨⟨t⟩⟩ := t
              have wb : isWordD (S k) = true := wb
              have wc : isWordD (S t) = true := wc
              have tl := hl (S t) (by simp) _ rfl
              have tl : t.length ≤ 100000 := tl
              have res : isPairD (.tuple [a, S k, S t]) = lastOk k t := by
                show ((isWordD a && isWordD (S k) && isWordD (S t)) && lastOk k t) = _
                rw [wa, wb, wc]
                rfl
              rw [res]
              have e1 := semEq_S k [97, 108, 108]
              have e2 := semEq_S k [114, 111, 117, 110, 100]
              have e3 := semEq_S k [119, 111, 114, 100]
              have e4 := semEq_S t []
              have e5 := semNe_S t []
              unfold lastOk
              by_cases c1 : k = [97, 108, 108]
              · rw [decide_eq_true c1] at e1
                rw [if_pos c1]
                exact ⟨_, by (simp only [f_is_pair, b_is_pair, dSeq, dIfS, dTst, dOp, dOs, dVal, dSlot, dC, dVar, dIf, dAnd, dOr, dNot, dAndV, dOrV, dNotV, dTup, dLst, seeAll, see, valDatas, C.data, C.put, C.frozen, dSet, dSetIx, ownL, dMut, dRetV, dRet, dRetN, dExp, dNext, dPar, dPar3, iAny, iEnumD, iZipD, lstOf, dChain, dAug, dCall, passAll, passO, ownSlots, nodupB, writeAll, dFor, iRg1, iRg2, iLst, iTpl, iStrD, gSet, gTuple, gMore, gEnd, dAsg, dMth, isStr, mkFn, isNone, intOf, DL.cutD, dLc, plainAt, tYesD, dSl11, settable_zero, settable_succ, np_none, np_fz, np_ow, np_sc, List.getElem?_cons_zero, List.getElem?_cons_succ, List.getElem?_nil, List.set_cons_zero, List.set_cons_succ, List.length_cons, List.length_nil, List.map_cons, List.map_nil, List.replicate_succ, List.replicate_zero, List.cons_append, List.nil_append, List.append_nil, List.take_succ_cons, List.take_zero, List.contains_cons, List.contains_nil, Nat.reduceAdd, Nat.reduceLeDiff, Nat.reduceEqDiff, reduceIte, Nat.zero_add, Bool.and_true, Bool.true_and, Bool.not_false, Bool.false_eq_true, decide_true, decide_false, Bool.not_true, beq_self_eq_true, Bool.or_false, Bool.false_or, Nat.reduceBEq, is, ln, ne, lc, al, e1, e4]) <;> rfl⟩
              · rw [decide_eq_false c1] at e1
                rw [if_neg c1]
                by_cases c2 : k = [114, 111, 117, 110, 100]
                · rw [decide_eq_true c2] at e2
                  rw [if_pos c2]
                  by_cases c3 : t = []
                  · rw [decide_eq_true c3] at e5 ⊢
                    exact ⟨_, by (simp only [f_is_pair, b_is_pair, dSeq, dIfS, dTst, dOp, dOs, dVal, dSlot, dC, dVar, dIf, dAnd, dOr, dNot, dAndV, dOrV, dNotV, dTup, dLst, seeAll, see, valDatas, C.data, C.put, C.frozen, dSet, dSetIx, ownL, dMut, dRetV, dRet, dRetN, dExp, dNext, dPar, dPar3, iAny, iEnumD, iZipD, lstOf, dChain, dAug, dCall, passAll, passO, ownSlots, nodupB, writeAll, dFor, iRg1, iRg2, iLst, iTpl, iStrD, gSet, gTuple, gMore, gEnd, dAsg, dMth, isStr, mkFn, isNone, intOf, DL.cutD, dLc, plainAt, tYesD, dSl11, settable_zero, settable_succ, np_none, np_fz, np_ow, np_sc, List.getElem?_cons_zero, List.getElem?_cons_succ, List.getElem?_nil, List.set_cons_zero, List.set_cons_succ, List.length_cons, List.length_nil, List.map_cons, List.map_nil, List.replicate_succ, List.replicate_zero, List.cons_append, List.nil_append, List.append_nil, List.take_succ_cons, List.take_zero, List.contains_cons, List.contains_nil, Nat.reduceAdd, Nat.reduceLeDiff, Nat.reduceEqDiff, reduceIte, Nat.zero_add, Bool.and_true, Bool.true_and, Bool.not_false, Bool.false_eq_true, decide_true, decide_false, Bool.not_true, beq_self_eq_true, Bool.or_false, Bool.false_or, Nat.reduceBEq, is, ln, ne, lc, al, e1, e2, e5]) <;> rfl⟩
                  · rw [decide_eq_false c3] at e5 ⊢
                    have lo := lr_ok c3 tl
                    have e6 := semEq_S (lr t) t
                    exact ⟨_, by (simp only [f_is_pair, b_is_pair, dSeq, dIfS, dTst, dOp, dOs, dVal, dSlot, dC, dVar, dIf, dAnd, dOr, dNot, dAndV, dOrV, dNotV, dTup, dLst, seeAll, see, valDatas, C.data, C.put, C.frozen, dSet, dSetIx, ownL, dMut, dRetV, dRet, dRetN, dExp, dNext, dPar, dPar3, iAny, iEnumD, iZipD, lstOf, dChain, dAug, dCall, passAll, passO, ownSlots, nodupB, writeAll, dFor, iRg1, iRg2, iLst, iTpl, iStrD, gSet, gTuple, gMore, gEnd, dAsg, dMth, isStr, mkFn, isNone, intOf, DL.cutD, dLc, plainAt, tYesD, dSl11, settable_zero, settable_succ, np_none, np_fz, np_ow, np_sc, List.getElem?_cons_zero, List.getElem?_cons_succ, List.getElem?_nil, List.set_cons_zero, List.set_cons_succ, List.length_cons, List.length_nil, List.map_cons, List.map_nil, List.replicate_succ, List.replicate_zero, List.cons_append, List.nil_append, List.append_nil, List.take_succ_cons, List.take_zero, List.contains_cons, List.contains_nil, Nat.reduceAdd, Nat.reduceLeDiff, Nat.reduceEqDiff, reduceIte, Nat.zero_add, Bool.and_true, Bool.true_and, Bool.not_false, Bool.false_eq_true, decide_true, decide_false, Bool.not_true, beq_self_eq_true, Bool.or_false, Bool.false_or, Nat.reduceBEq, is, ln, ne, lc, al, e1, e2, e5, lo, e6]) <;> rfl⟩
                · rw [decide_eq_false c2] at e2
                  rw [if_neg c2]
                  exact ⟨_, by (simp only [f_is_pair, b_is_pair, dSeq, dIfS, dTst, dOp, dOs, dVal, dSlot, dC, dVar, dIf, dAnd, dOr, dNot, dAndV, dOrV, dNotV, dTup, dLst, seeAll, see, valDatas, C.data, C.put, C.frozen, dSet, dSetIx, ownL, dMut, dRetV, dRet, dRetN, dExp, dNext, dPar, dPar3, iAny, iEnumD, iZipD, lstOf, dChain, dAug, dCall, passAll, passO, ownSlots, nodupB, writeAll, dFor, iRg1, iRg2, iLst, iTpl, iStrD, gSet, gTuple, gMore, gEnd, dAsg, dMth, isStr, mkFn, isNone, intOf, DL.cutD, dLc, plainAt, tYesD, dSl11, settable_zero, settable_succ, np_none, np_fz, np_ow, np_sc, List.getElem?_cons_zero, List.getElem?_cons_succ, List.getElem?_nil, List.set_cons_zero, List.set_cons_succ, List.length_cons, List.length_nil, List.map_cons, List.map_nil, List.replicate_succ, List.replicate_zero, List.cons_append, List.nil_append, List.append_nil, List.take_succ_cons, List.take_zero, List.contains_cons, List.contains_nil, Nat.reduceAdd, Nat.reduceLeDiff, Nat.reduceEqDiff, reduceIte, Nat.zero_add, Bool.and_true, Bool.true_and, Bool.not_false, Bool.false_eq_true, decide_true, decide_false, Bool.not_true, beq_self_eq_true, Bool.or_false, Bool.false_or, Nat.reduceBEq, is, ln, ne, lc, al, e1, e2, e3]) <;> rfl⟩
            | _ => cases wc
          | _ => cases wb
        · have hw' : ([a, b, c].all isWordD) = false := by simpa using hw
          rw [hw'] at al
          have res : isPairD (.tuple [a, b, c]) = false := by
            have : (isWordD a && isWordD b && isWordD c) = false := by
              rw [← hw']
              simp [List.all_cons, Bool.and_assoc]
            show ((isWordD a && isWordD b && isWordD c) && _) = false
            rw [this]
            rfl
          rw [res]
          exact ⟨_, by (simp only [f_is_pair, b_is_pair, dSeq, dIfS, dTst, dOp, dOs, dVal, dSlot, dC, dVar, dIf, dAnd, dOr, dNot, dAndV, dOrV, dNotV, dTup, dLst, seeAll, see, valDatas, C.data, C.put, C.frozen, dSet, dSetIx, ownL, dMut, dRetV, dRet, dRetN, dExp, dNext, dPar, dPar3, iAny, iEnumD, iZipD, lstOf, dChain, dAug, dCall, passAll, passO, ownSlots, nodupB, writeAll, dFor, iRg1, iRg2, iLst, iTpl, iStrD, gSet, gTuple, gMore, gEnd, dAsg, dMth, isStr, mkFn, isNone, intOf, DL.cutD, dLc, plainAt, tYesD, dSl11, settable_zero, settable_succ, np_none, np_fz, np_ow, np_sc, List.getElem?_cons_zero, List.getElem?_cons_succ, List.getElem?_nil, List.set_cons_zero, List.set_cons_succ, List.length_cons, List.length_nil, List.map_cons, List.map_nil, List.replicate_succ, List.replicate_zero, List.cons_append, List.nil_append, List.append_nil, List.take_succ_cons, List.take_zero, List.contains_cons, List.contains_nil, Nat.reduceAdd, Nat.reduceLeDiff, Nat.reduceEqDiff, reduceIte, Nat.zero_add, Bool.and_true, Bool.true_and, Bool.not_false, Bool.false_eq_true, decide_true, decide_false, Bool.not_true, beq_self_eq_true, Bool.or_false, Bool.false_or, Nat.reduceBEq, is, ln, ne, lc, al]) <;> rfl⟩
    · rw [decide_eq_false h3] at ne
      rw [isPair_len h3]
      exact ⟨_, by (simp only [f_is_pair, b_is_pair, dSeq, dIfS, dTst, dOp, dOs, dVal, dSlot, dC, dVar, dIf, dAnd, dOr, dNot, dAndV, dOrV, dNotV, dTup, dLst, seeAll, see, valDatas, C.data, C.put, C.frozen, dSet, dSetIx, ownL, dMut, dRetV, dRet, dRetN, dExp, dNext, dPar, dPar3, iAny, iEnumD, iZipD, lstOf, dChain, dAug, dCall, passAll, passO, ownSlots, nodupB, writeAll, dFor, iRg1, iRg2, iLst, iTpl, iStrD, gSet, gTuple, gMore, gEnd, dAsg, dMth, isStr, mkFn, isNone, intOf, DL.cutD, dLc, plainAt, tYesD, dSl11, settable_zero, settable_succ, np_none, np_fz, np_ow, np_sc, List.getElem?_cons_zero, List.getElem?_cons_succ, List.getElem?_nil, List.set_cons_zero, List.set_cons_succ, List.length_cons, List.length_nil, List.map_cons, List.map_nil, List.replicate_succ, List.replicate_zero, List.cons_append, List.nil_append, List.append_nil, List.take_succ_cons, List.take_zero, List.contains_cons, List.contains_nil, Nat.reduceAdd, Nat.reduceLeDiff, Nat.reduceEqDiff, reduceIte, Nat.zero_add, Bool.and_true, Bool.true_and, Bool.not_false, Bool.false_eq_true, decide_true, decide_false, Bool.not_true, beq_self_eq_true, Bool.or_false, Bool.false_or, Nat.reduceBEq, is, ln, ne]) <;> rfl⟩
  · have is := not_tupD fun x e => ht ⟨x, e⟩
    rw [isPair_no fun x e => ht ⟨x, e⟩]
    exact ⟨_, by (simp only [f_is_pair, b_is_pair, dSeq, dIfS, dTst, dOp, dOs, dVal, dSlot, dC, dVar, dIf, dAnd, dOr, dNot, dAndV, dOrV, dNotV, dTup, dLst, seeAll, see, valDatas, C.data, C.put, C.frozen, dSet, dSetIx, ownL, dMut, dRetV, dRet, dRetN, dExp, dNext, dPar, dPar3, iAny, iEnumD, iZipD, lstOf, dChain, dAug, dCall, passAll, passO, ownSlots, nodupB, writeAll, dFor, iRg1, iRg2, iLst, iTpl, iStrD, gSet, gTuple, gMore, gEnd, dAsg, dMth, isStr, mkFn, isNone, intOf, DL.cutD, dLc, plainAt, tYesD, dSl11, settable_zero, settable_succ, np_none, np_fz, np_ow, np_sc, List.getElem?_cons_zero, List.getElem?_cons_succ, List.getElem?_nil, List.set_cons_zero, List.set_cons_succ, List.length_cons, List.length_nil, List.map_cons, List.map_nil, List.replicate_succ, List.replicate_zero, List.cons_append, List.nil_append, List.append_nil, List.take_succ_cons, List.take_zero, List.contains_cons, List.contains_nil, Nat.reduceAdd, Nat.reduceLeDiff, Nat.reduceEqDiff, reduceIte, Nat.zero_add, Bool.and_true, Bool.true_and, Bool.not_false, Bool.false_eq_true, decide_true, decide_false, Bool.not_true, beq_self_eq_true, Bool.or_false, Bool.false_or, Nat.reduceBEq, is]) <;> rfl⟩
theorem law_is_pairD_ok (d : PyData) (hl : shorts d) : ∃ o, f_law_is_pair [.fz d] = some (.fz (.bool (isPairD d)), [o]) := by
  by_cases ht : ∃ ds, d = .tuple ds
  · obtain ⟨ds, rfl⟩ := ht
    have hl := hl ds rfl
    have is : semIsi "tuple" [.fz (.tuple ds)] = some (.fz (.bool true)) := rfl
    have ln : semLen [.fz (.tuple ds)] = some (.fz (.int (ds.length : Int))) := rfl
    have ne : semNe [.fz (.int (ds.length : Int)), .fz (.int 3)] = some (.fz (.bool (!decide (ds.length = 3)))) := by
      rw [semNe_int]
      congr 4
      exact decide_eq_decide.mpr (by omega)
    by_cases h3 : ds.length = 3
    · rw [decide_eq_true h3] at ne
      match ds, h3 with
      | [a, b, c], _ =>
        simp only [List.length_cons, List.length_nil] at ln ne
        have lc := lcL_map (vs := [1]) (g := gSet 1) (t := tYesD) (f := e1_law_is_pair) (env := [some (.fz (.tuple [a, b, c])), none]) (fun d : PyData => d) (fun d => .bool (isWordD d)) [a, b, c] [] (by simp) (fun v hv => by
          have w := law_is_wordD_ok v (hl v hv)
          exact ⟨_, by (simp only [gSet, wipeE, dSeq, dIfS, dTst, dOp, dOs, dVal, dSlot, dC, dVar, dIf, dAnd, dOr, dNot, dAndV, dOrV, dNotV, dTup, dLst, seeAll, see, valDatas, C.data, C.put, C.frozen, dSet, settable, dSetIx, ownL, dMut, dRetV, dRet, dRetN, dExp, dNext, dPar, dPar3, iAny, iEnumD, iZipD, lstOf, dChain, dAug, dCall, passAll, passO, ownSlots, nodupB, writeAll, dFor, iRg1, iRg2, iLst, iTpl, iStrD, gSet, gTuple, gMore, gEnd, dAsg, dMth, isStr, mkFn, isNone, intOf, DL.cutD, dLc, plainAt, tYesD, dSl11, List.getElem?_cons_zero, List.getElem?_cons_succ, List.getElem?_nil, List.set_cons_zero, List.set_cons_succ, List.length_cons, List.length_nil, List.map_cons, List.map_nil, List.replicate_succ, List.replicate_zero, List.cons_append, List.nil_append, List.append_nil, List.take_succ_cons, List.take_zero, List.contains_cons, List.contains_nil, Nat.reduceAdd, Nat.reduceLeDiff, Nat.reduceEqDiff, reduceIte, Nat.zero_add, Bool.and_true, Bool.true_and, Bool.not_false, Bool.false_eq_true, decide_true, decide_false, Bool.not_true, beq_self_eq_true, Bool.or_false, Bool.false_or, Nat.reduceBEq]) <;> rfl, _, _, _, by (simp only [tYesD]) <;> rfl, by (simp only [e1_law_is_pair, dSeq, dIfS, dTst, dOp, dOs, dVal, dSlot, dC, dVar, dIf, dAnd, dOr, dNot, dAndV, dOrV, dNotV, dTup, dLst, seeAll, see, valDatas, C.data, C.put, C.frozen, dSet, settable, dSetIx, ownL, dMut, dRetV, dRet, dRetN, dExp, dNext, dPar, dPar3, iAny, iEnumD, iZipD, lstOf, dChain, dAug, dCall, passAll, passO, ownSlots, nodupB, writeAll, dFor, iRg1, iRg2, iLst, iTpl, iStrD, gSet, gTuple, gMore, gEnd, dAsg, dMth, isStr, mkFn, isNone, intOf, DL.cutD, dLc, plainAt, tYesD, dSl11, List.getElem?_cons_zero, List.getElem?_cons_succ, List.getElem?_nil, List.set_cons_zero, List.set_cons_succ, List.length_cons, List.length_nil, List.map_cons, List.map_nil, List.replicate_succ, List.replicate_zero, List.cons_append, List.nil_append, List.append_nil, List.take_succ_cons, List.take_zero, List.contains_cons, List.contains_nil, Nat.reduceAdd, Nat.reduceLeDiff, Nat.reduceEqDiff, reduceIte, Nat.zero_add, Bool.and_true, Bool.true_and, Bool.not_false, Bool.false_eq_true, decide_true, decide_false, Bool.not_true, beq_self_eq_true, Bool.or_false, Bool.false_or, Nat.reduceBEq, w]) <;> rfl, rfl, by (simp only [backE, dSeq, dIfS, dTst, dOp, dOs, dVal, dSlot, dC, dVar, dIf, dAnd, dOr, dNot, dAndV, dOrV, dNotV, dTup, dLst, seeAll, see, valDatas, C.data, C.put, C.frozen, dSet, settable, dSetIx, ownL, dMut, dRetV, dRet, dRetN, dExp, dNext, dPar, dPar3, iAny, iEnumD, iZipD, lstOf, dChain, dAug, dCall, passAll, passO, ownSlots, nodupB, writeAll, dFor, iRg1, iRg2, iLst, iTpl, iStrD, gSet, gTuple, gMore, gEnd, dAsg, dMth, isStr, mkFn, isNone, intOf, DL.cutD, dLc, plainAt, tYesD, dSl11, List.getElem?_cons_zero, List.getElem?_cons_succ, List.getElem?_nil, List.set_cons_zero, List.set_cons_succ, List.length_cons, List.length_nil, List.map_cons, List.map_nil, List.replicate_succ, List.replicate_zero, List.cons_append, List.nil_append, List.append_nil, List.take_succ_cons, List.take_zero, List.contains_cons, List.contains_nil, Nat.reduceAdd, Nat.reduceLeDiff, Nat.reduceEqDiff, reduceIte, Nat.zero_add, Bool.and_true, Bool.true_and, Bool.not_false, Bool.false_eq_true, decide_true, decide_false, Bool.not_true, beq_self_eq_true, Bool.or_false, Bool.false_or, Nat.reduceBEq]) <;> rfl⟩)
        rw [List.nil_append, List.map_id'] at lc
        have al := semAll_map isWordD [a, b, c]
        simp only [List.map_cons, List.map_nil] at lc al
        have i1 : semIx [.fz (.tuple [a, b, c]), .fz (.int 1)] = some (.fz b) := ixT (k := 1) rfl
        have i2 : semIx [.fz (.tuple [a, b, c]), .fz (.int 2)] = some (.fz c) := ixT (k := 2) rfl
        by_cases hw : ([a, b, c].all isWordD) = true
        · rw [hw] at al
          simp only [List.all_cons, List.all_nil, Bool.and_true, Bool.and_eq_true] at hw
          obtain ⟨wa, wb, wc⟩ := hw
          cases b with
          | str k =>
            cases c with
            | str t =>
              obtain ⟨⟨k⟩⟩ := k
              obtain ⟨⟨t⟩⟩ := t
              have wb : isWordD (S k) = true := wb
              have wc : isWordD (S t) = true := wc
              have tl := hl (S t) (by simp) _ rfl
              have tl : t.length ≤ 100000 := tl
              have res : isPairD (.tuple [a, S k, S t]) = lastOk k t := by
                show ((isWordD a && isWordD (S k) && isWordD (S t)) && lastOk k t) = _
                rw [wa, wb, wc]
                rfl
              rw [res]
              have e1 := semEq_S k [97, 108, 108]
              have e2 := semEq_S k [114, 111, 117, 110, 100]
              have e3 := semEq_S k [119, 111, 114, 100]
              have e4 := semEq_S t []
              have e5 := semNe_S t []
              unfold lastOk
              by_cases c1 : k = [97, 108, 108]
              · rw [decide_eq_true c1] at e1
                rw [if_pos c1]
                exact ⟨_, by (simp only [f_law_is_pair, b_law_is_pair, dSeq, dIfS, dTst, dOp, dOs, dVal, dSlot, dC, dVar, dIf, dAnd, dOr, dNot, dAndV, dOrV, dNotV, dTup, dLst, seeAll, see, valDatas, C.data, C.put, C.frozen, dSet, dSetIx, ownL, dMut, dRetV, dRet, dRetN, dExp, dNext, dPar, dPar3, iAny, iEnumD, iZipD, lstOf, dChain, dAug, dCall, passAll, passO, ownSlots, nodupB, writeAll, dFor, iRg1, iRg2, iLst, iTpl, iStrD, gSet, gTuple, gMore, gEnd, dAsg, dMth, isStr, mkFn, isNone, intOf, DL.cutD, dLc, plainAt, tYesD, dSl11, settable_zero, settable_succ, np_none, np_fz, np_ow, np_sc, List.getElem?_cons_zero, List.getElem?_cons_succ, List.getElem?_nil, List.set_cons_zero, List.set_cons_succ, List.length_cons, List.length_nil, List.map_cons, List.map_nil, List.replicate_succ, List.replicate_zero, List.cons_append, List.nil_append, List.append_nil, List.take_succ_cons, List.take_zero, List.contains_cons, List.contains_nil, Nat.reduceAdd, Nat.reduceLeDiff, Nat.reduceEqDiff, reduceIte, Nat.zero_add, Bool.and_true, Bool.true_and, Bool.not_false, Bool.false_eq_true, decide_true, decide_false, Bool.not_true, beq_self_eq_true, Bool.or_false, Bool.false_or, Nat.reduceBEq, is, ln, ne, lc, al, i1, i2, e1, e4]) <;> rfl⟩
              · rw [decide_eq_false c1] at e1
                rw [if_neg c1]
                by_cases c2 : k = [114, 111, 117, 110, 100]
                · rw [decide_eq_true c2] at e2
                  rw [decide_eq_false (by rw [c2]; decide)] at e3
                  rw [if_pos c2]
                  by_cases c3 : t = []
                  · rw [decide_eq_true c3] at e5 ⊢
                    exact ⟨_, by (simp only [f_law_is_pair, b_law_is_pair, dSeq, dIfS, dTst, dOp, dOs, dVal, dSlot, dC, dVar, dIf, dAnd, dOr, dNot, dAndV, dOrV, dNotV, dTup, dLst, seeAll, see, valDatas, C.data, C.put, C.frozen, dSet, dSetIx, ownL, dMut, dRetV, dRet, dRetN, dExp, dNext, dPar, dPar3, iAny, iEnumD, iZipD, lstOf, dChain, dAug, dCall, passAll, passO, ownSlots, nodupB, writeAll, dFor, iRg1, iRg2, iLst, iTpl, iStrD, gSet, gTuple, gMore, gEnd, dAsg, dMth, isStr, mkFn, isNone, intOf, DL.cutD, dLc, plainAt, tYesD, dSl11, settable_zero, settable_succ, np_none, np_fz, np_ow, np_sc, List.getElem?_cons_zero, List.getElem?_cons_succ, List.getElem?_nil, List.set_cons_zero, List.set_cons_succ, List.length_cons, List.length_nil, List.map_cons, List.map_nil, List.replicate_succ, List.replicate_zero, List.cons_append, List.nil_append, List.append_nil, List.take_succ_cons, List.take_zero, List.contains_cons, List.contains_nil, Nat.reduceAdd, Nat.reduceLeDiff, Nat.reduceEqDiff, reduceIte, Nat.zero_add, Bool.and_true, Bool.true_and, Bool.not_false, Bool.false_eq_true, decide_true, decide_false, Bool.not_true, beq_self_eq_true, Bool.or_false, Bool.false_or, Nat.reduceBEq, is, ln, ne, lc, al, i1, i2, e1, e2, e3, e5]) <;> rfl⟩
                  · rw [decide_eq_false c3] at e5 ⊢
                    obtain ⟨r, R⟩ : ∃ r, IsRl t r := by
                      obtain ⟨r, hr⟩ := lr_ex t
                      exact ⟨r, hr c3⟩
                    have lo := round_ok R c3 (by omega)
                    rw [← lr_of c3 R] at lo
                    have e6 := semEq_S (lr t) t
                    exact ⟨_, by (simp only [f_law_is_pair, b_law_is_pair, dSeq, dIfS, dTst, dOp, dOs, dVal, dSlot, dC, dVar, dIf, dAnd, dOr, dNot, dAndV, dOrV, dNotV, dTup, dLst, seeAll, see, valDatas, C.data, C.put, C.frozen, dSet, dSetIx, ownL, dMut, dRetV, dRet, dRetN, dExp, dNext, dPar, dPar3, iAny, iEnumD, iZipD, lstOf, dChain, dAug, dCall, passAll, passO, ownSlots, nodupB, writeAll, dFor, iRg1, iRg2, iLst, iTpl, iStrD, gSet, gTuple, gMore, gEnd, dAsg, dMth, isStr, mkFn, isNone, intOf, DL.cutD, dLc, plainAt, tYesD, dSl11, settable_zero, settable_succ, np_none, np_fz, np_ow, np_sc, List.getElem?_cons_zero, List.getElem?_cons_succ, List.getElem?_nil, List.set_cons_zero, List.set_cons_succ, List.length_cons, List.length_nil, List.map_cons, List.map_nil, List.replicate_succ, List.replicate_zero, List.cons_append, List.nil_append, List.append_nil, List.take_succ_cons, List.take_zero, List.contains_cons, List.contains_nil, Nat.reduceAdd, Nat.reduceLeDiff, Nat.reduceEqDiff, reduceIte, Nat.zero_add, Bool.and_true, Bool.true_and, Bool.not_false, Bool.false_eq_true, decide_true, decide_false, Bool.not_true, beq_self_eq_true, Bool.or_false, Bool.false_or, Nat.reduceBEq, is, ln, ne, lc, al, i1, i2, e1, e2, e3, e5, lo, e6]) <;> rfl⟩
                · rw [decide_eq_false c2] at e2
                  rw [if_neg c2]
                  by_cases c4 : k = [119, 111, 114, 100]
                  · rw [decide_eq_true c4] at e3 ⊢
                    exact ⟨_, by (simp only [f_law_is_pair, b_law_is_pair, dSeq, dIfS, dTst, dOp, dOs, dVal, dSlot, dC, dVar, dIf, dAnd, dOr, dNot, dAndV, dOrV, dNotV, dTup, dLst, seeAll, see, valDatas, C.data, C.put, C.frozen, dSet, dSetIx, ownL, dMut, dRetV, dRet, dRetN, dExp, dNext, dPar, dPar3, iAny, iEnumD, iZipD, lstOf, dChain, dAug, dCall, passAll, passO, ownSlots, nodupB, writeAll, dFor, iRg1, iRg2, iLst, iTpl, iStrD, gSet, gTuple, gMore, gEnd, dAsg, dMth, isStr, mkFn, isNone, intOf, DL.cutD, dLc, plainAt, tYesD, dSl11, settable_zero, settable_succ, np_none, np_fz, np_ow, np_sc, List.getElem?_cons_zero, List.getElem?_cons_succ, List.getElem?_nil, List.set_cons_zero, List.set_cons_succ, List.length_cons, List.length_nil, List.map_cons, List.map_nil, List.replicate_succ, List.replicate_zero, List.cons_append, List.nil_append, List.append_nil, List.take_succ_cons, List.take_zero, List.contains_cons, List.contains_nil, Nat.reduceAdd, Nat.reduceLeDiff, Nat.reduceEqDiff, reduceIte, Nat.zero_add, Bool.and_true, Bool.true_and, Bool.not_false, Bool.false_eq_true, decide_true, decide_false, Bool.not_true, beq_self_eq_true, Bool.or_false, Bool.false_or, Nat.reduceBEq, is, ln, ne, lc, al, i1, i2, e1, e3]) <;> rfl⟩
                  · rw [decide_eq_false c4] at e3 ⊢
                    exact ⟨_, by (simp only [f_law_is_pair, b_law_is_pair, dSeq, dIfS, dTst, dOp, dOs, dVal, dSlot, dC, dVar, dIf, dAnd, dOr, dNot, dAndV, dOrV, dNotV, dTup, dLst, seeAll, see, valDatas, C.data, C.put, C.frozen, dSet, dSetIx, ownL, dMut, dRetV, dRet, dRetN, dExp, dNext, dPar, dPar3, iAny, iEnumD, iZipD, lstOf, dChain, dAug, dCall, passAll, passO, ownSlots, nodupB, writeAll, dFor, iRg1, iRg2, iLst, iTpl, iStrD, gSet, gTuple, gMore, gEnd, dAsg, dMth, isStr, mkFn, isNone, intOf, DL.cutD, dLc, plainAt, tYesD, dSl11, settable_zero, settable_succ, np_none, np_fz, np_ow, np_sc, List.getElem?_cons_zero, List.getElem?_cons_succ, List.getElem?_nil, List.set_cons_zero, List.set_cons_succ, List.length_cons, List.length_nil, List.map_cons, List.map_nil, List.replicate_succ, List.replicate_zero, List.cons_append, List.nil_append, List.append_nil, List.take_succ_cons, List.take_zero, List.contains_cons, List.contains_nil, Nat.reduceAdd, Nat.reduceLeDiff, Nat.reduceEqDiff, reduceIte, Nat.zero_add, Bool.and_true, Bool.true_and, Bool.not_false, Bool.false_eq_true, decide_true, decide_false, Bool.not_true, beq_self_eq_true, Bool.or_false, Bool.false_or, Nat.reduceBEq, is, ln, ne, lc, al, i1, i2, e1, e2, e3]) <;> rfl⟩
            | _ => cases wc
          | _ => cases wb
        · have hw' : ([a, b, c].all isWordD) = false := by simpa using hw
          rw [hw'] at al
          have res : isPairD (.tuple [a, b, c]) = false := by
            have : (isWordD a && isWordD b && isWordD c) = false := by
              rw [← hw']
              simp [List.all_cons, Bool.and_assoc]
            show ((isWordD a && isWordD b && isWordD c) && _) = false
            rw [this]
            rfl
          rw [res]
          exact ⟨_, by (simp only [f_law_is_pair, b_law_is_pair, dSeq, dIfS, dTst, dOp, dOs, dVal, dSlot, dC, dVar, dIf, dAnd, dOr, dNot, dAndV, dOrV, dNotV, dTup, dLst, seeAll, see, valDatas, C.data, C.put, C.frozen, dSet, dSetIx, ownL, dMut, dRetV, dRet, dRetN, dExp, dNext, dPar, dPar3, iAny, iEnumD, iZipD, lstOf, dChain, dAug, dCall, passAll, passO, ownSlots, nodupB, writeAll, dFor, iRg1, iRg2, iLst, iTpl, iStrD, gSet, gTuple, gMore, gEnd, dAsg, dMth, isStr, mkFn, isNone, intOf, DL.cutD, dLc, plainAt, tYesD, dSl11, settable_zero, settable_succ, np_none, np_fz, np_ow, np_sc, List.getElem?_cons_zero, List.getElem?_cons_succ, List.getElem?_nil, List.set_cons_zero, List.set_cons_succ, List.length_cons, List.length_nil, List.map_cons, List.map_nil, List.replicate_succ, List.replicate_zero, List.cons_append, List.nil_append, List.append_nil, List.take_succ_cons, List.take_zero, List.contains_cons, List.contains_nil, Nat.reduceAdd, Nat.reduceLeDiff, Nat.reduceEqDiff, reduceIte, Nat.zero_add, Bool.and_true, Bool.true_and, Bool.not_false, Bool.false_eq_true, decide_true, decide_false, Bool.not_true, beq_self_eq_true, Bool.or_false, Bool.false_or, Nat.reduceBEq, is, ln, ne, lc, al]) <;> rfl⟩
    · rw [decide_eq_false h3] at ne
      rw [isPair_len h3]
      exact ⟨_, by (simp only [f_law_is_pair, b_law_is_pair, dSeq, dIfS, dTst, dOp, dOs, dVal, dSlot, dC, dVar, dIf, dAnd, dOr, dNot, dAndV, dOrV, dNotV, dTup, dLst, seeAll, see, valDatas, C.data, C.put, C.frozen, dSet, dSetIx, ownL, dMut, dRetV, dRet, dRetN, dExp, dNext, dPar, dPar3, iAny, iEnumD, iZipD, lstOf, dChain, dAug, dCall, passAll, passO, ownSlots, nodupB, writeAll, dFor, iRg1, iRg2, iLst, iTpl, iStrD, gSet, gTuple, gMore, gEnd, dAsg, dMth, isStr, mkFn, isNone, intOf, DL.cutD, dLc, plainAt, tYesD, dSl11, settable_zero, settable_succ, np_none, np_fz, np_ow, np_sc, List.getElem?_cons_zero, List.getElem?_cons_succ, List.getElem?_nil, List.set_cons_zero, List.set_cons_succ, List.length_cons, List.length_nil, List.map_cons, List.map_nil, List.replicate_succ, List.replicate_zero, List.cons_append, List.nil_append, List.append_nil, List.take_succ_cons, List.take_zero, List.contains_cons, List.contains_nil, Nat.reduceAdd, Nat.reduceLeDiff, Nat.reduceEqDiff, reduceIte, Nat.zero_add, Bool.and_true, Bool.true_and, Bool.not_false, Bool.false_eq_true, decide_true, decide_false, Bool.not_true, beq_self_eq_true, Bool.or_false, Bool.false_or, Nat.reduceBEq, is, ln, ne]) <;> rfl⟩
  · have is := not_tupD fun x e => ht ⟨x, e⟩
    rw [isPair_no fun x e => ht ⟨x, e⟩]
    exact ⟨_, by (simp only [f_law_is_pair, b_law_is_pair, dSeq, dIfS, dTst, dOp, dOs, dVal, dSlot, dC, dVar, dIf, dAnd, dOr, dNot, dAndV, dOrV, dNotV, dTup, dLst, seeAll, see, valDatas, C.data, C.put, C.frozen, dSet, dSetIx, ownL, dMut, dRetV, dRet, dRetN, dExp, dNext, dPar, dPar3, iAny, iEnumD, iZipD, lstOf, dChain, dAug, dCall, passAll, passO, ownSlots, nodupB, writeAll, dFor, iRg1, iRg2, iLst, iTpl, iStrD, gSet, gTuple, gMore, gEnd, dAsg, dMth, isStr, mkFn, isNone, intOf, DL.cutD, dLc, plainAt, tYesD, dSl11, settable_zero, settable_succ, np_none, np_fz, np_ow, np_sc, List.getElem?_cons_zero, List.getElem?_cons_succ, List.getElem?_nil, List.set_cons_zero, List.set_cons_succ, List.length_cons, List.length_nil, List.map_cons, List.map_nil, List.replicate_succ, List.replicate_zero, List.cons_append, List.nil_append, List.append_nil, List.take_succ_cons, List.take_zero, List.contains_cons, List.contains_nil, Nat.reduceAdd, Nat.reduceLeDiff, Nat.reduceEqDiff, reduceIte, Nat.zero_add, Bool.and_true, Bool.true_and, Bool.not_false, Bool.false_eq_true, decide_true, decide_false, Bool.not_true, beq_self_eq_true, Bool.or_false, Bool.false_or, Nat.reduceBEq, is]) <;> rfl⟩
/-- what is one is the pair of a head and an echo -/
theorem pair_form {d : PyData} (h : isPairD d = true) : ∃ p : Pr, d = dp p ∧ canE p.2 := by
  cases d with
  | tuple ds =>
    by_cases h3 : ds.length = 3
    · match ds, h3 with
      | [a, b, c], _ =>
        have h : ((isWordD a && isWordD b && isWordD c) && lastD b c) = true := h
        rw [Bool.and_eq_true, Bool.and_eq_true, Bool.and_eq_true] at h
        obtain ⟨⟨⟨wa, wb⟩, wc⟩, hl0⟩ := h
        cases a with
        | str a =>
          cases b with
          | str k =>
            cases c with
            | str t =>
              obtain ⟨⟨a⟩⟩ := a
              obtain ⟨⟨k⟩⟩ := k
              obtain ⟨⟨t⟩⟩ := t
              have hl : lastOk k t = true := hl0
              clear hl0
              unfold lastOk at hl
              split at hl
              · rename_i e
                subst e
                have e := of_decide_eq_true hl
                subst e
                exact ⟨(a, .all), rfl, trivial⟩
              · split at hl
                · rename_i e
                  subst e
                  rw [Bool.and_eq_true] at hl
                  obtain ⟨h1, h2⟩ := hl
                  have h1 : t ≠ [] := by simpa using h1
                  have h2 := of_decide_eq_true h2
                  refine ⟨(a, .round t), rfl, ?_⟩
                  have := lr_can h1
                  rw [h2] at this
                  exact this
                · have e := of_decide_eq_true hl
                  subst e
                  exact ⟨(a, .word t), rfl, trivial⟩
            | _ => cases wc
          | _ => cases wb
        | _ => cases wa
    · rw [isPair_len h3] at h
      cases h
  | _ => cases h
/-- words of which it is the pair -/
def someW (p : Pr) (s : Nat) : List (List Nat) := match p.2 with
  | .all => [p.1]
  | .round t => [p.1 ++ t, p.1]
  | .word t => [p.1 ++ t ++ [120] ++ [s], p.1, p.1 ++ t ++ [121]]
theorem some_SP {p : Pr} (hp : canE p.2) (s : Nat) : SP p (someW p s) := by
  obtain ⟨h, e⟩ := p
  cases e with
  | all => exact SP.one h
  | round t =>
    have ht : t ≠ [] := hp.1
    refine due_echo (h := h) (N := [t]) (e := .round t) (by simp [someW]) (fun x hx => by rw [List.mem_singleton.mp hx]; exact ⟨ht, by simp [someW]⟩) (fun x hx => by simp [someW] at hx ⊢; exact hx.symm) hp fun y => by simp [Has]
  | word t =>
    refine due_echo (h := h) (N := [t ++ [120] ++ [s], t ++ [121]]) (e := .word t) (by simp [someW]) (fun x hx => by
      simp only [List.mem_cons, List.not_mem_nil, or_false] at hx
      rcases hx with rfl | rfl <;> exact ⟨by simp, by simp [someW]⟩) (fun x hx => by
      simp only [someW, List.mem_cons, List.not_mem_nil, or_false] at hx
      rcases hx with rfl | rfl | rfl
      · exact .inr ⟨_, List.mem_cons_self .., by simp⟩
      · exact .inl rfl
      · exact .inr ⟨_, List.mem_cons_of_mem _ (List.mem_cons_self ..), by simp⟩) trivial fun y => ?_
    show y <+: t ↔ _
    constructor
    · intro z x hx
      simp only [List.mem_cons, List.not_mem_nil, or_false] at hx
      rcases hx with rfl | rfl
      · exact rnd_begin (z.trans ⟨[120] ++ [s], by simp⟩)
      · exact rnd_begin (z.trans ⟨[121], by simp⟩)
    · intro z
      have z1 := z (t ++ [120] ++ [s]) (by simp)
      have z2 := z (t ++ [121]) (by simp)
      by_cases c : y.length ≤ t.length
      · exact rnd_two (rnd_pre z2 (List.prefix_refl _)) (rnd_begin ⟨[121], rfl⟩) c
      · have e1 := z1 t.length (by omega)
        have e2 := z2 t.length (by omega)
        rw [ew_lt (by simp)] at e1 e2
        rw [e1] at e2
        simp at e2
theorem some_len {p : Pr} {s M : Nat} (h1 : p.1.length ≤ M) (h2 : (tx p.2).length ≤ M) : ∀ w ∈ someW p s, w.length ≤ 2 * M + 2 := by
  intro w hw
  obtain ⟨h, e⟩ := p
  simp only at h1
  cases e <;> simp only [someW, tx, List.mem_cons, List.not_mem_nil, or_false] at hw h2
  · rw [hw]; omega
  · rcases hw with e | e | e <;> rw [e] <;> (first | omega | (simp only [List.length_append, List.length_cons, List.length_nil]; omega))
  · rcases hw with e | e <;> rw [e] <;> (first | omega | (simp only [List.length_append]; omega))
theorem some_words_ok {p : Pr} {s : Nat} {l : List Nat} (h1 : p.1.length ≤ 10000) (h2 : (tx p.2).length ≤ 10000) : f_law_some_words [.fz (dp p), .fz (S (s :: l))] = some (.fz (.tuple ((someW p s).map S)), [some (.fz (dp p)), some (.fz (S (s :: l)))]) := by
  obtain ⟨h, e⟩ := p
  have i0 : semIx [.fz (S (s :: l)), .fz (.int 0)] = some (.fz (S [s])) := ixS (k := 0) rfl
  cases e with
  | all =>
    simp only [dp, kd_all, kd_word, kd_round, tx_all, tx_word, tx_round, someW]
    simp only [f_law_some_words, b_law_some_words, dSeq, dIfS, dTst, dOp, dOs, dVal, dSlot, dC, dVar, dIf, dAnd, dOr, dNot, dAndV, dOrV, dNotV, dTup, dLst, seeAll, see, valDatas, C.data, C.put, C.frozen, dSet, dSetIx, ownL, dMut, dRetV, dRet, dRetN, dExp, dNext, dPar, dPar3, iAny, iEnumD, iZipD, lstOf, dChain, dAug, dCall, passAll, passO, ownSlots, nodupB, writeAll, dFor, iRg1, iRg2, iLst, iTpl, iStrD, gSet, gTuple, gMore, gEnd, dAsg, dMth, isStr, mkFn, isNone, intOf, DL.cutD, dLc, plainAt, tYesD, dSl11, settable_zero, settable_succ, np_none, np_fz, np_ow, np_sc, List.getElem?_cons_zero, List.getElem?_cons_succ, List.getElem?_nil, List.set_cons_zero, List.set_cons_succ, List.length_cons, List.length_nil, List.map_cons, List.map_nil, List.replicate_succ, List.replicate_zero, List.cons_append, List.nil_append, List.append_nil, List.take_succ_cons, List.take_zero, List.contains_cons, List.contains_nil, Nat.reduceAdd, Nat.reduceLeDiff, Nat.reduceEqDiff, reduceIte, Nat.zero_add, Bool.and_true, Bool.true_and, Bool.not_false, Bool.false_eq_true, decide_true, decide_false, Bool.not_true, beq_self_eq_true, Bool.or_false, Bool.false_or, Nat.reduceBEq, eAA]
  | round t =>
    simp only [tx] at h2
    simp only [dp, kd_all, kd_word, kd_round, tx_all, tx_word, tx_round, someW]
    have a1 := semAdd_S h t (by simp only at h1; omega)
    simp only [f_law_some_words, b_law_some_words, dSeq, dIfS, dTst, dOp, dOs, dVal, dSlot, dC, dVar, dIf, dAnd, dOr, dNot, dAndV, dOrV, dNotV, dTup, dLst, seeAll, see, valDatas, C.data, C.put, C.frozen, dSet, dSetIx, ownL, dMut, dRetV, dRet, dRetN, dExp, dNext, dPar, dPar3, iAny, iEnumD, iZipD, lstOf, dChain, dAug, dCall, passAll, passO, ownSlots, nodupB, writeAll, dFor, iRg1, iRg2, iLst, iTpl, iStrD, gSet, gTuple, gMore, gEnd, dAsg, dMth, isStr, mkFn, isNone, intOf, DL.cutD, dLc, plainAt, tYesD, dSl11, settable_zero, settable_succ, np_none, np_fz, np_ow, np_sc, List.getElem?_cons_zero, List.getElem?_cons_succ, List.getElem?_nil, List.set_cons_zero, List.set_cons_succ, List.length_cons, List.length_nil, List.map_cons, List.map_nil, List.replicate_succ, List.replicate_zero, List.cons_append, List.nil_append, List.append_nil, List.take_succ_cons, List.take_zero, List.contains_cons, List.contains_nil, Nat.reduceAdd, Nat.reduceLeDiff, Nat.reduceEqDiff, reduceIte, Nat.zero_add, Bool.and_true, Bool.true_and, Bool.not_false, Bool.false_eq_true, decide_true, decide_false, Bool.not_true, beq_self_eq_true, Bool.or_false, Bool.false_or, Nat.reduceBEq, eRA, eRR, a1]
  | word t =>
    simp only [tx] at h2
    simp only [dp, kd_all, kd_word, kd_round, tx_all, tx_word, tx_round, someW]
    simp only at h1
    have a1 := semAdd_S h t (by omega)
    have a2 := semAdd_S (h ++ t) [120] (by simp; omega)
    have a3 := semAdd_S (h ++ t ++ [120]) [s] (by simp; omega)
    have a4 := semAdd_S (h ++ t) [121] (by simp; omega)
    simp only [f_law_some_words, b_law_some_words, dSeq, dIfS, dTst, dOp, dOs, dVal, dSlot, dC, dVar, dIf, dAnd, dOr, dNot, dAndV, dOrV, dNotV, dTup, dLst, seeAll, see, valDatas, C.data, C.put, C.frozen, dSet, dSetIx, ownL, dMut, dRetV, dRet, dRetN, dExp, dNext, dPar, dPar3, iAny, iEnumD, iZipD, lstOf, dChain, dAug, dCall, passAll, passO, ownSlots, nodupB, writeAll, dFor, iRg1, iRg2, iLst, iTpl, iStrD, gSet, gTuple, gMore, gEnd, dAsg, dMth, isStr, mkFn, isNone, intOf, DL.cutD, dLc, plainAt, tYesD, dSl11, settable_zero, settable_succ, np_none, np_fz, np_ow, np_sc, List.getElem?_cons_zero, List.getElem?_cons_succ, List.getElem?_nil, List.set_cons_zero, List.set_cons_succ, List.length_cons, List.length_nil, List.map_cons, List.map_nil, List.replicate_succ, List.replicate_zero, List.cons_append, List.nil_append, List.append_nil, List.take_succ_cons, List.take_zero, List.contains_cons, List.contains_nil, Nat.reduceAdd, Nat.reduceLeDiff, Nat.reduceEqDiff, reduceIte, Nat.zero_add, Bool.and_true, Bool.true_and, Bool.not_false, Bool.false_eq_true, decide_true, decide_false, Bool.not_true, beq_self_eq_true, Bool.or_false, Bool.false_or, Nat.reduceBEq, eWA, eWR, a1, a2, i0, a3, a4]
end LW
set_option Elab.async false
set_option linter.all false
set_option maxRecDepth 100000
set_option maxHeartbeats 4000000
namespace LW
open PySem PySem.Spec PyProof.Rows L2 DL
def topS (i : Nat) : Stmt := PySem.Challenge.pw_nothingheld_k05_pairs_of_anything.main.body.getD i (.Pass ⟨0, 0, 0, 0⟩)
abbrev s_is_word : Stmt := topS 1
abbrev N_is_word : List Str := ["thing", "sign"]
theorem sc_is_word : FnScope N_is_word ["thing"] (defScope s_is_word) := ⟨rfl, rfl, rfl, by decide +kernel, rfl, by decide +kernel, by decide +kernel⟩
abbrev s_common : Stmt := topS 2
abbrev N_common : List Str := ["one", "other", "size"]
theorem sc_common : FnScope N_common ["one", "other"] (defScope s_common) := ⟨rfl, rfl, rfl, by decide +kernel, rfl, by decide +kernel, by decide +kernel⟩
abbrev s_borders : Stmt := topS 3
abbrev N_borders : List Str := ["word", "found", "end", "size"]
theorem sc_borders : FnScope N_borders ["word"] (defScope s_borders) := ⟨rfl, rfl, rfl, by decide +kernel, rfl, by decide +kernel, by decide +kernel⟩
abbrev s_least_round : Stmt := topS 4
abbrev N_least_round : List Str := ["word", "size"]
theorem sc_least_round : FnScope N_least_round ["word"] (defScope s_least_round) := ⟨rfl, rfl, rfl, by decide +kernel, rfl, by decide +kernel, by decide +kernel⟩
abbrev s_of_endless : Stmt := topS 5
abbrev N_of_endless : List Str := ["one", "size"]
theorem sc_of_endless : FnScope N_of_endless ["one", "size"] (defScope s_of_endless) := ⟨rfl, rfl, rfl, by decide +kernel, rfl, by decide +kernel, by decide +kernel⟩
abbrev s_rounds_meet : Stmt := topS 6
abbrev N_rounds_meet : List Str := ["one", "other", "size"]
theorem sc_rounds_meet : FnScope N_rounds_meet ["one", "other"] (defScope s_rounds_meet) := ⟨rfl, rfl, rfl, by decide +kernel, rfl, by decide +kernel, by decide +kernel⟩
abbrev s_along : Stmt := topS 7
abbrev N_along : List Str := ["word", "one"]
theorem sc_along : FnScope N_along ["word", "one"] (defScope s_along) := ⟨rfl, rfl, rfl, by decide +kernel, rfl, by decide +kernel, by decide +kernel⟩
abbrev s_is_pair : Stmt := topS 14
abbrev N_is_pair : List Str := ["thing", "head", "kind", "echo", "part"]
theorem sc_is_pair : FnScope N_is_pair ["thing"] (defScope s_is_pair) := ⟨rfl, rfl, rfl, by decide +kernel, rfl, by decide +kernel, by decide +kernel⟩
abbrev s_heard : Stmt := topS 15
abbrev N_heard : List Str := ["echo", "word", "kind", "told"]
theorem sc_heard : FnScope N_heard ["echo", "word"] (defScope s_heard) := ⟨rfl, rfl, rfl, by decide +kernel, rfl, by decide +kernel, by decide +kernel⟩
abbrev s_met : Stmt := topS 16
abbrev N_met : List Str := ["one", "other", "found"]
theorem sc_met : FnScope N_met ["one", "other"] (defScope s_met) := ⟨rfl, rfl, rfl, by decide +kernel, rfl, by decide +kernel, by decide +kernel⟩
abbrev s_round_of : Stmt := topS 17
abbrev N_round_of : List Str := ["word"]
theorem sc_round_of : FnScope N_round_of ["word"] (defScope s_round_of) := ⟨rfl, rfl, rfl, by decide +kernel, rfl, by decide +kernel, by decide +kernel⟩
abbrev s_led_by : Stmt := topS 18
abbrev N_led_by : List Str := ["word", "echo", "kind", "told"]
theorem sc_led_by : FnScope N_led_by ["word", "echo"] (defScope s_led_by) := ⟨rfl, rfl, rfl, by decide +kernel, rfl, by decide +kernel, by decide +kernel⟩
abbrev s_both : Stmt := topS 19
abbrev N_both : List Str := ["one", "other", "head", "longer"]
theorem sc_both : FnScope N_both ["one", "other"] (defScope s_both) := ⟨rfl, rfl, rfl, by decide +kernel, rfl, by decide +kernel, by decide +kernel⟩
abbrev s_pair_of : Stmt := topS 20
abbrev N_pair_of : List Str := ["words", "found", "word"]
theorem sc_pair_of : FnScope N_pair_of ["words"] (defScope s_pair_of) := ⟨rfl, rfl, rfl, by decide +kernel, rfl, by decide +kernel, by decide +kernel⟩
abbrev s_law_hand : Stmt := topS 22
abbrev N_law_hand : List Str := ["_law_script", "_law_k", "_law_cell", "_law_mixed"]
theorem sc_law_hand : FnScope N_law_hand ["_law_script", "_law_k"] (defScope s_law_hand) := ⟨rfl, rfl, rfl, by decide +kernel, rfl, by decide +kernel, by decide +kernel⟩
abbrev s_law_take : Stmt := topS 23
abbrev N_law_take : List Str := ["_law_hand_here", "_law_many", "_law_one", "_law_two", "_law_mixed", "_law_last", "_law_digit"]
theorem sc_law_take : FnScope N_law_take ["_law_hand_here", "_law_many"] (defScope s_law_take) := ⟨rfl, rfl, rfl, by decide +kernel, rfl, by decide +kernel, by decide +kernel⟩
abbrev s_law_pick : Stmt := topS 24
abbrev N_law_pick : List Str := ["_law_hand_here", "_law_some"]
theorem sc_law_pick : FnScope N_law_pick ["_law_hand_here", "_law_some"] (defScope s_law_pick) := ⟨rfl, rfl, rfl, by decide +kernel, rfl, by decide +kernel, by decide +kernel⟩
abbrev s_law_signs : Stmt := topS 25
abbrev N_law_signs : List Str := ["_law_hand_here"]
theorem sc_law_signs : FnScope N_law_signs ["_law_hand_here"] (defScope s_law_signs) := ⟨rfl, rfl, rfl, by decide +kernel, rfl, by decide +kernel, by decide +kernel⟩
abbrev s_law_word : Stmt := topS 26
abbrev N_law_word : List Str := ["_law_hand_here", "_law_signs_here", "_law_most", "_law_k"]
theorem sc_law_word : FnScope N_law_word ["_law_hand_here", "_law_signs_here", "_law_most"] (defScope s_law_word) := ⟨rfl, rfl, rfl, by decide +kernel, rfl, by decide +kernel, by decide +kernel⟩
abbrev s_law_words : Stmt := topS 27
abbrev N_law_words : List Str := ["_law_hand_here", "_law_signs_here", "_law_sort", "_law_head", "_law_many", "_law_one", "_law_other", "_law_k"]
theorem sc_law_words : FnScope N_law_words ["_law_hand_here", "_law_signs_here"] (defScope s_law_words) := ⟨rfl, rfl, rfl, by decide +kernel, rfl, by decide +kernel, by decide +kernel⟩
abbrev s_law_begin : Stmt := topS 28
abbrev N_law_begin : List Str := ["_law_some", "_law_least", "_law_size", "_law_word_here"]
theorem sc_law_begin : FnScope N_law_begin ["_law_some"] (defScope s_law_begin) := ⟨rfl, rfl, rfl, by decide +kernel, rfl, by decide +kernel, by decide +kernel⟩
abbrev s_law_round : Stmt := topS 29
abbrev N_law_round : List Str := ["_law_word_here", "_law_size"]
theorem sc_law_round : FnScope N_law_round ["_law_word_here"] (defScope s_law_round) := ⟨rfl, rfl, rfl, by decide +kernel, rfl, by decide +kernel, by decide +kernel⟩
abbrev s_law_due : Stmt := topS 30
abbrev N_law_due : List Str := ["_law_some", "_law_head", "_law_tails", "_law_long", "_law_found", "_law_tail", "_law_word_here"]
theorem sc_law_due : FnScope N_law_due ["_law_some"] (defScope s_law_due) := ⟨rfl, rfl, rfl, by decide +kernel, rfl, by decide +kernel, by decide +kernel⟩
abbrev s_law_is_word : Stmt := topS 31
abbrev N_law_is_word : List Str := ["_law_thing", "_law_sign"]
theorem sc_law_is_word : FnScope N_law_is_word ["_law_thing"] (defScope s_law_is_word) := ⟨rfl, rfl, rfl, by decide +kernel, rfl, by decide +kernel, by decide +kernel⟩
abbrev s_law_is_pair : Stmt := topS 32
abbrev N_law_is_pair : List Str := ["_law_thing", "_law_part"]
theorem sc_law_is_pair : FnScope N_law_is_pair ["_law_thing"] (defScope s_law_is_pair) := ⟨rfl, rfl, rfl, by decide +kernel, rfl, by decide +kernel, by decide +kernel⟩
abbrev s_law_odd : Stmt := topS 33
abbrev N_law_odd : List Str := ["_law_hand_here", "_law_signs_here", "_law_one", "_law_some", "_law_thing", "_law_turn"]
theorem sc_law_odd : FnScope N_law_odd ["_law_hand_here", "_law_signs_here"] (defScope s_law_odd) := ⟨rfl, rfl, rfl, by decide +kernel, rfl, by decide +kernel, by decide +kernel⟩
abbrev s_law_bent : Stmt := topS 34
abbrev N_law_bent : List Str := ["_law_hand_here", "_law_signs_here", "_law_pair", "_law_way", "_law_spot", "_law_odd_here"]
theorem sc_law_bent : FnScope N_law_bent ["_law_hand_here", "_law_signs_here", "_law_pair"] (defScope s_law_bent) := ⟨rfl, rfl, rfl, by decide +kernel, rfl, by decide +kernel, by decide +kernel⟩
abbrev s_law_some_words : Stmt := topS 35
abbrev N_law_some_words : List Str := ["_law_pair", "_law_signs_here", "_law_head", "_law_kind", "_law_told"]
theorem sc_law_some_words : FnScope N_law_some_words ["_law_pair", "_law_signs_here"] (defScope s_law_some_words) := ⟨rfl, rfl, rfl, by decide +kernel, rfl, by decide +kernel, by decide +kernel⟩
abbrev s_law : Stmt := topS 36
abbrev N_law : List Str := ["_law_script", "_law_k", "_law_hand_here", "_law_signs_here", "_law_some", "_law_pair", "_law_thing", "_law_kept", "_law_due_here", "_law_turn"]
theorem sc_law : FnScope N_law ["_law_script"] (defScope s_law) := ⟨rfl, rfl, rfl, by decide +kernel, rfl, by decide +kernel, by decide +kernel⟩
section
variable {P : Program} {w : World} {K : PySem.W.Frag} {mg : Str → Option Value} {base : Heap}
theorem ok_is_word {f : Addr} {fd : FuncData} (F : Fun K "is_word" "is_word" s_is_word f fd) (z_all : mg "all" = none) (z_isinstance : mg "isinstance" = none) (z_str : mg "str" = none) : FnG P w K mg base 1 f fd ["thing"] (spD K 1 f_is_word) :=
  fn_okG (k := 0) F sc_is_word rfl fun cdv A outer s H E hr => (pdb_one (pds_ret (pd_and (pd_isi (T := "str") (by simp [okT]) (po_slot (pv 0)) (by rfl) z_isinstance PyProof.Rows.boot_isinstance (by rfl) z_str PyProof.Rows.boot_str (by decide) (by decide)) (pd_one (pd_callB (cr_all rfl) ok_all (by rfl) z_all PyProof.Rows.boot_all (pds_cons (po_val (pd_lc (own := [("sign", 1)]) rfl sc_is_word.nd (pi_any (pd_var (pv 0))) (blkOk_by (N := N_is_word) (sc := defScope s_is_word) (by decide +kernel)) (fun _ _ _ _ _ => (pg_set sc_is_word.nd rfl (.inl rfl))) (fun _ _ _ _ _ => pdts_nil) (fun _ _ _ _ _ => (pd_or (pd_chain op_leD op_leD okc_le okc_le (po_val (pd_strS (by rfl))) (po_slot (pv 1)) (po_val (pd_strS (by rfl)))) (pd_one (pd_chain op_leD op_leD okc_le okc_le (po_val (pd_strS (by rfl))) (po_slot (pv 1)) (po_val (pd_strS (by rfl))))))))) pds_nil))))))
theorem ok_common {f : Addr} {fd : FuncData} (F : Fun K "common" "common" s_common f fd) (z_len : mg "len" = none) : FnG P w K mg base 1 f fd ["one", "other"] (spD K 2 f_common) :=
  fn_okG (k := 0) F sc_common rfl fun cdv A outer s H E hr => (pdb_cons (pds_set (i := 2) pd_int sc_common.nd rfl (.inl rfl)) (pdb_cons (pds_while PassesOwn.never (pt_bool (pdw_and (pt_cmp1 op_ltD ok_lt (po_slot (pv 2)) (po_val (pd_callB call_len ok_len (by rfl) z_len PySem.boot_len (pds_cons (po_slot (pv 0)) pds_nil))) (nomark _)) (pdw_and (pt_cmp1 op_ltD ok_lt (po_slot (pv 2)) (po_val (pd_callB call_len ok_len (by rfl) z_len PySem.boot_len (pds_cons (po_slot (pv 1)) pds_nil))) (nomark _)) (pdw_one_and (pt_cmp1 (op_eqD hr.units) ok_eq (po_val (pd_ix ix_seq ok_ix (po_slot (pv 0)) (po_slot (pv 2)) (fun _ _ => rfl))) (po_val (pd_ix ix_seq ok_ix (po_slot (pv 1)) (po_slot (pv 2)) (fun _ _ => rfl))) (nomark _)))))) (pdb_one (pds_aug iop_addD ok_addI (po_val pd_int) sc_common.nd rfl (.inl rfl)))) (pdb_one (pds_ret (pd_sl01 (po_slot (pv 0)) (po_slot (pv 2)))))))
theorem ok_borders {f : Addr} {fd : FuncData} (F : Fun K "borders" "borders" s_borders f fd) (z_range : mg "range" = none) (z_len : mg "len" = none) (z_int : mg "int" = none) : FnG P w K mg base 1 f fd ["word"] (spD K 1 f_borders) :=
  fn_okG (k := 0) F sc_borders rfl fun cdv A outer s H E hr => (pdb_cons (pds_set (i := 1) (pd_lst (pds_cons (po_val pd_int) pds_nil)) sc_borders.nd rfl (.inl rfl)) (pdb_cons (pds_for PassesOwn.never rfl (pi_rg2 (by rfl) z_range (pds_cons (po_val pd_int) (pds_cons (po_val (pd_callB call_len ok_len (by rfl) z_len PySem.boot_len (pds_cons (po_slot (pv 0)) pds_nil))) pds_nil))) (pg_set sc_borders.nd rfl (.inl rfl)) (pdb_cons (pds_set (i := 3) (pd_ix ix_seq ok_ix (po_slot (pv 1)) (po_val (pd_un un_neg ok_neg (po_val pd_int))) (fun _ _ => rfl)) sc_borders.nd rfl (.inl rfl)) (pdb_cons (pds_while PassesOwn.never (pt_bool (pdw_and (pt_cmp1 op_gtD ok_gt (po_slot (pv 3)) (po_val pd_int) (nomark _)) (pdw_one_and (pt_cmp1 (op_neD hr.units) ok_ne (po_val (pd_ix ix_seq ok_ix (po_slot (pv 0)) (po_slot (pv 3)) (fun _ _ => rfl))) (po_val (pd_ix ix_seq ok_ix (po_slot (pv 0)) (po_slot (pv 2)) (fun _ _ => rfl))) (nomark _))))) (pdb_one (pds_set (i := 3) (pd_ix ix_seq ok_ix (po_slot (pv 1)) (po_val (pd_bin op_sub ok_sub (po_slot (pv 3)) (po_val pd_int))) (fun _ _ => rfl)) sc_borders.nd rfl (.inl rfl)))) (pdb_one (pds_exp (pd_mut PySem.F.plainAttrs_list PySem.F.slot_list_append PySem.F.type_list_append mt_append ok_append (pv 1) (pds_cons (po_val (pd_bin op_addD ok_add (po_slot (pv 3)) (po_val (pd_callTy call_int1 ok_int (by rfl) z_int PyProof.Rows.boot_int (pds_cons (po_val (pd_cmp (op_eqD hr.units) ok_eq (po_val (pd_ix ix_seq ok_ix (po_slot (pv 0)) (po_slot (pv 3)) (fun _ _ => rfl))) (po_val (pd_ix ix_seq ok_ix (po_slot (pv 0)) (po_slot (pv 2)) (fun _ _ => rfl))) (nomark _))) pds_nil))))) pds_nil))))))) (pdb_one (pds_retV (pv 1)))))
theorem ok_least_round {f : Addr} {fd : FuncData} (F : Fun K "least_round" "least_round" s_least_round f fd) (z_len : mg "len" = none) (C_borders  : CalleeG P w K mg base "borders" 1 1 f_borders) : FnG P w K mg base 2 f fd ["word"] (spD K 1 f_least_round) :=
  fn_okG (k := 1) F sc_least_round rfl fun cdv A outer s H E hr => (pdb_cons (pds_set (i := 1) (pd_bin op_sub ok_sub (po_val (pd_callB call_len ok_len (by rfl) z_len PySem.boot_len (pds_cons (po_slot (pv 0)) pds_nil))) (po_val (pd_ix ix_seq ok_ix (po_val (pd_callCG C_borders (hr.mono (by decide)) (by rfl) (pds_cons (po_val (pd_var (pv 0))) pds_nil))) (po_val (pd_un un_neg ok_neg (po_val pd_int))) (fun _ _ => rfl)))) sc_least_round.nd rfl (.inl rfl)) (pdb_one (pds_ret (pd_if (pt_cmp1 (op_eqD hr.units) ok_eq (po_val (pd_bin op_mod ok_mod (po_val (pd_callB call_len ok_len (by rfl) z_len PySem.boot_len (pds_cons (po_slot (pv 0)) pds_nil))) (po_slot (pv 1)))) (po_val pd_int) (nomark _)) (pd_sl01 (po_slot (pv 0)) (po_slot (pv 1))) (pd_var (pv 0))))))
theorem ok_of_endless {f : Addr} {fd : FuncData} (F : Fun K "of_endless" "of_endless" s_of_endless f fd) (z_len : mg "len" = none) : FnG P w K mg base 1 f fd ["one", "size"] (spD K 2 f_of_endless) :=
  fn_okG (k := 0) F sc_of_endless rfl fun cdv A outer s H E hr => (pdb_one (pds_ret (pd_sl01 (po_val (pd_bin op_mulD ok_mul (po_slot (pv 0)) (po_val (pd_bin op_addD ok_add (po_val (pd_bin op_fdivW ok_div (po_slot (pv 1)) (po_val (pd_callB call_len ok_len (by rfl) z_len PySem.boot_len (pds_cons (po_slot (pv 0)) pds_nil))))) (po_val pd_int))))) (po_slot (pv 1)))))
theorem ok_rounds_meet {f : Addr} {fd : FuncData} (F : Fun K "rounds_meet" "rounds_meet" s_rounds_meet f fd) (z_len : mg "len" = none) (C_common  : CalleeG P w K mg base "common" 1 2 f_common) (C_of_endless  : CalleeG P w K mg base "of_endless" 1 2 f_of_endless) : FnG P w K mg base 2 f fd ["one", "other"] (spD K 2 f_rounds_meet) :=
  fn_okG (k := 1) F sc_rounds_meet rfl fun cdv A outer s H E hr => (pdb_cons (pds_if (pt_cmp1 (op_eqD hr.units) ok_eq (po_val (pd_bin op_addD ok_add (po_slot (pv 0)) (po_slot (pv 1)))) (po_val (pd_bin op_addD ok_add (po_slot (pv 1)) (po_slot (pv 0)))) (nomark _)) (pdb_one (pds_ret pd_non)) pdb_nil) (pdb_cons (pds_set (i := 2) (pd_bin op_addD ok_add (po_val (pd_callB call_len ok_len (by rfl) z_len PySem.boot_len (pds_cons (po_slot (pv 0)) pds_nil))) (po_val (pd_callB call_len ok_len (by rfl) z_len PySem.boot_len (pds_cons (po_slot (pv 1)) pds_nil)))) sc_rounds_meet.nd rfl (.inl rfl)) (pdb_one (pds_ret (pd_callCG C_common (hr.mono (by decide)) (by rfl) (pds_cons (po_val (pd_callCG C_of_endless (hr.mono (by decide)) (by rfl) (pds_cons (po_val (pd_var (pv 0))) (pds_cons (po_val (pd_var (pv 2))) pds_nil)))) (pds_cons (po_val (pd_callCG C_of_endless (hr.mono (by decide)) (by rfl) (pds_cons (po_val (pd_var (pv 1))) (pds_cons (po_val (pd_var (pv 2))) pds_nil)))) pds_nil)))))))
theorem ok_along {f : Addr} {fd : FuncData} (F : Fun K "along" "along" s_along f fd) (z_len : mg "len" = none) (C_common  : CalleeG P w K mg base "common" 1 2 f_common) (C_of_endless  : CalleeG P w K mg base "of_endless" 1 2 f_of_endless) : FnG P w K mg base 2 f fd ["word", "one"] (spD K 2 f_along) :=
  fn_okG (k := 1) F sc_along rfl fun cdv A outer s H E hr => (pdb_one (pds_ret (pd_callCG C_common (hr.mono (by decide)) (by rfl) (pds_cons (po_val (pd_var (pv 0))) (pds_cons (po_val (pd_callCG C_of_endless (hr.mono (by decide)) (by rfl) (pds_cons (po_val (pd_var (pv 1))) (pds_cons (po_val (pd_callB call_len ok_len (by rfl) z_len PySem.boot_len (pds_cons (po_slot (pv 0)) pds_nil))) pds_nil)))) pds_nil)))))
theorem ok_is_pair {f : Addr} {fd : FuncData} (F : Fun K "is_pair" "is_pair" s_is_pair f fd) {t_WORD : Tok} (g_WORD : mg "WORD" = some (.str (⟨⟨[119, 111, 114, 100]⟩⟩ : Str) t_WORD)) {t_ROUND : Tok} (g_ROUND : mg "ROUND" = some (.str (⟨⟨[114, 111, 117, 110, 100]⟩⟩ : Str) t_ROUND)) {t_ALL : Tok} (g_ALL : mg "ALL" = some (.str (⟨⟨[97, 108, 108]⟩⟩ : Str) t_ALL)) {t_MANY_PARTS : Tok} (g_MANY_PARTS : mg "MANY_PARTS" = some (.int 3 t_MANY_PARTS)) (z_all : mg "all" = none) (z_len : mg "len" = none) (z_isinstance : mg "isinstance" = none) (z_tuple : mg "tuple" = none) (C_least_round  : CalleeG P w K mg base "least_round" 2 1 f_least_round) (C_is_word  : CalleeG P w K mg base "is_word" 1 1 f_is_word) : FnG P w K mg base 3 f fd ["thing"] (spD K 1 f_is_pair) :=
  fn_okG (k := 2) F sc_is_pair rfl fun cdv A outer s H E hr => (pdb_cons (pds_if (pt_bool (pdw_or (pt_neg (pt_exp (pd_isi (T := "tuple") (by simp [okT]) (po_slot (pv 0)) (by rfl) z_isinstance PyProof.Rows.boot_isinstance (by rfl) z_tuple PyProof.Rows.boot_tuple (by decide) (by decide)))) (pdw_or (pt_cmp1 (op_neD hr.units) ok_ne (po_val (pd_callB call_len ok_len (by rfl) z_len PySem.boot_len (pds_cons (po_slot (pv 0)) pds_nil))) (po_val (pd_globI (by rfl) g_MANY_PARTS)) (nomark _)) (pdw_one_or (pt_neg (pt_exp (pd_callB (cr_all rfl) ok_all (by rfl) z_all PyProof.Rows.boot_all (pds_cons (po_val (pd_lc (own := [("part", 4)]) rfl sc_is_pair.nd (pi_any (pd_var (pv 0))) (blkOk_by (N := N_is_pair) (sc := defScope s_is_pair) (by decide +kernel)) (fun _ _ _ _ _ => (pg_set sc_is_pair.nd rfl (.inl rfl))) (fun _ _ _ _ _ => pdts_nil) (fun _ _ _ _ _ => (pd_callCG C_is_word (hr.mono (by decide)) (by rfl) (pds_cons (po_val (pd_var (pv 4))) pds_nil))))) pds_nil)))))))) (pdb_one (pds_ret pd_bl)) pdb_nil) (pdb_cons (pds_asg (pd_var (pv 0)) (pg_tuple rfl (pdgs_cons (pg_set sc_is_pair.nd rfl (.inl rfl)) (pdgs_cons (pg_set sc_is_pair.nd rfl (.inl rfl)) (pdgs_cons (pg_set sc_is_pair.nd rfl (.inl rfl)) pdgs_nil))))) (pdb_cons (pds_if (pt_cmp1 (op_eqD hr.units) ok_eq (po_slot (pv 2)) (po_val (pd_globS (by rfl) g_ALL rfl)) (nomark _)) (pdb_one (pds_ret (pd_cmp (op_eqD hr.units) ok_eq (po_slot (pv 3)) (po_val (pd_strS (by rfl))) (nomark _)))) pdb_nil) (pdb_cons (pds_if (pt_cmp1 (op_eqD hr.units) ok_eq (po_slot (pv 2)) (po_val (pd_globS (by rfl) g_ROUND rfl)) (nomark _)) (pdb_one (pds_ret (pd_and (pd_cmp (op_neD hr.units) ok_ne (po_slot (pv 3)) (po_val (pd_strS (by rfl))) (nomark _)) (pd_one (pd_cmp (op_eqD hr.units) ok_eq (po_val (pd_callCG C_least_round (hr.mono (by decide)) (by rfl) (pds_cons (po_val (pd_var (pv 3))) pds_nil))) (po_slot (pv 3)) (nomark _)))))) pdb_nil) (pdb_one (pds_ret (pd_cmp (op_eqD hr.units) ok_eq (po_slot (pv 2)) (po_val (pd_globS (by rfl) g_WORD rfl)) (nomark _))))))))
theorem ok_heard {f : Addr} {fd : FuncData} (F : Fun K "heard" "heard" s_heard f fd) {t_WORD : Tok} (g_WORD : mg "WORD" = some (.str (⟨⟨[119, 111, 114, 100]⟩⟩ : Str) t_WORD)) {t_ALL : Tok} (g_ALL : mg "ALL" = some (.str (⟨⟨[97, 108, 108]⟩⟩ : Str) t_ALL)) (C_common  : CalleeG P w K mg base "common" 1 2 f_common) (C_along  : CalleeG P w K mg base "along" 2 2 f_along) : FnG P w K mg base 3 f fd ["echo", "word"] (spD K 2 f_heard) :=
  fn_okG (k := 2) F sc_heard rfl fun cdv A outer s H E hr => (pdb_cons (pds_asg (pd_var (pv 0)) (pg_tuple rfl (pdgs_cons (pg_set sc_heard.nd rfl (.inl rfl)) (pdgs_cons (pg_set sc_heard.nd rfl (.inl rfl)) pdgs_nil)))) (pdb_cons (pds_if (pt_cmp1 (op_eqD hr.units) ok_eq (po_slot (pv 2)) (po_val (pd_globS (by rfl) g_ALL rfl)) (nomark _)) (pdb_one (pds_ret (pd_var (pv 1)))) pdb_nil) (pdb_one (pds_ret (pd_if (pt_cmp1 (op_eqD hr.units) ok_eq (po_slot (pv 2)) (po_val (pd_globS (by rfl) g_WORD rfl)) (nomark _)) (pd_callCG C_common (hr.mono (by decide)) (by rfl) (pds_cons (po_val (pd_var (pv 1))) (pds_cons (po_val (pd_var (pv 3))) pds_nil))) (pd_callCG C_along (hr.mono (by decide)) (by rfl) (pds_cons (po_val (pd_var (pv 1))) (pds_cons (po_val (pd_var (pv 3))) pds_nil))))))))
theorem ok_met {f : Addr} {fd : FuncData} (F : Fun K "met" "met" s_met f fd) {t_WORD : Tok} (g_WORD : mg "WORD" = some (.str (⟨⟨[119, 111, 114, 100]⟩⟩ : Str) t_WORD)) {t_ALL : Tok} (g_ALL : mg "ALL" = some (.str (⟨⟨[97, 108, 108]⟩⟩ : Str) t_ALL)) (C_rounds_meet  : CalleeG P w K mg base "rounds_meet" 2 2 f_rounds_meet) (C_heard  : CalleeG P w K mg base "heard" 3 2 f_heard) : FnG P w K mg base 4 f fd ["one", "other"] (spD K 2 f_met) :=
  fn_okG (k := 3) F sc_met rfl fun cdv A outer s H E hr => (pdb_cons (pds_if (pt_cmp1 (op_eqD hr.units) ok_eq (po_val (pd_ix ix_seq ok_ix (po_slot (pv 0)) (po_val pd_int) (fun _ _ => rfl))) (po_val (pd_globS (by rfl) g_ALL rfl)) (nomark _)) (pdb_one (pds_ret (pd_var (pv 1)))) pdb_nil) (pdb_cons (pds_if (pt_cmp1 (op_eqD hr.units) ok_eq (po_val (pd_ix ix_seq ok_ix (po_slot (pv 1)) (po_val pd_int) (fun _ _ => rfl))) (po_val (pd_globS (by rfl) g_ALL rfl)) (nomark _)) (pdb_one (pds_ret (pd_var (pv 0)))) pdb_nil) (pdb_cons (pds_if (pt_cmp1 (op_eqD hr.units) ok_eq (po_val (pd_ix ix_seq ok_ix (po_slot (pv 0)) (po_val pd_int) (fun _ _ => rfl))) (po_val (pd_globS (by rfl) g_WORD rfl)) (nomark _)) (pdb_one (pds_ret (pd_tup (pds_cons (po_val (pd_globS (by rfl) g_WORD rfl)) (pds_cons (po_val (pd_callCG C_heard (hr.mono (by decide)) (by rfl) (pds_cons (po_val (pd_var (pv 1))) (pds_cons (po_val (pd_ix ix_seq ok_ix (po_slot (pv 0)) (po_val pd_int) (fun _ _ => rfl))) pds_nil)))) pds_nil))))) pdb_nil) (pdb_cons (pds_if (pt_cmp1 (op_eqD hr.units) ok_eq (po_val (pd_ix ix_seq ok_ix (po_slot (pv 1)) (po_val pd_int) (fun _ _ => rfl))) (po_val (pd_globS (by rfl) g_WORD rfl)) (nomark _)) (pdb_one (pds_ret (pd_tup (pds_cons (po_val (pd_globS (by rfl) g_WORD rfl)) (pds_cons (po_val (pd_callCG C_heard (hr.mono (by decide)) (by rfl) (pds_cons (po_val (pd_var (pv 0))) (pds_cons (po_val (pd_ix ix_seq ok_ix (po_slot (pv 1)) (po_val pd_int) (fun _ _ => rfl))) pds_nil)))) pds_nil))))) pdb_nil) (pdb_cons (pds_set (i := 2) (pd_callCG C_rounds_meet (hr.mono (by decide)) (by rfl) (pds_cons (po_val (pd_ix ix_seq ok_ix (po_slot (pv 0)) (po_val pd_int) (fun _ _ => rfl))) (pds_cons (po_val (pd_ix ix_seq ok_ix (po_slot (pv 1)) (po_val pd_int) (fun _ _ => rfl))) pds_nil))) sc_met.nd rfl (.inl rfl)) (pdb_one (pds_ret (pd_if (pt_cmp1 op_isN ok_isN (po_slot (pv 2)) (po_val pd_non) (nomark _)) (pd_var (pv 0)) (pd_tup (pds_cons (po_val (pd_globS (by rfl) g_WORD rfl)) (pds_cons (po_val (pd_var (pv 2))) pds_nil)))))))))))
theorem ok_round_of {f : Addr} {fd : FuncData} (F : Fun K "round_of" "round_of" s_round_of f fd) {t_ROUND : Tok} (g_ROUND : mg "ROUND" = some (.str (⟨⟨[114, 111, 117, 110, 100]⟩⟩ : Str) t_ROUND)) (C_least_round  : CalleeG P w K mg base "least_round" 2 1 f_least_round) : FnG P w K mg base 3 f fd ["word"] (spD K 1 f_round_of) :=
  fn_okG (k := 2) F sc_round_of rfl fun cdv A outer s H E hr => (pdb_one (pds_ret (pd_tup (pds_cons (po_val (pd_globS (by rfl) g_ROUND rfl)) (pds_cons (po_val (pd_callCG C_least_round (hr.mono (by decide)) (by rfl) (pds_cons (po_val (pd_var (pv 0))) pds_nil))) pds_nil)))))
theorem ok_led_by {f : Addr} {fd : FuncData} (F : Fun K "led_by" "led_by" s_led_by f fd) {t_WORD : Tok} (g_WORD : mg "WORD" = some (.str (⟨⟨[119, 111, 114, 100]⟩⟩ : Str) t_WORD)) {t_ROUND : Tok} (g_ROUND : mg "ROUND" = some (.str (⟨⟨[114, 111, 117, 110, 100]⟩⟩ : Str) t_ROUND)) {t_ALL : Tok} (g_ALL : mg "ALL" = some (.str (⟨⟨[97, 108, 108]⟩⟩ : Str) t_ALL)) (C_rounds_meet  : CalleeG P w K mg base "rounds_meet" 2 2 f_rounds_meet) (C_along  : CalleeG P w K mg base "along" 2 2 f_along) (C_least_round  : CalleeG P w K mg base "least_round" 2 1 f_least_round) (C_round_of  : CalleeG P w K mg base "round_of" 3 1 f_round_of) : FnG P w K mg base 4 f fd ["word", "echo"] (spD K 2 f_led_by) :=
  fn_okG (k := 3) F sc_led_by rfl fun cdv A outer s H E hr => (pdb_cons (pds_asg (pd_var (pv 1)) (pg_tuple rfl (pdgs_cons (pg_set sc_led_by.nd rfl (.inl rfl)) (pdgs_cons (pg_set sc_led_by.nd rfl (.inl rfl)) pdgs_nil)))) (pdb_cons (pds_if (pt_bool (pdw_or (pt_cmp1 (op_eqD hr.units) ok_eq (po_slot (pv 2)) (po_val (pd_globS (by rfl) g_ALL rfl)) (nomark _)) (pdw_one_or (pt_bool (pdw_and (pt_cmp1 (op_eqD hr.units) ok_eq (po_slot (pv 2)) (po_val (pd_globS (by rfl) g_ROUND rfl)) (nomark _)) (pdw_one_and (pt_cmp1 (op_eqD hr.units) ok_eq (po_val (pd_callCG C_least_round (hr.mono (by decide)) (by rfl) (pds_cons (po_val (pd_var (pv 0))) pds_nil))) (po_slot (pv 3)) (nomark _)))))))) (pdb_one (pds_ret (pd_callCG C_round_of (hr.mono (by decide)) (by rfl) (pds_cons (po_val (pd_var (pv 0))) pds_nil)))) pdb_nil) (pdb_cons (pds_if (pt_cmp1 (op_eqD hr.units) ok_eq (po_slot (pv 2)) (po_val (pd_globS (by rfl) g_WORD rfl)) (nomark _)) (pdb_one (pds_ret (pd_tup (pds_cons (po_val (pd_globS (by rfl) g_WORD rfl)) (pds_cons (po_val (pd_callCG C_along (hr.mono (by decide)) (by rfl) (pds_cons (po_val (pd_bin op_addD ok_add (po_slot (pv 0)) (po_slot (pv 3)))) (pds_cons (po_val (pd_var (pv 0))) pds_nil)))) pds_nil))))) pdb_nil) (pdb_one (pds_ret (pd_tup (pds_cons (po_val (pd_globS (by rfl) g_WORD rfl)) (pds_cons (po_val (pd_bin op_addD ok_add (po_slot (pv 0)) (po_val (pd_callCG C_rounds_meet (hr.mono (by decide)) (by rfl) (pds_cons (po_val (pd_var (pv 0))) (pds_cons (po_val (pd_var (pv 3))) pds_nil)))))) pds_nil))))))))
theorem ok_both {f : Addr} {fd : FuncData} (F : Fun K "both" "both" s_both f fd) {a_PARTED : Addr} {dd_PARTED : Option Addr} {n_PARTED : Nat} {sl_PARTED : Array (Option Value)} {t_PARTED0 : Tok} {t_PARTED1 : Tok} (g_PARTED : mg "PARTED" = some (.ref a_PARTED)) (h_PARTED : K.lookup a_PARTED = some ⟨.type "tuple", dd_PARTED, .seq #[(.str (⟨⟨[119, 111, 114, 100]⟩⟩ : Str) t_PARTED0), (.str (⟨⟨[]⟩⟩ : Str) t_PARTED1)] n_PARTED, sl_PARTED⟩) (z_len : mg "len" = none) (C_met  : CalleeG P w K mg base "met" 4 2 f_met) (C_led_by  : CalleeG P w K mg base "led_by" 4 2 f_led_by) (C_common  : CalleeG P w K mg base "common" 1 2 f_common) : FnG P w K mg base 5 f fd ["one", "other"] (spD K 2 f_both) :=
  fn_okG (k := 4) F sc_both rfl fun cdv A outer s H E hr => (pdb_cons (pds_if (pt_cmp1 op_gtD ok_gt (po_val (pd_callB call_len ok_len (by rfl) z_len PySem.boot_len (pds_cons (po_val (pd_ix ix_seq ok_ix (po_slot (pv 0)) (po_val pd_int) (fun _ _ => rfl))) pds_nil))) (po_val (pd_callB call_len ok_len (by rfl) z_len PySem.boot_len (pds_cons (po_val (pd_ix ix_seq ok_ix (po_slot (pv 1)) (po_val pd_int) (fun _ _ => rfl))) pds_nil))) (nomark _)) (pdb_one (pds_par (i := 0) (j := 1) rfl sc_both.nd rfl rfl (by decide) rfl rfl (pds_cons (po_val (pd_var (pv 1))) (pds_cons (po_val (pd_var (pv 0))) pds_nil)) (by rfl))) pdb_nil) (pdb_cons (pds_par (i := 2) (j := 3) rfl sc_both.nd rfl rfl (by decide) rfl rfl (pds_cons (po_val (pd_ix ix_seq ok_ix (po_slot (pv 0)) (po_val pd_int) (fun _ _ => rfl))) (pds_cons (po_val (pd_ix ix_seq ok_ix (po_slot (pv 1)) (po_val pd_int) (fun _ _ => rfl))) pds_nil)) (by rfl)) (pdb_cons (pds_if (pt_cmp1 (op_neD hr.units) ok_ne (po_val (pd_callCG C_common (hr.mono (by decide)) (by rfl) (pds_cons (po_val (pd_var (pv 2))) (pds_cons (po_val (pd_var (pv 3))) pds_nil)))) (po_slot (pv 2)) (nomark _)) (pdb_one (pds_ret (pd_bin op_addD ok_add (po_val (pd_tup (pds_cons (po_val (pd_callCG C_common (hr.mono (by decide)) (by rfl) (pds_cons (po_val (pd_var (pv 2))) (pds_cons (po_val (pd_var (pv 3))) pds_nil)))) pds_nil))) (po_val (pd_globT (ds := [S [119, 111, 114, 100], S []]) (by rfl) g_PARTED h_PARTED rfl rfl (by simp) ⟨_, _, rfl, ⟨⟨_, rfl⟩, by decide +kernel⟩, ⟨_, _, rfl, ⟨⟨_, rfl⟩, by decide +kernel⟩, rfl⟩⟩))))) pdb_nil) (pdb_cons (pds_if (pt_cmp1 (op_eqD hr.units) ok_eq (po_slot (pv 2)) (po_slot (pv 3)) (nomark _)) (pdb_one (pds_ret (pd_bin op_addD ok_add (po_val (pd_tup (pds_cons (po_val (pd_var (pv 2))) pds_nil))) (po_val (pd_callCG C_met (hr.mono (by decide)) (by rfl) (pds_cons (po_val (pd_sl10 (po_slot (pv 0)) (po_val pd_int))) (pds_cons (po_val (pd_sl10 (po_slot (pv 1)) (po_val pd_int))) pds_nil))))))) pdb_nil) (pdb_one (pds_ret (pd_bin op_addD ok_add (po_val (pd_tup (pds_cons (po_val (pd_var (pv 2))) pds_nil))) (po_val (pd_callCG C_met (hr.mono (by decide)) (by rfl) (pds_cons (po_val (pd_sl10 (po_slot (pv 0)) (po_val pd_int))) (pds_cons (po_val (pd_callCG C_led_by (hr.mono (by decide)) (by rfl) (pds_cons (po_val (pd_sl10 (po_slot (pv 3)) (po_val (pd_callB call_len ok_len (by rfl) z_len PySem.boot_len (pds_cons (po_slot (pv 2)) pds_nil))))) (pds_cons (po_val (pd_sl10 (po_slot (pv 1)) (po_val pd_int))) pds_nil)))) pds_nil)))))))))))
theorem ok_pair_of {f : Addr} {fd : FuncData} (F : Fun K "pair_of" "pair_of" s_pair_of f fd) {t_ALL : Tok} (g_ALL : mg "ALL" = some (.str (⟨⟨[97, 108, 108]⟩⟩ : Str) t_ALL)) (C_both  : CalleeG P w K mg base "both" 5 2 f_both) : FnG P w K mg base 6 f fd ["words"] (spD K 1 f_pair_of) :=
  fn_okG (k := 5) F sc_pair_of rfl fun cdv A outer s H E hr => (pdb_cons (pds_set (i := 1) (pd_tup (pds_cons (po_val (pd_ix ix_seq ok_ix (po_slot (pv 0)) (po_val pd_int) (fun _ _ => rfl))) (pds_cons (po_val (pd_globS (by rfl) g_ALL rfl)) (pds_cons (po_val (pd_strS (by rfl))) pds_nil)))) sc_pair_of.nd rfl (.inl rfl)) (pdb_cons (pds_for PassesOwn.never rfl (pi_any (pd_sl10 (po_slot (pv 0)) (po_val pd_int))) (pg_set sc_pair_of.nd rfl (.inl rfl)) (pdb_one (pds_set (i := 1) (pd_callCG C_both (hr.mono (by decide)) (by rfl) (pds_cons (po_val (pd_var (pv 1))) (pds_cons (po_val (pd_tup (pds_cons (po_val (pd_var (pv 2))) (pds_cons (po_val (pd_globS (by rfl) g_ALL rfl)) (pds_cons (po_val (pd_strS (by rfl))) pds_nil))))) pds_nil))) sc_pair_of.nd rfl (.inl rfl)))) (pdb_one (pds_retV (pv 1)))))
theorem ok_law_hand {f : Addr} {fd : FuncData} (F : Fun K "_law_hand" "_law_hand" s_law_hand f fd) (z_abs : mg "abs" = none) (z_int : mg "int" = none) (z_len : mg "len" = none) : FnG P w K mg base 1 f fd ["_law_script", "_law_k"] (spD K 2 f_law_hand) :=
  fn_okG (k := 0) F sc_law_hand rfl fun cdv A outer s H E hr => (pdb_cons (pds_set (i := 2) (pd_if (pt_cmp1 op_ltD ok_lt (po_slot (pv 1)) (po_val (pd_callB call_len ok_len (by rfl) z_len PySem.boot_len (pds_cons (po_slot (pv 0)) pds_nil))) (nomark _)) (pd_ix ix_seq ok_ix (po_slot (pv 0)) (po_slot (pv 1)) (fun _ _ => rfl)) pd_int) sc_law_hand.nd rfl (.inl rfl)) (pdb_cons (pds_set (i := 3) (pd_bin op_mod ok_mod (po_val (pd_bin op_addD ok_add (po_val (pd_bin op_addD ok_add (po_val (pd_bin op_mulD ok_mul (po_val (pd_bin op_mod ok_mod (po_slot (pv 2)) (po_val pd_int))) (po_val pd_int))) (po_val (pd_bin op_mulD ok_mul (po_val pd_int) (po_slot (pv 1)))))) (po_val pd_int))) (po_val pd_int)) sc_law_hand.nd rfl (.inl rfl)) (pdb_one (pds_ret (pd_lst (pds_cons (po_val (pd_bin op_mulD ok_mul (po_val (pd_callB call_abs ok_abs (by rfl) z_abs PyProof.Rows.boot_abs (pds_cons (po_slot (pv 2)) pds_nil))) (po_val (pd_callTy call_int1 ok_int (by rfl) z_int PyProof.Rows.boot_int (pds_cons (po_val (pd_cmp op_geD ok_ge (po_val (pd_callB call_abs ok_abs (by rfl) z_abs PyProof.Rows.boot_abs (pds_cons (po_slot (pv 2)) pds_nil))) (po_val (pd_bin op_pow ok_pow (po_val pd_int) (po_val pd_int))) (nomark _))) pds_nil))))) (pds_cons (po_val (pd_var (pv 3))) (pds_cons (po_val pd_int) pds_nil))))))))
theorem ok_law_take {f : Addr} {fd : FuncData} (F : Fun K "_law_take" "_law_take" s_law_take f fd) : FnG P w K mg base 1 f fd ["_law_hand_here", "_law_many"] (spD K 2 f_law_take) :=
  fn_okG (k := 0) F sc_law_take rfl fun cdv A outer s H E hr => (pdb_cons (pds_if (pt_cmp1 op_gtD ok_gt (po_val (pd_ix ix_seq ok_ix (po_slot (pv 0)) (po_val pd_int) (fun _ _ => rfl))) (po_val pd_int) (nomark _)) (pdb_cons (pds_set (i := 6) (pd_bin op_mod ok_mod (po_val (pd_ix ix_seq ok_ix (po_slot (pv 0)) (po_val pd_int) (fun _ _ => rfl))) (po_slot (pv 1))) sc_law_take.nd rfl (.inl rfl)) (pdb_cons (pds_setIx (pv 0) (po_val pd_int) (po_val (pd_bin op_fdivW ok_div (po_val (pd_ix ix_seq ok_ix (po_slot (pv 0)) (po_val pd_int) (fun _ _ => rfl))) (po_slot (pv 1))))) (pdb_one (pds_retV (pv 6))))) pdb_nil) (pdb_cons (pds_setIx (pv 0) (po_val pd_int) (po_val (pd_bin op_addD ok_add (po_val (pd_ix ix_seq ok_ix (po_slot (pv 0)) (po_val pd_int) (fun _ _ => rfl))) (po_val pd_int)))) (pdb_cons (pds_set (i := 2) (pd_bin op_addD ok_add (po_val (pd_ix ix_seq ok_ix (po_slot (pv 0)) (po_val pd_int) (fun _ _ => rfl))) (po_val (pd_bin op_mulD ok_mul (po_val pd_int) (po_val (pd_ix ix_seq ok_ix (po_slot (pv 0)) (po_val pd_int) (fun _ _ => rfl)))))) sc_law_take.nd rfl (.inl rfl)) (pdb_cons (pds_set (i := 3) (pd_bin op_addD ok_add (po_val (pd_bin op_addD ok_add (po_val (pd_bin op_mod ok_mod (po_val (pd_ix ix_seq ok_ix (po_slot (pv 0)) (po_val pd_int) (fun _ _ => rfl))) (po_val pd_int))) (po_val (pd_bin op_mulD ok_mul (po_val pd_int) (po_val (pd_ix ix_seq ok_ix (po_slot (pv 0)) (po_val pd_int) (fun _ _ => rfl))))))) (po_val pd_int)) sc_law_take.nd rfl (.inl rfl)) (pdb_cons (pds_set (i := 4) (pd_bin op_mod ok_mod (po_val (pd_bin op_mulD ok_mul (po_slot (pv 2)) (po_slot (pv 3)))) (po_val pd_int)) sc_law_take.nd rfl (.inl rfl)) (pdb_cons (pds_set (i := 5) (pd_bin op_addD ok_add (po_val (pd_bin op_addD ok_add (po_val (pd_bin op_mod ok_mod (po_slot (pv 4)) (po_val pd_int))) (po_val (pd_bin op_mulD ok_mul (po_val pd_int) (po_val (pd_ix ix_seq ok_ix (po_slot (pv 0)) (po_val pd_int) (fun _ _ => rfl))))))) (po_val pd_int)) sc_law_take.nd rfl (.inl rfl)) (pdb_one (pds_ret (pd_bin op_mod ok_mod (po_val (pd_bin op_fdivW ok_div (po_val (pd_bin op_mod ok_mod (po_val (pd_bin op_mulD ok_mul (po_val (pd_bin op_addD ok_add (po_slot (pv 4)) (po_val pd_int))) (po_slot (pv 5)))) (po_val pd_int))) (po_val pd_int))) (po_slot (pv 1)))))))))))
theorem ok_law_pick {f : Addr} {fd : FuncData} (F : Fun K "_law_pick" "_law_pick" s_law_pick f fd) (z_len : mg "len" = none) (C_law_take  : CalleeG P w K mg base "_law_take" 1 2 f_law_take) : FnG P w K mg base 2 f fd ["_law_hand_here", "_law_some"] (spD K 2 f_law_pick) :=
  fn_okG (k := 1) F sc_law_pick rfl fun cdv A outer s H E hr => (pdb_one (pds_ret (pd_ix ix_seq ok_ix (po_slot (pv 1)) (po_val (pd_callCG C_law_take (hr.mono (by decide)) (by rfl) (pds_cons (po_slot (pv 0)) (pds_cons (po_val (pd_callB call_len ok_len (by rfl) z_len PySem.boot_len (pds_cons (po_slot (pv 1)) pds_nil))) pds_nil)))) (fun _ _ => rfl))))
theorem ok_law_signs {f : Addr} {fd : FuncData} (F : Fun K "_law_signs" "_law_signs" s_law_signs f fd) (C_law_pick  : CalleeG P w K mg base "_law_pick" 2 2 f_law_pick) : FnG P w K mg base 3 f fd ["_law_hand_here"] (spD K 1 f_law_signs) :=
  fn_okG (k := 2) F sc_law_signs rfl fun cdv A outer s H E hr => (pdb_one (pds_ret (pd_callCG C_law_pick (hr.mono (by decide)) (by rfl) (pds_cons (po_slot (pv 0)) (pds_cons (po_val (pd_lst (pds_cons (po_val (pd_strS (by rfl))) (pds_cons (po_val (pd_strS (by rfl))) (pds_cons (po_val (pd_strS (by rfl))) (pds_cons (po_val (pd_strS (by rfl))) (pds_cons (po_val (pd_strS (by rfl))) (pds_cons (po_val (pd_strS (by rfl))) (pds_cons (po_val (pd_strS (by rfl))) (pds_cons (po_val (pd_strS (by rfl))) pds_nil)))))))))) pds_nil)))))
theorem ok_law_word {f : Addr} {fd : FuncData} (F : Fun K "_law_word" "_law_word" s_law_word f fd) (z_range : mg "range" = none) (C_law_take  : CalleeG P w K mg base "_law_take" 1 2 f_law_take) (C_law_pick  : CalleeG P w K mg base "_law_pick" 2 2 f_law_pick) : FnG P w K mg base 3 f fd ["_law_hand_here", "_law_signs_here", "_law_most"] (spD K 3 f_law_word) :=
  fn_okG (k := 2) F sc_law_word rfl fun cdv A outer s H E hr => (pdb_one (pds_ret (pd_meth PySem.F.plainAttrs_str PySem.F.slot_str_join PySem.F.type_str_join mt_join ok_join (po_val (pd_strS (by rfl))) (pds_cons (po_val (pd_lc (own := [("_law_k", 3)]) rfl sc_law_word.nd (pi_rg1 (by rfl) z_range (pds_cons (po_val (pd_callCG C_law_take (hr.mono (by decide)) (by rfl) (pds_cons (po_slot (pv 0)) (pds_cons (po_val (pd_bin op_addD ok_add (po_slot (pv 2)) (po_val pd_int))) pds_nil)))) pds_nil)) (blkOk_by (N := N_law_word) (sc := defScope s_law_word) (by decide +kernel)) (fun _ _ _ _ _ => (pg_set sc_law_word.nd rfl (.inl rfl))) (fun _ _ _ _ _ => pdts_nil) (fun _ _ _ _ _ => (pd_callCG C_law_pick (hr.mono (by decide)) (by rfl) (pds_cons (po_slot (pv 0)) (pds_cons (po_val (pd_var (pv 1))) pds_nil)))))) pds_nil))))
theorem ok_law_words {f : Addr} {fd : FuncData} (F : Fun K "_law_words" "_law_words" s_law_words f fd) (z_range : mg "range" = none) (z_int : mg "int" = none) (C_law_word  : CalleeG P w K mg base "_law_word" 3 3 f_law_word) (C_law_take  : CalleeG P w K mg base "_law_take" 1 2 f_law_take) : FnG P w K mg base 4 f fd ["_law_hand_here", "_law_signs_here"] (spD K 2 f_law_words) :=
  fn_okG (k := 3) F sc_law_words rfl fun cdv A outer s H E hr => (pdb_cons (pds_asg (pd_tup (pds_cons (po_val (pd_callCG C_law_take (hr.mono (by decide)) (by rfl) (pds_cons (po_slot (pv 0)) (pds_cons (po_val pd_int) pds_nil)))) (pds_cons (po_val (pd_callCG C_law_word (hr.mono (by decide)) (by rfl) (pds_cons (po_slot (pv 0)) (pds_cons (po_val (pd_var (pv 1))) (pds_cons (po_val pd_int) pds_nil))))) (pds_cons (po_val (pd_bin op_addD ok_add (po_val pd_int) (po_val (pd_callCG C_law_take (hr.mono (by decide)) (by rfl) (pds_cons (po_slot (pv 0)) (pds_cons (po_val pd_int) pds_nil)))))) pds_nil)))) (pg_tuple rfl (pdgs_cons (pg_set sc_law_words.nd rfl (.inl rfl)) (pdgs_cons (pg_set sc_law_words.nd rfl (.inr rfl)) (pdgs_cons (pg_set sc_law_words.nd rfl (.inl rfl)) pdgs_nil))))) (pdb_cons (pds_asg (pd_tup (pds_cons (po_val (pd_bin op_addD ok_add (po_val (pd_callCG C_law_word (hr.mono (by decide)) (by rfl) (pds_cons (po_slot (pv 0)) (pds_cons (po_val (pd_var (pv 1))) (pds_cons (po_val pd_int) pds_nil))))) (po_val (pd_ix ix_seq ok_ix (po_slot (pv 1)) (po_val pd_int) (fun _ _ => rfl))))) (pds_cons (po_val (pd_bin op_addD ok_add (po_val (pd_callCG C_law_word (hr.mono (by decide)) (by rfl) (pds_cons (po_slot (pv 0)) (pds_cons (po_val (pd_var (pv 1))) (pds_cons (po_val pd_int) pds_nil))))) (po_val (pd_ix ix_seq ok_ix (po_slot (pv 1)) (po_val (pd_un un_neg ok_neg (po_val pd_int))) (fun _ _ => rfl))))) pds_nil))) (pg_tuple rfl (pdgs_cons (pg_set sc_law_words.nd rfl (.inr rfl)) (pdgs_cons (pg_set sc_law_words.nd rfl (.inl rfl)) pdgs_nil)))) (pdb_cons (pds_if (pt_cmp1 (op_eqD hr.units) ok_eq (po_slot (pv 2)) (po_val pd_int) (nomark _)) (pdb_one (pds_ret (pd_lc (own := [("_law_k", 7)]) rfl sc_law_words.nd (pi_rg1 (by rfl) z_range (pds_cons (po_slot (pv 4)) pds_nil)) (blkOk_by (N := N_law_words) (sc := defScope s_law_words) (by decide +kernel)) (fun _ _ _ _ _ => (pg_set sc_law_words.nd rfl (.inl rfl))) (fun _ _ _ _ _ => pdts_nil) (fun _ _ _ _ _ => (pd_callCG C_law_word (hr.mono (by decide)) (by rfl) (pds_cons (po_slot (pv 0)) (pds_cons (po_val (pd_var (pv 1))) (pds_cons (po_val pd_int) pds_nil)))))))) pdb_nil) (pdb_cons (pds_if (pt_cmp1 (op_eqD hr.units) ok_eq (po_slot (pv 2)) (po_val pd_int) (nomark _)) (pdb_one (pds_ret (pd_lst (pds_cons (po_val (pd_var (pv 3))) pds_nil)))) pdb_nil) (pdb_cons (pds_if (pt_cmp1 (op_eqD hr.units) ok_eq (po_slot (pv 2)) (po_val pd_int) (nomark _)) (pdb_one (pds_ret (pd_bin op_addD ok_add (po_val (pd_lc (own := [("_law_k", 7)]) rfl sc_law_words.nd (pi_rg1 (by rfl) z_range (pds_cons (po_slot (pv 4)) pds_nil)) (blkOk_by (N := N_law_words) (sc := defScope s_law_words) (by decide +kernel)) (fun _ _ _ _ _ => (pg_set sc_law_words.nd rfl (.inl rfl))) (fun _ _ _ _ _ => pdts_nil) (fun _ _ _ _ _ => (pd_bin op_addD ok_add (po_slot (pv 3)) (po_val (pd_bin op_mulD ok_mul (po_slot (pv 5)) (po_val (pd_callCG C_law_take (hr.mono (by decide)) (by rfl) (pds_cons (po_slot (pv 0)) (pds_cons (po_val pd_int) pds_nil)))))))))) (po_val (pd_lst (pds_cons (po_val (pd_var (pv 3))) pds_nil)))))) pdb_nil) (pdb_cons (pds_if (pt_cmp1 (op_eqD hr.units) ok_eq (po_slot (pv 2)) (po_val pd_int) (nomark _)) (pdb_one (pds_ret (pd_lst (pds_cons (po_val (pd_var (pv 3))) (pds_cons (po_val (pd_bin op_addD ok_add (po_slot (pv 3)) (po_val (pd_bin op_mulD ok_mul (po_slot (pv 5)) (po_val (pd_bin op_addD ok_add (po_val pd_int) (po_val (pd_callCG C_law_take (hr.mono (by decide)) (by rfl) (pds_cons (po_slot (pv 0)) (pds_cons (po_val pd_int) pds_nil)))))))))) (pds_cons (po_val (pd_bin op_addD ok_add (po_slot (pv 3)) (po_val (pd_bin op_mulD ok_mul (po_slot (pv 6)) (po_val (pd_bin op_addD ok_add (po_val pd_int) (po_val (pd_callCG C_law_take (hr.mono (by decide)) (by rfl) (pds_cons (po_slot (pv 0)) (pds_cons (po_val pd_int) pds_nil)))))))))) pds_nil)))))) pdb_nil) (pdb_cons (pds_if (pt_cmp1 (op_eqD hr.units) ok_eq (po_slot (pv 2)) (po_val pd_int) (nomark _)) (pdb_one (pds_ret (pd_lst (pds_cons (po_val (pd_bin op_addD ok_add (po_val (pd_bin op_addD ok_add (po_slot (pv 3)) (po_val (pd_bin op_mulD ok_mul (po_slot (pv 5)) (po_val pd_int))))) (po_slot (pv 6)))) (pds_cons (po_val (pd_var (pv 3))) (pds_cons (po_val (pd_bin op_addD ok_add (po_val (pd_bin op_addD ok_add (po_slot (pv 3)) (po_val (pd_bin op_mulD ok_mul (po_slot (pv 5)) (po_val pd_int))))) (po_val (pd_sl01 (po_slot (pv 6)) (po_val pd_int))))) (pds_cons (po_val (pd_bin op_addD ok_add (po_slot (pv 3)) (po_slot (pv 5)))) pds_nil))))))) pdb_nil) (pdb_one (pds_ret (pd_bin op_addD ok_add (po_val (pd_lc (own := [("_law_k", 7)]) rfl sc_law_words.nd (pi_rg1 (by rfl) z_range (pds_cons (po_slot (pv 4)) pds_nil)) (blkOk_by (N := N_law_words) (sc := defScope s_law_words) (by decide +kernel)) (fun _ _ _ _ _ => (pg_set sc_law_words.nd rfl (.inl rfl))) (fun _ _ _ _ _ => pdts_nil) (fun _ _ _ _ _ => (pd_bin op_addD ok_add (po_slot (pv 3)) (po_val (pd_callCG C_law_word (hr.mono (by decide)) (by rfl) (pds_cons (po_slot (pv 0)) (pds_cons (po_val (pd_var (pv 1))) (pds_cons (po_val pd_int) pds_nil))))))))) (po_val (pd_bin op_mulD ok_mul (po_val (pd_lst (pds_cons (po_val (pd_var (pv 3))) pds_nil))) (po_val (pd_callTy call_int1 ok_int (by rfl) z_int PyProof.Rows.boot_int (pds_cons (po_val (pd_cmp (op_eqD hr.units) ok_eq (po_slot (pv 2)) (po_val pd_int) (nomark _))) pds_nil)))))))))))))))
theorem ok_law_begin {f : Addr} {fd : FuncData} (F : Fun K "_law_begin" "_law_begin" s_law_begin f fd) (z_all : mg "all" = none) (z_min : mg "min" = none) (z_len : mg "len" = none) : FnG P w K mg base 1 f fd ["_law_some"] (spD K 1 f_law_begin) :=
  fn_okG (k := 0) F sc_law_begin rfl fun cdv A outer s H E hr => (pdb_cons (pds_asg (pd_tup (pds_cons (po_val (pd_callB (cr_min rfl) ok_minL (by rfl) z_min PyProof.Rows.boot_min (pds_cons (po_val (pd_lc (own := [("_law_word_here", 3)]) rfl sc_law_begin.nd (pi_any (pd_var (pv 0))) (blkOk_by (N := N_law_begin) (sc := defScope s_law_begin) (by decide +kernel)) (fun _ _ _ _ _ => (pg_set sc_law_begin.nd rfl (.inl rfl))) (fun _ _ _ _ _ => pdts_nil) (fun _ _ _ _ _ => (pd_callB call_len ok_len (by rfl) z_len PySem.boot_len (pds_cons (po_slot (pv 3)) pds_nil))))) pds_nil))) (pds_cons (po_val pd_int) pds_nil))) (pg_tuple rfl (pdgs_cons (pg_set sc_law_begin.nd rfl (.inl rfl)) (pdgs_cons (pg_set sc_law_begin.nd rfl (.inr rfl)) pdgs_nil)))) (pdb_cons (pds_while PassesOwn.never (pt_bool (pdw_and (pt_cmp1 op_ltD ok_lt (po_slot (pv 2)) (po_slot (pv 1)) (nomark _)) (pdw_one_and (pt_exp (pd_callB (cr_all rfl) ok_all (by rfl) z_all PyProof.Rows.boot_all (pds_cons (po_val (pd_lc (own := [("_law_word_here", 3)]) rfl sc_law_begin.nd (pi_any (pd_var (pv 0))) (blkOk_by (N := N_law_begin) (sc := defScope s_law_begin) (by decide +kernel)) (fun _ _ _ _ _ => (pg_set sc_law_begin.nd rfl (.inl rfl))) (fun _ _ _ _ _ => pdts_nil) (fun _ _ _ _ _ => (pd_cmp (op_eqD hr.units) ok_eq (po_val (pd_ix ix_seq ok_ix (po_slot (pv 3)) (po_slot (pv 2)) (fun _ _ => rfl))) (po_val (pd_ix ix_seq ok_ix (po_val (pd_ix ix_seq ok_ix (po_slot (pv 0)) (po_val pd_int) (fun _ _ => rfl))) (po_slot (pv 2)) (fun _ _ => rfl))) (nomark _))))) pds_nil)))))) (pdb_one (pds_set (i := 2) (pd_bin op_addD ok_add (po_slot (pv 2)) (po_val pd_int)) sc_law_begin.nd rfl (.inr rfl)))) (pdb_one (pds_ret (pd_sl01 (po_val (pd_ix ix_seq ok_ix (po_slot (pv 0)) (po_val pd_int) (fun _ _ => rfl))) (po_slot (pv 2)))))))
theorem ok_law_round {f : Addr} {fd : FuncData} (F : Fun K "_law_round" "_law_round" s_law_round f fd) (z_range : mg "range" = none) (z_len : mg "len" = none) : FnG P w K mg base 1 f fd ["_law_word_here"] (spD K 1 f_law_round) :=
  fn_okG (k := 0) F sc_law_round rfl fun cdv A outer s H E hr => (pdb_cons (pds_for PassesOwn.never rfl (pi_rg2 (by rfl) z_range (pds_cons (po_val pd_int) (pds_cons (po_val (pd_callB call_len ok_len (by rfl) z_len PySem.boot_len (pds_cons (po_slot (pv 0)) pds_nil))) pds_nil))) (pg_set sc_law_round.nd rfl (.inl rfl)) (pdb_one (pds_if (pt_cmp1 (op_eqD hr.units) ok_eq (po_val (pd_bin op_mulD ok_mul (po_val (pd_sl01 (po_slot (pv 0)) (po_slot (pv 1)))) (po_val (pd_bin op_fdivW ok_div (po_val (pd_callB call_len ok_len (by rfl) z_len PySem.boot_len (pds_cons (po_slot (pv 0)) pds_nil))) (po_slot (pv 1)))))) (po_slot (pv 0)) (nomark _)) (pdb_one (pds_ret (pd_sl01 (po_slot (pv 0)) (po_slot (pv 1))))) pdb_nil))) (pdb_one (pds_ret (pd_var (pv 0)))))
theorem ok_law_due {f : Addr} {fd : FuncData} (F : Fun K "_law_due" "_law_due" s_law_due f fd) (z_len : mg "len" = none) (z_max : mg "max" = none) (z_sorted : mg "sorted" = none) (z_set : mg "set" = none) (C_law_round  : CalleeG P w K mg base "_law_round" 1 1 f_law_round) (C_law_begin  : CalleeG P w K mg base "_law_begin" 1 1 f_law_begin) : FnG P w K mg base 2 f fd ["_law_some"] (spD K 1 f_law_due) :=
  fn_okG (k := 1) F sc_law_due rfl fun cdv A outer s H E hr => (pdb_cons (pds_set (i := 1) (pd_callCG C_law_begin (hr.mono (by decide)) (by rfl) (pds_cons (po_val (pd_var (pv 0))) pds_nil)) sc_law_due.nd rfl (.inr rfl)) (pdb_cons (pds_set (i := 2) (pd_sortSet (po_val (pd_lc (own := [("_law_word_here", 6)]) rfl sc_law_due.nd (pi_any (pd_var (pv 0))) (blkOk_by (N := N_law_due) (sc := defScope s_law_due) (by decide +kernel)) (fun _ _ _ _ _ => (pg_set sc_law_due.nd rfl (.inl rfl))) (fun _ _ _ _ _ => pdts_nil) (fun _ _ _ _ _ => (pd_sl10 (po_slot (pv 6)) (po_val (pd_callB call_len ok_len (by rfl) z_len PySem.boot_len (pds_cons (po_slot (pv 1)) pds_nil))))))) rfl (by rfl) z_sorted (by rfl) z_set) sc_law_due.nd rfl (.inl rfl)) (pdb_cons (pds_if (pt_cmp1 (op_eqD hr.units) ok_eq (po_val (pd_callB call_len ok_len (by rfl) z_len PySem.boot_len (pds_cons (po_slot (pv 2)) pds_nil))) (po_val pd_int) (nomark _)) (pdb_one (pds_ret (pd_tup (pds_cons (po_val (pd_var (pv 1))) (pds_cons (po_val (pd_strS (by rfl))) (pds_cons (po_val (pd_strS (by rfl))) pds_nil)))))) pdb_nil) (pdb_cons (pds_if (pt_cmp1 (op_neD hr.units) ok_ne (po_val (pd_ix ix_seq ok_ix (po_slot (pv 2)) (po_val pd_int) (fun _ _ => rfl))) (po_val (pd_strS (by rfl))) (nomark _)) (pdb_one (pds_ret (pd_tup (pds_cons (po_val (pd_var (pv 1))) (pds_cons (po_val (pd_strS (by rfl))) (pds_cons (po_val (pd_strS (by rfl))) pds_nil)))))) pdb_nil) (pdb_cons (pds_set (i := 3) (pd_bin op_mulD ok_mul (po_val pd_int) (po_val (pd_callB (cr_max rfl) ok_maxL (by rfl) z_max PyProof.Rows.boot_max (pds_cons (po_val (pd_lc (own := [("_law_tail", 5)]) rfl sc_law_due.nd (pi_any (pd_var (pv 2))) (blkOk_by (N := N_law_due) (sc := defScope s_law_due) (by decide +kernel)) (fun _ _ _ _ _ => (pg_set sc_law_due.nd rfl (.inl rfl))) (fun _ _ _ _ _ => pdts_nil) (fun _ _ _ _ _ => (pd_callB call_len ok_len (by rfl) z_len PySem.boot_len (pds_cons (po_slot (pv 5)) pds_nil))))) pds_nil)))) sc_law_due.nd rfl (.inr rfl)) (pdb_cons (pds_set (i := 4) (pd_callCG C_law_begin (hr.mono (by decide)) (by rfl) (pds_cons (po_val (pd_lc (own := [("_law_tail", 5)]) rfl sc_law_due.nd (pi_any (pd_sl10 (po_slot (pv 2)) (po_val pd_int))) (blkOk_by (N := N_law_due) (sc := defScope s_law_due) (by decide +kernel)) (fun _ _ _ _ _ => (pg_set sc_law_due.nd rfl (.inl rfl))) (fun _ _ _ _ _ => pdts_nil) (fun _ _ _ _ _ => (pd_sl01 (po_val (pd_bin op_mulD ok_mul (po_slot (pv 5)) (po_val (pd_bin op_addD ok_add (po_val (pd_bin op_fdivW ok_div (po_slot (pv 3)) (po_val (pd_callB call_len ok_len (by rfl) z_len PySem.boot_len (pds_cons (po_slot (pv 5)) pds_nil))))) (po_val pd_int))))) (po_slot (pv 3)))))) pds_nil)) sc_law_due.nd rfl (.inl rfl)) (pdb_one (pds_ret (pd_if (pt_cmp1 (op_eqD hr.units) ok_eq (po_val (pd_callB call_len ok_len (by rfl) z_len PySem.boot_len (pds_cons (po_slot (pv 4)) pds_nil))) (po_slot (pv 3)) (nomark _)) (pd_tup (pds_cons (po_val (pd_var (pv 1))) (pds_cons (po_val (pd_strS (by rfl))) (pds_cons (po_val (pd_callCG C_law_round (hr.mono (by decide)) (by rfl) (pds_cons (po_val (pd_ix ix_seq ok_ix (po_slot (pv 2)) (po_val pd_int) (fun _ _ => rfl))) pds_nil))) pds_nil)))) (pd_tup (pds_cons (po_val (pd_var (pv 1))) (pds_cons (po_val (pd_strS (by rfl))) (pds_cons (po_val (pd_var (pv 4))) pds_nil)))))))))))))
theorem ok_law_is_word {f : Addr} {fd : FuncData} (F : Fun K "_law_is_word" "_law_is_word" s_law_is_word f fd) (z_all : mg "all" = none) (z_isinstance : mg "isinstance" = none) (z_str : mg "str" = none) : FnG P w K mg base 1 f fd ["_law_thing"] (spD K 1 f_law_is_word) :=
  fn_okG (k := 0) F sc_law_is_word rfl fun cdv A outer s H E hr => (pdb_one (pds_ret (pd_and (pd_isi (T := "str") (by simp [okT]) (po_slot (pv 0)) (by rfl) z_isinstance PyProof.Rows.boot_isinstance (by rfl) z_str PyProof.Rows.boot_str (by decide) (by decide)) (pd_one (pd_callB (cr_all rfl) ok_all (by rfl) z_all PyProof.Rows.boot_all (pds_cons (po_val (pd_lc (own := [("_law_sign", 1)]) rfl sc_law_is_word.nd (pi_any (pd_var (pv 0))) (blkOk_by (N := N_law_is_word) (sc := defScope s_law_is_word) (by decide +kernel)) (fun _ _ _ _ _ => (pg_set sc_law_is_word.nd rfl (.inl rfl))) (fun _ _ _ _ _ => pdts_nil) (fun _ _ _ _ _ => (pd_or (pd_chain op_leD op_leD okc_le okc_le (po_val (pd_strS (by rfl))) (po_slot (pv 1)) (po_val (pd_strS (by rfl)))) (pd_one (pd_chain op_leD op_leD okc_le okc_le (po_val (pd_strS (by rfl))) (po_slot (pv 1)) (po_val (pd_strS (by rfl))))))))) pds_nil))))))
theorem ok_law_is_pair {f : Addr} {fd : FuncData} (F : Fun K "_law_is_pair" "_law_is_pair" s_law_is_pair f fd) (z_all : mg "all" = none) (z_len : mg "len" = none) (z_isinstance : mg "isinstance" = none) (z_tuple : mg "tuple" = none) (C_law_round  : CalleeG P w K mg base "_law_round" 1 1 f_law_round) (C_law_is_word  : CalleeG P w K mg base "_law_is_word" 1 1 f_law_is_word) : FnG P w K mg base 2 f fd ["_law_thing"] (spD K 1 f_law_is_pair) :=
  fn_okG (k := 1) F sc_law_is_pair rfl fun cdv A outer s H E hr => (pdb_cons (pds_if (pt_bool (pdw_or (pt_neg (pt_exp (pd_isi (T := "tuple") (by simp [okT]) (po_slot (pv 0)) (by rfl) z_isinstance PyProof.Rows.boot_isinstance (by rfl) z_tuple PyProof.Rows.boot_tuple (by decide) (by decide)))) (pdw_or (pt_cmp1 (op_neD hr.units) ok_ne (po_val (pd_callB call_len ok_len (by rfl) z_len PySem.boot_len (pds_cons (po_slot (pv 0)) pds_nil))) (po_val pd_int) (nomark _)) (pdw_one_or (pt_neg (pt_exp (pd_callB (cr_all rfl) ok_all (by rfl) z_all PyProof.Rows.boot_all (pds_cons (po_val (pd_lc (own := [("_law_part", 1)]) rfl sc_law_is_pair.nd (pi_any (pd_var (pv 0))) (blkOk_by (N := N_law_is_pair) (sc := defScope s_law_is_pair) (by decide +kernel)) (fun _ _ _ _ _ => (pg_set sc_law_is_pair.nd rfl (.inl rfl))) (fun _ _ _ _ _ => pdts_nil) (fun _ _ _ _ _ => (pd_callCG C_law_is_word (hr.mono (by decide)) (by rfl) (pds_cons (po_val (pd_var (pv 1))) pds_nil))))) pds_nil)))))))) (pdb_one (pds_ret pd_bl)) pdb_nil) (pdb_cons (pds_if (pt_cmp1 (op_eqD hr.units) ok_eq (po_val (pd_ix ix_seq ok_ix (po_slot (pv 0)) (po_val pd_int) (fun _ _ => rfl))) (po_val (pd_strS (by rfl))) (nomark _)) (pdb_one (pds_ret (pd_cmp (op_eqD hr.units) ok_eq (po_val (pd_ix ix_seq ok_ix (po_slot (pv 0)) (po_val pd_int) (fun _ _ => rfl))) (po_val (pd_strS (by rfl))) (nomark _)))) pdb_nil) (pdb_one (pds_ret (pd_or (pd_cmp (op_eqD hr.units) ok_eq (po_val (pd_ix ix_seq ok_ix (po_slot (pv 0)) (po_val pd_int) (fun _ _ => rfl))) (po_val (pd_strS (by rfl))) (nomark _)) (pd_one (pd_and (pd_cmp (op_eqD hr.units) ok_eq (po_val (pd_ix ix_seq ok_ix (po_slot (pv 0)) (po_val pd_int) (fun _ _ => rfl))) (po_val (pd_strS (by rfl))) (nomark _)) (pd_and (pd_cmp (op_neD hr.units) ok_ne (po_val (pd_ix ix_seq ok_ix (po_slot (pv 0)) (po_val pd_int) (fun _ _ => rfl))) (po_val (pd_strS (by rfl))) (nomark _)) (pd_one (pd_cmp (op_eqD hr.units) ok_eq (po_val (pd_callCG C_law_round (hr.mono (by decide)) (by rfl) (pds_cons (po_val (pd_ix ix_seq ok_ix (po_slot (pv 0)) (po_val pd_int) (fun _ _ => rfl))) pds_nil))) (po_val (pd_ix ix_seq ok_ix (po_slot (pv 0)) (po_val pd_int) (fun _ _ => rfl))) (nomark _)))))))))))
theorem ok_law_odd {f : Addr} {fd : FuncData} (F : Fun K "_law_odd" "_law_odd" s_law_odd f fd) (z_range : mg "range" = none) (C_law_pick  : CalleeG P w K mg base "_law_pick" 2 2 f_law_pick) (C_law_word  : CalleeG P w K mg base "_law_word" 3 3 f_law_word) : FnG P w K mg base 4 f fd ["_law_hand_here", "_law_signs_here"] (spD K 2 f_law_odd) :=
  fn_okG (k := 3) F sc_law_odd rfl fun cdv A outer s H E hr => (pdb_cons (pds_set (i := 2) (pd_bin op_addD ok_add (po_val (pd_callCG C_law_word (hr.mono (by decide)) (by rfl) (pds_cons (po_slot (pv 0)) (pds_cons (po_val (pd_var (pv 1))) (pds_cons (po_val pd_int) pds_nil))))) (po_val (pd_ix ix_seq ok_ix (po_slot (pv 1)) (po_val pd_int) (fun _ _ => rfl)))) sc_law_odd.nd rfl (.inl rfl)) (pdb_cons (pds_set (i := 3) (pd_lst (pds_cons (po_val pd_non) (pds_cons (po_val pd_bl) (pds_cons (po_val pd_int) (pds_cons (po_val pd_int) (pds_cons (po_val (pd_strS (by rfl))) (pds_cons (po_val (pd_var (pv 2))) (pds_cons (po_val (pd_bin op_mulD ok_mul (po_slot (pv 2)) (po_val pd_int))) (pds_cons (po_val (pd_bin op_addD ok_add (po_slot (pv 2)) (po_val (pd_strS (by rfl))))) (pds_cons (po_val (pd_strS (by rfl))) (pds_cons (po_val (pd_strS (by rfl))) (pds_cons (po_val (pd_strS (by rfl))) (pds_cons (po_val (pd_strS (by rfl))) pds_nil))))))))))))) sc_law_odd.nd rfl (.inl rfl)) (pdb_cons (pds_set (i := 3) (pd_bin op_addD ok_add (po_slot (pv 3)) (po_val (pd_lst (pds_cons (po_val (pd_strS (by rfl))) (pds_cons (po_val (pd_strS (by rfl))) (pds_cons (po_val (pd_strS (by rfl))) (pds_cons (po_val (pd_tup (pds_cons (po_val (pd_strS (by rfl))) pds_nil))) (pds_cons (po_val (pd_lst pds_nil)) (pds_cons (po_val pd_dict0) (pds_cons (po_val (pd_tup pds_nil)) (pds_cons (po_val (pd_tup (pds_cons (po_val (pd_var (pv 2))) pds_nil))) (pds_cons (po_val (pd_lst (pds_cons (po_val (pd_var (pv 2))) pds_nil))) (pds_cons (po_val (pd_disp (fs := [dVal (dVar 2), dVal (dVar 2)]) (pps_cons (po_val (pd_var (pv 2))) (po_val (pd_var (pv 2))) pps_nil) rfl rfl rfl (by simp) (by decide))) pds_nil))))))))))))) sc_law_odd.nd rfl (.inl rfl)) (pdb_cons (pds_set (i := 4) (pd_callCG C_law_pick (hr.mono (by decide)) (by rfl) (pds_cons (po_slot (pv 0)) (pds_cons (po_val (pd_var (pv 3))) pds_nil))) sc_law_odd.nd rfl (.inl rfl)) (pdb_cons (pds_for PassesOwn.never rfl (pi_rg1 (by rfl) z_range (pds_cons (po_val (pd_callCG C_law_pick (hr.mono (by decide)) (by rfl) (pds_cons (po_slot (pv 0)) (pds_cons (po_val (pd_lst (pds_cons (po_val pd_int) (pds_cons (po_val pd_int) (pds_cons (po_val pd_int) (pds_cons (po_val pd_int) (pds_cons (po_val pd_int) pds_nil))))))) pds_nil)))) pds_nil)) (pg_set sc_law_odd.nd rfl (.inl rfl)) (pdb_one (pds_set (i := 4) (pd_callCG C_law_pick (hr.mono (by decide)) (by rfl) (pds_cons (po_slot (pv 0)) (pds_cons (po_val (pd_lst (pds_cons (po_val (pd_tup (pds_cons (po_val (pd_var (pv 4))) pds_nil))) (pds_cons (po_val (pd_lst (pds_cons (po_val (pd_var (pv 4))) pds_nil))) (pds_cons (po_val (pd_tup (pds_cons (po_val (pd_var (pv 4))) (pds_cons (po_val (pd_strS (by rfl))) (pds_cons (po_val (pd_strS (by rfl))) pds_nil))))) pds_nil))))) pds_nil))) sc_law_odd.nd rfl (.inl rfl)))) (pdb_one (pds_retV (pv 4))))))))
theorem ok_law_bent {f : Addr} {fd : FuncData} (F : Fun K "_law_bent" "_law_bent" s_law_bent f fd) (z_list : mg "list" = none) (C_law_word  : CalleeG P w K mg base "_law_word" 3 3 f_law_word) (C_law_take  : CalleeG P w K mg base "_law_take" 1 2 f_law_take) (C_law_pick  : CalleeG P w K mg base "_law_pick" 2 2 f_law_pick) (C_law_odd  : CalleeG P w K mg base "_law_odd" 4 2 f_law_odd) : FnG P w K mg base 5 f fd ["_law_hand_here", "_law_signs_here", "_law_pair"] (spD K 3 f_law_bent) :=
  fn_okG (k := 4) F sc_law_bent rfl fun cdv A outer s H E hr => (pdb_cons (pds_par3 (i := 3) (j := 4) (l := 5) rfl sc_law_bent.nd rfl rfl rfl (by decide) (by decide) (by decide) rfl rfl rfl (pds_cons (po_val (pd_callCG C_law_take (hr.mono (by decide)) (by rfl) (pds_cons (po_slot (pv 0)) (pds_cons (po_val pd_int) pds_nil)))) (pds_cons (po_val (pd_callCG C_law_take (hr.mono (by decide)) (by rfl) (pds_cons (po_slot (pv 0)) (pds_cons (po_val pd_int) pds_nil)))) (pds_cons (po_val (pd_callCG C_law_odd (hr.mono (by decide)) (by rfl) (pds_cons (po_slot (pv 0)) (pds_cons (po_val (pd_var (pv 1))) pds_nil)))) pds_nil))) (by rfl)) (pdb_cons (pds_if (pt_cmp1 op_ltD ok_lt (po_slot (pv 3)) (po_val pd_int) (nomark _)) (pdb_one (pds_ret (pd_bin op_addD ok_add (po_val (pd_bin op_addD ok_add (po_val (pd_sl01 (po_slot (pv 2)) (po_slot (pv 4)))) (po_val (pd_tup (pds_cons (po_val (pd_var (pv 5))) pds_nil))))) (po_val (pd_sl10 (po_slot (pv 2)) (po_val (pd_bin op_addD ok_add (po_slot (pv 4)) (po_val pd_int)))))))) pdb_nil) (pdb_cons (pds_if (pt_cmp1 (op_eqD hr.units) ok_eq (po_slot (pv 3)) (po_val pd_int) (nomark _)) (pdb_one (pds_ret (pd_bin op_addD ok_add (po_val (pd_bin op_addD ok_add (po_val (pd_sl01 (po_slot (pv 2)) (po_val pd_int))) (po_val (pd_tup (pds_cons (po_val (pd_callCG C_law_pick (hr.mono (by decide)) (by rfl) (pds_cons (po_slot (pv 0)) (pds_cons (po_val (pd_lst (pds_cons (po_val (pd_strS (by rfl))) (pds_cons (po_val (pd_strS (by rfl))) (pds_cons (po_val (pd_strS (by rfl))) pds_nil))))) pds_nil)))) pds_nil))))) (po_val (pd_sl10 (po_slot (pv 2)) (po_val pd_int)))))) pdb_nil) (pdb_cons (pds_if (pt_cmp1 (op_eqD hr.units) ok_eq (po_slot (pv 3)) (po_val pd_int) (nomark _)) (pdb_one (pds_ret (pd_bin op_addD ok_add (po_val (pd_sl01 (po_slot (pv 2)) (po_val pd_int))) (po_val (pd_tup (pds_cons (po_val (pd_bin op_mulD ok_mul (po_val (pd_callCG C_law_word (hr.mono (by decide)) (by rfl) (pds_cons (po_slot (pv 0)) (pds_cons (po_val (pd_var (pv 1))) (pds_cons (po_val pd_int) pds_nil))))) (po_val (pd_bin op_addD ok_add (po_val pd_int) (po_val (pd_callCG C_law_take (hr.mono (by decide)) (by rfl) (pds_cons (po_slot (pv 0)) (pds_cons (po_val pd_int) pds_nil)))))))) pds_nil)))))) pdb_nil) (pdb_cons (pds_if (pt_cmp1 (op_eqD hr.units) ok_eq (po_slot (pv 3)) (po_val pd_int) (nomark _)) (pdb_one (pds_ret (pd_ix ix_seq ok_ix (po_val (pd_lst (pds_cons (po_val (pd_callTy call_list_of ok_listOf (by rfl) z_list PyProof.Rows.boot_list (pds_cons (po_slot (pv 2)) pds_nil))) (pds_cons (po_val (pd_bin op_addD ok_add (po_slot (pv 2)) (po_val (pd_tup (pds_cons (po_val (pd_var (pv 5))) pds_nil))))) (pds_cons (po_val (pd_sl01 (po_slot (pv 2)) (po_val pd_int))) pds_nil))))) (po_slot (pv 4)) (fun _ _ => rfl)))) pdb_nil) (pdb_one (pds_ret (pd_if (pt_cmp1 (op_eqD hr.units) ok_eq (po_slot (pv 3)) (po_val pd_int) (nomark _)) (pd_rev (po_slot (pv 2))) (pd_var (pv 5))))))))))
theorem ok_law_some_words {f : Addr} {fd : FuncData} (F : Fun K "_law_some_words" "_law_some_words" s_law_some_words f fd) : FnG P w K mg base 1 f fd ["_law_pair", "_law_signs_here"] (spD K 2 f_law_some_words) :=
  fn_okG (k := 0) F sc_law_some_words rfl fun cdv A outer s H E hr => (pdb_cons (pds_asg (pd_var (pv 0)) (pg_tuple rfl (pdgs_cons (pg_set sc_law_some_words.nd rfl (.inl rfl)) (pdgs_cons (pg_set sc_law_some_words.nd rfl (.inl rfl)) (pdgs_cons (pg_set sc_law_some_words.nd rfl (.inl rfl)) pdgs_nil))))) (pdb_cons (pds_if (pt_cmp1 (op_eqD hr.units) ok_eq (po_slot (pv 3)) (po_val (pd_strS (by rfl))) (nomark _)) (pdb_one (pds_ret (pd_tup (pds_cons (po_val (pd_var (pv 2))) pds_nil)))) pdb_nil) (pdb_cons (pds_if (pt_cmp1 (op_eqD hr.units) ok_eq (po_slot (pv 3)) (po_val (pd_strS (by rfl))) (nomark _)) (pdb_one (pds_ret (pd_tup (pds_cons (po_val (pd_bin op_addD ok_add (po_slot (pv 2)) (po_slot (pv 4)))) (pds_cons (po_val (pd_var (pv 2))) pds_nil))))) pdb_nil) (pdb_one (pds_ret (pd_tup (pds_cons (po_val (pd_bin op_addD ok_add (po_val (pd_bin op_addD ok_add (po_val (pd_bin op_addD ok_add (po_slot (pv 2)) (po_slot (pv 4)))) (po_val (pd_strS (by rfl))))) (po_val (pd_ix ix_seq ok_ix (po_slot (pv 1)) (po_val pd_int) (fun _ _ => rfl))))) (pds_cons (po_val (pd_var (pv 2))) (pds_cons (po_val (pd_bin op_addD ok_add (po_val (pd_bin op_addD ok_add (po_slot (pv 2)) (po_slot (pv 4)))) (po_val (pd_strS (by rfl))))) pds_nil)))))))))
theorem ok_law {f : Addr} {fd : FuncData} (F : Fun K "law" "law" s_law f fd) (z_range : mg "range" = none) (z_max : mg "max" = none) (z_min : mg "min" = none) (z_len : mg "len" = none) (z_repr : mg "repr" = none) (z_list : mg "list" = none) (C_pair_of  : CalleeG P w K mg base "pair_of" 6 1 f_pair_of) (C_law_some_words  : CalleeG P w K mg base "_law_some_words" 1 2 f_law_some_words) (C_is_pair  : CalleeG P w K mg base "is_pair" 3 1 f_is_pair) (C_law_is_pair  : CalleeG P w K mg base "_law_is_pair" 2 1 f_law_is_pair) (C_law_odd  : CalleeG P w K mg base "_law_odd" 4 2 f_law_odd) (C_law_bent  : CalleeG P w K mg base "_law_bent" 5 3 f_law_bent) (C_law_due  : CalleeG P w K mg base "_law_due" 2 1 f_law_due) (C_law_words  : CalleeG P w K mg base "_law_words" 4 2 f_law_words) (C_law_signs  : CalleeG P w K mg base "_law_signs" 3 1 f_law_signs) (C_law_hand  : CalleeG P w K mg base "_law_hand" 1 2 f_law_hand) : FnG P w K mg base 7 f fd ["_law_script"] (spD K 1 f_law) :=
  fn_okG (k := 6) F sc_law rfl fun cdv A outer s H E hr => (pdb_cons (pds_for PassesOwn.never rfl (pi_rg1 (by rfl) z_range (pds_cons (po_val (pd_callB (call_max2 rfl) ok_max2 (by rfl) z_max PyProof.Rows.boot_max (pds_cons (po_val pd_int) (pds_cons (po_val (pd_callB (call_min2 rfl) ok_min2 (by rfl) z_min PyProof.Rows.boot_min (pds_cons (po_val pd_int) (pds_cons (po_val (pd_callB call_len ok_len (by rfl) z_len PySem.boot_len (pds_cons (po_slot (pv 0)) pds_nil))) pds_nil)))) pds_nil)))) pds_nil)) (pg_set sc_law.nd rfl (.inl rfl)) (pdb_cons (pds_set (i := 2) (pd_callCG C_law_hand (hr.mono (by decide)) (by rfl) (pds_cons (po_slot (pv 0)) (pds_cons (po_val (pd_var (pv 1))) pds_nil))) sc_law.nd rfl (.inr rfl)) (pdb_cons (pds_set (i := 3) (pd_callCG C_law_signs (hr.mono (by decide)) (by rfl) (pds_cons (po_slot (pv 2)) pds_nil)) sc_law.nd rfl (.inr rfl)) (pdb_cons (pds_setLc (i := 4) (own := [("_law_turn", 9)]) rfl sc_law.nd rfl rfl (sw_true rfl rfl rfl (by decide +kernel)) (pi_rg1 (by rfl) z_range (pds_cons (po_val pd_int) pds_nil)) (blkOk_by (N := N_law) (sc := defScope s_law) (by decide +kernel)) (fun _ _ _ _ _ => (pg_set sc_law.nd rfl (.inl rfl))) (fun _ _ _ _ _ => pdts_nil) (fun _ _ _ _ _ => (pd_callCG C_law_due (hr.mono (by decide)) (by rfl) (pds_cons (po_val (pd_callCG C_law_words (hr.mono (by decide)) (by rfl) (pds_cons (po_slot (pv 2)) (pds_cons (po_val (pd_var (pv 3))) pds_nil)))) pds_nil)))) (pdb_cons (pds_for PassesOwn.never rfl (pi_any (pd_callTy call_list_of ok_listOf (by rfl) z_list PyProof.Rows.boot_list (pds_cons (po_slot (pv 4)) pds_nil))) (pg_set sc_law.nd rfl (.inl rfl)) (pdb_cons (pds_exp (pd_mut PySem.F.plainAttrs_list PySem.F.slot_list_append PySem.F.type_list_append mt_append ok_append (pv 4) (pds_cons (po_val (pd_callCG C_law_bent (hr.mono (by decide)) (by rfl) (pds_cons (po_slot (pv 2)) (pds_cons (po_val (pd_var (pv 3))) (pds_cons (po_val (pd_var (pv 5))) pds_nil))))) pds_nil))) (pdb_cons (pds_exp (pd_mut PySem.F.plainAttrs_list PySem.F.slot_list_append PySem.F.type_list_append mt_append ok_append (pv 4) (pds_cons (po_val (pd_callCG C_law_bent (hr.mono (by decide)) (by rfl) (pds_cons (po_slot (pv 2)) (pds_cons (po_val (pd_var (pv 3))) (pds_cons (po_val (pd_var (pv 5))) pds_nil))))) pds_nil))) (pdb_one (pds_exp (pd_mut PySem.F.plainAttrs_list PySem.F.slot_list_append PySem.F.type_list_append mt_append ok_append (pv 4) (pds_cons (po_val (pd_callCG C_law_odd (hr.mono (by decide)) (by rfl) (pds_cons (po_slot (pv 2)) (pds_cons (po_val (pd_var (pv 3))) pds_nil)))) pds_nil))))))) (pdb_one (pds_for PassesOwn.never rfl (pi_any (pd_bin op_addD ok_add (po_slot (pv 4)) (po_val (pd_lst (pds_cons (po_val (pd_tup (pds_cons (po_val (pd_strS (by rfl))) (pds_cons (po_val (pd_strS (by rfl))) (pds_cons (po_val (pd_strS (by rfl))) pds_nil))))) (pds_cons (po_val (pd_tup (pds_cons (po_val (pd_strS (by rfl))) (pds_cons (po_val (pd_strS (by rfl))) (pds_cons (po_val (pd_strS (by rfl))) pds_nil))))) (pds_cons (po_val (pd_tup (pds_cons (po_val (pd_strS (by rfl))) (pds_cons (po_val (pd_strS (by rfl))) (pds_cons (po_val (pd_strS (by rfl))) pds_nil))))) pds_nil))))))) (pg_set sc_law.nd rfl (.inl rfl)) (pdb_cons (pds_par (i := 7) (j := 8) rfl sc_law.nd rfl rfl (by decide) rfl rfl (pds_cons (po_val (pd_callB (call_reprO hr.more hr.gd) ok_reprO (by rfl) z_repr PyProof.Rows.boot_repr (pds_cons (po_slot (pv 6)) pds_nil))) (pds_cons (po_val (pd_callCG C_law_is_pair (hr.mono (by decide)) (by rfl) (pds_cons (po_val (pd_var (pv 6))) pds_nil))) pds_nil)) (by rfl)) (pdb_cons (pds_if (pt_bool (pdw_or (pt_cmp1 (op_neD hr.units) ok_ne (po_val (pd_callB (call_reprO hr.more hr.gd) ok_reprO (by rfl) z_repr PyProof.Rows.boot_repr (pds_cons (po_val (pd_callCG C_is_pair (hr.mono (by decide)) (by rfl) (pds_cons (po_val (pd_var (pv 6))) pds_nil))) pds_nil))) (po_val (pd_callB (call_reprO hr.more hr.gd) ok_reprO (by rfl) z_repr PyProof.Rows.boot_repr (pds_cons (po_slot (pv 8)) pds_nil))) (nomark _)) (pdw_one_or (pt_cmp1 (op_neD hr.units) ok_ne (po_val (pd_callB (call_reprO hr.more hr.gd) ok_reprO (by rfl) z_repr PyProof.Rows.boot_repr (pds_cons (po_slot (pv 6)) pds_nil))) (po_slot (pv 7)) (nomark _))))) (pdb_one (pds_ret pd_bl)) pdb_nil) (pdb_one (pds_if (pt_bool (pdw_and (pt_exp (pd_var (pv 8))) (pdw_one_and (pt_cmp1 (op_neD hr.units) ok_ne (po_val (pd_callCG C_pair_of (hr.mono (by decide)) (by rfl) (pds_cons (po_val (pd_callCG C_law_some_words (hr.mono (by decide)) (by rfl) (pds_cons (po_val (pd_var (pv 6))) (pds_cons (po_val (pd_var (pv 3))) pds_nil)))) pds_nil))) (po_slot (pv 6)) (nomark _))))) (pdb_one (pds_ret pd_bl)) pdb_nil))))))))))) (pdb_one (pds_ret pd_bl)))
end
theorem all_mk {l : PySem.W.OpenLaw} {w : World} {K : PySem.W.Frag} {h : Heap} {mg : Str → Option Value} {fa : Addr} (X : K.In h) (G : h.Ns mainGlobals mg) (hfa : mg "law" = some (.ref fa))
    {g0 : Addr} {od0 an0 : Option Addr} {sl0 : Array (Option Value)} {oc0 kV0 dc0 pm0 cd0 ct0 : Value}
    {g1 : Addr} {od1 an1 : Option Addr} {sl1 : Array (Option Value)} {oc1 kV1 dc1 pm1 cd1 ct1 : Value}
    {g2 : Addr} {od2 an2 : Option Addr} {sl2 : Array (Option Value)} {oc2 kV2 dc2 pm2 cd2 ct2 : Value}
    {g3 : Addr} {od3 an3 : Option Addr} {sl3 : Array (Option Value)} {oc3 kV3 dc3 pm3 cd3 ct3 : Value}
    {g4 : Addr} {od4 an4 : Option Addr} {sl4 : Array (Option Value)} {oc4 kV4 dc4 pm4 cd4 ct4 : Value}
    {g5 : Addr} {od5 an5 : Option Addr} {sl5 : Array (Option Value)} {oc5 kV5 dc5 pm5 cd5 ct5 : Value}
    {g6 : Addr} {od6 an6 : Option Addr} {sl6 : Array (Option Value)} {oc6 kV6 dc6 pm6 cd6 ct6 : Value}
    {g7 : Addr} {od7 an7 : Option Addr} {sl7 : Array (Option Value)} {oc7 kV7 dc7 pm7 cd7 ct7 : Value}
    {g8 : Addr} {od8 an8 : Option Addr} {sl8 : Array (Option Value)} {oc8 kV8 dc8 pm8 cd8 ct8 : Value}
    {g9 : Addr} {od9 an9 : Option Addr} {sl9 : Array (Option Value)} {oc9 kV9 dc9 pm9 cd9 ct9 : Value}
    {g10 : Addr} {od10 an10 : Option Addr} {sl10 : Array (Option Value)} {oc10 kV10 dc10 pm10 cd10 ct10 : Value}
    {g11 : Addr} {od11 an11 : Option Addr} {sl11 : Array (Option Value)} {oc11 kV11 dc11 pm11 cd11 ct11 : Value}
    {g12 : Addr} {od12 an12 : Option Addr} {sl12 : Array (Option Value)} {oc12 kV12 dc12 pm12 cd12 ct12 : Value}
    {g13 : Addr} {od13 an13 : Option Addr} {sl13 : Array (Option Value)} {oc13 kV13 dc13 pm13 cd13 ct13 : Value}
    {g14 : Addr} {od14 an14 : Option Addr} {sl14 : Array (Option Value)} {oc14 kV14 dc14 pm14 cd14 ct14 : Value}
    {g15 : Addr} {od15 an15 : Option Addr} {sl15 : Array (Option Value)} {oc15 kV15 dc15 pm15 cd15 ct15 : Value}
    {g16 : Addr} {od16 an16 : Option Addr} {sl16 : Array (Option Value)} {oc16 kV16 dc16 pm16 cd16 ct16 : Value}
    {g17 : Addr} {od17 an17 : Option Addr} {sl17 : Array (Option Value)} {oc17 kV17 dc17 pm17 cd17 ct17 : Value}
    {g18 : Addr} {od18 an18 : Option Addr} {sl18 : Array (Option Value)} {oc18 kV18 dc18 pm18 cd18 ct18 : Value}
    {g19 : Addr} {od19 an19 : Option Addr} {sl19 : Array (Option Value)} {oc19 kV19 dc19 pm19 cd19 ct19 : Value}
    {g20 : Addr} {od20 an20 : Option Addr} {sl20 : Array (Option Value)} {oc20 kV20 dc20 pm20 cd20 ct20 : Value}
    {g21 : Addr} {od21 an21 : Option Addr} {sl21 : Array (Option Value)} {oc21 kV21 dc21 pm21 cd21 ct21 : Value}
    {g22 : Addr} {od22 an22 : Option Addr} {sl22 : Array (Option Value)} {oc22 kV22 dc22 pm22 cd22 ct22 : Value}
    {g23 : Addr} {od23 an23 : Option Addr} {sl23 : Array (Option Value)} {oc23 kV23 dc23 pm23 cd23 ct23 : Value}
    {g24 : Addr} {od24 an24 : Option Addr} {sl24 : Array (Option Value)} {oc24 kV24 dc24 pm24 cd24 ct24 : Value}
    {g25 : Addr} {od25 an25 : Option Addr} {sl25 : Array (Option Value)} {oc25 kV25 dc25 pm25 cd25 ct25 : Value}
    {g26 : Addr} {od26 an26 : Option Addr} {sl26 : Array (Option Value)} {oc26 kV26 dc26 pm26 cd26 ct26 : Value}
    {g27 : Addr} {od27 an27 : Option Addr} {sl27 : Array (Option Value)} {oc27 kV27 dc27 pm27 cd27 ct27 : Value}
    {g28 : Addr} {od28 an28 : Option Addr} {sl28 : Array (Option Value)} {oc28 kV28 dc28 pm28 cd28 ct28 : Value}
    (a0 : PySem.W.nsIn K mainGlobals "is_word" = some (some (.ref g0))) (l0 : K.lookup g0 = some ⟨oc0, od0, .func (PySem.W.fnOf "is_word" "is_word" (defArgs s_is_word) (defBody s_is_word) (defScope s_is_word) .none kV0 dc0 pm0 an0 cd0 ct0), sl0⟩) (c0 : PySem.W.codeIn K cd0 "is_word" = true) (k0 : PySem.W.keepIn K (.ref g0) = true)
    (a1 : PySem.W.nsIn K mainGlobals "common" = some (some (.ref g1))) (l1 : K.lookup g1 = some ⟨oc1, od1, .func (PySem.W.fnOf "common" "common" (defArgs s_common) (defBody s_common) (defScope s_common) .none kV1 dc1 pm1 an1 cd1 ct1), sl1⟩) (c1 : PySem.W.codeIn K cd1 "common" = true) (k1 : PySem.W.keepIn K (.ref g1) = true)
    (a2 : PySem.W.nsIn K mainGlobals "borders" = some (some (.ref g2))) (l2 : K.lookup g2 = some ⟨oc2, od2, .func (PySem.W.fnOf "borders" "borders" (defArgs s_borders) (defBody s_borders) (defScope s_borders) .none kV2 dc2 pm2 an2 cd2 ct2), sl2⟩) (c2 : PySem.W.codeIn K cd2 "borders" = true) (k2 : PySem.W.keepIn K (.ref g2) = true)
    (a3 : PySem.W.nsIn K mainGlobals "least_round" = some (some (.ref g3))) (l3 : K.lookup g3 = some ⟨oc3, od3, .func (PySem.W.fnOf "least_round" "least_round" (defArgs s_least_round) (defBody s_least_round) (defScope s_least_round) .none kV3 dc3 pm3 an3 cd3 ct3), sl3⟩) (c3 : PySem.W.codeIn K cd3 "least_round" = true) (k3 : PySem.W.keepIn K (.ref g3) = true)
    (a4 : PySem.W.nsIn K mainGlobals "of_endless" = some (some (.ref g4))) (l4 : K.lookup g4 = some ⟨oc4, od4, .func (PySem.W.fnOf "of_endless" "of_endless" (defArgs s_of_endless) (defBody s_of_endless) (defScope s_of_endless) .none kV4 dc4 pm4 an4 cd4 ct4), sl4⟩) (c4 : PySem.W.codeIn K cd4 "of_endless" = true) (k4 : PySem.W.keepIn K (.ref g4) = true)
    (a5 : PySem.W.nsIn K mainGlobals "rounds_meet" = some (some (.ref g5))) (l5 : K.lookup g5 = some ⟨oc5, od5, .func (PySem.W.fnOf "rounds_meet" "rounds_meet" (defArgs s_rounds_meet) (defBody s_rounds_meet) (defScope s_rounds_meet) .none kV5 dc5 pm5 an5 cd5 ct5), sl5⟩) (c5 : PySem.W.codeIn K cd5 "rounds_meet" = true) (k5 : PySem.W.keepIn K (.ref g5) = true)
    (a6 : PySem.W.nsIn K mainGlobals "along" = some (some (.ref g6))) (l6 : K.lookup g6 = some ⟨oc6, od6, .func (PySem.W.fnOf "along" "along" (defArgs s_along) (defBody s_along) (defScope s_along) .none kV6 dc6 pm6 an6 cd6 ct6), sl6⟩) (c6 : PySem.W.codeIn K cd6 "along" = true) (k6 : PySem.W.keepIn K (.ref g6) = true)
    (a7 : PySem.W.nsIn K mainGlobals "is_pair" = some (some (.ref g7))) (l7 : K.lookup g7 = some ⟨oc7, od7, .func (PySem.W.fnOf "is_pair" "is_pair" (defArgs s_is_pair) (defBody s_is_pair) (defScope s_is_pair) .none kV7 dc7 pm7 an7 cd7 ct7), sl7⟩) (c7 : PySem.W.codeIn K cd7 "is_pair" = true) (k7 : PySem.W.keepIn K (.ref g7) = true)
    (a8 : PySem.W.nsIn K mainGlobals "heard" = some (some (.ref g8))) (l8 : K.lookup g8 = some ⟨oc8, od8, .func (PySem.W.fnOf "heard" "heard" (defArgs s_heard) (defBody s_heard) (defScope s_heard) .none kV8 dc8 pm8 an8 cd8 ct8), sl8⟩) (c8 : PySem.W.codeIn K cd8 "heard" = true) (k8 : PySem.W.keepIn K (.ref g8) = true)
    (a9 : PySem.W.nsIn K mainGlobals "met" = some (some (.ref g9))) (l9 : K.lookup g9 = some ⟨oc9, od9, .func (PySem.W.fnOf "met" "met" (defArgs s_met) (defBody s_met) (defScope s_met) .none kV9 dc9 pm9 an9 cd9 ct9), sl9⟩) (c9 : PySem.W.codeIn K cd9 "met" = true) (k9 : PySem.W.keepIn K (.ref g9) = true)
    (a10 : PySem.W.nsIn K mainGlobals "round_of" = some (some (.ref g10))) (l10 : K.lookup g10 = some ⟨oc10, od10, .func (PySem.W.fnOf "round_of" "round_of" (defArgs s_round_of) (defBody s_round_of) (defScope s_round_of) .none kV10 dc10 pm10 an10 cd10 ct10), sl10⟩) (c10 : PySem.W.codeIn K cd10 "round_of" = true) (k10 : PySem.W.keepIn K (.ref g10) = true)
    (a11 : PySem.W.nsIn K mainGlobals "led_by" = some (some (.ref g11))) (l11 : K.lookup g11 = some ⟨oc11, od11, .func (PySem.W.fnOf "led_by" "led_by" (defArgs s_led_by) (defBody s_led_by) (defScope s_led_by) .none kV11 dc11 pm11 an11 cd11 ct11), sl11⟩) (c11 : PySem.W.codeIn K cd11 "led_by" = true) (k11 : PySem.W.keepIn K (.ref g11) = true)
    (a12 : PySem.W.nsIn K mainGlobals "both" = some (some (.ref g12))) (l12 : K.lookup g12 = some ⟨oc12, od12, .func (PySem.W.fnOf "both" "both" (defArgs s_both) (defBody s_both) (defScope s_both) .none kV12 dc12 pm12 an12 cd12 ct12), sl12⟩) (c12 : PySem.W.codeIn K cd12 "both" = true) (k12 : PySem.W.keepIn K (.ref g12) = true)
    (a13 : PySem.W.nsIn K mainGlobals "pair_of" = some (some (.ref g13))) (l13 : K.lookup g13 = some ⟨oc13, od13, .func (PySem.W.fnOf "pair_of" "pair_of" (defArgs s_pair_of) (defBody s_pair_of) (defScope s_pair_of) .none kV13 dc13 pm13 an13 cd13 ct13), sl13⟩) (c13 : PySem.W.codeIn K cd13 "pair_of" = true) (k13 : PySem.W.keepIn K (.ref g13) = true)
    (a14 : PySem.W.nsIn K mainGlobals "_law_hand" = some (some (.ref g14))) (l14 : K.lookup g14 = some ⟨oc14, od14, .func (PySem.W.fnOf "_law_hand" "_law_hand" (defArgs s_law_hand) (defBody s_law_hand) (defScope s_law_hand) .none kV14 dc14 pm14 an14 cd14 ct14), sl14⟩) (c14 : PySem.W.codeIn K cd14 "_law_hand" = true) (k14 : PySem.W.keepIn K (.ref g14) = true)
    (a15 : PySem.W.nsIn K mainGlobals "_law_take" = some (some (.ref g15))) (l15 : K.lookup g15 = some ⟨oc15, od15, .func (PySem.W.fnOf "_law_take" "_law_take" (defArgs s_law_take) (defBody s_law_take) (defScope s_law_take) .none kV15 dc15 pm15 an15 cd15 ct15), sl15⟩) (c15 : PySem.W.codeIn K cd15 "_law_take" = true) (k15 : PySem.W.keepIn K (.ref g15) = true)
    (a16 : PySem.W.nsIn K mainGlobals "_law_pick" = some (some (.ref g16))) (l16 : K.lookup g16 = some ⟨oc16, od16, .func (PySem.W.fnOf "_law_pick" "_law_pick" (defArgs s_law_pick) (defBody s_law_pick) (defScope s_law_pick) .none kV16 dc16 pm16 an16 cd16 ct16), sl16⟩) (c16 : PySem.W.codeIn K cd16 "_law_pick" = true) (k16 : PySem.W.keepIn K (.ref g16) = true)
    (a17 : PySem.W.nsIn K mainGlobals "_law_signs" = some (some (.ref g17))) (l17 : K.lookup g17 = some ⟨oc17, od17, .func (PySem.W.fnOf "_law_signs" "_law_signs" (defArgs s_law_signs) (defBody s_law_signs) (defScope s_law_signs) .none kV17 dc17 pm17 an17 cd17 ct17), sl17⟩) (c17 : PySem.W.codeIn K cd17 "_law_signs" = true) (k17 : PySem.W.keepIn K (.ref g17) = true)
    (a18 : PySem.W.nsIn K mainGlobals "_law_word" = some (some (.ref g18))) (l18 : K.lookup g18 = some ⟨oc18, od18, .func (PySem.W.fnOf "_law_word" "_law_word" (defArgs s_law_word) (defBody s_law_word) (defScope s_law_word) .none kV18 dc18 pm18 an18 cd18 ct18), sl18⟩) (c18 : PySem.W.codeIn K cd18 "_law_word" = true) (k18 : PySem.W.keepIn K (.ref g18) = true)
    (a19 : PySem.W.nsIn K mainGlobals "_law_words" = some (some (.ref g19))) (l19 : K.lookup g19 = some ⟨oc19, od19, .func (PySem.W.fnOf "_law_words" "_law_words" (defArgs s_law_words) (defBody s_law_words) (defScope s_law_words) .none kV19 dc19 pm19 an19 cd19 ct19), sl19⟩) (c19 : PySem.W.codeIn K cd19 "_law_words" = true) (k19 : PySem.W.keepIn K (.ref g19) = true)
    (a20 : PySem.W.nsIn K mainGlobals "_law_begin" = some (some (.ref g20))) (l20 : K.lookup g20 = some ⟨oc20, od20, .func (PySem.W.fnOf "_law_begin" "_law_begin" (defArgs s_law_begin) (defBody s_law_begin) (defScope s_law_begin) .none kV20 dc20 pm20 an20 cd20 ct20), sl20⟩) (c20 : PySem.W.codeIn K cd20 "_law_begin" = true) (k20 : PySem.W.keepIn K (.ref g20) = true)
    (a21 : PySem.W.nsIn K mainGlobals "_law_round" = some (some (.ref g21))) (l21 : K.lookup g21 = some ⟨oc21, od21, .func (PySem.W.fnOf "_law_round" "_law_round" (defArgs s_law_round) (defBody s_law_round) (defScope s_law_round) .none kV21 dc21 pm21 an21 cd21 ct21), sl21⟩) (c21 : PySem.W.codeIn K cd21 "_law_round" = true) (k21 : PySem.W.keepIn K (.ref g21) = true)
    (a22 : PySem.W.nsIn K mainGlobals "_law_due" = some (some (.ref g22))) (l22 : K.lookup g22 = some ⟨oc22, od22, .func (PySem.W.fnOf "_law_due" "_law_due" (defArgs s_law_due) (defBody s_law_due) (defScope s_law_due) .none kV22 dc22 pm22 an22 cd22 ct22), sl22⟩) (c22 : PySem.W.codeIn K cd22 "_law_due" = true) (k22 : PySem.W.keepIn K (.ref g22) = true)
    (a23 : PySem.W.nsIn K mainGlobals "_law_is_word" = some (some (.ref g23))) (l23 : K.lookup g23 = some ⟨oc23, od23, .func (PySem.W.fnOf "_law_is_word" "_law_is_word" (defArgs s_law_is_word) (defBody s_law_is_word) (defScope s_law_is_word) .none kV23 dc23 pm23 an23 cd23 ct23), sl23⟩) (c23 : PySem.W.codeIn K cd23 "_law_is_word" = true) (k23 : PySem.W.keepIn K (.ref g23) = true)
    (a24 : PySem.W.nsIn K mainGlobals "_law_is_pair" = some (some (.ref g24))) (l24 : K.lookup g24 = some ⟨oc24, od24, .func (PySem.W.fnOf "_law_is_pair" "_law_is_pair" (defArgs s_law_is_pair) (defBody s_law_is_pair) (defScope s_law_is_pair) .none kV24 dc24 pm24 an24 cd24 ct24), sl24⟩) (c24 : PySem.W.codeIn K cd24 "_law_is_pair" = true) (k24 : PySem.W.keepIn K (.ref g24) = true)
    (a25 : PySem.W.nsIn K mainGlobals "_law_odd" = some (some (.ref g25))) (l25 : K.lookup g25 = some ⟨oc25, od25, .func (PySem.W.fnOf "_law_odd" "_law_odd" (defArgs s_law_odd) (defBody s_law_odd) (defScope s_law_odd) .none kV25 dc25 pm25 an25 cd25 ct25), sl25⟩) (c25 : PySem.W.codeIn K cd25 "_law_odd" = true) (k25 : PySem.W.keepIn K (.ref g25) = true)
    (a26 : PySem.W.nsIn K mainGlobals "_law_bent" = some (some (.ref g26))) (l26 : K.lookup g26 = some ⟨oc26, od26, .func (PySem.W.fnOf "_law_bent" "_law_bent" (defArgs s_law_bent) (defBody s_law_bent) (defScope s_law_bent) .none kV26 dc26 pm26 an26 cd26 ct26), sl26⟩) (c26 : PySem.W.codeIn K cd26 "_law_bent" = true) (k26 : PySem.W.keepIn K (.ref g26) = true)
    (a27 : PySem.W.nsIn K mainGlobals "_law_some_words" = some (some (.ref g27))) (l27 : K.lookup g27 = some ⟨oc27, od27, .func (PySem.W.fnOf "_law_some_words" "_law_some_words" (defArgs s_law_some_words) (defBody s_law_some_words) (defScope s_law_some_words) .none kV27 dc27 pm27 an27 cd27 ct27), sl27⟩) (c27 : PySem.W.codeIn K cd27 "_law_some_words" = true) (k27 : PySem.W.keepIn K (.ref g27) = true)
    (a28 : PySem.W.nsIn K mainGlobals "law" = some (some (.ref g28))) (l28 : K.lookup g28 = some ⟨oc28, od28, .func (PySem.W.fnOf "law" "law" (defArgs s_law) (defBody s_law) (defScope s_law) .none kV28 dc28 pm28 an28 cd28 ct28), sl28⟩) (c28 : PySem.W.codeIn K cd28 "law" = true) (k28 : PySem.W.keepIn K (.ref g28) = true)
    {t_WORD : Tok} (c_WORD : PySem.W.nsIn K mainGlobals "WORD" = some (some (.str (⟨⟨[119, 111, 114, 100]⟩⟩ : Str) t_WORD)))
    {t_ROUND : Tok} (c_ROUND : PySem.W.nsIn K mainGlobals "ROUND" = some (some (.str (⟨⟨[114, 111, 117, 110, 100]⟩⟩ : Str) t_ROUND)))
    {t_ALL : Tok} (c_ALL : PySem.W.nsIn K mainGlobals "ALL" = some (some (.str (⟨⟨[97, 108, 108]⟩⟩ : Str) t_ALL)))
    {t_MANY_PARTS : Tok} (c_MANY_PARTS : PySem.W.nsIn K mainGlobals "MANY_PARTS" = some (some (.int 3 t_MANY_PARTS)))
    {a_PARTED : Addr} {dd_PARTED : Option Addr} {n_PARTED : Nat} {sl_PARTED : Array (Option Value)} {t_PARTED0 : Tok} {t_PARTED1 : Tok} (c_PARTED : PySem.W.nsIn K mainGlobals "PARTED" = some (some (.ref a_PARTED))) (d_PARTED : K.lookup a_PARTED = some ⟨.type "tuple", dd_PARTED, .seq #[(.str (⟨⟨[119, 111, 114, 100]⟩⟩ : Str) t_PARTED0), (.str (⟨⟨[]⟩⟩ : Str) t_PARTED1)] n_PARTED, sl_PARTED⟩)
    (y_all : PySem.W.nsIn K mainGlobals "all" = some none) (y_isinstance : PySem.W.nsIn K mainGlobals "isinstance" = some none) (y_str : PySem.W.nsIn K mainGlobals "str" = some none) (y_len : PySem.W.nsIn K mainGlobals "len" = some none) (y_range : PySem.W.nsIn K mainGlobals "range" = some none) (y_int : PySem.W.nsIn K mainGlobals "int" = some none) (y_tuple : PySem.W.nsIn K mainGlobals "tuple" = some none) (y_abs : PySem.W.nsIn K mainGlobals "abs" = some none) (y_min : PySem.W.nsIn K mainGlobals "min" = some none) (y_max : PySem.W.nsIn K mainGlobals "max" = some none) (y_sorted : PySem.W.nsIn K mainGlobals "sorted" = some none) (y_set : PySem.W.nsIn K mainGlobals "set" = some none) (y_list : PySem.W.nsIn K mainGlobals "list" = some none) (y_repr : PySem.W.nsIn K mainGlobals "repr" = some none) :
    ∃ fd : FuncData, (∀ (s : Shared) (v : Value), BindsTo s fd ⟨[v], []⟩ [("_law_script", v)]) ∧ ∀ base : Heap, K.In base → base.Ns mainGlobals mg → FnG l.prog w K mg base 7 fa fd ["_law_script"] (spD K 1 f_law) := by
  have e := hfa.symm.trans (PySem.W.mg_of X G a28)
  cases e
  have F0 := fun_mk (st := s_is_word) l0 c0 k0
  have F1 := fun_mk (st := s_common) l1 c1 k1
  have F2 := fun_mk (st := s_borders) l2 c2 k2
  have F3 := fun_mk (st := s_least_round) l3 c3 k3
  have F4 := fun_mk (st := s_of_endless) l4 c4 k4
  have F5 := fun_mk (st := s_rounds_meet) l5 c5 k5
  have F6 := fun_mk (st := s_along) l6 c6 k6
  have F7 := fun_mk (st := s_is_pair) l7 c7 k7
  have F8 := fun_mk (st := s_heard) l8 c8 k8
  have F9 := fun_mk (st := s_met) l9 c9 k9
  have F10 := fun_mk (st := s_round_of) l10 c10 k10
  have F11 := fun_mk (st := s_led_by) l11 c11 k11
  have F12 := fun_mk (st := s_both) l12 c12 k12
  have F13 := fun_mk (st := s_pair_of) l13 c13 k13
  have F14 := fun_mk (st := s_law_hand) l14 c14 k14
  have F15 := fun_mk (st := s_law_take) l15 c15 k15
  have F16 := fun_mk (st := s_law_pick) l16 c16 k16
  have F17 := fun_mk (st := s_law_signs) l17 c17 k17
  have F18 := fun_mk (st := s_law_word) l18 c18 k18
  have F19 := fun_mk (st := s_law_words) l19 c19 k19
  have F20 := fun_mk (st := s_law_begin) l20 c20 k20
  have F21 := fun_mk (st := s_law_round) l21 c21 k21
  have F22 := fun_mk (st := s_law_due) l22 c22 k22
  have F23 := fun_mk (st := s_law_is_word) l23 c23 k23
  have F24 := fun_mk (st := s_law_is_pair) l24 c24 k24
  have F25 := fun_mk (st := s_law_odd) l25 c25 k25
  have F26 := fun_mk (st := s_law_bent) l26 c26 k26
  have F27 := fun_mk (st := s_law_some_words) l27 c27 k27
  have F28 := fun_mk (st := s_law) l28 c28 k28
  have z_all := PySem.W.mg_none_of X G y_all
  have z_isinstance := PySem.W.mg_none_of X G y_isinstance
  have z_str := PySem.W.mg_none_of X G y_str
  have z_len := PySem.W.mg_none_of X G y_len
  have z_range := PySem.W.mg_none_of X G y_range
  have z_int := PySem.W.mg_none_of X G y_int
  have z_tuple := PySem.W.mg_none_of X G y_tuple
  have z_abs := PySem.W.mg_none_of X G y_abs
  have z_min := PySem.W.mg_none_of X G y_min
  have z_max := PySem.W.mg_none_of X G y_max
  have z_sorted := PySem.W.mg_none_of X G y_sorted
  have z_set := PySem.W.mg_none_of X G y_set
  have z_list := PySem.W.mg_none_of X G y_list
  have z_repr := PySem.W.mg_none_of X G y_repr
  have g_WORD := PySem.W.mg_of X G c_WORD
  have g_ROUND := PySem.W.mg_of X G c_ROUND
  have g_ALL := PySem.W.mg_of X G c_ALL
  have g_MANY_PARTS := PySem.W.mg_of X G c_MANY_PARTS
  have g_PARTED := PySem.W.mg_of X G c_PARTED
  have B0 := F0.binds (ps := ["thing"]) fun _ _ _ _ _ _ us hl => match us, hl with | [_], _ => rfl
  have B1 := F1.binds (ps := ["one", "other"]) fun _ _ _ _ _ _ us hl => match us, hl with | [_, _], _ => rfl
  have B2 := F2.binds (ps := ["word"]) fun _ _ _ _ _ _ us hl => match us, hl with | [_], _ => rfl
  have B3 := F3.binds (ps := ["word"]) fun _ _ _ _ _ _ us hl => match us, hl with | [_], _ => rfl
  have B4 := F4.binds (ps := ["one", "size"]) fun _ _ _ _ _ _ us hl => match us, hl with | [_, _], _ => rfl
  have B5 := F5.binds (ps := ["one", "other"]) fun _ _ _ _ _ _ us hl => match us, hl with | [_, _], _ => rfl
  have B6 := F6.binds (ps := ["word", "one"]) fun _ _ _ _ _ _ us hl => match us, hl with | [_, _], _ => rfl
  have B7 := F7.binds (ps := ["thing"]) fun _ _ _ _ _ _ us hl => match us, hl with | [_], _ => rfl
  have B8 := F8.binds (ps := ["echo", "word"]) fun _ _ _ _ _ _ us hl => match us, hl with | [_, _], _ => rfl
  have B9 := F9.binds (ps := ["one", "other"]) fun _ _ _ _ _ _ us hl => match us, hl with | [_, _], _ => rfl
  have B10 := F10.binds (ps := ["word"]) fun _ _ _ _ _ _ us hl => match us, hl with | [_], _ => rfl
  have B11 := F11.binds (ps := ["word", "echo"]) fun _ _ _ _ _ _ us hl => match us, hl with | [_, _], _ => rfl
  have B12 := F12.binds (ps := ["one", "other"]) fun _ _ _ _ _ _ us hl => match us, hl with | [_, _], _ => rfl
  have B13 := F13.binds (ps := ["words"]) fun _ _ _ _ _ _ us hl => match us, hl with | [_], _ => rfl
  have B14 := F14.binds (ps := ["_law_script", "_law_k"]) fun _ _ _ _ _ _ us hl => match us, hl with | [_, _], _ => rfl
  have B15 := F15.binds (ps := ["_law_hand_here", "_law_many"]) fun _ _ _ _ _ _ us hl => match us, hl with | [_, _], _ => rfl
  have B16 := F16.binds (ps := ["_law_hand_here", "_law_some"]) fun _ _ _ _ _ _ us hl => match us, hl with | [_, _], _ => rfl
  have B17 := F17.binds (ps := ["_law_hand_here"]) fun _ _ _ _ _ _ us hl => match us, hl with | [_], _ => rfl
  have B18 := F18.binds (ps := ["_law_hand_here", "_law_signs_here", "_law_most"]) fun _ _ _ _ _ _ us hl => match us, hl with | [_, _, _], _ => rfl
  have B19 := F19.binds (ps := ["_law_hand_here", "_law_signs_here"]) fun _ _ _ _ _ _ us hl => match us, hl with | [_, _], _ => rfl
  have B20 := F20.binds (ps := ["_law_some"]) fun _ _ _ _ _ _ us hl => match us, hl with | [_], _ => rfl
  have B21 := F21.binds (ps := ["_law_word_here"]) fun _ _ _ _ _ _ us hl => match us, hl with | [_], _ => rfl
  have B22 := F22.binds (ps := ["_law_some"]) fun _ _ _ _ _ _ us hl => match us, hl with | [_], _ => rfl
  have B23 := F23.binds (ps := ["_law_thing"]) fun _ _ _ _ _ _ us hl => match us, hl with | [_], _ => rfl
  have B24 := F24.binds (ps := ["_law_thing"]) fun _ _ _ _ _ _ us hl => match us, hl with | [_], _ => rfl
  have B25 := F25.binds (ps := ["_law_hand_here", "_law_signs_here"]) fun _ _ _ _ _ _ us hl => match us, hl with | [_, _], _ => rfl
  have B26 := F26.binds (ps := ["_law_hand_here", "_law_signs_here", "_law_pair"]) fun _ _ _ _ _ _ us hl => match us, hl with | [_, _, _], _ => rfl
  have B27 := F27.binds (ps := ["_law_pair", "_law_signs_here"]) fun _ _ _ _ _ _ us hl => match us, hl with | [_, _], _ => rfl
  have B28 := F28.binds (ps := ["_law_script"]) fun _ _ _ _ _ _ us hl => match us, hl with | [_], _ => rfl
  refine ⟨PySem.W.fnOf "law" "law" (defArgs s_law) (defBody s_law) (defScope s_law) .none kV28 dc28 pm28 an28 cd28 ct28, fun s v => .of_eq rfl, fun base _ _ => ?_⟩
  have C_is_word : CalleeG l.prog w K mg base "is_word" 1 1 f_is_word := ⟨_, _, _, ok_is_word F0 z_all z_isinstance z_str, PySem.W.mg_of X G a0, F0.kp, B0⟩
  have C_common : CalleeG l.prog w K mg base "common" 1 2 f_common := ⟨_, _, _, ok_common F1 z_len, PySem.W.mg_of X G a1, F1.kp, B1⟩
  have C_borders : CalleeG l.prog w K mg base "borders" 1 1 f_borders := ⟨_, _, _, ok_borders F2 z_range z_len z_int, PySem.W.mg_of X G a2, F2.kp, B2⟩
  have C_least_round : CalleeG l.prog w K mg base "least_round" 2 1 f_least_round := ⟨_, _, _, ok_least_round F3 z_len C_borders, PySem.W.mg_of X G a3, F3.kp, B3⟩
  have C_of_endless : CalleeG l.prog w K mg base "of_endless" 1 2 f_of_endless := ⟨_, _, _, ok_of_endless F4 z_len, PySem.W.mg_of X G a4, F4.kp, B4⟩
  have C_rounds_meet : CalleeG l.prog w K mg base "rounds_meet" 2 2 f_rounds_meet := ⟨_, _, _, ok_rounds_meet F5 z_len C_common C_of_endless, PySem.W.mg_of X G a5, F5.kp, B5⟩
  have C_along : CalleeG l.prog w K mg base "along" 2 2 f_along := ⟨_, _, _, ok_along F6 z_len C_common C_of_endless, PySem.W.mg_of X G a6, F6.kp, B6⟩
  have C_is_pair : CalleeG l.prog w K mg base "is_pair" 3 1 f_is_pair := ⟨_, _, _, ok_is_pair F7 g_WORD g_ROUND g_ALL g_MANY_PARTS z_all z_len z_isinstance z_tuple C_least_round C_is_word, PySem.W.mg_of X G a7, F7.kp, B7⟩
  have C_heard : CalleeG l.prog w K mg base "heard" 3 2 f_heard := ⟨_, _, _, ok_heard F8 g_WORD g_ALL C_common C_along, PySem.W.mg_of X G a8, F8.kp, B8⟩
  have C_met : CalleeG l.prog w K mg base "met" 4 2 f_met := ⟨_, _, _, ok_met F9 g_WORD g_ALL C_rounds_meet C_heard, PySem.W.mg_of X G a9, F9.kp, B9⟩
  have C_round_of : CalleeG l.prog w K mg base "round_of" 3 1 f_round_of := ⟨_, _, _, ok_round_of F10 g_ROUND C_least_round, PySem.W.mg_of X G a10, F10.kp, B10⟩
  have C_led_by : CalleeG l.prog w K mg base "led_by" 4 2 f_led_by := ⟨_, _, _, ok_led_by F11 g_WORD g_ROUND g_ALL C_rounds_meet C_along C_least_round C_round_of, PySem.W.mg_of X G a11, F11.kp, B11⟩
  have C_both : CalleeG l.prog w K mg base "both" 5 2 f_both := ⟨_, _, _, ok_both F12 g_PARTED d_PARTED z_len C_met C_led_by C_common, PySem.W.mg_of X G a12, F12.kp, B12⟩
  have C_pair_of : CalleeG l.prog w K mg base "pair_of" 6 1 f_pair_of := ⟨_, _, _, ok_pair_of F13 g_ALL C_both, PySem.W.mg_of X G a13, F13.kp, B13⟩
  have C_law_hand : CalleeG l.prog w K mg base "_law_hand" 1 2 f_law_hand := ⟨_, _, _, ok_law_hand F14 z_abs z_int z_len, PySem.W.mg_of X G a14, F14.kp, B14⟩
  have C_law_take : CalleeG l.prog w K mg base "_law_take" 1 2 f_law_take := ⟨_, _, _, ok_law_take F15 , PySem.W.mg_of X G a15, F15.kp, B15⟩
  have C_law_pick : CalleeG l.prog w K mg base "_law_pick" 2 2 f_law_pick := ⟨_, _, _, ok_law_pick F16 z_len C_law_take, PySem.W.mg_of X G a16, F16.kp, B16⟩
  have C_law_signs : CalleeG l.prog w K mg base "_law_signs" 3 1 f_law_signs := ⟨_, _, _, ok_law_signs F17 C_law_pick, PySem.W.mg_of X G a17, F17.kp, B17⟩
  have C_law_word : CalleeG l.prog w K mg base "_law_word" 3 3 f_law_word := ⟨_, _, _, ok_law_word F18 z_range C_law_take C_law_pick, PySem.W.mg_of X G a18, F18.kp, B18⟩
  have C_law_words : CalleeG l.prog w K mg base "_law_words" 4 2 f_law_words := ⟨_, _, _, ok_law_words F19 z_range z_int C_law_word C_law_take, PySem.W.mg_of X G a19, F19.kp, B19⟩
  have C_law_begin : CalleeG l.prog w K mg base "_law_begin" 1 1 f_law_begin := ⟨_, _, _, ok_law_begin F20 z_all z_min z_len, PySem.W.mg_of X G a20, F20.kp, B20⟩
  have C_law_round : CalleeG l.prog w K mg base "_law_round" 1 1 f_law_round := ⟨_, _, _, ok_law_round F21 z_range z_len, PySem.W.mg_of X G a21, F21.kp, B21⟩
  have C_law_due : CalleeG l.prog w K mg base "_law_due" 2 1 f_law_due := ⟨_, _, _, ok_law_due F22 z_len z_max z_sorted z_set C_law_round C_law_begin, PySem.W.mg_of X G a22, F22.kp, B22⟩
  have C_law_is_word : CalleeG l.prog w K mg base "_law_is_word" 1 1 f_law_is_word := ⟨_, _, _, ok_law_is_word F23 z_all z_isinstance z_str, PySem.W.mg_of X G a23, F23.kp, B23⟩
  have C_law_is_pair : CalleeG l.prog w K mg base "_law_is_pair" 2 1 f_law_is_pair := ⟨_, _, _, ok_law_is_pair F24 z_all z_len z_isinstance z_tuple C_law_round C_law_is_word, PySem.W.mg_of X G a24, F24.kp, B24⟩
  have C_law_odd : CalleeG l.prog w K mg base "_law_odd" 4 2 f_law_odd := ⟨_, _, _, ok_law_odd F25 z_range C_law_pick C_law_word, PySem.W.mg_of X G a25, F25.kp, B25⟩
  have C_law_bent : CalleeG l.prog w K mg base "_law_bent" 5 3 f_law_bent := ⟨_, _, _, ok_law_bent F26 z_list C_law_word C_law_take C_law_pick C_law_odd, PySem.W.mg_of X G a26, F26.kp, B26⟩
  have C_law_some_words : CalleeG l.prog w K mg base "_law_some_words" 1 2 f_law_some_words := ⟨_, _, _, ok_law_some_words F27 , PySem.W.mg_of X G a27, F27.kp, B27⟩
  exact ok_law F28 z_range z_max z_min z_len z_repr z_list C_pair_of C_law_some_words C_is_pair C_law_is_pair C_law_odd C_law_bent C_law_due C_law_words C_law_signs C_law_hand
end LW
set_option Elab.async false
set_option linter.all false
set_option maxRecDepth 8000
set_option maxHeartbeats 4000000
namespace LW
open DL PySem L2
/-! ### things of any kind, not too deep nor too long -/
structure Th (n m : Nat) (d : PyData) : Prop where
  lay : layO d = true
  dep : d.depth ≤ n
  shw : d.showable = true
  siz : rszO d ≤ m
theorem Th.mono {n m n' m' : Nat} {d : PyData} (h : Th n m d) (hn : n ≤ n') (hm : m ≤ m') : Th n' m' d := ⟨h.lay, Nat.le_trans h.dep hn, h.shw, Nat.le_trans h.siz hm⟩
theorem th_all {n m : Nat} : ∀ {es : List PyData}, (∀ e ∈ es, Th n m e) → layOs es = true ∧ PyData.depthAll es ≤ n ∧ PyData.showableAll es = true ∧ rszOs es ≤ es.length * (m + 2)
  | [], _ => ⟨rfl, Nat.zero_le _, rfl, Nat.zero_le _⟩
  | e :: es, h => by
    obtain ⟨h1, h2, h3, h4⟩ := th_all (es := es) fun x hx => h x (List.mem_cons_of_mem _ hx)
    have g := h e (by simp)
    refine ⟨?_, ?_, ?_, ?_⟩
    · show (layO e && layOs es) = true
      rw [g.lay, h1]
      rfl
    · show max e.depth (PyData.depthAll es) ≤ n
      have := g.dep
      omega
    · show (e.showable && PyData.showableAll es) = true
      rw [g.shw, h3]
      rfl
    · show rszO e + 2 + rszOs es ≤ (es.length + 1) * (m + 2)
      have := g.siz
      rw [Nat.succ_mul]
      omega
theorem Th.tup {n m : Nat} {es : List PyData} (h : ∀ e ∈ es, Th n m e) : Th (n + 1) (es.length * (m + 2) + 3) (.tuple es) := by
  obtain ⟨h1, h2, h3, h4⟩ := th_all h
  exact ⟨h1, by rw [PyData.depth]; omega, h3, by rw [rszO]; omega⟩
theorem Th.lst {n m : Nat} {es : List PyData} (h : ∀ e ∈ es, Th n m e) : Th (n + 1) (es.length * (m + 2) + 3) (.list es) := by
  obtain ⟨h1, h2, h3, h4⟩ := th_all h
  exact ⟨h1, by rw [PyData.depth]; omega, h3, by rw [rszO]; omega⟩
theorem th_S {w : List Nat} {k : Nat} (hw : ∀ x ∈ w, x < 128) (hl : w.length ≤ k) : Th 0 (10 * k + 2) (S w) :=
  ⟨gd_iff.mpr fun c hc => Nat.lt_trans (hw c hc) (by decide), by rw [PyData.depth]; exact Nat.le_refl _, rfl, by show 10 * w.length + 2 ≤ _; omega⟩
theorem rsz_mem : ∀ {es : List PyData} {e : PyData}, e ∈ es → rszO e ≤ rszOs es
  | x :: es, e, h => by
    show rszO e ≤ rszO x + 2 + rszOs es
    rcases List.mem_cons.mp h with rfl | h
    · omega
    · have := rsz_mem h
      omega
structure Big (d : PyData) : Prop where
  th : Th 60 30000 d
  few : ∀ ds, d = .tuple ds → ∀ e ∈ ds, ∀ x, e = .str x → x.cps.toList.length ≤ 300
theorem few_of {m : Nat} {e : PyData} (h : Th 51 3000 e) : ∀ x, e = .str x → x.cps.toList.length ≤ 300 := fun x ex => by
  subst ex
  have : 10 * x.cps.toList.length + 2 ≤ 3000 := h.siz
  omega
theorem Th.big {d : PyData} (h : Th 51 3000 d) : Big d := ⟨h.mono (by decide) (by decide), fun ds ed e he x ex => by
  subst ed
  have h1 : rszOs ds + 3 ≤ 3000 := h.siz
  have h2 := rsz_mem he
  subst ex
  have h3 : 10 * x.cps.toList.length + 2 ≤ rszOs ds := h2
  omega⟩
theorem big_tup {es : List PyData} (h : ∀ e ∈ es, Th 51 3000 e) (hl : es.length ≤ 7) : Big (.tuple es) :=
  ⟨(Th.tup h).mono (by decide) (by have := Nat.mul_le_mul_right 3002 hl; omega), fun ds ed e he x ex => by
    cases ed
    exact few_of (m := 0) (h e he) x ex⟩
theorem big_lst {es : List PyData} (h : ∀ e ∈ es, Th 51 3000 e) (hl : es.length ≤ 7) : Big (.list es) :=
  ⟨(Th.lst h).mono (by decide) (by have := Nat.mul_le_mul_right 3002 hl; omega), fun ds ed => by cases ed⟩
theorem Big.shorts {d : PyData} (h : Big d) : shorts d := fun ds ed e he x ex => Nat.le_trans (h.few ds ed e he x ex) (by decide)
theorem Big.repr {d : PyData} (h : Big d) : semReprO [.fz d] = some (.fz (.str d.shown)) := reprO (c := .fz d) rfl h.th.lay (Nat.le_trans h.th.dep (by decide)) h.th.shw (Nat.le_trans h.th.siz (by decide))
theorem repr_boolO (b : Bool) : semReprO [.fz (.bool b)] = some (.fz (.str (PyData.bool b).shown)) := reprO (c := .fz (.bool b)) rfl rfl (by rw [PyData.depth]; decide) rfl (by show 5 ≤ 16777216; decide)
/-! an odd thing -/
theorem key_S {w : List Nat} (hw : ∀ x ∈ w, x < 128) (hl : w.length ≤ 1000) : (keyOf (S w)).isSome = true := by
  have ok : okS (⟨⟨w⟩⟩ : Str) = true := by
    rw [okS_iff]
    exact ⟨fun c hc => Nat.lt_trans (hw c hc) (by decide), by simp; omega⟩
  show (if okS (⟨⟨w⟩⟩ : Str) = true then some (Sum.inr _) else none : Option Key).isSome = true
  rw [if_pos ok]
  rfl
theorem odd_ok {a b c : Int} {n s : Nat} {l : List Nat} (h : Hd a b c n) (hn : n < 60000000000) (h3 : (s :: l).length ≤ 3) (hs : ∀ x ∈ s :: l, x < 128) :
    ∃ (d : PyData) (a' c' : Int), f_law_odd [.pw (hand a b c), .fz (S (s :: l))] = some (.fz d, [some (.pw (hand a' b c')), some (.fz (S (s :: l)))]) ∧ Th 51 3000 d ∧ Hd a' b c' (n + 60) := by
  obtain ⟨w, a1, c1, e1, w3, wl, H1⟩ := word_nat (l := s :: l) 3 h (by omega) (by simp) h3 (by decide)
  have e1 : f_law_word [.pw (hand a b c), .fz (S (s :: l)), .fz (.int 3)] = some (.fz (S w), [some (.pw (hand a1 b c1)), some (.fz (S (s :: l))), some (.fz (.int 3))]) := e1
  have i0 : semIx [.fz (S (s :: l)), .fz (.int 0)] = some (.fz (S [s])) := ixS (k := 0) rfl
  have ad := semAdd_S w [s] (by simp; omega)
  obtain ⟨o, ho⟩ : ∃ o, o = w ++ [s] := ⟨_, rfl⟩
  rw [← ho] at ad
  have ol : o.length ≤ 4 := by rw [ho]; simp; omega
  have oc : ∀ x ∈ o, x < 128 := fun x hx => by
    rw [ho] at hx
    rcases List.mem_append.mp hx with z | z
    · exact hs x (wl x z)
    · rw [List.mem_singleton.mp z]; exact hs s (by simp)
  have m2 : semMul [.fz (S o), .fz (.int 2)] = some (.fz (S (o ++ o))) := by
    have := semMul_S o 2 (by decide) (by omega)
    simpa [List.replicate] using this
  have a10 := semAdd_S o [10] (by simp; omega)
  have df : fits (True ∧ kindK [((S o : PyData), S o)] = true ∧ [(S o : PyData)].Nodup) = true := fits_of ⟨trivial, by
    show ((keyOf (S o)).isSome && true) = true
    rw [key_S oc (by omega)]
    rfl, by simp⟩
  have aL := addL [.none, .bool true, .int 0, .int 1, S [], S o, S (o ++ o), S (o ++ [10]), S [9], S [97, 10, 98], S [97, 108, 108], S [119, 111, 114, 100]] [S [114, 111, 117, 110, 100], S [65, 76, 76], S [97, 108, 108, 32], .tuple [S [97, 108, 108]], .list [], .dict [], .tuple [], .tuple [S o], .list [S o], .dict [(S o, S o)]] (by simp only [List.length_cons, List.length_nil]; omega)
  simp only [List.cons_append, List.nil_append] at aL
  obtain ⟨x, a2, c2, e2, hx, H2⟩ := pickF_ok (ds := [.none, .bool true, .int 0, .int 1, S [], S o, S (o ++ o), S (o ++ [10]), S [9], S [97, 10, 98], S [97, 108, 108], S [119, 111, 114, 100], S [114, 111, 117, 110, 100], S [65, 76, 76], S [97, 108, 108, 32], .tuple [S [97, 108, 108]], .list [], .dict [], .tuple [], .tuple [S o], .list [S o], .dict [(S o, S o)]]) H1 (by omega) (by simp) (by simp only [List.length_cons, List.length_nil]; omega)
  obtain ⟨r, a3, c3, e3, hr, H3⟩ := pickL_ok (ds := [.int 0, .int 0, .int 0, .int 1, .int 48]) H2 (by omega) (by simp) (by decide)
  have S0 : ∀ v : List Nat, (∀ x ∈ v, x < 128) → v.length ≤ 10 → Th 0 102 (S v) := fun v h1 h2 => th_S (k := 10) h1 h2
  have oT : Th 0 102 (S o) := S0 o oc (by omega)
  have xT : Th 2 500 x := by
    have cS : ∀ v : List Nat, (v.all fun x => decide (x < 128)) = true → v.length ≤ 10 → Th 2 500 (S v) := fun v h1 h2 => (S0 v (fun x hx => of_decide_eq_true (List.all_eq_true.mp h1 x hx)) h2).mono (by decide) (by decide)
    simp only [List.mem_cons, List.not_mem_nil, or_false] at hx
    rcases hx with rfl | rfl | rfl | rfl | rfl | rfl | rfl | rfl | rfl | rfl | rfl | rfl | rfl | rfl | rfl | rfl | rfl | rfl | rfl | rfl | rfl | rfl
    · exact ⟨rfl, by rw [PyData.depth]; decide, rfl, by decide⟩
    · exact ⟨rfl, by rw [PyData.depth]; decide, rfl, by decide⟩
    · exact ⟨rfl, by rw [PyData.depth]; decide, by decide, by decide +kernel⟩
    · exact ⟨rfl, by rw [PyData.depth]; decide, by decide, by decide +kernel⟩
    · exact cS _ rfl (by decide)
    · exact oT.mono (by decide) (by decide)
    · exact (S0 (o ++ o) (fun x hx => (List.mem_append.mp hx).elim (oc x) (oc x)) (by simp; omega)).mono (by decide) (by decide)
    · exact (S0 (o ++ [10]) (fun x hx => (List.mem_append.mp hx).elim (oc x) fun z => by rw [List.mem_singleton.mp z]; decide) (by simp; omega)).mono (by decide) (by decide)
    · exact cS _ rfl (by decide)
    · exact cS _ rfl (by decide)
    · exact cS _ rfl (by decide)
    · exact cS _ rfl (by decide)
    · exact cS _ rfl (by decide)
    · exact cS _ rfl (by decide)
    · exact cS _ rfl (by decide)
    · exact (Th.tup (n := 0) (m := 102) fun e he => by rw [List.mem_singleton.mp he]; exact S0 _ (by decide) (by decide)).mono (by decide) (by simp)
    · exact ⟨rfl, by simp [PyData.depth, PyData.depthAll], rfl, by decide⟩
    · exact ⟨rfl, by simp [PyData.depth, PyData.depthKv], rfl, by decide⟩
    · exact ⟨rfl, by simp [PyData.depth, PyData.depthAll], rfl, by decide⟩
    · exact (Th.tup (n := 0) (m := 102) fun e he => by rw [List.mem_singleton.mp he]; exact oT).mono (by decide) (by simp)
    · exact (Th.lst (n := 0) (m := 102) fun e he => by rw [List.mem_singleton.mp he]; exact oT).mono (by decide) (by simp)
    · refine ⟨?_, ?_, ?_, ?_⟩
      · show (((keyOf (S o)).isSome && true) && (layO (S o) && layO (S o) && true)) = true
        rw [key_S oc (by omega), oT.lay]
        rfl
      · simp [PyData.depth, PyData.depthKv]
      · show ((S o).showable && (S o).showable && true) = true
        rw [oT.shw]
        rfl
      · show (rszO (S o) + rszO (S o) + 4 + 0) + 2 ≤ 500
        have := oT.siz
        omega
  obtain ⟨k, hk, rfl⟩ : ∃ k : Nat, k ≤ 48 ∧ r = .int (k : Int) := by
    simp only [List.mem_cons, List.not_mem_nil, or_false] at hr
    rcases hr with rfl | rfl | rfl | rfl | rfl
    · exact ⟨0, by decide, rfl⟩
    · exact ⟨0, by decide, rfl⟩
    · exact ⟨0, by decide, rfl⟩
    · exact ⟨1, by decide, rfl⟩
    · exact ⟨48, by decide, rfl⟩
  obtain ⟨e, lp, d, a4, c4, y5, rfl, hT, hy, H4⟩ := forL_range (g := gSet 5) (body := v1_law_odd) (lo := 0) (fun j env => ∃ (d : PyData) (a c : Int) (y5 : Option C), env = [some (.pw (hand a b c)), some (.fz (S (s :: l))), some (.fz (S o)), some (.fz (.list [.none, .bool true, .int 0, .int 1, S [], S o, S (o ++ o), S (o ++ [10]), S [9], S [97, 10, 98], S [97, 108, 108], S [119, 111, 114, 100], S [114, 111, 117, 110, 100], S [65, 76, 76], S [97, 108, 108, 32], .tuple [S [97, 108, 108]], .list [], .dict [], .tuple [], .tuple [S o], .list [S o], .dict [(S o, S o)]])), some (.fz d), y5] ∧ Th (2 + j) (500 + 52 * j) d ∧ np y5 = true ∧ Hd a b c (n + 6 + j)) k (by
    rintro j env hj ⟨d, a, c, y5, rfl, hT, hy, H⟩
    obtain ⟨x, a', c', e, hx, H'⟩ := pickL_ok (ds := [.tuple [d], .list [d], .tuple [d, S [97, 108, 108], S []]]) H (by omega) (by simp) (by simp only [List.length_cons, List.length_nil]; omega)
    refine ⟨_, _, by (simp only [dSeq, dIfS, dTst, dOp, dOs, dVal, dSlot, dC, dVar, dIf, dAnd, dOr, dNot, dAndV, dOrV, dNotV, dTup, dLst, seeAll, see, valDatas, C.data, C.put, C.frozen, dSet, dSetIx, ownL, dMut, dRetV, dRet, dRetN, dExp, dNext, dPar, dPar3, iAny, iEnumD, iZipD, lstOf, dChain, dAug, dCall, passAll, passO, ownSlots, nodupB, writeAll, dFor, iRg1, iRg2, iLst, iTpl, iStrD, gSet, gTuple, gMore, gEnd, dAsg, dMth, isStr, mkFn, isNone, intOf, DL.cutD, dLc, plainAt, tYesD, dSl11, settable_zero, settable_succ, np_none, np_fz, np_ow, np_sc, List.getElem?_cons_zero, List.getElem?_cons_succ, List.getElem?_nil, List.set_cons_zero, List.set_cons_succ, List.length_cons, List.length_nil, List.map_cons, List.map_nil, List.replicate_succ, List.replicate_zero, List.cons_append, List.nil_append, List.append_nil, List.take_succ_cons, List.take_zero, List.contains_cons, List.contains_nil, Nat.reduceAdd, Nat.reduceLeDiff, Nat.reduceEqDiff, reduceIte, Nat.zero_add, Bool.and_true, Bool.true_and, Bool.not_false, Bool.false_eq_true, decide_true, decide_false, Bool.not_true, beq_self_eq_true, Bool.or_false, Bool.false_or, Nat.reduceBEq, hy]) <;> rfl, by (simp only [v1_law_odd, dSeq, dIfS, dTst, dOp, dOs, dVal, dSlot, dC, dVar, dIf, dAnd, dOr, dNot, dAndV, dOrV, dNotV, dTup, dLst, seeAll, see, valDatas, C.data, C.put, C.frozen, dSet, dSetIx, ownL, dMut, dRetV, dRet, dRetN, dExp, dNext, dPar, dPar3, iAny, iEnumD, iZipD, lstOf, dChain, dAug, dCall, passAll, passO, ownSlots, nodupB, writeAll, dFor, iRg1, iRg2, iLst, iTpl, iStrD, gSet, gTuple, gMore, gEnd, dAsg, dMth, isStr, mkFn, isNone, intOf, DL.cutD, dLc, plainAt, tYesD, dSl11, settable_zero, settable_succ, np_none, np_fz, np_ow, np_sc, List.getElem?_cons_zero, List.getElem?_cons_succ, List.getElem?_nil, List.set_cons_zero, List.set_cons_succ, List.length_cons, List.length_nil, List.map_cons, List.map_nil, List.replicate_succ, List.replicate_zero, List.cons_append, List.nil_append, List.append_nil, List.take_succ_cons, List.take_zero, List.contains_cons, List.contains_nil, Nat.reduceAdd, Nat.reduceLeDiff, Nat.reduceEqDiff, reduceIte, Nat.zero_add, Bool.and_true, Bool.true_and, Bool.not_false, Bool.false_eq_true, decide_true, decide_false, Bool.not_true, beq_self_eq_true, Bool.or_false, Bool.false_or, Nat.reduceBEq, e]) <;> rfl, x, a', c', _, rfl, ?_, rfl, H'.mono (by omega)⟩
    simp only [List.mem_cons, List.not_mem_nil, or_false] at hx
    rcases hx with rfl | rfl | rfl
    · exact (Th.tup fun e he => by rw [List.mem_singleton.mp he]; exact hT).mono (by omega) (by simp; omega)
    · exact (Th.lst fun e he => by rw [List.mem_singleton.mp he]; exact hT).mono (by omega) (by simp; omega)
    · have t1 := (th_S (w := [97, 108, 108]) (k := 3) (by decide) (by decide))
      refine ⟨?_, ?_, ?_, ?_⟩
      · show (layO d && (layO (S [97, 108, 108]) && (layO (S []) && true))) = true
        rw [hT.lay, t1.lay, (th_S (w := []) (k := 0) (by simp) (by simp)).lay]
        rfl
      · have := hT.dep
        show max d.depth (max (PyData.depth (S [97, 108, 108])) (max (PyData.depth (S [])) 0)) + 1 ≤ _
        simp only [PyData.depth]
        omega
      · show (d.showable && ((S [97, 108, 108]).showable && ((S []).showable && true))) = true
        rw [hT.shw]
        rfl
      · have := hT.siz
        show (rszO d + 2 + (32 + 2 + (2 + 2 + 0))) + 3 ≤ _
        omega) [some (.pw (hand a3 b c3)), some (.fz (S (s :: l))), some (.fz (S o)), some (.fz (.list [.none, .bool true, .int 0, .int 1, S [], S o, S (o ++ o), S (o ++ [10]), S [9], S [97, 10, 98], S [97, 108, 108], S [119, 111, 114, 100], S [114, 111, 117, 110, 100], S [65, 76, 76], S [97, 108, 108, 32], .tuple [S [97, 108, 108]], .list [], .dict [], .tuple [], .tuple [S o], .list [S o], .dict [(S o, S o)]])), some (.fz x), none] ⟨x, a3, c3, none, rfl, xT, rfl, H3.mono (by omega)⟩
  have bb : fits (-4611686018427387904 ≤ (k : Int) ∧ (k : Int) < 4611686018427387904) = true := fits_of (by omega)
  have tn : (k : Int).toNat = k := Int.toNat_natCast k
  exact ⟨d, a4, c4, by simp only [f_law_odd, b_law_odd, dDict, dDict0, pairsOf, dSeq, dIfS, dTst, dOp, dOs, dVal, dSlot, dC, dVar, dIf, dAnd, dOr, dNot, dAndV, dOrV, dNotV, dTup, dLst, seeAll, see, valDatas, C.data, C.put, C.frozen, dSet, dSetIx, ownL, dMut, dRetV, dRet, dRetN, dExp, dNext, dPar, dPar3, iAny, iEnumD, iZipD, lstOf, dChain, dAug, dCall, passAll, passO, ownSlots, nodupB, writeAll, dFor, iRg1, iRg2, iLst, iTpl, iStrD, gSet, gTuple, gMore, gEnd, dAsg, dMth, isStr, mkFn, isNone, intOf, DL.cutD, dLc, plainAt, tYesD, dSl11, settable_zero, settable_succ, np_none, np_fz, np_ow, np_sc, List.getElem?_cons_zero, List.getElem?_cons_succ, List.getElem?_nil, List.set_cons_zero, List.set_cons_succ, List.length_cons, List.length_nil, List.map_cons, List.map_nil, List.replicate_succ, List.replicate_zero, List.cons_append, List.nil_append, List.append_nil, List.take_succ_cons, List.take_zero, List.contains_cons, List.contains_nil, Nat.reduceAdd, Nat.reduceLeDiff, Nat.reduceEqDiff, reduceIte, Nat.zero_add, Bool.and_true, Bool.true_and, Bool.not_false, Bool.false_eq_true, decide_true, decide_false, Bool.not_true, beq_self_eq_true, Bool.or_false, Bool.false_or, Nat.reduceBEq, e1, i0, ad, m2, a10, df, aL, e2, e3, bb, tn, lp], hT.mono (by omega) (by omega), H4.mono (by omega)⟩
/-! a pair otherwise -/
theorem th_sg {w : List Nat} (h : sg w) (hl : w.length ≤ 200) : Th 51 3000 (S w) := (th_S (k := 200) (fun x hx => by have := h x hx; omega) hl).mono (by decide) (by decide)
theorem bentP_ok {a b c : Int} {n s : Nat} {l : List Nat} {p : Pr} (h : Hd a b c n) (hn : n < 50000000000) (h3 : (s :: l).length ≤ 3) (hs : ∀ x ∈ s :: l, x < 128) (hp : sgP p) (hz : szP p ≤ 160) :
    ∃ (d : PyData) (a' c' : Int), f_law_bent [.pw (hand a b c), .fz (S (s :: l)), .fz (dp p)] = some (.fz d, [some (.pw (hand a' b c')), some (.fz (S (s :: l))), some (.fz (dp p))]) ∧ Big d ∧ Hd a' b c' (n + 70) := by
  obtain ⟨way, a1, c1, e1, w8, H1⟩ := take_nat 8 h (by omega) (by decide) (by decide)
  obtain ⟨spot, a2, c2, e2, s3, H2⟩ := take_nat 3 H1 (by omega) (by decide) (by decide)
  obtain ⟨o, a3, c3, e3, oT, H3⟩ := odd_ok H2 (by omega) h3 hs
  have e1 : f_law_take [.pw (hand a b c), .fz (.int 8)] = some (.fz (.int (way : Int)), [some (.pw (hand a1 b c1)), some (.fz (.int 8))]) := e1
  have e2 : f_law_take [.pw (hand a1 b c1), .fz (.int 3)] = some (.fz (.int (spot : Int)), [some (.pw (hand a2 b c2)), some (.fz (.int 3))]) := e2
  obtain ⟨X, hX⟩ : ∃ X, X = [S p.1, S (kd p.2), S (tx p.2)] := ⟨_, rfl⟩
  have xl : (tx p.2).length ≤ szE p.2 := by cases p.2 <;> simp [tx, szE]
  have kl : (kd p.2).length ≤ 5 := by cases p.2 <;> simp [kd]
  have ex : szP p = p.1.length + szE p.2 := rfl
  have XT : ∀ d ∈ X, Th 51 3000 d := fun d hd => by
    rw [hX] at hd
    simp only [List.mem_cons, List.not_mem_nil, or_false] at hd
    rcases hd with rfl | rfl | rfl
    · exact th_sg hp.1 (by omega)
    · exact th_sg (kd_sg _) (by omega)
    · exact th_sg hp.2 (by omega)
  have X3 : X.length = 3 := by rw [hX]; rfl
  have ed : dp p = .tuple X := by rw [hX]; rfl
  rw [ed]
  have lt := semLt_nat way 3
  have q3 := semEq_nat way 3
  have q4 := semEq_nat way 4
  have q5 := semEq_nat way 5
  have q6 := semEq_nat way 6
  have lt : semLt [.fz (.int (way : Int)), .fz (.int 3)] = some (.fz (.bool (decide (way < 3)))) := lt
  have q3 : semEq [.fz (.int (way : Int)), .fz (.int 3)] = some (.fz (.bool (decide (way = 3)))) := q3
  have q4 : semEq [.fz (.int (way : Int)), .fz (.int 4)] = some (.fz (.bool (decide (way = 4)))) := q4
  have q5 : semEq [.fz (.int (way : Int)), .fz (.int 5)] = some (.fz (.bool (decide (way = 5)))) := q5
  have q6 : semEq [.fz (.int (way : Int)), .fz (.int 6)] = some (.fz (.bool (decide (way = 6)))) := q6
  have tk : ∀ k : Nat, ∀ d ∈ X.take k, Th 51 3000 d := fun k d hd => XT d (List.mem_of_mem_take hd)
  have dr : ∀ k : Nat, ∀ d ∈ X.drop k, Th 51 3000 d := fun k d hd => XT d (List.mem_of_mem_drop hd)
  have tkl : ∀ k : Nat, (X.take k).length ≤ 3 := fun k => by rw [List.length_take]; omega
  have drl : ∀ k : Nat, (X.drop k).length ≤ 3 := fun k => by rw [List.length_drop]; omega
  have app : ∀ {xs ys : List PyData}, (∀ d ∈ xs, Th 51 3000 d) → (∀ d ∈ ys, Th 51 3000 d) → ∀ d ∈ xs ++ ys, Th 51 3000 d := fun h1 h2 d z => (List.mem_append.mp z).elim (h1 d) (h2 d)
  have sgl : ∀ {z : PyData}, Th 51 3000 z → ∀ d ∈ [z], Th 51 3000 d := fun h d z => by rw [List.mem_singleton.mp z]; exact h
  have t1 := sl01_T X 1
  have t2 := sl01_T X 2
  have d2 := sl10_T X 2
  have t1 : semSl01 [.fz (.tuple X), .fz (.int 1)] = some (.fz (.tuple (X.take 1))) := t1
  have t2 : semSl01 [.fz (.tuple X), .fz (.int 2)] = some (.fz (.tuple (X.take 2))) := t2
  have d2 : semSl10 [.fz (.tuple X), .fz (.int 2)] = some (.fz (.tuple (X.drop 2))) := d2
  have ad : ∀ xs ys : List PyData, xs.length + ys.length ≤ 100 → semAdd [.fz (.tuple xs), .fz (.tuple ys)] = some (.fz (.tuple (xs ++ ys))) := fun xs ys z => addT xs ys (by omega)
  by_cases c3' : way < 3
  · rw [decide_eq_true c3'] at lt
    have s1 := sl01_T X spot
    have a1' := semAdd_nat1 spot
    have s2 := sl10_T X (spot + 1)
    have b1 := ad (X.take spot) [o] (by have := tkl spot; simp; omega)
    have b2 := ad (X.take spot ++ [o]) (X.drop (spot + 1)) (by have := tkl spot; have := drl (spot + 1); simp; omega)
    refine ⟨_, a3, c3, by (simp only [f_law_bent, b_law_bent, dSeq, dIfS, dTst, dOp, dOs, dVal, dSlot, dC, dVar, dIf, dAnd, dOr, dNot, dAndV, dOrV, dNotV, dTup, dLst, seeAll, see, valDatas, C.data, C.put, C.frozen, dSet, dSetIx, ownL, dMut, dRetV, dRet, dRetN, dExp, dNext, dPar, dPar3, iAny, iEnumD, iZipD, lstOf, dChain, dAug, dCall, passAll, passO, ownSlots, nodupB, writeAll, dFor, iRg1, iRg2, iLst, iTpl, iStrD, gSet, gTuple, gMore, gEnd, dAsg, dMth, isStr, mkFn, isNone, intOf, DL.cutD, dLc, plainAt, tYesD, dSl11, settable_zero, settable_succ, np_none, np_fz, np_ow, np_sc, List.getElem?_cons_zero, List.getElem?_cons_succ, List.getElem?_nil, List.set_cons_zero, List.set_cons_succ, List.length_cons, List.length_nil, List.map_cons, List.map_nil, List.replicate_succ, List.replicate_zero, List.cons_append, List.nil_append, List.append_nil, List.take_succ_cons, List.take_zero, List.contains_cons, List.contains_nil, Nat.reduceAdd, Nat.reduceLeDiff, Nat.reduceEqDiff, reduceIte, Nat.zero_add, Bool.and_true, Bool.true_and, Bool.not_false, Bool.false_eq_true, decide_true, decide_false, Bool.not_true, beq_self_eq_true, Bool.or_false, Bool.false_or, Nat.reduceBEq, e1, e2, e3, lt, s1, b1, a1', s2, b2]) <;> rfl, big_tup (app (app (tk _) (sgl oT)) (dr _)) ?_, H3.mono (by omega)⟩
    have := tkl spot
    have := drl (spot + 1)
    simp only [List.length_append, List.length_cons, List.length_nil]
    omega
  · rw [decide_eq_false c3'] at lt
    by_cases c4 : way = 3
    · rw [decide_eq_true c4] at q3
      obtain ⟨k, a4, c4, e4, hk, H4⟩ := pickL_ok (ds := [S [97, 108, 108], S [119, 111, 114, 100], S [114, 111, 117, 110, 100]]) H3 (by omega) (by simp) (by decide)
      have kT : Th 51 3000 k := by
        simp only [List.mem_cons, List.not_mem_nil, or_false] at hk
        rcases hk with rfl | rfl | rfl <;> exact (th_S (k := 5) (by decide) (by decide)).mono (by decide) (by decide)
      have b1 := ad (X.take 1) [k] (by have := tkl 1; simp; omega)
      have b2 := ad (X.take 1 ++ [k]) (X.drop 2) (by have := tkl 1; have := drl 2; simp; omega)
      refine ⟨_, a4, c4, by (simp only [f_law_bent, b_law_bent, dSeq, dIfS, dTst, dOp, dOs, dVal, dSlot, dC, dVar, dIf, dAnd, dOr, dNot, dAndV, dOrV, dNotV, dTup, dLst, seeAll, see, valDatas, C.data, C.put, C.frozen, dSet, dSetIx, ownL, dMut, dRetV, dRet, dRetN, dExp, dNext, dPar, dPar3, iAny, iEnumD, iZipD, lstOf, dChain, dAug, dCall, passAll, passO, ownSlots, nodupB, writeAll, dFor, iRg1, iRg2, iLst, iTpl, iStrD, gSet, gTuple, gMore, gEnd, dAsg, dMth, isStr, mkFn, isNone, intOf, DL.cutD, dLc, plainAt, tYesD, dSl11, settable_zero, settable_succ, np_none, np_fz, np_ow, np_sc, List.getElem?_cons_zero, List.getElem?_cons_succ, List.getElem?_nil, List.set_cons_zero, List.set_cons_succ, List.length_cons, List.length_nil, List.map_cons, List.map_nil, List.replicate_succ, List.replicate_zero, List.cons_append, List.nil_append, List.append_nil, List.take_succ_cons, List.take_zero, List.contains_cons, List.contains_nil, Nat.reduceAdd, Nat.reduceLeDiff, Nat.reduceEqDiff, reduceIte, Nat.zero_add, Bool.and_true, Bool.true_and, Bool.not_false, Bool.false_eq_true, decide_true, decide_false, Bool.not_true, beq_self_eq_true, Bool.or_false, Bool.false_or, Nat.reduceBEq, e1, e2, e3, lt, q3, t1, e4, b1, d2, b2]) <;> rfl, big_tup (app (app (tk _) (sgl kT)) (dr _)) ?_, H4.mono (by omega)⟩
      have := tkl 1
      have := drl 2
      simp only [List.length_append, List.length_cons, List.length_nil]
      omega
    · rw [decide_eq_false c4] at q3
      by_cases c5 : way = 4
      · rw [decide_eq_true c5] at q4
        obtain ⟨w, a4, c4, e4, wl, wi, H4⟩ := word_nat (l := s :: l) 3 H3 (by omega) (by simp) h3 (by decide)
        obtain ⟨m, a5, c5, e5, hm, H5⟩ := take_nat 3 H4 (by omega) (by decide) (by decide)
        have e4 : f_law_word [.pw (hand a3 b c3), .fz (S (s :: l)), .fz (.int 3)] = some (.fz (S w), [some (.pw (hand a4 b c4)), some (.fz (S (s :: l))), some (.fz (.int 3))]) := e4
        have e5 : f_law_take [.pw (hand a4 b c4), .fz (.int 3)] = some (.fz (.int (m : Int)), [some (.pw (hand a5 b c5)), some (.fz (.int 3))]) := e5
        have a6 : semAdd [.fz (.int 1), .fz (.int (m : Int))] = some (.fz (.int ((1 + m : Nat) : Int))) := semAdd_nat 1 m
        have ml := Nat.mul_le_mul wl (show 1 + m ≤ 3 by omega)
        have m6 := semMul_r w (1 + m) (by omega) (by omega)
        have rl : (reps (1 + m) w).length ≤ 9 := by
          unfold reps
          rw [List.length_flatten, List.map_replicate, List.sum_replicate_nat]
          rw [Nat.mul_comm]
          omega
        have rT : Th 51 3000 (S (reps (1 + m) w)) := (th_S (k := 9) (fun x hx => hs x (inL.reps (l := s :: l) wi (1 + m) x hx)) rl).mono (by decide) (by decide)
        have b1 := ad (X.take 2) [S (reps (1 + m) w)] (by have := tkl 2; simp; omega)
        refine ⟨_, a5, c5, by (simp only [f_law_bent, b_law_bent, dSeq, dIfS, dTst, dOp, dOs, dVal, dSlot, dC, dVar, dIf, dAnd, dOr, dNot, dAndV, dOrV, dNotV, dTup, dLst, seeAll, see, valDatas, C.data, C.put, C.frozen, dSet, dSetIx, ownL, dMut, dRetV, dRet, dRetN, dExp, dNext, dPar, dPar3, iAny, iEnumD, iZipD, lstOf, dChain, dAug, dCall, passAll, passO, ownSlots, nodupB, writeAll, dFor, iRg1, iRg2, iLst, iTpl, iStrD, gSet, gTuple, gMore, gEnd, dAsg, dMth, isStr, mkFn, isNone, intOf, DL.cutD, dLc, plainAt, tYesD, dSl11, settable_zero, settable_succ, np_none, np_fz, np_ow, np_sc, List.getElem?_cons_zero, List.getElem?_cons_succ, List.getElem?_nil, List.set_cons_zero, List.set_cons_succ, List.length_cons, List.length_nil, List.map_cons, List.map_nil, List.replicate_succ, List.replicate_zero, List.cons_append, List.nil_append, List.append_nil, List.take_succ_cons, List.take_zero, List.contains_cons, List.contains_nil, Nat.reduceAdd, Nat.reduceLeDiff, Nat.reduceEqDiff, reduceIte, Nat.zero_add, Bool.and_true, Bool.true_and, Bool.not_false, Bool.false_eq_true, decide_true, decide_false, Bool.not_true, beq_self_eq_true, Bool.or_false, Bool.false_or, Nat.reduceBEq, e1, e2, e3, lt, q3, q4, t2, e4, e5, a6, m6, b1]) <;> rfl, big_tup (app (tk _) (sgl rT)) ?_, H5.mono (by omega)⟩
        have := tkl 2
        simp only [List.length_append, List.length_cons, List.length_nil]
        omega
      · rw [decide_eq_false c5] at q4
        by_cases c6 : way = 5
        · rw [decide_eq_true c6] at q5
          have lo : semListOf [.fz (.tuple X)] = some (.ow (.list X)) := rfl
          have b1 := ad X [o] (by simp; omega)
          have fin : ∀ r : PyData, ([.list X, .tuple (X ++ [o]), .tuple (X.take 2)] : List PyData)[spot]? = some r → Big r → ∃ (d : PyData) (a' c' : Int), f_law_bent [.pw (hand a b c), .fz (S (s :: l)), .fz (.tuple X)] = some (.fz d, [some (.pw (hand a' b c')), some (.fz (S (s :: l))), some (.fz (.tuple X))]) ∧ Big d ∧ Hd a' b c' (n + 70) := fun r hr hB => by
            have ix := ixO hr
            exact ⟨r, a3, c3, by simp only [f_law_bent, b_law_bent, dSeq, dIfS, dTst, dOp, dOs, dVal, dSlot, dC, dVar, dIf, dAnd, dOr, dNot, dAndV, dOrV, dNotV, dTup, dLst, seeAll, see, valDatas, C.data, C.put, C.frozen, dSet, dSetIx, ownL, dMut, dRetV, dRet, dRetN, dExp, dNext, dPar, dPar3, iAny, iEnumD, iZipD, lstOf, dChain, dAug, dCall, passAll, passO, ownSlots, nodupB, writeAll, dFor, iRg1, iRg2, iLst, iTpl, iStrD, gSet, gTuple, gMore, gEnd, dAsg, dMth, isStr, mkFn, isNone, intOf, DL.cutD, dLc, plainAt, tYesD, dSl11, settable_zero, settable_succ, np_none, np_fz, np_ow, np_sc, List.getElem?_cons_zero, List.getElem?_cons_succ, List.getElem?_nil, List.set_cons_zero, List.set_cons_succ, List.length_cons, List.length_nil, List.map_cons, List.map_nil, List.replicate_succ, List.replicate_zero, List.cons_append, List.nil_append, List.append_nil, List.take_succ_cons, List.take_zero, List.contains_cons, List.contains_nil, Nat.reduceAdd, Nat.reduceLeDiff, Nat.reduceEqDiff, reduceIte, Nat.zero_add, Bool.and_true, Bool.true_and, Bool.not_false, Bool.false_eq_true, decide_true, decide_false, Bool.not_true, beq_self_eq_true, Bool.or_false, Bool.false_or, Nat.reduceBEq, e1, e2, e3, lt, q3, q4, q5, lo, b1, t2, ix], hB, H3.mono (by omega)⟩
          have cs : spot = 0 ∨ spot = 1 ∨ spot = 2 := by omega
          rcases cs with rfl | rfl | rfl
          · exact fin _ rfl (big_lst XT (by omega))
          · exact fin _ rfl (big_tup (app XT (sgl oT)) (by simp; omega))
          · exact fin _ rfl (big_tup (tk 2) (by have := tkl 2; omega))
        · rw [decide_eq_false c6] at q5
          by_cases c7 : way = 6
          · rw [decide_eq_true c7] at q6
            have rv : semRev [.fz (.tuple X)] = some (.fz (.tuple X.reverse)) := rfl
            exact ⟨_, a3, c3, by (simp only [f_law_bent, b_law_bent, dSeq, dIfS, dTst, dOp, dOs, dVal, dSlot, dC, dVar, dIf, dAnd, dOr, dNot, dAndV, dOrV, dNotV, dTup, dLst, seeAll, see, valDatas, C.data, C.put, C.frozen, dSet, dSetIx, ownL, dMut, dRetV, dRet, dRetN, dExp, dNext, dPar, dPar3, iAny, iEnumD, iZipD, lstOf, dChain, dAug, dCall, passAll, passO, ownSlots, nodupB, writeAll, dFor, iRg1, iRg2, iLst, iTpl, iStrD, gSet, gTuple, gMore, gEnd, dAsg, dMth, isStr, mkFn, isNone, intOf, DL.cutD, dLc, plainAt, tYesD, dSl11, settable_zero, settable_succ, np_none, np_fz, np_ow, np_sc, List.getElem?_cons_zero, List.getElem?_cons_succ, List.getElem?_nil, List.set_cons_zero, List.set_cons_succ, List.length_cons, List.length_nil, List.map_cons, List.map_nil, List.replicate_succ, List.replicate_zero, List.cons_append, List.nil_append, List.append_nil, List.take_succ_cons, List.take_zero, List.contains_cons, List.contains_nil, Nat.reduceAdd, Nat.reduceLeDiff, Nat.reduceEqDiff, reduceIte, Nat.zero_add, Bool.and_true, Bool.true_and, Bool.not_false, Bool.false_eq_true, decide_true, decide_false, Bool.not_true, beq_self_eq_true, Bool.or_false, Bool.false_or, Nat.reduceBEq, e1, e2, e3, lt, q3, q4, q5, q6, rv]) <;> rfl, big_tup (fun d hd => XT d (List.mem_reverse.mp hd)) (by simp; omega), H3.mono (by omega)⟩
          · rw [decide_eq_false c7] at q6
            exact ⟨_, a3, c3, by (simp only [f_law_bent, b_law_bent, dSeq, dIfS, dTst, dOp, dOs, dVal, dSlot, dC, dVar, dIf, dAnd, dOr, dNot, dAndV, dOrV, dNotV, dTup, dLst, seeAll, see, valDatas, C.data, C.put, C.frozen, dSet, dSetIx, ownL, dMut, dRetV, dRet, dRetN, dExp, dNext, dPar, dPar3, iAny, iEnumD, iZipD, lstOf, dChain, dAug, dCall, passAll, passO, ownSlots, nodupB, writeAll, dFor, iRg1, iRg2, iLst, iTpl, iStrD, gSet, gTuple, gMore, gEnd, dAsg, dMth, isStr, mkFn, isNone, intOf, DL.cutD, dLc, plainAt, tYesD, dSl11, settable_zero, settable_succ, np_none, np_fz, np_ow, np_sc, List.getElem?_cons_zero, List.getElem?_cons_succ, List.getElem?_nil, List.set_cons_zero, List.set_cons_succ, List.length_cons, List.length_nil, List.map_cons, List.map_nil, List.replicate_succ, List.replicate_zero, List.cons_append, List.nil_append, List.append_nil, List.take_succ_cons, List.take_zero, List.contains_cons, List.contains_nil, Nat.reduceAdd, Nat.reduceLeDiff, Nat.reduceEqDiff, reduceIte, Nat.zero_add, Bool.and_true, Bool.true_and, Bool.not_false, Bool.false_eq_true, decide_true, decide_false, Bool.not_true, beq_self_eq_true, Bool.or_false, Bool.false_or, Nat.reduceBEq, e1, e2, e3, lt, q3, q4, q5, q6]) <;> rfl, oT.big, H3.mono (by omega)⟩
/-! the law's loops -/
theorem thing_ok {s : Nat} {l : List Nat} {e0 e1 e2 e4 e5 x7 x8 e9 : Option C} {d : PyData} (hd : Big d) (h7 : np x7 = true) (h8 : np x8 = true) :
    ∃ y7 y8, v1_law [e0, e1, e2, some (.fz (S (s :: l))), e4, e5, some (.fz d), x7, x8, e9] = some (.nx, [e0, e1, e2, some (.fz (S (s :: l))), e4, e5, some (.fz d), y7, y8, e9]) ∧ np y7 = true ∧ np y8 = true := by
  obtain ⟨o1, f1⟩ := is_pairD_ok d hd.shorts
  obtain ⟨o2, f2⟩ := law_is_pairD_ok d hd.shorts
  have rd := hd.repr
  have rb := repr_boolO (isPairD d)
  have n1 := semNe_str (PyData.bool (isPairD d)).shown
  have n2 := semNe_str d.shown
  cases hb : isPairD d with
  | false =>
    rw [hb] at f1 f2 rb n1
    exact ⟨_, _, by (simp only [v1_law, dSeq, dIfS, dTst, dOp, dOs, dVal, dSlot, dC, dVar, dIf, dAnd, dOr, dNot, dAndV, dOrV, dNotV, dTup, dLst, seeAll, see, valDatas, C.data, C.put, C.frozen, dSet, dSetIx, ownL, dMut, dRetV, dRet, dRetN, dExp, dNext, dPar, dPar3, iAny, iEnumD, iZipD, lstOf, dChain, dAug, dCall, passAll, passO, ownSlots, nodupB, writeAll, dFor, iRg1, iRg2, iLst, iTpl, iStrD, gSet, gTuple, gMore, gEnd, dAsg, dMth, isStr, mkFn, isNone, intOf, DL.cutD, dLc, plainAt, tYesD, dSl11, settable_zero, settable_succ, np_none, np_fz, np_ow, np_sc, List.getElem?_cons_zero, List.getElem?_cons_succ, List.getElem?_nil, List.set_cons_zero, List.set_cons_succ, List.length_cons, List.length_nil, List.map_cons, List.map_nil, List.replicate_succ, List.replicate_zero, List.cons_append, List.nil_append, List.append_nil, List.take_succ_cons, List.take_zero, List.contains_cons, List.contains_nil, Nat.reduceAdd, Nat.reduceLeDiff, Nat.reduceEqDiff, reduceIte, Nat.zero_add, Bool.and_true, Bool.true_and, Bool.not_false, Bool.false_eq_true, decide_true, decide_false, Bool.not_true, beq_self_eq_true, Bool.or_false, Bool.false_or, Nat.reduceBEq, rd, f2, h7, h8, f1, rb, n1, n2]) <;> rfl, rfl, rfl⟩
  | true =>
    rw [hb] at f1 f2 rb n1
    obtain ⟨p, rfl, hc⟩ := pair_form hb
    have few := hd.few _ rfl
    have l1 : p.1.length ≤ 300 := few (S p.1) (by simp) _ rfl
    have l2 : (tx p.2).length ≤ 300 := few (S (tx p.2)) (by simp) _ rfl
    have sw := some_words_ok (p := p) (s := s) (l := l) (by omega) (by omega)
    obtain ⟨q, po, sq, _⟩ := pairof_ok (ws := someW p s) (M := 602) (by cases he : p.2 <;> simp [someW, he]) (by decide) (some_len (M := 300) l1 l2)
    have qe : q = p := sq.one_pair (some_SP hc s)
    subst qe
    have ns := semNe_dp_same q
    exact ⟨_, _, by (simp only [v1_law, dSeq, dIfS, dTst, dOp, dOs, dVal, dSlot, dC, dVar, dIf, dAnd, dOr, dNot, dAndV, dOrV, dNotV, dTup, dLst, seeAll, see, valDatas, C.data, C.put, C.frozen, dSet, dSetIx, ownL, dMut, dRetV, dRet, dRetN, dExp, dNext, dPar, dPar3, iAny, iEnumD, iZipD, lstOf, dChain, dAug, dCall, passAll, passO, ownSlots, nodupB, writeAll, dFor, iRg1, iRg2, iLst, iTpl, iStrD, gSet, gTuple, gMore, gEnd, dAsg, dMth, isStr, mkFn, isNone, intOf, DL.cutD, dLc, plainAt, tYesD, dSl11, settable_zero, settable_succ, np_none, np_fz, np_ow, np_sc, List.getElem?_cons_zero, List.getElem?_cons_succ, List.getElem?_nil, List.set_cons_zero, List.set_cons_succ, List.length_cons, List.length_nil, List.map_cons, List.map_nil, List.replicate_succ, List.replicate_zero, List.cons_append, List.nil_append, List.append_nil, List.take_succ_cons, List.take_zero, List.contains_cons, List.contains_nil, Nat.reduceAdd, Nat.reduceLeDiff, Nat.reduceEqDiff, reduceIte, Nat.zero_add, Bool.and_true, Bool.true_and, Bool.not_false, Bool.false_eq_true, decide_true, decide_false, Bool.not_true, beq_self_eq_true, Bool.or_false, Bool.false_or, Nat.reduceBEq, rd, f2, h7, h8, f1, rb, n1, n2, sw, po, ns]) <;> rfl, rfl, rfl⟩
structure Fine (p : Pr) : Prop where
  can : canE p.2
  sgn : sgP p
  siz : szP p ≤ 160
theorem Fine.big {p : Pr} (h : Fine p) : Big (dp p) := by
  have xl : (tx p.2).length ≤ szE p.2 := by cases p.2 <;> simp [tx, szE]
  have kl : (kd p.2).length ≤ 5 := by cases p.2 <;> simp [kd]
  have ex : szP p = p.1.length + szE p.2 := rfl
  have hz := h.siz
  exact big_tup (fun d hd => by
    simp only [List.mem_cons, List.not_mem_nil, or_false] at hd
    rcases hd with rfl | rfl | rfl
    · exact th_sg h.sgn.1 (by omega)
    · exact th_sg (kd_sg _) (by omega)
    · exact th_sg h.sgn.2 (by omega)) (by simp)
theorem pl_np {x : Option C} (h : x = none ∨ ∃ d, x = some (.fz d)) : np x = true := by
  rcases h with rfl | ⟨d, rfl⟩ <;> rfl
theorem cell_ok {ns : List Int} {k : Nat} {x2 x3 x4 x5 x6 x7 x8 x9 : Option C} (hk : k < 1000) (h2 : np x2 = true) (h3 : np x3 = true) (h4 : np x4 = true) (h5 : np x5 = true) (h6 : np x6 = true) (h7 : np x7 = true) (h8 : np x8 = true) (h9 : x9 = none ∨ ∃ d, x9 = some (.fz d)) :
    ∃ y2 y3 y4 y5 y6 y7 y8, v3_law [some (.sc ns), some (.fz (.int (k : Int))), x2, x3, x4, x5, x6, x7, x8, x9] = some (.nx, [some (.sc ns), some (.fz (.int (k : Int))), y2, y3, y4, y5, y6, y7, y8, x9]) ∧ np y2 = true ∧ np y3 = true ∧ np y4 = true ∧ np y5 = true ∧ np y6 = true ∧ np y7 = true ∧ np y8 = true := by
  obtain ⟨a, b, e1, H⟩ := hand_ok ns k hk
  obtain ⟨l, a1, c1, e2, lne, l3, lc, H1⟩ := signs_ok H (by omega)
  cases l with
  | nil => exact absurd rfl lne
  | cons s l =>
    have hs : ∀ x ∈ s :: l, x < 128 := fun x hx => by have := lc x hx; omega
    obtain ⟨ys, a2, c2, e3, yl, yg, H2⟩ := lcL_draw (vs := [9]) (g := gSet 9) (f := e1_law) (b := b) (fun a c => [some (.sc ns), some (.fz (.int (k : Int))), some (.ow (hand a b c)), some (.fz (S (s :: l))), x4, x5, x6, x7, x8, x9]) 200 60000000000 (fun _ => True) (fun y => ∃ p, y = dp p ∧ Fine p) (fun a c n d h hn _ => by
      obtain ⟨ws, a', c', f1, w1, w2, w3, h'⟩ := words_al h (by omega) (by simp) l3
      obtain ⟨p, o, f2, sp, sz⟩ := due_ok w1 (by omega) (M := 40) (by decide) (fun w hw => (w3 w hw).1) (.ow (.list (ws.map S))) (.inr rfl)
      have fine : Fine p := ⟨sp.can, sp.sg fun w hw x hx => by have := lc x ((w3 w hw).2 x hx); omega, sz⟩
      refine ⟨_, dp p, a', c', _, by (simp only [gSet, wipeE, dSeq, dIfS, dTst, dOp, dOs, dVal, dSlot, dC, dVar, dIf, dAnd, dOr, dNot, dAndV, dOrV, dNotV, dTup, dLst, seeAll, see, valDatas, C.data, C.put, C.frozen, dSet, settable, dSetIx, ownL, dMut, dRetV, dRet, dRetN, dExp, dNext, dPar, dPar3, iAny, iEnumD, iZipD, lstOf, dChain, dAug, dCall, passAll, passO, ownSlots, nodupB, writeAll, dFor, iRg1, iRg2, iLst, iTpl, iStrD, gSet, gTuple, gMore, gEnd, dAsg, dMth, isStr, mkFn, isNone, intOf, DL.cutD, dLc, plainAt, tYesD, dSl11, List.getElem?_cons_zero, List.getElem?_cons_succ, List.getElem?_nil, List.set_cons_zero, List.set_cons_succ, List.length_cons, List.length_nil, List.map_cons, List.map_nil, List.replicate_succ, List.replicate_zero, List.cons_append, List.nil_append, List.append_nil, List.take_succ_cons, List.take_zero, List.contains_cons, List.contains_nil, Nat.reduceAdd, Nat.reduceLeDiff, Nat.reduceEqDiff, reduceIte, Nat.zero_add, Bool.and_true, Bool.true_and, Bool.not_false, Bool.false_eq_true, decide_true, decide_false, Bool.not_true, beq_self_eq_true, Bool.or_false, Bool.false_or, Nat.reduceBEq]) <;> rfl, by (simp only [e1_law, dSeq, dIfS, dTst, dOp, dOs, dVal, dSlot, dC, dVar, dIf, dAnd, dOr, dNot, dAndV, dOrV, dNotV, dTup, dLst, seeAll, see, valDatas, C.data, C.put, C.frozen, dSet, settable, dSetIx, ownL, dMut, dRetV, dRet, dRetN, dExp, dNext, dPar, dPar3, iAny, iEnumD, iZipD, lstOf, dChain, dAug, dCall, passAll, passO, ownSlots, nodupB, writeAll, dFor, iRg1, iRg2, iLst, iTpl, iStrD, gSet, gTuple, gMore, gEnd, dAsg, dMth, isStr, mkFn, isNone, intOf, DL.cutD, dLc, plainAt, tYesD, dSl11, List.getElem?_cons_zero, List.getElem?_cons_succ, List.getElem?_nil, List.set_cons_zero, List.set_cons_succ, List.length_cons, List.length_nil, List.map_cons, List.map_nil, List.replicate_succ, List.replicate_zero, List.cons_append, List.nil_append, List.append_nil, List.take_succ_cons, List.take_zero, List.contains_cons, List.contains_nil, Nat.reduceAdd, Nat.reduceLeDiff, Nat.reduceEqDiff, reduceIte, Nat.zero_add, Bool.and_true, Bool.true_and, Bool.not_false, Bool.false_eq_true, decide_true, decide_false, Bool.not_true, beq_self_eq_true, Bool.or_false, Bool.false_or, Nat.reduceBEq, f1, f2]) <;> rfl, ⟨p, rfl, fine⟩, ?_, h'⟩
      simp only [backE, dSeq, dIfS, dTst, dOp, dOs, dVal, dSlot, dC, dVar, dIf, dAnd, dOr, dNot, dAndV, dOrV, dNotV, dTup, dLst, seeAll, see, valDatas, C.data, C.put, C.frozen, dSet, settable, dSetIx, ownL, dMut, dRetV, dRet, dRetN, dExp, dNext, dPar, dPar3, iAny, iEnumD, iZipD, lstOf, dChain, dAug, dCall, passAll, passO, ownSlots, nodupB, writeAll, dFor, iRg1, iRg2, iLst, iTpl, iStrD, gSet, gTuple, gMore, gEnd, dAsg, dMth, isStr, mkFn, isNone, intOf, DL.cutD, dLc, plainAt, tYesD, dSl11, List.getElem?_cons_zero, List.getElem?_cons_succ, List.getElem?_nil, List.set_cons_zero, List.set_cons_succ, List.length_cons, List.length_nil, List.map_cons, List.map_nil, List.replicate_succ, List.replicate_zero, List.cons_append, List.nil_append, List.append_nil, List.take_succ_cons, List.take_zero, List.contains_cons, List.contains_nil, Nat.reduceAdd, Nat.reduceLeDiff, Nat.reduceEqDiff, reduceIte, Nat.zero_add, Bool.and_true, Bool.true_and, Bool.not_false, Bool.false_eq_true, decide_true, decide_false, Bool.not_true, beq_self_eq_true, Bool.or_false, Bool.false_or, Nat.reduceBEq]) (intsD 0 8) [] a1 c1 1 (by simp) H1 (by rw [intsD_len]; decide) (by rw [intsD_len]; decide)
    rw [intsD_len] at yl H2
    rw [List.nil_append] at e3
    obtain ⟨e, lp, xs, a3, c3, y5, rfl, xb, xl, hy5, H3⟩ := forL_list (g := gSet 5) (body := v2_law) (fun pre env => ∃ (xs : List PyData) (a c : Int) (y5 : Option C), env = [some (.sc ns), some (.fz (.int (k : Int))), some (.ow (hand a b c)), some (.fz (S (s :: l))), some (.ow (.list xs)), y5, x6, x7, x8, x9] ∧ (∀ d ∈ xs, Big d) ∧ xs.length = 8 + 3 * pre.length ∧ np y5 = true ∧ Hd a b c (1 + 8 * 200 + 200 * pre.length)) ys [] (by
      rintro pre d env ⟨xs, a, c, y5, rfl, xb, xl, hy, h⟩ ⟨r, hr⟩
      rw [List.nil_append] at hr
      have pl : pre.length < 8 := by
        have := congrArg List.length hr
        rw [yl] at this
        simp at this
        omega
      obtain ⟨p, rfl, fine⟩ := yg d (by rw [hr]; simp)
      obtain ⟨d1, a', c', f1, b1, h1⟩ := bentP_ok (p := p) h (by omega) l3 hs fine.sgn fine.siz
      obtain ⟨d2, a'', c'', f2, b2, h2⟩ := bentP_ok (p := p) h1 (by omega) l3 hs fine.sgn fine.siz
      obtain ⟨d3, a3, c3, f3, b3, h3⟩ := odd_ok h2 (by omega) l3 hs
      have ap : ∀ (zs : List PyData) (z : PyData), zs.length ≤ 100 → upAppend zs [z] = some (zs ++ [z], .none) := fun zs z hz => by
        simp only [upAppend]
        rw [if_pos (fits_of (by omega))]
      have q1 := ap xs d1 (by omega)
      have q2 := ap (xs ++ [d1]) d2 (by simp; omega)
      have q3 := ap (xs ++ [d1] ++ [d2]) d3 (by simp; omega)
      refine ⟨[some (.sc ns), some (.fz (.int (k : Int))), some (.ow (hand a b c)), some (.fz (S (s :: l))), some (.ow (.list xs)), some (.fz (dp p)), x6, x7, x8, x9], _, by simp only [dSeq, dIfS, dTst, dOp, dOs, dVal, dSlot, dC, dVar, dIf, dAnd, dOr, dNot, dAndV, dOrV, dNotV, dTup, dLst, seeAll, see, valDatas, C.data, C.put, C.frozen, dSet, dSetIx, ownL, dMut, dRetV, dRet, dRetN, dExp, dNext, dPar, dPar3, iAny, iEnumD, iZipD, lstOf, dChain, dAug, dCall, passAll, passO, ownSlots, nodupB, writeAll, dFor, iRg1, iRg2, iLst, iTpl, iStrD, gSet, gTuple, gMore, gEnd, dAsg, dMth, isStr, mkFn, isNone, intOf, DL.cutD, dLc, plainAt, tYesD, dSl11, settable_zero, settable_succ, np_none, np_fz, np_ow, np_sc, List.getElem?_cons_zero, List.getElem?_cons_succ, List.getElem?_nil, List.set_cons_zero, List.set_cons_succ, List.length_cons, List.length_nil, List.map_cons, List.map_nil, List.replicate_succ, List.replicate_zero, List.cons_append, List.nil_append, List.append_nil, List.take_succ_cons, List.take_zero, List.contains_cons, List.contains_nil, Nat.reduceAdd, Nat.reduceLeDiff, Nat.reduceEqDiff, reduceIte, Nat.zero_add, Bool.and_true, Bool.true_and, Bool.not_false, Bool.false_eq_true, decide_true, decide_false, Bool.not_true, beq_self_eq_true, Bool.or_false, Bool.false_or, Nat.reduceBEq, hy], by (simp only [v2_law, dSeq, dIfS, dTst, dOp, dOs, dVal, dSlot, dC, dVar, dIf, dAnd, dOr, dNot, dAndV, dOrV, dNotV, dTup, dLst, seeAll, see, valDatas, C.data, C.put, C.frozen, dSet, dSetIx, ownL, dMut, dRetV, dRet, dRetN, dExp, dNext, dPar, dPar3, iAny, iEnumD, iZipD, lstOf, dChain, dAug, dCall, passAll, passO, ownSlots, nodupB, writeAll, dFor, iRg1, iRg2, iLst, iTpl, iStrD, gSet, gTuple, gMore, gEnd, dAsg, dMth, isStr, mkFn, isNone, intOf, DL.cutD, dLc, plainAt, tYesD, dSl11, settable_zero, settable_succ, np_none, np_fz, np_ow, np_sc, List.getElem?_cons_zero, List.getElem?_cons_succ, List.getElem?_nil, List.set_cons_zero, List.set_cons_succ, List.length_cons, List.length_nil, List.map_cons, List.map_nil, List.replicate_succ, List.replicate_zero, List.cons_append, List.nil_append, List.append_nil, List.take_succ_cons, List.take_zero, List.contains_cons, List.contains_nil, Nat.reduceAdd, Nat.reduceLeDiff, Nat.reduceEqDiff, reduceIte, Nat.zero_add, Bool.and_true, Bool.true_and, Bool.not_false, Bool.false_eq_true, decide_true, decide_false, Bool.not_true, beq_self_eq_true, Bool.or_false, Bool.false_or, Nat.reduceBEq, f1, q1, f2, q2, f3, q3]) <;> rfl, xs ++ [d1] ++ [d2] ++ [d3], a3, c3, _, rfl, fun z hz => ?_, ?_, rfl, h3.mono (by simp; omega)⟩
      · simp only [List.mem_append, List.mem_singleton] at hz
        rcases hz with ((hz | rfl) | rfl) | rfl
        · exact xb z hz
        · exact b1
        · exact b2
        · exact b3.big
      · simp; omega) [some (.sc ns), some (.fz (.int (k : Int))), some (.ow (hand a2 b c2)), some (.fz (S (s :: l))), some (.ow (.list ys)), x5, x6, x7, x8, x9] ⟨ys, a2, c2, x5, rfl, fun d hd => by
        obtain ⟨p, rfl, fine⟩ := yg d hd
        exact fine.big, by simp [yl], h5, H2.mono (by simp)⟩
    rw [List.nil_append, yl] at xl
    have ad := addL xs [dp ([], .all), dp ([], .word []), .tuple [S [], S [114, 111, 117, 110, 100], S []]] (by simp; omega)
    have three : ∀ d ∈ xs ++ [dp ([], .all), dp ([], .word []), .tuple [S [], S [114, 111, 117, 110, 100], S []]], Big d := fun d hd => by
      rcases List.mem_append.mp hd with hd | hd
      · exact xb d hd
      · simp only [List.mem_cons, List.not_mem_nil, or_false] at hd
        rcases hd with rfl | rfl | rfl
        · exact Fine.big ⟨trivial, ⟨sg.nil, sg.nil⟩, by decide⟩
        · exact Fine.big ⟨trivial, ⟨sg.nil, sg.nil⟩, by decide⟩
        · exact big_tup (fun d hd => by
            simp only [List.mem_cons, List.not_mem_nil, or_false] at hd
            rcases hd with rfl | rfl | rfl <;> exact (th_S (k := 5) (by decide) (by decide)).mono (by decide) (by decide)) (by simp)
    obtain ⟨e, lq, y6, y7, y8, rfl, g6, g7, g8⟩ := forL_nx (g := gSet 6) (body := v1_law) (fun env => ∃ y6 y7 y8, env = [some (.sc ns), some (.fz (.int (k : Int))), some (.ow (hand a3 b c3)), some (.fz (S (s :: l))), some (.ow (.list xs)), y5, y6, y7, y8, x9] ∧ np y6 = true ∧ np y7 = true ∧ np y8 = true) (xs ++ [dp ([], .all), dp ([], .word []), .tuple [S [], S [114, 111, 117, 110, 100], S []]]) (by
      rintro d hd env ⟨y6, y7, y8, rfl, g6, g7, g8⟩
      obtain ⟨z7, z8, t1, t2, t3⟩ := thing_ok (s := s) (l := l) (e0 := some (.sc ns)) (e1 := some (.fz (.int (k : Int)))) (e2 := some (.ow (hand a3 b c3))) (e4 := some (.ow (.list xs))) (e5 := y5) (e9 := x9) (three d hd) g7 g8
      exact ⟨[some (.sc ns), some (.fz (.int (k : Int))), some (.ow (hand a3 b c3)), some (.fz (S (s :: l))), some (.ow (.list xs)), y5, some (.fz d), y7, y8, x9], _, by simp only [dSeq, dIfS, dTst, dOp, dOs, dVal, dSlot, dC, dVar, dIf, dAnd, dOr, dNot, dAndV, dOrV, dNotV, dTup, dLst, seeAll, see, valDatas, C.data, C.put, C.frozen, dSet, dSetIx, ownL, dMut, dRetV, dRet, dRetN, dExp, dNext, dPar, dPar3, iAny, iEnumD, iZipD, lstOf, dChain, dAug, dCall, passAll, passO, ownSlots, nodupB, writeAll, dFor, iRg1, iRg2, iLst, iTpl, iStrD, gSet, gTuple, gMore, gEnd, dAsg, dMth, isStr, mkFn, isNone, intOf, DL.cutD, dLc, plainAt, tYesD, dSl11, settable_zero, settable_succ, np_none, np_fz, np_ow, np_sc, List.getElem?_cons_zero, List.getElem?_cons_succ, List.getElem?_nil, List.set_cons_zero, List.set_cons_succ, List.length_cons, List.length_nil, List.map_cons, List.map_nil, List.replicate_succ, List.replicate_zero, List.cons_append, List.nil_append, List.append_nil, List.take_succ_cons, List.take_zero, List.contains_cons, List.contains_nil, Nat.reduceAdd, Nat.reduceLeDiff, Nat.reduceEqDiff, reduceIte, Nat.zero_add, Bool.and_true, Bool.true_and, Bool.not_false, Bool.false_eq_true, decide_true, decide_false, Bool.not_true, beq_self_eq_true, Bool.or_false, Bool.false_or, Nat.reduceBEq, g6], t1, _, z7, z8, rfl, rfl, t2, t3⟩) _ ⟨x6, x7, x8, rfl, h6, h7, h8⟩
    have bb : fits (-4611686018427387904 ≤ (8 : Int) ∧ (8 : Int) < 4611686018427387904) = true := fits_of (by omega)
    have tn : (8 : Int).toNat = 8 := rfl
    have lo : semListOf [.ow (.list ys)] = some (.ow (.list ys)) := rfl
    simp only [dp, kd_all, kd_word, kd_round, tx_all, tx_word, tx_round] at ad lq
    refine ⟨some (.ow (hand a3 b c3)), some (.fz (S (s :: l))), some (.ow (.list xs)), y5, y6, y7, y8, ?_, rfl, rfl, rfl, hy5, g6, g7, g8⟩
    rcases h9 with rfl | ⟨d9, rfl⟩ <;> simp only [v3_law, dSeq, dIfS, dTst, dOp, dOs, dVal, dSlot, dC, dVar, dIf, dAnd, dOr, dNot, dAndV, dOrV, dNotV, dTup, dLst, seeAll, see, valDatas, C.data, C.put, C.frozen, dSet, dSetIx, ownL, dMut, dRetV, dRet, dRetN, dExp, dNext, dPar, dPar3, iAny, iEnumD, iZipD, lstOf, dChain, dAug, dCall, passAll, passO, ownSlots, nodupB, writeAll, dFor, iRg1, iRg2, iLst, iTpl, iStrD, gSet, gTuple, gMore, gEnd, dAsg, dMth, isStr, mkFn, isNone, intOf, DL.cutD, dLc, plainAt, tYesD, dSl11, settable_zero, settable_succ, np_none, np_fz, np_ow, np_sc, List.getElem?_cons_zero, List.getElem?_cons_succ, List.getElem?_nil, List.set_cons_zero, List.set_cons_succ, List.length_cons, List.length_nil, List.map_cons, List.map_nil, List.replicate_succ, List.replicate_zero, List.cons_append, List.nil_append, List.append_nil, List.take_succ_cons, List.take_zero, List.contains_cons, List.contains_nil, Nat.reduceAdd, Nat.reduceLeDiff, Nat.reduceEqDiff, reduceIte, Nat.zero_add, Bool.and_true, Bool.true_and, Bool.not_false, Bool.false_eq_true, decide_true, decide_false, Bool.not_true, beq_self_eq_true, Bool.or_false, Bool.false_or, Nat.reduceBEq, h2, e1, h3, e2, bb, tn, e3, h4, lo, lp, ad, lq]
theorem law_true (ns : List Int) : ∃ outs, f_law [.sc ns] = some (.fz (.bool true), outs) := by
  obtain ⟨m, hm⟩ : ∃ m : Nat, m = max 1 (min 4 ns.length) := ⟨_, rfl⟩
  obtain ⟨e, f1, y1, y2, y3, y4, y5, y6, y7, y8, rfl, _⟩ := forL_range (g := gSet 1) (body := v3_law) (lo := 0) (fun j env => ∃ (y1 y2 y3 y4 y5 y6 y7 y8 : Option C), env = [some (.sc ns), y1, y2, y3, y4, y5, y6, y7, y8, none] ∧ np y1 = true ∧ np y2 = true ∧ np y3 = true ∧ np y4 = true ∧ np y5 = true ∧ np y6 = true ∧ np y7 = true ∧ np y8 = true) m (by
    rintro j env hj ⟨y1, y2, y3, y4, y5, y6, y7, y8, rfl, g1, g2, g3, g4, g5, g6, g7, g8⟩
    obtain ⟨z2, z3, z4, z5, z6, z7, z8, t1, t2, t3, t4, t5, t6, t7, t8⟩ := cell_ok (ns := ns) (k := j) (by omega) g2 g3 g4 g5 g6 g7 g8 (.inl rfl)
    exact ⟨[some (.sc ns), some (.fz (.int (j : Int))), y2, y3, y4, y5, y6, y7, y8, none], _, by (simp only [dSeq, dIfS, dTst, dOp, dOs, dVal, dSlot, dC, dVar, dIf, dAnd, dOr, dNot, dAndV, dOrV, dNotV, dTup, dLst, seeAll, see, valDatas, C.data, C.put, C.frozen, dSet, dSetIx, ownL, dMut, dRetV, dRet, dRetN, dExp, dNext, dPar, dPar3, iAny, iEnumD, iZipD, lstOf, dChain, dAug, dCall, passAll, passO, ownSlots, nodupB, writeAll, dFor, iRg1, iRg2, iLst, iTpl, iStrD, gSet, gTuple, gMore, gEnd, dAsg, dMth, isStr, mkFn, isNone, intOf, DL.cutD, dLc, plainAt, tYesD, dSl11, settable_zero, settable_succ, np_none, np_fz, np_ow, np_sc, List.getElem?_cons_zero, List.getElem?_cons_succ, List.getElem?_nil, List.set_cons_zero, List.set_cons_succ, List.length_cons, List.length_nil, List.map_cons, List.map_nil, List.replicate_succ, List.replicate_zero, List.cons_append, List.nil_append, List.append_nil, List.take_succ_cons, List.take_zero, List.contains_cons, List.contains_nil, Nat.reduceAdd, Nat.reduceLeDiff, Nat.reduceEqDiff, reduceIte, Nat.zero_add, Bool.and_true, Bool.true_and, Bool.not_false, Bool.false_eq_true, decide_true, decide_false, Bool.not_true, beq_self_eq_true, Bool.or_false, Bool.false_or, Nat.reduceBEq, g1, Int.zero_add]) <;> rfl, t1, _, z2, z3, z4, z5, z6, z7, z8, rfl, rfl, t2, t3, t4, t5, t6, t7, t8⟩) [some (.sc ns), none, none, none, none, none, none, none, none, none] ⟨_, _, _, _, _, _, _, _, rfl, rfl, rfl, rfl, rfl, rfl, rfl, rfl, rfl⟩
  have ln : semLen [.sc ns] = some (.fz (.int (ns.length : Int))) := rfl
  have mn : semMin2 [.fz (.int 4), .fz (.int (ns.length : Int))] = some (.fz (.int ((min 4 ns.length : Nat) : Int))) := semMin2_nat 4 ns.length
  have mx : semMax2 [.fz (.int 1), .fz (.int ((min 4 ns.length : Nat) : Int))] = some (.fz (.int (m : Int))) := by
    rw [hm]
    exact semMax2_nat 1 _
  have bb : fits (-4611686018427387904 ≤ (m : Int) ∧ (m : Int) < 4611686018427387904) = true := fits_of (by omega)
  have tn : (m : Int).toNat = m := Int.toNat_natCast _
  exact ⟨_, by (simp only [f_law, b_law, dSeq, dIfS, dTst, dOp, dOs, dVal, dSlot, dC, dVar, dIf, dAnd, dOr, dNot, dAndV, dOrV, dNotV, dTup, dLst, seeAll, see, valDatas, C.data, C.put, C.frozen, dSet, dSetIx, ownL, dMut, dRetV, dRet, dRetN, dExp, dNext, dPar, dPar3, iAny, iEnumD, iZipD, lstOf, dChain, dAug, dCall, passAll, passO, ownSlots, nodupB, writeAll, dFor, iRg1, iRg2, iLst, iTpl, iStrD, gSet, gTuple, gMore, gEnd, dAsg, dMth, isStr, mkFn, isNone, intOf, DL.cutD, dLc, plainAt, tYesD, dSl11, settable_zero, settable_succ, np_none, np_fz, np_ow, np_sc, List.getElem?_cons_zero, List.getElem?_cons_succ, List.getElem?_nil, List.set_cons_zero, List.set_cons_succ, List.length_cons, List.length_nil, List.map_cons, List.map_nil, List.replicate_succ, List.replicate_zero, List.cons_append, List.nil_append, List.append_nil, List.take_succ_cons, List.take_zero, List.contains_cons, List.contains_nil, Nat.reduceAdd, Nat.reduceLeDiff, Nat.reduceEqDiff, reduceIte, Nat.zero_add, Bool.and_true, Bool.true_and, Bool.not_false, Bool.false_eq_true, decide_true, decide_false, Bool.not_true, beq_self_eq_true, Bool.or_false, Bool.false_or, Nat.reduceBEq, ln, mn, mx, bb, tn, f1]) <;> rfl⟩
open PySem.Spec PyProof.Rows in
theorem fin {K H a} {ns : List Int} {E} (hl : ns.length ≤ 63) (hb : ∀ z ∈ ns, Builtin.Int.intBits z ≤ 1048576) (hO : Only H) (hS : SqL K H a (ns.map V.int)) : spD K 1 f_law [.ref a] H (fun v _ => v = .bl true) E := by
  obtain ⟨outs, h⟩ := law_true ns
  exact spD_law h hO hS
end LW
set_option Elab.async false
set_option linter.all false
set_option maxRecDepth 100000
set_option maxHeartbeats 4000000
open PySem PySem.W PyProof.Rows
set_option maxHeartbeats 0 in
theorem PySem.Challenge.cw_nothingheld_k05_pairs_of_anything_holds : PySem.Challenge.rw_nothingheld_k05_pairs_of_anything.Holds := by
  w_on; o_law; k_head; (case hw => w_witness2)
  k_fill
  refine DL.walk_ofG (l := PySem.Challenge.rw_nothingheld_k05_pairs_of_anything) (n := 63) (k := 7) (x := "_law_script") (sp := fun w => DL.spD _ 1 LW.f_law) rfl (by decide) rfl ⟨⟨rfl, by decide, by decide⟩, rfl⟩ (fun w h Y => PySem.W.kIn_of Y) ?F (fun _ _ a ns hl hb hO hS => LW.fin hl hb hO hS)
  case F =>
    intro w mg fa h KX G hmg
    refine' LW.all_mk KX G hmg ?a0 ?l0 ?c0 ?k0 ?a1 ?l1 ?c1 ?k1 ?a2 ?l2 ?c2 ?k2 ?a3 ?l3 ?c3 ?k3 ?a4 ?l4 ?c4 ?k4 ?a5 ?l5 ?c5 ?k5 ?a6 ?l6 ?c6 ?k6 ?a7 ?l7 ?c7 ?k7 ?a8 ?l8 ?c8 ?k8 ?a9 ?l9 ?c9 ?k9 ?a10 ?l10 ?c10 ?k10 ?a11 ?l11 ?c11 ?k11 ?a12 ?l12 ?c12 ?k12 ?a13 ?l13 ?c13 ?k13 ?a14 ?l14 ?c14 ?k14 ?a15 ?l15 ?c15 ?k15 ?a16 ?l16 ?c16 ?k16 ?a17 ?l17 ?c17 ?k17 ?a18 ?l18 ?c18 ?k18 ?a19 ?l19 ?c19 ?k19 ?a20 ?l20 ?c20 ?k20 ?a21 ?l21 ?c21 ?k21 ?a22 ?l22 ?c22 ?k22 ?a23 ?l23 ?c23 ?k23 ?a24 ?l24 ?c24 ?k24 ?a25 ?l25 ?c25 ?k25 ?a26 ?l26 ?c26 ?k26 ?a27 ?l27 ?c27 ?k27 ?a28 ?l28 ?c28 ?k28 ?c_WORD ?c_ROUND ?c_ALL ?c_MANY_PARTS ?c_PARTED ?d_PARTED ?y_all ?y_isinstance ?y_str ?y_len ?y_range ?y_int ?y_tuple ?y_abs ?y_min ?y_max ?y_sorted ?y_set ?y_list ?y_repr
    (case a0 => k_is); (case l0 => k_is); (case c0 => k_is); (case k0 => k_is); (case a1 => k_is); (case l1 => k_is); (case c1 => k_is); (case k1 => k_is); (case a2 => k_is); (case l2 => k_is); (case c2 => k_is); (case k2 => k_is); (case a3 => k_is); (case l3 => k_is); (case c3 => k_is); (case k3 => k_is); (case a4 => k_is); (case l4 => k_is); (case c4 => k_is); (case k4 => k_is); (case a5 => k_is); (case l5 => k_is); (case c5 => k_is); (case k5 => k_is); (case a6 => k_is); (case l6 => k_is); (case c6 => k_is); (case k6 => k_is); (case a7 => k_is); (case l7 => k_is); (case c7 => k_is); (case k7 => k_is); (case a8 => k_is); (case l8 => k_is); (case c8 => k_is); (case k8 => k_is); (case a9 => k_is); (case l9 => k_is); (case c9 => k_is); (case k9 => k_is); (case a10 => k_is); (case l10 => k_is); (case c10 => k_is); (case k10 => k_is); (case a11 => k_is); (case l11 => k_is); (case c11 => k_is); (case k11 => k_is); (case a12 => k_is); (case l12 => k_is); (case c12 => k_is); (case k12 => k_is); (case a13 => k_is); (case l13 => k_is); (case c13 => k_is); (case k13 => k_is); (case a14 => k_is); (case l14 => k_is); (case c14 => k_is); (case k14 => k_is); (case a15 => k_is); (case l15 => k_is); (case c15 => k_is); (case k15 => k_is); (case a16 => k_is); (case l16 => k_is); (case c16 => k_is); (case k16 => k_is); (case a17 => k_is); (case l17 => k_is); (case c17 => k_is); (case k17 => k_is); (case a18 => k_is); (case l18 => k_is); (case c18 => k_is); (case k18 => k_is); (case a19 => k_is); (case l19 => k_is); (case c19 => k_is); (case k19 => k_is); (case a20 => k_is); (case l20 => k_is); (case c20 => k_is); (case k20 => k_is); (case a21 => k_is); (case l21 => k_is); (case c21 => k_is); (case k21 => k_is); (case a22 => k_is); (case l22 => k_is); (case c22 => k_is); (case k22 => k_is); (case a23 => k_is); (case l23 => k_is); (case c23 => k_is); (case k23 => k_is); (case a24 => k_is); (case l24 => k_is); (case c24 => k_is); (case k24 => k_is); (case a25 => k_is); (case l25 => k_is); (case c25 => k_is); (case k25 => k_is); (case a26 => k_is); (case l26 => k_is); (case c26 => k_is); (case k26 => k_is); (case a27 => k_is); (case l27 => k_is); (case c27 => k_is); (case k27 => k_is); (case a28 => k_is); (case l28 => k_is); (case c28 => k_is); (case k28 => k_is); (case c_WORD => k_is); (case c_ROUND => k_is); (case c_ALL => k_is); (case c_MANY_PARTS => k_is); (case c_PARTED => k_is); (case d_PARTED => k_is); (case y_all => k_is); (case y_isinstance => k_is); (case y_str => k_is); (case y_len => k_is); (case y_range => k_is); (case y_int => k_is); (case y_tuple => k_is); (case y_abs => k_is); (case y_min => k_is); (case y_max => k_is); (case y_sorted => k_is); (case y_set => k_is); (case y_list => k_is); (case y_repr => k_is)
