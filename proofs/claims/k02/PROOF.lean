import PyProof.Rows.All
import Wide.All
import OpenK.AllK
import Wide.FinOn
import HandS.ForMost
import HandS.Exc
import HandS.TryOnly
import HandS.WordsExc
import HandS.Walk
import HandS.Flow
import HandS.Style
import HandS.TupAny
import HandS.Lambda
import KE.GoesEnum
import HandS.AnyAll
import HandS.EndOwn
import HandS.SortInts
import HandS.HeadHook4
import HandS.HeadWalk
import KE.KStateDown
import HandS.Head0
import HandS.Head1
import HandS.Head2
import HandS.SortKw
import KE.DatumOrd
import KE.GoesZip
import KE.GoesMore
import HandS.Zip
import HandS.TupSets
import HandS.Conv
import KE.KDictPairs
import PyProof.TupleOfSeq
import PySem.Challenge.RW_nimstack_k02_taking_and_codes
set_option Elab.async false
set_option linter.all false
set_option maxRecDepth 100000
/-! DL0: values as trees of data over the hand layer; mutable things are boxes. -/
namespace DL
open PySem PySem.Spec PyProof.Rows L2

/-- a value with all that is never written inside it -/
inductive D where
  | non | bl (b : Bool) | int (i : Int) | str (x : Str) | lst (xs : List D) | tup (xs : List D) | ref (a : Addr) | ty (n : String)
  /-- an object of which φ is known -/
  | obj (φ : Addr → Hp → Prop)
  /-- a list, a tuple of the text or of the caller's, never written -/
  | rol (xs : List D) | rot (xs : List D)

/-- what stands at an address that may be written -/
inductive Box where
  | lst (xs : List D) | dK (kvs : List (Key × D)) | dT (kvs : List (List Key × D)) | ins (C : Addr) (fs : List (Str × D)) | tab
  | ext (φ : Heap → Prop)
  /-- the table of a def's code objects, all of the name q -/
  | tabQ (q : Str)
  /-- a dict while a loop walks it -/
  | lk (o : Obj) (ws : List (Key × V)) (kvs : List (Key × D))

abbrev Bx := Addr → Option Box
def put (B : Bx) (a : Addr) (b : Box) : Bx := fun c => if c = a then some b else B c
def era (B : Bx) (a : Addr) : Bx := fun c => if c = a then none else B c
theorem put_same {B : Bx} {a : Addr} {b : Box} : put B a b a = some b := by unfold put; rw [if_pos rfl]
theorem put_ne {B : Bx} {a c : Addr} {b : Box} (h : c ≠ a) : put B a b c = B c := by unfold put; rw [if_neg h]
theorem put_put {B : Bx} {a : Addr} {b c : Box} : put (put B a b) a c = put B a c := by
  funext x; unfold put; split <;> rfl
theorem era_same {B : Bx} {a : Addr} : era B a a = none := by unfold era; rw [if_pos rfl]
theorem era_ne {B : Bx} {a c : Addr} (h : c ≠ a) : era B a c = B c := by unfold era; rw [if_neg h]
theorem era_put {B : Bx} {a : Addr} {b : Box} (h : B a = none) : era (put B a b) a = B := by
  funext x; unfold era put; split
  · rename_i e; rw [e, h]
  · rfl
/-- fewer boxes -/
def Few (B B' : Bx) : Prop := ∀ a b, B a = some b → B' a = some b
theorem Few.refl (B : Bx) : Few B B := fun _ _ h => h
theorem Few.trans {A B C : Bx} (h : Few A B) (k : Few B C) : Few A C := fun a b e => k a b (h a b e)
theorem Few.put {B : Bx} {a : Addr} {b : Box} (h : B a = none) : Few B (put B a b) := fun c x e => by
  rw [put_ne (fun z => by rw [z, h] at e; cases e)]; exact e
theorem ne_box {B : Bx} {a c : Addr} {b : Box} (h : B a = some b) (h' : B c = none) : a ≠ c := fun e => by rw [e, h'] at h; cases h
theorem ne_boxes {B : Bx} {a c : Addr} {b d : Box} (h : B a = some b) (h' : B c = some d) (n : b ≠ d) : a ≠ c := fun e => by
  rw [e, h'] at h; exact n (Option.some.inj h).symm

section
variable (K : PySem.W.Frag) (F : Hp)
mutual
/-- the value v bears the datum; its lists and tuples stand in F -/
def Dv : D → V → Prop
  | .non, v => v = .non
  | .bl b, v => v = .bl b
  | .int i, v => v = .int i
  | .str x, v => v = .str x
  | .ty n, v => v = .ty n
  | .obj φ, v => ∃ a, v = .ref a ∧ ∀ F', Same F F' → φ a F'
  | .ref a, v => v = .ref a
  | .lst ds, v => ∃ a vs, v = .ref a ∧ F a = some (.lst vs) ∧ Dvs ds vs
  | .tup ds, v => ∃ a vs, v = .ref a ∧ F a = some (.tup vs) ∧ Dvs ds vs
  | .rol ds, v => ∃ a vs, v = .ref a ∧ SqL K F a vs ∧ Dvs ds vs
  | .rot ds, v => ∃ a vs, v = .ref a ∧ SqT K F a vs ∧ Dvs ds vs
def Dvs : List D → List V → Prop
  | [], vs => vs = []
  | d :: ds, vs => ∃ v vs', vs = v :: vs' ∧ Dv d v ∧ Dvs ds vs'
end
end
section
variable {K : PySem.W.Frag} {F F' H H' : Hp}
theorem SqT_mono {a : Addr} {xs : List V} (e : Same F F') (h : SqT K F a xs) : SqT K F' a xs := by
  rcases h with (h | ⟨o, h⟩) | h
  · exact .inl (.inl (e _ _ h))
  · exact .inl (.inr ⟨o, e _ _ h⟩)
  · exact .inr h
mutual
theorem Dv.mono (e : Same F F') : ∀ (d : D) {v : V}, Dv K F d v → Dv K F' d v
  | .non, _, h => h
  | .bl _, _, h => h
  | .int _, _, h => h
  | .str _, _, h => h
  | .ty _, _, h => h
  | .obj φ, _, ⟨a, e1, h⟩ => ⟨a, e1, fun F2 e2 => h F2 (e.trans e2)⟩
  | .ref _, _, h => h
  | .lst ds, _, ⟨a, vs, h1, h2, h3⟩ => ⟨a, vs, h1, e _ _ h2, Dvs.mono e ds h3⟩
  | .tup ds, _, ⟨a, vs, h1, h2, h3⟩ => ⟨a, vs, h1, e _ _ h2, Dvs.mono e ds h3⟩
  | .rol ds, _, ⟨a, vs, h1, h2, h3⟩ => ⟨a, vs, h1, e.seq h2, Dvs.mono e ds h3⟩
  | .rot ds, _, ⟨a, vs, h1, h2, h3⟩ => ⟨a, vs, h1, SqT_mono e h2, Dvs.mono e ds h3⟩
theorem Dvs.mono (e : Same F F') : ∀ (ds : List D) {vs : List V}, Dvs K F ds vs → Dvs K F' ds vs
  | [], _, h => h
  | d :: ds, _, ⟨v, vs, h1, h2, h3⟩ => ⟨v, vs, h1, Dv.mono e d h2, Dvs.mono e ds h3⟩
end
theorem Dvs.nil : Dvs K F [] [] := rfl
theorem Dvs.cons {d : D} {v : V} {ds : List D} {vs : List V} (h : Dv K F d v) (t : Dvs K F ds vs) : Dvs K F (d :: ds) (v :: vs) := ⟨v, vs, rfl, h, t⟩
theorem Dvs.length : ∀ {ds : List D} {vs : List V}, Dvs K F ds vs → vs.length = ds.length
  | [], _, h => by cases h; rfl
  | _ :: ds, _, ⟨v, vs, e, _, t⟩ => by subst e; simp [Dvs.length t]
theorem Dvs.get : ∀ {ds : List D} {vs : List V} {i : Nat} {d : D}, Dvs K F ds vs → ds[i]? = some d → ∃ v, vs[i]? = some v ∧ Dv K F d v
  | [], _, _, _, _, e => by simp at e
  | x :: ds, _, 0, d, ⟨v, vs, e1, h, t⟩, e => by subst e1; simp at e; subst e; exact ⟨v, rfl, h⟩
  | x :: ds, _, i + 1, d, ⟨v, vs, e1, h, t⟩, e => by
    subst e1
    obtain ⟨u, h1, h2⟩ := Dvs.get (i := i) (d := d) t (by simpa using e)
    exact ⟨u, by simpa using h1, h2⟩
theorem Dvs.getV : ∀ {ds : List D} {vs : List V} {i : Nat} {v : V}, Dvs K F ds vs → vs[i]? = some v → ∃ d, ds[i]? = some d ∧ Dv K F d v := fun {ds vs i v} h e => by
  have hl := h.length
  have hi : i < ds.length := by rw [← hl]; exact (List.getElem?_eq_some_iff.mp e).1
  obtain ⟨u, h1, h2⟩ := h.get (List.getElem?_eq_getElem hi)
  rw [e] at h1; cases h1
  exact ⟨_, List.getElem?_eq_getElem hi, h2⟩
theorem Dvs.append : ∀ {ds es : List D} {vs us : List V}, Dvs K F ds vs → Dvs K F es us → Dvs K F (ds ++ es) (vs ++ us)
  | [], _, _, _, h, k => by cases h; exact k
  | _ :: _, _, _, _, ⟨v, vs, e, h, t⟩, k => by subst e; exact ⟨v, vs ++ _, rfl, h, t.append k⟩
theorem Dvs.take : ∀ {ds : List D} {vs : List V} (n : Nat), Dvs K F ds vs → Dvs K F (ds.take n) (vs.take n)
  | _, _, 0, _ => rfl
  | [], _, n + 1, h => by cases h; rfl
  | _ :: _, _, n + 1, ⟨v, vs, e, h, t⟩ => by subst e; exact ⟨v, vs.take n, rfl, h, t.take n⟩
theorem Dvs.drop : ∀ {ds : List D} {vs : List V} (n : Nat), Dvs K F ds vs → Dvs K F (ds.drop n) (vs.drop n)
  | _, _, 0, h => h
  | [], _, n + 1, h => by cases h; rfl
  | _ :: _, _, n + 1, ⟨v, vs, e, h, t⟩ => by subst e; exact t.drop n
theorem Dvs.set : ∀ {ds : List D} {vs : List V} {d : D} {v : V} (i : Nat), Dvs K F ds vs → Dv K F d v → Dvs K F (ds.set i d) (vs.set i v)
  | [], _, _, _, _, h, _ => by cases h; rfl
  | _ :: _, _, _, v, 0, ⟨_, vs, e, _, t⟩, k => by subst e; exact ⟨v, vs, rfl, k, t⟩
  | _ :: _, _, _, _, i + 1, ⟨u, vs, e, h, t⟩, k => by subst e; exact ⟨u, vs.set i _, rfl, h, t.set i k⟩
theorem Dvs.reverse : ∀ {ds : List D} {vs : List V}, Dvs K F ds vs → Dvs K F ds.reverse vs.reverse
  | [], _, h => by cases h; rfl
  | _ :: _, _, ⟨v, vs, e, h, t⟩ => by subst e; rw [List.reverse_cons, List.reverse_cons]; exact t.reverse.append ⟨v, [], rfl, h, rfl⟩
theorem Dvs.ints : ∀ {ns : List Int} {vs : List V}, Dvs K F (ns.map D.int) vs → vs = ns.map V.int
  | [], _, h => h
  | n :: ns, _, ⟨v, vs, e, h, t⟩ => by subst e; rw [show v = V.int n from h, Dvs.ints t]; rfl
theorem Dvs.ofInts : ∀ (ns : List Int), Dvs K F (ns.map D.int) (ns.map V.int)
  | [] => rfl
  | n :: ns => ⟨_, _, rfl, rfl, Dvs.ofInts ns⟩
theorem Dvs.strs : ∀ {ns : List Str} {vs : List V}, Dvs K F (ns.map D.str) vs → vs = ns.map V.str
  | [], _, h => h
  | n :: ns, _, ⟨v, vs, e, h, t⟩ => by subst e; rw [show v = V.str n from h, Dvs.strs t]; rfl
theorem Dvs.bls : ∀ {ns : List Bool} {vs : List V}, Dvs K F (ns.map D.bl) vs → vs = ns.map V.bl
  | [], _, h => h
  | n :: ns, _, ⟨v, vs, e, h, t⟩ => by subst e; rw [show v = V.bl n from h, Dvs.bls t]; rfl
end

/-- keys beside data -/
def DKv (K : PySem.W.Frag) (F : Hp) {κ : Type} : List (κ × D) → List (κ × V) → Prop
  | [], ws => ws = []
  | (k, d) :: kvs, ws => ∃ v ws', ws = (k, v) :: ws' ∧ Dv K F d v ∧ DKv K F kvs ws'
section
variable {K : PySem.W.Frag} {F F' H H' : Hp} {κ : Type}
theorem DKv.mono (e : Same F F') : ∀ {kvs : List (κ × D)} {ws : List (κ × V)}, DKv K F kvs ws → DKv K F' kvs ws
  | [], _, h => h
  | _ :: _, _, ⟨v, ws, h1, h2, h3⟩ => ⟨v, ws, h1, h2.mono e, h3.mono e⟩
theorem DKv.length : ∀ {kvs : List (κ × D)} {ws : List (κ × V)}, DKv K F kvs ws → ws.length = kvs.length
  | [], _, h => by cases h; rfl
  | _ :: _, _, ⟨v, ws, h1, h2, h3⟩ => by subst h1; simp [h3.length]
theorem DKv.keys : ∀ {kvs : List (κ × D)} {ws : List (κ × V)}, DKv K F kvs ws → ws.map (·.1) = kvs.map (·.1)
  | [], _, h => by cases h; rfl
  | _ :: _, _, ⟨v, ws, h1, h2, h3⟩ => by subst h1; simp [h3.keys]
theorem DKv.append : ∀ {kvs kvs' : List (κ × D)} {ws ws' : List (κ × V)}, DKv K F kvs ws → DKv K F kvs' ws' → DKv K F (kvs ++ kvs') (ws ++ ws')
  | [], _, _, _, h, k => by cases h; exact k
  | (_, _) :: _, _, _, _, ⟨v, ws, h1, h2, h3⟩, k => by subst h1; exact ⟨v, ws ++ _, rfl, h2, h3.append k⟩
end

def BoxOk (K : PySem.W.Frag) (F H : Hp) : Box → Addr → Prop
  | .lst ds, a => ∃ vs, H a = some (.lst vs) ∧ Dvs K F ds vs
  | .dK kvs, a => ∃ ws, H a = some (.dK ws) ∧ DKv K F kvs ws
  | .dT kvs, a => ∃ ws, H a = some (.dT ws) ∧ DKv K F kvs ws
  | .ins C fs, a => ∃ dx ws, H a = some (.ins C dx ws) ∧ DKv K F fs ws
  | .tab, a => ∃ ps : Array Value, H a = some (.tbl ps) ∧ TriplesOk ps.toList
  | .ext φ, a => H a = some (.ext φ)
  | .tabQ q, a => ∃ ps : Array Value, H a = some (.tbl ps) ∧ TriplesOk ps.toList ∧ ∀ (pos : Pos) (cv : Value), codeAmong pos ps.toList = some cv → ∃ c, cv = .ref c ∧ F c = some (LamX.CodeO c q)
  | .lk o ws kvs, a => H a = some (.frz o (.dK ws)) ∧ DKv K F kvs ws
theorem BoxOk.there {K : PySem.W.Frag} {F H : Hp} {b : Box} {a : Addr} (h : BoxOk K F H b a) : ∃ o, H a = some o := by
  cases b with
  | lst ds => obtain ⟨_, e, _⟩ := h; exact ⟨_, e⟩
  | dK ds => obtain ⟨_, e, _⟩ := h; exact ⟨_, e⟩
  | dT ds => obtain ⟨_, e, _⟩ := h; exact ⟨_, e⟩
  | ins C fs => obtain ⟨_, _, e, _⟩ := h; exact ⟨_, e⟩
  | tab => obtain ⟨_, e, _⟩ := h; exact ⟨_, e⟩
  | ext φ => exact ⟨_, h⟩
  | tabQ q => obtain ⟨_, e, _⟩ := h; exact ⟨_, e⟩
  | lk o ws kvs => exact ⟨_, h.1⟩
theorem BoxOk.mono {K : PySem.W.Frag} {F F' H H' : Hp} {b : Box} {a : Addr} (eF : Same F F') (eH : H' a = H a) (h : BoxOk K F H b a) : BoxOk K F' H' b a := by
  cases b with
  | lst ds => obtain ⟨vs, e, r⟩ := h; exact ⟨vs, eH.trans e, r.mono eF⟩
  | dK ds => obtain ⟨vs, e, r⟩ := h; exact ⟨vs, eH.trans e, r.mono eF⟩
  | dT ds => obtain ⟨vs, e, r⟩ := h; exact ⟨vs, eH.trans e, r.mono eF⟩
  | ins C fs => obtain ⟨dx, vs, e, r⟩ := h; exact ⟨dx, vs, eH.trans e, r.mono eF⟩
  | tab => obtain ⟨ps, e, r⟩ := h; exact ⟨ps, eH.trans e, r⟩
  | ext φ => exact eH.trans h
  | tabQ q => obtain ⟨ps, e, r, k⟩ := h; exact ⟨ps, eH.trans e, r, fun pos cv hc => let ⟨c, e1, e2⟩ := k pos cv hc; ⟨c, e1, eF _ _ e2⟩⟩
  | lk o ws kvs => exact ⟨eH.trans h.1, h.2.mono eF⟩

/-- the heap H: the data in F, the boxes B that one speaks of, the boxes R that one does not; the tables at TS are among R -/
structure RepH (K : PySem.W.Frag) (TS : List Addr) (F H : Hp) (B R : Bx) : Prop where
  le : Same F H
  bx : ∀ a b, B a = some b → F a = none ∧ BoxOk K F H b a
  rx : ∀ a b, R a = some b → F a = none ∧ BoxOk K F H b a
  dj : ∀ a, B a = none ∨ R a = none
  tb : ∀ P ∈ TS, R P = some .tab
section
variable {K : PySem.W.Frag} {TS : List Addr} {F F' H H' : Hp} {B B' R : Bx} {a p : Addr} {o : HO} {b : Box}
theorem RepH.freeF (r : RepH K TS F H B R) (h : H p = none) : F p = none := r.le.free h
theorem RepH.freeB (r : RepH K TS F H B R) (h : H p = none) : B p = none := by
  cases q : B p with
  | none => rfl
  | some b => obtain ⟨o, e⟩ := (r.bx p b q).2.there; rw [h] at e; cases e
theorem RepH.freeR (r : RepH K TS F H B R) (h : H p = none) : R p = none := by
  cases q : R p with
  | none => rfl
  | some b => obtain ⟨o, e⟩ := (r.rx p b q).2.there; rw [h] at e; cases e
theorem same_upd {F : Hp} {p : Addr} {o : HO} (h : F p = none) : Same F (upd F p o) := fun c u e => by rw [upd_ne (ne_of_none e h)]; exact e
theorem RepH.there (r : RepH K TS F H B R) (h : B a = some b) : ∃ o, H a = some o := (r.bx a b h).2.there
/-- the tracked heap has grown, or changed where nothing is known -/
theorem RepH.same (r : RepH K TS F H B R) (e : Same H H') : RepH K TS F H' B R where
  le := r.le.trans e
  bx := fun a b h => by
    obtain ⟨h1, h2⟩ := r.bx a b h
    obtain ⟨o, ho⟩ := h2.there
    exact ⟨h1, h2.mono (Same.refl F) ((e _ _ ho).trans ho.symm)⟩
  rx := fun a b h => by
    obtain ⟨h1, h2⟩ := r.rx a b h
    obtain ⟨o, ho⟩ := h2.there
    exact ⟨h1, h2.mono (Same.refl F) ((e _ _ ho).trans ho.symm)⟩
  dj := r.dj
  tb := r.tb
/-- a new datum -/
theorem RepH.datum (r : RepH K TS F H B R) (h : H p = none) : RepH K TS (upd F p o) (upd H p o) B R := by
  have hF := r.freeF h
  refine ⟨fun c u e => ?_, fun c u e => ?_, fun c u e => ?_, r.dj, r.tb⟩
  · by_cases hc : c = p
    · rw [hc, upd_same] at e; rw [hc, upd_same]; exact e
    · rw [upd_ne hc] at e ⊢; exact r.le _ _ e
  · have hc : c ≠ p := ne_box e (r.freeB h)
    obtain ⟨h1, h2⟩ := r.bx c u e
    exact ⟨by rw [upd_ne hc]; exact h1, h2.mono (same_upd hF) (upd_ne hc)⟩
  · have hc : c ≠ p := ne_box e (r.freeR h)
    obtain ⟨h1, h2⟩ := r.rx c u e
    exact ⟨by rw [upd_ne hc]; exact h1, h2.mono (same_upd hF) (upd_ne hc)⟩
/-- a new box -/
theorem RepH.box (r : RepH K TS F H B R) (h : H p = none) (hb : BoxOk K F (upd H p o) b p) : RepH K TS F (upd H p o) (put B p b) R := by
  have hF := r.freeF h
  refine ⟨fun c u e => ?_, fun c u e => ?_, fun c u e => ?_, fun c => ?_, r.tb⟩
  · rw [upd_ne (ne_of_none e hF)]; exact r.le _ _ e
  · by_cases hc : c = p
    · rw [hc, put_same] at e; cases e; rw [hc]; exact ⟨hF, hb⟩
    · rw [put_ne hc] at e
      obtain ⟨h1, h2⟩ := r.bx c u e
      exact ⟨h1, h2.mono (Same.refl F) (upd_ne hc)⟩
  · have hc : c ≠ p := ne_box e (r.freeR h)
    obtain ⟨h1, h2⟩ := r.rx c u e
    exact ⟨h1, h2.mono (Same.refl F) (upd_ne hc)⟩
  · by_cases hc : c = p
    · rw [hc]; exact .inr (r.freeR h)
    · rw [put_ne hc]; exact r.dj c
/-- a new box among those that one does not speak of -/
theorem RepH.boxR (r : RepH K TS F H B R) (h : H p = none) (hb : BoxOk K F (upd H p o) b p) : RepH K TS F (upd H p o) B (put R p b) := by
  have hF := r.freeF h
  refine ⟨fun c u e => ?_, fun c u e => ?_, fun c u e => ?_, fun c => ?_, fun P hP => ?_⟩
  · rw [upd_ne (ne_of_none e hF)]; exact r.le _ _ e
  · have hc : c ≠ p := ne_box e (r.freeB h)
    obtain ⟨h1, h2⟩ := r.bx c u e
    exact ⟨h1, h2.mono (Same.refl F) (upd_ne hc)⟩
  · by_cases hc : c = p
    · rw [hc, put_same] at e; cases e; rw [hc]; exact ⟨hF, hb⟩
    · rw [put_ne hc] at e
      obtain ⟨h1, h2⟩ := r.rx c u e
      exact ⟨h1, h2.mono (Same.refl F) (upd_ne hc)⟩
  · by_cases hc : c = p
    · rw [hc]; exact .inl (r.freeB h)
    · rw [put_ne hc]; exact r.dj c
  · rw [put_ne (ne_box (r.tb P hP) (r.freeR h))]; exact r.tb P hP
/-- a box is written -/
theorem RepH.write {c : Box} (r : RepH K TS F H B R) (h : B a = some c) (hb : BoxOk K F (upd H a o) b a) : RepH K TS F (upd H a o) (put B a b) R := by
  obtain ⟨hF, _⟩ := r.bx a c h
  have hR : R a = none := by
    rcases r.dj a with z | z
    · rw [h] at z; cases z
    · exact z
  refine ⟨fun c u e => ?_, fun c u e => ?_, fun c u e => ?_, fun c => ?_, r.tb⟩
  · rw [upd_ne (ne_of_none e hF)]; exact r.le _ _ e
  · by_cases hc : c = a
    · rw [hc, put_same] at e; cases e; rw [hc]; exact ⟨hF, hb⟩
    · rw [put_ne hc] at e
      obtain ⟨h1, h2⟩ := r.bx c u e
      exact ⟨h1, h2.mono (Same.refl F) (upd_ne hc)⟩
  · have hc : c ≠ a := ne_box e hR
    obtain ⟨h1, h2⟩ := r.rx c u e
    exact ⟨h1, h2.mono (Same.refl F) (upd_ne hc)⟩
  · by_cases hc : c = a
    · rw [hc]; exact .inr hR
    · rw [put_ne hc]; exact r.dj c
theorem RepH.writeR {c : Box} (r : RepH K TS F H B R) (h : R a = some c) (nt : c ≠ .tab ∨ b = .tab) (hb : BoxOk K F (upd H a o) b a) : RepH K TS F (upd H a o) B (put R a b) := by
  obtain ⟨hF, _⟩ := r.rx a c h
  have hB : B a = none := by
    rcases r.dj a with z | z
    · exact z
    · rw [h] at z; cases z
  refine ⟨fun c u e => ?_, fun c u e => ?_, fun c u e => ?_, fun c => ?_, fun P hP => ?_⟩
  · rw [upd_ne (ne_of_none e hF)]; exact r.le _ _ e
  · have hc : c ≠ a := ne_box e hB
    obtain ⟨h1, h2⟩ := r.bx c u e
    exact ⟨h1, h2.mono (Same.refl F) (upd_ne hc)⟩
  · by_cases hc : c = a
    · rw [hc, put_same] at e; cases e; rw [hc]; exact ⟨hF, hb⟩
    · rw [put_ne hc] at e
      obtain ⟨h1, h2⟩ := r.rx c u e
      exact ⟨h1, h2.mono (Same.refl F) (upd_ne hc)⟩
  · by_cases hc : c = a
    · rw [hc]; exact .inl hB
    · rw [put_ne hc]; exact r.dj c
  · by_cases hc : P = a
    · rw [hc, put_same]
      have e := r.tb P hP
      rw [hc, h] at e
      rcases nt with z | z
      · exact absurd (Option.some.inj e) z
      · rw [z]
    · rw [put_ne hc]; exact r.tb P hP
/-- fewer boxes are spoken of -/
theorem RepH.few (r : RepH K TS F H B R) (f : Few B' B) : RepH K TS F H B' R :=
  ⟨r.le, fun a b h => r.bx a b (f a b h), r.rx, fun a => (r.dj a).imp (fun z => by
    cases q : B' a with
    | none => rfl
    | some b => rw [f a b q] at z; cases z) id, r.tb⟩
/-- a list that is never written again becomes a datum -/
theorem RepH.freeze {ds : List D} (r : RepH K TS F H B R) (h : B a = some (.lst ds)) : ∃ F', Same F F' ∧ RepH K TS F' H (era B a) R ∧ Dv K F' (.lst ds) (.ref a) := by
  obtain ⟨hF, vs, hH, dv⟩ := r.bx a _ h
  have hR : R a = none := by
    rcases r.dj a with z | z
    · rw [h] at z; cases z
    · exact z
  have sm : Same F (upd F a (.lst vs)) := same_upd hF
  refine ⟨upd F a (.lst vs), sm, ⟨fun c u e => ?_, fun c u e => ?_, fun c u e => ?_, fun c => ?_, r.tb⟩, a, vs, rfl, upd_same, dv.mono sm⟩
  · by_cases hc : c = a
    · rw [hc, upd_same] at e; cases e; rw [hc]; exact hH
    · rw [upd_ne hc] at e; exact r.le _ _ e
  · by_cases hc : c = a
    · rw [hc, era_same] at e; cases e
    · rw [era_ne hc] at e
      obtain ⟨h1, h2⟩ := r.bx c u e
      exact ⟨by rw [upd_ne hc]; exact h1, h2.mono sm rfl⟩
  · have hc : c ≠ a := ne_box e hR
    obtain ⟨h1, h2⟩ := r.rx c u e
    exact ⟨by rw [upd_ne hc]; exact h1, h2.mono sm rfl⟩
  · by_cases hc : c = a
    · rw [hc]; exact .inl era_same
    · rw [era_ne hc]; exact r.dj c
/-- .. one of those that one does not speak of -/
theorem RepH.freezeR {ds : List D} (r : RepH K TS F H B R) (h : R a = some (.lst ds)) (nt : a ∉ TS) : ∃ F', Same F F' ∧ RepH K TS F' H B (era R a) ∧ Dv K F' (.lst ds) (.ref a) := by
  obtain ⟨hF, vs, hH, dv⟩ := r.rx a _ h
  have hB : B a = none := by
    rcases r.dj a with z | z
    · exact z
    · rw [h] at z; cases z
  have sm : Same F (upd F a (.lst vs)) := same_upd hF
  refine ⟨upd F a (.lst vs), sm, ⟨fun c u e => ?_, fun c u e => ?_, fun c u e => ?_, fun c => ?_, fun P hP => ?_⟩, a, vs, rfl, upd_same, dv.mono sm⟩
  · by_cases hc : c = a
    · rw [hc, upd_same] at e; cases e; rw [hc]; exact hH
    · rw [upd_ne hc] at e; exact r.le _ _ e
  · have hc : c ≠ a := ne_box e hB
    obtain ⟨h1, h2⟩ := r.bx c u e
    exact ⟨by rw [upd_ne hc]; exact h1, h2.mono sm rfl⟩
  · by_cases hc : c = a
    · rw [hc, era_same] at e; cases e
    · rw [era_ne hc] at e
      obtain ⟨h1, h2⟩ := r.rx c u e
      exact ⟨by rw [upd_ne hc]; exact h1, h2.mono sm rfl⟩
  · by_cases hc : c = a
    · rw [hc]; exact .inr era_same
    · rw [era_ne hc]; exact r.dj c
  · rw [era_ne (show P ≠ a from fun z => nt (by rw [← z]; exact hP))]; exact r.tb P hP
/-- a hidden box is handed over -/
theorem RepH.show (r : RepH K TS F H B R) (h : R a = some b) (nt : a ∉ TS) : RepH K TS F H (put B a b) (era R a) := by
  obtain ⟨hF, ok⟩ := r.rx a _ h
  refine ⟨r.le, fun c u e => ?_, fun c u e => ?_, fun c => ?_, fun P hP => ?_⟩
  · by_cases hc : c = a
    · rw [hc, put_same] at e; cases e; rw [hc]; exact ⟨hF, ok⟩
    · rw [put_ne hc] at e; exact r.bx c u e
  · by_cases hc : c = a
    · rw [hc, era_same] at e; cases e
    · rw [era_ne hc] at e; exact r.rx c u e
  · by_cases hc : c = a
    · rw [hc]; exact .inr era_same
    · rw [put_ne hc, era_ne hc]; exact r.dj c
  · rw [era_ne (show P ≠ a from fun z => nt (by rw [← z]; exact hP))]; exact r.tb P hP
end

/-! ### slots -/
abbrev Gm := List (Option D)
structure Slots (K : PySem.W.Frag) (F : Hp) (σ : L2.St) (Γ : Gm) : Prop where
  len : Γ.length = σ.length
  at_ : ∀ (i : Nat) (d : D), Γ[i]? = some (some d) → ∃ v, σ[i]? = some (some v) ∧ Dv K F d v
section
variable {K : PySem.W.Frag} {F F' : Hp} {σ : L2.St} {Γ : Gm}
theorem Slots.mono (s : Slots K F σ Γ) (e : Same F F') : Slots K F' σ Γ := ⟨s.len, fun i d h => by
  obtain ⟨v, h1, h2⟩ := s.at_ i d h
  exact ⟨v, h1, h2.mono e⟩⟩
theorem Slots.set (s : Slots K F σ Γ) (i : Nat) {d : D} {v : V} (h : Dv K F d v) : Slots K F (σ.set i (some v)) (Γ.set i (some d)) := ⟨by simp [s.len], fun j e hj => by
  by_cases hji : i = j
  · subst hji
    by_cases hi : i < Γ.length
    · rw [List.getElem?_set_self hi] at hj
      cases hj
      exact ⟨v, by rw [List.getElem?_set_self (by rw [← s.len]; exact hi)], h⟩
    · rw [List.getElem?_eq_none (by simpa using hi)] at hj; cases hj
  · rw [List.getElem?_set_ne hji] at hj
    obtain ⟨u, h1, h2⟩ := s.at_ j e hj
    exact ⟨u, by rw [List.getElem?_set_ne hji]; exact h1, h2⟩⟩
/-- slots may be forgotten -/
theorem Slots.drop {Γ' : Gm} (s : Slots K F σ Γ) (hl : Γ'.length = Γ.length) (h : ∀ (i : Nat) (d : D), Γ'[i]? = some (some d) → Γ[i]? = some (some d)) : Slots K F σ Γ' :=
  ⟨hl.trans s.len, fun i d e => s.at_ i d (h i d e)⟩
end
end DL
set_option Elab.async false
set_option linter.all false
set_option maxRecDepth 100000
set_option maxHeartbeats 1000000
/-! DL1: readings at the level of data; expressions. -/
namespace DL
open PySem PySem.Spec PyProof.Rows L2

abbrev DK := D → Bx → Prop
abbrev XD := Addr → Bx → Prop
abbrev DTE := Gm → Bx → DK → XD → Prop
abbrev DTT := Gm → Bx → (Bool → Bx → Prop) → XD → Prop
abbrev DTA := Gm → Bx → (List D → Bx → Prop) → XD → Prop

/-- what is wanted at the level of data carries over -/
def QL (K : PySem.W.Frag) (TS : List Addr) (F : Hp) (R : Bx) (q : DK) (Q : VK) : Prop := ∀ d B' F' H' v, q d B' → Same F F' → RepH K TS F' H' B' R → Dv K F' d v → Q v H'
def QB (K : PySem.W.Frag) (TS : List Addr) (F : Hp) (R : Bx) (q : Bool → Bx → Prop) (Q : Bool → Hp → Prop) : Prop := ∀ b B' F' H', q b B' → Same F F' → RepH K TS F' H' B' R → Q b H'
def QA (K : PySem.W.Frag) (TS : List Addr) (F : Hp) (R : Bx) (q : List D → Bx → Prop) (Q : List V → Hp → Prop) : Prop := ∀ ds B' F' H' vs, q ds B' → Same F F' → RepH K TS F' H' B' R → Dvs K F' ds vs → Q vs H'
def XL (K : PySem.W.Frag) (TS : List Addr) (W : WX) (F : Hp) (R : Bx) (σ : L2.St) (x : XD) : Prop := ∀ C B' F' H', x C B' → Same F F' → RepH K TS F' H' B' R → W (.ref C) none σ H'
section
variable {K : PySem.W.Frag} {TS : List Addr} {W : WX} {F F' : Hp} {R : Bx} {σ : L2.St} {q : DK} {Q : VK} {x : XD}
theorem QL.mono (h : QL K TS F R q Q) (e : Same F F') : QL K TS F' R q Q := fun d B' F2 H' v hq e2 => h d B' F2 H' v hq (e.trans e2)
theorem QB.mono {q : Bool → Bx → Prop} {Q : Bool → Hp → Prop} (h : QB K TS F R q Q) (e : Same F F') : QB K TS F' R q Q := fun d B' F2 H' hq e2 => h d B' F2 H' hq (e.trans e2)
theorem QA.mono {q : List D → Bx → Prop} {Q : List V → Hp → Prop} (h : QA K TS F R q Q) (e : Same F F') : QA K TS F' R q Q := fun d B' F2 H' v hq e2 => h d B' F2 H' v hq (e.trans e2)
theorem XL.mono (h : XL K TS W F R σ x) (e : Same F F') : XL K TS W F' R σ x := fun C B' F2 H' hq e2 => h C B' F2 H' hq (e.trans e2)
end
/-- the lifted readings -/
def LE (K : PySem.W.Frag) (TS : List Addr) (W : WX) (t : DTE) : TE := fun σ H Q => ∃ F Γ B R q x, Slots K F σ Γ ∧ RepH K TS F H B R ∧ t Γ B q x ∧ QL K TS F R q Q ∧ XL K TS W F R σ x
def LT (K : PySem.W.Frag) (TS : List Addr) (W : WX) (t : DTT) : TT := fun σ H Q => ∃ F Γ B R q x, Slots K F σ Γ ∧ RepH K TS F H B R ∧ t Γ B q x ∧ QB K TS F R q Q ∧ XL K TS W F R σ x
def LA (K : PySem.W.Frag) (TS : List Addr) (W : WX) (t : DTA) : TA := fun σ H Q => ∃ F Γ B R q x, Slots K F σ Γ ∧ RepH K TS F H B R ∧ t Γ B q x ∧ QA K TS F R q Q ∧ XL K TS W F R σ x

def DE (X : Cx) (TS : List Addr) (W : WX) (e : Expr) (t : DTE) : Prop := PE X e (LE X.K TS W t)
def DT (X : Cx) (TS : List Addr) (W : WX) (e : Expr) (t : DTT) : Prop := PT X e (LT X.K TS W t)
def DW (X : Cx) (TS : List Addr) (W : WX) (e : Expr) (t : DTT) : Prop := PW X e (LT X.K TS W t)
def DA (X : Cx) (TS : List Addr) (W : WX) (es : List Expr) (t : DTA) : Prop := PA X es (LA X.K TS W t)

theorem PE_imp {X : Cx} {e : Expr} {t t' : TE} (h : PE X e t) (k : ∀ σ H Q, t' σ H Q → t σ H Q) : PE X e t' := ⟨fun pins s σ H Q I hw => h.run pins s σ H Q I (k σ H Q hw)⟩
theorem PT_imp {X : Cx} {e : Expr} {t t' : TT} (h : PT X e t) (k : ∀ σ H Q, t' σ H Q → t σ H Q) : PT X e t' := ⟨fun pins s σ H Q I hw => h.run pins s σ H Q I (k σ H Q hw)⟩
theorem PW_imp {X : Cx} {e : Expr} {t t' : TT} (h : PW X e t) (k : ∀ σ H Q, t' σ H Q → t σ H Q) : PW X e t' := ⟨fun wh pins s σ H Q I hw => h.run wh pins s σ H Q I (k σ H Q hw)⟩
theorem PA_imp {X : Cx} {e : List Expr} {t t' : TA} (h : PA X e t) (k : ∀ σ H Q, t' σ H Q → t σ H Q) : PA X e t' := ⟨fun pos pins s σ H Q I hw => h.run pos pins s σ H Q I (k σ H Q hw)⟩

/-! ### slots at the level of data -/
def getS : Gm → Nat → Option D
  | [], _ => none
  | a :: _, 0 => a
  | _ :: r, i + 1 => getS r i
def setS : Gm → Nat → D → Gm
  | [], _, _ => []
  | _ :: r, 0, d => some d :: r
  | a :: r, i + 1, d => a :: setS r i d
theorem getS_at : ∀ {Γ : Gm} {i : Nat} {d : D}, getS Γ i = some d → Γ[i]? = some (some d)
  | [], _, _, h => by cases h
  | a :: _, 0, d, h => by have h : a = some d := h; subst h; rfl
  | _ :: r, i + 1, d, h => by simpa using getS_at (Γ := r) (i := i) h
theorem setS_eq : ∀ (Γ : Gm) (i : Nat) (d : D), setS Γ i d = Γ.set i (some d)
  | [], _, _ => by simp [setS]
  | _ :: _, 0, _ => rfl
  | _ :: r, i + 1, d => by simp [setS, setS_eq r i d]

section
variable {X : Cx} {TS : List Addr} {W : WX} {a b e : Expr} {ta tb te : DTE} {pos : Pos}

/-! ### names, constants -/
def dVar (i : Nat) : DTE := fun Γ B q _ => match getS Γ i with
  | some d => q d B
  | none => False
def dC (d : D) : DTE := fun _ B q _ => q d B
theorem de_of {t : TE} {u : DTE} (h : PE X e t) (k : ∀ σ H Q F Γ B R q x, Slots X.K F σ Γ → RepH X.K TS F H B R → u Γ B q x → QL X.K TS F R q Q → XL X.K TS W F R σ x → t σ H Q) : DE X TS W e u :=
  PE_imp h fun σ H Q ⟨F, Γ, B, R, q, x, s, r, hu, hq, hx⟩ => k σ H Q F Γ B R q x s r hu hq hx
theorem de_v {i : Nat} (h : PE X e (tVar i)) : DE X TS W e (dVar i) := de_of h fun σ H Q F Γ B R q x s r hu hq hx => by
  unfold dVar at hu
  cases hg : getS Γ i with
  | none => rw [hg] at hu; exact hu.elim
  | some d =>
    rw [hg] at hu
    obtain ⟨v, h1, h2⟩ := s.at_ i d (getS_at hg)
    exact ⟨v, h1, hq d B F H v hu (Same.refl F) r h2⟩
/-- the name in slot i -/
theorem dv (i : Nat) {x : Str} {pos : Pos} (hN : X.N[i]? = some x := by rfl) (hv : Vis X.env.scope x := by first | exact Or.inl rfl | exact Or.inr (Or.inl rfl) | exact Or.inr (Or.inr rfl)) (hd : (x == ("__debug__" : Str)) = false := by decide)
    (hcd : (x == ("__classdict__" : Str)) = false := by decide) : DE X TS W (.Name x pos) (dVar i) := de_v (pe_var hN hv hd hcd)
theorem de_c {v : V} {d : D} (h : PE X e (tC v)) (hd : ∀ F, Dv X.K F d v) : DE X TS W e (dC d) := de_of h fun σ H Q F Γ B R q x s r hu hq hx => hq d B F H v hu (Same.refl F) r (hd F)
theorem de_int {i j} : DE X TS W (.Constant (.int i) j pos) (dC (.int i)) := de_c pe_int fun _ => rfl
theorem de_bl {b j} : DE X TS W (.Constant (.bool b) j pos) (dC (.bl b)) := de_c pe_bl fun _ => rfl
theorem de_non {j} : DE X TS W (.Constant .none j pos) (dC .non) := de_c pe_non fun _ => rfl
theorem de_str {x j} : DE X TS W (.Constant (.str x) j pos) (dC (.str x)) := de_c pe_str fun _ => rfl
/-- a module's constant -/
theorem de_glob {x : Str} {d : D} {v : V} {u : Value} (hg : Gl X x) (hm : X.mg x = some u) (r : RelV v u) (hd : ∀ F, Dv X.K F d v) (hdb : (x == ("__debug__" : Str)) = false := by decide) : DE X TS W (.Name x pos) (dC d) := de_c (pe_glob hg hm r hdb) hd

/-! ### operators -/
abbrev G2 := D → D → Bx → DK → Prop
abbrev G1 := D → Bx → DK → Prop
def OpD (K : PySem.W.Frag) (TS : List Addr) (r : R2) (g : G2) : Prop := ∀ F H B R d e v u q Q, RepH K TS F H B R → Dv K F d v → Dv K F e u → g d e B q → QL K TS F R q Q → r v u H Q
def UnD (K : PySem.W.Frag) (TS : List Addr) (r : V → Hp → VK → Prop) (g : G1) : Prop := ∀ F H B R d v q Q, RepH K TS F H B R → Dv K F d v → g d B q → QL K TS F R q Q → r v H Q
def dOp (g : G2) (ta tb : DTE) : DTE := fun Γ B q x => ta Γ B (fun d B1 => tb Γ B1 (fun e B2 => g d e B2 q) x) x
def dUn (g : G1) (ta : DTE) : DTE := fun Γ B q x => ta Γ B (fun d B1 => g d B1 q) x
/-- two operands in a row -/
theorem two_lift {K : PySem.W.Frag} {r : R2} {g : G2} (ho : OpD K TS r g) {σ : L2.St} {H : Hp} {Q : VK} (h : LE K TS W (dOp g ta tb) σ H Q) : tOp r (LE K TS W ta) (LE K TS W tb) σ H Q := by
  obtain ⟨F, Γ, B, R, q, x, s, rp, hu, hq, hx⟩ := h
  refine ⟨F, Γ, B, R, _, x, s, rp, hu, fun d B1 F1 H1 v h1 e1 rp1 dv1 => ?_, hx⟩
  refine ⟨F1, Γ, B1, R, _, x, s.mono e1, rp1, h1, fun e B2 F2 H2 u h2 e2 rp2 dv2 => ?_, hx.mono e1⟩
  exact ho F2 H2 B2 R d e v u q Q rp2 (dv1.mono e2) dv2 h2 (hq.mono (e1.trans e2))
theorem de_op {op : Operator} {r : R2} {g : G2} (ho : OpR X (binaryOp op) r) (hg : OpD X.K TS r g) (ha : DE X TS W a ta) (hb : DE X TS W b tb) : DE X TS W (.BinOp a op b pos) (dOp g ta tb) :=
  PE_imp (pe_op ho ha hb) fun _ _ _ => two_lift hg
theorem de_un {op : UnaryOp} {r : V → Hp → VK → Prop} {g : G1} (ho : UnR X (unaryOp op) r) (hg : UnD X.K TS r g) (ha : DE X TS W a ta) : DE X TS W (.UnaryOp op a pos) (dUn g ta) :=
  PE_imp (pe_un ho ha) fun σ H Q ⟨F, Γ, B, R, q, x, s, rp, hu, hq, hx⟩ =>
    ⟨F, Γ, B, R, _, x, s, rp, hu, fun d B1 F1 H1 v h1 e1 rp1 dv1 => hg F1 H1 B1 R d v q Q rp1 dv1 h1 (hq.mono e1), hx⟩

/-! #### whole numbers -/
def gI (f : Int → Int → D) : G2 := fun d e B q => match d, e with
  | .int i, .int j => q (f i j) B
  | _, _ => False
def gIC (C : Int → Int → Prop) (f : Int → Int → D) : G2 := fun d e B q => match d, e with
  | .int i, .int j => C i j ∧ q (f i j) B
  | _, _ => False
theorem gI_elim {f : Int → Int → D} {d e : D} {B : Bx} {q : DK} (h : gI f d e B q) : ∃ i j, d = .int i ∧ e = .int j ∧ q (f i j) B := by
  unfold gI at h
  split at h
  · exact ⟨_, _, rfl, rfl, h⟩
  · exact h.elim
theorem gIC_elim {C : Int → Int → Prop} {f : Int → Int → D} {d e : D} {B : Bx} {q : DK} (h : gIC C f d e B q) : ∃ i j, d = .int i ∧ e = .int j ∧ C i j ∧ q (f i j) B := by
  unfold gIC at h
  split at h
  · exact ⟨_, _, rfl, rfl, h⟩
  · exact h.elim
theorem od_int {K : PySem.W.Frag} {f : Int → Int → Int} : OpD K TS (rI0 fun i j => .int (f i j)) (gI fun i j => .int (f i j)) := fun F H B R d e v u q Q rp hd he h hq => by
  obtain ⟨i, j, rfl, rfl, h⟩ := gI_elim h
  exact ⟨i, j, hd, he, hq _ B F H _ h (Same.refl F) rp rfl⟩
theorem od_bl {K : PySem.W.Frag} {f : Int → Int → Bool} : OpD K TS (rI0 fun i j => .bl (f i j)) (gI fun i j => .bl (f i j)) := fun F H B R d e v u q Q rp hd he h hq => by
  obtain ⟨i, j, rfl, rfl, h⟩ := gI_elim h
  exact ⟨i, j, hd, he, hq _ B F H _ h (Same.refl F) rp rfl⟩
theorem od_intC {K : PySem.W.Frag} {C : Int → Int → Prop} {f : Int → Int → Int} : OpD K TS (rI C fun i j => .int (f i j)) (gIC C fun i j => .int (f i j)) := fun F H B R d e v u q Q rp hd he h hq => by
  obtain ⟨i, j, rfl, rfl, c, h⟩ := gIC_elim h
  exact ⟨i, j, hd, he, c, hq _ B F H _ h (Same.refl F) rp rfl⟩
theorem de_sub (ha : DE X TS W a ta) (hb : DE X TS W b tb) : DE X TS W (.BinOp a .Sub b pos) (dOp (gI fun i j => .int (i - j)) ta tb) := de_op op_sub od_int ha hb
theorem de_fdiv (ha : DE X TS W a ta) (hb : DE X TS W b tb) : DE X TS W (.BinOp a .FloorDiv b pos) (dOp (gIC CDiv fun i j => .int (i / j)) ta tb) := de_op op_fdiv od_intC ha hb
theorem de_mod (ha : DE X TS W a ta) (hb : DE X TS W b tb) : DE X TS W (.BinOp a .Mod b pos) (dOp (gIC (fun _ j => 0 < j) fun i j => .int (i % j)) ta tb) := de_op op_mod od_intC ha hb
theorem de_pow (ha : DE X TS W a ta) (hb : DE X TS W b tb) : DE X TS W (.BinOp a .Pow b pos) (dOp (gIC CPow fun i j => .int (i ^ j.toNat)) ta tb) := de_op op_pow od_intC ha hb
theorem de_shl (ha : DE X TS W a ta) (hb : DE X TS W b tb) : DE X TS W (.BinOp a .LShift b pos) (dOp (gIC CPow fun i j => .int (i * 2 ^ j.toNat)) ta tb) := de_op op_shl od_intC ha hb
theorem de_xor (ha : DE X TS W a ta) (hb : DE X TS W b tb) : DE X TS W (.BinOp a .BitXor b pos) (dOp (gI fun i j => .int (Builtin.bitXor i j)) ta tb) := de_op op_xor od_int ha hb
def gU (f : Int → D) : G1 := fun d B q => match d with
  | .int i => q (f i) B
  | _ => False
theorem gU_elim {f : Int → D} {d : D} {B : Bx} {q : DK} (h : gU f d B q) : ∃ i, d = .int i ∧ q (f i) B := by
  unfold gU at h
  split at h
  · exact ⟨_, rfl, h⟩
  · exact h.elim
theorem de_neg (ha : DE X TS W a ta) : DE X TS W (.UnaryOp .USub a pos) (dUn (gU fun i => .int (-i)) ta) := de_un un_neg (fun F H B R d v q Q rp hd h hq => by
  obtain ⟨i, rfl, h⟩ := gU_elim h
  exact ⟨i, hd, hq _ B F H _ h (Same.refl F) rp rfl⟩) ha

/-! #### + : whole numbers, texts, lists, tuples -/
def rAdd4 (K : PySem.W.Frag) : R2 := fun x y H Q => (∃ i j, x = .int i ∧ y = .int j ∧ Q (.int (i + j)) H) ∨ ((∃ i j, x = .str i ∧ y = .str j ∧ i.length + j.length ≤ sizeLine ∧ Q (.str (i ++ j)) H) ∨ (rCat x y H Q ∨ rCatA K x y H Q))
theorem op_add4 : OpR X (binaryOp .Add) (rAdd4 X.K) := OpR.or op_add (OpR.or op_add_str (OpR.or op_cat op_catA))
def gAdd : G2 := fun d e B q => match d, e with
  | .int i, .int j => q (.int (i + j)) B
  | .str x, .str y => x.length + y.length ≤ sizeLine ∧ q (.str (x ++ y)) B
  | .lst xs, .lst ys => xs.length + ys.length ≤ sizeLine ∧ q (.lst (xs ++ ys)) B
  | .tup xs, .tup ys => xs.length + ys.length ≤ sizeLine ∧ q (.tup (xs ++ ys)) B
  | _, _ => False
/-- a new list, a new tuple, as a datum -/
theorem new_lst {K : PySem.W.Frag} {F H : Hp} {B R : Bx} {ds : List D} {vs : List V} {q : DK} {Q : VK} {p : Addr} (rp : RepH K TS F H B R) (hq : QL K TS F R q Q) (h : q (.lst ds) B) (dv : Dvs K F ds vs) (hp : H p = none) : Q (.ref p) (upd H p (.lst vs)) :=
  hq _ B (upd F p (.lst vs)) _ _ h (same_upd (rp.freeF hp)) (rp.datum hp) ⟨p, vs, rfl, upd_same, dv.mono (same_upd (rp.freeF hp))⟩
theorem new_tup {K : PySem.W.Frag} {F H : Hp} {B R : Bx} {ds : List D} {vs : List V} {q : DK} {Q : VK} {p : Addr} (rp : RepH K TS F H B R) (hq : QL K TS F R q Q) (h : q (.tup ds) B) (dv : Dvs K F ds vs) (hp : H p = none) : Q (.ref p) (upd H p (.tup vs)) :=
  hq _ B (upd F p (.tup vs)) _ _ h (same_upd (rp.freeF hp)) (rp.datum hp) ⟨p, vs, rfl, upd_same, dv.mono (same_upd (rp.freeF hp))⟩
/-- a new list, as a box -/
theorem new_lstB {K : PySem.W.Frag} {F H : Hp} {B R : Bx} {ds : List D} {vs : List V} {q : DK} {Q : VK} {p : Addr} (rp : RepH K TS F H B R) (hq : QL K TS F R q Q) (h : ∀ p, B p = none → q (.ref p) (put B p (.lst ds))) (dv : Dvs K F ds vs) (hp : H p = none) : Q (.ref p) (upd H p (.lst vs)) :=
  hq _ (put B p (.lst ds)) F _ _ (h p (rp.freeB hp)) (Same.refl F) (rp.box hp ⟨vs, upd_same, dv⟩) rfl
theorem od_add {K : PySem.W.Frag} : OpD K TS (rAdd4 K) gAdd := fun F H B R d e v u q Q rp hd he h hq => by
  unfold gAdd at h
  split at h
  · exact .inl ⟨_, _, hd, he, hq _ B F H _ h (Same.refl F) rp rfl⟩
  · exact .inr (.inl ⟨_, _, hd, he, h.1, hq _ B F H _ h.2 (Same.refl F) rp rfl⟩)
  · obtain ⟨a, vs, rfl, h1, h2⟩ := hd
    obtain ⟨b, us, rfl, h3, h4⟩ := he
    exact .inr (.inr (.inl ⟨a, b, vs, us, rfl, rfl, rp.le _ _ h1, rp.le _ _ h3, by rw [h2.length, h4.length]; exact h.1, fun p hp => new_lst rp hq h.2 (h2.append h4) hp⟩))
  · obtain ⟨a, vs, rfl, h1, h2⟩ := hd
    obtain ⟨b, us, rfl, h3, h4⟩ := he
    have l2 := h2.length
    have l4 := h4.length
    refine .inr (.inr (.inr ⟨a, b, vs, us, rfl, rfl, SqT.of (rp.le _ _ h1), SqT.of (rp.le _ _ h3), by rw [l2, l4]; exact h.1, fun e => ?_, fun _ e => ?_, fun _ _ p hp => new_tup rp hq h.2 (h2.append h4) hp⟩))
    · subst e
      have e1 := List.eq_nil_of_length_eq_zero l2.symm
      subst e1
      exact hq _ B F H _ h.2 (Same.refl F) rp ⟨b, us, rfl, h3, h4⟩
    · subst e
      have e1 := List.eq_nil_of_length_eq_zero l4.symm
      subst e1
      rw [List.append_nil] at h
      exact hq _ B F H _ h.2 (Same.refl F) rp ⟨a, vs, rfl, h1, h2⟩
  · exact h.elim
theorem de_add (ha : DE X TS W a ta) (hb : DE X TS W b tb) : DE X TS W (.BinOp a .Add b pos) (dOp gAdd ta tb) := de_op op_add4 od_add ha hb

/-! #### * : whole numbers, a list by a number -/
def gMul : G2 := fun d e B q => match d, e with
  | .int i, .int j => CMul i j ∧ q (.int (i * j)) B
  | .lst xs, .int k => (-(2 ^ 63) ≤ k ∧ k < 2 ^ 63 ∧ xs.length * k.toNat ≤ sizeLine) ∧ q (.lst (List.replicate k.toNat xs).flatten) B
  | _, _ => False
theorem Dvs.rep {K : PySem.W.Frag} {F : Hp} {ds : List D} {vs : List V} (h : Dvs K F ds vs) : ∀ k : Nat, Dvs K F (List.replicate k ds).flatten (List.replicate k vs).flatten
  | 0 => rfl
  | k + 1 => by rw [List.replicate_succ, List.replicate_succ, List.flatten_cons, List.flatten_cons]; exact h.append (Dvs.rep h k)
theorem od_mul {K : PySem.W.Frag} : OpD K TS (fun x y H Q => rI CMul (fun i j => .int (i * j)) x y H Q ∨ rRep x y H Q) gMul := fun F H B R d e v u q Q rp hd he h hq => by
  unfold gMul at h
  split at h
  · exact .inl ⟨_, _, hd, he, h.1, hq _ B F H _ h.2 (Same.refl F) rp rfl⟩
  · obtain ⟨a, vs, rfl, h1, h2⟩ := hd
    have he : u = _ := he
    subst he
    exact .inr ⟨a, _, vs, rfl, rfl, rp.le _ _ h1, h.1.1, h.1.2.1, by rw [h2.length]; exact h.1.2.2, fun p hp => new_lst rp hq h.2 (h2.rep _) hp⟩
  · exact h.elim
theorem de_mul (ha : DE X TS W a ta) (hb : DE X TS W b tb) : DE X TS W (.BinOp a .Mult b pos) (dOp gMul ta tb) := de_op (OpR.or op_mul op_rep) od_mul ha hb

/-! ### data as the library's data -/
mutual
def toPy : D → Option PyData
  | .non => some .none
  | .bl b => some (.bool b)
  | .int i => some (.int i)
  | .str x => some (.str x)
  | .lst xs => (toPys xs).map .list
  | .tup xs => (toPys xs).map .tuple
  | .rol xs => (toPys xs).map .list
  | .rot xs => (toPys xs).map .tuple
  | .ref _ => none
  | .ty _ => none
  | .obj _ => none
def toPys : List D → Option (List PyData)
  | [] => some []
  | d :: ds => match toPy d, toPys ds with
    | some p, some ps => some (p :: ps)
    | _, _ => none
end
mutual
theorem dp_of {K : PySem.W.Frag} {F H : Hp} (le : Same F H) : ∀ (d : D) {v : V} {p : PyData}, toPy d = some p → Dv K F d v → Dp K H v p
  | .non, _, _, h, e => by cases h; cases e; exact .non
  | .bl b, _, _, h, e => by cases h; cases e; exact .bl b
  | .int b, _, _, h, e => by cases h; cases e; exact .int b
  | .str b, _, _, h, e => by cases h; cases e; exact .str b
  | .lst ds, _, _, h, ⟨a, vs, e1, e2, e3⟩ => by
    obtain ⟨ps, h1, h2⟩ := Option.map_eq_some_iff.mp h
    subst h2 e1
    exact .lst (SqL.of (le _ _ e2)) (dps_of le ds h1 e3)
  | .tup ds, _, _, h, ⟨a, vs, e1, e2, e3⟩ => by
    obtain ⟨ps, h1, h2⟩ := Option.map_eq_some_iff.mp h
    subst h2 e1
    exact .tup (SqT.of (le _ _ e2)) (dps_of le ds h1 e3)
  | .rol ds, _, _, h, ⟨a, vs, e1, e2, e3⟩ => by
    obtain ⟨ps, h1, h2⟩ := Option.map_eq_some_iff.mp h
    subst h2 e1
    exact .lst (le.seq e2) (dps_of le ds h1 e3)
  | .rot ds, _, _, h, ⟨a, vs, e1, e2, e3⟩ => by
    obtain ⟨ps, h1, h2⟩ := Option.map_eq_some_iff.mp h
    subst h2 e1
    exact .tup (SqT_mono le e2) (dps_of le ds h1 e3)
  | .ref _, _, _, h, _ => by cases h
  | .ty _, _, _, h, _ => by cases h
  | .obj _, _, _, h, _ => by cases h
theorem dps_of {K : PySem.W.Frag} {F H : Hp} (le : Same F H) : ∀ (ds : List D) {vs : List V} {ps : List PyData}, toPys ds = some ps → Dvs K F ds vs → DpAll K H vs ps
  | [], _, _, h, e => by cases h; cases e; exact .nil
  | d :: ds, _, _, h, ⟨v, vs, e1, e2, e3⟩ => by
    subst e1
    unfold toPys at h
    split at h
    · rename_i p ps h1 h2
      cases h
      exact .cons (dp_of le d h1 e2) (dps_of le ds h2 e3)
    · cases h
end

/-! ### == and != -/
def eqD (d e : D) : Option Bool := match toPy d, toPy e with
  | some p, some r => if SeqAt.shaped p = true ∧ SeqAt.shaped r = true then some (PyData.eqv p r) else none
  | _, _ => none
theorem eqD_elim {d e : D} {b : Bool} (h : eqD d e = some b) : ∃ p r, toPy d = some p ∧ toPy e = some r ∧ SeqAt.shaped p = true ∧ SeqAt.shaped r = true ∧ b = PyData.eqv p r := by
  unfold eqD at h
  split at h
  · rename_i p r h1 h2
    split at h
    · rename_i hs
      cases h
      exact ⟨p, r, h1, h2, hs.1, hs.2, rfl⟩
    · cases h
  · cases h
def gEq (neg : Bool) : G2 := fun d e B q => match d, e with
  | .int i, .int j => q (.bl (neg ^^ decide (i = j))) B
  | .str i, .str j => q (.bl (neg ^^ decide (i = j))) B
  | .bl i, .bl j => q (.bl (neg ^^ decide (i = j))) B
  | d, e => ∃ b, eqD d e = some b ∧ q (.bl (neg ^^ b)) B
theorem dec_V_int {i j : Int} : decide (V.int i = V.int j) = decide (i = j) := by rw [decide_eq_decide]; exact ⟨fun h => V.int.inj h, fun h => by rw [h]⟩
theorem dec_V_str {i j : Str} : decide (V.str i = V.str j) = decide (i = j) := by rw [decide_eq_decide]; exact ⟨fun h => V.str.inj h, fun h => by rw [h]⟩
theorem dec_V_bl {i j : Bool} : decide (V.bl i = V.bl j) = decide (i = j) := by rw [decide_eq_decide]; exact ⟨fun h => V.bl.inj h, fun h => by rw [h]⟩
theorem od_eq {K : PySem.W.Frag} : OpD K TS (fun x y H Q => rEq x y H Q ∨ rEqD K x y H Q) (gEq false) := fun F H B R d e v u q Q rp hd he h hq => by
  have fin : ∀ b, q (.bl (false ^^ b)) B → Q (.bl b) H := fun b hb => hq (.bl b) B F H _ (by rw [Bool.false_xor] at hb; exact hb) (Same.refl F) rp rfl
  unfold gEq at h
  split at h
  · cases hd; cases he
    exact .inl ⟨rfl, by rw [dec_V_int]; exact fin _ h⟩
  · cases hd; cases he
    exact .inl ⟨rfl, by rw [dec_V_str]; exact fin _ h⟩
  · cases hd; cases he
    exact .inl ⟨rfl, by rw [dec_V_bl]; exact fin _ h⟩
  · obtain ⟨b, hb, h⟩ := h
    obtain ⟨p, r, h1, h2, h3, h4, rfl⟩ := eqD_elim hb
    exact .inr ⟨p, r, dp_of rp.le _ h1 hd, dp_of rp.le _ h2 he, h3, h4, fin _ h⟩
theorem od_ne {K : PySem.W.Frag} : OpD K TS (fun x y H Q => rNe x y H Q ∨ rNeD K x y H Q) (gEq true) := fun F H B R d e v u q Q rp hd he h hq => by
  have fin : ∀ b, q (.bl (true ^^ b)) B → Q (.bl (!b)) H := fun b hb => hq (.bl (!b)) B F H _ (by rw [Bool.true_xor] at hb; exact hb) (Same.refl F) rp rfl
  unfold gEq at h
  split at h
  · cases hd; cases he
    exact .inl ⟨rfl, by rw [dec_V_int]; exact fin _ h⟩
  · cases hd; cases he
    exact .inl ⟨rfl, by rw [dec_V_str]; exact fin _ h⟩
  · cases hd; cases he
    exact .inl ⟨rfl, by rw [dec_V_bl]; exact fin _ h⟩
  · obtain ⟨b, hb, h⟩ := h
    obtain ⟨p, r, h1, h2, h3, h4, rfl⟩ := eqD_elim hb
    exact .inr ⟨p, r, dp_of rp.le _ h1 hd, dp_of rp.le _ h2 he, h3, h4, fin _ h⟩

/-! ### comparisons, as values, as tests -/
def dTest (t : DTE) : DTT := fun Γ B q x => t Γ B (fun d B1 => match d with
  | .bl b => q b B1
  | _ => False) x
theorem de_cmp {op : CmpOp} {r : R2} {g : G2} (ho : OpR X (compareOp op) r) (hg : OpD X.K TS r g) (ha : DE X TS W a ta) (hb : DE X TS W b tb) (hm : behindInMarks op b = false) : DE X TS W (.Compare a [op] [b] pos) (dOp g ta tb) :=
  PE_imp (pe_cmpR ho ha hb hm) fun _ _ _ => two_lift hg
theorem test_lift {K : PySem.W.Frag} {t : TE} {u : DTE} (k : ∀ σ H Q, LE K TS W u σ H Q → t σ H Q) {σ : L2.St} {H : Hp} {Q : Bool → Hp → Prop} (h : LT K TS W (dTest u) σ H Q) : t σ H fun x H' => ∃ c, x = .bl c ∧ Q c H' := by
  obtain ⟨F, Γ, B, R, q, x, s, rp, hu, hq, hx⟩ := h
  refine k σ H _ ⟨F, Γ, B, R, _, x, s, rp, hu, fun d B1 F1 H1 v h1 e1 rp1 dv1 => ?_, hx⟩
  dsimp only at h1
  split at h1
  · exact ⟨_, dv1, hq _ B1 F1 H1 h1 e1 rp1⟩
  · exact h1.elim
theorem dt_cmp {op : CmpOp} {r : R2} {g : G2} (ho : OpR X (compareOp op) r) (hg : OpD X.K TS r g) (ha : DE X TS W a ta) (hb : DE X TS W b tb) (hm : behindInMarks op b = false) : DT X TS W (.Compare a [op] [b] pos) (dTest (dOp g ta tb)) :=
  PT_imp (pt_cmpR ho ha hb hm) fun σ H Q h => test_lift (fun _ _ _ => two_lift hg) h
/-- an expression that gives True or False, as a test -/
theorem dt_val {t : DTE} (h : DE X TS W e t) (he : ∀ whole, isTrue e X.env whole = (do let v ← whole; standAt e.pos; holding [v] (truthy v)) := by intro _; rfl) : DT X TS W e (dTest t) :=
  PT_imp (pt_val h he) fun σ H Q hh => test_lift (fun _ _ _ z => z) hh
def dChain (g g' : G2) (ta tb tc : DTE) : DTE := fun Γ B q x => ta Γ B (fun d B1 => tb Γ B1 (fun e B2 => g d e B2 fun z B3 => match z with
  | .bl k => if k = true then tc Γ B3 (fun f B4 => g' e f B4 q) x else q (.bl false) B3
  | _ => False) x) x
end
end DL
set_option Elab.async false
set_option linter.all false
set_option maxRecDepth 100000
set_option maxHeartbeats 1000000
/-! DL2: more expressions. -/
namespace DL
open PySem PySem.Spec PyProof.Rows L2

section
variable {X : Cx} {TS : List Addr} {W : WX} {a b c e : Expr} {ta tb tc : DTE} {pos : Pos}
/-! ### chains, and, or, not, if-else -/
theorem chain_lift {K : PySem.W.Frag} {r r' : R2} {g g' : G2} (ho : OpD K TS r g) (ho' : OpD K TS r' g') {σ : L2.St} {H : Hp} {Q : VK} (h : LE K TS W (dChain g g' ta tb tc) σ H Q) : tChain r r' (LE K TS W ta) (LE K TS W tb) (LE K TS W tc) σ H Q := by
  obtain ⟨F, Γ, B, R, q, x, s, rp, hu, hq, hx⟩ := h
  refine ⟨F, Γ, B, R, _, x, s, rp, hu, fun d B1 F1 H1 v h1 e1 rp1 dv1 => ?_, hx⟩
  refine ⟨F1, Γ, B1, R, _, x, s.mono e1, rp1, h1, fun e B2 F2 H2 u h2 e2 rp2 dv2 => ?_, hx.mono e1⟩
  refine ho F2 H2 B2 R d e v u _ _ rp2 (dv1.mono e2) dv2 h2 fun z B3 F3 H3 w h3 e3 rp3 dv3 => ?_
  split at h3
  · rename_i k
    refine ⟨k, dv3, ?_⟩
    cases k with
    | true =>
      refine iteT ?_
      have h3 : tc Γ B3 _ x := h3
      refine ⟨F3, Γ, B3, R, _, x, s.mono (e1.trans (e2.trans e3)), rp3, h3, fun f B4 F4 H4 w4 h4 e4 rp4 dv4 => ?_, hx.mono (e1.trans (e2.trans e3))⟩
      exact ho' F4 H4 B4 R e f u w4 q Q rp4 (dv2.mono (e3.trans e4)) dv4 h4 (hq.mono (e1.trans (e2.trans (e3.trans e4))))
    | false =>
      refine iteF ?_
      have h3 : q (.bl false) B3 := h3
      exact hq _ B3 F3 H3 _ h3 (e1.trans (e2.trans e3)) rp3 rfl
  · exact h3.elim
theorem de_chain {op op' : CmpOp} {r r' : R2} {g g' : G2} (ho : OpR X (compareOp op) r) (hg : OpD X.K TS r g) (ho' : OpR X (compareOp op') r') (hg' : OpD X.K TS r' g') (ha : DE X TS W a ta) (hb : DE X TS W b tb) (hc : DE X TS W c tc)
    (hm : lastMarks [op, op'] [b, c] = false := by with_unfolding_all rfl) : DE X TS W (.Compare a [op, op'] [b, c] pos) (dChain g g' ta tb tc) := PE_imp (pe_chain ho ho' ha hb hc hm) fun _ _ _ => chain_lift hg hg'
theorem dt_chain {op op' : CmpOp} {r r' : R2} {g g' : G2} (ho : OpR X (compareOp op) r) (hg : OpD X.K TS r g) (ho' : OpR X (compareOp op') r') (hg' : OpD X.K TS r' g') (ha : DE X TS W a ta) (hb : DE X TS W b tb) (hc : DE X TS W c tc)
    (hm : lastMarks [op, op'] [b, c] = false := by with_unfolding_all rfl) : DT X TS W (.Compare a [op, op'] [b, c] pos) (dTest (dChain g g' ta tb tc)) := PT_imp (pt_chain ho ho' ha hb hc hm) fun σ H Q h => test_lift (fun _ _ _ => chain_lift hg hg') h
/-- a rule of comparison with what it computes -/
structure CmpD (X : Cx) (TS : List Addr) (op : CmpOp) (g : G2) : Prop where
  ok : ∃ r, OpR X (compareOp op) r ∧ OpD X.K TS r g
theorem cd_lt : CmpD X TS .Lt (gI fun i j => .bl (decide (i < j))) := ⟨_, op_lt, od_bl⟩
theorem cd_le : CmpD X TS .LtE (gI fun i j => .bl (decide (i ≤ j))) := ⟨_, op_le, od_bl⟩
theorem cd_gt : CmpD X TS .Gt (gI fun i j => .bl (decide (j < i))) := ⟨_, op_gt, od_bl⟩
theorem cd_ge : CmpD X TS .GtE (gI fun i j => .bl (decide (j ≤ i))) := ⟨_, op_ge, od_bl⟩
theorem cd_eq (hu : X.A.units + 64 < cLine) : CmpD X TS .Eq (gEq false) := ⟨_, OpR.or op_eq (op_eqD hu), od_eq⟩
theorem cd_ne (hu : X.A.units + 64 < cLine) : CmpD X TS .NotEq (gEq true) := ⟨_, OpR.or op_ne (op_neD hu), od_ne⟩
def gIsN (neg : Bool) : G2 := fun d e B q => match d, e with
  | .non, .non => q (.bl (neg ^^ true)) B
  | .int _, .non => q (.bl (neg ^^ false)) B
  | .bl _, .non => q (.bl (neg ^^ false)) B
  | .str _, .non => q (.bl (neg ^^ false)) B
  | .tup _, .non => q (.bl (neg ^^ false)) B
  | .lst _, .non => q (.bl (neg ^^ false)) B
  | .ref _, .non => q (.bl (neg ^^ false)) B
  | _, _ => False
theorem isN_of {K : PySem.W.Frag} {F : Hp} {d e : D} {v u : V} {B : Bx} {q : DK} {neg : Bool} (hd : Dv K F d v) (he : Dv K F e u) (h : gIsN neg d e B q) : u = .non ∧ q (.bl (neg ^^ decide (v = .non))) B := by
  unfold gIsN at h
  split at h
  · cases hd; cases he; exact ⟨rfl, h⟩
  · cases hd; cases he; exact ⟨rfl, h⟩
  · cases hd; cases he; exact ⟨rfl, h⟩
  · cases hd; cases he; exact ⟨rfl, h⟩
  · obtain ⟨_, _, e1, _⟩ := hd; cases e1; cases he; exact ⟨rfl, h⟩
  · obtain ⟨_, _, e1, _⟩ := hd; cases e1; cases he; exact ⟨rfl, h⟩
  · cases hd; cases he; exact ⟨rfl, h⟩
  · exact h.elim
theorem cd_isN : CmpD X TS .Is (gIsN false) := ⟨_, op_isN, fun F H B R d e v u q Q rp hd he h hq => by
  obtain ⟨e1, h⟩ := isN_of hd he h
  rw [Bool.false_xor] at h
  exact ⟨e1, hq _ B F H _ h (Same.refl F) rp rfl⟩⟩
theorem cd_notN : CmpD X TS .IsNot (gIsN true) := ⟨_, op_notN, fun F H B R d e v u q Q rp hd he h hq => by
  obtain ⟨e1, h⟩ := isN_of hd he h
  rw [Bool.true_xor] at h
  exact ⟨e1, hq _ B F H _ h (Same.refl F) rp rfl⟩⟩
theorem de_cp {op : CmpOp} {g : G2} (hc : CmpD X TS op g) (ha : DE X TS W a ta) (hb : DE X TS W b tb) (hm : behindInMarks op b = false := by first | exact nomark _ | rfl) : DE X TS W (.Compare a [op] [b] pos) (dOp g ta tb) :=
  let ⟨_, ho, hg⟩ := hc.ok; de_cmp ho hg ha hb hm
theorem dt_cp {op : CmpOp} {g : G2} (hc : CmpD X TS op g) (ha : DE X TS W a ta) (hb : DE X TS W b tb) (hm : behindInMarks op b = false := by first | exact nomark _ | rfl) : DT X TS W (.Compare a [op] [b] pos) (dTest (dOp g ta tb)) :=
  let ⟨_, ho, hg⟩ := hc.ok; dt_cmp ho hg ha hb hm
theorem de_ch {op op' : CmpOp} {g g' : G2} (h1 : CmpD X TS op g) (h2 : CmpD X TS op' g') (ha : DE X TS W a ta) (hb : DE X TS W b tb) (hc : DE X TS W c tc) (hm : lastMarks [op, op'] [b, c] = false := by with_unfolding_all rfl) :
    DE X TS W (.Compare a [op, op'] [b, c] pos) (dChain g g' ta tb tc) := let ⟨_, ho, hg⟩ := h1.ok; let ⟨_, ho', hg'⟩ := h2.ok; de_chain ho hg ho' hg' ha hb hc hm
theorem dt_ch {op op' : CmpOp} {g g' : G2} (h1 : CmpD X TS op g) (h2 : CmpD X TS op' g') (ha : DE X TS W a ta) (hb : DE X TS W b tb) (hc : DE X TS W c tc) (hm : lastMarks [op, op'] [b, c] = false := by with_unfolding_all rfl) :
    DT X TS W (.Compare a [op, op'] [b, c] pos) (dTest (dChain g g' ta tb tc)) := let ⟨_, ho, hg⟩ := h1.ok; let ⟨_, ho', hg'⟩ := h2.ok; dt_chain ho hg ho' hg' ha hb hc hm

def dAnd (t u : DTT) : DTT := fun Γ B q x => t Γ B (fun c B1 => if c = true then u Γ B1 q x else q false B1) x
def dOr (t u : DTT) : DTT := fun Γ B q x => t Γ B (fun c B1 => if c = true then q true B1 else u Γ B1 q x) x
def dNot (t : DTT) : DTT := fun Γ B q x => t Γ B (fun c B1 => q (!c) B1) x
variable {t u : DTT} {rest : List Expr}
theorem dw_and1 (ha : DT X TS W a t) : DW X TS W (.BoolOp .And [a] pos) t := pw_and1 ha
theorem dw_or1 (ha : DT X TS W a t) : DW X TS W (.BoolOp .Or [a] pos) t := pw_or1 ha
theorem dw_and (ha : DT X TS W a t) (hb : DW X TS W (.BoolOp .And (b :: rest) pos) u) : DW X TS W (.BoolOp .And (a :: b :: rest) pos) (dAnd t u) := PW_imp (pw_and ha hb) fun σ H Q ⟨F, Γ, B, R, q, x, s, rp, hu, hq, hx⟩ => by
  refine ⟨F, Γ, B, R, _, x, s, rp, hu, fun c B1 F1 H1 h1 e1 rp1 => ?_, hx⟩
  cases c with
  | true => exact iteT ⟨F1, Γ, B1, R, q, x, s.mono e1, rp1, h1, hq.mono e1, hx.mono e1⟩
  | false => exact iteF (hq _ B1 F1 H1 h1 e1 rp1)
theorem dw_or (ha : DT X TS W a t) (hb : DW X TS W (.BoolOp .Or (b :: rest) pos) u) : DW X TS W (.BoolOp .Or (a :: b :: rest) pos) (dOr t u) := PW_imp (pw_or ha hb) fun σ H Q ⟨F, Γ, B, R, q, x, s, rp, hu, hq, hx⟩ => by
  refine ⟨F, Γ, B, R, _, x, s, rp, hu, fun c B1 F1 H1 h1 e1 rp1 => ?_, hx⟩
  cases c with
  | false => exact iteF ⟨F1, Γ, B1, R, q, x, s.mono e1, rp1, h1, hq.mono e1, hx.mono e1⟩
  | true => exact iteT (hq _ B1 F1 H1 h1 e1 rp1)
theorem dt_w (h : DW X TS W e t) : DT X TS W e t := h.pt
theorem dt_not (ha : DT X TS W a t) : DT X TS W (.UnaryOp .Not a pos) (dNot t) := PT_imp (pt_not ha) fun σ H Q ⟨F, Γ, B, R, q, x, s, rp, hu, hq, hx⟩ =>
  ⟨F, Γ, B, R, _, x, s, rp, hu, fun c B1 F1 H1 h1 e1 rp1 => hq _ B1 F1 H1 h1 e1 rp1, hx⟩
/-- .. as values -/
def dAndV (ta tb : DTE) : DTE := fun Γ B q x => ta Γ B (fun d B1 => match d with
  | .bl c => if c = true then tb Γ B1 q x else q (.bl false) B1
  | _ => False) x
def dOrV (ta tb : DTE) : DTE := fun Γ B q x => ta Γ B (fun d B1 => match d with
  | .bl c => if c = true then q (.bl true) B1 else tb Γ B1 q x
  | _ => False) x
def dNotV (ta : DTE) : DTE := fun Γ B q x => ta Γ B (fun d B1 => match d with
  | .bl c => q (.bl (!c)) B1
  | _ => False) x
theorem de_one {op} (h : DE X TS W a ta) : DE X TS W (.BoolOp op [a] pos) ta := pe_one h
theorem de_and (ha : DE X TS W a ta) (hb : DE X TS W (.BoolOp .And (b :: rest) pos) tb) : DE X TS W (.BoolOp .And (a :: b :: rest) pos) (dAndV ta tb) := PE_imp (pe_and ha hb) fun σ H Q ⟨F, Γ, B, R, q, x, s, rp, hu, hq, hx⟩ => by
  refine ⟨F, Γ, B, R, _, x, s, rp, hu, fun d B1 F1 H1 v h1 e1 rp1 dv1 => ?_, hx⟩
  dsimp only at h1
  split at h1
  · rename_i c
    refine ⟨c, dv1, ?_⟩
    cases c with
    | true => exact iteT ⟨F1, Γ, B1, R, q, x, s.mono e1, rp1, h1, hq.mono e1, hx.mono e1⟩
    | false => exact iteF (hq _ B1 F1 H1 _ (show q (.bl false) B1 from h1) e1 rp1 rfl)
  · exact h1.elim
theorem de_or (ha : DE X TS W a ta) (hb : DE X TS W (.BoolOp .Or (b :: rest) pos) tb) : DE X TS W (.BoolOp .Or (a :: b :: rest) pos) (dOrV ta tb) := PE_imp (pe_or ha hb) fun σ H Q ⟨F, Γ, B, R, q, x, s, rp, hu, hq, hx⟩ => by
  refine ⟨F, Γ, B, R, _, x, s, rp, hu, fun d B1 F1 H1 v h1 e1 rp1 dv1 => ?_, hx⟩
  dsimp only at h1
  split at h1
  · rename_i c
    refine ⟨c, dv1, ?_⟩
    cases c with
    | false => exact iteF ⟨F1, Γ, B1, R, q, x, s.mono e1, rp1, h1, hq.mono e1, hx.mono e1⟩
    | true => exact iteT (hq _ B1 F1 H1 _ (show q (.bl true) B1 from h1) e1 rp1 rfl)
  · exact h1.elim
theorem de_not (ha : DE X TS W a ta) : DE X TS W (.UnaryOp .Not a pos) (dNotV ta) := PE_imp (pe_not ha) fun σ H Q ⟨F, Γ, B, R, q, x, s, rp, hu, hq, hx⟩ => by
  refine ⟨F, Γ, B, R, _, x, s, rp, hu, fun d B1 F1 H1 v h1 e1 rp1 dv1 => ?_, hx⟩
  dsimp only at h1
  split at h1
  · exact ⟨_, dv1, hq _ B1 F1 H1 _ h1 e1 rp1 rfl⟩
  · exact h1.elim
def dIf (t : DTT) (ta tb : DTE) : DTE := fun Γ B q x => t Γ B (fun c B1 => if c = true then ta Γ B1 q x else tb Γ B1 q x) x
theorem de_if (hc : DT X TS W c t) (ha : DE X TS W a ta) (hb : DE X TS W b tb) : DE X TS W (.IfExp c a b pos) (dIf t ta tb) := PE_imp (pe_ifExp hc ha hb) fun σ H Q ⟨F, Γ, B, R, q, x, s, rp, hu, hq, hx⟩ => by
  refine ⟨F, Γ, B, R, _, x, s, rp, hu, fun c B1 F1 H1 h1 e1 rp1 => ?_, hx⟩
  cases c with
  | true => exact iteT ⟨F1, Γ, B1, R, q, x, s.mono e1, rp1, h1, hq.mono e1, hx.mono e1⟩
  | false => exact iteF ⟨F1, Γ, B1, R, q, x, s.mono e1, rp1, h1, hq.mono e1, hx.mono e1⟩

/-! ### arguments, displays -/
def dNil : DTA := fun _ B q _ => q [] B
def dCons (ta : DTE) (tr : DTA) : DTA := fun Γ B q x => ta Γ B (fun d B1 => tr Γ B1 (fun ds B2 => q (d :: ds) B2) x) x
variable {es : List Expr} {tl : DTA}
theorem da_nil : DA X TS W [] dNil := PA_imp pa_nil fun σ H Q ⟨F, Γ, B, R, q, x, s, rp, hu, hq, hx⟩ => hq [] B F H [] hu (Same.refl F) rp rfl
theorem da_cons (ha : DE X TS W e ta) (hr : DA X TS W es tl) (hs : starEach (e :: es) X.env = (false, eval e X.env) :: starEach es X.env := by rfl) : DA X TS W (e :: es) (dCons ta tl) :=
  PA_imp (pa_cons ha hr hs) fun σ H Q ⟨F, Γ, B, R, q, x, s, rp, hu, hq, hx⟩ =>
    ⟨F, Γ, B, R, _, x, s, rp, hu, fun d B1 F1 H1 v h1 e1 rp1 dv1 => ⟨F1, Γ, B1, R, _, x, s.mono e1, rp1, h1, fun ds B2 F2 H2 vs h2 e2 rp2 dv2 => hq _ B2 F2 H2 _ h2 (e1.trans e2) rp2 ⟨v, vs, rfl, dv1.mono e2, dv2⟩, hx.mono e1⟩, hx⟩
/-- at most twenty items: nothing to show -/
def few : Nat → List D → Bool
  | _, [] => true
  | 0, _ :: _ => false
  | n + 1, _ :: r => few n r
theorem few_le : ∀ {n : Nat} {ds : List D}, few n ds = true → ds.length ≤ n
  | _, [], _ => Nat.zero_le _
  | 0, _ :: _, h => by cases h
  | n + 1, _ :: r, h => Nat.succ_le_succ (few_le (n := n) (ds := r) h)
def sizeOk (ds : List D) : Prop := match few 30 ds with
  | true => True
  | false => ds.length ≤ sizeLine
theorem sizeOk_le {ds : List D} (h : sizeOk ds) : ds.length ≤ sizeLine := by
  unfold sizeOk at h
  split at h
  · rename_i h1
    exact Nat.le_trans (few_le h1) (by decide)
  · exact h
def dTup (t : DTA) : DTE := fun Γ B q x => t Γ B (fun ds B1 => sizeOk ds ∧ q (.tup ds) B1) x
def dLst (t : DTA) : DTE := fun Γ B q x => t Γ B (fun ds B1 => sizeOk ds ∧ q (.lst ds) B1) x
/-- .. a list that will be written -/
def dLstB (t : DTA) : DTE := fun Γ B q x => t Γ B (fun ds B1 => sizeOk ds ∧ ∀ p, B1 p = none → q (.ref p) (put B1 p (.lst ds))) x
theorem de_tup {k} (h : DA X TS W es tl) : DE X TS W (.Tuple es k pos) (dTup tl) := PE_imp (pe_tup h) fun σ H Q ⟨F, Γ, B, R, q, x, s, rp, hu, hq, hx⟩ =>
  ⟨F, Γ, B, R, _, x, s, rp, hu, fun ds B1 F1 H1 vs h1 e1 rp1 dv1 => ⟨by rw [dv1.length]; exact sizeOk_le h1.1, fun p hp => new_tup rp1 (hq.mono e1) h1.2 dv1 hp⟩, hx⟩
theorem de_lst (h : DA X TS W es tl) : DE X TS W (.List es pos) (dLst tl) := PE_imp (pe_lst h) fun σ H Q ⟨F, Γ, B, R, q, x, s, rp, hu, hq, hx⟩ =>
  ⟨F, Γ, B, R, _, x, s, rp, hu, fun ds B1 F1 H1 vs h1 e1 rp1 dv1 => ⟨by rw [dv1.length]; exact sizeOk_le h1.1, fun p hp => new_lst rp1 (hq.mono e1) h1.2 dv1 hp⟩, hx⟩
theorem de_lstB (h : DA X TS W es tl) : DE X TS W (.List es pos) (dLstB tl) := PE_imp (pe_lst h) fun σ H Q ⟨F, Γ, B, R, q, x, s, rp, hu, hq, hx⟩ =>
  ⟨F, Γ, B, R, _, x, s, rp, hu, fun ds B1 F1 H1 vs h1 e1 rp1 dv1 => ⟨by rw [dv1.length]; exact sizeOk_le h1.1, fun p hp => new_lstB rp1 (hq.mono e1) h1.2 dv1 hp⟩, hx⟩
/-- {}, with keys ints and texts; with tuples as keys -/
def dNewK : DTE := fun _ B q _ => ∀ p, B p = none → q (.ref p) (put B p (.dK []))
def dNewT : DTE := fun _ B q _ => ∀ p, B p = none → q (.ref p) (put B p (.dT []))
theorem de_newK : DE X TS W (.Dict [] [] pos) dNewK := PE_imp pe_dnewK fun σ H Q ⟨F, Γ, B, R, q, x, s, rp, hu, hq, hx⟩ p hp => hq _ (put B p (.dK [])) F _ _ (hu p (rp.freeB hp)) (Same.refl F) (rp.box hp ⟨[], upd_same, rfl⟩) rfl
theorem de_newT : DE X TS W (.Dict [] [] pos) dNewT := PE_imp pe_dnewT fun σ H Q ⟨F, Γ, B, R, q, x, s, rp, hu, hq, hx⟩ p hp => hq _ (put B p (.dT [])) F _ _ (hu p (rp.freeB hp)) (Same.refl F) (rp.box hp ⟨[], upd_same, rfl⟩) rfl

/-! ### calls of built-ins by values -/
abbrev GA := List D → Bx → DK → Prop
def CallD (K : PySem.W.Frag) (TS : List Addr) (r : List V → Hp → VK → Prop) (g : GA) : Prop := ∀ F H B R ds vs q Q, RepH K TS F H B R → Dvs K F ds vs → g ds B q → QL K TS F R q Q → r vs H Q
structure BltD (X : Cx) (TS : List Addr) (f : Value) (g : GA) : Prop where
  ok : ∃ r, CallR X f r ∧ CallD X.K TS r g
def dCB (g : GA) (t : DTA) : DTE := fun Γ B q x => t Γ B (fun ds B1 => g ds B1 q) x
theorem cb_lift {K : PySem.W.Frag} {r : List V → Hp → VK → Prop} {g : GA} (hg : CallD K TS r g) {σ : L2.St} {H : Hp} {Q : VK} (h : LE K TS W (dCB g tl) σ H Q) : tCB r (LA K TS W tl) σ H Q := by
  obtain ⟨F, Γ, B, R, q, x, s, rp, hu, hq, hx⟩ := h
  exact ⟨F, Γ, B, R, _, x, s, rp, hu, fun ds B1 F1 H1 vs h1 e1 rp1 dv1 => hg F1 H1 B1 R ds vs q Q rp1 dv1 h1 (hq.mono e1), hx⟩
theorem de_blt {x : Str} {p : Pos} {id : String} {g : GA} (hc : BltD X TS (.builtin id) g) (hg : Gl X x) (hm : X.mg x = none) (hv : bootBuiltins x = some (.builtin id)) (ha : DA X TS W (e :: es) tl) (hn : x ≠ "__name__" := by decide) (hdb : (x == ("__debug__" : Str)) = false := by decide)
    (he : starEach (e :: es) X.env = (false, eval e X.env) :: starEach es X.env := by rfl) (hpl : (backTo pos (starEach es X.env)).any (·.1) = false := by rfl) : DE X TS W (.Call (.Name x p) (e :: es) [] pos) (dCB g tl) :=
  let ⟨_, h1, h2⟩ := hc.ok; PE_imp (pe_callB h1 hg hm hv ha hn hdb he hpl) fun _ _ _ => cb_lift h2
theorem de_bty {x : Str} {p : Pos} {T : String} {g : GA} (hc : BltD X TS (.type T) g) (hg : Gl X x) (hm : X.mg x = none) (hv : bootBuiltins x = some (.type T)) (ha : DA X TS W (e :: es) tl) (hn : x ≠ "__name__" := by decide) (hdb : (x == ("__debug__" : Str)) = false := by decide)
    (he : starEach (e :: es) X.env = (false, eval e X.env) :: starEach es X.env := by rfl) (hpl : (backTo pos (starEach es X.env)).any (·.1) = false := by rfl) : DE X TS W (.Call (.Name x p) (e :: es) [] pos) (dCB g tl) :=
  let ⟨_, h1, h2⟩ := hc.ok; PE_imp (pe_callTy h1 hg hm hv ha hn hdb he hpl) fun _ _ _ => cb_lift h2
theorem Dvs.one {K : PySem.W.Frag} {F : Hp} {d : D} {vs : List V} (h : Dvs K F [d] vs) : ∃ v, vs = [v] ∧ Dv K F d v := by
  obtain ⟨v, r, e, h1, h2⟩ := h
  cases h2
  exact ⟨v, e, h1⟩
theorem Dvs.two {K : PySem.W.Frag} {F : Hp} {d d' : D} {vs : List V} (h : Dvs K F [d, d'] vs) : ∃ v v', vs = [v, v'] ∧ Dv K F d v ∧ Dv K F d' v' := by
  obtain ⟨v, r, e, h1, h2⟩ := h
  obtain ⟨v', e', h3⟩ := h2.one
  subst e'
  exact ⟨v, v', e, h1, h3⟩
/-- the items of what may be walked, asked for its length .. -/
def seqOf (B : Bx) : D → Option (List D)
  | .lst xs => some xs
  | .tup xs => some xs
  | .rol xs => some xs
  | .rot xs => some xs
  | .ref a => match B a with
    | some (.lst xs) => some xs
    | _ => none
  | _ => none
theorem seq_of {K : PySem.W.Frag} {F H : Hp} {B R : Bx} {d : D} {v : V} {ds : List D} (rp : RepH K TS F H B R) (h : seqOf B d = some ds) (dv : Dv K F d v) : ∃ a vs, v = .ref a ∧ Dvs K F ds vs ∧ (SqL K H a vs ∨ SqT K H a vs) := by
  unfold seqOf at h
  split at h
  · cases h; obtain ⟨a, vs, e, h1, h2⟩ := dv; exact ⟨a, vs, e, h2, .inl (SqL.of (rp.le _ _ h1))⟩
  · cases h; obtain ⟨a, vs, e, h1, h2⟩ := dv; exact ⟨a, vs, e, h2, .inr (SqT.of (rp.le _ _ h1))⟩
  · cases h; obtain ⟨a, vs, e, h1, h2⟩ := dv; exact ⟨a, vs, e, h2, .inl (rp.le.seq h1)⟩
  · cases h; obtain ⟨a, vs, e, h1, h2⟩ := dv; exact ⟨a, vs, e, h2, .inr (SqT_mono rp.le h1)⟩
  · rename_i a
    split at h
    · rename_i xs hb
      cases h
      obtain ⟨_, vs, h1, h2⟩ := rp.bx a _ hb
      exact ⟨a, vs, dv, h2, .inl (SqL.of h1)⟩
    · cases h
  · cases h
/-- .. that is a list -/
def lstOf (B : Bx) : D → Option (List D)
  | .lst xs => some xs
  | .rol xs => some xs
  | .ref a => match B a with
    | some (.lst xs) => some xs
    | _ => none
  | _ => none
theorem lst_of {K : PySem.W.Frag} {F H : Hp} {B R : Bx} {d : D} {v : V} {ds : List D} (rp : RepH K TS F H B R) (h : lstOf B d = some ds) (dv : Dv K F d v) : ∃ a vs, v = .ref a ∧ Dvs K F ds vs ∧ SqL K H a vs := by
  unfold lstOf at h
  split at h
  · cases h; obtain ⟨a, vs, e, h1, h2⟩ := dv; exact ⟨a, vs, e, h2, SqL.of (rp.le _ _ h1)⟩
  · cases h; obtain ⟨a, vs, e, h1, h2⟩ := dv; exact ⟨a, vs, e, h2, rp.le.seq h1⟩
  · rename_i a
    split at h
    · rename_i xs hb
      cases h
      obtain ⟨_, vs, h1, h2⟩ := rp.bx a _ hb
      exact ⟨a, vs, dv, h2, SqL.of h1⟩
    · cases h
  · cases h
/-- .. that is a tuple -/
def tupOf : D → Option (List D)
  | .tup xs => some xs
  | .rot xs => some xs
  | _ => none
theorem tup_of {K : PySem.W.Frag} {F H : Hp} {B R : Bx} {d : D} {v : V} {ds : List D} (rp : RepH K TS F H B R) (h : tupOf d = some ds) (dv : Dv K F d v) : ∃ a vs, v = .ref a ∧ Dvs K F ds vs ∧ SqT K H a vs := by
  unfold tupOf at h
  split at h
  · cases h; obtain ⟨a, vs, e, h1, h2⟩ := dv; exact ⟨a, vs, e, h2, SqT.of (rp.le _ _ h1)⟩
  · cases h; obtain ⟨a, vs, e, h1, h2⟩ := dv; exact ⟨a, vs, e, h2, SqT_mono rp.le h1⟩
  · cases h
theorem QL.here {K : PySem.W.Frag} {F H : Hp} {B R : Bx} {q : DK} {Q : VK} (hq : QL K TS F R q Q) (rp : RepH K TS F H B R) {d : D} {v : V} (h : q d B) (dv : Dv K F d v) : Q v H := hq d B F H v h (Same.refl F) rp dv

/-- len -/
def gLen : GA := fun ds B q => match ds with
  | [.str x] => x.length ≤ sizeLine ∧ q (.int x.length) B
  | [.ref a] => (∃ xs, B a = some (.lst xs) ∧ q (.int xs.length) B) ∨ ∃ kvs, B a = some (.dK kvs) ∧ q (.int kvs.length) B
  | [d] => ∃ xs, seqOf B d = some xs ∧ q (.int xs.length) B
  | _ => False
theorem bd_len : BltD X TS (.builtin "len") gLen := ⟨_, CallR.or call_len call_lenD, fun F H B R ds vs q Q rp dv h hq => by
  unfold gLen at h
  split at h
  · obtain ⟨v, e, h1⟩ := dv.one
    subst e
    exact .inl ⟨v, _, rfl, by rw [show v = _ from h1]; exact ⟨h.1, rfl⟩, hq.here rp h.2 rfl⟩
  · obtain ⟨v, e, h1⟩ := dv.one
    subst e
    have h1 : v = _ := h1
    subst h1
    rcases h with ⟨xs, hb, h⟩ | ⟨kvs, hb, h⟩
    · obtain ⟨_, vs, h2, h3⟩ := rp.bx _ _ hb
      exact .inl ⟨_, vs.length, rfl, .inl ⟨vs, SqL.of h2, rfl⟩, hq.here rp (d := .int xs.length) h (by rw [h3.length]; rfl)⟩
    · obtain ⟨_, ws, h2, h3⟩ := rp.bx _ _ hb
      exact .inr ⟨_, ws, rfl, h2, hq.here rp (d := .int kvs.length) h (by rw [h3.length]; rfl)⟩
  · obtain ⟨v, e, h1⟩ := dv.one
    subst e
    obtain ⟨xs, hb, h⟩ := h
    obtain ⟨a, vs, rfl, h2, h3⟩ := seq_of rp hb h1
    refine .inl ⟨_, vs.length, rfl, ?_, hq.here rp (d := .int xs.length) h (by rw [h2.length]; rfl)⟩
    rcases h3 with h3 | h3
    · exact .inl ⟨vs, h3, rfl⟩
    · exact .inr ⟨vs, h3, rfl⟩
  · exact h.elim⟩
def gAbs : GA := fun ds B q => match ds with
  | [.int i] => q (.int (if i < 0 then -i else i)) B
  | _ => False
theorem bd_abs : BltD X TS (.builtin "abs") gAbs := ⟨_, call_abs, fun F H B R ds vs q Q rp dv h hq => by
  unfold gAbs at h
  split at h
  · obtain ⟨v, e, h1⟩ := dv.one
    subst e
    exact ⟨_, by rw [show v = _ from h1], hq.here rp h rfl⟩
  · exact h.elim⟩
def gIntC : GA := fun ds B q => match ds with
  | [.int i] => q (.int i) B
  | [.bl k] => q (.int (if k then 1 else 0)) B
  | _ => False
theorem bd_int : BltD X TS (.type "int") gIntC := ⟨_, call_int1, fun F H B R ds vs q Q rp dv h hq => by
  unfold gIntC at h
  split at h
  · obtain ⟨v, e, h1⟩ := dv.one
    subst e
    exact .inl ⟨_, by rw [show v = _ from h1], hq.here rp h rfl⟩
  · obtain ⟨v, e, h1⟩ := dv.one
    subst e
    exact .inr ⟨_, by rw [show v = _ from h1], hq.here rp h rfl⟩
  · exact h.elim⟩
def gMM (f : Int → Int → Int) : GA := fun ds B q => match ds with
  | [.int i, .int j] => q (.int (f i j)) B
  | _ => False
theorem bd_max2 (hc : X.calm = true) : BltD X TS (.builtin "max") (gMM fun i j => if j > i then j else i) := ⟨_, call_max2 hc, fun F H B R ds vs q Q rp dv h hq => by
  unfold gMM at h
  split at h
  · obtain ⟨v, u, e, h1, h2⟩ := dv.two
    subst e
    exact ⟨_, _, by rw [show v = _ from h1, show u = _ from h2], hq.here rp h rfl⟩
  · exact h.elim⟩
theorem bd_min2 (hc : X.calm = true) : BltD X TS (.builtin "min") (gMM fun i j => if j < i then j else i) := ⟨_, call_min2 hc, fun F H B R ds vs q Q rp dv h hq => by
  unfold gMM at h
  split at h
  · obtain ⟨v, u, e, h1, h2⟩ := dv.two
    subst e
    exact ⟨_, _, by rw [show v = _ from h1, show u = _ from h2], hq.here rp h rfl⟩
  · exact h.elim⟩
/-- list(x), as a datum or a box; tuple(x) -/
def gList : GA := fun ds B q => match ds with
  | [d] => ∃ xs, seqOf B d = some xs ∧ q (.lst xs) B
  | _ => False
def gListB : GA := fun ds B q => match ds with
  | [d] => ∃ xs, seqOf B d = some xs ∧ ∀ p, B p = none → q (.ref p) (put B p (.lst xs))
  | _ => False
theorem bd_list : BltD X TS (.type "list") gList := ⟨_, call_list_of, fun F H B R ds vs q Q rp dv h hq => by
  unfold gList at h
  split at h
  · obtain ⟨v, e, h1⟩ := dv.one
    subst e
    obtain ⟨xs, hb, h⟩ := h
    obtain ⟨a, vs, rfl, h2, h3⟩ := seq_of rp hb h1
    exact ⟨a, vs, rfl, h3, fun l hl => new_lst rp hq h h2 hl⟩
  · exact h.elim⟩
theorem bd_listB : BltD X TS (.type "list") gListB := ⟨_, call_list_of, fun F H B R ds vs q Q rp dv h hq => by
  unfold gListB at h
  split at h
  · obtain ⟨v, e, h1⟩ := dv.one
    subst e
    obtain ⟨xs, hb, h⟩ := h
    obtain ⟨a, vs, rfl, h2, h3⟩ := seq_of rp hb h1
    exact ⟨a, vs, rfl, h3, fun l hl => new_lstB rp hq h h2 hl⟩
  · exact h.elim⟩
def gTuple : GA := fun ds B q => match ds with
  | [.tup xs] => q (.tup xs) B
  | [d] => ∃ xs, lstOf B d = some xs ∧ q (.tup xs) B
  | _ => False
theorem bd_tuple : BltD X TS (.type "tuple") gTuple := ⟨_, call_tuple_of, fun F H B R ds vs q Q rp dv h hq => by
  unfold gTuple at h
  split at h
  · obtain ⟨v, e, a, us, h1, h2, h3⟩ := dv.one
    subst e h1
    exact ⟨a, us, rfl, .inr ⟨SqT.of (rp.le _ _ h2), hq.here rp h ⟨a, us, rfl, h2, h3⟩⟩⟩
  · obtain ⟨v, e, h1⟩ := dv.one
    subst e
    obtain ⟨xs, hb, h⟩ := h
    obtain ⟨a, vs, rfl, h2, h3⟩ := lst_of rp hb h1
    exact ⟨a, vs, rfl, .inl ⟨h3, fun l hl => new_tup rp hq h h2 hl⟩⟩
  · exact h.elim⟩
/-- sum, max, min of whole numbers -/
def gSum : GA := fun ds B q => match ds with
  | [d] => ∃ ns : List Int, lstOf B d = some (ns.map .int) ∧ q (.int ns.sum) B
  | _ => False
theorem bd_sum (hc : X.calm = true) : BltD X TS (.builtin "sum") gSum := ⟨_, cr_sum hc, fun F H B R ds vs q Q rp dv h hq => by
  unfold gSum at h
  split at h
  · obtain ⟨v, e, h1⟩ := dv.one
    subst e
    obtain ⟨ns, hb, h⟩ := h
    obtain ⟨a, vs, rfl, h2, h3⟩ := lst_of rp hb h1
    rw [h2.ints] at h3
    exact ⟨a, ns, rfl, h3, hq.here rp h rfl⟩
  · exact h.elim⟩
end
end DL
set_option Elab.async false
set_option linter.all false
set_option maxRecDepth 100000
set_option maxHeartbeats 1000000
/-! DL3: dicts, subscripts, slices, methods. -/
namespace DL
open PySem PySem.Spec PyProof.Rows L2

/-! ### tables of data -/
section
variable {κ : Type} [DecidableEq κ]
def valD (kvs : List (κ × D)) (k : κ) : Option D := (kvs.find? fun kv => decide (kv.1 = k)).map (·.2)
def putD (kvs : List (κ × D)) (k : κ) (v : D) : List (κ × D) :=
  if (kvs.any fun kv => decide (kv.1 = k)) = true then kvs.map (fun kv => if kv.1 = k then (kv.1, v) else kv) else kvs ++ [(k, v)]
def dropD (kvs : List (κ × D)) (k : κ) : List (κ × D) := kvs.filter fun kv => decide (kv.1 ≠ k)
theorem valD_nil {k : κ} : valD ([] : List (κ × D)) k = none := rfl
theorem valD_cons {p : κ × D} {r : List (κ × D)} {k : κ} : valD (p :: r) k = if p.1 = k then some p.2 else valD r k := by
  unfold valD
  rw [List.find?_cons]
  by_cases e : p.1 = k
  · rw [if_pos e, decide_eq_true e]; rfl
  · rw [if_neg e, decide_eq_false e]
theorem valD_any (k : κ) : ∀ kvs : List (κ × D), (kvs.any fun kv => decide (kv.1 = k)) = (valD kvs k).isSome
  | [] => rfl
  | p :: r => by
    rw [List.any_cons, valD_any k r, valD_cons]
    by_cases e : p.1 = k
    · rw [if_pos e, decide_eq_true e]; rfl
    · rw [if_neg e, decide_eq_false e, Bool.false_or]
theorem valD_map (k j : κ) (y : D) : ∀ kvs : List (κ × D), valD (kvs.map fun kv => if kv.1 = k then (kv.1, y) else kv) j = (valD kvs j).map fun x => if j = k then y else x
  | [] => rfl
  | p :: r => by
    rw [List.map_cons, valD_cons, valD_cons, valD_map k j y r]
    by_cases e : p.1 = k
    · rw [if_pos e]
      by_cases e2 : p.1 = j
      · rw [if_pos e2, if_pos e2, Option.map_some, if_pos (e2.symm.trans e)]
      · rw [if_neg e2, if_neg e2]
    · rw [if_neg e]
      by_cases e2 : p.1 = j
      · rw [if_pos e2, if_pos e2, Option.map_some, if_neg (fun z => e (e2.trans z))]
      · rw [if_neg e2, if_neg e2]
theorem valD_snoc (k j : κ) (y : D) : ∀ kvs : List (κ × D), valD kvs k = none → valD (kvs ++ [(k, y)]) j = if j = k then some y else valD kvs j
  | [], _ => by
    rw [List.nil_append, valD_cons]
    by_cases e : k = j
    · rw [if_pos e, if_pos e.symm]
    · rw [if_neg e, if_neg (Ne.symm e)]
  | p :: r, h => by
    rw [valD_cons] at h
    by_cases e : p.1 = k
    · rw [if_pos e] at h; cases h
    · rw [if_neg e] at h
      rw [List.cons_append, valD_cons, valD_cons, valD_snoc k j y r h]
      by_cases e2 : p.1 = j
      · rw [if_pos e2, if_pos e2, if_neg (fun z => e (e2.trans z))]
      · rw [if_neg e2, if_neg e2]
theorem valD_put (kvs : List (κ × D)) (k j : κ) (y : D) : valD (putD kvs k y) j = if j = k then some y else valD kvs j := by
  unfold putD
  rw [valD_any]
  cases h : valD kvs k with
  | none => rw [if_neg (by simp)]; exact valD_snoc k j y kvs h
  | some x =>
    rw [if_pos (show (Option.some x).isSome = true from rfl), valD_map]
    by_cases e : j = k
    · subst e; rw [h, if_pos rfl]; simp
    · rw [if_neg e]; cases valD kvs j <;> simp [e]
theorem length_putD (kvs : List (κ × D)) (k : κ) (v : D) : (putD kvs k v).length ≤ kvs.length + 1 := by
  unfold putD
  split <;> simp
theorem putD_new {kvs : List (κ × D)} {k : κ} (v : D) (h : valD kvs k = none) : putD kvs k v = kvs ++ [(k, v)] := by
  unfold putD
  rw [valD_any, h, if_neg (by simp)]
section
variable {K : PySem.W.Frag} {F : Hp}
theorem DKv.val : ∀ {kvs : List (κ × D)} {ws : List (κ × V)}, DKv K F kvs ws → ∀ k, (valD kvs k = none ∧ valV ws k = none) ∨ ∃ d v, valD kvs k = some d ∧ valV ws k = some v ∧ Dv K F d v
  | [], _, h, k => by cases h; exact .inl ⟨rfl, rfl⟩
  | (k', d) :: kvs, _, ⟨v, ws, e, h1, h2⟩, k => by
    subst e
    rw [valD_cons]
    by_cases e : k' = k
    · rw [if_pos e, valV_pos e]; exact .inr ⟨d, v, rfl, rfl, h1⟩
    · rw [if_neg e, valV_neg e]; exact h2.val k
theorem DKv.some {kvs : List (κ × D)} {ws : List (κ × V)} {k : κ} {d : D} (h : DKv K F kvs ws) (e : valD kvs k = some d) : ∃ v, valV ws k = Option.some v ∧ Dv K F d v := by
  rcases h.val k with ⟨h1, _⟩ | ⟨d', v, h1, h2, h3⟩
  · rw [e] at h1; cases h1
  · rw [e] at h1; cases h1; exact ⟨v, h2, h3⟩
theorem DKv.none {kvs : List (κ × D)} {ws : List (κ × V)} {k : κ} (h : DKv K F kvs ws) (e : valD kvs k = Option.none) : valV ws k = Option.none := by
  rcases h.val k with ⟨_, h1⟩ | ⟨d', v, h1, _, _⟩
  · exact h1
  · rw [e] at h1; cases h1
theorem DKv.isSome {kvs : List (κ × D)} {ws : List (κ × V)} (h : DKv K F kvs ws) (k : κ) : (valV ws k).isSome = (valD kvs k).isSome := by
  rcases h.val k with ⟨h1, h2⟩ | ⟨d', v, h1, h2, _⟩
  · rw [h1, h2]; rfl
  · rw [h1, h2]; rfl
theorem DKv.any {kvs : List (κ × D)} {ws : List (κ × V)} (h : DKv K F kvs ws) (k : κ) : (ws.any fun kv => decide (kv.1 = k)) = (kvs.any fun kv => decide (kv.1 = k)) := by
  rw [valV_any, valD_any, h.isSome]
theorem DKv.repl (k : κ) {y : D} {u : V} (ry : Dv K F y u) : ∀ {kvs : List (κ × D)} {ws : List (κ × V)}, DKv K F kvs ws →
    DKv K F (kvs.map fun kv => if kv.1 = k then (kv.1, y) else kv) (ws.map fun kv => if kv.1 = k then (kv.1, u) else kv)
  | [], _, h => by cases h; rfl
  | (k', d) :: kvs, _, ⟨v, ws, e, h1, h2⟩ => by
    subst e
    rw [List.map_cons, List.map_cons]
    by_cases e : k' = k
    · rw [if_pos e, if_pos e]; exact ⟨u, _, rfl, ry, h2.repl k ry⟩
    · rw [if_neg e, if_neg e]; exact ⟨v, _, rfl, h1, h2.repl k ry⟩
theorem DKv.put {kvs : List (κ × D)} {ws : List (κ × V)} (h : DKv K F kvs ws) (k : κ) {y : D} {u : V} (ry : Dv K F y u) : DKv K F (putD kvs k y) (putK ws k u) := by
  unfold putD putK
  rw [h.any]
  split
  · exact h.repl k ry
  · exact h.append ⟨u, [], rfl, ry, rfl⟩
theorem DKv.drop (k : κ) : ∀ {kvs : List (κ × D)} {ws : List (κ × V)}, DKv K F kvs ws → DKv K F (dropD kvs k) (dropK ws k)
  | [], _, h => by cases h; rfl
  | (k', d) :: kvs, _, ⟨v, ws, e, h1, h2⟩ => by
    subst e
    unfold dropD dropK
    rw [List.filter_cons, List.filter_cons]
    by_cases e : k' = k
    · rw [if_neg (by simp [e]), if_neg (by simp [e])]; exact h2.drop k
    · rw [if_pos (by simp [e]), if_pos (by simp [e])]; exact ⟨v, _, rfl, h1, h2.drop k⟩
end
end

/-! ### keys -/
def keyD : D → Option Key
  | .int i => some (.inl i)
  | .str x => some (.inr x)
  | _ => none
def keysD : List D → Option (List Key)
  | [] => some []
  | d :: ds => match keyD d, keysD ds with
    | some k, some ks => some (k :: ks)
    | _, _ => none
theorem keyD_v {K : PySem.W.Frag} {F : Hp} {d : D} {k : Key} {v : V} (h : keyD d = some k) (dv : Dv K F d v) : v = kV k := by
  unfold keyD at h
  split at h
  · cases h; exact dv
  · cases h; exact dv
  · cases h
theorem keysD_vs {K : PySem.W.Frag} {F : Hp} : ∀ {ds : List D} {ks : List Key} {vs : List V}, keysD ds = some ks → Dvs K F ds vs → vs = ks.map kV
  | [], _, _, h, e => by cases h; exact e
  | d :: ds, _, _, h, ⟨v, vs, e1, e2, e3⟩ => by
    subst e1
    unfold keysD at h
    split at h
    · rename_i k ks h1 h2
      cases h
      rw [keyD_v h1 e2, keysD_vs h2 e3]; rfl
    · cases h
theorem keysD_ints : ∀ ns : List Int, keysD (ns.map .int) = some (ns.map Sum.inl)
  | [] => rfl
  | n :: ns => by show (match keyD (.int n), keysD (ns.map .int) with | some k, some ks => some (k :: ks) | _, _ => none) = _; rw [keysD_ints ns]; rfl
/-- what stands under the key e of the dict at a: none: it is no dict, or e no key -/
def dGet (B : Bx) (a : Addr) (e : D) : Option (Option D) := match B a with
  | some (.dK kvs) => (keyD e).map (valD kvs)
  | some (.lk _ _ kvs) => (keyD e).map (valD kvs)
  | some (.dT kvs) => match e with
    | .tup xs => (keysD xs).map (valD kvs)
    | _ => none
  | _ => none
section
variable {K : PySem.W.Frag} {TS : List Addr} {F H : Hp} {B R : Bx} {a : Addr} {e d : D} {v : V} {o : Option D}
theorem dGet_of (rp : RepH K TS F H B R) (h : dGet B a e = some o) (dv : Dv K F e v) : ∃ r, DGet H a v r ∧ ((o = none ∧ r = none) ∨ ∃ d u, o = some d ∧ r = some u ∧ Dv K F d u) := by
  unfold dGet at h
  split at h
  · rename_i kvs hb
    obtain ⟨k, h1, h2⟩ := Option.map_eq_some_iff.mp h
    obtain ⟨_, ws, h3, h4⟩ := rp.bx a _ hb
    rw [keyD_v h1 dv]
    refine ⟨_, DGet.k h3, ?_⟩
    rw [← h2]
    rcases h4.val k with ⟨e1, e2⟩ | ⟨d, u, e1, e2, e3⟩
    · exact .inl ⟨e1, e2⟩
    · exact .inr ⟨d, u, e1, e2, e3⟩
  · rename_i ob ws kvs hb
    obtain ⟨k, h1, h2⟩ := Option.map_eq_some_iff.mp h
    obtain ⟨_, h3, h4⟩ := rp.bx a _ hb
    rw [keyD_v h1 dv]
    refine ⟨_, .inl ⟨ws, k, .inr ⟨ob, h3⟩, rfl, rfl⟩, ?_⟩
    rw [← h2]
    rcases h4.val k with ⟨e1, e2⟩ | ⟨d, u, e1, e2, e3⟩
    · exact .inl ⟨e1, e2⟩
    · exact .inr ⟨d, u, e1, e2, e3⟩
  · rename_i kvs hb
    split at h
    · obtain ⟨ks, h1, h2⟩ := Option.map_eq_some_iff.mp h
      obtain ⟨_, ws, h3, h4⟩ := rp.bx a _ hb
      obtain ⟨b, vs, rfl, h5, h6⟩ := dv
      rw [keysD_vs h1 h6] at h5
      refine ⟨_, DGet.t h3 (rp.le _ _ h5), ?_⟩
      rw [← h2]
      rcases h4.val ks with ⟨e1, e2⟩ | ⟨d, u, e1, e2, e3⟩
      · exact .inl ⟨e1, e2⟩
      · exact .inr ⟨d, u, e1, e2, e3⟩
    · cases h
  · cases h
end

section
variable {X : Cx} {TS : List Addr} {W : WX} {a b c e o : Expr} {ta tb tc : DTE} {pos : Pos}
/-! ### subscripts -/
def rIxD' : R2 := fun x y H Q => ∃ a v, x = .ref a ∧ DGet H a y (some v) ∧ Q v H
theorem ix_dict (hu : X.A.units + 1 < cLine) : IxR X rIxD' := by
  intro value slice pins s σ H x y v u Q I rx ry h hs
  obtain ⟨a, z, rfl, g, q⟩ := h
  cases rx
  exact tail_any (dict_typeIs I g) PySem.F.slot_dict_getitem.lookup (d_getItem hu I g ry fun w' s' I' rw' => ⟨z, H, I', rw', q⟩) hs
def ixSeq (xs : List D) (e : D) (q : D → Prop) : Prop := ∃ i v, e = .int i ∧ atI xs i = some v ∧ q v
def gIx : G2 := fun d e B q => match d with
  | .lst xs => ixSeq xs e fun v => q v B
  | .tup xs => ixSeq xs e fun v => q v B
  | .rol xs => ixSeq xs e fun v => q v B
  | .rot xs => ixSeq xs e fun v => q v B
  | .str z => ∃ i c, e = .int i ∧ z.length ≤ sizeLine ∧ atI z.cps.toList i = some c ∧ q (.str ⟨#[c]⟩) B
  | .ref a => (∃ xs, B a = some (.lst xs) ∧ ixSeq xs e fun v => q v B) ∨ ∃ v, dGet B a e = some (some v) ∧ q v B
  | _ => False
theorem atI_dvs {K : PySem.W.Frag} {F : Hp} {ds : List D} {vs : List V} {i : Int} {d : D} (h : Dvs K F ds vs) (e : atI ds i = some d) : ∃ v, atI vs i = some v ∧ Dv K F d v := by
  unfold atI at e ⊢
  rw [← h.length] at e
  cases hi : ixN vs.length i with
  | none => rw [hi] at e; cases e
  | some j =>
    rw [hi] at e
    exact h.get e
theorem od_ix {K : PySem.W.Frag} : OpD K TS (fun x y H Q => rIx K x y H Q ∨ rIxD' x y H Q) gIx := fun F H B R d e v u q Q rp hd he h hq => by
  have lst : ∀ {a : Addr} {xs : List D} {vs : List V}, SqL K H a vs → Dvs K F xs vs → ixSeq xs e (fun v => q v B) → rIx K (.ref a) u H Q := fun {a xs vs} h1 h2 ⟨i, w, e1, e2, e3⟩ => by
    subst e1
    obtain ⟨z, e4, e5⟩ := atI_dvs h2 e2
    exact .inl ⟨a, vs, i, z, rfl, he, h1, e4, hq.here rp e3 e5⟩
  have tup : ∀ {a : Addr} {xs : List D} {vs : List V}, SqT K H a vs → Dvs K F xs vs → ixSeq xs e (fun v => q v B) → rIx K (.ref a) u H Q := fun {a xs vs} h1 h2 ⟨i, w, e1, e2, e3⟩ => by
    subst e1
    obtain ⟨z, e4, e5⟩ := atI_dvs h2 e2
    exact .inr (.inl ⟨a, vs, i, z, rfl, he, h1, e4, hq.here rp e3 e5⟩)
  unfold gIx at h
  split at h
  · obtain ⟨a, vs, rfl, h1, h2⟩ := hd; exact .inl (lst (SqL.of (rp.le _ _ h1)) h2 h)
  · obtain ⟨a, vs, rfl, h1, h2⟩ := hd; exact .inl (tup (SqT.of (rp.le _ _ h1)) h2 h)
  · obtain ⟨a, vs, rfl, h1, h2⟩ := hd; exact .inl (lst (rp.le.seq h1) h2 h)
  · obtain ⟨a, vs, rfl, h1, h2⟩ := hd; exact .inl (tup (SqT_mono rp.le h1) h2 h)
  · obtain ⟨i, c, e1, e2, e3, e4⟩ := h
    subst e1
    exact .inl (.inr (.inr ⟨_, i, c, hd, he, e2, e3, hq.here rp e4 rfl⟩))
  · have hd : v = _ := hd
    subst hd
    rcases h with ⟨xs, hb, h⟩ | ⟨w, hb, h⟩
    · obtain ⟨_, vs, h2, h3⟩ := rp.bx _ _ hb
      exact .inl (lst (SqL.of h2) h3 h)
    · obtain ⟨r, h1, h2⟩ := dGet_of rp hb he
      rcases h2 with ⟨z, _⟩ | ⟨d, z, h3, h4, h5⟩
      · cases z
      · cases h3
        subst h4
        exact .inr ⟨_, z, rfl, h1, hq.here rp h h5⟩
  · exact h.elim
/-- a[b] -/
theorem de_ix (hu : X.A.units + 1 < cLine) (ha : DE X TS W a ta) (hb : DE X TS W b tb) (hs : PlainIx b := by exact fun _ _ => rfl) : DE X TS W (.Subscript a b pos) (dOp gIx ta tb) :=
  PE_imp (pe_ix (IxR.or ix_seq (ix_dict hu)) ha hb hs) fun _ _ _ => two_lift od_ix

/-! ### in, not in -/
def flatD : D → Bool
  | .non => true
  | .bl _ => true
  | .int _ => true
  | .str _ => true
  | _ => false
def eqF : D → D → Bool
  | .non, .non => true
  | .bl a, .bl b => a == b
  | .bl a, .int b => (if a then 1 else 0) == b
  | .int a, .bl b => a == (if b then 1 else 0)
  | .int a, .int b => a == b
  | .str a, .str b => a == b
  | _, _ => false
def inD (x : D) (xs : List D) : Bool := xs.any fun y => eqF y x
def toV : D → V
  | .non => .non
  | .bl b => .bl b
  | .int i => .int i
  | .str x => .str x
  | _ => .non
theorem flat_v {K : PySem.W.Frag} {F : Hp} : ∀ {d : D} {v : V}, flatD d = true → Dv K F d v → v = toV d ∧ flatV v = true
  | .non, _, _, h => by cases h; exact ⟨rfl, rfl⟩
  | .bl _, _, _, h => by cases h; exact ⟨rfl, rfl⟩
  | .int _, _, _, h => by cases h; exact ⟨rfl, rfl⟩
  | .str _, _, _, h => by cases h; exact ⟨rfl, rfl⟩
  | .lst _, _, h, _ => by cases h
  | .tup _, _, h, _ => by cases h
  | .rol _, _, h, _ => by cases h
  | .rot _, _, h, _ => by cases h
  | .ref _, _, h, _ => by cases h
  | .ty _, _, h, _ => by cases h
  | .obj _, _, h, _ => by cases h
theorem eqF_v {d e : D} (hd : flatD d = true) (he : flatD e = true) : eqV (toV d) (toV e) = eqF d e := by
  cases d <;> first | (exact absurd hd Bool.false_ne_true) | (cases e <;> first | (exact absurd he Bool.false_ne_true) | rfl)
theorem inD_v {K : PySem.W.Frag} {F : Hp} {x : D} {v : V} (hx : flatD x = true) (dv : Dv K F x v) : ∀ {ds : List D} {vs : List V}, ds.all flatD = true → Dvs K F ds vs → vs.all flatV = true ∧ inV v vs = inD x ds
  | [], _, _, h => by cases h; exact ⟨rfl, rfl⟩
  | d :: ds, _, h, ⟨w, ws, e1, e2, e3⟩ => by
    subst e1
    rw [List.all_cons, Bool.and_eq_true] at h
    obtain ⟨i1, i2⟩ := inD_v hx dv h.2 e3
    obtain ⟨f1, f2⟩ := flat_v h.1 e2
    obtain ⟨f3, f4⟩ := flat_v hx dv
    refine ⟨by rw [List.all_cons, f2, i1]; rfl, ?_⟩
    unfold inV inD at i2 ⊢
    rw [List.any_cons, List.any_cons, i2, f1, f3, eqF_v h.1 hx]
theorem inD_int (n : Int) : ∀ ns : List Int, inD (.int n) (ns.map .int) = decide (n ∈ ns)
  | [] => rfl
  | m :: ns => by
    unfold inD
    rw [List.map_cons, List.any_cons]
    have ih := inD_int n ns
    unfold inD at ih
    rw [ih]
    show ((m == n) || _) = _
    by_cases h : m = n
    · subst h; simp
    · have h' : ¬ n = m := fun z => h z.symm
      simp [h, h']
theorem inD_str (n : Str) : ∀ ns : List Str, inD (.str n) (ns.map .str) = decide (n ∈ ns)
  | [] => rfl
  | m :: ns => by
    unfold inD
    rw [List.map_cons, List.any_cons]
    have ih := inD_str n ns
    unfold inD at ih
    rw [ih]
    show ((m == n) || _) = _
    by_cases h : m = n
    · subst h; simp
    · have h' : ¬ n = m := fun z => h z.symm
      simp [h, h']
theorem flat_ints : ∀ ns : List Int, (ns.map D.int).all flatD = true
  | [] => rfl
  | _ :: ns => by rw [List.map_cons, List.all_cons, flat_ints ns]; rfl
theorem flat_strs : ∀ ns : List Str, (ns.map D.str).all flatD = true
  | [] => rfl
  | _ :: ns => by rw [List.map_cons, List.all_cons, flat_strs ns]; rfl
def gIn (neg : Bool) : G2 := fun e c B q => match c with
  | .str z => ∃ s, e = .str ⟨#[s]⟩ ∧ q (.bl (neg ^^ decide (s ∈ z.cps.toList))) B
  | .ref a => (∃ o, dGet B a e = some o ∧ q (.bl (neg ^^ o.isSome)) B) ∨ (∃ xs, B a = some (.lst xs) ∧ flatD e = true ∧ xs.all flatD = true ∧ q (.bl (neg ^^ inD e xs)) B)
  | c => ∃ xs, seqOf B c = some xs ∧ flatD e = true ∧ xs.all flatD = true ∧ q (.bl (neg ^^ inD e xs)) B
def rInS (neg : Bool) : R2 := fun x y H Q => ∃ (c : Nat) (z : Str), x = .str ⟨#[c]⟩ ∧ y = .str z ∧ Q (.bl (neg ^^ decide (c ∈ z.cps.toList))) H
def rInDk (neg : Bool) : R2 := fun x y H Q => ∃ a o, y = .ref a ∧ DGet H a x o ∧ Q (.bl (neg ^^ o.isSome)) H
theorem op_inD (hu : X.A.units + 1 < cLine) : OpR X (compareOp .In) (rInDk false) := by
  intro pins s σ H x y v u Q I rx ry h
  obtain ⟨a, o, rfl, g, q⟩ := h
  cases ry
  rw [Bool.false_xor] at q
  exact d_in hu I g rx fun s' I' => ⟨.bl o.isSome, H, I', rfl, q⟩
theorem op_notInD (hu : X.A.units + 1 < cLine) : OpR X (compareOp .NotIn) (rInDk true) := by
  intro pins s σ H x y v u Q I rx ry h
  obtain ⟨a, o, rfl, g, q⟩ := h
  cases ry
  rw [Bool.true_xor] at q
  exact d_notIn hu I g rx fun s' I' => ⟨.bl (!o.isSome), H, I', rfl, q⟩
theorem op_inS : OpR X (compareOp .In) (rInS false) := by
  intro pins s σ H x y v u Q I rx ry h
  obtain ⟨c, z, e1, e2, q⟩ := h
  rw [Bool.false_xor] at q
  exact op_in_sign pins s σ H x y v u Q I rx ry ⟨c, z, e1, e2, q⟩
theorem op_notInS : OpR X (compareOp .NotIn) (rInS true) := by
  intro pins s σ H x y v u Q I rx ry h
  obtain ⟨c, z, e1, e2, q⟩ := h
  rw [Bool.true_xor] at q
  exact op_notIn_sign pins s σ H x y v u Q I rx ry ⟨c, z, e1, e2, q⟩
def rInQ (K : PySem.W.Frag) (neg : Bool) : R2 := fun x y H Q => ∃ p xs, y = .ref p ∧ (SqL K H p xs ∨ SqT K H p xs) ∧ flatV x = true ∧ xs.all flatV = true ∧ Q (.bl (neg ^^ inV x xs)) H
theorem op_inQ : OpR X (compareOp .In) (rInQ X.K false) := by
  intro pins s σ H x y v u Q I rx ry h
  obtain ⟨p, xs, e1, h1, h2, h3, q⟩ := h
  rw [Bool.false_xor] at q
  exact op_in_seq pins s σ H x y v u Q I rx ry ⟨p, xs, e1, h1, h2, h3, q⟩
theorem op_notInQ : OpR X (compareOp .NotIn) (rInQ X.K true) := by
  intro pins s σ H x y v u Q I rx ry h
  obtain ⟨p, xs, e1, h1, h2, h3, q⟩ := h
  rw [Bool.true_xor] at q
  exact op_notIn_seq pins s σ H x y v u Q I rx ry ⟨p, xs, e1, h1, h2, h3, q⟩
theorem od_in {K : PySem.W.Frag} (neg : Bool) : OpD K TS (fun x y H Q => rInQ K neg x y H Q ∨ (rInDk neg x y H Q ∨ rInS neg x y H Q)) (gIn neg) := fun F H B R e c v u q Q rp he hc h hq => by
  have seq : ∀ {a : Addr} {xs : List D} {vs : List V}, u = .ref a → (SqL K H a vs ∨ SqT K H a vs) → Dvs K F xs vs → flatD e = true → xs.all flatD = true → q (.bl (neg ^^ inD e xs)) B → rInQ K neg v u H Q := fun {a xs vs} eu h1 h2 h3 h4 h5 => by
    obtain ⟨i1, i2⟩ := inD_v h3 he h4 h2
    exact ⟨a, vs, eu, h1, (flat_v h3 he).2, i1, by rw [i2]; exact hq.here rp h5 rfl⟩
  unfold gIn at h
  split at h
  · obtain ⟨s, e1, h⟩ := h
    subst e1
    exact .inr (.inr ⟨s, _, he, hc, hq.here rp h rfl⟩)
  · have hc : u = _ := hc
    rcases h with ⟨o, hb, h⟩ | ⟨xs, hb, h3, h4, h⟩
    · obtain ⟨r, h1, h2⟩ := dGet_of rp hb he
      refine .inr (.inl ⟨_, r, hc, h1, hq.here rp (d := .bl (neg ^^ o.isSome)) h ?_⟩)
      rcases h2 with ⟨e1, e2⟩ | ⟨d, z, e1, e2, _⟩
      · rw [e1, e2]; rfl
      · rw [e1, e2]; rfl
    · obtain ⟨_, vs, h2, h5⟩ := rp.bx _ _ hb
      exact .inl (seq hc (.inl (SqL.of h2)) h5 h3 h4 h)
  · obtain ⟨xs, hb, h3, h4, h⟩ := h
    obtain ⟨a, vs, e1, h2, h5⟩ := seq_of rp hb hc
    exact .inl (seq e1 h5 h2 h3 h4 h)
theorem cd_in (hu : X.A.units + 1 < cLine) : CmpD X TS .In (gIn false) := ⟨_, OpR.or op_inQ (OpR.or (op_inD hu) op_inS), od_in false⟩
theorem cd_notIn (hu : X.A.units + 1 < cLine) : CmpD X TS .NotIn (gIn true) := ⟨_, OpR.or op_notInQ (OpR.or (op_notInD hu) op_notInS), od_in true⟩

/-! ### slices -/
def cutD (xs : List D) (lo hi : Option Int) : List D := (xs.drop (HT.sIx xs.length 0 lo)).take (HT.sIx xs.length xs.length hi - HT.sIx xs.length 0 lo)
theorem cut_dvs {K : PySem.W.Frag} {F : Hp} {ds : List D} {vs : List V} (h : Dvs K F ds vs) (lo hi : Option Int) : Dvs K F (cutD ds lo hi) (cutV vs lo hi) := by
  unfold cutD cutV
  rw [h.length]
  exact (h.drop _).take _
abbrev DTO := Gm → Bx → (Option Int → Bx → Prop) → XD → Prop
def LO (K : PySem.W.Frag) (TS : List Addr) (W : WX) (t : DTO) : TO := fun σ H Q => ∃ F Γ B R q x, Slots K F σ Γ ∧ RepH K TS F H B R ∧ t Γ B q x ∧ (∀ o B' F' H', q o B' → Same F F' → RepH K TS F' H' B' R → Q o H') ∧ XL K TS W F R σ x
def DO (X : Cx) (TS : List Addr) (W : WX) (e : Option Expr) (t : DTO) : Prop := PO X e (LO X.K TS W t)
def dNoPart : DTO := fun _ B q _ => q none B
def dPart (t : DTE) : DTO := fun Γ B q x => t Γ B (fun d B1 => match d with
  | .int i => q (some i) B1
  | _ => False) x
theorem do_none : DO X TS W none dNoPart := ⟨fun pins s σ H Q I ⟨F, Γ, B, R, q, x, s1, rp, hu, hq, hx⟩ => po_none.run pins s σ H Q I (hq _ B F H hu (Same.refl F) rp)⟩
theorem do_some (h : DE X TS W e ta) : DO X TS W (some e) (dPart ta) := ⟨fun pins s σ H Q I ⟨F, Γ, B, R, q, x, s1, rp, hu, hq, hx⟩ => (po_some h).run pins s σ H Q I
  ⟨F, Γ, B, R, _, x, s1, rp, hu, fun d B1 F1 H1 v h1 e1 rp1 dv1 => by
    dsimp only at h1
    split at h1
    · exact ⟨_, dv1, hq _ B1 F1 H1 h1 e1 rp1⟩
    · exact h1.elim, hx⟩⟩
def gSl (d : D) (lo hi : Option Int) (B : Bx) (q : DK) : Prop := match d with
  | .tup xs => q (.tup (cutD xs lo hi)) B
  | .str z => z.length ≤ sizeLine ∧ q (.str (cutS z lo hi)) B
  | d => ∃ xs, lstOf B d = some xs ∧ q (.lst (cutD xs lo hi)) B
def dSl (t : DTE) (tl th : DTO) : DTE := fun Γ B q x => t Γ B (fun d B1 => tl Γ B1 (fun l B2 => th Γ B2 (fun h B3 => gSl d l h B3 q) x) x) x
theorem cutD_all {xs : List D} {lo hi : Option Int} (h : HT.sIx xs.length 0 lo = 0 ∧ HT.sIx xs.length xs.length hi = xs.length) : cutD xs lo hi = xs := by
  unfold cutD
  rw [h.1, h.2, List.drop_zero, Nat.sub_zero, List.take_length]
variable {lo hi : Option Expr} {tl th : DTO} {p2 : Pos}
theorem de_slice (he : DE X TS W e ta) (hl : DO X TS W lo tl) (hh : DO X TS W hi th) : DE X TS W (.Subscript e (.Slice lo hi none p2) pos) (dSl ta tl th) :=
  PE_imp (pe_slice (SlR.or sl_list (SlR.or sl_tupA sl_str)) he hl hh) fun σ H Q ⟨F, Γ, B, R, q, x, s, rp, hu, hq, hx⟩ => by
    refine ⟨F, Γ, B, R, _, x, s, rp, hu, fun d B1 F1 H1 v h1 e1 rp1 dv1 => ⟨F1, Γ, B1, R, _, x, s.mono e1, rp1, h1, fun l B2 F2 H2 h2 e2 rp2 => ⟨F2, Γ, B2, R, _, x, s.mono (e1.trans e2), rp2, h2, fun h B3 F3 H3 h3 e3 rp3 => ?_, hx.mono (e1.trans e2)⟩, hx.mono e1⟩, hx⟩
    have dv3 := dv1.mono (e2.trans e3)
    have hq3 := hq.mono (e1.trans (e2.trans e3))
    unfold gSl at h3
    split at h3
    · rename_i xs
      obtain ⟨a, vs, rfl, h4, h5⟩ := dv3
      have hlen := h5.length
      refine .inr (.inl ⟨a, vs, rfl, SqT.of (rp3.le _ _ h4), fun hw => ?_, fun _ p hp => new_tup rp3 hq3 h3 (cut_dvs h5 l h) hp⟩)
      rw [hlen] at hw
      rw [cutD_all hw] at h3
      exact hq3.here rp3 h3 ⟨a, vs, rfl, h4, h5⟩
    · exact .inr (.inr ⟨_, dv3, h3.1, hq3.here rp3 h3.2 rfl⟩)
    · obtain ⟨xs, h4, h3⟩ := h3
      obtain ⟨a, vs, rfl, h5, h6⟩ := lst_of rp3 h4 dv3
      exact .inl ⟨a, vs, rfl, h6, fun p hp => new_lst rp3 hq3 h3 (cut_dvs h5 l h) hp⟩

/-! ### methods of lists -/
variable {es : List Expr} {tg : DTA} {apos cpos : Pos}
/-- o.append(e) -/
def dAppend (to te : DTE) : DTE := fun Γ B q x => to Γ B (fun d B1 => match d with
  | .ref a => (∃ ys, B1 a = some (.lst ys)) ∧ te Γ B1 (fun y B2 => ∃ xs, B2 a = some (.lst xs) ∧ xs.length < sizeLine ∧ q .non (put B2 a (.lst (xs ++ [y])))) x
  | _ => False) x
theorem de_append {o e : Expr} {to te : DTE} (ho : DE X TS W o to) (he : DE X TS W e te) (hbase : attributeBase o "append" X.env (eval o X.env) = eval o X.env := by rfl)
    (hfew : ((backTo cpos (starEach [e] X.env)).all (fun x => !x.1) && (backToKw cpos (keywordEach [] X.env)).all (fun x => x.1.isSome) && decide (([e] : List Expr).length + ([] : List Keyword).length + (if ([] : List Keyword).isEmpty then 0 else 1) < 30)) = true := by rfl)
    (hline : (apos.endLine == cpos.line) = true := by rfl) (hs : starEach [e] X.env = (false, eval e X.env) :: starEach [] X.env := by rfl) (hplain : (backTo cpos (starEach [] X.env)).any (·.1) = false := by rfl) :
    DE X TS W (.Call (.Attribute o "append" apos) [e] [] cpos) (dAppend to te) :=
  PE_imp (pe_bm PySem.F.plainAttrs_list PySem.F.slot_list_append PySem.F.type_list_append mt_append ho (pa_cons he pa_nil hs) hbase hfew hline hs hplain) fun σ H Q ⟨F, Γ, B, R, q, x, s, rp, hu, hq, hx⟩ => by
    refine ⟨F, Γ, B, R, _, x, s, rp, hu, fun d B1 F1 H1 v h1 e1 rp1 dv1 => ?_, hx⟩
    dsimp only at h1
    split at h1
    · rename_i a
      have dv1 : v = _ := dv1
      subst dv1
      obtain ⟨⟨ys, hb⟩, h1⟩ := h1
      obtain ⟨_, vs, h2, h3⟩ := rp1.bx _ _ hb
      refine ⟨.inl ⟨rfl, _, SqL.of h2⟩, F1, Γ, B1, R, _, x, s.mono e1, rp1, h1, fun y B2 F2 H2 u h4 e2 rp2 dv2 => ?_, hx.mono e1⟩
      obtain ⟨xs, hb2, hz, h4⟩ := h4
      obtain ⟨_, us, h5, h6⟩ := rp2.bx _ _ hb2
      refine ⟨a, us, u, rfl, rfl, h5, by rw [h6.length]; exact hz, ?_⟩
      exact hq _ _ F2 _ _ h4 (e1.trans e2) (rp2.write hb2 ⟨_, upd_same, h6.append ⟨u, [], rfl, dv2, rfl⟩⟩) rfl
    · exact h1.elim
end
end DL
set_option Elab.async false
set_option linter.all false
set_option maxRecDepth 100000
set_option maxHeartbeats 1000000
/-! DL4: targets, statements, loops. -/
namespace DL
open PySem PySem.Spec PyProof.Rows L2

structure DEnds where
  nx : Gm → Bx → Prop
  rt : DK
  bk : Gm → Bx → Prop := fun _ _ => False
  ct : Gm → Bx → Prop := fun _ _ => False
  ex : Gm → XD
abbrev DTS := DEnds → Gm → Bx → Prop
def NL (K : PySem.W.Frag) (TS : List Addr) (F : Hp) (R : Bx) (n : Gm → Bx → Prop) (N : L2.St → Hp → Prop) : Prop := ∀ Γ' B' F' σ' H', n Γ' B' → Same F F' → Slots K F' σ' Γ' → RepH K TS F' H' B' R → N σ' H'
theorem NL.mono {K : PySem.W.Frag} {TS : List Addr} {F F' : Hp} {R : Bx} {n : Gm → Bx → Prop} {N : L2.St → Hp → Prop} (h : NL K TS F R n N) (e : Same F F') : NL K TS F' R n N := fun Γ' B' F2 σ' H' hn e2 => h Γ' B' F2 σ' H' hn (e.trans e2)
structure EL (K : PySem.W.Frag) (TS : List Addr) (W : WX) (F : Hp) (R : Bx) (E : DEnds) (D : Ends) : Prop where
  nx : NL K TS F R E.nx D.nx
  rt : QL K TS F R E.rt D.rt
  bk : NL K TS F R E.bk D.bk
  ct : NL K TS F R E.ct D.ct
  ex : ∀ σ' Γ' F', Same F F' → Slots K F' σ' Γ' → XL K TS W F' R σ' (E.ex Γ')
theorem EL.mono {K : PySem.W.Frag} {TS : List Addr} {W : WX} {F F' : Hp} {R : Bx} {E : DEnds} {D : Ends} (h : EL K TS W F R E D) (e : Same F F') : EL K TS W F' R E D :=
  ⟨h.nx.mono e, h.rt.mono e, h.bk.mono e, h.ct.mono e, fun σ' Γ' F2 e2 => h.ex σ' Γ' F2 (e.trans e2)⟩
def LS (K : PySem.W.Frag) (TS : List Addr) (W : WX) (t : DTS) : L2.TS := fun D σ H => ∃ F Γ B R E, Slots K F σ Γ ∧ RepH K TS F H B R ∧ t E Γ B ∧ EL K TS W F R E D
def DS (X : Cx) (TS : List Addr) (W : WX) (st : Stmt) (t : DTS) : Prop := PS X st (LS X.K TS W t)
def DSs (X : Cx) (TS : List Addr) (W : WX) (st : List Stmt) (t : DTS) : Prop := PSs X st (LS X.K TS W t)
theorem PS_imp {X : Cx} {e : Stmt} {t t' : L2.TS} (h : PS X e t) (k : ∀ D σ H, t' D σ H → t D σ H) : PS X e t' := ⟨fun pins s σ H D I hw => h.run pins s σ H D I (k D σ H hw)⟩
theorem PSs_imp {X : Cx} {e : List Stmt} {t t' : L2.TS} (h : PSs X e t) (k : ∀ D σ H, t' D σ H → t D σ H) : PSs X e t' := ⟨fun pins s σ H D I hw => h.run pins s σ H D I (k D σ H hw)⟩

/-! ### targets -/
abbrev DTG := D → Gm → Bx → (Gm → Bx → Prop) → Prop
abbrev DTGs := List D → Gm → Bx → (Gm → Bx → Prop) → Prop
def LG (K : PySem.W.Frag) (TS : List Addr) (t : DTG) : TG := fun v σ H Q => ∃ F Γ B R q d, Slots K F σ Γ ∧ RepH K TS F H B R ∧ Dv K F d v ∧ t d Γ B q ∧ NL K TS F R q Q
def LGs (K : PySem.W.Frag) (TS : List Addr) (t : DTGs) : TGs := fun vs σ H Q => ∃ F Γ B R q ds, Slots K F σ Γ ∧ RepH K TS F H B R ∧ Dvs K F ds vs ∧ t ds Γ B q ∧ NL K TS F R q Q
def DG (X : Cx) (TS : List Addr) (e : Expr) (t : DTG) : Prop := PG X e (LG X.K TS t)
def DGs (X : Cx) (TS : List Addr) (es : List Expr) (t : DTGs) : Prop := PGs X es (LGs X.K TS t)
theorem PG_imp {X : Cx} {e : Expr} {t t' : TG} (h : PG X e t) (k : ∀ v σ H Q, t' v σ H Q → t v σ H Q) : PG X e t' := ⟨fun pins s σ H v u Q I r hw => h.run pins s σ H v u Q I r (k v σ H Q hw)⟩
theorem PGs_imp {X : Cx} {es : List Expr} {t t' : TGs} (h : PGs X es t) (k : ∀ v σ H Q, t' v σ H Q → t v σ H Q) : PGs X es t' := ⟨fun pins s σ H vs us Q I r hw => h.run pins s σ H vs us Q I r (k vs σ H Q hw)⟩
section
variable {X : Cx} {TS : List Addr} {W : WX} {pos : Pos}
def hName (i : Nat) : DTG := fun d Γ B q => q (setS Γ i d) B
theorem dg_name (i : Nat) {x : Str} (hN : X.N.Nodup) (hi : X.N[i]? = some x := by rfl) (hx : Loc X.env.scope x := by first | exact Or.inl rfl | exact Or.inr rfl) (hf : X.fn x = true ∨ X.env.scope.names.lookup x = some .local := by first | exact .inl rfl | exact .inr rfl) : DG X TS (.Name x pos) (hName i) :=
  PG_imp (pg_name hN hi hx hf) fun v σ H Q ⟨F, Γ, B, R, q, d, s, rp, dv, hu, hq⟩ => by
    have hu : q (setS Γ i d) B := hu
    rw [setS_eq] at hu
    exact hq _ B F _ H hu (Same.refl F) (s.set i dv) rp
def hNil : DTGs := fun _ Γ B q => q Γ B
def hCons (t : DTG) (u : DTGs) : DTGs := fun ds Γ B q => match ds with
  | d :: r => t d Γ B (fun Γ' B' => u r Γ' B' q)
  | [] => False
theorem dgs_nil : DGs X TS [] (fun ds Γ B q => match ds with | [] => q Γ B | _ => False) := PGs_imp pgs_nil fun v σ H Q ⟨F, Γ, B, R, q, ds, s, rp, dv, hu, hq⟩ => by
  dsimp only at hu
  split at hu
  · cases dv; exact ⟨rfl, hq _ B F _ H hu (Same.refl F) s rp⟩
  · exact hu.elim
theorem dgs_cons {e : Expr} {es : List Expr} {t : DTG} {u : DTGs} (h1 : DG X TS e t) (h2 : DGs X TS es u)
    (hs : (assignEach (e :: es) X.env).map (·.2) = assign e X.env :: (assignEach es X.env).map (·.2) := by rfl) : DGs X TS (e :: es) (hCons t u) := PGs_imp (pgs_cons h1 h2 hs) fun v σ H Q ⟨F, Γ, B, R, q, ds, s, rp, dv, hu, hq⟩ => by
  unfold hCons at hu
  split at hu
  · obtain ⟨v1, vr, e1, h3, h4⟩ := dv
    exact ⟨v1, vr, e1, F, Γ, B, R, _, _, s, rp, h3, hu, fun Γ' B' F' σ' H' hn e2 s2 rp2 => ⟨F', Γ', B', R, q, _, s2, rp2, h4.mono e2, hn, hq.mono e2⟩⟩
  · exact hu.elim
def hTup (t : DTGs) : DTG := fun d Γ B q => match d with
  | .tup xs => t xs Γ B q
  | d => ∃ xs, tupOf d = some xs ∧ t xs Γ B q
def hLst (t : DTGs) : DTG := fun d Γ B q => ∃ xs, lstOf B d = some xs ∧ t xs Γ B q
/-- the number of items is that of the targets -/
def lenIs (t : DTGs) (n : Nat) : Prop := ∀ ds Γ B q, t ds Γ B q → ds.length = n
theorem lenIs_nil : lenIs (fun ds Γ B q => match ds with | [] => q Γ B | _ => False) 0 := fun ds Γ B q h => by
  dsimp only at h
  split at h
  · rfl
  · exact h.elim
theorem lenIs_cons {t : DTG} {u : DTGs} {n : Nat} (hm : ∀ d Γ B q, t d Γ B q → ∃ Γ' B', q Γ' B') (h : lenIs u n) : lenIs (hCons t u) (n + 1) := fun ds Γ B q hh => by
  unfold hCons at hh
  split at hh
  · obtain ⟨Γ', B', h2⟩ := hm _ _ _ _ hh
    rw [List.length_cons, h _ _ _ _ h2]
  · exact hh.elim
theorem hm_name {i : Nat} : ∀ d Γ B q, hName i d Γ B q → ∃ Γ' B', q Γ' B' := fun d Γ B q h => ⟨_, _, h⟩
theorem dg_tup {es : List Expr} {k : Nat} {t : DTGs} {n : Nat} (hc : X.calm = true) (h : DGs X TS es t) (hl : lenIs t n)
    (hn : (assignEach es X.env).length = n := by rfl) (hst : (assignEach es X.env).findIdx? (·.1) = none := by rfl) : DG X TS (.Tuple es k pos) (hTup t) := PG_imp (pg_tup hc h hn hst) fun v σ H Q ⟨F, Γ, B, R, q, d, s, rp, dv, hu, hq⟩ => by
  have hu' : ∃ xs, tupOf d = some xs ∧ t xs Γ B q := by
    unfold hTup at hu
    split at hu
    · exact ⟨_, rfl, hu⟩
    · exact hu
  obtain ⟨xs, h1, h2⟩ := hu'
  obtain ⟨a, vs, e1, h3, h4⟩ := tup_of rp h1 dv
  exact ⟨a, vs, e1, h4, h3.length.trans (hl _ _ _ _ h2), F, Γ, B, R, q, xs, s, rp, h3, h2, hq⟩
theorem dg_lst {es : List Expr} {k : Nat} {t : DTGs} {n : Nat} (hc : X.calm = true) (h : DGs X TS es t) (hl : lenIs t n)
    (hn : (assignEach es X.env).length = n := by rfl) (hst : (assignEach es X.env).findIdx? (·.1) = none := by rfl) : DG X TS (.Tuple es k pos) (hLst t) := PG_imp (pg_lst hc h hn hst) fun v σ H Q ⟨F, Γ, B, R, q, d, s, rp, dv, hu, hq⟩ => by
  obtain ⟨xs, h1, h2⟩ := hu
  obtain ⟨a, vs, e1, h3, h4⟩ := lst_of rp h1 dv
  exact ⟨a, vs, e1, h4, h3.length.trans (hl _ _ _ _ h2), F, Γ, B, R, q, xs, s, rp, h3, h2, hq⟩

/-! #### o[i] = v -/
theorem PSet.or {r r' : TSet} (h : PSet X r) (h' : PSet X r') : PSet X (fun o i v H Q => r o i v H Q ∨ r' o i v H Q) := by
  intro pins s σ H o i v ov iv u Q I r1 r2 r3 q
  rcases q with q | q
  · exact h pins s σ H o i v ov iv u Q I r1 r2 r3 q
  · exact h' pins s σ H o i v ov iv u Q I r1 r2 r3 q
def rSetD : TSet := fun o i v H Q => ∃ a H', o = .ref a ∧ DPut H a i v H' ∧ Q H'
theorem set_dict (hu : X.A.units + 1 < cLine) : PSet X rSetD := by
  intro pins s σ H o i v ov iv u Q I r1 r2 r3 h
  obtain ⟨a, H', e, g, q⟩ := h
  subst e
  cases r1
  exact d_setItem hu I g r2 r3 fun s' I' => ⟨H', I', q⟩
def gSet (o i v : D) (B : Bx) (q : Bx → Prop) : Prop := match o with
  | .ref a => ∃ b, B a = some b ∧ match b with
    | .lst xs => ∃ k j, i = .int k ∧ ixN xs.length k = some j ∧ q (put B a (.lst (xs.set j v)))
    | .dK kvs => ∃ k, keyD i = some k ∧ kvs.length < sizeLine ∧ q (put B a (.dK (putD kvs k v)))
    | .dT kvs => ∃ ys ks, i = .tup ys ∧ keysD ys = some ks ∧ kvs.length < sizeLine ∧ q (put B a (.dT (putD kvs ks v)))
    | _ => False
  | _ => False
theorem set_lift {K : PySem.W.Frag} {F H : Hp} {B R : Bx} {o i d : D} {vo vi v : V} {q : Bx → Prop} {Q : Hp → Prop} (rp : RepH K TS F H B R) (ho : Dv K F o vo) (hi : Dv K F i vi) (hd : Dv K F d v) (h : gSet o i d B q)
    (hq : ∀ B' H', q B' → RepH K TS F H' B' R → Q H') : rSetL vo vi v H Q ∨ rSetD vo vi v H Q := by
  unfold gSet at h
  split at h
  · rename_i a
    have ho : vo = _ := ho
    subst ho
    obtain ⟨b, hb, h⟩ := h
    have bx := (rp.bx a b hb).2
    split at h
    · obtain ⟨vs, h1, h2⟩ := bx
      obtain ⟨k, j, e1, e2, h⟩ := h
      subst e1
      exact .inl ⟨a, vs, k, j, rfl, hi, h1, by rw [h2.length]; exact e2, hq _ _ h (rp.write hb ⟨_, upd_same, h2.set j hd⟩)⟩
    · obtain ⟨ws, h1, h2⟩ := bx
      obtain ⟨k, e1, e2, h⟩ := h
      rw [keyD_v e1 hi]
      exact .inr ⟨a, _, rfl, DPut.k h1 (by rw [h2.length]; exact e2), hq _ _ h (rp.write hb ⟨_, upd_same, h2.put k hd⟩)⟩
    · obtain ⟨ws, h1, h2⟩ := bx
      obtain ⟨ys, ks, e0, e1, e2, h⟩ := h
      subst e0
      obtain ⟨c, us, rfl, h3, h4⟩ := hi
      rw [keysD_vs e1 h4] at h3
      exact .inr ⟨a, _, rfl, DPut.t h1 (rp.le _ _ h3) (by rw [h2.length]; exact e2), hq _ _ h (rp.write hb ⟨_, upd_same, h2.put ks hd⟩)⟩
    · exact h.elim
  · exact h.elim
def noX : XD := fun _ _ => False
theorem XL.noX {K : PySem.W.Frag} {F : Hp} {R : Bx} {σ : L2.St} : XL K TS W F R σ noX := fun _ _ _ _ h => h.elim
def hSub (to ti : DTE) : DTG := fun d Γ B q => to Γ B (fun o B1 => ti Γ B1 (fun i B2 => gSet o i d B2 fun B3 => q Γ B3) noX) noX
theorem dg_sub {o i : Expr} {to ti : DTE} (hu : X.A.units + 1 < cLine) (ho : DE X TS W o to) (hi : DE X TS W i ti)
    (ha : ∀ v, assign (.Subscript o i pos) X.env v = (do
      let ov ← holding [v] (eval o X.env)
      let iv ← holding [v, ov] (eval i X.env)
      standAt pos
      holding [v, ov, iv] (setItem ov iv v)
      release [v, ov, iv] []) := by intro _; rfl) : DG X TS (.Subscript o i pos) (hSub to ti) := PG_imp (pg_sub ho hi (PSet.or set_list (set_dict hu)) ha) fun v σ H Q ⟨F, Γ, B, R, q, d, s, rp, dv, hu, hq⟩ => by
  refine ⟨F, Γ, B, R, _, noX, s, rp, hu, fun o B1 F1 H1 vo h1 e1 rp1 dv1 => ⟨F1, Γ, B1, R, _, noX, s.mono e1, rp1, h1, fun i B2 F2 H2 vi h2 e2 rp2 dv2 => ?_, XL.noX⟩, XL.noX⟩
  exact set_lift rp2 (dv1.mono e2) dv2 (dv.mono (e1.trans e2)) h2 fun B' H' hb rp' => hq Γ B' F2 σ H' hb (e1.trans e2) (s.mono (e1.trans e2)) rp'
end

/-! ### statements -/
section
variable {X : Cx} {TS : List Addr} {W : WX} {pos : Pos} {e : Expr} {te : DTE} {st : Stmt} {rest : List Stmt} {t u : DTS}
def dNext : DTS := fun E Γ B => E.nx Γ B
def dSeq (t u : DTS) : DTS := fun E Γ B => t { E with nx := fun Γ' B' => u E Γ' B' } Γ B
theorem dss_nil : DSs X TS W [] dNext := PSs_imp pss_nil fun D σ H ⟨F, Γ, B, R, E, s, rp, hu, hE⟩ => hE.nx Γ B F σ H hu (Same.refl F) s rp
theorem dss_one (h : DS X TS W st t) : DSs X TS W [st] t := pss_one h
theorem dss_cons (h1 : DS X TS W st t) (h2 : DSs X TS W rest u) : DSs X TS W (st :: rest) (dSeq t u) := PSs_imp (pss_cons h1 h2) fun D σ H ⟨F, Γ, B, R, E, s, rp, hu, hE⟩ =>
  ⟨F, Γ, B, R, _, s, rp, hu, ⟨fun Γ' B' F' σ' H' hn e2 s2 rp2 => ⟨F', Γ', B', R, E, s2, rp2, hn, hE.mono e2⟩, hE.rt, hE.bk, hE.ct, hE.ex⟩⟩
def dBreak : DTS := fun E Γ B => E.bk Γ B
def dCont : DTS := fun E Γ B => E.ct Γ B
theorem ds_break : DS X TS W (.Break pos) dBreak := PS_imp ps_break fun D σ H ⟨F, Γ, B, R, E, s, rp, hu, hE⟩ => hE.bk Γ B F σ H hu (Same.refl F) s rp
theorem ds_continue : DS X TS W (.Continue pos) dCont := PS_imp ps_continue fun D σ H ⟨F, Γ, B, R, E, s, rp, hu, hE⟩ => hE.ct Γ B F σ H hu (Same.refl F) s rp
theorem ds_pass : DS X TS W (.Pass pos) dNext := PS_imp ps_pass fun D σ H ⟨F, Γ, B, R, E, s, rp, hu, hE⟩ => hE.nx Γ B F σ H hu (Same.refl F) s rp
def dDrop (te : DTE) : DTS := fun E Γ B => te Γ B (fun _ B1 => E.nx Γ B1) (E.ex Γ)
theorem ds_expr (he : DE X TS W e te) (hs : swapsWith e none pos.line X.env = pure false := by rfl) : DS X TS W (.Expr e pos) (dDrop te) := PS_imp (ps_expr he hs) fun D σ H ⟨F, Γ, B, R, E, s, rp, hu, hE⟩ =>
  ⟨F, Γ, B, R, _, _, s, rp, hu, fun d B1 F1 H1 v h1 e1 rp1 dv1 => hE.nx Γ B1 F1 σ H1 h1 e1 (s.mono e1) rp1, hE.ex σ Γ F (Same.refl F) s⟩
def dRet (te : DTE) : DTS := fun E Γ B => te Γ B E.rt (E.ex Γ)
theorem ds_ret (he : DE X TS W e te) : DS X TS W (.Return (some e) pos) (dRet te) := PS_imp (ps_ret he) fun D σ H ⟨F, Γ, B, R, E, s, rp, hu, hE⟩ =>
  ⟨F, Γ, B, R, _, _, s, rp, hu, hE.rt, hE.ex σ Γ F (Same.refl F) s⟩
/-- a list that was written is handed back: nobody writes it from now on -/
def dRetF (te : DTE) : DTS := fun E Γ B => te Γ B (fun d B1 => ∃ a xs, d = .ref a ∧ B1 a = some (.lst xs) ∧ E.rt (.lst xs) (era B1 a)) (E.ex Γ)
theorem ds_retF (he : DE X TS W e te) : DS X TS W (.Return (some e) pos) (dRetF te) := PS_imp (ps_ret he) fun D σ H ⟨F, Γ, B, R, E, s, rp, hu, hE⟩ =>
  ⟨F, Γ, B, R, _, _, s, rp, hu, fun d B1 F1 H1 v h1 e1 rp1 dv1 => by
    obtain ⟨a, xs, e2, hb, h1⟩ := h1
    subst e2
    have dv1 : v = _ := dv1
    subst dv1
    obtain ⟨F2, e3, rp2, dv2⟩ := rp1.freeze hb
    exact hE.rt _ _ F2 _ _ h1 (e1.trans e3) rp2 dv2, hE.ex σ Γ F (Same.refl F) s⟩
def dRetN : DTS := fun E _ B => E.rt .non B
theorem ds_retN : DS X TS W (.Return none pos) dRetN := PS_imp ps_retN fun D σ H ⟨F, Γ, B, R, E, s, rp, hu, hE⟩ => hE.rt .non B F H .non hu (Same.refl F) rp rfl
def dIfS (c : DTT) (t u : DTS) : DTS := fun E Γ B => c Γ B (fun b B1 => if b = true then t E Γ B1 else u E Γ B1) (E.ex Γ)
theorem ds_if {c : Expr} {a b : List Stmt} {tc : DTT} (hc : DT X TS W c tc) (ha : DSs X TS W a t) (hb : DSs X TS W b u) : DS X TS W (.If c a b pos) (dIfS tc t u) := PS_imp (ps_if hc ha hb) fun D σ H ⟨F, Γ, B, R, E, s, rp, hu, hE⟩ =>
  ⟨F, Γ, B, R, _, _, s, rp, hu, fun b B1 F1 H1 h1 e1 rp1 => by
    cases b with
    | true => exact iteT ⟨F1, Γ, B1, R, E, s.mono e1, rp1, h1, hE.mono e1⟩
    | false => exact iteF ⟨F1, Γ, B1, R, E, s.mono e1, rp1, h1, hE.mono e1⟩, hE.ex σ Γ F (Same.refl F) s⟩
def dNever : DTS := fun _ _ _ => False
theorem ds_never : DS X TS W st dNever := PS_imp ps_never fun D σ H ⟨F, Γ, B, R, E, s, rp, hu, hE⟩ => hu.elim
theorem dss_never {sts : List Stmt} : DSs X TS W sts dNever := PSs_imp pss_never fun D σ H ⟨F, Γ, B, R, E, s, rp, hu, hE⟩ => hu.elim
/-- name = e -/
def dAsg (te : DTE) (g : DTG) : DTS := fun E Γ B => te Γ B (fun d B1 => g d Γ B1 E.nx) (E.ex Γ)
theorem asg_lift {K : PySem.W.Frag} {g : DTG} {gv : TG} (hg : ∀ v σ H Q, LG K TS g v σ H Q → gv v σ H Q) {D : Ends} {σ : L2.St} {H : Hp} (h : LS K TS W (dAsg te g) D σ H) : tAsg (LE K TS W te) gv D σ H := by
  obtain ⟨F, Γ, B, R, E, s, rp, hu, hE⟩ := h
  exact ⟨F, Γ, B, R, _, _, s, rp, hu, fun d B1 F1 H1 v h1 e1 rp1 dv1 => hg _ _ _ _ ⟨F1, Γ, B1, R, _, d, s.mono e1, rp1, dv1, h1, hE.nx.mono e1⟩, hE.ex σ Γ F (Same.refl F) s⟩
theorem lg_name {K : PySem.W.Frag} {i : Nat} : ∀ v σ H Q, LG K TS (hName i) v σ H Q → gName i v σ H Q := fun v σ H Q ⟨F, Γ, B, R, q, d, s, rp, dv, hu, hq⟩ => by
  have hu : q (setS Γ i d) B := hu
  rw [setS_eq] at hu
  exact hq _ B F _ H hu (Same.refl F) (s.set i dv) rp
theorem ds_set (i : Nat) {x : Str} {pos' : Pos} (hN : X.N.Nodup) (he : DE X TS W e te) (hi : X.N[i]? = some x := by rfl) (hx : Loc X.env.scope x := by first | exact Or.inl rfl | exact Or.inr rfl) (hs : swapsWith e (some (.Name x pos')) pos.line X.env = pure false := by rfl)
    (hf : X.fn x = true ∨ X.env.scope.names.lookup x = some .local := by first | exact .inl rfl | exact .inr rfl) : DS X TS W (.Assign [.Name x pos'] e pos) (dAsg te (hName i)) := PS_imp (ps_set hN hi hx he hs hf) fun D σ H h => asg_lift lg_name h
theorem ds_asg {tg : Expr} {g : DTG} (he : DE X TS W e te) (hg : DG X TS tg g) (hs : swapsWithSole [tg] e pos.line X.env = pure false := by rfl) (hw : swappedStores [tg] e X.env = pure none := by rfl)
    (h1 : (assignEach [tg] X.env).map (·.2) = [assign tg X.env] := by rfl) : DS X TS W (.Assign [tg] e pos) (dAsg te g) := PS_imp (ps_asg he hg hs hw h1) fun D σ H h => asg_lift (fun _ _ _ _ z => z) h
/-- a, b = x, y with plain local names -/
def dPar (is : List Nat) (ta : DTA) : DTS := fun E Γ B => ta Γ B (fun ds B1 => match is, ds with
  | [i, j], [d, e] => E.nx (setS (setS Γ i d) j e) B1
  | [i, j, k], [d, e, f] => E.nx (setS (setS (setS Γ i d) j e) k f) B1
  | _, _ => False) (E.ex Γ)
theorem ds_par (i j : Nat) {x y : Str} {a b : Expr} {ta : DTA} {px py pt : Pos} {kt k2 pt2} (hc : X.calm = true) (hN : X.N.Nodup) (ha : DA X TS W [a, b] ta) (hi : X.N[i]? = some x := by rfl) (hj : X.N[j]? = some y := by rfl) (hij : i ≠ j := by decide)
    (hx : X.env.scope.names.lookup x = some .local := by rfl) (hy : X.env.scope.names.lookup y = some .local := by rfl)
    (hw : swappedStores [.Tuple [.Name x px, .Name y py] kt pt] (.Tuple [a, b] k2 pt2) X.env = pure (some [x, y]) := by rfl)
    (hs : swapsWithSole [.Tuple [.Name x px, .Name y py] kt pt] (.Tuple [a, b] k2 pt2) pos.line X.env = pure false := by rfl) :
    DS X TS W (.Assign [.Tuple [.Name x px, .Name y py] kt pt] (.Tuple [a, b] k2 pt2) pos) (dPar [i, j] ta) := PS_imp (L2.ps_par hc hN hi hj hij hx hy ha hw hs) fun D σ H ⟨F, Γ, B, R, E, s, rp, hu, hE⟩ =>
  ⟨F, Γ, B, R, _, _, s, rp, hu, fun ds B1 F1 H1 vs h1 e1 rp1 dv1 => by
    dsimp only at h1
    split at h1
    · rename_i hl
      cases hl
      obtain ⟨v, w, e2, h2, h3⟩ := dv1.two
      rw [setS_eq, setS_eq] at h1
      exact ⟨v, w, e2, hE.nx _ B1 F1 _ H1 h1 e1 (((s.mono e1).set _ h2).set _ h3) rp1⟩
    · rename_i hl
      cases hl
    · exact h1.elim, hE.ex σ Γ F (Same.refl F) s⟩
theorem ds_par3 (i j l : Nat) {x y z : Str} {a b c : Expr} {ta : DTA} {px py pz pt : Pos} {kt k2 pt2} (hc : X.calm = true) (hN : X.N.Nodup) (ha : DA X TS W [a, b, c] ta) (hi : X.N[i]? = some x := by rfl) (hj : X.N[j]? = some y := by rfl) (hl : X.N[l]? = some z := by rfl)
    (hij : i ≠ j := by decide) (hil : i ≠ l := by decide) (hjl : j ≠ l := by decide)
    (hx : X.env.scope.names.lookup x = some .local := by rfl) (hy : X.env.scope.names.lookup y = some .local := by rfl) (hz : X.env.scope.names.lookup z = some .local := by rfl)
    (hw : swappedStores [.Tuple [.Name x px, .Name y py, .Name z pz] kt pt] (.Tuple [a, b, c] k2 pt2) X.env = pure (some [x, y, z]) := by rfl)
    (hs : swapsWithSole [.Tuple [.Name x px, .Name y py, .Name z pz] kt pt] (.Tuple [a, b, c] k2 pt2) pos.line X.env = pure false := by rfl) :
    DS X TS W (.Assign [.Tuple [.Name x px, .Name y py, .Name z pz] kt pt] (.Tuple [a, b, c] k2 pt2) pos) (dPar [i, j, l] ta) := PS_imp (L2.ps_par3 hc hN hi hj hl hij hil hjl hx hy hz ha hw hs) fun D σ H ⟨F, Γ, B, R, E, s, rp, hu, hE⟩ =>
  ⟨F, Γ, B, R, _, _, s, rp, hu, fun ds B1 F1 H1 vs h1 e1 rp1 dv1 => by
    dsimp only at h1
    split at h1
    · rename_i hl
      cases hl
    · rename_i hl
      cases hl
      obtain ⟨v, r, e2, h2, h3⟩ := dv1
      obtain ⟨w, w', e3, h4, h5⟩ := h3.two
      subst e3
      rw [setS_eq, setS_eq, setS_eq] at h1
      exact ⟨v, w, w', e2, hE.nx _ B1 F1 _ H1 h1 e1 ((((s.mono e1).set _ h2).set _ h4).set _ h5) rp1⟩
    · exact h1.elim, hE.ex σ Γ F (Same.refl F) s⟩
/-- name op= e -/
def dAug (i : Nat) (te : DTE) (g : G2) : DTS := fun E Γ B => match getS Γ i with
  | some d => te Γ B (fun e B1 => g d e B1 (fun z B2 => E.nx (setS Γ i z) B2)) (E.ex Γ)
  | none => False
theorem ds_aug (i : Nat) {x : Str} {op : Operator} {r : R2} {g : G2} {pos' : Pos} (ho : OpR X (inplaceOp op) r) (hg : OpD X.K TS r g) (hN : X.N.Nodup) (he : DE X TS W e te) (hi : X.N[i]? = some x := by rfl) (hx : Loc X.env.scope x := by first | exact Or.inl rfl | exact Or.inr rfl)
    (hf : X.fn x = true ∨ X.env.scope.names.lookup x = some .local := by first | exact .inl rfl | exact .inr rfl) : DS X TS W (.AugAssign (.Name x pos') op e pos) (dAug i te g) := PS_imp (ps_aug (op := op) (ti := r) hN hi hx he (fun pins s σ H x y v u Q I r1 r2 h => ho pins s σ H x y v u Q I r1 r2 h) hf) fun D σ H ⟨F, Γ, B, R, E, s, rp, hu, hE⟩ => by
  unfold dAug at hu
  cases hgi : getS Γ i with
  | none => rw [hgi] at hu; exact hu.elim
  | some d =>
    rw [hgi] at hu
    obtain ⟨v, h1, h2⟩ := s.at_ i d (getS_at hgi)
    refine ⟨v, h1, F, Γ, B, R, _, _, s, rp, hu, fun e B1 F1 H1 u h3 e1 rp1 dv1 => ?_, hE.ex σ Γ F (Same.refl F) s⟩
    refine hg F1 H1 B1 R d e v u _ _ rp1 (h2.mono e1) dv1 h3 fun z B2 F2 H2 w h4 e2 rp2 dv2 => ?_
    have h4 : E.nx (setS Γ i z) B2 := h4
    rw [setS_eq] at h4
    exact hE.nx _ B2 F2 _ H2 h4 (e1.trans e2) ((s.mono (e1.trans e2)).set i dv2) rp2
theorem ds_aug_xor (i : Nat) {x : Str} {pos' : Pos} (hN : X.N.Nodup) (he : DE X TS W e te) (hi : X.N[i]? = some x := by rfl) (hx : Loc X.env.scope x := by first | exact Or.inl rfl | exact Or.inr rfl)
    (hf : X.fn x = true ∨ X.env.scope.names.lookup x = some .local := by first | exact .inl rfl | exact .inr rfl) : DS X TS W (.AugAssign (.Name x pos') .BitXor e pos) (dAug i te (gI fun i j => .int (Builtin.bitXor i j))) := ds_aug i iop_xor od_int hN he hi hx hf
theorem ds_aug_add (i : Nat) {x : Str} {pos' : Pos} (hN : X.N.Nodup) (he : DE X TS W e te) (hi : X.N[i]? = some x := by rfl) (hx : Loc X.env.scope x := by first | exact Or.inl rfl | exact Or.inr rfl)
    (hf : X.fn x = true ∨ X.env.scope.names.lookup x = some .local := by first | exact .inl rfl | exact .inr rfl) : DS X TS W (.AugAssign (.Name x pos') .Add e pos) (dAug i te (gI fun i j => .int (i + j))) := ds_aug i iop_add od_int hN he hi hx hf
theorem ds_aug_sub (i : Nat) {x : Str} {pos' : Pos} (hN : X.N.Nodup) (he : DE X TS W e te) (hi : X.N[i]? = some x := by rfl) (hx : Loc X.env.scope x := by first | exact Or.inl rfl | exact Or.inr rfl)
    (hf : X.fn x = true ∨ X.env.scope.names.lookup x = some .local := by first | exact .inl rfl | exact .inr rfl) : DS X TS W (.AugAssign (.Name x pos') .Sub e pos) (dAug i te (gI fun i j => .int (i - j))) := ds_aug i iop_sub od_int hN he hi hx hf
theorem ds_aug_fdiv (i : Nat) {x : Str} {pos' : Pos} (hN : X.N.Nodup) (he : DE X TS W e te) (hi : X.N[i]? = some x := by rfl) (hx : Loc X.env.scope x := by first | exact Or.inl rfl | exact Or.inr rfl)
    (hf : X.fn x = true ∨ X.env.scope.names.lookup x = some .local := by first | exact .inl rfl | exact .inr rfl) : DS X TS W (.AugAssign (.Name x pos') .FloorDiv e pos) (dAug i te (gIC CDiv fun i j => .int (i / j))) := ds_aug i iop_fdiv od_intC hN he hi hx hf

/-! ### while -/
/-- an invariant with its measure -/
def dWhile (c : DTT) (tb : DTS) : DTS := fun E Γ B => ∃ Wv : Nat → Gm → Bx → Prop, (∃ m, Wv m Γ B) ∧ ∀ m Γ B, Wv m Γ B →
  c Γ B (fun b B1 => if b = true then tb { E with nx := fun Γ' B' => ∃ m', m' < m ∧ Wv m' Γ' B', ct := fun Γ' B' => ∃ m', m' < m ∧ Wv m' Γ' B', bk := E.nx } Γ B1 else E.nx Γ B1) (E.ex Γ)
theorem ds_while {c : Expr} {body : List Stmt} {tc : DTT} {tb : DTS} (hp : PassesOwn (model X.prog X.w) X.A X.env X.xe) (hc : DT X TS W c tc) (hb : DSs X TS W body tb) : DS X TS W (.While c body [] pos) (dWhile tc tb) := PS_imp (ps_while hp hc hb) fun D σ H ⟨F, Γ, B, R, E, s, rp, hu, hE⟩ => by
  obtain ⟨Wv, ⟨m0, w0⟩, turn⟩ := hu
  refine ⟨fun m σ H => ∃ F' Γ B, Same F F' ∧ Slots X.K F' σ Γ ∧ RepH X.K TS F' H B R ∧ Wv m Γ B, ⟨m0, F, Γ, B, Same.refl F, s, rp, w0⟩, ?_⟩
  rintro m σ H ⟨F', Γ, B, e0, s, rp, w⟩
  have hE := hE.mono e0
  refine ⟨F', Γ, B, R, _, _, s, rp, turn m Γ B w, fun b B1 F1 H1 h1 e1 rp1 => ?_, hE.ex σ Γ F' (Same.refl F') s⟩
  cases b with
  | true =>
    refine iteT ⟨fun σ' H' => ∃ m', m' < m ∧ ∃ F' Γ B, Same F F' ∧ Slots X.K F' σ' Γ ∧ RepH X.K TS F' H' B R ∧ Wv m' Γ B, fun _ _ z => z, ?_⟩
    have again : NL X.K TS F1 R (fun Γ' B' => ∃ m', m' < m ∧ Wv m' Γ' B') (fun σ' H' => ∃ m', m' < m ∧ ∃ F' Γ B, Same F F' ∧ Slots X.K F' σ' Γ ∧ RepH X.K TS F' H' B R ∧ Wv m' Γ B) := fun Γ' B' F2 σ' H' hn e2 s2 rp2 => by
      obtain ⟨m', hm, w'⟩ := hn
      exact ⟨m', hm, F2, Γ', B', e0.trans (e1.trans e2), s2, rp2, w'⟩
    have hE1 := hE.mono e1
    exact ⟨F1, Γ, B1, R, _, s.mono e1, rp1, h1, again, hE1.rt, hE1.nx, again, hE1.ex⟩
  | false => exact iteF (hE.nx Γ B1 F1 σ H1 h1 e1 (s.mono e1) rp1)

/-! ### what is walked -/
/-- what must hold of the boxes at each turn -/
abbrev Gd := Option (Bx → Prop)
def guard (gd : Gd) (B : Bx) (P : Prop) : Prop := match gd with
  | none => P
  | some f => f B ∧ P
theorem guard_at {gd : Gd} {B : Bx} {P : Prop} (h : guard gd B P) : (∀ f, gd = some f → f B) ∧ P := by
  cases gd with
  | none => exact ⟨(fun _ z => nomatch z), h⟩
  | some f => exact ⟨fun _ z => (Option.some.inj z) ▸ h.1, h.2⟩
abbrev DTI := Gm → Bx → (List D → Gd → Bx → Prop) → XD → Prop
/-- the walk J gives the items ds, from F on, while the boxes are as gd says -/
structure Gives (K : PySem.W.Frag) (TS : List Addr) (F : Hp) (gd : Gd) (ds : List D) (J : It) : Prop where
  wk : ∃ G Y, Walk J ds.length G Y ∧ (∀ F2 H2 B2 R2, Same F F2 → RepH K TS F2 H2 B2 R2 → (∀ f, gd = some f → f B2) → G H2) ∧
    ∀ i H1 v H2 F1 B1 R1, Same F F1 → RepH K TS F1 H1 B1 R1 → (∀ f, gd = some f → f B1) → Y i H1 v H2 → ∃ F2 d, Same F1 F2 ∧ RepH K TS F2 H2 B1 R1 ∧ ds[i]? = some d ∧ Dv K F2 d v
def LI (K : PySem.W.Frag) (TS : List Addr) (W : WX) (t : DTI) : TI := fun σ H R0 => ∃ F Γ B R q x, Slots K F σ Γ ∧ RepH K TS F H B R ∧ t Γ B q x ∧
  (∀ ds gd B' F' H' J, q ds gd B' → Same F F' → RepH K TS F' H' B' R → Gives K TS F' gd ds J → R0 J H') ∧ XL K TS W F R σ x
def DI (X : Cx) (TS : List Addr) (W : WX) (tg iter : Expr) (t : DTI) : Prop := PI X tg iter (LI X.K TS W t)
theorem PI_imp {X : Cx} {tg e : Expr} {t t' : TI} (h : PI X tg e t) (k : ∀ σ H R, t' σ H R → t σ H R) : PI X tg e t' := ⟨fun pins s σ H R I hw => h.run pins s σ H R I (k σ H R hw)⟩
def forK (gd : Gd) (g : DTG) (tb : DTS) (E : DEnds) : List D → Gm → Bx → Prop
  | [], Γ, B => guard gd B (E.nx Γ B)
  | d :: ds, Γ, B => guard gd B (g d Γ B fun Γ1 B1 => tb { E with nx := forK gd g tb E ds, ct := forK gd g tb E ds, bk := E.nx } Γ1 B1)
def dFor (wi : DTI) (g : DTG) (tb : DTS) : DTS := fun E Γ B => wi Γ B (fun ds gd B1 => forK gd g tb E ds Γ B1) (E.ex Γ)
theorem ds_for {iter tg : Expr} {body : List Stmt} {wi : DTI} {g : DTG} {tb : DTS} (hp : PassesOwn (model X.prog X.w) X.A X.env X.xe) (hc : X.calm = true) (hi : DI X TS W tg iter wi) (hg : DG X TS tg g) (hb : DSs X TS W body tb)
    (hs : ∀ x, foldedSetIterable iter X.env x = pure x := by intro _; rfl) : DS X TS W (.For tg iter body [] pos) (dFor wi g tb) := PS_imp (ps_for hp hc hi hg hb hs) fun D σ H ⟨F, Γ, B, R, E, s, rp, hu, hE⟩ => by
  refine ⟨F, Γ, B, R, _, _, s, rp, hu, fun ds gd B' F' H' J h1 e1 rp1 gv => ?_, hE.ex σ Γ F (Same.refl F) s⟩
  obtain ⟨G, Y, wk, hG, hY⟩ := gv
  have hE1 := hE.mono e1
  refine for_it wk (fun i σ H => ∃ F2 Γ B, Same F' F2 ∧ Slots X.K F2 σ Γ ∧ RepH X.K TS F2 H B R ∧ forK gd g tb E (ds.drop i) Γ B) ⟨F', Γ, B', Same.refl F', s.mono e1, rp1, h1⟩ ?_ ?_ ?_
  · rintro i σ H hi ⟨F2, Γ, B, e2, s2, rp2, h2⟩
    refine hG F2 H B R e2 rp2 ?_
    cases hd : ds.drop i with
    | nil => rw [hd] at h2; exact (guard_at h2).1
    | cons d r => rw [hd] at h2; exact (guard_at h2).1
  · rintro i v σ H H2 hi ⟨F2, Γ, B, e2, s2, rp2, h2⟩ hy
    rw [List.drop_eq_getElem_cons hi] at h2
    obtain ⟨hgd, h2⟩ := guard_at (show guard gd B (g ds[i] Γ B fun Γ1 B1 => tb { E with nx := forK gd g tb E (ds.drop (i + 1)), ct := forK gd g tb E (ds.drop (i + 1)), bk := E.nx } Γ1 B1) from h2)
    obtain ⟨F3, d, e3, rp3, hd, dv⟩ := hY i H v H2 F2 B R e2 rp2 hgd hy
    have ed : d = ds[i] := by rw [List.getElem?_eq_getElem hi] at hd; exact (Option.some.inj hd).symm
    subst ed
    refine ⟨F3, Γ, B, R, _, _, s2.mono e3, rp3, dv, h2, fun Γ' B' F4 σ' H' hn e4 s4 rp4 => ?_⟩
    have hE4 := hE1.mono (e2.trans (e3.trans e4))
    have again : NL X.K TS F4 R (forK gd g tb E (ds.drop (i + 1))) (fun σ H => ∃ F2 Γ B, Same F' F2 ∧ Slots X.K F2 σ Γ ∧ RepH X.K TS F2 H B R ∧ forK gd g tb E (ds.drop (i + 1)) Γ B) := fun Γ5 B5 F5 σ5 H5 hn5 e5 s5 rp5 =>
      ⟨F5, Γ5, B5, e2.trans (e3.trans (e4.trans e5)), s5, rp5, hn5⟩
    exact ⟨F4, Γ', B', R, _, s4, rp4, hn, again, hE4.rt, hE4.nx, again, hE4.ex⟩
  · rintro σ H ⟨F2, Γ, B, e2, s2, rp2, h2⟩
    rw [List.drop_length] at h2
    obtain ⟨_, h2⟩ := guard_at (show guard gd B (E.nx Γ B) from h2)
    exact hE1.nx Γ B F2 σ H h2 e2 s2 rp2

/-! #### lists, tuples, as they stand at each turn -/
theorem walk_listD {K : PySem.W.Frag} {a : Addr} {n : Nat} : Walk (Itl K a) n (fun H => ∃ xs, SqL K H a xs ∧ xs.length = n) (fun i H x H' => H' = H ∧ i < n ∧ ∀ xs, SqL K H a xs → xs[i]? = some x) :=
  ⟨fun i _ hi ⟨xs, q, hl⟩ => ⟨xs, xs[i]'(by omega), q, by simp [show i < xs.length by omega]⟩, fun _ ⟨xs, q, hl⟩ => ⟨xs, q, by omega⟩, fun _ _ _ _ hi _ y => ⟨y.1, hi, y.2⟩⟩
theorem walk_tupD {K : PySem.W.Frag} {a : Addr} {n : Nat} : Walk (Itt K a) n (fun H => ∃ xs, SqT K H a xs ∧ xs.length = n) (fun i H x H' => H' = H ∧ i < n ∧ ∀ xs, SqT K H a xs → xs[i]? = some x) :=
  ⟨fun i _ hi ⟨xs, q, hl⟩ => ⟨xs, xs[i]'(by omega), q, by simp [show i < xs.length by omega]⟩, fun _ ⟨xs, q, hl⟩ => ⟨xs, q, by omega⟩, fun _ _ _ _ hi _ y => ⟨y.1, hi, y.2⟩⟩
/-- a list's guard: a datum needs none -/
def lstGd : D → List D → Gd
  | .ref a, xs => some fun B => B a = some (.lst xs)
  | _, _ => none
theorem lst_stays {K : PySem.W.Frag} {F F2 H2 : Hp} {B B2 R2 : Bx} {d : D} {v : V} {ds : List D} {a : Addr} (hd : lstOf B d = some ds) (dv : Dv K F d v) (ev : v = .ref a) (e : Same F F2) (rp2 : RepH K TS F2 H2 B2 R2) (hg : ∀ f, lstGd d ds = some f → f B2) :
    ∃ vs, SqL K H2 a vs ∧ Dvs K F2 ds vs := by
  unfold lstOf at hd
  split at hd
  · cases hd
    obtain ⟨b, ws, e1, h1, h2⟩ := dv
    rw [ev] at e1; cases e1
    exact ⟨ws, SqL.of (rp2.le _ _ (e _ _ h1)), h2.mono e⟩
  · cases hd
    obtain ⟨b, ws, e1, h1, h2⟩ := dv
    rw [ev] at e1; cases e1
    exact ⟨ws, rp2.le.seq (e.seq h1), h2.mono e⟩
  · rename_i b
    split at hd
    · cases hd
      have dv : v = .ref b := dv
      rw [ev] at dv; cases dv
      obtain ⟨_, ws, h1, h2⟩ := rp2.bx a _ (hg _ rfl)
      exact ⟨ws, SqL.of h1, h2⟩
    · cases hd
  · cases hd
def dILst (te : DTE) : DTI := fun Γ B q x => te Γ B (fun d B1 => ∃ xs, lstOf B1 d = some xs ∧ q xs (lstGd d xs) B1) x
theorem di_list {tg : Expr} (he : DE X TS W e te) : DI X TS W tg e (dILst te) := PI_imp (pi_list he) fun σ H R0 ⟨F, Γ, B, R, q, x, s, rp, hu, hq, hx⟩ => by
  refine ⟨F, Γ, B, R, _, x, s, rp, hu, fun d B1 F1 H1 v h1 e1 rp1 dv1 => ?_, hx⟩
  obtain ⟨xs, h2, h1⟩ := h1
  obtain ⟨a, vs, ev, h3, h4⟩ := lst_of rp1 h2 dv1
  refine ⟨a, ev, ⟨vs, h4⟩, hq _ _ B1 F1 H1 _ h1 e1 rp1 ⟨_, _, walk_listD (n := xs.length), fun F2 H2 B2 R2 e2 rp2 hg => ?_, fun i Ha u Hb F2 B2 R2 e2 rp2 hg hy => ?_⟩⟩
  · obtain ⟨ws, h5, h6⟩ := lst_stays h2 dv1 ev e2 rp2 hg
    exact ⟨ws, h5, h6.length⟩
  · obtain ⟨rfl, hi, hy⟩ := hy
    obtain ⟨ws, h5, h6⟩ := lst_stays h2 dv1 ev e2 rp2 hg
    obtain ⟨d2, h7, h8⟩ := h6.getV (hy ws h5)
    exact ⟨F2, d2, Same.refl _, rp2, h7, h8⟩
theorem tup_stays {K : PySem.W.Frag} {F F2 H2 : Hp} {B2 R2 : Bx} {d : D} {v : V} {ds : List D} {a : Addr} (hd : tupOf d = some ds) (dv : Dv K F d v) (ev : v = .ref a) (e : Same F F2) (rp2 : RepH K TS F2 H2 B2 R2) : ∃ vs, SqT K H2 a vs ∧ Dvs K F2 ds vs := by
  unfold tupOf at hd
  split at hd
  · cases hd
    obtain ⟨b, ws, e1, h1, h2⟩ := dv
    rw [ev] at e1; cases e1
    exact ⟨ws, SqT.of (rp2.le _ _ (e _ _ h1)), h2.mono e⟩
  · cases hd
    obtain ⟨b, ws, e1, h1, h2⟩ := dv
    rw [ev] at e1; cases e1
    exact ⟨ws, SqT_mono rp2.le (SqT_mono e h1), h2.mono e⟩
  · cases hd
def dITup (te : DTE) : DTI := fun Γ B q x => te Γ B (fun d B1 => ∃ xs, tupOf d = some xs ∧ q xs none B1) x
theorem di_tup {tg : Expr} (he : DE X TS W e te) : DI X TS W tg e (dITup te) := PI_imp (pi_tup he) fun σ H R0 ⟨F, Γ, B, R, q, x, s, rp, hu, hq, hx⟩ => by
  refine ⟨F, Γ, B, R, _, x, s, rp, hu, fun d B1 F1 H1 v h1 e1 rp1 dv1 => ?_, hx⟩
  obtain ⟨xs, h2, h1⟩ := h1
  obtain ⟨a, vs, ev, h3, h4⟩ := tup_of rp1 h2 dv1
  refine ⟨a, ev, ⟨vs, h4⟩, hq _ _ B1 F1 H1 _ h1 e1 rp1 ⟨_, _, walk_tupD (n := xs.length), fun F2 H2 B2 R2 e2 rp2 hg => ?_, fun i Ha u Hb F2 B2 R2 e2 rp2 hg hy => ?_⟩⟩
  · obtain ⟨ws, h5, h6⟩ := tup_stays h2 dv1 ev e2 rp2
    exact ⟨ws, h5, h6.length⟩
  · obtain ⟨rfl, hi, hy⟩ := hy
    obtain ⟨ws, h5, h6⟩ := tup_stays h2 dv1 ev e2 rp2
    obtain ⟨d2, h7, h8⟩ := h6.getV (hy ws h5)
    exact ⟨F2, d2, Same.refl _, rp2, h7, h8⟩
/-! #### ranges -/
def upto (lo : Int) : Nat → List D
  | 0 => []
  | n + 1 => .int lo :: upto (lo + 1) n
theorem upto_length (lo : Int) : ∀ n, (upto lo n).length = n
  | 0 => rfl
  | n + 1 => by show (upto (lo + 1) n).length + 1 = n + 1; rw [upto_length (lo + 1) n]
theorem upto_at : ∀ (n : Nat) (lo : Int) (i : Nat), i < n → (upto lo n)[i]? = some (.int (lo + i))
  | 0, _, _, h => absurd h (Nat.not_lt_zero _)
  | n + 1, lo, 0, _ => by show some (D.int lo) = _; simp
  | n + 1, lo, i + 1, h => by
    show (upto (lo + 1) n)[i]? = _
    rw [upto_at n (lo + 1) i (by omega)]
    have e : lo + 1 + (i : Int) = lo + ((i + 1 : Nat) : Int) := by omega
    rw [e]
theorem gives_range {K : PySem.W.Frag} {F : Hp} {lo : Int} {n : Nat} : Gives K TS F none (upto lo n) (Itr lo n) := ⟨_, _, by rw [upto_length]; exact ⟨fun _ _ hi _ => hi, fun _ _ => Nat.le_refl _, fun i H x H' hi _ y => (⟨hi, y⟩ : i < n ∧ H' = H ∧ x = V.int (lo + i))⟩, fun _ _ _ _ _ _ _ => (trivial : (fun _ : Hp => True) _), fun i Ha u Hb F2 B2 R2 e2 rp2 hg hy => by
  obtain ⟨hi, rfl, rfl⟩ := hy
  exact ⟨F2, .int (lo + i), Same.refl _, rp2, upto_at n lo i hi, rfl⟩⟩
variable {ta : DTA}
def dIR1 (ta : DTA) : DTI := fun Γ B q x => ta Γ B (fun ds B1 => match ds with
  | [.int j] => (-(2 ^ 62) ≤ j ∧ j < 2 ^ 62) ∧ q (upto 0 j.toNat) none B1
  | _ => False) x
def dIR2 (ta : DTA) : DTI := fun Γ B q x => ta Γ B (fun ds B1 => match ds with
  | [.int i, .int j] => (-(2 ^ 62) ≤ i ∧ i < 2 ^ 62 ∧ -(2 ^ 62) ≤ j ∧ j < 2 ^ 62) ∧ q (upto i (j - i).toNat) none B1
  | _ => False) x
theorem di_range1 {tg a : Expr} {p : Pos} (hg : Gl X "range") (hm : X.mg "range" = none) (ha : DA X TS W [a] ta) (hs : starEach [a] X.env = [(false, eval a X.env)] := by rfl) : DI X TS W tg (.Call (.Name "range" p) [a] [] pos) (dIR1 ta) := PI_imp (pi_range1 hg hm ha hs) fun σ H R0 ⟨F, Γ, B, R, q, x, s, rp, hu, hq, hx⟩ => by
  refine ⟨F, Γ, B, R, _, x, s, rp, hu, fun ds B1 F1 H1 vs h1 e1 rp1 dv1 => ?_, hx⟩
  dsimp only at h1
  split at h1
  · obtain ⟨v, e2, h2⟩ := dv1.one
    exact ⟨_, by rw [e2, show v = _ from h2], h1.1.1, h1.1.2, hq _ _ B1 F1 H1 _ h1.2 e1 rp1 gives_range⟩
  · exact h1.elim
theorem di_range2 {tg a b : Expr} {p : Pos} (hg : Gl X "range") (hm : X.mg "range" = none) (ha : DA X TS W [a, b] ta) (hs : starEach [a, b] X.env = [(false, eval a X.env), (false, eval b X.env)] := by rfl) (hs2 : starEach [b] X.env = [(false, eval b X.env)] := by rfl) : DI X TS W tg (.Call (.Name "range" p) [a, b] [] pos) (dIR2 ta) := PI_imp (pi_range2 hg hm ha hs hs2) fun σ H R0 ⟨F, Γ, B, R, q, x, s, rp, hu, hq, hx⟩ => by
  refine ⟨F, Γ, B, R, _, x, s, rp, hu, fun ds B1 F1 H1 vs h1 e1 rp1 dv1 => ?_, hx⟩
  dsimp only at h1
  split at h1
  · obtain ⟨v, u, e2, h2, h3⟩ := dv1.two
    exact ⟨_, _, by rw [e2, show v = _ from h2, show u = _ from h3], h1.1, hq _ _ B1 F1 H1 _ h1.2 e1 rp1 gives_range⟩
  · exact h1.elim
end
end DL
set_option Elab.async false
set_option linter.all false
set_option maxRecDepth 100000
set_option maxHeartbeats 2000000
/-! DL5: enumerate of a list or a tuple, zip, comprehensions. -/
namespace DL
open PySem PySem.Spec PyProof.Rows L2

/-! ### enumerate(t), enumerate(t, c): a tuple -/
def IteT (K : PySem.W.Frag) (a : Addr) (c : Int) : It :=
  ⟨fun i H => ∃ (xs : List V) (x : V), SqT K H a xs ∧ xs[i]? = some x, fun i H v H' => ∃ T x, v = .ref T ∧ H T = none ∧ H' = upd H T (.tup [.int (c + (i : Nat)), x]) ∧ ∀ xs, SqT K H a xs → xs[i]? = some x, fun i H => ∃ xs : List V, SqT K H a xs ∧ xs.length = i⟩
theorem turn_enumT {P : Program} {w : World} {K : PySem.W.Frag} {elts : List Expr} {kk : Nat} {tpos : Pos} (a e it : Addr) (c : Int) :
    Turn P w K (.Tuple elts kk tpos) (IteT K a c) [e, it] e (fun i h => (∃ old, IsEnum h e it (c + ((i : Nat) : Int)) old) ∧ h.IsTupleIter it a i ∧ e ≠ it) where
  mem := by simp
  obj := fun i h st b hb => by
    obtain ⟨⟨old, he⟩, ⟨o, ho, hc, hd⟩, _⟩ := st
    have e' : b = e ∨ b = it := by simpa using hb
    rcases e' with z | z
    · rw [z]; exact ⟨_, he, fun v q => nomatch q⟩
    · rw [z]; exact ⟨o, ho, fun v q => by rw [hd] at q; cases q⟩
  keep := fun i h h' st k => let ⟨⟨old, he⟩, hi, hne⟩ := st; ⟨⟨old, k e (by simp) _ he⟩, hi.at fun o q => k it (by simp) o q, hne⟩
  item := by
    intro X hP hw hK hc i pins s σ H E I hf st hg
    subst hP hw hK
    obtain ⟨⟨old, he⟩, hit, hne⟩ := st
    obtain ⟨xs, x, hq, hx⟩ := hg
    obtain ⟨its, rv, p, hz⟩ := I.tuple hq
    have hel : e < s.heap.objs.size := Heap.lt_size he
    have hil : it < s.heap.objs.size := by obtain ⟨_, q, _⟩ := hit; exact Heap.lt_size q
    have nai : a ≠ it := fun z => by
      obtain ⟨o, q, qc, _⟩ := hit
      obtain ⟨o', q', qc', _⟩ := p
      rw [z, q] at q'; cases q'; rw [qc] at qc'; injection qc' with qq; exact absurd qq (by decide)
    have nae : a ≠ e := fun z => by
      have he' : s.heap.get? e = some _ := he
      obtain ⟨o', q', qc', _⟩ := p
      rw [z, he'] at q'; cases q'; injection qc' with qq; exact absurd qq (by decide)
    have hlt : i < its.toArray.size := by
      have h1 := (List.getElem?_eq_some_iff.mp hx).1
      rw [rv.length] at h1
      simpa using h1
    refine wpAny_pyNext_enum_itemC (Draws.tuple (show X.A.in1.handled = none from I.ok.hd hc) it a nai its.toArray) he ⟨hit, p⟩ hlt hne (by simp [hne, Ne.symm nae]) fun u h' tk hu ho hit' hT hsz hk => ?_
    refine ⟨_, rfl, wpAny_letOwnedTupleGo_enum (s := { s with heap := h', toks := tk + 1 }) ho fun h'' he' sb => ?_⟩
    have ru : RelV x u := by
      obtain ⟨u', h1, h2⟩ := rv.get hx
      have hu : its.toArray[i]? = some u := hu
      have : its[i]? = some u := by simpa using hu
      rw [h1] at this; cases this
      exact h2
    have hT2 : h''.get? s.heap.objs.size = some { cls := .type "tuple", data := .seq #[.int (c + i) tk, u] } := (sb.2 _ (Nat.ne_of_gt hel)).trans hT
    have new : ObjOk X.prog X.w (upd H s.heap.objs.size (.tup [.int (c + (i : Nat)), x])) h'' s.heap.objs.size (.tup [.int (c + (i : Nat)), x]) :=
      ⟨by show 2 ≤ sizeLine; decide, [.int (c + i) tk, u], .cons ⟨_, rfl⟩ (.cons ru .nil), ⟨_, hT2, rfl, _, rfl⟩⟩
    have I1 : Inv X pins σ (upd H s.heap.objs.size (.tup [.int (c + (i : Nat)), x])) { s with heap := h'', toks := tk + 1 } :=
      I.turnedNew (ch := [e, it]) (fun b ob hb q => (sb.2 b (fun z => hb (by simp [z]))).trans (hk b ob (fun z => hb (by simp [z])) (fun z => hb (by simp [z])) q)) hf (Nat.le_refl _) new
    refine ⟨.ref s.heap.objs.size, _, I1, rfl, ⟨_, x, rfl, I.hok.fresh (Nat.le_refl _), rfl, fun ys hy => by rw [I.tuple_inj hy hq]; exact hx⟩, ⟨⟨u, ?_⟩, hit'.1.at fun o q => (sb.2 it (Ne.symm hne)).trans q, hne⟩, fun b hb => ?_⟩
    · have e1 : c + ((i + 1 : Nat) : Int) = c + (i : Int) + 1 := by omega
      rw [e1]; exact he'
    · have hb' : b < s.heap.objs.size := by
        have e' : b = e ∨ b = it := by simpa using hb
        rcases e' with z | z
        · rw [z]; exact hel
        · rw [z]; exact hil
      rw [upd_ne (Nat.ne_of_lt hb')]
      exact (hf b hb).1
  done := by
    intro X hP hw hK hc i pins s σ H E I hf st hg
    subst hP hw hK
    obtain ⟨⟨old, he⟩, hit, hne⟩ := st
    obtain ⟨xs, hq, hx⟩ := hg
    obtain ⟨its, rv, p, hz⟩ := I.tuple hq
    obtain ⟨f0, f1, f2, f3, f4, f5⟩ := hf it (by simp)
    have nai : a ≠ it := fun z => by
      obtain ⟨o, q, qc, _⟩ := hit
      obtain ⟨o', q', qc', _⟩ := p
      rw [z, q] at q'; cases q'; rw [qc] at qc'; injection qc' with qq; exact absurd qq (by decide)
    have hl : its.toArray.size = i := by rw [← hx, rv.length]; simp
    refine wpAny_pyNext_enum_endD (Draws.tuple (show X.A.in1.handled = none from I.ok.hd hc) it a nai its.toArray) he (by rw [hl]; exact ⟨hit, p⟩) fun h' eb => ⟨rfl, I.turned (t' := s.toks) (fun b o hb q => eb b o hb q) f0 f1 f3 f4 f5⟩
  self := fun A i s Q E st h => let ⟨⟨_, he⟩, _⟩ := st; wpAny_pyIter_enum he h

theorem meets_enumerate_new1 {v : Value} {o : Obj} {H : Heap → Prop} (B : Begins v o H) :
    Meets (Builtin.«enumerate.__new__» ⟨[.type "enumerate", v], []⟩) (fun _ R s => H s.heap ∧
      R (.ok (.ret (.ref (s.heap.push o).objs.size))) { s with heap := (s.heap.push o).push { cls := .type "enumerate", data := .fields #[.none, .bool false, .ref s.heap.objs.size, rawInt 0, .none, .none] } }) :=
  .of_wp fun prog w A R s h => by
    obtain ⟨hp, g, d, tk, os⟩ := s; obtain ⟨h1, h⟩ := h
    have hsub := sub_enumerate
    have q1 : ∀ {A' : Around} {E : Value → Shared → Prop} {Q : Value → Shared → Prop}, Q (.ref hp.objs.size) ⟨hp.push o, g, d, tk, os⟩ → wpAny (model prog w) A' (pyIter v) Q E ⟨hp, g, d, tk, os⟩ :=
      fun q => B.iter prog w _ _ ⟨hp, g, d, tk, os⟩ _ h1 q
    wp_walk using q1
    refine wpAny_stack_any fun st => wpAny_pure ?_
    split
    · rename_i c _ _ _ _ _
      cases (c == Value.type "enumerate")
      · wp_walk using q1
        exact ⟨_, rfl, h⟩
      · wp_walk using q1
        exact ⟨_, rfl, h⟩
    · wp_walk using q1
      exact ⟨_, rfl, h⟩
theorem enum_begins1 {prog : Program} {w : World} {A : Around} {E : Value → Shared → Prop} {s : Shared} {v : Value} {o : Obj} {H : Heap → Prop} {Q : Value → Shared → Prop} (B : Begins v o H) (h1 : H s.heap)
    (h : ∀ h', IsEnum h' (s.heap.objs.size + 1) s.heap.objs.size 0 .none → h'.get? s.heap.objs.size = some o → h'.objs.size = s.heap.objs.size + 2 →
      (∀ b o, s.heap.get? b = some o → h'.get? b = some o) → Q (.ref (s.heap.objs.size + 1)) { s with heap := h' }) :
    wpAny (model prog w) A (call (.type "enumerate") [v]) Q E s := by
  refine callType_new F.called_enumerate (by decide) (F.typeCall_enumerate_1 _) (F.newCall_enumerate_1 _) (fun obj => F.args_object_init_2 obj _) F.entry_enumerate_new
    (meets_enumerate_new1 B) ⟨h1, ?_⟩
  have hz : (s.heap.push o).objs.size = s.heap.objs.size + 1 := Heap.size_push ..
  show _ ∧ _
  rw [hz]
  have he : IsEnum ((s.heap.push o).push { cls := .type "enumerate", data := .fields #[.none, .bool false, .ref s.heap.objs.size, rawInt 0, .none, .none] }) (s.heap.objs.size + 1) s.heap.objs.size 0 .none := by
    have := Heap.get?_push_size (s.heap.push o) (o := { cls := .type "enumerate", data := .fields #[.none, .bool false, .ref s.heap.objs.size, rawInt 0, .none, .none] }) rfl
    rw [hz] at this; exact this
  refine ⟨⟨_, he, rfl⟩, h _ he (Heap.get?_push_of_some _ (Heap.get?_push_size _ B.free)) (by rw [Heap.size_push, hz]) fun b o x => Heap.get?_push_of_some _ (Heap.get?_push_of_some _ x)⟩
/-- enumerate of a list or of a tuple -/
def iEnumS (K : PySem.W.Frag) (ta : TA) : TI := fun σ H R => ta σ H fun vs H1 => ∃ a, vs = [.ref a] ∧ ((∃ xs, SqL K H1 a xs ∧ R (Ite K a) H1) ∨ ∃ xs, SqT K H1 a xs ∧ R (IteT K a 0) H1)
theorem pi_enumS {X : Cx} {e : Expr} {ta : TA} {p pos tpos : Pos} {elts : List Expr} {kk : Nat} (hg : Gl X "enumerate") (hm : X.mg "enumerate" = none) (ha : PA X [e] ta) (hs : starEach [e] X.env = [(false, eval e X.env)] := by rfl) :
    PI X (.Tuple elts kk tpos) (.Call (.Name "enumerate" p) [e] [] pos) (iEnumS X.K ta) := by
  refine ⟨fun pins s σ H R I h => ?_⟩
  refine Call_ (ld_blt I hg hm boot_enumerate (PyProof.Rows.callWith_type1 (thn (ha.run pos pins s σ H _ I h) fun us s1 ⟨vs, H1, I1, r1, q1⟩ => ?_) hs rfl))
  obtain ⟨a, ex, hq⟩ := q1
  subst ex
  have fp : ∀ b ∈ [s1.heap.objs.size + 1, s1.heap.objs.size], FpOk X pins H1 b := fun b hb => by
    have e' : b = s1.heap.objs.size + 1 ∨ b = s1.heap.objs.size := by simpa using hb
    have hle : s1.heap.objs.size ≤ b := by
      rcases e' with z | z
      · rw [z]; exact Nat.le_add_right _ _
      · rw [z]; exact Nat.le_refl _
    exact I1.fpOk hle (I1.hok.fresh hle)
  cases r1 with
  | cons r rr =>
    cases rr
    cases r
    rcases hq with ⟨xs, hq, q⟩ | ⟨xs, hq, q⟩
    · obtain ⟨its, rv, p', hz⟩ := I1.list hq
      refine call_enumerate_list p'.isList fun h' he hit hsz hk => wpAny_pyIter_enum he ?_
      have I2 : Inv X pins σ H1 { s1 with heap := h' } := I1.kept (t' := s1.toks) hk
      exact ⟨s1.heap.objs.size + 1, [s1.heap.objs.size + 1, s1.heap.objs.size], _, _, H1, rfl, I2, turn_enum a (s1.heap.objs.size + 1) s1.heap.objs.size, ⟨⟨.none, he⟩, hit, Nat.succ_ne_self _⟩, fp, q⟩
    · obtain ⟨its, rv, p', hz⟩ := I1.tuple hq
      refine enum_begins1 (begins_tuple a its.toArray) (show s1.heap.IsTuple a its.toArray from p') fun h' he hit hsz hk => wpAny_pyIter_enum he ?_
      have I2 : Inv X pins σ H1 { s1 with heap := h' } := I1.kept (t' := s1.toks) hk
      exact ⟨s1.heap.objs.size + 1, [s1.heap.objs.size + 1, s1.heap.objs.size], _, _, H1, rfl, I2, turn_enumT a (s1.heap.objs.size + 1) s1.heap.objs.size 0, ⟨⟨.none, by simpa using he⟩, ⟨_, hit, rfl, rfl⟩, Nat.succ_ne_self _⟩, fp, q⟩
/-- enumerate(t, c), t a tuple -/
def iEnumC (K : PySem.W.Frag) (ta : TA) : TI := fun σ H R => ta σ H fun vs H1 => ∃ a c, vs = [.ref a, .int c] ∧ (-(2 ^ 63) ≤ c ∧ c < 2 ^ 63) ∧ ∃ xs, SqT K H1 a xs ∧ R (IteT K a c) H1
theorem pi_enumC {X : Cx} {e e2 : Expr} {ta : TA} {p pos tpos : Pos} {elts : List Expr} {kk : Nat} (hg : Gl X "enumerate") (hm : X.mg "enumerate" = none) (ha : PA X [e, e2] ta)
    (hs : starEach [e, e2] X.env = [(false, eval e X.env), (false, eval e2 X.env)] := by rfl) (hs2 : starEach [e2] X.env = [(false, eval e2 X.env)] := by rfl) :
    PI X (.Tuple elts kk tpos) (.Call (.Name "enumerate" p) [e, e2] [] pos) (iEnumC X.K ta) := by
  refine ⟨fun pins s σ H R I h => ?_⟩
  refine Call_ (ld_blt I hg hm boot_enumerate (PyProof.Rows.callWith_type1 (thn (ha.run pos pins s σ H _ I h) fun us s1 ⟨vs, H1, I1, r1, q1⟩ => ?_) (by rw [hs, hs2]) (by rw [hs2]; rfl)))
  obtain ⟨a, c, ex, hc, xs, hq, q⟩ := q1
  subst ex
  have fp : ∀ b ∈ [s1.heap.objs.size + 1, s1.heap.objs.size], FpOk X pins H1 b := fun b hb => by
    have e' : b = s1.heap.objs.size + 1 ∨ b = s1.heap.objs.size := by simpa using hb
    have hle : s1.heap.objs.size ≤ b := by
      rcases e' with z | z
      · rw [z]; exact Nat.le_add_right _ _
      · rw [z]; exact Nat.le_refl _
    exact I1.fpOk hle (I1.hok.fresh hle)
  cases r1 with
  | cons r rr =>
    cases rr with
    | cons r2 rr =>
      cases rr
      cases r
      obtain ⟨t, rfl⟩ := r2
      obtain ⟨its, rv, p', hz⟩ := I1.tuple hq
      refine enum_begins (begins_tuple a its.toArray) (show s1.heap.IsTuple a its.toArray from p') hc.1 hc.2 fun h' he hit hsz hk => wpAny_pyIter_enum he ?_
      have I2 : Inv X pins σ H1 { s1 with heap := h' } := I1.kept (t' := s1.toks) hk
      exact ⟨s1.heap.objs.size + 1, [s1.heap.objs.size + 1, s1.heap.objs.size], _, _, H1, rfl, I2, turn_enumT a (s1.heap.objs.size + 1) s1.heap.objs.size c, ⟨⟨.none, by simpa using he⟩, ⟨_, hit, rfl, rfl⟩, Nat.succ_ne_self _⟩, fp, q⟩

section
variable {X : Cx} {TS : List Addr} {W : WX} {pos : Pos} {e : Expr} {te : DTE} {ta : DTA}
/-- pairs of the place, from c on, and the item -/
def enumL (c : Int) : List D → List D
  | [] => []
  | d :: ds => .tup [.int c, d] :: enumL (c + 1) ds
theorem enumL_length : ∀ (ds : List D) (c : Int), (enumL c ds).length = ds.length
  | [], _ => rfl
  | _ :: ds, c => by show (enumL (c + 1) ds).length + 1 = _; rw [enumL_length ds (c + 1)]; rfl
theorem enumL_at : ∀ (ds : List D) (c : Int) (i : Nat) (d : D), ds[i]? = some d → (enumL c ds)[i]? = some (.tup [.int (c + i), d])
  | [], _, _, _, h => by simp at h
  | a :: ds, c, 0, d, h => by
    have h : some a = some d := h
    cases h
    show some (D.tup [.int c, a]) = _
    simp
  | _ :: ds, c, i + 1, d, h => by
    show (enumL (c + 1) ds)[i]? = _
    rw [enumL_at ds (c + 1) i d (by simpa using h)]
    have e : c + 1 + (i : Int) = c + ((i + 1 : Nat) : Int) := by omega
    rw [e]
theorem walk_enumD {K : PySem.W.Frag} {a : Addr} {n : Nat} : Walk (Ite K a) n (fun H => ∃ xs, SqL K H a xs ∧ xs.length = n) (fun i H v H' => i < n ∧ ∃ T x, v = .ref T ∧ H T = none ∧ H' = upd H T (.tup [.int (i : Nat), x]) ∧ ∀ xs, SqL K H a xs → xs[i]? = some x) :=
  ⟨fun i _ hi ⟨xs, q, hl⟩ => ⟨xs, xs[i]'(by omega), q, by simp [show i < xs.length by omega]⟩, fun _ ⟨xs, q, hl⟩ => ⟨xs, q, by omega⟩, fun _ _ _ _ hi _ y => ⟨hi, y⟩⟩
theorem walk_enumTD {K : PySem.W.Frag} {a : Addr} {n : Nat} {c : Int} : Walk (IteT K a c) n (fun H => ∃ xs, SqT K H a xs ∧ xs.length = n) (fun i H v H' => i < n ∧ ∃ T x, v = .ref T ∧ H T = none ∧ H' = upd H T (.tup [.int (c + (i : Nat)), x]) ∧ ∀ xs, SqT K H a xs → xs[i]? = some x) :=
  ⟨fun i _ hi ⟨xs, q, hl⟩ => ⟨xs, xs[i]'(by omega), q, by simp [show i < xs.length by omega]⟩, fun _ ⟨xs, q, hl⟩ => ⟨xs, q, hl⟩, fun _ _ _ _ hi _ y => ⟨hi, y⟩⟩
/-- a new pair, as a datum -/
theorem pair_new {K : PySem.W.Frag} {F H : Hp} {B R : Bx} {x y : V} {d e : D} {T : Addr} (rp : RepH K TS F H B R) (hT : H T = none) (hd : Dv K F d x) (he : Dv K F e y) :
    ∃ F2, Same F F2 ∧ RepH K TS F2 (upd H T (.tup [x, y])) B R ∧ Dv K F2 (.tup [d, e]) (.ref T) :=
  have sm : Same F (upd F T (.tup [x, y])) := same_upd (rp.freeF hT)
  ⟨upd F T (.tup [x, y]), sm, rp.datum hT, T, [x, y], rfl, upd_same, x, [y], rfl, hd.mono sm, y, [], rfl, he.mono sm, rfl⟩
def iEn (ds : List D) (B1 : Bx) (q : List D → Gd → Bx → Prop) : Prop := match ds with
  | [.tup xs] => q (enumL 0 xs) none B1
  | [.rot xs] => q (enumL 0 xs) none B1
  | [d] => ∃ xs, lstOf B1 d = some xs ∧ q (enumL 0 xs) (lstGd d xs) B1
  | _ => False
def dIEn (ta : DTA) : DTI := fun Γ B q x => ta Γ B (fun ds B1 => iEn ds B1 q) x
theorem gives_enumT {K : PySem.W.Frag} {F : Hp} {d : D} {a : Addr} {xs : List D} {v : V} {c : Int} (h2 : tupOf d = some xs) (dv1 : Dv K F d v) (ev : v = .ref a) : Gives K TS F none (enumL c xs) (IteT K a c) :=
  ⟨_, _, walk_enumTD, fun F2 H2 B2 R2 e2 rp2 hg => by
    obtain ⟨ws, h5, h6⟩ := tup_stays h2 dv1 ev e2 rp2
    exact ⟨ws, h5, by rw [h6.length, enumL_length]⟩, fun i Ha u Hb F2 B2 R2 e2 rp2 hg hy => by
    obtain ⟨hi, T, x, rfl, hT, rfl, hy⟩ := hy
    obtain ⟨ws, h5, h6⟩ := tup_stays h2 dv1 ev e2 rp2
    obtain ⟨d2, h7, h8⟩ := h6.getV (hy ws h5)
    obtain ⟨F3, e3, rp3, dv3⟩ := pair_new (d := .int (c + (i : Nat))) rp2 hT rfl h8
    exact ⟨F3, _, e3, rp3, enumL_at xs c i d2 h7, dv3⟩⟩
theorem di_enum {elts : List Expr} {kk : Nat} {p tpos : Pos} (hg : Gl X "enumerate") (hm : X.mg "enumerate" = none) (ha : DA X TS W [e] ta) (hs : starEach [e] X.env = [(false, eval e X.env)] := by rfl) :
    DI X TS W (.Tuple elts kk tpos) (.Call (.Name "enumerate" p) [e] [] pos) (dIEn ta) := PI_imp (pi_enumS hg hm ha hs) fun σ H R0 ⟨F, Γ, B, R, q, x, s, rp, hu, hq, hx⟩ => by
  refine ⟨F, Γ, B, R, _, x, s, rp, hu, fun ds B1 F1 H1 vs h1 e1 rp1 dv1 => ?_, hx⟩
  dsimp only [iEn] at h1
  split at h1
  · obtain ⟨v, e2, h2⟩ := dv1.one
    obtain ⟨a, vs, ev, h3, h4⟩ := tup_of rp1 (d := .tup _) rfl h2
    exact ⟨a, by rw [e2, ev], .inr ⟨vs, h4, hq _ _ B1 F1 H1 _ h1 e1 rp1 (gives_enumT rfl h2 ev)⟩⟩
  · obtain ⟨v, e2, h2⟩ := dv1.one
    obtain ⟨a, vs, ev, h3, h4⟩ := tup_of rp1 (d := .rot _) rfl h2
    exact ⟨a, by rw [e2, ev], .inr ⟨vs, h4, hq _ _ B1 F1 H1 _ h1 e1 rp1 (gives_enumT rfl h2 ev)⟩⟩
  · rename_i d _ _
    obtain ⟨v, e2, dv⟩ := dv1.one
    obtain ⟨xs, h2, h1⟩ := h1
    obtain ⟨a, vs, ev, h3, h4⟩ := lst_of rp1 h2 dv
    refine ⟨a, by rw [e2, ev], .inl ⟨vs, h4, hq _ _ B1 F1 H1 _ h1 e1 rp1 ⟨_, _, walk_enumD, fun F2 H2 B2 R2 e2 rp2 hg => ?_, fun i Ha u Hb F2 B2 R2 e2 rp2 hg hy => ?_⟩⟩⟩
    · obtain ⟨ws, h5, h6⟩ := lst_stays h2 dv ev e2 rp2 hg
      exact ⟨ws, h5, by rw [h6.length, enumL_length]⟩
    · obtain ⟨hi, T, x, rfl, hT, rfl, hy⟩ := hy
      obtain ⟨ws, h5, h6⟩ := lst_stays h2 dv ev e2 rp2 hg
      obtain ⟨d2, h7, h8⟩ := h6.getV (hy ws h5)
      obtain ⟨F3, e3, rp3, dv3⟩ := pair_new (d := .int (i : Nat)) rp2 hT rfl h8
      have h9 := enumL_at xs 0 i d2 h7
      rw [Int.zero_add] at h9
      exact ⟨F3, _, e3, rp3, h9, dv3⟩
  · exact h1.elim
def dIEnC (ta : DTA) : DTI := fun Γ B q x => ta Γ B (fun ds B1 => match ds with
  | [.tup xs, .int c] => (-(2 ^ 63) ≤ c ∧ c < 2 ^ 63) ∧ q (enumL c xs) none B1
  | _ => False) x
theorem di_enumC {e2 : Expr} {elts : List Expr} {kk : Nat} {p tpos : Pos} (hg : Gl X "enumerate") (hm : X.mg "enumerate" = none) (ha : DA X TS W [e, e2] ta)
    (hs : starEach [e, e2] X.env = [(false, eval e X.env), (false, eval e2 X.env)] := by rfl) (hs2 : starEach [e2] X.env = [(false, eval e2 X.env)] := by rfl) :
    DI X TS W (.Tuple elts kk tpos) (.Call (.Name "enumerate" p) [e, e2] [] pos) (dIEnC ta) := PI_imp (pi_enumC hg hm ha hs hs2) fun σ H R0 ⟨F, Γ, B, R, q, x, s, rp, hu, hq, hx⟩ => by
  refine ⟨F, Γ, B, R, _, x, s, rp, hu, fun ds B1 F1 H1 vs h1 e1 rp1 dv1 => ?_, hx⟩
  dsimp only at h1
  split at h1
  · obtain ⟨v, u, e2, h2, h3⟩ := dv1.two
    obtain ⟨a, vs, ev, h4, h5⟩ := tup_of rp1 (d := .tup _) rfl h2
    exact ⟨a, _, by rw [e2, ev, show u = _ from h3], h1.1, vs, h5, hq _ _ B1 F1 H1 _ h1.2 e1 rp1 (gives_enumT rfl h2 ev)⟩
  · exact h1.elim

/-! ### comprehensions -/
theorem wipe_set {v : Nat} {x : Option V} : ∀ {vs : List Nat} {σ : L2.St}, v ∈ vs → wipe (σ.set v x) vs = wipe σ vs
  | u :: vs, σ, h => by
    unfold wipe
    by_cases hv : v ∈ vs
    · rw [wipe_set hv]
    · have huv : u = v := by
        rcases List.mem_cons.mp h with e | e
        · exact e.symm
        · exact absurd e hv
      subst huv
      have comm : ∀ (ws : List Nat) (τ : L2.St), u ∉ ws → wipe (τ.set u x) ws = (wipe τ ws).set u x := by
        intro ws
        induction ws with
        | nil => intro τ _; rfl
        | cons w ws ih =>
          intro τ hn
          unfold wipe
          rw [ih τ (fun z => hn (List.mem_cons_of_mem _ z))]
          rw [List.set_comm]
          exact fun z => hn (by rw [z]; exact List.mem_cons_self)
      rw [comm vs σ hv, List.set_set]
theorem wipe_wipe : ∀ (vs ws : List Nat) (σ : L2.St), (∀ v ∈ ws, v ∈ vs) → wipe (wipe σ ws) vs = wipe σ vs
  | vs, [], σ, _ => rfl
  | vs, w :: ws, σ, h => by
    have e : wipe σ (w :: ws) = (wipe σ ws).set w none := rfl
    rw [e, wipe_set (h w List.mem_cons_self), wipe_wipe vs ws σ fun v hv => h v (List.mem_cons_of_mem _ hv)]
/-- the slots of a comprehension's names are forgotten within -/
def wipeD : Gm → List Nat → Gm
  | Γ, [] => Γ
  | Γ, v :: vs => (wipeD Γ vs).set v none
theorem wipeD_length (Γ : Gm) : ∀ vs : List Nat, (wipeD Γ vs).length = Γ.length
  | [] => rfl
  | v :: vs => by unfold wipeD; rw [List.length_set, wipeD_length Γ vs]
theorem slots_wipe {K : PySem.W.Frag} {F : Hp} {σ : L2.St} {Γ : Gm} (s : Slots K F σ Γ) : ∀ vs : List Nat, Slots K F (wipe σ vs) (wipeD Γ vs)
  | [] => s
  | v :: vs => by
    have ih := slots_wipe s vs
    refine ⟨by unfold wipeD wipe; rw [List.length_set, List.length_set]; exact ih.len, fun i d h => ?_⟩
    unfold wipeD at h
    unfold wipe
    by_cases hi : v = i
    · subst hi
      by_cases hv : v < (wipeD Γ vs).length
      · rw [List.getElem?_set_self hv] at h; cases h
      · rw [List.getElem?_eq_none (by simpa using hv)] at h; cases h
    · rw [List.getElem?_set_ne hi] at h
      obtain ⟨u, h1, h2⟩ := ih.at_ i d h
      exact ⟨u, by rw [List.getElem?_set_ne hi]; exact h1, h2⟩
/-- a target of a comprehension: the slots that it stores are the comprehension's own -/
structure OwnG (g : DTG) (gv : TG) (vs : List Nat) (K : PySem.W.Frag) (TS : List Addr) : Prop where
  go : ∀ d v σ Γ F H B R q (Q : L2.St → Hp → Prop), Slots K F (wipe σ vs) Γ → RepH K TS F H B R → Dv K F d v → g d Γ B q →
    (∀ Γ' B' F' σ' H', q Γ' B' → Same F F' → Slots K F' σ' Γ' → RepH K TS F' H' B' R → wipe σ' vs = wipe σ vs → Q σ' H') → gv v (wipe σ vs) H Q
theorem own_name {K : PySem.W.Frag} {i : Nat} : OwnG (hName i) (gName i) [i] K TS := ⟨fun d v σ Γ F H B R q Q s rp dv h hq => by
  have h : q (setS Γ i d) B := h
  rw [setS_eq] at h
  exact hq _ B F _ H h (Same.refl F) (s.set i dv) rp (by rw [wipe_set List.mem_cons_self, wipe_wipe _ _ _ (fun v hv => hv)])⟩
/-- a pair of names -/
def hPair (i j : Nat) : DTG := hTup (hCons (hName i) (hCons (hName j) fun ds Γ B q => match ds with | [] => q Γ B | _ => False))
def gPair (K : PySem.W.Frag) (i j : Nat) : TG := gTup K 2 (gCons (gName i) (gCons (gName j) gNil))
theorem own_pair {K : PySem.W.Frag} {i j : Nat} : OwnG (hPair i j) (gPair K i j) [i, j] K TS := ⟨fun d v σ Γ F H B R q Q s rp dv h hq => by
  have h' : ∃ xs, tupOf d = some xs ∧ (hCons (hName i) (hCons (hName j) fun ds Γ B q => match ds with | [] => q Γ B | _ => False)) xs Γ B q := by
    unfold hPair hTup at h
    split at h
    · exact ⟨_, rfl, h⟩
    · exact h
  obtain ⟨xs, h1, h2⟩ := h'
  obtain ⟨a, vs, ev, h3, h4⟩ := tup_of rp h1 dv
  match xs, h2, h3 with
  | [d1, d2], h2, h3 =>
    obtain ⟨v1, v2, e1, dv1, dv2⟩ := h3.two
    subst e1
    have h2 : q (setS (setS Γ i d1) j d2) B := h2
    rw [setS_eq, setS_eq] at h2
    refine ⟨a, [v1, v2], ev, h4, rfl, v1, [v2], rfl, v2, [], rfl, rfl, ?_⟩
    refine hq _ B F _ H h2 (Same.refl F) ((s.set i dv1).set j dv2) rp ?_
    rw [wipe_set (List.mem_cons_of_mem _ List.mem_cons_self), wipe_set List.mem_cons_self, wipe_wipe _ _ _ (fun v hv => hv)]
  | [], h2, _ => exact h2.elim
  | [_], h2, _ => exact h2.elim
  | _ :: _ :: _ :: _, h2, _ => exact h2.elim⟩

def lcK (gd : Gd) (g : DTG) (tt : DTT) (te : DTE) (Γ : Gm) (q : List D → Bx → Prop) : List D → List D → Bx → Prop
  | [], acc, B => guard gd B (q acc B)
  | d :: ds, acc, B => guard gd B (g d Γ B fun Γ1 B1 => tt Γ1 B1 (fun b B2 =>
      if b = true then te Γ1 B2 (fun y B3 => lcK gd g tt te Γ q ds (acc ++ [y]) B3) noX else lcK gd g tt te Γ q ds acc B2) noX)
def dYes : DTT := fun _ B q _ => q true B
theorem dts_nil {ifs : List Expr} {t : TT} (h : PTs X ifs t) (hh : ∀ σ H Q, LT X.K TS W dYes σ H Q → t σ H Q) : PTs X ifs (LT X.K TS W dYes) := ⟨fun pins s σ H Q I hw => h.run pins s σ H Q I (hh σ H Q hw)⟩
def DTs (X : Cx) (TS : List Addr) (ifs : List Expr) (t : DTT) : Prop := PTs X ifs (LT X.K TS (fun _ _ _ _ => False) t)
theorem dts_no : DTs X TS [] dYes := ⟨fun pins s σ H Q I ⟨F, Γ, B, R, q, x, s1, rp, hu, hq, hx⟩ => pts_nil.run pins s σ H Q I (hq true B F H hu (Same.refl F) rp)⟩
theorem dts_one {c : Expr} {t : DTT} (h : DT X TS (fun _ _ _ _ => False) c t) : DTs X TS [c] t := pts_one h
abbrev W0 : WX := fun _ _ _ _ => False
/-- .. as a datum; as a box -/
def dLc (vs : List Nat) (wi : DTI) (g : DTG) (tt : DTT) (te : DTE) : DTE := fun Γ B q x => wi Γ B (fun ds gd B1 => sizeOk ds ∧ lcK gd g tt te (wipeD Γ vs) (fun acc B2 => q (.lst acc) B2) ds [] B1) x
def dLcB (vs : List Nat) (wi : DTI) (g : DTG) (tt : DTT) (te : DTE) : DTE := fun Γ B q x => wi Γ B (fun ds gd B1 => sizeOk ds ∧ lcK gd g tt te (wipeD Γ vs) (fun acc B2 => ∀ p, B2 p = none → q (.ref p) (put B2 p (.lst acc))) ds [] B1) x
theorem lc_lift {K : PySem.W.Frag} {vs : List Nat} {wi : DTI} {g : DTG} {gv : TG} {tt : DTT} {te : DTE} (hg : OwnG g gv vs K TS) {σ : L2.St} {H : Hp} {Q : VK} {F : Hp} {Γ : Gm} {B R : Bx} {x : XD} {fin : List D → Bx → Prop}
    (s : Slots K F σ Γ) (rp : RepH K TS F H B R) (hu : wi Γ B (fun ds gd B1 => sizeOk ds ∧ lcK gd g tt te (wipeD Γ vs) fin ds [] B1) x) (hx : XL K TS W F R σ x)
    (hq : ∀ acc B' F' H' D R', fin acc B' → Same F F' → RepH K TS F' H' B' R' → R' D = some (.lst acc) → B' D = none → D ∉ TS → era R' D = R → Q (.ref D) H') :
    tLc (LI K TS W wi) gv (LT K TS W0 tt) (LE K TS W0 te) vs σ H Q := by
  refine ⟨F, Γ, B, R, _, x, s, rp, hu, fun ds gd B1 F1 H1 J h1 e1 rp1 gvs => ?_, hx⟩
  obtain ⟨hz, h1⟩ := h1
  have hz := sizeOk_le hz
  obtain ⟨G, Y, wk, hG, hY⟩ := gvs
  intro D hD
  have hR1 : R D = none := rp1.freeR hD
  have hnT : D ∉ TS := fun hT => by rw [rp1.tb D hT] at hR1; cases hR1
  refine lc_it wk (fun i H => ∃ F2 B acc, Same F1 F2 ∧ RepH K TS F2 H B (put R D (.lst acc)) ∧ acc.length ≤ i ∧ lcK gd g tt te (wipeD Γ vs) fin (ds.drop i) acc B)
    ⟨F1, B1, [], Same.refl F1, rp1.boxR hD ⟨[], upd_same, rfl⟩, Nat.le_refl _, h1⟩ ?_ ?_ ?_
  · rintro i H hi ⟨F2, B, acc, e2, rp2, ha, h2⟩
    refine hG F2 H B _ e2 rp2 ?_
    cases hd : ds.drop i with
    | nil => rw [hd] at h2; exact (guard_at h2).1
    | cons d r => rw [hd] at h2; exact (guard_at h2).1
  · rintro i v H H2 hi ⟨F2, B, acc, e2, rp2, ha, h2⟩ hy
    rw [List.drop_eq_getElem_cons hi] at h2
    obtain ⟨hgd, h2⟩ := guard_at h2
    obtain ⟨F3, d, e3, rp3, hd, dv⟩ := hY i H v H2 F2 B _ e2 rp2 hgd hy
    have ed : d = ds[i] := by rw [List.getElem?_eq_getElem hi] at hd; exact (Option.some.inj hd).symm
    subst ed
    refine hg.go _ v σ (wipeD Γ vs) F3 H2 B _ _ _ ((slots_wipe s vs).mono (e1.trans (e2.trans e3))) rp3 dv h2 fun Γ4 B4 F4 σ4 H4 h4 e4 s4 rp4 hw => ⟨hw, ?_⟩
    refine ⟨F4, Γ4, B4, _, _, noX, s4, rp4, h4, fun b B5 F5 H5 h5 e5 rp5 => ?_, XL.noX⟩
    cases b with
    | true =>
      refine iteT ⟨F5, Γ4, B5, _, _, noX, s4.mono e5, rp5, h5, fun y B6 F6 H6 u h6 e6 rp6 dv6 => ?_, XL.noX⟩
      obtain ⟨_, us, h7, h8⟩ := rp6.rx D _ put_same
      refine ⟨us, h7, by rw [h8.length]; omega, F6, B6, acc ++ [y], e2.trans (e3.trans (e4.trans (e5.trans e6))), ?_, by rw [List.length_append]; show acc.length + 1 ≤ i + 1; omega, h6⟩
      have rp7 := rp6.writeR (b := .lst (acc ++ [y])) (o := .lst (us ++ [u])) put_same (.inl (fun z => by cases z)) ⟨_, upd_same, h8.append ⟨u, [], rfl, dv6, rfl⟩⟩
      rw [put_put] at rp7
      exact rp7
    | false => exact iteF ⟨F5, B5, acc, e2.trans (e3.trans (e4.trans e5)), rp5, by omega, h5⟩
  · rintro H ⟨F2, B, acc, e2, rp2, ha, h2⟩
    rw [List.drop_length] at h2
    obtain ⟨_, h2⟩ := guard_at h2
    refine hq acc B F2 H D _ h2 (e1.trans e2) rp2 put_same ?_ hnT (era_put hR1)
    rcases rp2.dj D with z | z
    · exact z
    · rw [put_same] at z; cases z
variable {elt tg iter : Expr} {ifs : List Expr} {scope : Scope} {own : List (Str × Nat)} {wi : DTI} {g : DTG} {gv : TG} {tt : DTT}
/-- [elt for tg in iter if ..] as a datum -/
theorem de_lc (hc : X.calm = true) (hN : X.N.Nodup) (hi : DI X TS W tg iter wi) (ok : BlkOk X.N X.env.scope scope own) (hog : OwnG g gv (own.map (·.2)) X.K TS)
    (hg : ∀ (s : Shared) (H : Hp) (C : Addr) (cl : List (Str × Addr)) (fp : List Addr), PG (X.blk s H scope (compEnvC scope cl C X.env) fp) tg gv) (ht : ∀ (s : Shared) (H : Hp) (C : Addr) (cl : List (Str × Addr)) (fp : List Addr), DTs (X.blk s H scope (compEnvC scope cl C X.env) fp) TS ifs tt)
    (he : ∀ (s : Shared) (H : Hp) (C : Addr) (cl : List (Str × Addr)) (fp : List Addr), DE (X.blk s H scope (compEnvC scope cl C X.env) fp) TS W0 elt te) (hs : ∀ x, foldedSetIterable iter X.env x = pure x := by intro _; rfl) :
    DE X TS W (.ListComp elt [⟨tg, iter, ifs, 0⟩] scope pos) (dLc (own.map (·.2)) wi g tt te) := PE_imp (pe_lc (tt := LT X.K TS W0 tt) (te := LE X.K TS W0 te) hc hN hi ok hg ht he hs) fun σ H Q ⟨F, Γ, B, R, q, x, s, rp, hu, hq, hx⟩ =>
  lc_lift hog s rp hu hx fun acc B' F' H' D R' h e rp' hD hB hT hR => by
    obtain ⟨F2, e2, rp2, dv⟩ := rp'.freezeR hD hT
    rw [hR] at rp2
    exact hq _ B' F2 H' _ h (e.trans e2) rp2 dv
/-- .. as a box -/
theorem de_lcB (hc : X.calm = true) (hN : X.N.Nodup) (hi : DI X TS W tg iter wi) (ok : BlkOk X.N X.env.scope scope own) (hog : OwnG g gv (own.map (·.2)) X.K TS)
    (hg : ∀ (s : Shared) (H : Hp) (C : Addr) (cl : List (Str × Addr)) (fp : List Addr), PG (X.blk s H scope (compEnvC scope cl C X.env) fp) tg gv) (ht : ∀ (s : Shared) (H : Hp) (C : Addr) (cl : List (Str × Addr)) (fp : List Addr), DTs (X.blk s H scope (compEnvC scope cl C X.env) fp) TS ifs tt)
    (he : ∀ (s : Shared) (H : Hp) (C : Addr) (cl : List (Str × Addr)) (fp : List Addr), DE (X.blk s H scope (compEnvC scope cl C X.env) fp) TS W0 elt te) (hs : ∀ x, foldedSetIterable iter X.env x = pure x := by intro _; rfl) :
    DE X TS W (.ListComp elt [⟨tg, iter, ifs, 0⟩] scope pos) (dLcB (own.map (·.2)) wi g tt te) := PE_imp (pe_lc (tt := LT X.K TS W0 tt) (te := LE X.K TS W0 te) hc hN hi ok hg ht he hs) fun σ H Q ⟨F, Γ, B, R, q, x, s, rp, hu, hq, hx⟩ =>
  lc_lift hog s rp hu hx fun acc B' F' H' D R' h e rp' hD hB hT hR => by
    have rp2 := rp'.show hD hT
    rw [hR] at rp2
    exact hq _ _ F' H' _ (h D hB) e rp2 rfl
/-- name = [..] on one line, the name a local -/
theorem ds_setLc (i : Nat) {y : Str} {py : Pos} {spos : Pos} (hc : X.calm = true) (hN : X.N.Nodup) (hsw : swapsWith (.ListComp elt [⟨tg, iter, ifs, 0⟩] scope pos) (some (.Name y py)) spos.line X.env = pure true) (hi : DI X TS W tg iter wi) (ok : BlkOk X.N X.env.scope scope own) (hog : OwnG g gv (own.map (·.2)) X.K TS)
    (hg : ∀ (s : Shared) (H : Hp) (C : Addr) (cl : List (Str × Addr)) (fp : List Addr), PG (X.blk s H scope (compEnvC scope cl C X.env) fp) tg gv) (ht : ∀ (s : Shared) (H : Hp) (C : Addr) (cl : List (Str × Addr)) (fp : List Addr), DTs (X.blk s H scope (compEnvC scope cl C X.env) fp) TS ifs tt)
    (he : ∀ (s : Shared) (H : Hp) (C : Addr) (cl : List (Str × Addr)) (fp : List Addr), DE (X.blk s H scope (compEnvC scope cl C X.env) fp) TS W0 elt te)
    (hy : X.N[i]? = some y := by rfl) (hyl : X.env.scope.names.lookup y = some .local := by rfl) (hs : ∀ x, foldedSetIterable iter X.env x = pure x := by intro _; rfl) :
    DS X TS W (.Assign [.Name y py] (.ListComp elt [⟨tg, iter, ifs, 0⟩] scope pos) spos) (dAsg (dLc (own.map (·.2)) wi g tt te) (hName i)) := PS_imp (ps_setLc (tt := LT X.K TS W0 tt) (te := LE X.K TS W0 te) hc hN hy hyl hsw hi ok hg ht he hs) fun D σ H ⟨F, Γ, B, R, E, s, rp, hu, hE⟩ =>
  lc_lift (x := E.ex Γ) hog s rp hu (hE.ex σ Γ F (Same.refl F) s) fun acc B' F' H' D' R' h e rp' hD hB hT hR => by
    obtain ⟨F2, e2, rp2, dv⟩ := rp'.freezeR hD hT
    rw [hR] at rp2
    have h : E.nx (setS Γ i (.lst acc)) B' := h
    rw [setS_eq] at h
    exact hE.nx _ B' F2 _ H' h (e.trans e2) ((s.mono (e.trans e2)).set i dv) rp2
theorem pg_own1 {X : Cx} {i : Nat} {x : Str} {px : Pos} (hN : X.N.Nodup) (hi : X.N[i]? = some x) (hx : Loc X.env.scope x) (hf : X.fn x = true ∨ X.env.scope.names.lookup x = some .local) : PG X (.Name x px) (gName i) := pg_name hN hi hx hf
end
end DL
set_option Elab.async false
set_option linter.all false
set_option maxRecDepth 100000
set_option maxHeartbeats 1000000
/-! DL6: defs, calls, raise. -/
namespace DL
open PySem PySem.Spec PyProof.Rows L2

/-- a def's promise at the level of data: arguments, boxes, what is wanted of the answer and of an error (its class) -/
abbrev SpD := List D → Bx → DK → XD → Prop
def LSp (K : PySem.W.Frag) (TS : List Addr) (sp : SpD) : Sp := fun vs H Q E => ∃ F ds B R q x, Dvs K F ds vs ∧ RepH K TS F H B R ∧ sp ds B q x ∧ QL K TS F R q Q ∧ (∀ C B' F' H', x C B' → Same F F' → RepH K TS F' H' B' R → E (.ref C) none H')
abbrev FnD (P : Program) (w : World) (K : PySem.W.Frag) (mg : Str → Option Value) (base : Heap) (TS : List Addr) (k : Nat) (f : Addr) (fd : FuncData) (ps : List Str) (sp : SpD) : Prop := FnOk P w K mg base (L2.CX P w) k f fd ps (LSp K TS sp)
theorem FnD.imp {P : Program} {w : World} {K : PySem.W.Frag} {mg : Str → Option Value} {base : Heap} {TS : List Addr} {k : Nat} {f : Addr} {fd : FuncData} {ps : List Str} {sp sp' : SpD} (G : FnD P w K mg base TS k f fd ps sp) (h : ∀ ds B q x, sp' ds B q x → sp ds B q x) :
    FnD P w K mg base TS k f fd ps sp' := FnOk.imp G fun vs H Q E ⟨F, ds, B, R, q, x, h1, h2, h3, h4, h5⟩ => ⟨F, ds, B, R, q, x, h1, h2, h ds B q x h3, h4, h5⟩

/-- the names' data at the entry -/
def startD : List Str → List D → Gm
  | [], _ => []
  | _ :: N, [] => none :: startD N []
  | _ :: N, d :: ds => some d :: startD N ds
theorem startD_length : ∀ (N : List Str) (ds : List D), (startD N ds).length = N.length
  | [], _ => rfl
  | _ :: N, [] => by show (startD N []).length + 1 = _; rw [startD_length N []]; rfl
  | _ :: N, _ :: ds => by show (startD N ds).length + 1 = _; rw [startD_length N ds]; rfl
theorem startD_at : ∀ (N : List Str) (ds : List D) (i : Nat) (d : D), (startD N ds)[i]? = some (some d) → ds[i]? = some d
  | [], _, _, _, h => by simp [startD] at h
  | _ :: N, [], 0, _, h => by
    have h : some (Option.none : Option D) = some (some _) := h
    cases h
  | _ :: N, [], i + 1, d, h => by
    have := startD_at N [] i d (by simpa [startD] using h)
    simp at this
  | _ :: N, e :: ds, 0, d, h => by
    have h : some (some e) = some (some d) := h
    cases h; rfl
  | _ :: N, e :: ds, i + 1, d, h => by simpa using startD_at N ds i d (by simpa [startD] using h)
theorem slots_start {K : PySem.W.Frag} {F : Hp} {N : List Str} {ds : List D} {vs : List V} (h : Dvs K F ds vs) (hl : vs.length ≤ N.length) : Slots K F (L2.start N vs) (startD N ds) := by
  refine ⟨?_, fun i d hd => ?_⟩
  · rw [startD_length]
    unfold L2.start
    rw [List.length_append, List.length_map, List.length_replicate]
    omega
  · obtain ⟨v, h1, h2⟩ := h.get (startD_at N ds i d hd)
    refine ⟨v, ?_, h2⟩
    unfold L2.start
    have hi : i < vs.length := (List.getElem?_eq_some_iff.mp h1).1
    rw [List.getElem?_append_left (by simpa using hi), List.getElem?_map, h1]
    rfl
abbrev wE (E : XK) : WX := fun cls d _ H => E cls d H
section
variable {P : Program} {w : World} {K : PySem.W.Frag} {mg : Str → Option Value} {base : Heap} {TS : List Addr}
/-- THE RULE: a def by its body; boxes that are its own may be forgotten at its end -/
theorem okD {x qual : Str} {st : Stmt} {f : Addr} {fd : FuncData} {N ps : List Str} {k : Nat} {sp : SpD} (F : Fun K x qual st f fd) (S : FnScope N ps (defScope st)) (len : ∀ ds B q x, sp ds B q x → ds.length = ps.length)
    (hbody : ∀ (cdv : Value) (A : Around) (outer : List Env) (s : Shared) (H : Hp) (E : XK), Room k (A.deeper (envOfC qual (defScope st) s.heap.objs.size f cdv)) → PySem.W.codeIn K cdv qual = true → (∃ (kV doc pm : Value) (an : Option Addr) (ct : Value), fd = PySem.W.fnOf x qual (defArgs st) (defBody st) (defScope st) .none kV doc pm an cdv ct) →
      Takes (cxOf (L2.CX P w) P w K mg base N qual (defScope st) f cdv A outer s H E) (wE E) → PassesOwn (model P w) (A.deeper (envOfC qual (defScope st) s.heap.objs.size f cdv)) (envOfC qual (defScope st) s.heap.objs.size f cdv) (cxOf (L2.CX P w) P w K mg base N qual (defScope st) f cdv A outer s H E).xe →
      ∃ t, DSs (cxOf (L2.CX P w) P w K mg base N qual (defScope st) f cdv A outer s H E) TS (wE E) (defBody st) t ∧
        ∀ ds B q x, sp ds B q x → t { nx := fun _ B' => ∃ B'', Few B'' B' ∧ q .non B'', rt := fun d B' => ∃ B'', Few B'' B' ∧ q d B'', ex := fun _ C B' => ∃ B'', Few B'' B' ∧ x C B'' } (startD N ds) B) :
    FnD P w K mg base TS (k + 1) f fd ps sp := by
  obtain ⟨oc, od, kV, doc, pm, an, cdv, ct, osl, rfl, lk, hcd⟩ := F.ex
  have hpl : ps.length ≤ N.length := by have := congrArg List.length S.pre; rw [List.length_take] at this; omega
  refine fn_of lk hcd S (fun vs H Q E ⟨F, ds, B, R, q, x, h1, h2, h3, h4, h5⟩ => by rw [h1.length]; exact len ds B q x h3) fun A outer s H vs Q E hr hsp => ?_
  obtain ⟨F, ds, B, R, q, x, h1, h2, h3, h4, h5⟩ := hsp
  obtain ⟨t, ht, hq⟩ := hbody cdv A outer s H E hr hcd ⟨kV, doc, pm, an, ct, rfl⟩ (takes_of rfl rfl rfl rfl) (passes_of rfl)
  refine ⟨_, ht, F, startD N ds, B, R, _, slots_start h1 (by rw [h1.length, len ds B q x h3]; exact hpl), h2, hq ds B q x h3, ?_⟩
  refine ⟨fun Γ' B' F' σ' H' hn e s' rp => ?_, fun d B' F' H' v hn e rp dv => ?_, fun _ _ _ _ _ z => z.elim, fun _ _ _ _ _ z => z.elim, fun σ' Γ' F' e s' C B' F2 H2 hn e2 rp => ?_⟩
  · obtain ⟨B'', hf, hn⟩ := hn
    exact h4 _ _ _ _ _ hn e (rp.few hf) rfl
  · obtain ⟨B'', hf, hn⟩ := hn
    exact h4 _ _ _ _ _ hn e (rp.few hf) dv
  · obtain ⟨B'', hf, hn⟩ := hn
    exact h5 _ _ _ _ hn (e.trans e2) (rp.few hf)
end
section
variable {X : Cx} {TS : List Addr} {W : WX} {pos p apos : Pos} {e o : Expr} {es : List Expr} {tl : DTA} {te to : DTE} {k : Nat} {f C : Addr} {fd : FuncData} {ps : List Str} {sp : SpD} {x m : Str}
/-! ### calls -/
def dCall (sp : SpD) (tl : DTA) : DTE := fun Γ B q x => tl Γ B (fun ds B1 => sp ds B1 q x) x
/-- what a call leaves, by its promise -/
theorem call_lift {K : PySem.W.Frag} {F H : Hp} {B R : Bx} {σ : L2.St} {Γ : Gm} {ds : List D} {vs : List V} {q : DK} {Q : VK} {x : XD} (s : Slots K F σ Γ) (rp : RepH K TS F H B R) (dv : Dvs K F ds vs) (h : sp ds B q x) (hq : QL K TS F R q Q) (hx : XL K TS W F R σ x) :
    LSp K TS sp vs H Q (WE W σ) := ⟨F, ds, B, R, q, x, dv, rp, h, hq, fun C B' F' H' h e rp' => hx C B' F' H' h e rp'⟩
theorem de_call (G : FnD X.prog X.w X.K X.mg X.base TS k f fd ps sp) (hr : Room k X.A) (hg : Gl X x) (hm : X.mg x = some (.ref f)) (hk : PySem.W.keepIn X.K (.ref f) = true) (hb : Binds X.K fd ps []) (tk : Takes X W)
    (ha : DA X TS W (e :: es) tl) (hdb : (x == ("__debug__" : Str)) = false := by decide) (he : starEach (e :: es) X.env = (false, eval e X.env) :: starEach es X.env := by rfl) (hpl : (backTo pos (starEach es X.env)).any (·.1) = false := by rfl) :
    DE X TS W (.Call (.Name x p) (e :: es) [] pos) (dCall sp tl) := PE_imp (pe_callS (E := WE W) G hr hg hm hk hb (fun σ => passAt tk σ) ha hdb he hpl) fun σ H Q ⟨F, Γ, B, R, q, x, s, rp, hu, hq, hx⟩ =>
  ⟨F, Γ, B, R, _, x, s, rp, hu, fun ds B1 F1 H1 vs h1 e1 rp1 dv1 => call_lift (s.mono e1) rp1 dv1 h1 (hq.mono e1) (hx.mono e1), hx⟩
theorem pe_callS0 {CX : CXT} {sp : Sp} {E : L2.St → XK} (G : FnOk X.prog X.w X.K X.mg X.base CX k f fd ps sp) (hr : Room k X.A) (hg : Gl X x) (hm : X.mg x = some (.ref f)) (hk : PySem.W.keepIn X.K (.ref f) = true) (hb : Binds X.K fd ps []) (hx : ∀ σ, PassesAt CX X σ (E σ))
    (hdb : (x == ("__debug__" : Str)) = false := by decide) : PE X (.Call (.Name x p) [] [] pos) (fun σ H Q => sp [] H Q (E σ)) := by
  refine ⟨fun pins s σ H Q I h => ?_⟩
  refine wpAny_Call_Name_kw (ld_glob I hg hm ?_ hdb)
  exact PySem.W.callWith_K0 I.kIn hk (run_fnS (us := []) G hr hb (hx σ) I .nil h)
theorem de_call0 (G : FnD X.prog X.w X.K X.mg X.base TS k f fd ps sp) (hr : Room k X.A) (hg : Gl X x) (hm : X.mg x = some (.ref f)) (hk : PySem.W.keepIn X.K (.ref f) = true) (hb : Binds X.K fd ps []) (tk : Takes X W)
    (hdb : (x == ("__debug__" : Str)) = false := by decide) : DE X TS W (.Call (.Name x p) [] [] pos) (dCall sp dNil) := PE_imp (pe_callS0 (E := WE W) G hr hg hm hk hb (fun σ => passAt tk σ) hdb) fun σ H Q ⟨F, Γ, B, R, q, x, s, rp, hu, hq, hx⟩ =>
  call_lift s rp (Dvs.nil) hu hq hx

/-! ### raise X('m') -/
/-- an own error class over ValueError -/
structure ExcC (X : Cx) (x : Str) (C : Addr) : Prop where
  q : PySem.W.excIn X.K C [.type "ValueError", .type "Exception", .type "BaseException", .type "object"] "ValueError.__new__" = true
  g : X.mg x = some (.ref C)
  k : PySem.W.keepIn X.K (.ref C) = true
  b : PySem.W.subIn X.K (.ref C) (.type "BaseException") = some true
  t : PySem.W.typeIn X.K (.ref C) = some (.type "type")
def dRaise (C : Addr) : DTS := fun E Γ B => E.ex Γ C B
theorem ds_raise {msg : Str} {j : Nat} {p2 : Pos} (hc : X.calm = true) (tk : Takes X W) (EX : ExcC X x C) (hg : Gl X x := by rfl) (hdb : (x == ("__debug__" : Str)) = false := by decide) : DS X TS W (.Raise (some (.Call (.Name x p) [.Constant (.str msg) j p2] [] apos)) none pos) (dRaise C) :=
  PS_imp (ps_raise hc tk (pmk_own PySem.F.excBase_ValueError EX.q EX.g EX.k (raises_own EX.b EX.t) hg hdb)) fun D σ H ⟨F, Γ, B, R, E, s, rp, hu, hE⟩ => hE.ex σ Γ F (Same.refl F) s C B F H hu (Same.refl F) rp
end
end DL
set_option Elab.async false
set_option linter.all false
set_option maxRecDepth 100000
set_option maxHeartbeats 2000000
/-! DL7: generator expressions within any, all. -/
namespace DL
open PySem PySem.Spec PyProof.Rows L2

/-! ### data over the bare heap -/
mutual
/-- the value u bears the datum in the heap h -/
def Dr (h : Heap) : D → Value → Prop
  | .non, u => u = .none
  | .bl b, u => u = .bool b
  | .int i, u => ∃ t, u = .int i t
  | .str x, u => ∃ t, u = .str x t
  | .ty n, u => u = .type n
  | .obj _, u => ∃ a, u = .ref a
  | .ref a, u => u = .ref a
  | .lst ds, u => ∃ a its, u = .ref a ∧ PlainL h a its.toArray ∧ Drs h ds its
  | .tup ds, u => ∃ a its, u = .ref a ∧ IsTup h a its.toArray ∧ its.length ≤ sizeLine ∧ Drs h ds its
  | .rol ds, u => ∃ a its, u = .ref a ∧ PlainL h a its.toArray ∧ Drs h ds its
  | .rot ds, u => ∃ a its, u = .ref a ∧ IsTup h a its.toArray ∧ its.length ≤ sizeLine ∧ Drs h ds its
def Drs (h : Heap) : List D → List Value → Prop
  | [], us => us = []
  | d :: ds, us => ∃ u us', us = u :: us' ∧ Dr h d u ∧ Drs h ds us'
end
def Kp (h h' : Heap) : Prop := ∀ b o, h.get? b = some o → h'.get? b = some o
theorem plainL_kp {h h' : Heap} {a : Addr} {its : Array Value} (p : PlainL h a its) (k : Kp h h') : PlainL h' a its := by
  obtain ⟨o, n, e, r⟩ := p
  exact ⟨o, n, k a o e, r⟩
theorem isTup_kp {h h' : Heap} {a : Addr} {its : Array Value} (p : IsTup h a its) (k : Kp h h') : IsTup h' a its := by
  obtain ⟨o, e, r⟩ := p
  exact ⟨o, k a o e, r⟩
mutual
theorem Dr.kp {h h' : Heap} (k : Kp h h') : ∀ (d : D) {u : Value}, Dr h d u → Dr h' d u
  | .non, _, e => e
  | .bl _, _, e => e
  | .int _, _, e => e
  | .str _, _, e => e
  | .ty _, _, e => e
  | .obj _, _, e => e
  | .ref _, _, e => e
  | .lst ds, _, ⟨a, its, e, p, r⟩ => ⟨a, its, e, plainL_kp p k, Drs.kp k ds r⟩
  | .tup ds, _, ⟨a, its, e, p, l, r⟩ => ⟨a, its, e, isTup_kp p k, l, Drs.kp k ds r⟩
  | .rol ds, _, ⟨a, its, e, p, r⟩ => ⟨a, its, e, plainL_kp p k, Drs.kp k ds r⟩
  | .rot ds, _, ⟨a, its, e, p, l, r⟩ => ⟨a, its, e, isTup_kp p k, l, Drs.kp k ds r⟩
theorem Drs.kp {h h' : Heap} (k : Kp h h') : ∀ (ds : List D) {us : List Value}, Drs h ds us → Drs h' ds us
  | [], _, e => e
  | d :: ds, _, ⟨u, us, e, h1, h2⟩ => ⟨u, us, e, Dr.kp k d h1, Drs.kp k ds h2⟩
end
theorem Drs.length {h : Heap} : ∀ {ds : List D} {us : List Value}, Drs h ds us → us.length = ds.length
  | [], _, e => by cases e; rfl
  | _ :: ds, _, ⟨u, us, e, _, t⟩ => by subst e; simp [Drs.length t]
theorem Drs.get {h : Heap} : ∀ {ds : List D} {us : List Value} {i : Nat} {u : Value}, Drs h ds us → us[i]? = some u → ∃ d, ds[i]? = some d ∧ Dr h d u
  | [], _, _, _, e, hu => by cases e; simp at hu
  | d :: ds, _, 0, u, ⟨u', us, e, h1, _⟩, hu => by subst e; simp at hu; subst hu; exact ⟨d, rfl, h1⟩
  | d :: ds, _, i + 1, u, ⟨u', us, e, _, h2⟩, hu => by
    subst e
    obtain ⟨d', h3, h4⟩ := Drs.get (i := i) h2 (by simpa using hu)
    exact ⟨d', by simpa using h3, h4⟩
section
variable {X : Cx} {TS : List Addr} {pins : List (Addr × Obj)} {σ : L2.St} {H F : Hp} {s : Shared} {B R : Bx}
mutual
theorem dr_of (I : Inv X pins σ H s) (le : Same F H) : ∀ (d : D) {v : V} {u : Value}, Dv X.K F d v → RelV v u → Dr s.heap d u
  | .non, _, _, h, r => by cases h; exact r
  | .bl _, _, _, h, r => by cases h; exact r
  | .int _, _, _, h, r => by cases h; exact r
  | .str _, _, _, h, r => by cases h; exact r
  | .ty _, _, _, h, r => by cases h; exact r
  | .obj _, _, _, ⟨a, e, _⟩, r => by subst e; exact ⟨a, r⟩
  | .ref _, _, _, h, r => by cases h; exact r
  | .lst ds, _, _, ⟨a, vs, e, h1, h2⟩, r => by
    subst e
    obtain ⟨its, rv, p, _⟩ := I.list (SqL.of (le _ _ h1))
    exact ⟨a, its, r, p, drs_of I le ds h2 rv⟩
  | .tup ds, _, _, ⟨a, vs, e, h1, h2⟩, r => by
    subst e
    obtain ⟨its, rv, p, z⟩ := I.tuple (SqT.of (le _ _ h1))
    exact ⟨a, its, r, p, by rw [← rv.length]; exact z, drs_of I le ds h2 rv⟩
  | .rol ds, _, _, ⟨a, vs, e, h1, h2⟩, r => by
    subst e
    obtain ⟨its, rv, p, _⟩ := I.list (le.seq h1)
    exact ⟨a, its, r, p, drs_of I le ds h2 rv⟩
  | .rot ds, _, _, ⟨a, vs, e, h1, h2⟩, r => by
    subst e
    obtain ⟨its, rv, p, z⟩ := I.tuple (SqT_mono le h1)
    exact ⟨a, its, r, p, by rw [← rv.length]; exact z, drs_of I le ds h2 rv⟩
theorem drs_of (I : Inv X pins σ H s) (le : Same F H) : ∀ (ds : List D) {vs : List V} {us : List Value}, Dvs X.K F ds vs → Vals vs us → Drs s.heap ds us
  | [], _, _, h, r => by cases h; cases r; rfl
  | d :: ds, _, _, ⟨v, vs, e, h1, h2⟩, r => by
    subst e
    cases r with
    | cons r1 r2 => exact ⟨_, _, rfl, dr_of I le d h1 r1, drs_of I le ds h2 r2⟩
end
end
/-- boxes over the bare heap (as far as an element reads them): dicts by numbers and texts, instances -/
def BoxR (P : Program) (w : World) (h : Heap) : Box → Addr → Prop
  | .dK kvs, a => (a == sysModules) = false ∧ ∃ vs : List (Key × Value), Paired (fun p q => p.1 = q.1 ∧ Dr h p.2 q.2) kvs vs ∧ h.DictOf (mixKind P w) a vs
  | .lk _ _ kvs, a => (a == sysModules) = false ∧ ∃ vs : List (Key × Value), Paired (fun p q => p.1 = q.1 ∧ Dr h p.2 q.2) kvs vs ∧ h.DictOf (mixKind P w) a vs
  | .ins C fs, a => ∃ (dx : Addr) (mA : Str → Option Value), ObjM h a dx C mA ∧ ∀ f d, fs.lookup f = some d → ∃ u, mA f = some u ∧ Dr h d u
  | .lst ds, a => ∃ its, PlainL h a its.toArray ∧ Drs h ds its
  | _, _ => True

/-- what stands still while the elements are reckoned: the generator's frame cenv, its names by the def's slots N -/
structure RInv (P : Program) (w : World) (K : PySem.W.Frag) (mg : Str → Option Value) (base : Heap) (N : List Str) (scope : Scope) (cenv : Env) (Γ : Gm) (B : Bx) (s : Shared) (m : Str → Option Value) : Prop where
  sc : cenv.scope = scope
  kd : scope.kind = .function
  gl : cenv.globals = mainGlobals
  bt : cenv.builtins = builtinsNs
  md : L2.Mod K mg base
  bk : Kp base s.heap
  ns : s.heap.Ns cenv.locals m
  loc : ∀ (i : Nat) (y : Str) (d : D), N[i]? = some y → Γ[i]? = some (some d) → (scope.names.lookup y = some .local ∨ scope.names.lookup y = some .free) →
    ∃ u, Dr s.heap d u ∧ ((scope.names.lookup y = some .local ∧ m y = some u) ∨ (scope.names.lookup y = some .free ∧ ∃ c, cenv.cells.lookup y = some c ∧ s.heap.IsCell c (some u)))
  bx : ∀ a b, B a = some b → BoxR P w s.heap b a
theorem paired_kp {h h' : Heap} {κ : Type} (k : Kp h h') : ∀ {kvs : List (κ × D)} {vs : List (κ × Value)}, Paired (fun p q => p.1 = q.1 ∧ Dr h p.2 q.2) kvs vs → Paired (fun p q => p.1 = q.1 ∧ Dr h' p.2 q.2) kvs vs
  | _, _, .nil => .nil
  | _, _, .cons r t => .cons ⟨r.1, r.2.kp k⟩ (paired_kp k t)
theorem dictOf_kp {P : Program} {w : World} {h h' : Heap} {a : Addr} {vs : List (Key × Value)} (k : Kp h h') (d : h.DictOf (mixKind P w) a vs) : h'.DictOf (mixKind P w) a vs := by
  obtain ⟨o, es, ep, e, r⟩ := d
  exact ⟨o, es, ep, k a o e, r⟩
theorem BoxR.kp {P : Program} {w : World} {h h' : Heap} (k : Kp h h') : ∀ {b : Box} {a : Addr}, BoxR P w h b a → BoxR P w h' b a
  | .dK kvs, _, ⟨z, vs, r, d⟩ => ⟨z, vs, paired_kp k r, dictOf_kp k d⟩
  | .lk _ _ kvs, _, ⟨z, vs, r, d⟩ => ⟨z, vs, paired_kp k r, dictOf_kp k d⟩
  | .ins C fs, _, ⟨dx, mA, o, r⟩ => ⟨dx, mA, ⟨k _ _ o.1, by
      obtain ⟨od, es, ep, e, q⟩ := o.2
      exact ⟨od, es, ep, k _ _ e, q⟩, o.3⟩, fun f d hf => let ⟨u, h1, h2⟩ := r f d hf; ⟨u, h1, h2.kp k⟩⟩
  | .lst ds, _, ⟨its, p, r⟩ => ⟨its, plainL_kp p k, Drs.kp k ds r⟩
  | .dT _, _, _ => trivial
  | .tab, _, _ => trivial
  | .ext _, _, _ => trivial
  | .tabQ _, _, _ => trivial
section
variable {P : Program} {w : World} {K : PySem.W.Frag} {mg : Str → Option Value} {base : Heap} {N : List Str} {scope : Scope} {cenv : Env} {Γ : Gm} {B : Bx} {s s' : Shared} {m : Str → Option Value}
theorem kpk (k : Keeps s s') : Kp s.heap s'.heap := by
  obtain ⟨h, t, rfl, k⟩ := k
  exact k
theorem keeps_refl (s : Shared) : Keeps s s := ⟨s.heap, s.toks, rfl, fun _ _ e => e⟩
theorem keeps_tok (s : Shared) (t : Nat) : Keeps s { s with toks := t } := ⟨s.heap, t, rfl, fun _ _ e => e⟩
theorem ktr {s s' s'' : Shared} (a : Keeps s s') (b : Keeps s' s'') : Keeps s s'' := by
  obtain ⟨h, t, rfl, k⟩ := a
  obtain ⟨h', t', rfl, k'⟩ := b
  exact ⟨h', t', rfl, fun b o e => k' b o (k b o e)⟩
theorem RInv.next (I : RInv P w K mg base N scope cenv Γ B s m) (k : Kp s.heap s'.heap) : RInv P w K mg base N scope cenv Γ B s' m := by
  refine ⟨I.sc, I.kd, I.gl, I.bt, I.md, fun b o e => k b o (I.bk b o e), I.ns.keeps k, fun i y d h1 h2 h3 => ?_, fun a b h => (I.bx a b h).kp k⟩
  obtain ⟨u, h4, h5⟩ := I.loc i y d h1 h2 h3
  refine ⟨u, h4.kp k, h5.imp id fun ⟨h6, c, h7, h8⟩ => ⟨h6, c, h7, h8.keeps k⟩⟩
end

/-! ### elements -/
abbrev RTE := Gm → Bx → (D → Prop) → Prop
/-- an element's reading: it changes nothing that stands, and raises nothing -/
structure RE (P : Program) (w : World) (K : PySem.W.Frag) (mg : Str → Option Value) (base : Heap) (N : List Str) (scope : Scope) (e : Expr) (t : RTE) : Prop where
  run : ∀ (A : Around) (E : Value → Shared → Prop) (cenv : Env) (Γ : Gm) (B : Bx) (s : Shared) (m : Str → Option Value) (q : D → Prop), A.handled = none → A.units + 64 < cLine → RInv P w K mg base N scope cenv Γ B s m → t Γ B q →
    wpAny (model P w) A (eval e cenv) (fun u s' => (∃ d, Dr s'.heap d u ∧ q d) ∧ Keeps s s') E s
section
variable {P : Program} {w : World} {K : PySem.W.Frag} {mg : Str → Option Value} {base : Heap} {N : List Str} {scope : Scope} {a b c e : Expr} {ta tb tc : RTE} {pos : Pos}
def rVar (i : Nat) : RTE := fun Γ _ q => match getS Γ i with
  | some d => q d
  | none => False
theorem re_var (i : Nat) {x : Str} (hN : N[i]? = some x := by rfl) (hx : scope.names.lookup x = some .local ∨ scope.names.lookup x = some .free := by first | exact Or.inl rfl | exact Or.inr rfl)
    (hd : (x == ("__debug__" : Str)) = false := by decide) (hcd : (x == ("__classdict__" : Str)) = false := by decide) : RE P w K mg base N scope (.Name x pos) (rVar i) := ⟨fun A E cenv Γ B s m q hh hu I h => by
  unfold rVar at h
  cases hg : getS Γ i with
  | none => rw [hg] at h; exact h.elim
  | some d =>
    rw [hg] at h
    obtain ⟨u, h1, h2⟩ := I.loc i x d hN (getS_at hg) hx
    have fin : (∃ d, Dr s.heap d u ∧ q d) ∧ Keeps s s := ⟨⟨d, h1, h⟩, keeps_refl s⟩
    have kd : cenv.scope.kind = .function := by rw [I.sc]; exact I.kd
    rcases h2 with ⟨k, e⟩ | ⟨k, c, e, z⟩
    · exact wpAny_Name (wpAny_loadName_local kd (show cenv.scope.names.lookup x = some .local by rw [I.sc]; exact k) I.ns e fin) hd
    · exact wpAny_Name (wpAny_loadName_free kd (show cenv.scope.names.lookup x = some .free by rw [I.sc]; exact k) e z fin hcd) hd⟩
def rC (d : D) : RTE := fun _ _ q => q d
theorem re_int {i j} : RE P w K mg base N scope (.Constant (.int i) j pos) (rC (.int i)) := ⟨fun A E cenv Γ B s m q hh hu I h => wpAny_Constant_int ⟨⟨.int i, ⟨_, rfl⟩, h⟩, keeps_tok _ _⟩⟩
theorem re_str {x j} : RE P w K mg base N scope (.Constant (.str x) j pos) (rC (.str x)) := ⟨fun A E cenv Γ B s m q hh hu I h => Calls.Constant_str ⟨⟨.str x, ⟨_, rfl⟩, h⟩, keeps_tok _ _⟩⟩
theorem re_non {j} : RE P w K mg base N scope (.Constant .none j pos) (rC .non) := ⟨fun A E cenv Γ B s m q hh hu I h => Constant_none ⟨⟨.non, rfl, h⟩, keeps_refl _⟩⟩
/-- a module's whole number -/
theorem re_gint {x : Str} {i : Int} (hm : ∃ t, mg x = some (.int i t)) (hg : scope.names.lookup x = some .globalImplicit := by rfl) (hd : (x == ("__debug__" : Str)) = false := by decide) : RE P w K mg base N scope (.Name x pos) (rC (.int i)) := ⟨fun A E cenv Γ B s m q hh hu I h => by
  obtain ⟨t, hm⟩ := hm
  have kd : cenv.scope.kind = .function := by rw [I.sc]; exact I.kd
  exact Calls.Name_function_global kd (show cenv.scope.names.lookup x = some .globalImplicit by rw [I.sc]; exact hg) (Calls.loadGlobal_global (by rw [I.gl]; exact I.md.glob.keeps I.bk) hm ⟨⟨.int i, ⟨t, rfl⟩, h⟩, keeps_refl _⟩) hd⟩
/-- an operation upon two values that changes nothing -/
def OpRr (P : Program) (w : World) (f : Value → Value → Sem Value) (g : D → D → Bx → (D → Prop) → Prop) : Prop :=
  ∀ (A : Around) (E : Value → Shared → Prop) (s : Shared) (d e : D) (u v : Value) (B : Bx) (q : D → Prop), A.handled = none → A.units + 64 < cLine → (∀ a b, B a = some b → BoxR P w s.heap b a) → Dr s.heap d u → Dr s.heap e v → g d e B q →
    wpAny (model P w) A (f u v) (fun r s' => (∃ d, Dr s'.heap d r ∧ q d) ∧ Keeps s s') E s
abbrev H2 := D → D → Bx → (D → Prop) → Prop
def rOp (g : H2) (ta tb : RTE) : RTE := fun Γ B q => ta Γ B fun d => tb Γ B fun e => g d e B q
theorem two_r {f : Value → Value → Sem Value} {g : H2} (ho : OpRr P w f g) (ha : RE P w K mg base N scope a ta) (hb : RE P w K mg base N scope b tb) {A : Around} {E : Value → Shared → Prop} {cenv : Env} {Γ : Gm} {B : Bx} {s : Shared} {m : Str → Option Value} {q : D → Prop} (hh : A.handled = none) (hu : A.units + 64 < cLine)
    (I : RInv P w K mg base N scope cenv Γ B s m) (h : rOp g ta tb Γ B q) : wpAny (model P w) A (eval a cenv) (fun v s1 => wpAny (model P w) A (eval b cenv) (fun u s2 => wpAny (model P w) A (f v u) (fun u s' => (∃ d, Dr s'.heap d u ∧ q d) ∧ Keeps s s') E s2) E s1) E s := by
  refine wpAny_mono (ha.run A E cenv Γ B s m _ hh hu I h) (fun v s1 h1 => ?_) fun _ _ z => z
  obtain ⟨⟨d, hd, h1⟩, k1⟩ := h1
  have I1 := I.next (kpk k1)
  refine wpAny_mono (hb.run A E cenv Γ B s1 m _ hh hu I1 h1) (fun u s2 h2 => ?_) fun _ _ z => z
  obtain ⟨⟨e, he, h2⟩, k2⟩ := h2
  have I2 := I1.next (kpk k2)
  exact wpAny_mono (ho A E s2 d e v u B q hh hu I2.bx (hd.kp (kpk k2)) he h2) (fun r s3 h3 => ⟨h3.1, ktr (ktr k1 k2) h3.2⟩) fun _ _ z => z
theorem re_cmp {op : CmpOp} {g : H2} (ho : OpRr P w (compareOp op) g) (ha : RE P w K mg base N scope a ta) (hb : RE P w K mg base N scope b tb) (hm : behindInMarks op b = false := by first | exact nomark _ | rfl) : RE P w K mg base N scope (.Compare a [op] [b] pos) (rOp g ta tb) :=
  ⟨fun A E cenv Γ B s m q hh hu I h => wpAny_Compare1 (two_r ho ha hb hh hu I h) hm⟩
def rChain (g g' : H2) (ta tb tc : RTE) : RTE := fun Γ B q => ta Γ B fun d => tb Γ B fun e => g d e B fun z => match z with
  | .bl k => if k = true then tc Γ B fun f => g' e f B q else q (.bl false)
  | _ => False
theorem re_chain {op op' : CmpOp} {g g' : H2} (ho : OpRr P w (compareOp op) g) (ho' : OpRr P w (compareOp op') g') (ha : RE P w K mg base N scope a ta) (hb : RE P w K mg base N scope b tb) (hc : RE P w K mg base N scope c tc)
    (hm : lastMarks [op, op'] [b, c] = false := by with_unfolding_all rfl) : RE P w K mg base N scope (.Compare a [op, op'] [b, c] pos) (rChain g g' ta tb tc) := ⟨fun A E cenv Γ B s m q hh hu I h => by
  refine Compare_chain (wpAny_mono (ha.run A E cenv Γ B s m _ hh hu I h) (fun v s1 h1 => chain_link ?_) fun _ _ z => z) hm
  obtain ⟨⟨d, hd, h1⟩, k1⟩ := h1
  have I1 := I.next (kpk k1)
  refine wpAny_mono (hb.run A E cenv Γ B s1 m _ hh hu I1 h1) (fun u s2 h2 => ?_) fun _ _ z => z
  obtain ⟨⟨e, he, h2⟩, k2⟩ := h2
  have I2 := I1.next (kpk k2)
  refine wpAny_mono (ho A E s2 d e v u B _ hh hu I2.bx (hd.kp (kpk k2)) he h2) (fun r s3 h3 => ?_) fun _ _ z => z
  obtain ⟨⟨z, hz, h3⟩, k3⟩ := h3
  have I3 := I2.next (kpk k3)
  split at h3
  · rename_i k
    have hz : r = .bool k := hz
    subst hz
    refine wpAny_truthy_bool ?_
    cases k with
    | false => exact ite_ff ⟨⟨.bl false, rfl, (show q (.bl false) from h3)⟩, ktr (ktr k1 k2) k3⟩
    | true =>
      refine ite_tt (chain_last (wpAny_mono (hc.run A E cenv Γ B s3 m _ hh hu I3 (show tc Γ B _ from h3)) (fun w' s4 h4 => ?_) fun _ _ z => z))
      obtain ⟨⟨f, hf, h4⟩, k4⟩ := h4
      have I4 := I3.next (kpk k4)
      exact wpAny_mono (ho' A E s4 e f u w' B q hh hu I4.bx ((he.kp (kpk k3)).kp (kpk k4)) hf h4) (fun r s5 h5 => ⟨h5.1, ktr (ktr (ktr (ktr k1 k2) k3) k4) h5.2⟩) fun _ _ z => z
  · exact h3.elim⟩
def rNot (ta : RTE) : RTE := fun Γ B q => ta Γ B fun d => match d with
  | .bl c => q (.bl (!c))
  | _ => False
theorem re_not (ha : RE P w K mg base N scope a ta) : RE P w K mg base N scope (.UnaryOp .Not a pos) (rNot ta) := ⟨fun A E cenv Γ B s m q hh hu I h => by
  refine UnaryOp_ (wpAny_mono (ha.run A E cenv Γ B s m _ hh hu I h) (fun v s1 h1 => ?_) fun _ _ z => z)
  obtain ⟨⟨d, hd, h1⟩, k1⟩ := h1
  split at h1
  · rename_i c
    have hd : v = .bool c := hd
    subst hd
    exact not_of (wpAny_truthy_bool ⟨⟨.bl (!c), rfl, h1⟩, k1⟩)
  · exact h1.elim⟩
def rAnd (ta tb : RTE) : RTE := fun Γ B q => ta Γ B fun d => match d with
  | .bl c => if c = true then tb Γ B q else q (.bl false)
  | _ => False
theorem re_one {op} (h : RE P w K mg base N scope a ta) : RE P w K mg base N scope (.BoolOp op [a] pos) ta := ⟨fun A E cenv Γ B s m q hh hu I hw => BoolOp_one (h.run A E cenv Γ B s m q hh hu I hw)⟩
theorem re_and {rest : List Expr} (ha : RE P w K mg base N scope a ta) (hb : RE P w K mg base N scope (.BoolOp .And (b :: rest) pos) tb) : RE P w K mg base N scope (.BoolOp .And (a :: b :: rest) pos) (rAnd ta tb) := ⟨fun A E cenv Γ B s m q hh hu I h => by
  refine BoolOp_and (wpAny_mono (ha.run A E cenv Γ B s m _ hh hu I h) (fun v s1 h1 => ?_) fun _ _ z => z)
  obtain ⟨⟨d, hd, h1⟩, k1⟩ := h1
  split at h1
  · rename_i c
    have hd : v = .bool c := hd
    subst hd
    refine wpAny_truthy_bool ?_
    cases c with
    | true => exact wpAny_mono (hb.run A E cenv Γ B s1 m q hh hu (I.next (kpk k1)) (show tb Γ B q from h1)) (fun u s2 h2 => ⟨h2.1, ktr k1 h2.2⟩) fun _ _ z => z
    | false => exact ⟨⟨.bl false, rfl, (show q (.bl false) from h1)⟩, k1⟩
  · exact h1.elim⟩
/-! comparisons of whole numbers -/
def rI (f : Int → Int → Bool) : H2 := fun d e _ q => match d, e with
  | .int i, .int j => q (.bl (f i j))
  | _, _ => False
theorem or_of {f : Value → Value → Sem Value} {g : Int → Int → Bool} (rule : ∀ (A : Around) (E : Value → Shared → Prop) (i j : Int) (t u : Tok) (s : Shared) (Q : Value → Shared → Prop), Q (.bool (g i j)) s → wpAny (model P w) A (f (.int i t) (.int j u)) Q E s) : OpRr P w f (rI g) :=
  fun A E s d e u v B q hh hu hb hd he h => by
    unfold rI at h
    split at h
    · obtain ⟨t, rfl⟩ := hd
      obtain ⟨t', rfl⟩ := he
      exact rule A E _ _ _ _ s _ ⟨⟨.bl _, rfl, h⟩, keeps_refl s⟩
    · exact h.elim
theorem or_lt : OpRr P w (compareOp .Lt) (rI fun i j => decide (i < j)) := or_of fun _ _ _ _ _ _ _ _ q => lt_int q
theorem or_le : OpRr P w (compareOp .LtE) (rI fun i j => decide (i ≤ j)) := or_of fun _ _ _ _ _ _ _ _ q => le_int q
theorem or_gt : OpRr P w (compareOp .Gt) (rI fun i j => decide (j < i)) := or_of fun _ _ _ _ _ _ _ _ q => gt_int q
theorem or_ge : OpRr P w (compareOp .GtE) (rI fun i j => decide (j ≤ i)) := or_of fun _ _ _ _ _ _ _ _ q => ge_int q
theorem or_eqI : OpRr P w (compareOp .Eq) (rI fun i j => decide (i = j)) := or_of fun _ _ _ _ _ _ _ _ q => eq_int (by rw [Bool.beq_eq_decide_eq]; exact q)
end

/-! ### the walk over a generator expression -/
/-- a def's table at Pt, its code object at c -/
abbrev TabB := LamX.TabB
section
variable {X : Cx} {TS : List Addr} {W : WX} {pos gpos : Pos} {elt iter : Expr} {x : Str} {px : Pos} {scope : Scope} {te : DTE} {tr : RTE} {k : Nat} {c Pt : Addr}
theorem tab_of {K : PySem.W.Frag} {F H : Hp} {B R : Bx} {Pt : Addr} (rp : RepH K TS F H B R) (hP : Pt ∈ TS) : ∃ ps : Array Value, H Pt = some (.tbl ps) ∧ TriplesOk ps.toList := (rp.rx Pt _ (rp.tb Pt hP)).2
theorem same_but {K : PySem.W.Frag} {F H H' : Hp} {B R : Bx} {Pt : Addr} {ps : Array Value} (rp : RepH K TS F H B R) (hP : Pt ∈ TS) (h : H' Pt = some (.tbl ps)) (ht : TriplesOk ps.toList) (k : ∀ b, b ≠ Pt → H' b = H b) : RepH K TS F H' B R := by
  obtain ⟨qs, h1, _⟩ := tab_of rp hP
  have nF : F Pt = none := (rp.rx Pt _ (rp.tb Pt hP)).1
  refine ⟨fun c u e => ?_, fun c u e => ?_, fun c u e => ?_, rp.dj, rp.tb⟩
  · have hc : c ≠ Pt := ne_of_none e nF
    rw [k c hc]; exact rp.le _ _ e
  · obtain ⟨h2, h3⟩ := rp.bx c u e
    have hc : c ≠ Pt := fun z => by
      rcases rp.dj Pt with q | q
      · rw [z, q] at e; cases e
      · rw [rp.tb Pt hP] at q; cases q
    exact ⟨h2, h3.mono (Same.refl F) (k c hc)⟩
  · obtain ⟨h2, h3⟩ := rp.rx c u e
    by_cases hc : c = Pt
    · have e' := rp.tb Pt hP
      rw [hc] at e
      rw [e] at e'; cases e'
      rw [hc]
      exact ⟨nF, ps, h, ht⟩
    · exact ⟨h2, h3.mono (Same.refl F) (k c hc)⟩
theorem boxR_of {P : Program} {w : World} {pins : List (Addr × Obj)} {σ : L2.St} {H F : Hp} {s : Shared} {B R : Bx} (hP : X.prog = P) (hw : X.w = w) (I : Inv X pins σ H s) (rp : RepH X.K TS F H B R) : ∀ a b, B a = some b → BoxR P w s.heap b a := fun a b h => by
  subst hP hw
  have dct : ∀ {kvs : List (Key × D)} {ws : List (Key × V)} {vs : List (Key × Value)}, DKv X.K F kvs ws → KV ws vs → Paired (fun p q => p.1 = q.1 ∧ Dr s.heap p.2 q.2) kvs vs := by
    intro kvs
    induction kvs with
    | nil => intro ws vs h1 h2; cases h1; cases h2; exact .nil
    | cons p r ih =>
      intro ws vs h1 h2
      obtain ⟨k', d⟩ := p
      obtain ⟨v, ws', e, h3, h4⟩ := h1
      subst e
      cases h2 with
      | cons r1 r2 => exact .cons ⟨r1.1, dr_of I rp.le d h3 r1.2⟩ (ih h4 r2)
  have bx := (rp.bx a b h).2
  cases b with
  | lst ds =>
    obtain ⟨vs, h1, h2⟩ := bx
    obtain ⟨its, rv, p, _⟩ := I.list (SqL.of h1)
    exact ⟨its, p, drs_of I rp.le ds h2 rv⟩
  | dK kvs =>
    obtain ⟨ws, h1, h2⟩ := bx
    obtain ⟨z, hd, vs, rel, dd⟩ := dk_of I.hok h1
    exact ⟨hd, vs, dct h2 rel, dd⟩
  | lk o ws kvs =>
    obtain ⟨h1, h2⟩ := bx
    obtain ⟨z, hd, vs, rel, dd⟩ := dk_rd I.hok (.inr ⟨_, h1⟩)
    exact ⟨hd, vs, dct h2 rel, dd⟩
  | ins C fs =>
    obtain ⟨dx, ws, h1, h2⟩ := bx
    obtain ⟨mA, om, rel, _, _, _⟩ := ins_get I.hok h1
    refine ⟨dx, mA, om, fun f d hf => ?_⟩
    have look : ∀ {fs : List (Str × D)} {ws : List (Str × V)}, DKv X.K F fs ws → fs.lookup f = some d → ∃ v, ws.lookup f = some v ∧ Dv X.K F d v := by
      intro fs
      induction fs with
      | nil => intro ws _ h; simp at h
      | cons p r ih =>
        intro ws h1 h
        obtain ⟨k', d'⟩ := p
        obtain ⟨v, ws', e, h3, h4⟩ := h1
        subst e
        rw [List.lookup_cons] at h ⊢
        cases hb : f == k' with
        | true => rw [hb] at h; cases h; exact ⟨v, rfl, h3⟩
        | false => rw [hb] at h; exact ih h4 h
    obtain ⟨v, h3, h4⟩ := look h2 hf
    have h5 := rel f
    rw [h3] at h5
    obtain ⟨u, h6, h7⟩ := RelO.some_of h5
    exact ⟨u, h6, dr_of I rp.le d h4 h7⟩
  | dT kvs => exact trivial
  | tab => exact trivial
  | ext φ => exact trivial
  | tabQ q => exact trivial
/-- the generator expression's own scope: one name of its own, beside the captured ones -/
structure GenS (env : Env) (scope : Scope) (x : Str) : Prop where
  kind : scope.kind = .function
  co : scope.isCoroutine = false
  cell : ∀ y ∈ scope.names, y.2 ≠ .cell
  dot : scope.names.lookup (".0" : Str) = some NameKind.local
  loc : scope.names.lookup x = some .local
  own : ∀ y, scope.names.lookup y = some .local → y ≠ x → y ≠ ".0" → False
  free : ∀ y ∈ scope.names, y.2 = .free → ∃ c, env.cells.lookup y.1 = some c
  vis : ∀ y, scope.names.lookup y = some .free → Vis env.scope y
  notloc : ∀ y, scope.names.lookup y = some .free → env.kindOf y = some .local → False
structure GenB (sc scope : Scope) (x : Str) : Prop where
  kind : scope.kind = .function
  co : scope.isCoroutine = false
  cell : ∀ y ∈ scope.names, y.2 ≠ .cell
  dot : scope.names.lookup (".0" : Str) = some NameKind.local
  loc : scope.names.lookup x = some .local
  own : ∀ y ∈ scope.names, y.2 = .local → y.1 = x ∨ y.1 = ".0"
  vis : ∀ y ∈ scope.names, y.2 = .free → sc.names.lookup y.1 = some .cell ∨ sc.names.lookup y.1 = some .free
def genBB (sc scope : Scope) (x : Str) : Bool :=
  decide (scope.kind = .function) && !scope.isCoroutine && (scope.names.all fun y => !decide (y.2 = .cell)) && decide (scope.names.lookup (".0" : Str) = some NameKind.local) && decide (scope.names.lookup x = some .local) &&
    (scope.names.all fun y => !decide (y.2 = .local) || decide (y.1 = x) || decide (y.1 = ".0")) && (scope.names.all fun y => !decide (y.2 = .free) || decide (sc.names.lookup y.1 = some .cell) || decide (sc.names.lookup y.1 = some .free))
theorem genB_by {sc scope : Scope} {x : Str} (h : genBB sc scope x = true) : GenB sc scope x := by
  unfold genBB at h
  simp only [Bool.and_eq_true, Bool.or_eq_true, Bool.not_eq_true', decide_eq_true_eq, decide_eq_false_iff_not, List.all_eq_true] at h
  obtain ⟨⟨⟨⟨⟨⟨h1, h2⟩, h3⟩, h4⟩, h5⟩, h6⟩, h7⟩ := h
  refine ⟨h1, h2, h3, h4, h5, fun y hy e => ?_, fun y hy e => ?_⟩
  · rcases h6 y hy with (z | z) | z
    · exact absurd e z
    · exact .inl z
    · exact .inr z
  · rcases h7 y hy with (z | z) | z
    · exact absurd e z
    · exact .inl z
    · exact .inr z
theorem GenB.at {X : Cx} {scope : Scope} {x : Str} (G : GenB X.env.scope scope x) (ok : X.Ok) : GenS X.env scope x :=
  ⟨G.kind, G.co, G.cell, G.dot, G.loc, fun y h n1 n2 => (G.own _ (PySem.mem_of_lookup h) rfl).elim n1 n2, fun y hy e => by
    rcases G.vis y hy e with k | k
    · exact ok.has _ (.inl k)
    · exact ok.has _ (.inr k), fun y h => by
    rcases G.vis _ (PySem.mem_of_lookup h) rfl with k | k
    · exact .inr (.inl k)
    · exact .inr (.inr k), fun y h e => by
    have e : X.env.scope.names.lookup y = some .local := e
    rcases G.vis _ (PySem.mem_of_lookup h) rfl with k | k
    · rw [show X.env.scope.names.lookup y = _ from k] at e; cases e
    · rw [show X.env.scope.names.lookup y = _ from k] at e; cases e⟩
/-- the generator g over the items ds, ready to be walked: its elements are bools, told by pb -/
def ReadyB (X : Cx) (TS : List Addr) (pins : List (Addr × Obj)) (σ : L2.St) (F : Hp) (B R : Bx) (ds : List D) (pb : D → Bool) (g : Addr) (s5 : Shared) : Prop :=
  ∃ (fp wr : List Addr) (G : Array GenState → Array GenState → Prop) (Fv : Nat → Value → Prop) (St : Nat → Shared → Prop),
    WalksS X.prog X.w X.A.in1 g fp wr G ds.length Fv St ∧ St 0 s5 ∧ TruthOf X.prog X.w X.A.in1 Fv (fun j => match ds[j]? with | some d => pb d | none => false) ∧
    ∀ s', Moved wr G s5 s' → ∃ H2, RepH X.K TS F H2 B R ∧ Inv X pins σ H2 s'
/-- the generator expression over a list or a tuple is made -/
theorem gen_seq {pins : List (Addr × Obj)} {σ : L2.St} {H : Hp} {s : Shared} {i : Nat} {Q' : Value → Shared → Prop} {F : Hp} {Γ : Gm} {B R : Bx} {q : D → Bx → Prop} {q2 : List D → (D → Bool) → Bx → Prop} {xd : XD}
    (hr : Room k X.A) (TB : TabB X.base X.mg c Pt) (hP : Pt ∈ TS) (hcode : X.env.code = .ref c) (S0 : GenB X.env.scope scope x) (hi : DE X TS W iter te) (hel : RE X.prog X.w X.K X.mg X.base X.N scope elt tr) (hN : X.N[i]? = some x) (hnd : X.N.Nodup) (hdot : ∀ l : Nat, X.N[l]? ≠ some (".0" : Str))
    (hs : ∀ v, genFold iter X.env v = pure v) (I : Inv X pins σ H s) (sl : Slots X.K F σ Γ) (rp : RepH X.K TS F H B R) (h : te Γ B (fun d B1 => q d B1) xd) (hx : XL X.K TS W F R σ xd)
    (hq : ∀ d B1, q d B1 → ∃ ds pb, seqOf B1 d = some ds ∧ (∀ e ∈ ds, tr (setS Γ i e) B1 (fun z => z = .bl (pb e))) ∧ q2 ds pb B1)
    (hQ : ∀ B1 F1 H1 ds pb g s5, q2 ds pb B1 → Same F F1 → RepH X.K TS F1 H1 B1 R → ReadyB X TS pins σ F1 B1 R ds pb g s5 → Q' (.ref g) s5) :
    wpAny (model X.prog X.w) X.A (eval (.GeneratorExp elt [⟨.Name x px, iter, [], 0⟩] scope gpos) X.env) Q' X.xe s := by
  have S := S0.at I.ok
  refine wpAny_GeneratorExp_walksQD hr.hd S.co (closure_ok S.free) S.cell S.dot S.loc S.kind (by have := hr.dp; omega) ?_ hs
  refine thn (hi.run pins s σ H (fun v H1 => ∃ d B1 F1, q d B1 ∧ Same F F1 ∧ RepH X.K TS F1 H1 B1 R ∧ Dv X.K F1 d v) I ⟨F, Γ, B, R, _, xd, sl, rp, h, fun d B1 F1 H1 v h1 e1 rp1 dv1 => ⟨d, B1, F1, h1, e1, rp1, dv1⟩, hx⟩) fun xv s1 hv => ?_
  obtain ⟨v, H1, I1, r1, d, B1, F1, hq1, e1, rp1, dv1⟩ := hv
  obtain ⟨ds, pb, hds, htr, hq2⟩ := hq d B1 hq1
  obtain ⟨a, vs, ev, dvs, hsq⟩ := seq_of rp1 hds dv1
  subst ev
  obtain rfl : xv = Value.ref a := r1
  obtain ⟨ps, hPh, ht⟩ := tab_of rp1 hP
  have hPs : s1.heap.get? Pt = some { cls := .none, data := .fields ps } := I1.hok Pt _ hPh
  have hPlt : Pt < s1.heap.objs.size := Heap.lt_size hPs
  -- the iterator
  have core : ∀ (o : Obj) (its : List Value) (St : Nat → Heap → Prop), o.isFreed = false → Vals vs its → (∀ A' : Around, A'.handled = none → Walks X.prog X.w A' s1.heap.objs.size [s1.heap.objs.size, a] [s1.heap.objs.size] its.toArray.size (fun i v => its.toArray[i]? = some v) St) → St 0 (s1.heap.push o) → a < s1.heap.objs.size →
      (s1.heap.push o).NoLimit ∧ wpAny (model X.prog X.w) X.A (genexprCode X.env gpos (X.env.qual ++ "<genexpr>") scope) (fun code s₃ => wpAny (model X.prog X.w) X.A (builtinsFor X.env.globals X.env.builtins) (fun bi s₄ =>
        ∃ Ia fp wr n₀ Pf St₀ pz Fv, Value.ref s1.heap.objs.size = .ref Ia ∧ (∀ A' : Around, A'.handled = none → Walks X.prog X.w A' Ia fp wr n₀ Pf St₀) ∧ St₀ 0 s₄.heap ∧ (∀ b ∈ fp, b < s₄.heap.objs.size) ∧ s₄.heap.NoLimit ∧ cStatics ∉ wr ∧
          (∀ href : Heap, (∀ b o, s₄.heap.get? b = some o → href.get? b = some o) →
            QuietGenD X.prog X.w (genEnv scope (cloFrom X.env.cells scope.names []) s₄.heap.objs.size code bi X.env) x [] elt (List.range s₄.heap.objs.size) wr Pf pz Fv href (X.A.depth + 1) (X.A.units + 8)) ∧
          (∀ a h₅ tk gs, gs.bare = true → s₄.heap.objs.size < a → h₅.objs.size = a + 1 → (∀ b o, s₄.heap.get? b = some o → h₅.get? b = some o) →
            WalksS X.prog X.w X.A.in4 a (a :: s₄.heap.objs.size :: List.range s₄.heap.objs.size) (s₄.heap.objs.size :: wr) (GenOnlyQ s₄.gens.size) (passing pz n₀ 0).length
              (fun j y => ∃ i, (passing pz n₀ 0)[j]? = some i ∧ Fv i y) (GenAt X.prog X.w X.A.in4 a s₄.gens.size s₄.heap.objs.size (List.range s₄.heap.objs.size) wr pz n₀ Fv) →
            GenAt X.prog X.w X.A.in4 a s₄.gens.size s₄.heap.objs.size (List.range s₄.heap.objs.size) wr pz n₀ Fv 0 { s₄ with gens := s₄.gens.push gs, toks := tk, heap := h₅ } →
            Q' (.ref a) { s₄ with gens := s₄.gens.push gs, toks := tk, heap := h₅ })) X.xe s₃) X.xe { s1 with heap := s1.heap.push o } := by
    intro o its St hof rv W0' hst halt
    have lim2 : (s1.heap.push o).NoLimit := I1.nolimit.push o
    have hP2 : (s1.heap.push o).get? Pt = some { cls := .none, data := .fields ps } := Heap.get?_push_of_some _ hPs
    have cd : PySem.W.CodeHd (s1.heap.push o) c Pt := TB.code.keeps fun b u e => Heap.get?_push_of_some _ (I1.bk b u e)
    have hlen : its.toArray.size = ds.length := by rw [List.size_toArray, ← rv.length, dvs.length]
    have dri : Drs s1.heap ds its := drs_of I1 rp1.le ds dvs rv
    have cont : ∀ (code : Value) (h3 : Heap) (tk : Nat) (ps' : Array Value), Heap.ExtBut Pt (s1.heap.push o) h3 → (s1.heap.push o).objs.size ≤ h3.objs.size → h3.get? Pt = some { cls := .none, data := .fields ps' } → (∃ more, ps' = ps ++ more) → TriplesOk ps'.toList →
        wpAny (model X.prog X.w) X.A (builtinsFor X.env.globals X.env.builtins) (fun bi s₄ =>
          ∃ Ia fp wr n₀ Pf St₀ pz Fv, Value.ref s1.heap.objs.size = .ref Ia ∧ (∀ A' : Around, A'.handled = none → Walks X.prog X.w A' Ia fp wr n₀ Pf St₀) ∧ St₀ 0 s₄.heap ∧ (∀ b ∈ fp, b < s₄.heap.objs.size) ∧ s₄.heap.NoLimit ∧ cStatics ∉ wr ∧
            (∀ href : Heap, (∀ b o, s₄.heap.get? b = some o → href.get? b = some o) →
              QuietGenD X.prog X.w (genEnv scope (cloFrom X.env.cells scope.names []) s₄.heap.objs.size code bi X.env) x [] elt (List.range s₄.heap.objs.size) wr Pf pz Fv href (X.A.depth + 1) (X.A.units + 8)) ∧
            (∀ a h₅ tk gs, gs.bare = true → s₄.heap.objs.size < a → h₅.objs.size = a + 1 → (∀ b o, s₄.heap.get? b = some o → h₅.get? b = some o) →
              WalksS X.prog X.w X.A.in4 a (a :: s₄.heap.objs.size :: List.range s₄.heap.objs.size) (s₄.heap.objs.size :: wr) (GenOnlyQ s₄.gens.size) (passing pz n₀ 0).length
                (fun j y => ∃ i, (passing pz n₀ 0)[j]? = some i ∧ Fv i y) (GenAt X.prog X.w X.A.in4 a s₄.gens.size s₄.heap.objs.size (List.range s₄.heap.objs.size) wr pz n₀ Fv) →
              GenAt X.prog X.w X.A.in4 a s₄.gens.size s₄.heap.objs.size (List.range s₄.heap.objs.size) wr pz n₀ Fv 0 { s₄ with gens := s₄.gens.push gs, toks := tk, heap := h₅ } →
              Q' (.ref a) { s₄ with gens := s₄.gens.push gs, toks := tk, heap := h₅ })) X.xe { s1 with heap := h3, toks := tk } := by
      intro code h3 tk ps' hxb hsz hP3 hmore ht3
      obtain ⟨bm, ob, e1', e2, e3, e4, e5, e6, e7, e8⟩ := TB.bm
      have hcP : cStatics ≠ Pt := fun e => by
        obtain ⟨_, hns, _⟩ := I1.nolimit
        obtain ⟨o', es, ep, ho, hd, _⟩ := hns
        rw [e, hPs] at ho
        cases ho
        cases hd
      have hcl : cStatics < s1.heap.objs.size := let ⟨_, hns, _⟩ := I1.nolimit; hns.lt
      have sz2 : (s1.heap.push o).objs.size = s1.heap.objs.size + 1 := Heap.size_push ..
      have keep3 : ∀ b u, b ≠ Pt → s1.heap.get? b = some u → h3.get? b = some u := fun b u hb e => hxb b u hb (Heap.get?_push_of_some _ e)
      have aP : a ≠ Pt := fun z => by
        rcases hsq with q | q
        · obtain ⟨_, _, ⟨o', n', ho, _, _, hd⟩, _⟩ := I1.list q
          rw [z, hPs] at ho; cases ho; cases hd
        · obtain ⟨_, _, ⟨o', ho, _, n', hd⟩, _⟩ := I1.tuple q
          rw [z, hPs] at ho; cases ho; cases hd
      refine wpAny_builtinsFor (m := X.mg) (by rw [I1.ok.glob]; exact ((I1.mod.glob.keeps I1.bk).push o).extBut hxb TB.gP) e1' e2 (keep3 _ _ e4 (I1.bk _ _ e5)) e6 e7 e8 ?_
      refine ⟨s1.heap.objs.size, [s1.heap.objs.size, a], [s1.heap.objs.size], its.toArray.size, fun i v => its.toArray[i]? = some v, St, (fun _ => true), (fun i y => ∃ e, ds[i]? = some e ∧ y = .bool (pb e)), rfl, W0', ?_, ?_, lim2.extBut hxb hcP, ?_, ?_, ?_⟩
      · refine (W0' X.A hr.hd).frame _ _ _ hst fun b hb u e => hxb b u (fun z => ?_) e
        rcases List.mem_cons.mp hb with z2 | z2
        · exact Nat.ne_of_lt hPlt (z.symm.trans z2)
        · rcases List.mem_cons.mp z2 with z2 | z2
          · exact aP (z2.symm.trans z)
          · cases z2
      · intro b hb
        have h4 : s1.heap.objs.size < h3.objs.size := by omega
        rcases List.mem_cons.mp hb with z | z
        · rw [z]; exact h4
        · rcases List.mem_cons.mp z with z | z
          · rw [z]; exact Nat.lt_trans halt h4
          · cases z
      · intro z
        rcases List.mem_cons.mp z with z | z
        · exact Nat.ne_of_lt hcl z
        · cases z
      · intro href hhref
        refine ⟨fun A' E' j v s₂ m₂ hA _ _ hPv hn hm hk => ?_, fun A' E' j v s₂ m₂ hA hdp hun hPv hp hn hm hk => ?_⟩
        · simp only [List.forIn_nil]
          exact wpAny_pure ⟨rfl, keeps_refl _⟩
        · have hPv' : its[j]? = some v := by simpa using hPv
          obtain ⟨e, he, hde⟩ := dri.get hPv'
          have sz3 : s1.heap.objs.size < h3.objs.size := by omega
          -- what stood at the making stands
          have kp2 : ∀ b u, b ≠ Pt → s1.heap.get? b = some u → s₂.heap.get? b = some u := fun b u hb e => by
            have hl := Heap.lt_size e
            refine hk b (List.mem_range.mpr (Nat.lt_trans hl sz3)) (fun z => ?_) u (hhref b u (keep3 b u hb e))
            rcases List.mem_cons.mp z with z | z
            · rw [z] at hl; exact Nat.lt_irrefl _ hl
            · cases z
          have hP4 : s₂.heap.get? Pt = some { cls := .none, data := .fields ps' } := by
            refine hk Pt (List.mem_range.mpr (Nat.lt_trans hPlt sz3)) (fun z => ?_) _ (hhref Pt _ hP3)
            rcases List.mem_cons.mp z with z | z
            · rw [z] at hPlt; exact Nat.lt_irrefl _ hPlt
            · cases z
          obtain ⟨more, em⟩ := hmore
          -- the state as the def's own, over s₂'s heap
          have J := GxR.inv_tab (more := more) (h' := s₂.heap) (g' := s1.gens) (d' := s1.drawn) (t' := s1.toks) I1 hPh (fun b u hb e => kp2 b u hb e) (by rw [← em]; exact hP4) I1.bare
          have rpJ : RepH X.K TS F1 (upd H1 Pt (.tbl (ps ++ more))) B1 R := same_but rp1 hP upd_same (by rw [← em]; exact ht3) fun b hb => upd_ne hb
          have slJ : Slots X.K F1 σ Γ := sl.mono e1
          have dJ : Dr s₂.heap e v := by
            have q := drs_of J rpJ.le ds dvs rv
            obtain ⟨e', he', hde'⟩ := q.get hPv'
            rw [he] at he'; cases he'
            exact hde'
          have RI : RInv X.prog X.w X.K X.mg X.base X.N scope (genEnv scope (cloFrom X.env.cells scope.names []) h3.objs.size code builtinsNs X.env) (setS Γ i e) B1 s₂ m₂ := by
            refine ⟨rfl, S.kind, I1.ok.glob, rfl, I1.mod, J.bk, hn, fun l y z h1 h2 h3' => ?_, boxR_of (s := { heap := s₂.heap, gens := s1.gens, drawn := s1.drawn, toks := s1.toks, os := s1.os }) rfl rfl J rpJ⟩
            rw [setS_eq] at h2
            rcases h3' with h3' | h3'
            · -- a local name: the target alone
              by_cases hli : l = i
              · subst hli
                rw [hN] at h1; cases h1
                have hlt : l < Γ.length := by
                  by_cases hlt : l < Γ.length
                  · exact hlt
                  · rw [List.getElem?_eq_none (by rw [List.length_set]; omega)] at h2; cases h2
                rw [List.getElem?_set_self hlt] at h2
                cases h2
                exact ⟨v, dJ, .inl ⟨h3', hm⟩⟩
              · exact (S.own y h3' (fun z => hli (nodup_ix hnd h1 (z ▸ hN))) (fun z => hdot l (z ▸ h1))).elim
            · -- a captured one
              have hli : l ≠ i := fun z => by
                subst z
                rw [hN] at h1; cases h1
                rw [S.loc] at h3'; cases h3'
              rw [List.getElem?_set_ne (Ne.symm hli)] at h2
              obtain ⟨vv, h4, h5⟩ := slJ.at_ l z h2
              obtain ⟨m', hn', hl'⟩ := J.loc
              have hmem : (y, NameKind.free) ∈ scope.names := PySem.mem_of_lookup h3'
              obtain ⟨cc, hcc⟩ := S.free _ hmem rfl
              have hvis : Vis X.env.scope y := S.vis y h3'
              obtain ⟨u, h6, h7⟩ := hl' l y vv h1 h4 hvis
              refine ⟨u, dr_of J rpJ.le z h5 h6, .inr ⟨h3', cc, ?_, ?_⟩⟩
              · show (cloFrom X.env.cells scope.names []).lookup y = some cc
                obtain ⟨c', e'⟩ := mem_lookup (cloFrom_has (cells := X.env.cells) (acc := []) hmem)
                rcases cloFrom_mem (PySem.mem_of_lookup e') with hm' | ⟨_, h9⟩
                · cases hm'
                · rw [e', h9, hcc]; rfl
              · rcases h7 with ⟨h8, _⟩ | ⟨_, c2, h8, h9⟩
                · exact (S.notloc y h3' h8).elim
                · rw [hcc] at h8; cases h8
                  exact h9
          have hu' : A'.units + 64 < cLine := by have := hr.un; omega
          refine wpAny_mono (hel.run A' E' _ (setS Γ i e) B1 s₂ m₂ _ hA hu' RI (htr e (List.mem_of_getElem? he))) (fun y s3 r => ?_) fun _ _ e => e
          obtain ⟨⟨z, hz, ez⟩, kk⟩ := r
          subst ez
          exact ⟨⟨e, he, hz⟩, kk⟩
      · intro g h5 tk5 gs hgb hag hsz5 hk5 W5 hat
        simp only [GxR.passing_true, List.length_range] at W5
        rw [hlen] at W5 hat
        refine hQ B1 F1 H1 ds pb g _ hq2 e1 rp1 ⟨_, _, _, _, _, W5.in4_1, hat, ?_, fun s' hm => ?_⟩
        · intro j y sj Qj Ej hy hQj
          obtain ⟨i', hij, e, he, rfl⟩ := hy
          obtain ⟨hj, ej⟩ := List.getElem?_eq_some_iff.mp hij
          rw [List.getElem_range] at ej
          subst ej
          have hQ2 : Qj (pb e) sj := by
            have z := hQj
            simp only [he] at z
            exact z
          exact wpAny_truthy_bool hQ2
        · obtain ⟨more, em⟩ := hmore
          have nwr : ∀ b u, s1.heap.get? b = some u → b ∉ h3.objs.size :: [s1.heap.objs.size] := fun b u e hb => by
            have hl := Heap.lt_size e
            rcases List.mem_cons.mp hb with z | z
            · rw [z] at hl
              have h9 : (h3.objs.size : Nat) < s1.heap.objs.size := hl
              omega
            · rcases List.mem_cons.mp z with z | z
              · rw [z] at hl
                exact Nat.lt_irrefl _ hl
              · cases z
          have J := GxR.inv_tab (more := more) (h' := s'.heap) (g' := s'.gens) (d' := s'.drawn) (t' := s'.toks) I1 hPh (fun b u hb e => hm.heap b u (nwr b u e) (hk5 b u (keep3 b u hb e)))
            (by rw [← em]; exact hm.heap Pt _ (nwr Pt _ hPs) (hk5 Pt _ hP3)) (AllBare.movedS (I1.bare.push hgb) hm)
          rw [GxR.sh_eta s1 s' hm.os] at J
          exact ⟨_, same_but rp1 hP upd_same (by rw [← em]; exact ht3) fun b hb => upd_ne hb, J⟩
    refine ⟨lim2, ?_⟩
    cases hf : codeAmong gpos ps.toList with
    | none =>
      refine wpAny_genexprCodeX hcode (cd.code hP2 ht) (cd.tab hP2) hf fun c' h' tk hx hge hlt hco' _ htab' _ => ?_
      obtain ⟨o1, vs, f1, tf, fl, tg, inF, tx, tt, op, _, _, _, _, _, _, _, _, _, htr, _⟩ := hco'
      exact cont _ h' tk _ hx (Nat.le_trans hge (Nat.le_of_lt hlt)) htab'.2 ⟨_, rfl⟩ htr
    | some cv =>
      refine wpAny_genexprCode_hit hcode (cd.code hP2 ht) hf ?_
      exact cont cv (s1.heap.push o) s1.toks ps (Heap.ExtBut.refl _ _) (Nat.le_refl _) hP2 ⟨#[], by simp⟩ ht
  rcases hsq with hsq | hsq
  · obtain ⟨its, rv, pl, _⟩ := I1.list hsq
    have halt : a < s1.heap.objs.size := by obtain ⟨o', _, ho, _⟩ := pl; exact Heap.lt_size ho
    refine wpAny_pyIter_list pl.isList ?_
    exact core _ its _ rfl rv (fun A' hA => Walks.list hA s1.heap.objs.size a (Nat.ne_of_lt halt) its.toArray) ⟨⟨_, Heap.get?_push_size _ rfl, rfl, rfl⟩, pl.isList.push _⟩ halt
  · obtain ⟨its, rv, pl, _⟩ := I1.tuple hsq
    have halt : a < s1.heap.objs.size := by obtain ⟨o', ho, _⟩ := pl; exact Heap.lt_size ho
    refine wpAny_pyIter_tuple (show s1.heap.IsTuple a its.toArray from pl) ?_
    exact core _ its _ rfl rv (fun A' hA => Walks.tuple hA s1.heap.objs.size a (Nat.ne_of_lt halt) its.toArray) ⟨⟨_, Heap.get?_push_size _ rfl, rfl, rfl⟩, (show s1.heap.IsTuple a its.toArray from pl).push _⟩ halt

/-- any(elt for x in iter), all(..): the items are tried by pb -/
def dQuant (all : Bool) (i : Nat) (te : DTE) (tr : RTE) : DTE := fun Γ B q x => te Γ B (fun d B1 => ∃ (ds : List D) (pb : D → Bool), seqOf B1 d = some ds ∧ (∀ e ∈ ds, tr (setS Γ i e) B1 (fun z => z = .bl (pb e))) ∧ q (.bl (if all then ds.all pb else ds.any pb)) B1) x
theorem any_at (pb : D → Bool) (ds : List D) : (List.range ds.length).any (fun j => match ds[j]? with | some d => pb d | none => false) = ds.any pb := by
  rw [Bool.eq_iff_iff, List.any_eq_true, List.any_eq_true]
  constructor
  · rintro ⟨j, hj, h⟩
    have hj' := List.mem_range.mp hj
    simp only [List.getElem?_eq_getElem hj'] at h
    exact ⟨ds[j], List.getElem_mem hj', h⟩
  · rintro ⟨b, hb, h⟩
    obtain ⟨j, hj, e⟩ := List.getElem_of_mem hb
    refine ⟨j, List.mem_range.mpr hj, ?_⟩
    simp only [List.getElem?_eq_getElem hj, e]
    exact h
theorem all_at (pb : D → Bool) (ds : List D) : (List.range ds.length).all (fun j => match ds[j]? with | some d => pb d | none => false) = ds.all pb := by
  rw [Bool.eq_iff_iff, List.all_eq_true, List.all_eq_true]
  constructor
  · intro h b hb
    obtain ⟨j, hj, e⟩ := List.getElem_of_mem hb
    have q := h j (List.mem_range.mpr hj)
    simp only [List.getElem?_eq_getElem hj, e] at q
    exact q
  · intro h j hj
    have hj' := List.mem_range.mp hj
    simp only [List.getElem?_eq_getElem hj']
    exact h _ (List.getElem_mem hj')
variable {p : Pos}
theorem de_any (i : Nat) (hr : Room k X.A) (hm : X.mg "any" = none) (TB : TabB X.base X.mg c Pt) (hP : Pt ∈ TS) (S : GenB X.env.scope scope x) (hi : DE X TS W iter te) (hel : RE X.prog X.w X.K X.mg X.base X.N scope elt tr) (hnd : X.N.Nodup) (hdot : ∀ l : Nat, X.N[l]? ≠ some (".0" : Str))
    (hcode : X.env.code = .ref c := by rfl) (hN : X.N[i]? = some x := by rfl) (hg : Gl X "any" := by rfl) (hs : ∀ v, genFold iter X.env v = pure v := by intro _; rfl)
    (he : starEach [.GeneratorExp elt [⟨.Name x px, iter, [], 0⟩] scope gpos] X.env = (false, eval (.GeneratorExp elt [⟨.Name x px, iter, [], 0⟩] scope gpos) X.env) :: starEach [] X.env := by rfl) :
    DE X TS W (.Call (.Name "any" p) [.GeneratorExp elt [⟨.Name x px, iter, [], 0⟩] scope gpos] [] pos) (dQuant false i te tr) := by
  refine ⟨fun pins s σ H Q I ⟨F, Γ, B, R, q, xd, sl, rp, h, hq, hx⟩ => ?_⟩
  refine wpAny_Call_Name_kw (ld_blt I hg hm boot_any ?_)
  refine PyProof.Rows.callWith_builtin1 ?_ he (by rfl)
  rw [he]
  show wpAny _ _ (spliced ((false, eval (.GeneratorExp elt [⟨.Name x px, iter, [], 0⟩] scope gpos) X.env) :: backTo pos (starEach [] X.env))) _ _ s
  refine Calls.spliced_cons (gen_seq (q2 := fun ds pb B1 => q (.bl (ds.any pb)) B1) hr TB hP hcode S hi hel hN hnd hdot hs I sl rp h hx (fun d B1 ⟨ds, pb, h1, h2, h3⟩ => ⟨ds, pb, h1, h2, h3⟩) fun B1 F1 H1 ds pb g s5 hq2 e1 rp1 hG => ?_)
  obtain ⟨fp, wr, G, Fv, St, Wk, hst, htr, hI⟩ := hG
  refine Calls.spliced_nil ?_
  refine call_any_walkS (Wk.self 0 _ _ _ hst ⟨g, fp, wr, G, _, Fv, St, _, rfl, Wk, hst, htr, fun s' hmv => ?_⟩)
  obtain ⟨H2, rp2, J⟩ := hI s' hmv
  rw [any_at]
  exact ⟨.bl _, H2, J, rfl, hq _ B1 F1 H2 _ hq2 e1 rp2 rfl⟩
theorem de_all (i : Nat) (hr : Room k X.A) (hm : X.mg "all" = none) (TB : TabB X.base X.mg c Pt) (hP : Pt ∈ TS) (S : GenB X.env.scope scope x) (hi : DE X TS W iter te) (hel : RE X.prog X.w X.K X.mg X.base X.N scope elt tr) (hnd : X.N.Nodup) (hdot : ∀ l : Nat, X.N[l]? ≠ some (".0" : Str))
    (hcode : X.env.code = .ref c := by rfl) (hN : X.N[i]? = some x := by rfl) (hg : Gl X "all" := by rfl) (hv : bootBuiltins "all" = some (.builtin "all") := by decide +kernel) (hs : ∀ v, genFold iter X.env v = pure v := by intro _; rfl)
    (he : starEach [.GeneratorExp elt [⟨.Name x px, iter, [], 0⟩] scope gpos] X.env = (false, eval (.GeneratorExp elt [⟨.Name x px, iter, [], 0⟩] scope gpos) X.env) :: starEach [] X.env := by rfl) :
    DE X TS W (.Call (.Name "all" p) [.GeneratorExp elt [⟨.Name x px, iter, [], 0⟩] scope gpos] [] pos) (dQuant true i te tr) := by
  refine ⟨fun pins s σ H Q I ⟨F, Γ, B, R, q, xd, sl, rp, h, hq, hx⟩ => ?_⟩
  refine wpAny_Call_Name_kw (ld_blt I hg hm hv ?_)
  refine PyProof.Rows.callWith_builtin1 ?_ he (by rfl)
  rw [he]
  show wpAny _ _ (spliced ((false, eval (.GeneratorExp elt [⟨.Name x px, iter, [], 0⟩] scope gpos) X.env) :: backTo pos (starEach [] X.env))) _ _ s
  refine Calls.spliced_cons (gen_seq (q2 := fun ds pb B1 => q (.bl (ds.all pb)) B1) hr TB hP hcode S hi hel hN hnd hdot hs I sl rp h hx (fun d B1 ⟨ds, pb, h1, h2, h3⟩ => ⟨ds, pb, h1, h2, h3⟩) fun B1 F1 H1 ds pb g s5 hq2 e1 rp1 hG => ?_)
  obtain ⟨fp, wr, G, Fv, St, Wk, hst, htr, hI⟩ := hG
  refine Calls.spliced_nil ?_
  refine call_all_walkS (Wk.self 0 _ _ _ hst ⟨g, fp, wr, G, _, Fv, St, _, rfl, Wk, hst, htr, fun s' hmv => ?_⟩)
  obtain ⟨H2, rp2, J⟩ := hI s' hmv
  rw [all_at]
  exact ⟨.bl _, H2, J, rfl, hq _ B1 F1 H2 _ hq2 e1 rp2 rfl⟩
end
end DL
set_option Elab.async false
set_option linter.all false
set_option maxRecDepth 100000
set_option maxHeartbeats 2000000
/-! DL8: walks over lists or tuples, a module's numbers, defs by the head's facts, sorted, t[::2]. -/
namespace DL
open PySem PySem.Spec PyProof.Rows L2

section
variable {X : Cx} {TS : List Addr} {W : WX} {pos p apos : Pos} {e o tg : Expr} {es : List Expr} {tl : DTA} {te to : DTE} {x : Str}
/-! ### for x in (a list or a tuple) -/
def iSeq (K : PySem.W.Frag) (tl : TE) : TI := fun σ H R => tl σ H fun x H1 => ∃ a, x = .ref a ∧ ((∃ xs, SqL K H1 a xs ∧ R (Itl K a) H1) ∨ ∃ xs, SqT K H1 a xs ∧ R (Itt K a) H1)
theorem pi_seq {l : Expr} {tl : TE} (hl : PE X l tl) : PI X tg l (iSeq X.K tl) := by
  refine ⟨fun pins s σ H R I h => ?_⟩
  refine thn (hl.run pins s σ H _ I h) fun v s1 ⟨x, H1, I1, r1, q1⟩ => ?_
  obtain ⟨a, e, q⟩ := q1
  subst e
  cases r1
  rcases q with ⟨xs, hq, q⟩ | ⟨xs, hq, q⟩
  · obtain ⟨its, rv, p, hz⟩ := I1.list hq
    refine wpAny_pyIter_list p.isList ?_
    refine ⟨s1.heap.objs.size, [s1.heap.objs.size], _, _, H1, rfl, I1.kept (t' := s1.toks) fun b o e => Heap.get?_push_of_some _ e, turn_list a _, ⟨_, Heap.get?_push_size _ rfl, rfl, rfl⟩, fun b hb => ?_, q⟩
    have e : b = s1.heap.objs.size := by simpa using hb
    subst e
    exact I1.fpOk (Nat.le_refl _) (I1.hok.fresh (Nat.le_refl _))
  · obtain ⟨its, rv, p, hz⟩ := I1.tuple hq
    refine wpAny_pyIter_tuple (show s1.heap.IsTuple a its.toArray from p) ?_
    refine ⟨s1.heap.objs.size, [s1.heap.objs.size], _, _, H1, rfl, I1.kept (t' := s1.toks) fun b o e => Heap.get?_push_of_some _ e, turn_tuple a _, ⟨_, Heap.get?_push_size _ rfl, rfl, rfl⟩, fun b hb => ?_, q⟩
    have e : b = s1.heap.objs.size := by simpa using hb
    subst e
    exact I1.fpOk (Nat.le_refl _) (I1.hok.fresh (Nat.le_refl _))
def iSq (d : D) (B1 : Bx) (q : List D → Gd → Bx → Prop) : Prop := match d with
  | .tup xs => q xs none B1
  | .rot xs => q xs none B1
  | d => ∃ xs, lstOf B1 d = some xs ∧ q xs (lstGd d xs) B1
def dISeq (te : DTE) : DTI := fun Γ B q x => te Γ B (fun d B1 => iSq d B1 q) x
theorem di_seq (he : DE X TS W e te) : DI X TS W tg e (dISeq te) := PI_imp (pi_seq he) fun σ H R0 ⟨F, Γ, B, R, q, x, s, rp, hu, hq, hx⟩ => by
  refine ⟨F, Γ, B, R, _, x, s, rp, hu, fun d B1 F1 H1 v h1 e1 rp1 dv1 => ?_, hx⟩
  have tupCase : ∀ {xs : List D}, tupOf d = some xs → q xs none B1 → ∃ a, v = .ref a ∧ ((∃ xs, SqL X.K H1 a xs ∧ R0 (Itl X.K a) H1) ∨ ∃ xs, SqT X.K H1 a xs ∧ R0 (Itt X.K a) H1) := fun {xs} h2 h1 => by
    obtain ⟨a, vs, ev, h3, h4⟩ := tup_of rp1 h2 dv1
    refine ⟨a, ev, .inr ⟨vs, h4, hq _ _ B1 F1 H1 _ h1 e1 rp1 ⟨_, _, walk_tupD (n := xs.length), fun F2 H2 B2 R2 e2 rp2 hg => ?_, fun i Ha u Hb F2 B2 R2 e2 rp2 hg hy => ?_⟩⟩⟩
    · obtain ⟨ws, h5, h6⟩ := tup_stays h2 dv1 ev e2 rp2
      exact ⟨ws, h5, h6.length⟩
    · obtain ⟨rfl, hi, hy⟩ := hy
      obtain ⟨ws, h5, h6⟩ := tup_stays h2 dv1 ev e2 rp2
      obtain ⟨d2, h7, h8⟩ := h6.getV (hy ws h5)
      exact ⟨F2, d2, Same.refl _, rp2, h7, h8⟩
  dsimp only [iSq] at h1
  split at h1
  · exact tupCase rfl h1
  · exact tupCase rfl h1
  · obtain ⟨xs, h2, h1⟩ := h1
    obtain ⟨a, vs, ev, h3, h4⟩ := lst_of rp1 h2 dv1
    refine ⟨a, ev, .inl ⟨vs, h4, hq _ _ B1 F1 H1 _ h1 e1 rp1 ⟨_, _, walk_listD (n := xs.length), fun F2 H2 B2 R2 e2 rp2 hg => ?_, fun i Ha u Hb F2 B2 R2 e2 rp2 hg hy => ?_⟩⟩⟩
    · obtain ⟨ws, h5, h6⟩ := lst_stays h2 dv1 ev e2 rp2 hg
      exact ⟨ws, h5, h6.length⟩
    · obtain ⟨rfl, hi, hy⟩ := hy
      obtain ⟨ws, h5, h6⟩ := lst_stays h2 dv1 ev e2 rp2 hg
      obtain ⟨d2, h7, h8⟩ := h6.getV (hy ws h5)
      exact ⟨F2, d2, Same.refl _, rp2, h7, h8⟩
/-- a module's whole number -/
theorem de_gint {i : Int} (hm : ∃ t, X.mg x = some (.int i t)) (hg : Gl X x := by rfl) (hdb : (x == ("__debug__" : Str)) = false := by decide) : DE X TS W (.Name x pos) (dC (.int i)) := by
  obtain ⟨t, h⟩ := hm
  exact de_glob (v := .int i) hg h ⟨t, rfl⟩ (fun _ => rfl) hdb

/-! ### sorted(whole numbers) -/
def insI (n : Int) : List Int → List Int
  | [] => [n]
  | m :: r => if n ≤ m then n :: m :: r else m :: insI n r
def sortI : List Int → List Int
  | [] => []
  | n :: r => insI n (sortI r)
theorem insI_perm (n : Int) : ∀ l : List Int, (insI n l).Perm (n :: l)
  | [] => .refl _
  | m :: r => by
    unfold insI
    split
    · exact .refl _
    · exact ((insI_perm n r).cons m).trans (.swap n m r)
theorem sortI_perm : ∀ l : List Int, (sortI l).Perm l
  | [] => .refl _
  | n :: r => (insI_perm n _).trans ((sortI_perm r).cons n)
theorem insI_sorted (n : Int) : ∀ {l : List Int}, l.Pairwise (· ≤ ·) → (insI n l).Pairwise (· ≤ ·)
  | [], _ => List.pairwise_singleton _ _
  | m :: r, h => by
    unfold insI
    obtain ⟨h1, h2⟩ := List.pairwise_cons.mp h
    split
    · rename_i hn
      exact List.pairwise_cons.mpr ⟨fun a ha => (List.mem_cons.mp ha).elim (fun e => e ▸ hn) fun q => Int.le_trans hn (h1 a q), h⟩
    · rename_i hn
      refine List.pairwise_cons.mpr ⟨fun a ha => ?_, insI_sorted n h2⟩
      rcases List.mem_cons.mp ((insI_perm n r).mem_iff.mp ha) with e | q
      · rw [e]; omega
      · exact h1 a q
theorem sortI_sorted : ∀ l : List Int, (sortI l).Pairwise (· ≤ ·)
  | [] => .nil
  | n :: r => insI_sorted n (sortI_sorted r)
theorem sorted_eq {l m : List Int} (h : l.Perm m) (a : l.Pairwise (· ≤ ·)) : l = sortI m :=
  (h.trans (sortI_perm m).symm).eq_of_pairwise (le := (· ≤ ·)) (fun _ _ _ _ h1 h2 => Int.le_antisymm h1 h2) a (sortI_sorted m)
def gSorted : GA := fun ds B q => match ds with
  | [d] => ∃ ns : List Int, lstOf B d = some (ns.map .int) ∧ q (.lst ((sortI ns).map .int)) B
  | _ => False
theorem bd_sorted : BltD X TS (.builtin "sorted") gSorted := ⟨_, cr_sortedI, fun F H B R ds vs q Q rp dv h hq => by
  unfold gSorted at h
  split at h
  · obtain ⟨v, e, h1⟩ := dv.one
    subst e
    obtain ⟨ns, hb, h⟩ := h
    obtain ⟨a, vs, rfl, h2, h3⟩ := lst_of rp hb h1
    rw [h2.ints] at h3
    exact ⟨a, ns, rfl, h3, fun ns' p hp hs hH => by
      rw [sorted_eq hp hs]
      exact new_lst rp hq h (Dvs.ofInts _) hH⟩
  · exact h.elim⟩
end
end DL
set_option Elab.async false
set_option linter.all false
set_option maxRecDepth 100000
set_option maxHeartbeats 2000000
/-! DL9: the head's facts in one bundle; defs by them; calls of them. -/
namespace DL
open PySem PySem.Spec PyProof.Rows L2

/-- where the tables stand -/
def tsOf (tf : List He.Defn) (K : PySem.W.Frag) : List Addr := tf.map fun p => (He.cT K p).2
/-- what is known of the module -/
structure Mo (fa : List He.Fa) (fn : List He.DefD) (tf tl : List He.Defn) (K : PySem.W.Frag) (mg : Str → Option Value) (base : Heap) : Prop where
  c : He.SaysD fa fn K
  X : K.In base
  G : base.Ns mainGlobals mg
  T : ∀ p ∈ tf, LamX.TabB base mg (He.cT K p).1 (He.cT K p).2
  /-- the tables of the defs with lambdas -/
  L : ∀ p ∈ tl, LamX.TabB base mg (He.cT K p).1 (He.cT K p).2
section
variable {fa : List He.Fa} {fn : List He.DefD} {tf tl : List He.Defn} {P : Program} {w : World} {K : PySem.W.Frag} {mg : Str → Option Value} {base : Heap}
theorem Mo.fr (E : Mo fa fn tf tl K mg base) (x : Str) (h : He.Fa.free x ∈ fa) : mg x = none := He.free_ok E.X E.G (E.c.facts h)
theorem Mo.int (E : Mo fa fn tf tl K mg base) (x : Str) (i : Int) (h : He.Fa.int x i ∈ fa) : ∃ t, mg x = some (.int i t) := He.int_ok E.X E.G (E.c.facts h)
theorem Mo.tab (E : Mo fa fn tf tl K mg base) {p : He.Defn} (h : p ∈ tf) : LamX.TabB base mg (He.codeOf K p) (He.tabOf K (He.codeOf K p)) := E.T p h
theorem Mo.mem {p : He.Defn} (h : p ∈ tf) : He.tabOf K (He.codeOf K p) ∈ tsOf tf K := List.mem_map.mpr ⟨p, h, rfl⟩
/-- an own error class -/
theorem Mo.exc (E : Mo fa fn tf tl K mg base) {X : Cx} (x : Str) (h : He.Fa.exc x ∈ fa) (h2 : He.Fa.glo x ∈ fa) (eK : X.K = K := by rfl) (em : X.mg = mg := by rfl) : ExcC X x (He.ga K x) := by
  obtain ⟨a, b, c, d⟩ := He.exc_ok (E.c.facts h)
  subst eK em
  exact ⟨a, He.glo_ok E.X E.G (E.c.facts h2), b, c, d⟩

/-- a def that keeps its promise, under its name -/
structure FnA (P : Program) (w : World) (K : PySem.W.Frag) (mg : Str → Option Value) (base : Heap) (TS : List Addr) (x : Str) (ps : List Str) (k : Nat) (sp : SpD) : Prop where
  ok : ∃ (f : Addr) (fd : FuncData), FnD P w K mg base TS k f fd ps sp ∧ mg x = some (.ref f) ∧ PySem.W.keepIn K (.ref f) = true ∧ Binds K fd ps []
theorem FnA.imp {TS : List Addr} {x : Str} {ps : List Str} {k : Nat} {sp sp' : SpD} (G : FnA P w K mg base TS x ps k sp) (h : ∀ ds B q x, sp' ds B q x → sp ds B q x) : FnA P w K mg base TS x ps k sp' := by
  obtain ⟨f, fd, h1, h2⟩ := G.ok
  exact ⟨f, fd, h1.imp h, h2⟩
/-- the body's surroundings -/
abbrev bodyX (P : Program) (w : World) (K : PySem.W.Frag) (mg : Str → Option Value) (base : Heap) (N : List Str) (qual : Str) (scope : Scope) (f c : Addr) (A : Around) (outer : List Env) (s : Shared) (H : Hp) (E : XK) : Cx :=
  cxOf (L2.CX P w) P w K mg base N qual scope f (.ref c) A outer s H E
/-- what is known within a def's body -/
structure InBody (X : Cx) (W : WX) (k : Nat) : Prop where
  room : Room k X.A
  tk : Takes X W
  po : PassesOwn (model X.prog X.w) X.A X.env X.xe
/-- THE RULE for a def of the module, without defaults -/
theorem okA (E : Mo fa fn tf tl K mg base) {d : He.DefD} {x : Str} {N ps : List Str} {k : Nat} {sp : SpD} (hd : d ∈ fn) (hat : d.at_ = (x, none)) (hdf : d.dfl = []) (hg : He.Fa.glo x ∈ fa) (S : FnScope N ps d.scope)
    (hbn : ∀ (kV doc pm : Value) (an : Option Addr) (cdv ct : Value) (us : List Value), us.length = ps.length → bindArgs (PySem.W.fnOf d.name d.qual d.params d.body d.scope .none kV doc pm an cdv ct) ⟨us, []⟩ = pure (ps.zip us))
    (len : ∀ ds B q x, sp ds B q x → ds.length = ps.length)
    (hbody : ∀ (f : Addr) (A : Around) (outer : List Env) (s : Shared) (H : Hp) (Ex : XK), InBody (bodyX P w K mg base N d.qual d.scope f (He.codeOf K (x, none)) A outer s H Ex) (wE Ex) k →
      ∃ t, DSs (bodyX P w K mg base N d.qual d.scope f (He.codeOf K (x, none)) A outer s H Ex) (tsOf tf K) (wE Ex) d.body t ∧
        ∀ ds B q x, sp ds B q x → t { nx := fun _ B' => ∃ B'', Few B'' B' ∧ q .non B'', rt := fun d B' => ∃ B'', Few B'' B' ∧ q d B'', ex := fun _ C B' => ∃ B'', Few B'' B' ∧ x C B'' } (startD N ds) B) :
    FnA P w K mg base (tsOf tf K) x ps (k + 1) sp := by
  obtain ⟨fd, F⟩ := E.c.defs hd
  have hD : d.dvs K = [] := by unfold He.DefD.dvs; rw [hdf]; rfl
  rw [hD] at F
  have eA : He.fAd K d.at_ = He.ga K x := by rw [hat]; rfl
  refine ⟨He.fAd K d.at_, fd, ?_, by rw [eA]; exact He.glo_ok E.X E.G (E.c.facts hg), F.kp, F.bindsN hbn⟩
  obtain ⟨oc, od, dV, kV, doc, pm, an, cdv, ct, osl, rfl, lk, hcd, _, _⟩ := F.ex
  obtain ⟨c, ec⟩ := He.codeIn_ref hcd
  subst ec
  have e1 : He.codeOf K (x, none) = c := by
    rw [← hat]
    exact He.codeOf_eq lk rfl
  subst e1
  have hpl : ps.length ≤ N.length := by have := congrArg List.length S.pre; rw [List.length_take] at this; omega
  refine fn_of lk hcd S (fun vs H Q E ⟨F, ds, B, R, q, x, h1, h2, h3, h4, h5⟩ => by rw [h1.length]; exact len ds B q x h3) fun A outer s H vs Q Ex hr hsp => ?_
  obtain ⟨F', ds, B, R, q, xx, h1, h2, h3, h4, h5⟩ := hsp
  obtain ⟨t, ht, hq⟩ := hbody _ A outer s H Ex ⟨hr, takes_of rfl rfl rfl rfl, passes_of rfl⟩
  refine ⟨_, ht, F', startD N ds, B, R, _, slots_start h1 (by rw [h1.length, len ds B q xx h3]; exact hpl), h2, hq ds B q xx h3, ?_⟩
  refine ⟨fun Γ' B' F' σ' H' hn e s' rp => ?_, fun d B' F' H' v hn e rp dv => ?_, fun _ _ _ _ _ z => z.elim, fun _ _ _ _ _ z => z.elim, fun σ' Γ' F' e s' C B' F2 H2 hn e2 rp => ?_⟩
  · obtain ⟨B'', hf, hn⟩ := hn
    exact h4 _ _ _ _ _ hn e (rp.few hf) rfl
  · obtain ⟨B'', hf, hn⟩ := hn
    exact h4 _ _ _ _ _ hn e (rp.few hf) dv
  · obtain ⟨B'', hf, hn⟩ := hn
    exact h5 _ _ _ _ hn (e.trans e2) (rp.few hf)
end
section
variable {X : Cx} {TS : List Addr} {W : WX} {pos p apos : Pos} {e : Expr} {es : List Expr} {tl : DTA} {k : Nat} {ps : List Str} {sp : SpD} {x : Str}
theorem de_callA (G : FnA X.prog X.w X.K X.mg X.base TS x ps k sp) (hr : Room k X.A) (tk : Takes X W) (ha : DA X TS W (e :: es) tl) (hg : Gl X x := by rfl) (hdb : (x == ("__debug__" : Str)) = false := by decide)
    (he : starEach (e :: es) X.env = (false, eval e X.env) :: starEach es X.env := by rfl) (hpl : (backTo pos (starEach es X.env)).any (·.1) = false := by rfl) :
    DE X TS W (.Call (.Name x p) (e :: es) [] pos) (dCall sp tl) :=
  let ⟨_, _, h1, h2, h3, h4⟩ := G.ok; de_call h1 hr hg h2 h3 h4 tk ha hdb he hpl
theorem de_callA0 (G : FnA X.prog X.w X.K X.mg X.base TS x ps k sp) (hr : Room k X.A) (tk : Takes X W) (hg : Gl X x := by rfl) (hdb : (x == ("__debug__" : Str)) = false := by decide) :
    DE X TS W (.Call (.Name x p) [] [] pos) (dCall sp dNil) :=
  let ⟨_, _, h1, h2, h3, h4⟩ := G.ok; de_call0 h1 hr hg h2 h3 h4 tk hdb
end
end DL
set_option Elab.async false
set_option linter.all false
set_option maxRecDepth 100000
set_option maxHeartbeats 2000000
/-! DL10: short names for printed terms; answers. -/
namespace DL
open PySem PySem.Spec PyProof.Rows L2
abbrev gSub : G2 := gI fun i j => .int (i - j)
abbrev gDiv : G2 := gIC CDiv fun i j => .int (i / j)
abbrev gMod : G2 := gIC (fun _ j => 0 < j) fun i j => .int (i % j)
abbrev gPow : G2 := gIC CPow fun i j => .int (i ^ j.toNat)
abbrev gShl : G2 := gIC CPow fun i j => .int (i * 2 ^ j.toNat)
abbrev gXor : G2 := gI fun i j => .int (Builtin.bitXor i j)
abbrev gAddI : G2 := gI fun i j => .int (i + j)
abbrev gLt : G2 := gI fun i j => .bl (decide (i < j))
abbrev gLe : G2 := gI fun i j => .bl (decide (i ≤ j))
abbrev gGt : G2 := gI fun i j => .bl (decide (j < i))
abbrev gGe : G2 := gI fun i j => .bl (decide (j ≤ i))
abbrev gNegU : G1 := gU fun i => .int (-i)
abbrev hLt : H2 := DL.rI fun i j => decide (i < j)
abbrev hLe : H2 := DL.rI fun i j => decide (i ≤ j)
abbrev hGt : H2 := DL.rI fun i j => decide (j < i)
abbrev hGe : H2 := DL.rI fun i j => decide (j ≤ i)
abbrev hEq : H2 := DL.rI fun i j => decide (i = j)
abbrev gMax2 : GA := gMM fun i j => if j > i then j else i
abbrev gMin2 : GA := gMM fun i j => if j < i then j else i
def hEnd : DTGs := fun ds Γ B q => match ds with | [] => q Γ B | _ => False
theorem dgs_end {X : Cx} {TS : List Addr} : DGs X TS [] hEnd := dgs_nil
theorem lenIs_end : lenIs hEnd 0 := lenIs_nil
theorem mem_ix {α : Type} {l : List α} {a : α} (i : Nat) (h : l[i]? = some a) : a ∈ l := List.mem_of_getElem? h
theorem nodot {N : List Str} (h : (".0" : Str) ∉ N) : ∀ l : Nat, N[l]? ≠ some (".0" : Str) := fun l e => h (List.mem_of_getElem? e)
def blkB (N : List Str) (sc scope : Scope) (own : List (Str × Nat)) : Bool :=
  decide (scope.kind = .function) && (scope.names.all fun y => decide (scope.names.lookup y.1 = some y.2)) && (own.all fun p => decide (N[p.2]? = some p.1)) &&
    (scope.names.all fun y => !decide (y.2 = .free) || (decide (sc.names.lookup y.1 = some .cell) || decide (sc.names.lookup y.1 = some .free))) &&
    (scope.names.all fun y => !(decide (y.2 = .local) || decide (y.2 = .cell)) || (decide (y.1 ∈ own.map (·.1)) || !decide (y.1 ∈ N)))
theorem blk_by {N : List Str} {sc scope : Scope} {own : List (Str × Nat)} (h : blkB N sc scope own = true) : BlkOk N sc scope own := by
  unfold blkB at h
  simp only [Bool.and_eq_true, Bool.or_eq_true, Bool.not_eq_true', decide_eq_true_eq, decide_eq_false_iff_not, List.all_eq_true] at h
  obtain ⟨⟨⟨⟨h1, h2⟩, h3⟩, h4⟩, h5⟩ := h
  refine ⟨h1, h2, h3, fun y hy e => ?_, fun y hy e => ?_⟩
  · rcases h4 y hy with z | z
    · exact absurd e z
    · exact z
  · rcases h5 y hy with z | z
    · simp only [Bool.or_eq_false_iff, decide_eq_false_iff_not] at z
      rcases e with e | e
      · exact absurd e z.1
      · exact absurd e z.2
    · exact z
section
variable {X : Cx} {W : WX} {k : Nat}
theorem InBody.u1 (I : InBody X W k) : X.A.units + 1 < cLine := by have := I.room.un; omega
theorem InBody.u64 (I : InBody X W k) : X.A.units + 64 < cLine := by have := I.room.un; omega
theorem InBody.rm (I : InBody X W k) {j : Nat} (h : j ≤ k) : Room j X.A := I.room.mono h
end
/-! ### answers -/
theorem ite_of {b : Bool} {p q : Prop} (h1 : b = true → p) (h2 : b = false → q) : if b = true then p else q := by
  cases b with
  | true => exact iteT (h1 rfl)
  | false => exact iteF (h2 rfl)
/-- by a comparison -/
theorem ite_dec {c p q : Prop} [Decidable c] (h1 : c → p) (h2 : ¬ c → q) : if decide c = true then p else q :=
  ite_of (fun h => h1 (of_decide_eq_true h)) fun h => h2 (of_decide_eq_false h)

/-! ### t[::2] -/
def evens {α : Type} : List α → List α
  | [] => []
  | [a] => [a]
  | a :: _ :: r => a :: evens r
theorem evens_length {α : Type} : ∀ xs : List α, (evens xs).length ≤ xs.length
  | [] => Nat.le_refl _
  | [_] => Nat.le_refl _
  | _ :: _ :: r => by show (evens r).length + 1 ≤ r.length + 1 + 1; have := evens_length r; omega
theorem evens_pick {α : Type} : ∀ xs : List α, (List.range ((xs.length + 1) / 2)).filterMap (fun m => xs[2 * m]?) = evens xs
  | [] => by simp [evens]
  | [a] => by simp [evens, List.range_succ]
  | a :: b :: r => by
    have e : ((a :: b :: r).length + 1) / 2 = (r.length + 1) / 2 + 1 := by simp; omega
    rw [e, List.range_succ_eq_map, List.filterMap_cons]
    show a :: List.filterMap _ (List.map Nat.succ _) = a :: evens r
    rw [List.filterMap_map, ← evens_pick r]
    congr 1
theorem Dvs.evens {K : PySem.W.Frag} {F : Hp} : ∀ {ds : List D} {vs : List V}, Dvs K F ds vs → Dvs K F (DL.evens ds) (DL.evens vs)
  | [], _, h => by cases h; rfl
  | [_], _, ⟨v, vs, e, h1, h2⟩ => by cases h2; subst e; exact ⟨v, [], rfl, h1, rfl⟩
  | _ :: _ :: r, _, ⟨v, vs, e, h1, u, us, e2, h2, h3⟩ => by subst e2; subst e; exact ⟨v, _, rfl, h1, h3.evens⟩
theorem vals_evens : ∀ {vs : List V} {us : List Value}, Vals vs us → Vals (evens vs) (evens us)
  | _, _, .nil => .nil
  | _, _, .cons h .nil => .cons h .nil
  | _, _, .cons h (.cons _ t) => .cons h (vals_evens t)
section
variable {prog : Program} {w : World} {A : Around} {E : Value → Shared → Prop} {s : Shared}
theorem getItem_tuple_step2 {t sl : Addr} {items : Array Value} {tk : Tok} {Q : Value → Shared → Prop} (ht : IsTup s.heap t items) (hs : s.heap.IsSliceOf sl .none .none (.int 2 tk))
    (h : Q (.ref s.heap.objs.size) { s with heap := s.heap.push { cls := .type "tuple", data := .seq (evens items.toList).toArray } })
    (hsz : items.size ≤ sizeLine) : wpAny (model prog w) A (getItem (.ref t) (.ref sl)) Q E s := by
  have htake : PySem.sizeOk (.seq (evens items.toList).toArray) := by
    show (evens items.toList).toArray.size ≤ sizeLine
    rw [List.size_toArray]
    exact Nat.le_trans (evens_length _) (by rw [Array.length_toList]; exact hsz)
  obtain ⟨os, hos, hcs, hds⟩ := id hs
  have hTs : s.TypeIs (.ref sl) "slice" := ⟨os, hos, hcs⟩
  unfold getItem
  try with_reducible refine wpAny_holding ?_
  first | refine wpAny_bind (wpAny_pure ?_) | skip
  refine wpAny_bind (wpAny_sequenceKey ht.typeIs (by decide) ?_)
  refine wpAny_bind (wpAny_callSpecial?_slot (name := Str.ofString "__getitem__") ht.typeIs PyProof.Rows.slot_tuple_getitem
    (wpAny_call_entry PyProof.Rows.slot_tuple_getitem ht.typeIs PyProof.Rows.entry_tuple_getitem ?_ (PyProof.Rows.args_tuple_getitem _ _)))
  show wpAny _ _ (Builtin.Tuple.tupleItemsOf (.ref t) >>= _) _ _ s
  refine wpAny_bind (tupleItemsOf_ ht ?_)
  refine wpAny_bind (wpAny_typeOf hTs ?_)
  rw [if_pos (by decide)]
  have ap : ∀ {A : Around} {E : Value → Shared → Prop} {Q : Int × Int × Nat → Shared → Prop}, Q (0, 2, (items.size + 1) / 2) s → wpAny (model prog w) A (Builtin.Slice.sliceApplied (.ref sl) (pure (items.size : Int))) Q E s := fun {A E Q} h => by
    unfold Builtin.Slice.sliceApplied Builtin.Slice.sliceFields
    refine wpAny_bind (wpAny_bind (wpAny_field hos hds (x := .none) rfl (wpAny_bind (wpAny_field hos hds (x := .none) rfl (wpAny_bind (wpAny_field hos hds (x := .int 2 tk) rfl (wpAny_pure ?_)))))))
    refine wpAny_bind (HT.slicePart_ (.int 2 tk) ?_)
    show wpAny _ _ (if ((2 : Int) == 0) = true then _ else _) _ _ s
    rw [if_neg (by decide)]
    refine wpAny_bind (HT.slicePart_ .none (wpAny_bind (HT.slicePart_ .none (wpAny_bind (wpAny_pure ?_)))))
    show wpAny _ _ (pure ((0 : Int), (2 : Int), Builtin.Slice.slicePlaces 0 (items.size : Int) 2)) _ _ s
    have e : Builtin.Slice.slicePlaces 0 (items.size : Int) 2 = (items.size + 1) / 2 := by
      unfold Builtin.Slice.slicePlaces
      rw [if_pos (by decide)]
      split
      · omega
      · have : items.size = 0 := by omega
        rw [this]; rfl
    rw [e]
    exact wpAny_pure h
  refine wpAny_bind (ap ?_)
  show wpAny _ _ (if (((0 : Int)) == 0 && (2 : Int) == 1 && ((items.size + 1) / 2) == items.size) = true then _ else _) _ _ s
  rw [if_neg (by simp)]
  have e : ((List.range ((items.size + 1) / 2)).filterMap fun (m : Nat) => items[((0 : Int) + (m : Int) * 2).toNat]?).toArray = (evens items.toList).toArray := by
    rw [← evens_pick items.toList, Array.length_toList]
    congr 1
    congr 1
    funext m
    have : ((0 : Int) + (m : Int) * 2).toNat = 2 * m := by omega
    rw [this, Array.getElem?_toList]
  rw [e]
  first
    | exact wpAny_bind (m := Builtin.Tuple.tupleExact _) (wpAny_newObj_type (wpAny_pure ⟨_, rfl, wpAny_pure h⟩) htake)
    | exact wpAny_bind (m := Builtin.Tuple.tupleExact _) (wpAny_newObj_type (wpAny_bind (wpAny_pure (wpAny_pure ⟨_, rfl, wpAny_pure h⟩))) htake)
    | exact wpAny_bind (wpAny_bind (m := Builtin.Tuple.tupleExact _) (wpAny_newObj_type (wpAny_pure (wpAny_pure ⟨_, rfl, wpAny_pure h⟩)) htake))
    | exact wpAny_bind (wpAny_bind (m := Builtin.Tuple.tupleExact _) (wpAny_newObj_type (wpAny_pure ⟨_, rfl, wpAny_pure h⟩) htake))
end
section
variable {X : Cx} {TS : List Addr} {W : WX} {e : Expr} {te : DTE}
def tStep2 (K : PySem.W.Frag) (te : TE) : TE := fun σ H Q => te σ H fun x H1 => ∃ a xs, x = .ref a ∧ SqT K H1 a xs ∧ ∀ p, H1 p = none → Q (.ref p) (upd H1 p (.tup (evens xs)))
theorem pe_step2 {te : TE} {k : Nat} {p1 p3 pos : Pos} (he : PE X e te) : PE X (.Subscript e (.Slice none none (some (.Constant (.int 2) k p1)) p3) pos) (tStep2 X.K te) := by
  refine ⟨fun pins s σ H Q I h => ?_⟩
  refine Subscript_ (thn (he.run pins s σ H _ I h) fun v s1 ⟨x, H1, I1, r1, q1⟩ => ?_)
  obtain ⟨a, xs, ex, hx, q⟩ := q1
  subst ex
  cases r1
  have hst : PO X (some (.Constant (.int 2) k p1)) (tPart (tC (.int 2))) := po_some pe_int
  refine wpAny_Slice (thn (po_none.run pins s1 σ H1 (fun o H2 => o = none ∧ H2 = H1) I1 ⟨rfl, rfl⟩) fun vl s2 ⟨l, H2, I2, pl, el, e2⟩ => ?_)
  subst el e2
  refine thn (po_none.run pins s2 σ H2 (fun o H3 => o = none ∧ H3 = H2) I2 ⟨rfl, rfl⟩) fun vu s3 ⟨u, H3, I3, pu, eu, e3⟩ => ?_
  subst eu e3
  refine thn (hst.run pins s3 σ H3 (fun o H4 => o = some 2 ∧ H4 = H3) I3 ⟨2, rfl, rfl, rfl⟩) fun vs s4 ⟨o, H4, I4, ps, eo, e4⟩ => ?_
  subst eo e4
  have I5 : Inv X pins σ H4 { s4 with heap := s4.heap.push { cls := .type "slice", data := .fields #[vl, vu, vs] } } := I4.kept (t' := s4.toks) fun b ob q => Heap.get?_push_of_some _ q
  obtain ⟨its, r, ht, hz⟩ := I5.tuple hx
  have hlen := r.length
  cases pl
  cases pu
  cases ps
  show wpAny (model X.prog X.w) X.A (subscriptTail e (.Slice none none (some (.Constant (.int 2) k p1)) p3) (.ref a) (.ref s4.heap.objs.size)) (EP X pins σ Q) X.xe _
  refine tail_any (ops := [.ref a, .ref s4.heap.objs.size]) ht.typeIs (PyProof.Rows.slot_tuple_getitem.lookup) ?_ (by with_unfolding_all rfl)
  refine getItem_tuple_step2 ht (Heap.IsSliceOf.new _ .none .none _) ?_ (by rw [List.size_toArray]; omega)
  refine ⟨.ref _, _, I5.laid (t' := s4.toks) (o := .tup (evens xs)) (fun b ob q => Heap.get?_push_of_some _ q) (Nat.le_refl _) ?_, rfl, q _ (I5.hok.fresh (Nat.le_refl _))⟩
  exact ⟨Nat.le_trans (evens_length xs) hz, _, vals_evens r, IsTup.new _ _⟩
def dStep2 (te : DTE) : DTE := fun Γ B q x => te Γ B (fun d B1 => ∃ xs, tupOf d = some xs ∧ q (.tup (evens xs)) B1) x
theorem de_step2 {k : Nat} {p1 p3 pos : Pos} (he : DE X TS W e te) : DE X TS W (.Subscript e (.Slice none none (some (.Constant (.int 2) k p1)) p3) pos) (dStep2 te) := PE_imp (pe_step2 he) fun σ H Q ⟨F, Γ, B, R, q, x, s, rp, hu, hq, hx⟩ =>
  ⟨F, Γ, B, R, _, x, s, rp, hu, fun d B1 F1 H1 v h1 e1 rp1 dv1 => by
    obtain ⟨xs, h2, h3⟩ := h1
    obtain ⟨a, vs, ev, h4, h5⟩ := tup_of rp1 h2 dv1
    exact ⟨a, vs, ev, h5, fun p hp => new_tup rp1 (hq.mono e1) h3 h4.evens hp⟩, hx⟩
end
theorem pg_own2 {X : Cx} {i j : Nat} {x y : Str} {px py p : Pos} {kt : Nat} (hc : X.calm = true) (hN : X.N.Nodup) (hi : X.N[i]? = some x) (hj : X.N[j]? = some y) (hx : Loc X.env.scope x) (hy : Loc X.env.scope y) (hf : X.fn x = true ∨ X.env.scope.names.lookup x = some .local) (hf' : X.fn y = true ∨ X.env.scope.names.lookup y = some .local)
    (hn : (assignEach [.Name x px, .Name y py] X.env).length = 2 := by rfl) (hst : (assignEach [.Name x px, .Name y py] X.env).findIdx? (·.1) = none := by rfl)
    (h1 : (assignEach (Expr.Name x px :: [.Name y py]) X.env).map (·.2) = assign (.Name x px) X.env :: (assignEach [.Name y py] X.env).map (·.2) := by rfl) (h2 : (assignEach (Expr.Name y py :: []) X.env).map (·.2) = assign (.Name y py) X.env :: (assignEach [] X.env).map (·.2) := by rfl) :
    PG X (.Tuple [.Name x px, .Name y py] kt p) (gPair X.K i j) := pg_tup hc (pgs_cons (pg_name hN hi hx hf) (pgs_cons (pg_name hN hj hy hf') pgs_nil h2) h1) hn hst
end DL
set_option Elab.async false
set_option linter.all false
set_option maxRecDepth 100000
set_option maxHeartbeats 2000000
/-! DL11: to answer readings. -/
namespace DL
open PySem PySem.Spec PyProof.Rows L2

/-- a def's end -/
def endsD (q : DK) (x : XD) : DEnds := { nx := fun _ B' => ∃ B'', Few B'' B' ∧ q .non B'', rt := fun d B' => ∃ B'', Few B'' B' ∧ q d B'', ex := fun _ C B' => ∃ B'', Few B'' B' ∧ x C B'' }
theorem endsD_nx {q : DK} {x : XD} {Γ : Gm} {B B' : Bx} (f : Few B' B) (h : q .non B') : (endsD q x).nx Γ B := ⟨B', f, h⟩
theorem endsD_rt {q : DK} {x : XD} {d : D} {B B' : Bx} (f : Few B' B) (h : q d B') : (endsD q x).rt d B := ⟨B', f, h⟩
theorem endsD_ex {q : DK} {x : XD} {Γ : Gm} {C : Addr} {B B' : Bx} (f : Few B' B) (h : x C B') : (endsD q x).ex Γ C B := ⟨B', f, h⟩
section
variable {gd : Gd} {g : DTG} {tb : DTS} {E : DEnds} {tt : DTT} {te : DTE} {Γ : Gm} {B : Bx} {q : List D → Bx → Prop}
theorem guard_of {P : Prop} (h1 : ∀ f, gd = some f → f B) (h2 : P) : guard gd B P := by
  cases gd with
  | none => exact h2
  | some f => exact ⟨h1 f rfl, h2⟩
/-- a loop by an invariant on what is left, the names, the boxes -/
theorem for_by (Iv : List D → Gm → Bx → Prop) {ds : List D} (h0 : Iv ds Γ B) (hg : ∀ r Γ B, Iv r Γ B → ∀ f, gd = some f → f B) (hn : ∀ Γ B, Iv [] Γ B → E.nx Γ B)
    (hs : ∀ d r Γ B (K : Gm → Bx → Prop), Iv (d :: r) Γ B → (∀ Γ B, Iv r Γ B → K Γ B) → g d Γ B fun Γ1 B1 => tb { E with nx := K, ct := K, bk := E.nx } Γ1 B1) : forK gd g tb E ds Γ B := by
  induction ds generalizing Γ B with
  | nil => exact guard_of (hg _ _ _ h0) (hn _ _ h0)
  | cons d r ih => exact guard_of (hg _ _ _ h0) (hs d r Γ B _ h0 fun Γ B h => ih h)
/-- .. a comprehension -/
theorem lc_by (Iv : List D → List D → Bx → Prop) {ds acc : List D} (h0 : Iv ds acc B) (hg : ∀ r acc B, Iv r acc B → ∀ f, gd = some f → f B) (hn : ∀ acc B, Iv [] acc B → q acc B)
    (hs : ∀ d r acc B (K : List D → Bx → Prop), Iv (d :: r) acc B → (∀ acc B, Iv r acc B → K acc B) → g d Γ B fun Γ1 B1 => tt Γ1 B1 (fun b B2 => if b = true then te Γ1 B2 (fun y B3 => K (acc ++ [y]) B3) noX else K acc B2) noX) :
    lcK gd g tt te Γ q ds acc B := by
  induction ds generalizing acc B with
  | nil => exact guard_of (hg _ _ _ h0) (hn _ _ h0)
  | cons d r ih =>
    unfold lcK
    exact guard_of (hg _ _ _ h0) (hs d r acc B (fun acc B => lcK gd g tt te Γ q r acc B) h0 fun acc B h => ih h)
end
/-- a list's guard holds while the box stands -/
theorem lstGd_at {B : Bx} {d : D} {xs : List D} (h : lstOf B d = some xs) : ∀ f, lstGd d xs = some f → f B := fun f e => by
  unfold lstGd at e
  split at e
  · cases e
    unfold lstOf at h
    dsimp only at h
    split at h
    · cases h; assumption
    · cases h
  · cases e
theorem lstGd_few {B : Bx} {d : D} {xs : List D} (h : lstOf B d = some xs) : ∀ B', Few B B' → ∀ f, lstGd d xs = some f → f B' := fun B' hf f e => by
  have h0 := lstGd_at h f e
  unfold lstGd at e
  split at e
  · cases e
    exact hf _ _ h0
  · cases e
theorem gLen_seq {B : Bx} {d : D} {xs : List D} {q : DK} (h : seqOf B d = some xs) (hq : q (.int xs.length) B) : gLen [d] B q := by
  unfold gLen
  cases d with
  | ref a =>
    unfold seqOf at h
    dsimp only at h
    split at h
    · rename_i ys hb
      cases h
      exact .inl ⟨_, hb, hq⟩
    · cases h
  | str x => cases h
  | non => cases h
  | bl b => cases h
  | int i => cases h
  | ty n => cases h
  | obj φ => cases h
  | lst ys => exact ⟨_, h, hq⟩
  | tup ys => exact ⟨_, h, hq⟩
  | rol ys => exact ⟨_, h, hq⟩
  | rot ys => exact ⟨_, h, hq⟩
theorem seqOf_few {B0 B : Bx} {d : D} {xs : List D} (h : seqOf B0 d = some xs) (hf : Few B0 B) : seqOf B d = some xs := by
  cases d with
  | ref a =>
    unfold seqOf at h ⊢
    dsimp only at h ⊢
    split at h
    · rename_i ys hb
      rw [hf _ _ hb]
      exact h
    · cases h
  | _ => exact h
/-- a walk over what has the items xs -/
theorem iSq_of {B0 B : Bx} {d : D} {xs : List D} {q : List D → Gd → Bx → Prop} (h : seqOf B0 d = some xs) (hf : Few B0 B) (hq : ∀ gd, (∀ B', Few B0 B' → ∀ f, gd = some f → f B') → q xs gd B) : iSq d B q := by
  have none_ok : q xs none B := hq none (fun _ _ f e => by cases e)
  have h1 := seqOf_few h hf
  unfold iSq
  cases d with
  | tup ys => cases h; exact none_ok
  | rot ys => cases h; exact none_ok
  | lst ys => cases h; exact ⟨_, rfl, none_ok⟩
  | rol ys => cases h; exact ⟨_, rfl, none_ok⟩
  | ref a => exact ⟨xs, h1, hq _ (lstGd_few h)⟩
  | non => cases h
  | bl b => cases h
  | int i => cases h
  | str x => cases h
  | ty n => cases h
  | obj φ => cases h
theorem iEn_of {B0 B : Bx} {d : D} {xs : List D} {q : List D → Gd → Bx → Prop} (h : seqOf B0 d = some xs) (hf : Few B0 B) (hq : ∀ gd, (∀ B', Few B0 B' → ∀ f, gd = some f → f B') → q (enumL 0 xs) gd B) : iEn [d] B q := by
  have none_ok : q (enumL 0 xs) none B := hq none (fun _ _ f e => by cases e)
  have h1 := seqOf_few h hf
  unfold iEn
  cases d with
  | tup ys => cases h; exact none_ok
  | rot ys => cases h; exact none_ok
  | lst ys => cases h; exact ⟨_, rfl, none_ok⟩
  | rol ys => cases h; exact ⟨_, rfl, none_ok⟩
  | ref a => exact ⟨xs, h1, hq _ (lstGd_few h)⟩
  | non => cases h
  | bl b => cases h
  | int i => cases h
  | str x => cases h
  | ty n => cases h
  | obj φ => cases h

theorem seqOf_put {B : Bx} {d : D} {xs : List D} {p : Addr} {b : Box} (h : seqOf B d = some xs) (hp : B p = none) : seqOf (put B p b) d = some xs := by
  cases d with
  | ref a =>
    unfold seqOf at h ⊢
    dsimp only at h ⊢
    split at h
    · rename_i ys hb
      rw [put_ne (ne_box hb hp), hb]
      exact h
    · cases h
  | _ => exact h
theorem lstOf_at {B : Bx} {p : Addr} {xs : List D} (h : B p = some (.lst xs)) : lstOf B (.ref p) = some xs := by
  unfold lstOf
  dsimp only
  rw [h]
theorem seqOf_at {B : Bx} {p : Addr} {xs : List D} (h : B p = some (.lst xs)) : seqOf B (.ref p) = some xs := by
  unfold seqOf
  dsimp only
  rw [h]
theorem le_size {n : Nat} (h : n ≤ 1000000) : n ≤ sizeLine := Nat.le_trans h (by rw [sizeLine_eq]; decide)
theorem lt_size {n : Nat} (h : n < 1000000) : n < sizeLine := Nat.lt_of_lt_of_le h (by rw [sizeLine_eq]; decide)
theorem gTuple_ref {B : Bx} {p : Addr} {xs : List D} {q : DK} (h : B p = some (.lst xs)) (hq : q (.tup xs) B) : gTuple [.ref p] B q := ⟨xs, lstOf_at h, hq⟩
theorem gTuple_seq {B : Bx} {d : D} {xs : List D} {q : DK} (h : seqOf B d = some xs) (hn : ∀ ys, d ≠ .rot ys) (hq : q (.tup xs) B) : gTuple [d] B q := by
  unfold gTuple
  cases d with
  | tup ys => cases h; exact hq
  | lst ys => cases h; exact ⟨_, rfl, hq⟩
  | rol ys => cases h; exact ⟨_, rfl, hq⟩
  | rot ys => exact absurd rfl (hn ys)
  | ref a => exact ⟨xs, h, hq⟩
  | non => cases h
  | bl b => cases h
  | int i => cases h
  | str x => cases h
  | ty n => cases h
  | obj φ => cases h
theorem gSl_seq {B : Bx} {d : D} {xs : List D} {lo hi : Option Int} {q : DK} (h : seqOf B d = some xs) (hn : ∀ ys, d ≠ .rot ys) (hq : ∀ e, e = .tup (cutD xs lo hi) ∨ e = .lst (cutD xs lo hi) → q e B) : gSl d lo hi B q := by
  unfold gSl
  cases d with
  | tup ys => cases h; exact hq _ (.inl rfl)
  | lst ys => cases h; exact ⟨_, rfl, hq _ (.inr rfl)⟩
  | rol ys => cases h; exact ⟨_, rfl, hq _ (.inr rfl)⟩
  | rot ys => exact absurd rfl (hn ys)
  | ref a => exact ⟨xs, h, hq _ (.inr rfl)⟩
  | non => cases h
  | bl b => cases h
  | int i => cases h
  | str x => cases h
  | ty n => cases h
  | obj φ => cases h
/-- tuple(d[lo:hi]) -/
theorem gSlT {B : Bx} {d : D} {xs : List D} {lo hi : Option Int} {q : DK} (h : seqOf B d = some xs) (hn : ∀ ys, d ≠ .rot ys) (hq : q (.tup (cutD xs lo hi)) B) : gSl d lo hi B fun d B1 => gTuple [d] B1 q :=
  gSl_seq h hn fun e he => by
    rcases he with rfl | rfl
    · exact hq
    · exact ⟨_, rfl, hq⟩
theorem cutD_take (xs : List D) (i : Nat) : cutD xs none (some (i : Int)) = xs.take i := by
  unfold cutD
  rw [HT.sIx_none, HT.sIx_nat, List.drop_zero, Nat.sub_zero]
  by_cases h : i ≤ xs.length
  · rw [Nat.min_eq_left h]
  · rw [Nat.min_eq_right (by omega), List.take_length, List.take_of_length_le (by omega)]
theorem cutD_drop (xs : List D) (i : Nat) : cutD xs (some (i : Int)) none = xs.drop i := by
  unfold cutD
  rw [HT.sIx_none, HT.sIx_nat]
  by_cases h : i ≤ xs.length
  · rw [Nat.min_eq_left h, List.take_of_length_le (by simp)]
  · rw [Nat.min_eq_right (by omega), List.drop_length, List.drop_of_length_le (by omega), List.take_nil]
theorem here {B : Bx} {p : Bx → Prop} (h : p B) : ∃ B'', Few B'' B ∧ p B'' := ⟨B, Few.refl B, h⟩
theorem ite_ndec {c p q : Prop} [Decidable c] (h1 : ¬ c → p) (h2 : c → q) : if (!decide c) = true then p else q :=
  ite_of (fun h => h1 (of_decide_eq_false (by simpa using h))) fun h => h2 (of_decide_eq_true (by simpa using h))
end DL
set_option Elab.async false
set_option linter.all false
set_option maxRecDepth 100000
set_option maxHeartbeats 2000000
/-! DL12: == upon plain data. -/
namespace DL
open PySem PySem.Spec PyProof.Rows L2

/-- plain: numbers, texts, None, lists and tuples of such, n deep -/
def plD : Nat → D → Bool
  | _, .non => true
  | _, .int _ => true
  | _, .str x => PySem.PyData.canLay0 (.str x)
  | n + 1, .lst xs => xs.all (plD n)
  | n + 1, .tup xs => xs.all (plD n)
  | _, _ => false
theorem toPys_of {P : PyData → Prop} : ∀ {ds : List D}, (∀ d ∈ ds, ∃ p, toPy d = some p ∧ P p) → ∃ ps, toPys ds = some ps ∧ ∀ p ∈ ps, P p
  | [], _ => ⟨[], rfl, fun _ h => by cases h⟩
  | d :: ds, h => by
    obtain ⟨p, h1, h2⟩ := h d List.mem_cons_self
    obtain ⟨ps, h3, h4⟩ := toPys_of (ds := ds) fun e he => h e (List.mem_cons_of_mem _ he)
    refine ⟨p :: ps, ?_, fun r hr => ?_⟩
    · unfold toPys
      rw [h1, h3]
    · rcases List.mem_cons.mp hr with e | hr
      · rw [e]; exact h2
      · exact h4 r hr
theorem lay_all : ∀ {ps : List PyData}, (∀ p ∈ ps, p.canLay0 = true) → PyData.canLayAll0 ps = true
  | [], _ => by simp [PyData.canLayAll0]
  | p :: ps, h => by
    simp only [PyData.canLayAll0, Bool.and_eq_true]
    exact ⟨h p List.mem_cons_self, lay_all fun r hr => h r (List.mem_cons_of_mem _ hr)⟩
theorem depth_all {n : Nat} : ∀ {ps : List PyData}, (∀ p ∈ ps, p.depth ≤ n) → PyData.depthAll ps ≤ n
  | [], _ => by simp [PyData.depthAll]
  | p :: ps, h => by
    simp only [PyData.depthAll]
    have h1 := h p List.mem_cons_self
    have h2 := depth_all (ps := ps) fun r hr => h r (List.mem_cons_of_mem _ hr)
    omega
theorem plD_py : ∀ (n : Nat) (d : D), plD n d = true → ∃ p, toPy d = some p ∧ p.canLay0 = true ∧ p.depth ≤ n := by
  intro n
  induction n with
  | zero =>
    intro d h
    cases d with
    | non => exact ⟨_, rfl, by simp [PyData.canLay0], by simp [PyData.depth]⟩
    | int i => exact ⟨_, rfl, by simp [PyData.canLay0], by simp [PyData.depth]⟩
    | str x => exact ⟨_, rfl, h, by simp [PyData.depth]⟩
    | _ => cases h
  | succ n ih =>
    intro d h
    cases d with
    | non => exact ⟨_, rfl, by simp [PyData.canLay0], by simp [PyData.depth]⟩
    | int i => exact ⟨_, rfl, by simp [PyData.canLay0], by simp [PyData.depth]⟩
    | str x => exact ⟨_, rfl, h, by simp [PyData.depth]⟩
    | lst xs =>
      have h1 : xs.all (plD n) = true := h
      obtain ⟨ps, h2, h3⟩ := toPys_of (P := fun p => p.canLay0 = true ∧ p.depth ≤ n) fun d hd => ih d (List.all_eq_true.mp h1 d hd)
      refine ⟨.list ps, by show (toPys xs).map _ = _; rw [h2]; rfl, ?_, ?_⟩
      · simp only [PyData.canLay0]; exact lay_all fun p hp => (h3 p hp).1
      · simp only [PyData.depth]; have := depth_all fun p hp => (h3 p hp).2; omega
    | tup xs =>
      have h1 : xs.all (plD n) = true := h
      obtain ⟨ps, h2, h3⟩ := toPys_of (P := fun p => p.canLay0 = true ∧ p.depth ≤ n) fun d hd => ih d (List.all_eq_true.mp h1 d hd)
      refine ⟨.tuple ps, by show (toPys xs).map _ = _; rw [h2]; rfl, ?_, ?_⟩
      · simp only [PyData.canLay0]; exact lay_all fun p hp => (h3 p hp).1
      · simp only [PyData.depth]; have := depth_all fun p hp => (h3 p hp).2; omega
    | _ => cases h
theorem eqv_all {n : Nat} (ih : ∀ (d e : D) (p r : PyData), plD n d = true → plD n e = true → toPy d = some p → toPy e = some r → (PyData.eqv p r = true ↔ d = e)) :
    ∀ (ds es : List D) (ps rs : List PyData), (∀ d ∈ ds, plD n d = true) → (∀ d ∈ es, plD n d = true) → toPys ds = some ps → toPys es = some rs → (PyData.eqvAll ps rs = true ↔ ds = es)
  | [], [], _, _, _, _, h1, h2 => by cases h1; cases h2; simp [PyData.eqvAll]
  | [], e :: es, _, _, _, _, h1, h2 => by
    cases h1
    unfold toPys at h2
    split at h2
    · cases h2; simp [PyData.eqvAll]
    · cases h2
  | d :: ds, [], _, _, _, _, h1, h2 => by
    cases h2
    unfold toPys at h1
    split at h1
    · cases h1; simp [PyData.eqvAll]
    · cases h1
  | d :: ds, e :: es, _, _, hd, he, h1, h2 => by
    unfold toPys at h1 h2
    split at h1
    · split at h2
      · cases h1; cases h2
        rename_i _ _ p ps h3 h4 _ _ r rs h5 h6
        have k1 := ih d e _ _ (hd d List.mem_cons_self) (he e List.mem_cons_self) h3 h5
        have k2 := eqv_all ih ds es _ _ (fun d h => hd d (List.mem_cons_of_mem _ h)) (fun d h => he d (List.mem_cons_of_mem _ h)) h4 h6
        simp only [PyData.eqvAll, Bool.and_eq_true, List.cons.injEq]
        rw [k1, k2]
      · cases h2
    · cases h1
theorem plD_eq : ∀ (n : Nat) (d e : D) (p r : PyData), plD n d = true → plD n e = true → toPy d = some p → toPy e = some r → (PyData.eqv p r = true ↔ d = e) := by
  intro n
  induction n with
  | zero =>
    intro d e p r hd he h1 h2
    cases d <;> (first | (cases hd; done) | skip) <;> cases e <;> (first | (cases he; done) | skip) <;> cases h1 <;> cases h2 <;> simp [PyData.eqv]
  | succ n ih =>
    intro d e p r hd he h1 h2
    have L : ∀ {xs ys : List D}, xs.all (plD n) = true → ys.all (plD n) = true → ∀ ps rs, toPys xs = some ps → toPys ys = some rs → (PyData.eqvAll ps rs = true ↔ xs = ys) := fun {xs ys} k1 k2 ps rs k3 k4 =>
      eqv_all ih xs ys ps rs (List.all_eq_true.mp k1) (List.all_eq_true.mp k2) k3 k4
    cases d <;> (first | (cases hd; done) | skip) <;> cases e <;> (first | (cases he; done) | skip) <;>
      (try (obtain ⟨ps, h3, rfl⟩ := Option.map_eq_some_iff.mp h1)) <;> (try (obtain ⟨rs, h4, rfl⟩ := Option.map_eq_some_iff.mp h2)) <;> (try cases h1) <;> (try cases h2) <;>
      first
        | (simp [PyData.eqv]; done)
        | (simp only [PyData.eqv, D.lst.injEq]; exact L hd he _ _ h3 h4)
        | (simp only [PyData.eqv, D.tup.injEq]; exact L hd he _ _ h3 h4)
theorem eqD_pl {n : Nat} (hn : n ≤ 64) {d e : D} (hd : plD n d = true) (he : plD n e = true) : ∃ b, eqD d e = some b ∧ (b = true ↔ d = e) := by
  obtain ⟨p, h1, h2, h3⟩ := plD_py n d hd
  obtain ⟨r, h4, h5, h6⟩ := plD_py n e he
  refine ⟨PyData.eqv p r, ?_, plD_eq n d e p r hd he h1 h4⟩
  unfold eqD
  rw [h1, h4]
  dsimp only
  rw [if_pos]
  unfold SeqAt.shaped
  simp only [Bool.and_eq_true, decide_eq_true_eq]
  exact ⟨⟨h2, by omega⟩, h5, by omega⟩
/-- .. as it is asked -/
theorem eq_pl (n : Nat) {d e : D} {neg : Bool} {B : Bx} {q : DK} (hd : plD n d = true) (he : plD n e = true) (h : ∀ b, (b = true ↔ d = e) → q (.bl (neg ^^ b)) B) (hn : n ≤ 64 := by decide) : ∃ b, eqD d e = some b ∧ q (.bl (neg ^^ b)) B := by
  obtain ⟨b, h1, h2⟩ := eqD_pl hn hd he
  exact ⟨b, h1, h b h2⟩
theorem gIx_at {B : Bx} {a : Addr} {xs : List D} {i : Int} {v : D} {q : DK} (h : B a = some (.lst xs)) (e : atI xs i = some v) (hq : q v B) : gIx (.ref a) (.int i) B q := .inl ⟨xs, h, i, v, rfl, e, hq⟩
theorem gSet_at {B : Bx} {a : Addr} {xs : List D} {i : Int} {j : Nat} {v : D} {q : Bx → Prop} (h : B a = some (.lst xs)) (e : ixN xs.length i = some j) (hq : q (put B a (.lst (xs.set j v)))) : gSet (.ref a) (.int i) v B q := ⟨_, h, i, j, rfl, e, hq⟩
theorem dGet_K {B : Bx} {p : Addr} {kvs : List (Key × D)} {e : D} {k : Key} (h : B p = some (.dK kvs)) (hk : keyD e = some k) : dGet B p e = some (valD kvs k) := by
  unfold dGet
  rw [h]
  show (keyD e).map (valD kvs) = _
  rw [hk]
  rfl
theorem dGet_T {B : Bx} {p : Addr} {kvs : List (List Key × D)} {xs : List D} {k : List Key} (h : B p = some (.dT kvs)) (hk : keysD xs = some k) : dGet B p (.tup xs) = some (valD kvs k) := by
  unfold dGet
  rw [h]
  show (keysD xs).map (valD kvs) = _
  rw [hk]
  rfl
end DL
set_option Elab.async false
set_option linter.all false
set_option maxRecDepth 100000
set_option maxHeartbeats 2000000
/-! DL13: dicts that remember what a function gives; recursion by levels. -/
namespace DL
open PySem PySem.Spec PyProof.Rows L2
def memo (f : List Int → D) (ks : List (List Int)) : List (List Key × D) := ks.map fun k => (k.map Sum.inl, f k)
theorem inl_inj : ∀ {a b : List Int}, a.map (Sum.inl : Int → Key) = b.map Sum.inl → a = b
  | [], [], _ => rfl
  | [], _ :: _, h => by cases h
  | _ :: _, [], h => by cases h
  | a :: as, b :: bs, h => by
    injection h with h1 h2
    injection h1 with h1
    rw [h1, inl_inj h2]
theorem memo_val (f : List Int → D) (k : List Int) : ∀ ks : List (List Int), valD (memo f ks) (k.map Sum.inl) = if k ∈ ks then some (f k) else none
  | [] => rfl
  | j :: ks => by
    show valD ((j.map Sum.inl, f j) :: memo f ks) (k.map Sum.inl) = _
    rw [valD_cons]
    by_cases h : j = k
    · subst h; simp
    · have h2 : ¬ (j.map (Sum.inl : Int → Key) = k.map Sum.inl) := fun e => h (inl_inj e)
      rw [if_neg h2, memo_val f k ks]
      simp [Ne.symm h]
theorem memo_put (f : List Int → D) (ks : List (List Int)) (k : List Int) : putD (memo f ks) (k.map Sum.inl) (f k) = memo f (if k ∈ ks then ks else ks ++ [k]) := by
  by_cases h : k ∈ ks
  · rw [if_pos h]
    unfold putD
    have e : ((memo f ks).any fun kv => decide (kv.1 = k.map Sum.inl)) = true := by
      rw [valD_any, memo_val, if_pos h]; rfl
    rw [if_pos e]
    unfold memo
    rw [List.map_map]
    refine List.map_congr_left fun a _ => ?_
    show (if a.map (Sum.inl : Int → Key) = k.map Sum.inl then (a.map Sum.inl, f k) else (a.map Sum.inl, f a)) = _
    by_cases h2 : a = k
    · rw [h2]; simp
    · rw [if_neg fun e => h2 (inl_inj e)]
  · rw [if_neg h]
    rw [putD_new _ (by rw [memo_val, if_neg h])]
    unfold memo
    rw [List.map_append]
    rfl
theorem nodup_len {α : Type} [DecidableEq α] : ∀ {l m : List α}, l.Nodup → (∀ x ∈ l, x ∈ m) → l.length ≤ m.length
  | [], _, _, _ => Nat.zero_le _
  | a :: l, m, h, k => by
    have ha := k a List.mem_cons_self
    obtain ⟨h1, h2⟩ := List.nodup_cons.mp h
    have ih := nodup_len (l := l) (m := m.erase a) h2 fun x hx => (List.mem_erase_of_ne (fun e => h1 (by rw [← e]; exact hx))).mpr (k x (List.mem_cons_of_mem _ hx))
    rw [List.length_erase_of_mem ha] at ih
    have : 0 < m.length := List.length_pos_of_mem ha
    show l.length + 1 ≤ _
    omega
/-- what is remembered stays within dom -/
structure Mem (dom ks : List (List Int)) : Prop where
  nd : ks.Nodup
  sub : ∀ k ∈ ks, k ∈ dom
theorem Mem.nil (dom : List (List Int)) : Mem dom [] := ⟨List.nodup_nil, fun _ h => by cases h⟩
theorem Mem.add {dom ks : List (List Int)} {k : List Int} (h : Mem dom ks) (hk : k ∈ dom) : Mem dom (if k ∈ ks then ks else ks ++ [k]) := by
  by_cases e : k ∈ ks
  · rw [if_pos e]; exact h
  · rw [if_neg e]
    refine ⟨List.nodup_append.mpr ⟨h.nd, by simp, fun a ha b hb => ?_⟩, fun j hj => ?_⟩
    · have : b = k := by simpa using hb
      subst this
      exact fun z => e (by rw [← z]; exact ha)
    · rcases List.mem_append.mp hj with hj | hj
      · exact h.sub j hj
      · have : j = k := by simpa using hj
        rw [this]; exact hk
theorem Mem.len {dom ks : List (List Int)} (h : Mem dom ks) (f : List Int → D) (hd : dom.length < 1000000) : (memo f ks).length < sizeLine := by
  unfold memo
  rw [List.length_map]
  exact lt_size (Nat.lt_of_le_of_lt (nodup_len h.nd h.sub) hd)
theorem mem_put_self {ks : List (List Int)} {k : List Int} : k ∈ (if k ∈ ks then ks else ks ++ [k]) := by
  by_cases e : k ∈ ks
  · rw [if_pos e]; exact e
  · rw [if_neg e]; simp
/-- k in seen -/
theorem gIn_mk {B : Bx} {a : Addr} {f : List Int → D} {ks : List (List Int)} {k : List Int} {neg : Bool} {q : DK} (h : B a = some (.dT (memo f ks))) (hq : q (.bl (neg ^^ decide (k ∈ ks))) B) : gIn neg (.tup (k.map .int)) (.ref a) B q := by
  refine .inl ⟨_, dGet_T h (keysD_ints k), ?_⟩
  have e : (valD (memo f ks) (k.map Sum.inl)).isSome = decide (k ∈ ks) := by
    rw [memo_val]
    by_cases hk : k ∈ ks
    · rw [if_pos hk, decide_eq_true hk]; rfl
    · rw [if_neg hk, decide_eq_false hk]; rfl
  rw [e]
  exact hq
/-- seen[k] = f k -/
theorem gSet_mk {B : Bx} {a : Addr} {f : List Int → D} {ks dom : List (List Int)} {k : List Int} {v : D} {q : Bx → Prop} (h : B a = some (.dT (memo f ks))) (g : Mem dom ks) (hd : dom.length < 1000000) (hk : k ∈ dom) (hv : v = f k)
    (hq : ∀ ks', Mem dom ks' → k ∈ ks' → q (put B a (.dT (memo f ks')))) : gSet (.ref a) (.tup (k.map .int)) v B q := by
  subst hv
  refine ⟨_, h, _, _, rfl, keysD_ints k, g.len f hd, ?_⟩
  rw [memo_put]
  exact hq _ (g.add hk) mem_put_self
/-- seen[k] -/
theorem gIx_mk {B : Bx} {a : Addr} {f : List Int → D} {ks : List (List Int)} {k : List Int} {q : DK} (h : B a = some (.dT (memo f ks))) (hk : k ∈ ks) (hq : q (f k) B) : gIx (.ref a) (.tup (k.map .int)) B q := by
  refine .inr ⟨f k, ?_, hq⟩
  rw [dGet_T h (keysD_ints k), memo_val, if_pos hk]

section
variable {fa : List He.Fa} {fn : List He.DefD} {tf tl : List He.Defn} {P : Program} {w : World} {K : PySem.W.Frag} {mg : Str → Option Value} {base : Heap}
/-- a promise that nobody can ask for -/
theorem fnA_zero (E : Mo fa fn tf tl K mg base) {d : He.DefD} {x : Str} {ps : List Str} {sp : SpD} (hd : d ∈ fn) (hat : d.at_ = (x, none)) (hdf : d.dfl = []) (hg : He.Fa.glo x ∈ fa)
    (hbn : ∀ (kV doc pm : Value) (an : Option Addr) (cdv ct : Value) (us : List Value), us.length = ps.length → bindArgs (PySem.W.fnOf d.name d.qual d.params d.body d.scope .none kV doc pm an cdv ct) ⟨us, []⟩ = pure (ps.zip us))
    (h : ∀ ds B q x, ¬ sp ds B q x) : FnA P w K mg base (tsOf tf K) x ps 0 sp := by
  obtain ⟨fd, F⟩ := E.c.defs hd
  have hD : d.dvs K = [] := by unfold He.DefD.dvs; rw [hdf]; rfl
  rw [hD] at F
  have eA : He.fAd K d.at_ = He.ga K x := by rw [hat]; rfl
  refine ⟨He.fAd K d.at_, fd, ?_, by rw [eA]; exact He.glo_ok E.X E.G (E.c.facts hg), F.kp, F.bindsN hbn⟩
  exact ⟨fun vs H Q E ⟨F, ds, B, R, q, x, h1, h2, h3, h4, h5⟩ => (h ds B q x h3).elim, fun A outer s H args us vs Q E hr e0 hb r ⟨F, ds, B, R, q, x, h1, h2, h3, h4, h5⟩ => (h ds B q x h3).elim⟩
/-- .. at any level -/
theorem fnA_none (E : Mo fa fn tf tl K mg base) {d : He.DefD} {x : Str} {ps : List Str} {k : Nat} {sp : SpD} (hd : d ∈ fn) (hat : d.at_ = (x, none)) (hdf : d.dfl = []) (hg : He.Fa.glo x ∈ fa)
    (hbn : ∀ (kV doc pm : Value) (an : Option Addr) (cdv ct : Value) (us : List Value), us.length = ps.length → bindArgs (PySem.W.fnOf d.name d.qual d.params d.body d.scope .none kV doc pm an cdv ct) ⟨us, []⟩ = pure (ps.zip us))
    (h : ∀ ds B q x, ¬ sp ds B q x) : FnA P w K mg base (tsOf tf K) x ps k sp := by
  obtain ⟨fd, F⟩ := E.c.defs hd
  have hD : d.dvs K = [] := by unfold He.DefD.dvs; rw [hdf]; rfl
  rw [hD] at F
  have eA : He.fAd K d.at_ = He.ga K x := by rw [hat]; rfl
  refine ⟨He.fAd K d.at_, fd, ?_, by rw [eA]; exact He.glo_ok E.X E.G (E.c.facts hg), F.kp, F.bindsN hbn⟩
  exact ⟨fun vs H Q E ⟨F, ds, B, R, q, x, h1, h2, h3, h4, h5⟩ => (h ds B q x h3).elim, fun A outer s H args us vs Q E hr e0 hb r ⟨F, ds, B, R, q, x, h1, h2, h3, h4, h5⟩ => (h ds B q x h3).elim⟩
end
theorem sizeOk_of {ds : List D} (h : ds.length ≤ 1000000) : sizeOk ds := by
  unfold DL.sizeOk
  split
  · trivial
  · exact le_size h
theorem put_eq {B : Bx} {a : Addr} {b : Box} (h : B a = some b) : put B a b = B := by
  funext c
  unfold put
  split
  · rename_i e; rw [e, h]
  · rfl
theorem plD_ints (n : Nat) (ns : List Int) : (ns.map D.int).all (plD n) = true := by
  rw [List.all_map, List.all_eq_true]
  intro i _
  cases n <;> rfl
theorem few_upd {B B' : Bx} {a : Addr} {b c : Box} (h : Few (put B a b) B') : Few (put B a c) (put B' a c) := fun x z e => by
  by_cases hx : x = a
  · subst hx
    rw [put_same] at e ⊢
    exact e
  · rw [put_ne hx] at e ⊢
    exact h x z (by rw [put_ne hx]; exact e)
theorem few_at {B B' : Bx} {a : Addr} {b : Box} (h : Few (put B a b) B') : B' a = some b := h a b put_same
theorem ixN_at {n j : Nat} (hj : j < n) : ixN n (j : Int) = some j := by
  unfold ixN
  rw [if_pos (by omega), if_pos (by omega)]
  rfl
theorem atI_ints {ns : List Int} {k : Nat} (h : k < ns.length) : atI (ns.map D.int) (k : Int) = some (.int ns[k]) := L2.atI_nat (by rw [List.getElem?_map, List.getElem?_eq_getElem h]; rfl)
end DL
set_option Elab.async false
set_option linter.all false
set_option maxRecDepth 100000
set_option maxHeartbeats 2000000
/-! DL14: lambdas without parameters and captured names; calls of what a name holds. -/
namespace DL
open PySem PySem.Spec PyProof.Rows L2

/-- what can be called without arguments, with its promise, wherever F still stands -/
structure Cal (P : Program) (w : World) (K : PySem.W.Frag) (mg : Str → Option Value) (base : Heap) (TS : List Addr) (k : Nat) (sp : Bx → DK → XD → Prop) (f : Addr) (F : Hp) : Prop where
  fn : ∀ H h, Same F H → HOk P w H h → PySem.W.FnAt f h
  run : ∀ (A : Around) (outer : List Env) (s : Shared) (H : Hp) (Q : VK) (E : XK), Room k A → Env0 P w K mg base A outer s H → Same F H → LSp K TS (fun _ B q x => sp B q x) [] H Q E → codeAny (model P w) A (.call (.ref f) ⟨[], []⟩) (CR (L2.CX P w) outer P w H s Q E) s
theorem Cal.mono {P : Program} {w : World} {K : PySem.W.Frag} {mg : Str → Option Value} {base : Heap} {TS : List Addr} {k : Nat} {sp : Bx → DK → XD → Prop} {f : Addr} {F F' : Hp} (c : Cal P w K mg base TS k sp f F) (e : Same F F') : Cal P w K mg base TS k sp f F' :=
  ⟨fun H h e2 => c.fn H h (e.trans e2), fun A outer s H Q E hr e0 e2 => c.run A outer s H Q E hr e0 (e.trans e2)⟩
abbrev CalP := (Bx → DK → XD → Prop) → Addr → Hp → Prop
/-- x(), x a name that holds such a thing -/
def dCallV (cal : CalP) (i : Nat) : DTE := fun Γ B q x => ∃ φ sp, getS Γ i = some (.obj φ) ∧ (∀ f F, φ f F → cal sp f F) ∧ sp B q x
section
variable {X : Cx} {TS : List Addr} {W : WX} {k : Nat} {a : Str} {p1 p2 : Pos}
theorem de_callV (i : Nat) (hr : Room k X.A) (tk : Takes X W) (hN : X.N[i]? = some a := by rfl) (hv : Vis X.env.scope a := by first | exact Or.inl rfl | exact Or.inr (Or.inl rfl) | exact Or.inr (Or.inr rfl)) (hd : (a == ("__debug__" : Str)) = false := by decide) (hcd : (a == ("__classdict__" : Str)) = false := by decide) :
    DE X TS W (.Call (.Name a p1) [] [] p2) (dCallV (fun sp f F => Cal X.prog X.w X.K X.mg X.base TS k sp f F) i) := by
  refine ⟨fun pins s σ H Q I ⟨F, Γ, B, R, q, x, sl, rp, h, hq, hx⟩ => ?_⟩
  obtain ⟨φ, sp, h1, h2, h3⟩ := h
  obtain ⟨v, hv1, b, ev, hφ⟩ := sl.at_ i _ (getS_at h1)
  subst ev
  refine wpAny_Call_Name_kw (thn ((pe_var (pos := p1) (i := i) hN hv hd hcd).run pins s σ H (fun v' H1 => v' = .ref b ∧ H1 = H) I ⟨.ref b, hv1, rfl, rfl⟩) fun u s1 ⟨v', H1, I1, r1, q1⟩ => ?_)
  obtain ⟨e1, e2⟩ := q1
  subst e1
  rw [e2] at I1
  obtain rfl : u = Value.ref b := r1
  have C := h2 b F (hφ F (Same.refl F))
  refine PySem.W.callWith_F0 (C.fn H s1.heap rp.le I1.hok) ?_
  refine wpAny_call (codeAny_mono (C.run X.A X.stack s1 H Q (WE W σ) hr I1.env0 rp.le ⟨F, [], B, R, q, x, Dvs.nil, rp, h3, hq, fun C' B' F' H' h e rp' => hx C' B' F' H' h e rp'⟩) fun r s' hq2 => ?_)
  cases r with
  | error e => exact passAt tk σ pins H s1 e s' I1 hq2
  | ok fl =>
    cases fl with
    | ret u => exact I1.after hq2
    | next => exact False.elim hq2
    | brk => exact False.elim hq2
    | cont => exact False.elim hq2
end
/-! ### the making -/
/-- the function object at f of a lambda -/
def LamO (f : Addr) (q : Str) (params : Arguments) (body : Expr) (scope : Scope) (pm ctv : Value) (c' : Addr) : HO := .ext fun h => h.get? f = some (PySem.W.kla_obj "<lambda>" q params body scope [] pm c' ctv)
/-- no parameter, no name of its own, none captured -/
structure LamC (scope : Scope) : Prop where
  kind : scope.kind = .function
  co : scope.isCoroutine = false
  gen : scope.isGenerator = false
  own : ∀ y ∈ scope.names, y.2 ≠ .local ∧ y.2 ≠ .cell ∧ y.2 ≠ .free
def lamCB (scope : Scope) : Bool := decide (scope.kind = .function) && !scope.isCoroutine && !scope.isGenerator && scope.names.all fun y => !decide (y.2 = .local) && !decide (y.2 = .cell) && !decide (y.2 = .free)
theorem lamC_by {scope : Scope} (h : lamCB scope = true) : LamC scope := by
  unfold lamCB at h
  simp only [Bool.and_eq_true, Bool.not_eq_true', decide_eq_true_eq, decide_eq_false_iff_not, List.all_eq_true] at h
  obtain ⟨⟨⟨h1, h2⟩, h3⟩, h4⟩ := h
  exact ⟨h1, h2, h3, fun y hy => ⟨(h4 y hy).1.1, (h4 y hy).1.2, (h4 y hy).2⟩⟩
theorem clo_none (cells : List (Str × Addr)) : ∀ (names : List (Str × NameKind)), (∀ y ∈ names, y.2 ≠ .free) → cloFrom cells names [] = []
  | [], _ => rfl
  | (n, k) :: r, h => by
    unfold cloFrom
    have hk : ¬ ((k == NameKind.free) = true) := fun e => h (n, k) List.mem_cons_self (by simpa using e)
    rw [if_neg hk]
    exact clo_none cells r fun y hy => h y (List.mem_cons_of_mem _ hy)
abbrev lamE (qual : Str) (scope : Scope) (L f c' : Addr) : Env := PySem.W.envX qual scope L f (.ref c') []
/-- the surroundings of a lambda's body -/
def lamX (P : Program) (w : World) (K : PySem.W.Frag) (mg : Str → Option Value) (base : Heap) (qual : Str) (scope : Scope) (f c' : Addr) (A : Around) (outer : List Env) (s : Shared) (H : Hp) (E : XK) : Cx where
  prog := P
  w := w
  K := K
  mg := mg
  base := base
  A := A.deeper (lamE qual scope s.heap.objs.size f c')
  N := []
  s_0 := s
  H_0 := H
  env := lamE qual scope s.heap.objs.size f c'
  outer := outer
  stack := lamE qual scope s.heap.objs.size f c' :: outer
  ex := []
  fn := fun _ => false
  calm := true
  pn := []
  xe := fun e s' => wpAny (model P w) (A.deeper (lamE qual scope s.heap.objs.size f c')) (leaving (lamE qual scope s.heap.objs.size f c') e) (fun _ s'' => L2.CX P w outer H s E e s'') (fun e' s'' => L2.CX P w outer H s E e' s'') s'
section
variable {P : Program} {w : World} {K : PySem.W.Frag} {mg : Str → Option Value} {base : Heap} {TS : List Addr} {H : Hp} {s : Shared}
theorem lam_enter {A : Around} {outer : List Env} {E : XK} {qual : Str} {scope : Scope} {f c' : Addr} {h₁ : Heap} {tk : Nat} (L : LamC scope) (e0 : Env0 P w K mg base A outer s H) (hd : A.handled = none)
    (hns : h₁.Ns s.heap.objs.size fun y => ([] : List (Str × Value)).reverse.lookup y) (kp : ∀ b o, s.heap.get? b = some o → h₁.get? b = some o) :
    Inv (lamX P w K mg base qual scope f c' A outer s H E) [] [] H { s with heap := h₁, toks := tk } := by
  have noA : ∀ b : Addr, b ∉ (lamX P w K mg base qual scope f c' A outer s H E).ex := fun b z => absurd (show b ∈ ([] : List Addr) from z) (by simp)
  refine ⟨⟨e0.mod, L.kind, rfl, rfl, Nat.le_refl _, fun y z c e1 e2 => ?_, fun y hy => ?_, fun y c z _ => ?_, fun _ => hd, Around.frames_deeper e0.frames, .inr ⟨rfl, rfl⟩, fun b z => absurd z (noA b), e0.bs, e0.bsz, fun b _ _ => noA b,
      fun b z => absurd z (noA b), e0.funs, e0.frf⟩,
    rfl, e0.bare, Un.kept kp, ⟨_, hns, fun i y v e1 e2 e3 => ?_⟩, fun y c e => ?_, e0.hok.fresh (Nat.le_refl _), fun y c e => ?_, fun q hq => absurd (show q ∈ ([] : List (Addr × Obj)) ++ [] from hq) (by simp), e0.hok.kept kp, rfl⟩
  · have e1 : ([] : List (Str × Addr)).lookup y = some c := e1
    cases e1
  · have hy : scope.names.lookup y = some .cell ∨ scope.names.lookup y = some .free := hy
    rcases hy with hy | hy
    · exact absurd rfl (L.own _ (PySem.mem_of_lookup hy)).2.1
    · exact absurd rfl (L.own _ (PySem.mem_of_lookup hy)).2.2
  · have z : false = true := z
    cases z
  · have e1 : ([] : List Str)[i]? = some y := e1
    simp at e1
  · have e : ([] : List (Str × Addr)).lookup y = some c := e
    cases e
  · have e : ([] : List (Str × Addr)).lookup y = some c := e
    cases e
/-- a lambda keeps its promise by its body -/
theorem cal_of {k : Nat} {sp : Bx → DK → XD → Prop} {f c' : Addr} {F : Hp} {q : Str} {params : Arguments} {body : Expr} {scope : Scope} {pm ctv : Value} (hF : F f = some (LamO f q params body scope pm ctv c')) (hC : F c' = some (LamX.CodeO c' q)) (L : LamC scope)
    (hbind : ∀ (pm cv ctv : Value), bindArgs (PySem.W.kla_fn "<lambda>" q params body scope [] pm cv ctv) ⟨[], []⟩ = pure [])
    (hbody : ∀ (A : Around) (outer : List Env) (s : Shared) (H : Hp) (E : XK), InBody (lamX P w K mg base q scope f c' A outer s H E) (wE E) k → ∃ t, DE (lamX P w K mg base q scope f c' A outer s H E) TS (wE E) body t ∧ ∀ B q x, sp B q x → t [] B q x) :
    Cal P w K mg base TS (k + 1) sp f F := by
  have obj : ∀ H h, Same F H → HOk P w H h → h.get? f = some (PySem.W.kla_obj "<lambda>" q params body scope [] pm c' ctv) := fun H h e hok => (hok f _ (e _ _ hF)).1
  refine ⟨fun H h e hok => ⟨_, _, _, _, obj H h e hok⟩, fun A outer s H Q E hr e0 e hsp => ?_⟩
  obtain ⟨F1, ds, B, R, q1, x, h1, h2, h3, h4, h5⟩ := hsp
  have of1 := obj H s.heap e e0.hok
  obtain ⟨⟨oc, vs, t, hoc, hdc, hvc⟩, _, _⟩ := e0.hok c' _ (e _ _ hC)
  refine PySem.W.kla_callFunE hr.depth of1 rfl L.co L.gen rfl ⟨c', oc, vs, t, rfl, hoc, hdc, hvc⟩ ?_
  have lim : s.heap.NoLimit := e0.mod.nolimit.keeps fun b o e => (e0.bs b o e).1
  rw [hbind]
  refine wpAny_pure (wpAny_newFunctionEnv (fun y hy => (L.own y hy).2.1) (fun y hy => absurd hy (by simp)) (fun h₁ hns hsb => ⟨lim.fresh _ hsb, ?_⟩) L.kind)
  show codeAny _ _ (.expr body (lamE q scope s.heap.objs.size f c')) _ _
  have kp : ∀ b o, s.heap.get? b = some o → h₁.get? b = some o := fun b o e => hsb.extBut b o (Nat.ne_of_lt (Heap.lt_size e)) (Heap.get?_push_of_some _ e)
  have J : Inv (lamX P w K mg base q scope f c' A outer s H E) [] [] H { s with heap := h₁, toks := s.toks + ([] : List (Str × Value)).length } := lam_enter L e0 hr.hd hns kp
  obtain ⟨t', ht, hq⟩ := hbody A outer s H E ⟨hr.deeper _, takes_of rfl rfl rfl rfl, passes_of rfl⟩
  refine PySem.W.kla_codeExpr (wpAny_mono (ht.run [] _ _ H Q J ⟨F1, [], B, R, q1, x, ⟨rfl, fun i d e => by simp at e⟩, h2, hq B q1 x h3, h4, fun C B' F' H' h e rp' => h5 C B' F' H' h e rp'⟩) (fun v s' hq2 => ?_) fun e s' hq2 => hq2)
  obtain ⟨w', H', J', rv, q2⟩ := hq2
  exact ⟨w', H', J'.os, J'.bare, J'.base, J'.hok, rv, q2⟩
end
/-- lambda: body -/
def dLam (Pt : Addr) (q : Str) (φ : Addr → Hp → Prop) : DTE := fun _ B k _ => B Pt = some (.tabQ q) ∧ k (.obj φ) B
section
variable {X : Cx} {TS : List Addr} {W : WX} {c Pt : Addr} {params : Arguments} {body : Expr} {scope : Scope} {pos : Pos} {φ : Addr → Hp → Prop} {nm : Str}
theorem de_lam (TB : LamX.TabB X.base X.mg c Pt) (L : LamC scope) (hφ : ∀ (f c' : Addr) (pm ctv : Value) (F : Hp), F f = some (LamO f nm params body scope pm ctv c') → F c' = some (LamX.CodeO c' nm) → φ f F)
    (hcode : X.env.code = .ref c := by rfl) (hnm : nm = X.env.qual ++ "<lambda>" := by rfl) (hdef : defaultsOf params X.env = ([], []) := by rfl) : DE X TS W (.Lambda params body scope pos) (dLam Pt nm φ) := by
  refine ⟨fun pins s σ H Q I ⟨F, Γ, B, R, q, x, sl, rp, h, hq, hx⟩ => ?_⟩
  obtain ⟨hPt, h⟩ := h
  subst hnm
  have nof : ∀ y ∈ scope.names, y.2 ≠ .free := fun y hy => (L.own y hy).2.2
  have hcl : closureFor scope X.env = pure [] := by
    rw [closure_ok (fun y hy e => absurd e (nof y hy)), clo_none _ _ nof]
  obtain ⟨nFP, ps, hP, ht, ha⟩ := rp.bx Pt _ hPt
  refine PySem.W.kla_eval hdef ?_
  have bP : s.heap.BuiltinsAt X.mg Pt := TB.bm.keeps I.bk
  have hP' : s.heap.get? Pt = some { cls := .none, data := .fields ps } := I.hok Pt _ hP
  -- the last step: the function object
  have fin : ∀ (c' : Addr) (pm ctv : Value) (H1 F1 : Hp) (s1 : Shared), Inv X pins σ H1 s1 → Same F F1 → RepH X.K TS F1 H1 B R → F1 c' = some (LamX.CodeO c' (X.env.qual ++ "<lambda>")) →
      EP X pins σ Q (.ref s1.heap.objs.size) { s1 with heap := s1.heap.push (PySem.W.kla_obj "<lambda>" (X.env.qual ++ "<lambda>") params body scope [] pm c' ctv) } := fun c' pm ctv H1 F1 s1 I1 e1 rp1 hc' => by
    have hn : H1 s1.heap.objs.size = none := I1.hok.fresh (Nat.le_refl _)
    have ob : ObjOk X.prog X.w (upd H1 s1.heap.objs.size (LamO s1.heap.objs.size (X.env.qual ++ "<lambda>") params body scope pm ctv c')) (s1.heap.push (PySem.W.kla_obj "<lambda>" (X.env.qual ++ "<lambda>") params body scope [] pm c' ctv)) s1.heap.objs.size (LamO s1.heap.objs.size (X.env.qual ++ "<lambda>") params body scope pm ctv c') :=
      ⟨Heap.get?_push_size _ rfl, ⟨_, Heap.get?_push_size _ rfl⟩, fun h1 h2 z st => st _ z⟩
    have I2 := I1.laid (t' := s1.toks) (fun b o e => Heap.get?_push_of_some _ e) (Nat.le_refl _) ob
    have rp2 := rp1.datum (o := LamO s1.heap.objs.size (X.env.qual ++ "<lambda>") params body scope pm ctv c') hn
    have sm : Same F1 (upd F1 s1.heap.objs.size (LamO s1.heap.objs.size (X.env.qual ++ "<lambda>") params body scope pm ctv c')) := same_upd (rp1.freeF hn)
    refine ⟨.ref _, _, I2, rfl, hq _ B _ _ _ h (e1.trans sm) rp2 ⟨_, rfl, fun F2 e2 => ?_⟩⟩
    exact hφ _ c' pm ctv F2 (e2 _ _ upd_same) (e2 _ _ (sm _ _ hc'))
  cases hc : codeAmong pos ps.toList with
  | none =>
    refine PySem.W.kla_makeFunction (mg := X.mg) (c := c) (P := Pt) (ps := ps) hcl I.ok.glob (I.mod.glob.keeps I.bk) hcode (TB.code.keeps I.bk) hP' ht hc TB.gP bP fun c' ctv h' tk hx2 hge hlt hrec htb => ?_
    obtain ⟨c2, oc, vs, t, e2, hoc, hd, hv⟩ := hrec
    cases e2
    have nC : H c' = none := I.hok.fresh hge
    have nPc : Pt ≠ c' := ne_of_none hP nC
    have I1 := LamX.inv_table (t' := tk) (q := X.env.qual ++ "<lambda>") (more := #[rawInt pos.line, rawInt pos.col, .ref c']) (h' := h') I hP (fun b o hb e => hx2 b o hb e) htb hge ⟨oc, vs, t, hoc, hd, hv⟩
    have rp1 := rp.datum (o := LamX.CodeO c' (X.env.qual ++ "<lambda>")) nC
    have sm : Same F (upd F c' (LamX.CodeO c' (X.env.qual ++ "<lambda>"))) := same_upd (rp.freeF nC)
    have eL : (ps ++ #[rawInt pos.line, rawInt pos.col, .ref c']).toList = ps.toList ++ [rawInt pos.line, rawInt pos.col, .ref c'] := by simp
    have rp2 := rp1.write (b := .tabQ (X.env.qual ++ "<lambda>")) (o := .tbl (ps ++ #[rawInt pos.line, rawInt pos.col, .ref c'])) hPt ⟨_, upd_same, by rw [eL]; exact PySem.TriplesOk_snoc _ _ _ _ ht, fun p' cv hcv => by
      rw [eL] at hcv
      rcases LamX.among_app _ ht hcv with z | z
      · obtain ⟨c0, e1, e2⟩ := ha p' cv z
        exact ⟨c0, e1, sm _ _ e2⟩
      · exact ⟨c', z, upd_same⟩⟩
    rw [put_eq hPt] at rp2
    have eH : upd (upd H c' (LamX.CodeO c' (X.env.qual ++ "<lambda>"))) Pt (.tbl (ps ++ #[rawInt pos.line, rawInt pos.col, .ref c'])) = upd (upd H Pt (.tbl (ps ++ #[rawInt pos.line, rawInt pos.col, .ref c']))) c' (LamX.CodeO c' (X.env.qual ++ "<lambda>")) := by
      funext b
      by_cases h1 : b = c'
      · subst h1; rw [upd_ne (Ne.symm nPc), upd_same, upd_same]
      · rw [upd_ne h1]
        by_cases h2 : b = Pt
        · subst h2; rw [upd_same, upd_same]
        · rw [upd_ne h2, upd_ne h2, upd_ne h1]
    rw [eH] at rp2
    exact fin c' _ ctv _ _ { s with heap := h', toks := tk } I1 sm rp2 upd_same
  | some cv =>
    obtain ⟨c', e, hco⟩ := ha pos cv hc
    subst e
    refine PySem.W.kla_makeFunctionHit (mg := X.mg) (c := c) (P := Pt) (ps := ps) hcl I.ok.glob (I.mod.glob.keeps I.bk) hcode (TB.code.keeps I.bk) hP' ht hc bP fun ctv h' tk hx2 hsz => ?_
    have I1 : Inv X pins σ H { s with heap := h', toks := tk } := I.kept fun b o e => hx2 b o e
    exact fin c' _ ctv H F { s with heap := h', toks := tk } I1 (Same.refl F) rp hco
end
end DL
set_option Elab.async false
set_option linter.all false
set_option maxRecDepth 100000
set_option maxHeartbeats 2000000
/-! DL15: try: .. except X: .. -/
namespace DL
open PySem PySem.Spec PyProof.Rows L2
/-- yes: whether the clause takes an error of that class -/
def dTry (yes : Addr → Option Bool) (t u : DTS) : DTS := fun E Γ B => t { E with ex := fun Γ' C B' => ∃ b, yes C = some b ∧ (b = true → u { E with ex := fun _ => noX } Γ' B') ∧ (b = false → E.ex Γ' C B') } Γ B
section
variable {X : Cx} {TS : List Addr} {W : WX} {x : Str} {c : Value} {body suite : List Stmt} {b₀ : Stmt} {np pos pos' : Pos} {t u : DTS}
theorem ds_try (hs : X.stack = X.env :: X.outer) (hf : X.env.frame = some X.env.locals) (hc : Names X x c) (tk : Takes X W)
    (hb : ∀ (W : WX) (pn : List (Addr × Obj)) (xe : Value → Shared → Prop), Takes (X.tr pn xe) W → PassesOwn (model X.prog X.w) X.A X.env xe → DSs (X.tr pn xe) TS W body t)
    (hsu : ∀ (a : Addr) (oe : Obj) (cls : Value) (d : Option Addr) (pn : List (Addr × Obj)), DSs (X.suite a ((a, oe) :: pn)) TS W0 (b₀ :: suite) u) :
    DS X TS W (.Try body [.ExceptHandler (some (.Name x np)) none (b₀ :: suite) pos'] [] [] pos) (dTry (fun C => PySem.W.exmOne X.K (.ref C) c) t u) :=
  PS_imp (ps_try_only (tb := fun W => LS X.K TS W t) (ts := fun _ _ _ => LS X.K TS W0 u) (Wout := W) hs hf hc tk (fun W pn xe tk po => hb W pn xe tk po) (fun a oe cls d pn _ _ => hsu a oe cls d pn)) fun D σ H ⟨F, Γ, B, R, E, s, rp, hu, hE⟩ => by
    refine ⟨F, Γ, B, R, _, s, rp, hu, ⟨hE.nx, hE.rt, hE.bk, hE.ct, fun σ' Γ' F' e s' C B' F2 H2 hn e2 rp2 => ?_⟩⟩
    obtain ⟨b, h1, h2, h3⟩ := hn
    have hE2 := hE.mono (e.trans e2)
    refine ⟨b, h1, fun hb a _ => ?_, fun hb => hE.ex σ' Γ' F' e s' C B' F2 H2 (h3 hb) e2 rp2⟩
    exact ⟨F2, Γ', B', R, { E with ex := fun _ => noX }, s'.mono e2, rp2, h2 hb, ⟨hE2.nx, hE2.rt, hE2.bk, hE2.ct, fun _ _ _ _ _ => XL.noX⟩⟩
end
section
variable {fa : List He.Fa} {fn : List He.DefD} {tf tl : List He.Defn} {K : PySem.W.Frag} {mg : Str → Option Value} {base : Heap}
theorem Mo.glo (E : Mo fa fn tf tl K mg base) (x : Str) (h : He.Fa.glo x ∈ fa) : mg x = some (.ref (He.ga K x)) := He.glo_ok E.X E.G (E.c.facts h)
theorem Mo.exm (E : Mo fa fn tf tl K mg base) (x y : Str) (b : Bool) (h : He.Fa.exm x y b ∈ fa) : PySem.W.exmOne K (.ref (He.ga K x)) (.ref (He.ga K y)) = some b := He.exm_ok (E.c.facts h)
end
theorem InBody.tr {X : Cx} {W W' : WX} {k : Nat} {pn : List (Addr × Obj)} {xe : Value → Shared → Prop} (I : InBody X W k) (tk : Takes (X.tr pn xe) W') (po : PassesOwn (model X.prog X.w) X.A X.env xe) : InBody (X.tr pn xe) W' k := ⟨I.room, tk, po⟩
end DL
set_option Elab.async false
set_option linter.all false
set_option maxRecDepth 100000
set_option maxHeartbeats 2000000
/-! DL16: the end of a law. -/
namespace DL
open PySem PySem.Spec PyProof.Rows L2
section
variable {fa : List He.Fa} {fn : List He.DefD} {tf tl : List He.Defn} {P : Program} {w : World} {K : PySem.W.Frag} {mg : Str → Option Value} {base : Heap}
/-- THE RULE for a def, of the very function object -/
theorem okF {d : He.DefD} {x : Str} {N ps : List Str} {k : Nat} {sp : SpD} {fd : FuncData} (F : FunD K d.name d.qual d.params d.body d.scope (d.dvs K) (d.kws K) (He.fAd K d.at_) fd) (hat : d.at_ = (x, none)) (S : FnScope N ps d.scope)
    (len : ∀ ds B q x, sp ds B q x → ds.length = ps.length)
    (hbody : ∀ (f : Addr) (A : Around) (outer : List Env) (s : Shared) (H : Hp) (Ex : XK), InBody (bodyX P w K mg base N d.qual d.scope f (He.codeOf K (x, none)) A outer s H Ex) (wE Ex) k →
      ∃ t, DSs (bodyX P w K mg base N d.qual d.scope f (He.codeOf K (x, none)) A outer s H Ex) (tsOf tf K) (wE Ex) d.body t ∧ ∀ ds B q x, sp ds B q x → t (endsD q x) (startD N ds) B) :
    FnD P w K mg base (tsOf tf K) (k + 1) (He.fAd K d.at_) fd ps sp := by
  obtain ⟨oc, od, dV, kV, doc, pm, an, cdv, ct, osl, rfl, lk, hcd, _, _⟩ := F.ex
  obtain ⟨c, ec⟩ := He.codeIn_ref hcd
  subst ec
  have e1 : He.codeOf K (x, none) = c := by
    rw [← hat]
    exact He.codeOf_eq lk rfl
  subst e1
  have hpl : ps.length ≤ N.length := by have := congrArg List.length S.pre; rw [List.length_take] at this; omega
  refine fn_of lk hcd S (fun vs H Q E ⟨F, ds, B, R, q, x, h1, h2, h3, h4, h5⟩ => by rw [h1.length]; exact len ds B q x h3) fun A outer s H vs Q Ex hr hsp => ?_
  obtain ⟨F', ds, B, R, q, xx, h1, h2, h3, h4, h5⟩ := hsp
  obtain ⟨t, ht, hq⟩ := hbody _ A outer s H Ex ⟨hr, takes_of rfl rfl rfl rfl, passes_of rfl⟩
  refine ⟨_, ht, F', startD N ds, B, R, _, slots_start h1 (by rw [h1.length, len ds B q xx h3]; exact hpl), h2, hq ds B q xx h3, ?_⟩
  refine ⟨fun Γ' B' F' σ' H' hn e s' rp => ?_, fun d B' F' H' v hn e rp dv => ?_, fun _ _ _ _ _ z => z.elim, fun _ _ _ _ _ z => z.elim, fun σ' Γ' F' e s' C B' F2 H2 hn e2 rp => ?_⟩
  · obtain ⟨B'', hf, hn⟩ := hn
    exact h4 _ _ _ _ _ hn e (rp.few hf) rfl
  · obtain ⟨B'', hf, hn⟩ := hn
    exact h4 _ _ _ _ _ hn e (rp.few hf) dv
  · obtain ⟨B'', hf, hn⟩ := hn
    exact h5 _ _ _ _ hn (e.trans e2) (rp.few hf)
/-- the boxes at the start: the tables of the defs with lambdas -/
def startB (tl : List He.Defn) (nm : He.Defn → Str) (K : PySem.W.Frag) : Bx := fun b => (tl.find? fun p => decide ((He.cT K p).2 = b)).map fun p => .tabQ (nm p)
theorem startB_some {nm : He.Defn → Str} {b : Addr} {x : Box} (h : startB tl nm K b = some x) : ∃ p ∈ tl, (He.cT K p).2 = b ∧ x = .tabQ (nm p) := by
  unfold startB at h
  obtain ⟨p, h1, h2⟩ := Option.map_eq_some_iff.mp h
  exact ⟨p, List.mem_of_find?_eq_some h1, by simpa using List.find?_some h1, h2.symm⟩
theorem startB_at {nm : He.Defn → Str} (hinj : ∀ p ∈ tl, ∀ r ∈ tl, (He.cT K p).2 = (He.cT K r).2 → nm p = nm r) {p : He.Defn} (hp : p ∈ tl) : startB tl nm K (He.cT K p).2 = some (.tabQ (nm p)) := by
  cases h : tl.find? fun r => decide ((He.cT K r).2 = (He.cT K p).2) with
  | none => exact absurd (List.find?_eq_none.mp h p hp) (by simp)
  | some r =>
    unfold startB
    rw [h]
    have h1 := List.mem_of_find?_eq_some h
    have h2 : (He.cT K r).2 = (He.cT K p).2 := by simpa using List.find?_some h
    show some (Box.tabQ (nm r)) = _
    rw [hinj r h1 p hp h2]
theorem law_at {l : PySem.W.OpenLaw} {h : Heap} {fA : Addr} {ex : PySem.W.Frag → Bool} {d : He.DefD} {k : Nat} {spL : SpD} {nm : He.Defn → Str} (KX : K.In h) (G : h.Ns mainGlobals mg) (c : He.SaysX fa fn [] (tf ++ tl) ex w h K) (hd : d ∈ fn) (hat : d.at_ = (("law" : Str), none)) (hdf : d.dfl = [])
    (hg : He.Fa.glo "law" ∈ fa) (hfa : mg "law" = some (.ref fA))
    (hbn : ∀ (kV doc pm : Value) (an : Option Addr) (cdv ct : Value) (us : List Value), us.length = (["script"] : List Str).length → bindArgs (PySem.W.fnOf d.name d.qual d.params d.body d.scope .none kV doc pm an cdv ct) ⟨us, []⟩ = pure ((["script"] : List Str).zip us))
    (hdis : ∀ p ∈ tl, (He.cT K p).2 ∉ tsOf tf K) (hinj : ∀ p ∈ tl, ∀ r ∈ tl, (He.cT K p).2 = (He.cT K r).2 → nm p = nm r)
    (okL : ∀ (base : Heap) (fd : FuncData), Mo fa fn tf tl K mg base → FunD K d.name d.qual d.params d.body d.scope (d.dvs K) (d.kws K) (He.fAd K d.at_) fd → FnD l.prog w K mg base (tsOf tf K) k (He.fAd K d.at_) fd ["script"] spL)
    (hsp : ∀ (ns : List Int) (B : Bx) (q : DK) (x : XD), ns.length ≤ 63 → (∀ z ∈ ns, Builtin.Int.intBits z ≤ 1048576) → (∀ p ∈ tl, B (He.cT K p).2 = some (.tabQ (nm p))) → (∀ B', q (.bl true) B') → spL [.rol (ns.map .int)] B q x) :
    LamX.LawAtS l w K (L2.CX l.prog w) k 63 "script" mg fA h := by
  obtain ⟨fd, F⟩ := c.t.d.defs hd
  have hD : d.dvs K = [] := by unfold He.DefD.dvs; rw [hdf]; rfl
  have eA : He.fAd K d.at_ = fA := by
    have e1 := He.glo_ok KX G (c.t.d.facts hg)
    rw [hfa] at e1
    injection e1 with e1
    injection e1 with e1
    rw [e1, hat]
    rfl
  refine ⟨fd, (tf ++ tl).map (He.cT K), LSp K (tsOf tf K) spL, fun p hp => ?_, fun p hp => ?_, fun p hp => ?_, fun s u => ?_, fun H a ns hl hbits hT hS => ?_, fun base hK hns hTB => ?_⟩
  · obtain ⟨r, hr, rfl⟩ := List.mem_map.mp hp
    exact c.empty r hr
  · obtain ⟨r, hr, rfl⟩ := List.mem_map.mp hp
    exact c.out r hr
  · obtain ⟨r, hr, rfl⟩ := List.mem_map.mp hp
    exact PySem.W.codeHd_of_K KX (c.hd r hr)
  · rw [hD] at F
    exact F.bindsA hbn s [u] rfl
  · -- the start
    have tab : ∀ b, b ∈ tsOf tf K ∨ (∃ p ∈ tl, (He.cT K p).2 = b) → H b = some (.tbl #[]) := fun b hb => by
      rcases hb with hb | ⟨p, hp, rfl⟩
      · obtain ⟨p, hp, rfl⟩ := List.mem_map.mp hb
        exact hT _ (List.mem_map.mpr ⟨p, List.mem_append_left _ hp, rfl⟩)
      · exact hT _ (List.mem_map.mpr ⟨p, List.mem_append_right _ hp, rfl⟩)
    refine ⟨fun b => match H b with | some (.tbl _) => none | o => o, [.rol (ns.map .int)], startB tl nm K, fun b => if b ∈ tsOf tf K then some .tab else none, fun d _ => d = .bl true, fun _ _ => False, ?_, ⟨fun b o e => ?_, fun b x e => ?_, fun b x e => ?_, fun b => ?_, fun b hb => if_pos hb⟩, ?_, fun d B' F' H' v hq e rp dv => ?_, fun C B' F' H' hx => hx.elim⟩
    · refine ⟨.ref a, [], rfl, ⟨a, ns.map V.int, rfl, ?_, Dvs.ofInts ns⟩, rfl⟩
      rcases hS with (h1 | ⟨o, h1⟩) | h1
      · exact .inl (.inl (by show (match H a with | some (.tbl _) => none | o => o) = _; rw [h1]))
      · exact .inl (.inr ⟨o, by show (match H a with | some (.tbl _) => none | o => o) = _; rw [h1]⟩)
      · exact .inr h1
    · have e : (match H b with | some (.tbl _) => none | o => o) = some o := e
      split at e
      · cases e
      · exact e
    · obtain ⟨p, hp, rfl, rfl⟩ := startB_some e
      have ht := tab _ (.inr ⟨p, hp, rfl⟩)
      refine ⟨by show (match H _ with | some (.tbl _) => none | o => o) = none; rw [ht], #[], ht, True.intro, fun pos cv hc => ?_⟩
      have hc : codeAmong pos [] = some cv := hc
      simp [codeAmong] at hc
    · have e : (if b ∈ tsOf tf K then some Box.tab else none) = some x := e
      by_cases hb : b ∈ tsOf tf K
      · rw [if_pos hb] at e
        cases e
        have ht := tab b (.inl hb)
        exact ⟨by show (match H b with | some (.tbl _) => none | o => o) = none; rw [ht], #[], ht, True.intro⟩
      · rw [if_neg hb] at e
        cases e
    · by_cases hb : b ∈ tsOf tf K
      · cases e : startB tl nm K b with
        | none => exact .inl rfl
        | some x =>
          obtain ⟨p, hp, rfl, _⟩ := startB_some e
          exact absurd hb (hdis p hp)
      · exact .inr (if_neg hb)
    · exact hsp ns _ _ _ hl hbits (fun p hp => startB_at hinj hp) fun _ => rfl
    · subst hq
      exact dv
  · rw [← eA]
    exact okL base fd ⟨c.t.d, hK, hns, fun p hp => hTB _ (List.mem_map.mpr ⟨p, List.mem_append_left _ hp, rfl⟩), fun p hp => hTB _ (List.mem_map.mpr ⟨p, List.mem_append_right _ hp, rfl⟩)⟩ F
end
end DL
set_option Elab.async false
set_option linter.all false
set_option maxRecDepth 100000
set_option maxHeartbeats 2000000
/-! DL17: classes: fields, methods, instances made. -/
namespace DL
open PySem PySem.Spec PyProof.Rows L2

def fldD : List (Str × D) → Str → Option D
  | [], _ => none
  | (g, x) :: r, f => if g = f then some x else fldD r f
def putFD (f : Str) (v : D) : List (Str × D) → List (Str × D)
  | [] => [(f, v)]
  | (g, x) :: r => if g = f then (g, v) :: r else (g, x) :: putFD f v r
section
variable {K : PySem.W.Frag} {F : Hp}
theorem fld_some : ∀ {fs : List (Str × D)} {ws : List (Str × V)} {f : Str} {d : D}, DKv K F fs ws → fldD fs f = some d → ∃ v, ws.lookup f = some v ∧ Dv K F d v
  | [], _, _, _, _, h => by cases h
  | (g, x) :: fs, _, f, d, ⟨v, ws, e, h1, h2⟩, h => by
    subst e
    unfold fldD at h
    rw [List.lookup_cons]
    by_cases hg : g = f
    · subst hg
      rw [if_pos rfl] at h
      cases h
      exact ⟨v, by simp, h1⟩
    · rw [if_neg hg] at h
      have hb : (f == g) = false := by simpa using fun e => hg e.symm
      rw [hb]
      exact fld_some h2 h
theorem fld_none : ∀ {fs : List (Str × D)} {ws : List (Str × V)} {f : Str}, DKv K F fs ws → fldD fs f = none → ws.lookup f = none
  | [], _, _, h, _ => by cases h; rfl
  | (g, x) :: fs, _, f, ⟨v, ws, e, h1, h2⟩, h => by
    subst e
    unfold fldD at h
    rw [List.lookup_cons]
    by_cases hg : g = f
    · subst hg
      rw [if_pos rfl] at h
      cases h
    · rw [if_neg hg] at h
      have hb : (f == g) = false := by simpa using fun e => hg e.symm
      rw [hb]
      exact fld_none h2 h
theorem DKv.putF (f : Str) {d : D} {v : V} (hd : Dv K F d v) : ∀ {fs : List (Str × D)} {ws : List (Str × V)}, DKv K F fs ws → DKv K F (putFD f d fs) (L2.putF f v ws)
  | [], _, h => by cases h; exact ⟨v, [], rfl, hd, rfl⟩
  | (g, x) :: fs, _, ⟨u, ws, e, h1, h2⟩ => by
    subst e
    unfold putFD L2.putF
    split
    · exact ⟨v, ws, rfl, hd, h2⟩
    · exact ⟨u, _, rfl, h1, DKv.putF f hd h2⟩
end
section
variable {X : Cx} {TS : List Addr} {W : WX} {pos apos p p' : Pos} {e o value : Expr} {es : List Expr} {f m x : Str} {C : Addr} {te to tv : DTE} {tl : DTA} {k : Nat} {ps : List Str} {sp : SpD}
/-- e.f -/
def dFld (C : Addr) (f : Str) (te : DTE) : DTE := fun Γ B q x => te Γ B (fun d B1 => ∃ a fs v, d = .ref a ∧ B1 a = some (.ins C fs) ∧ fldD fs f = some v ∧ q v B1) x
theorem de_fld (c : Cls X.K C) (n : NoAttr X.K C f) (he : DE X TS W e te) (hb : attributeBase e f X.env (eval e X.env) = eval e X.env := by rfl) : DE X TS W (.Attribute e f pos) (dFld C f te) := PE_imp (pe_fld he hb) fun σ H Q ⟨F, Γ, B, R, q, x, s, rp, hu, hq, hx⟩ =>
  ⟨F, Γ, B, R, _, x, s, rp, hu, fun d B1 F1 H1 v h1 e1 rp1 dv1 => by
    obtain ⟨a, fs, w, rfl, hb, hl, h1⟩ := h1
    have dv1 : v = _ := dv1
    subst dv1
    obtain ⟨dx, ws, h2, h3⟩ := (rp1.bx a _ hb).2
    obtain ⟨u, h4, h5⟩ := fld_some h3 hl
    exact ⟨a, C, dx, ws, u, rfl, h2, c, n, h4, hq _ B1 F1 H1 _ h1 e1 rp1 h5⟩, hx⟩
/-- o.f = value -/
def dSetF (C : Addr) (f : Str) (to tv : DTE) : DTS := fun E Γ B => tv Γ B (fun v B1 => to Γ B1 (fun d B2 => ∃ a fs, d = .ref a ∧ B2 a = some (.ins C fs) ∧ fs.length < 1000 ∧ E.nx Γ (put B2 a (.ins C (putFD f v fs)))) (E.ex Γ)) (E.ex Γ)
theorem ds_fld (c : Cls X.K C) (n : NoAttr X.K C f) (ho : DE X TS W o to) (hv : DE X TS W value tv) (hs : swapsWith value (some (.Attribute o f p')) pos.line X.env = pure false := by rfl) : DS X TS W (.Assign [.Attribute o f p'] value pos) (dSetF C f to tv) :=
  PS_imp (ps_fld ho hv hs) fun D σ H ⟨F, Γ, B, R, E, s, rp, hu, hE⟩ => by
    refine ⟨F, Γ, B, R, _, _, s, rp, hu, fun y B1 F1 H1 v h1 e1 rp1 dv1 => ⟨F1, Γ, B1, R, _, _, s.mono e1, rp1, h1, fun d B2 F2 H2 u h2 e2 rp2 dv2 => ?_, hE.ex σ Γ F1 e1 (s.mono e1)⟩, hE.ex σ Γ F (Same.refl F) s⟩
    obtain ⟨a, fs, rfl, hb, hl, h2⟩ := h2
    have dv2 : u = _ := dv2
    subst dv2
    obtain ⟨dx, ws, h3, h4⟩ := (rp2.bx a _ hb).2
    refine ⟨a, C, dx, ws, rfl, h3, c, n, by rw [h4.length]; exact hl, ?_⟩
    exact hE.nx Γ _ F2 σ _ h2 (e1.trans e2) (s.mono (e1.trans e2)) (rp2.write hb ⟨dx, _, upd_same, h4.putF f (dv1.mono e2)⟩)

/-! ### methods -/
/-- a method that keeps its promise -/
structure FnM (P : Program) (w : World) (K : PySem.W.Frag) (mg : Str → Option Value) (base : Heap) (TS : List Addr) (C : Addr) (m : Str) (ps : List Str) (k : Nat) (sp : SpD) : Prop where
  ok : ∃ (f : Addr) (fd : FuncData), FnD P w K mg base TS k f fd ps sp ∧ Meth K C m f ∧ Cls K C ∧ Binds K fd ps []
/-- .. a class's maker -/
structure FnI (P : Program) (w : World) (K : PySem.W.Frag) (mg : Str → Option Value) (base : Heap) (TS : List Addr) (x : Str) (C : Addr) (ps : List Str) (k : Nat) (sp : SpD) : Prop where
  ok : ∃ (f : Addr) (fd : FuncData), FnD P w K mg base TS k f fd ps sp ∧ Mk K C f ∧ mg x = some (.ref C) ∧ Binds K fd ps []
def dMeth (C : Addr) (m : Str) (sp : SpD) (to : DTE) (tl : DTA) : DTE := fun Γ B q x => to Γ B (fun d B1 => ∃ a fs, d = .ref a ∧ B1 a = some (.ins C fs) ∧ fldD fs m = none ∧ tl Γ B1 (fun ds B2 => sp (.ref a :: ds) B2 q x) x) x
theorem de_meth {pl : Sem Bool} (G : FnM X.prog X.w X.K X.mg X.base TS C m ps k sp) (hr : Room k X.A) (tk : Takes X W) (ho : DE X TS W o to) (ha : DA X TS W (e :: es) tl)
    (hst : starEach (e :: es) X.env = (false, eval e X.env) :: starEach es X.env := by rfl) (hpl : (backTo pos (starEach es X.env)).any (·.1) = false := by rfl)
    (ht : eval (.Call (.Attribute o m apos) (e :: es) [] pos) X.env = (do
      let ov ← eval o X.env
      standAt apos.atName
      let (f, first) ← holding [ov] (getMethod ov m pl)
      callWith pos f first (backTo pos (starEach (e :: es) X.env)) (backToKw pos (keywordEach [] X.env))) := by rfl) :
    DE X TS W (.Call (.Attribute o m apos) (e :: es) [] pos) (dMeth C m sp to tl) := by
  obtain ⟨f, fd, G1, hm, c, hb⟩ := G.ok
  refine ⟨fun pins s σ H Q I ⟨F, Γ, B, R, q, x, sl, rp, hu, hq, hx⟩ => ?_⟩
  refine PySem.W.methodCall_KW (pl := pl) (thn (ho.run pins s σ H (fun v H1 => ∃ d B1 F1, Same F F1 ∧ RepH X.K TS F1 H1 B1 R ∧ Dv X.K F1 d v ∧ ∃ a fs, d = .ref a ∧ B1 a = some (.ins C fs) ∧ fldD fs m = none ∧ tl Γ B1 (fun ds B2 => sp (.ref a :: ds) B2 q x) x) I
    ⟨F, Γ, B, R, _, x, sl, rp, hu, fun d B1 F1 H1 v h1 e1 rp1 dv1 => ⟨d, B1, F1, e1, rp1, dv1, h1⟩, hx⟩) fun u s1 ⟨v, H1, I1, rx, d, B1, F1, e1, rp1, dv1, a, fs, ed, hb1, hl, h1⟩ => ?_) ht
  subst ed
  have dv1 : v = _ := dv1
  subst dv1
  obtain rfl : u = Value.ref a := rx
  obtain ⟨dx, ws, h2, h3⟩ := (rp1.bx a _ hb1).2
  refine getmeth_ok I1 h2 c hm (fld_none h3 hl) ?_
  refine PySem.W.callWith_K (first := [.ref a]) (h₀ := X.base) I.ok.mod.kin hm.kp (thn (ha.run pos pins s1 σ H1 (fun vs H2 => LSp X.K TS sp (.ref a :: vs) H2 Q (WE W σ)) I1
    ⟨F1, Γ, B1, R, _, x, sl.mono e1, rp1, h1, fun ds B2 F2 H2 vs h4 e2 rp2 dv2 => call_lift (Γ := Γ) (sl.mono (e1.trans e2)) rp2 (ds := .ref a :: ds) (vs := .ref a :: vs) ⟨_, _, rfl, rfl, dv2⟩ h4 (hq.mono (e1.trans e2)) (hx.mono (e1.trans e2)), hx.mono e1⟩) fun us s2 ⟨vs, H2, I2, r, q2⟩ => ⟨I2.kIn, ?_⟩) hst hpl
  exact run_fnS (us := .ref a :: us) (vs := .ref a :: vs) (E := WE W) G1 hr hb (passAt tk σ) I2 (.cons rfl r) q2
theorem de_meth0 {pl : Sem Bool} (G : FnM X.prog X.w X.K X.mg X.base TS C m ps k sp) (hr : Room k X.A) (tk : Takes X W) (ho : DE X TS W o to)
    (ht : eval (.Call (.Attribute o m apos) [] [] pos) X.env = (do
      let ov ← eval o X.env
      standAt apos.atName
      let (f, first) ← holding [ov] (getMethod ov m pl)
      callWith pos f first (backTo pos (starEach [] X.env)) (backToKw pos (keywordEach [] X.env))) := by rfl) :
    DE X TS W (.Call (.Attribute o m apos) [] [] pos) (dMeth C m sp to dNil) := by
  obtain ⟨f, fd, G1, hm, c, hb⟩ := G.ok
  refine ⟨fun pins s σ H Q I ⟨F, Γ, B, R, q, x, sl, rp, hu, hq, hx⟩ => ?_⟩
  refine PySem.W.methodCall_KW (pl := pl) (thn (ho.run pins s σ H (fun v H1 => ∃ d B1 F1, Same F F1 ∧ RepH X.K TS F1 H1 B1 R ∧ Dv X.K F1 d v ∧ ∃ a fs, d = .ref a ∧ B1 a = some (.ins C fs) ∧ fldD fs m = none ∧ sp [.ref a] B1 q x) I
    ⟨F, Γ, B, R, _, x, sl, rp, hu, fun d B1 F1 H1 v h1 e1 rp1 dv1 => ⟨d, B1, F1, e1, rp1, dv1, h1⟩, hx⟩) fun u s1 ⟨v, H1, I1, rx, d, B1, F1, e1, rp1, dv1, a, fs, ed, hb1, hl, h1⟩ => ?_) ht
  subst ed
  have dv1 : v = _ := dv1
  subst dv1
  obtain rfl : u = Value.ref a := rx
  obtain ⟨dx, ws, h2, h3⟩ := (rp1.bx a _ hb1).2
  refine getmeth_ok I1 h2 c hm (fld_none h3 hl) ?_
  exact PySem.W.callWith_K0 (first := [.ref a]) I1.kIn hm.kp (run_fnS (us := [.ref a]) (vs := [.ref a]) (E := WE W) G1 hr hb (passAt tk σ) I1 (.cons rfl .nil)
    (call_lift (Γ := Γ) (sl.mono e1) rp1 (ds := [.ref a]) (vs := [.ref a]) ⟨_, _, rfl, rfl, rfl⟩ h1 (hq.mono e1) (hx.mono e1)))

/-! ### C(..) -/
def dMake (C : Addr) (sp : SpD) (tl : DTA) : DTE := fun Γ B q x => tl Γ B (fun ds B1 => ∀ p, B1 p = none → sp (.ref p :: ds) (put B1 p (.ins C [])) (fun d B2 => d = .non ∧ q (.ref p) B2) x) x
theorem make_lift {K : PySem.W.Frag} {F H : Hp} {B R : Bx} {σ : L2.St} {Γ : Gm} {ds : List D} {vs : List V} {q : DK} {Q : VK} {x : XD} (s : Slots K F σ Γ) (rp : RepH K TS F H B R) (dv : Dvs K F ds vs)
    (h : ∀ p, B p = none → sp (.ref p :: ds) (put B p (.ins C [])) (fun d B2 => d = .non ∧ q (.ref p) B2) x) (hq : QL K TS F R q Q) (hx : XL K TS W F R σ x) :
    ∀ (a dx : Addr), H a = none → H dx = none → dx ≠ a → LSp K TS sp (.ref a :: vs) (upd (upd H dx (.own a)) a (.ins C dx [])) (fun v H2 => v = .non ∧ Q (.ref a) H2) (WE W σ) := fun a dx ha hdx hne => by
  have rp1 := rp.same (H' := upd H dx (.own a)) (same_upd hdx)
  have ha1 : upd H dx (.own a) a = none := by rw [upd_ne (Ne.symm hne)]; exact ha
  have rp2 := rp1.box (b := .ins C []) (o := .ins C dx []) ha1 ⟨dx, [], upd_same, rfl⟩
  refine ⟨F, .ref a :: ds, put B a (.ins C []), R, _, x, ⟨_, _, rfl, rfl, dv⟩, rp2, h a (rp.freeB ha), fun d B2 F2 H2 v hd e2 rp3 dv3 => ?_, fun C B' F' H' h e rp' => hx C B' F' H' h e rp'⟩
  obtain ⟨rfl, hd⟩ := hd
  exact ⟨dv3, hq _ B2 F2 H2 _ hd e2 rp3 rfl⟩
theorem run_makeS {CX : CXT} {f : Addr} {fd : FuncData} {E : XK} {sp : Sp} {pins : List (Addr × Obj)} {σ : L2.St} {H : Hp} {s : Shared} {Q : VK} {us : List Value} {vs : List V} (M : Mk X.K C f) (F : FnOk X.prog X.w X.K X.mg X.base CX k f fd ps sp) (hr : Room (k + 1) X.A) (hb : Binds X.K fd ps [])
    (hx : PassesAt CX X σ E) (I : Inv X pins σ H s) (r : Vals vs us) (h : ∀ a dx, H a = none → H dx = none → dx ≠ a → sp (.ref a :: vs) (upd (upd H dx (.own a)) a (.ins C dx [])) (fun v H2 => v = .non ∧ Q (.ref a) H2) E) :
    wpAny (model X.prog X.w) X.A (call (.ref C) us) (EP X pins σ Q) X.xe s := by
  have hq := h (s.heap.objs.size + 1) s.heap.objs.size (I.hok.fresh (Nat.le_succ _)) (I.hok.fresh (Nat.le_refl _)) (Nat.ne_of_lt (Nat.lt_succ_self _))
  have I2 := Inv.made (C := C) I
  have r2 : Vals (V.ref (s.heap.objs.size + 1) :: vs) (Value.ref (s.heap.objs.size + 1) :: us) := .cons rfl r
  have hl : (Value.ref (s.heap.objs.size + 1) :: us).length = ps.length := r2.length.symm.trans (F.len _ _ _ _ hq)
  have b := hb _ (Value.ref (s.heap.objs.size + 1) :: us) I2.kIn (by rw [List.append_nil]; exact hl)
  rw [List.append_nil] at b
  refine wpAny_call (make_map (f := f) I.kIn M.makes M.init (beq_iff_eq.mp M.fn) (codeAny_mono (F.run _ X.stack _ _ ⟨_, []⟩ _ _ _ E (hr.make C us []) (I2.env0.make C us []) b r2 hq) fun r s' hq' => ?_))
  cases r with
  | error e => exact hx pins _ _ e s' I2 hq'
  | ok fl =>
    cases fl with
    | ret u =>
      obtain ⟨v, H', I3, rv, ev, q3⟩ := I2.after hq'
      subst ev
      exact ⟨rv, ⟨V.ref (s.heap.objs.size + 1), H', I3, rfl, q3⟩⟩
    | next => exact False.elim hq'
    | brk => exact False.elim hq'
    | cont => exact False.elim hq'
theorem de_make (G : FnI X.prog X.w X.K X.mg X.base TS x C ps k sp) (hr : Room (k + 1) X.A) (tk : Takes X W) (ha : DA X TS W (e :: es) tl) (hg : Gl X x := by rfl) (hdb : (x == ("__debug__" : Str)) = false := by decide)
    (he : starEach (e :: es) X.env = (false, eval e X.env) :: starEach es X.env := by rfl) (hpl : (backTo pos (starEach es X.env)).any (·.1) = false := by rfl) : DE X TS W (.Call (.Name x p) (e :: es) [] pos) (dMake C sp tl) := by
  obtain ⟨f, fd, G1, M, hm, hb⟩ := G.ok
  refine ⟨fun pins s σ H Q I ⟨F, Γ, B, R, q, x, sl, rp, hu, hq, hx⟩ => ?_⟩
  refine wpAny_Call_Name_kw (ld_glob I hg hm ?_ hdb)
  refine PySem.W.callWith_K (h₀ := X.base) I.ok.mod.kin M.kp (thn (ha.run pos pins s σ H (fun vs H1 => ∀ (a dx : Addr), H1 a = none → H1 dx = none → dx ≠ a → LSp X.K TS sp (.ref a :: vs) (upd (upd H1 dx (.own a)) a (.ins C dx [])) (fun v H2 => v = .non ∧ Q (.ref a) H2) (WE W σ)) I
    ⟨F, Γ, B, R, _, x, sl, rp, hu, fun ds B1 F1 H1 vs h1 e1 rp1 dv1 => make_lift (Γ := Γ) (sl.mono e1) rp1 dv1 h1 (hq.mono e1) (hx.mono e1), hx⟩) fun us s1 ⟨vs, H1, I1, r, q1⟩ => ⟨I1.kIn, ?_⟩) he hpl
  exact run_makeS M G1 hr hb (passAt tk σ) I1 r q1
theorem de_make0 (G : FnI X.prog X.w X.K X.mg X.base TS x C ps k sp) (hr : Room (k + 1) X.A) (tk : Takes X W) (hg : Gl X x := by rfl) (hdb : (x == ("__debug__" : Str)) = false := by decide) : DE X TS W (.Call (.Name x p) [] [] pos) (dMake C sp dNil) := by
  obtain ⟨f, fd, G1, M, hm, hb⟩ := G.ok
  refine ⟨fun pins s σ H Q I ⟨F, Γ, B, R, q, x, sl, rp, hu, hq, hx⟩ => ?_⟩
  refine wpAny_Call_Name_kw (ld_glob I hg hm ?_ hdb)
  exact PySem.W.callWith_K0 I.kIn M.kp (run_makeS (us := []) M G1 hr hb (passAt tk σ) I .nil (make_lift (Γ := Γ) sl rp Dvs.nil hu hq hx))
end
end DL
set_option Elab.async false
set_option linter.all false
set_option maxRecDepth 100000
set_option maxHeartbeats 2000000
/-! DL18: methods by the head's facts. -/
namespace DL
open PySem PySem.Spec PyProof.Rows L2
section
variable {fa : List He.Fa} {fn : List He.DefD} {tf tl : List He.Defn} {P : Program} {w : World} {K : PySem.W.Frag} {mg : Str → Option Value} {base : Heap}
/-- THE RULE, of the very function object, wherever it stands -/
theorem okG {d : He.DefD} {at_ : He.Defn} {N ps : List Str} {k : Nat} {sp : SpD} {fd : FuncData} (F : FunD K d.name d.qual d.params d.body d.scope (d.dvs K) (d.kws K) (He.fAd K d.at_) fd) (hat : d.at_ = at_) (S : FnScope N ps d.scope)
    (len : ∀ ds B q x, sp ds B q x → ds.length = ps.length)
    (hbody : ∀ (f : Addr) (A : Around) (outer : List Env) (s : Shared) (H : Hp) (Ex : XK), InBody (bodyX P w K mg base N d.qual d.scope f (He.codeOf K at_) A outer s H Ex) (wE Ex) k →
      ∃ t, DSs (bodyX P w K mg base N d.qual d.scope f (He.codeOf K at_) A outer s H Ex) (tsOf tf K) (wE Ex) d.body t ∧ ∀ ds B q x, sp ds B q x → t (endsD q x) (startD N ds) B) :
    FnD P w K mg base (tsOf tf K) (k + 1) (He.fAd K d.at_) fd ps sp := by
  obtain ⟨oc, od, dV, kV, doc, pm, an, cdv, ct, osl, rfl, lk, hcd, _, _⟩ := F.ex
  obtain ⟨c, ec⟩ := He.codeIn_ref hcd
  subst ec
  have e1 : He.codeOf K at_ = c := by
    rw [← hat]
    exact He.codeOf_eq lk rfl
  subst e1
  have hpl : ps.length ≤ N.length := by have := congrArg List.length S.pre; rw [List.length_take] at this; omega
  refine fn_of lk hcd S (fun vs H Q E ⟨F, ds, B, R, q, x, h1, h2, h3, h4, h5⟩ => by rw [h1.length]; exact len ds B q x h3) fun A outer s H vs Q Ex hr hsp => ?_
  obtain ⟨F', ds, B, R, q, xx, h1, h2, h3, h4, h5⟩ := hsp
  obtain ⟨t, ht, hq⟩ := hbody _ A outer s H Ex ⟨hr, takes_of rfl rfl rfl rfl, passes_of rfl⟩
  refine ⟨_, ht, F', startD N ds, B, R, _, slots_start h1 (by rw [h1.length, len ds B q xx h3]; exact hpl), h2, hq ds B q xx h3, ?_⟩
  refine ⟨fun Γ' B' F' σ' H' hn e s' rp => ?_, fun d B' F' H' v hn e rp dv => ?_, fun _ _ _ _ _ z => z.elim, fun _ _ _ _ _ z => z.elim, fun σ' Γ' F' e s' C B' F2 H2 hn e2 rp => ?_⟩
  · obtain ⟨B'', hf, hn⟩ := hn
    exact h4 _ _ _ _ _ hn e (rp.few hf) rfl
  · obtain ⟨B'', hf, hn⟩ := hn
    exact h4 _ _ _ _ _ hn e (rp.few hf) dv
  · obtain ⟨B'', hf, hn⟩ := hn
    exact h5 _ _ _ _ hn (e.trans e2) (rp.few hf)
/-- a method -/
theorem okM (E : Mo fa fn tf tl K mg base) {d : He.DefD} {x m : Str} {N ps : List Str} {k : Nat} {sp : SpD} (hd : d ∈ fn) (hat : d.at_ = (x, some m)) (hdf : d.dfl = []) (hc : He.Fa.cls x ∈ fa) (hm : He.Fa.meth x m ∈ fa) (S : FnScope N ps d.scope)
    (hbn : ∀ (kV doc pm : Value) (an : Option Addr) (cdv ct : Value) (us : List Value), us.length = ps.length → bindArgs (PySem.W.fnOf d.name d.qual d.params d.body d.scope .none kV doc pm an cdv ct) ⟨us, []⟩ = pure (ps.zip us))
    (len : ∀ ds B q x, sp ds B q x → ds.length = ps.length)
    (hbody : ∀ (f : Addr) (A : Around) (outer : List Env) (s : Shared) (H : Hp) (Ex : XK), InBody (bodyX P w K mg base N d.qual d.scope f (He.codeOf K (x, some m)) A outer s H Ex) (wE Ex) k →
      ∃ t, DSs (bodyX P w K mg base N d.qual d.scope f (He.codeOf K (x, some m)) A outer s H Ex) (tsOf tf K) (wE Ex) d.body t ∧ ∀ ds B q x, sp ds B q x → t (endsD q x) (startD N ds) B) :
    FnM P w K mg base (tsOf tf K) (He.ga K x) m ps (k + 1) sp := by
  obtain ⟨fd, F⟩ := E.c.defs hd
  have hD : d.dvs K = [] := by unfold He.DefD.dvs; rw [hdf]; rfl
  have G := okG (P := P) (w := w) (mg := mg) (base := base) (tf := tf) F hat S len hbody
  have eA : He.fAd K d.at_ = He.ma K (He.ga K x) m := by rw [hat]; rfl
  rw [hD] at F
  exact ⟨_, fd, G, by rw [eA]; exact He.meth_ok (E.c.facts hm), He.cls_ok (E.c.facts hc), F.bindsN hbn⟩
/-- a class's maker -/
theorem okI (E : Mo fa fn tf tl K mg base) {d : He.DefD} {x : Str} {N ps : List Str} {k : Nat} {sp : SpD} (hd : d ∈ fn) (hat : d.at_ = (x, some ("__init__" : Str))) (hdf : d.dfl = []) (hm : He.Fa.mkr x ∈ fa) (hg : He.Fa.glo x ∈ fa) (S : FnScope N ps d.scope)
    (hbn : ∀ (kV doc pm : Value) (an : Option Addr) (cdv ct : Value) (us : List Value), us.length = ps.length → bindArgs (PySem.W.fnOf d.name d.qual d.params d.body d.scope .none kV doc pm an cdv ct) ⟨us, []⟩ = pure (ps.zip us))
    (len : ∀ ds B q x, sp ds B q x → ds.length = ps.length)
    (hbody : ∀ (f : Addr) (A : Around) (outer : List Env) (s : Shared) (H : Hp) (Ex : XK), InBody (bodyX P w K mg base N d.qual d.scope f (He.codeOf K (x, some ("__init__" : Str))) A outer s H Ex) (wE Ex) k →
      ∃ t, DSs (bodyX P w K mg base N d.qual d.scope f (He.codeOf K (x, some ("__init__" : Str))) A outer s H Ex) (tsOf tf K) (wE Ex) d.body t ∧ ∀ ds B q x, sp ds B q x → t (endsD q x) (startD N ds) B) :
    FnI P w K mg base (tsOf tf K) x (He.ga K x) ps (k + 1) sp := by
  obtain ⟨fd, F⟩ := E.c.defs hd
  have hD : d.dvs K = [] := by unfold He.DefD.dvs; rw [hdf]; rfl
  have G := okG (P := P) (w := w) (mg := mg) (base := base) (tf := tf) F hat S len hbody
  have eA : He.fAd K d.at_ = He.ma K (He.ga K x) "__init__" := by rw [hat]; rfl
  rw [hD] at F
  rw [eA] at G
  exact ⟨_, fd, G, He.mkr_ok (E.c.facts hm), He.glo_ok E.X E.G (E.c.facts hg), F.bindsN hbn⟩
theorem Mo.cls (E : Mo fa fn tf tl K mg base) (x : Str) (h : He.Fa.cls x ∈ fa) : Cls K (He.ga K x) := He.cls_ok (E.c.facts h)
theorem Mo.noat (E : Mo fa fn tf tl K mg base) (x f : Str) (h : He.Fa.noat x f ∈ fa) : NoAttr K (He.ga K x) f := He.noat_ok (E.c.facts h)
end
end DL
set_option Elab.async false
set_option linter.all false
set_option maxRecDepth 100000
set_option maxHeartbeats 2000000
/-! DL19: what the cells of a frame hold now, told of the base: the ground of calls of lambdas that capture names. -/
namespace DL
open PySem PySem.Spec PyProof.Rows L2

/-- of h what stands where keep says -/
def onlyAt (h : Heap) (keep : Addr → Bool) : Heap := PySem.W.hideAll h ((List.range h.objs.size).filter fun a => !keep a)
theorem onlyAt_of {h : Heap} {keep : Addr → Bool} {b : Addr} {o : Obj} (e : (onlyAt h keep).get? b = some o) : h.get? b = some o ∧ keep b = true := by
  have e1 := PySem.W.of_hideAll _ e
  refine ⟨e1, ?_⟩
  cases hk : keep b with
  | true => rfl
  | false =>
    have hm : b ∈ (List.range h.objs.size).filter fun a => !keep a := List.mem_filter.mpr ⟨List.mem_range.mpr (Heap.lt_size e1), by rw [hk]; rfl⟩
    have e : (PySem.W.hideAll h ((List.range h.objs.size).filter fun a => !keep a)).get? b = some o := e
    rw [PySem.W.hideAll_none _ hm] at e
    cases e
theorem onlyAt_get {h : Heap} {keep : Addr → Bool} {b : Addr} {o : Obj} (e : h.get? b = some o) (hk : keep b = true) : (onlyAt h keep).get? b = some o :=
  PySem.W.hideAll_get _ e fun hm => by
    have := (List.mem_filter.mp hm).2
    rw [hk] at this
    cases this
theorem onlyAt_size {h : Heap} {keep : Addr → Bool} : (onlyAt h keep).objs.size = h.objs.size := PySem.W.hideAll_size _ _

/-- plain data, as a cell holds them -/
def Simp : D → Value → Prop
  | .non, u => u = .none
  | .bl b, u => u = .bool b
  | .int i, u => ∃ t, u = .int i t
  | .str x, u => ∃ t, u = .str x t
  | .ref a, u => u = .ref a
  | _, _ => False
def simpB : D → Bool
  | .non => true
  | .bl _ => true
  | .int _ => true
  | .str _ => true
  | .ref _ => true
  | _ => false
theorem simp_of {K : PySem.W.Frag} {F : Hp} {d : D} {v : V} {u : Value} (hs : simpB d = true) (dv : Dv K F d v) (r : RelV v u) : Simp d u := by
  cases d with
  | non => cases dv; exact r
  | bl b => cases dv; exact r
  | int i => cases dv; exact r
  | str x => cases dv; exact r
  | ref a => cases dv; exact r
  | lst _ => cases hs
  | tup _ => cases hs
  | ty _ => cases hs
  | obj _ => cases hs
  | rol _ => cases hs
  | rot _ => cases hs
theorem of_simp {K : PySem.W.Frag} {F : Hp} {d : D} {u : Value} (hs : Simp d u) : ∃ v, Dv K F d v ∧ RelV v u := by
  cases d with
  | non => exact ⟨.non, rfl, hs⟩
  | bl b => exact ⟨.bl b, rfl, hs⟩
  | int i => exact ⟨.int i, rfl, hs⟩
  | str x => exact ⟨.str x, rfl, hs⟩
  | ref a => exact ⟨.ref a, rfl, hs⟩
  | lst _ => exact hs.elim
  | tup _ => exact hs.elim
  | ty _ => exact hs.elim
  | obj _ => exact hs.elim
  | rol _ => exact hs.elim
  | rot _ => exact hs.elim
/-- in that heap the frame's cell of that name holds the datum -/
def CellD (cells : List (Str × Addr)) (h : Heap) (x : Str) (d : D) : Prop := ∃ c u, cells.lookup x = some c ∧ h.IsCell c (some u) ∧ Simp d u
/-- a heap that holds the base, and is held by none of what is tracked -/
def Up (base base' : Heap) : Prop := ∀ b o, base.get? b = some o → base'.get? b = some o
structure Based (X : Cx) (base' : Heap) (H : Hp) (s : Shared) : Prop where
  up : Up X.base base'
  mod : Mod X.K X.mg base'
  bs : ∀ b o, base'.get? b = some o → s.heap.get? b = some o ∧ H b = none
  bsz : base'.objs.size ≤ s.heap.objs.size
  funs : s.heap.FunFrames base' X.stack
  from_ : ∀ b o, base'.get? b = some o → X.base.get? b = some o ∨ ∃ x, X.env.cells.lookup x = some b
  cell : ∀ x c v, X.env.cells.lookup x = some c → s.heap.IsCell c v → base'.IsCell c v
theorem mod_up {K : PySem.W.Frag} {mg : Str → Option Value} {base base' : Heap} (m : Mod K mg base) (h : Up base base') : Mod K mg base' :=
  ⟨m.kin.keeps h, m.glob.keeps h, let ⟨mb, h1, h2⟩ := m.blt; ⟨mb, h1.keeps h, h2⟩, m.nolimit.keeps h⟩
section
variable {X : Cx} {pins : List (Addr × Obj)} {σ : L2.St} {H : Hp} {s : Shared}
theorem based_at (hfn : ∀ x, X.fn x = true) (I : Inv X pins σ H s) : ∃ base', Based X base' H s := by
  classical
  refine ⟨onlyAt s.heap fun a => (X.base.get? a).isSome || decide (∃ x, X.env.cells.lookup x = some a), ?_⟩
  have up : Up X.base (onlyAt s.heap fun a => (X.base.get? a).isSome || decide (∃ x, X.env.cells.lookup x = some a)) := fun b o e => onlyAt_get (I.bk b o e) (by simp [e])
  have frm : ∀ b o, (onlyAt s.heap fun a => (X.base.get? a).isSome || decide (∃ x, X.env.cells.lookup x = some a)).get? b = some o → X.base.get? b = some o ∨ ∃ x, X.env.cells.lookup x = some b := fun b o e => by
    obtain ⟨e1, hk⟩ := onlyAt_of e
    simp only [Bool.or_eq_true, decide_eq_true_eq] at hk
    rcases hk with hk | hk
    · obtain ⟨o', e'⟩ := Option.isSome_iff_exists.mp hk
      have := I.bk b o' e'
      rw [e1] at this
      cases this
      exact .inl e'
    · exact .inr hk
  refine ⟨up, mod_up I.mod up, fun b o e => ⟨(onlyAt_of e).1, ?_⟩, by rw [onlyAt_size]; exact Nat.le_refl _, funFrames_none I.stack fun L hL => ?_, frm, fun x c v hc ⟨o, e, hd⟩ => ⟨o, onlyAt_get e (by simp; exact .inr ⟨x, hc⟩), hd⟩⟩
  · rcases frm b o e with z | ⟨x, z⟩
    · exact (I.bs b o z).2
    · exact I.freeC x b z
  · cases q : (onlyAt s.heap fun a => (X.base.get? a).isSome || decide (∃ x, X.env.cells.lookup x = some a)).get? L with
    | none => rfl
    | some o =>
      have hmem := I.stkSub L hL
      rcases frm L o q with z | ⟨x, z⟩
      · have := (I.stack.mem hL).1
        rw [z] at this
        cases this
      · rcases List.mem_cons.mp hmem with e | e
        · exact absurd e (I.cne x L z)
        · obtain ⟨_, o', ho', _⟩ := I.ok.funs.mem e
          have h1 := I.ok.cab x L (hfn x) z
          exact absurd (Nat.lt_of_lt_of_le (Heap.lt_size ho') h1) (Nat.lt_irrefl _)
/-- a call's ground over it -/
theorem Based.env0 {base' : Heap} (b : Based X base' H s) (I : Inv X pins σ H s) : Env0 X.prog X.w X.K X.mg base' X.A X.stack s H :=
  let e := I.env0
  ⟨e.frames, b.mod, b.bs, b.bsz, b.funs, e.frf, e.hok, e.bare⟩
/-- the cells hold what the slots say -/
theorem Based.cells {base' : Heap} (b : Based X base' H s) (I : Inv X pins σ H s) {F : Hp} {Γ : Gm} (sl : Slots X.K F σ Γ) {i : Nat} {x : Str} {d : D} (hN : X.N[i]? = some x) (hk : X.env.kindOf x = some .cell ∨ X.env.kindOf x = some .free) (hd : getS Γ i = some d) (hs : simpB d = true) : CellD X.env.cells base' x d := by
  obtain ⟨v, hv, dv⟩ := sl.at_ i d (getS_at hd)
  obtain ⟨m, hn, hl⟩ := I.loc
  have hvis : Vis X.env.scope x := hk.elim (fun k => .inr (.inl k)) (fun k => .inr (.inr k))
  obtain ⟨u, r, q⟩ := hl i x v hN hv hvis
  rcases q with ⟨k, _⟩ | ⟨_, c, e, z⟩
  · rcases hk with k' | k' <;> rw [k'] at k <;> cases k
  · exact ⟨c, u, e, b.cell x c _ e z, simp_of hs dv r⟩
end
/-- a block's context over another base -/
theorem Inv.rebase {Y : Cx} {pins : List (Addr × Obj)} {σ : L2.St} {H : Hp} {s : Shared} {base' : Heap} (I : Inv Y pins σ H s) (mod : Mod Y.K Y.mg base') (bs : ∀ b o, base'.get? b = some o → Y.s_0.heap.get? b = some o ∧ Y.H_0 b = none)
    (bsz : base'.objs.size ≤ Y.s_0.heap.objs.size) (noex : ∀ b o, base'.get? b = some o → b ∉ Y.ex) (funs : Y.s_0.heap.FunFrames base' Y.outer) : Inv { Y with base := base' } pins σ H s := by
  obtain ⟨o, h1, h2, h3, h4, h5, h6, h7, h8, h9, h10⟩ := I
  exact ⟨⟨mod, o.kind, o.glob, o.blt, o.above, o.inj, o.has, o.cab, o.hd, o.frames, o.stk, o.exf, bs, bsz, noex, o.exfs, funs, o.frf⟩, h1, h2, h3, h4, h5, h6, h7, h8, h9, h10⟩
end DL
set_option Elab.async false
set_option linter.all false
set_option maxRecDepth 100000
set_option maxHeartbeats 2000000
/-! DL20: a list comprehension whose block is told what the frame's cells hold. -/
namespace DL
open PySem PySem.Spec PyProof.Rows L2
/-- the block's context over another base -/
abbrev blkR (X : Cx) (base' : Heap) (s : Shared) (H : Hp) (scope : Scope) (cenv : Env) (fp : List Addr) : Cx := { X.blk s H scope cenv fp with base := base' }
/-- what the cells of X hold, by the slots -/
def TellsAt (X : Cx) (base' : Heap) (σ : L2.St) : Prop := ∀ (i : Nat) (x : Str) (v : V), X.N[i]? = some x → (X.env.kindOf x = some .cell ∨ X.env.kindOf x = some .free) → σ[i]? = some (some v) → ∃ c u, X.env.cells.lookup x = some c ∧ base'.IsCell c (some u) ∧ RelV v u
theorem Based.tells {X : Cx} {pins : List (Addr × Obj)} {σ : L2.St} {H : Hp} {s : Shared} {base' : Heap} (b : Based X base' H s) (I : Inv X pins σ H s) : TellsAt X base' σ := fun i x v hN hk hv => by
  obtain ⟨m, hn, hl⟩ := I.loc
  have hvis : Vis X.env.scope x := hk.elim (fun k => .inr (.inl k)) (fun k => .inr (.inr k))
  obtain ⟨u, r, q⟩ := hl i x v hN hv hvis
  rcases q with ⟨k, _⟩ | ⟨_, c, e, z⟩
  · rcases hk with k' | k' <;> rw [k'] at k <;> cases k
  · exact ⟨c, u, e, b.cell x c _ e z, r⟩
def tLcR (X : Cx) (wi : TI) (g : TG) (tt : Heap → TT) (te : Heap → TE) (vs : List Nat) : TE := fun σ H Q => wi σ H fun J H1 => ∀ D base', H1 D = none → Up X.base base' → TellsAt X base' σ → ∃ W : Nat → Nat → Hp → Prop, (∃ m, W 0 m (upd H1 D (.lst []))) ∧ ∀ i m H, W i m H →
  (J.stop i H ∧ Q (.ref D) H) ∨ (J.go i H ∧ ∃ Nx : Hp → Prop, (∀ H', Nx H' → ∃ m', m' < m ∧ W (i + 1) m' H') ∧ ∀ x H', J.yld i H x H' → g x (wipe σ vs) H' fun σ2 H2 => wipe σ2 vs = wipe σ vs ∧ tt base' σ2 H2 fun b H3 =>
    if b = true then te base' σ2 H3 fun y H4 => ∃ acc, H4 D = some (.lst acc) ∧ acc.length < sizeLine ∧ Nx (upd H4 D (.lst (acc ++ [y]))) else Nx H3)
section
variable {X : Cx}
theorem pe_lcR {elt tg iter : Expr} {ifs : List Expr} {scope : Scope} {own : List (Str × Nat)} {pos : Pos} {wi : TI} {g : TG} {tt : Heap → TT} {te : Heap → TE}
    (hc : X.calm = true) (hN : X.N.Nodup) (hfn : ∀ x, X.fn x = true) (hi : PI X tg iter wi) (ok : BlkOk X.N X.env.scope scope own)
    (hg : ∀ (b : Heap) (s : Shared) (H : Hp) (C : Addr) (cl : List (Str × Addr)) (fp : List Addr), PG (blkR X b s H scope (compEnvC scope cl C X.env) fp) tg g)
    (ht : ∀ (b : Heap) (s : Shared) (H : Hp) (C : Addr) (cl : List (Str × Addr)) (fp : List Addr), Up X.base b → PTs (blkR X b s H scope (compEnvC scope cl C X.env) fp) ifs (tt b))
    (he : ∀ (b : Heap) (s : Shared) (H : Hp) (C : Addr) (cl : List (Str × Addr)) (fp : List Addr), Up X.base b → PE (blkR X b s H scope (compEnvC scope cl C X.env) fp) elt (te b)) (hs : ∀ x, foldedSetIterable iter X.env x = pure x := by intro _; rfl) :
    PE X (.ListComp elt [⟨tg, iter, ifs, 0⟩] scope pos) (tLcR X wi g tt te (own.map (·.2))) := by
  refine ⟨fun pins s σ H Q I h => ?_⟩
  rw [eval_ListComp]
  have hfree : ∀ y ∈ scope.names, y.2 = .free → ∃ c, X.env.cells.lookup y.1 = some c := fun y hy e => (ok.free y hy e).elim (fun k => I.ok.has _ (.inl k)) fun k => I.ok.has _ (.inr k)
  refine wpAny_comprehension_free (use := none) rfl hs (closure_ok hfree) ok.kind (fun y hy e => by rw [ok.uniq y hy, e]) (thn (hi.run pins s σ H _ I h) fun xv s1 hx => thn hx fun itv s2 h2 => ?_)
  obtain ⟨it, fp, tn, J, H2, e, I2, T, st2, f2, q⟩ := h2
  subst e
  refine wpAny_newObj_type (newEnv_comp ?_) (by show 0 ≤ sizeLine; decide)
  -- the list that is made: at D, in s3
  obtain ⟨D, hD⟩ : ∃ D, D = s2.heap.objs.size := ⟨_, rfl⟩
  obtain ⟨s3, hs3⟩ : ∃ s3 : Shared, s3 = { s2 with heap := s2.heap.push { cls := .type "list", data := .seq ([] : List Value).toArray } } := ⟨_, rfl⟩
  have hDn : H2 D = none := I2.hok.fresh (by rw [hD]; exact Nat.le_refl _)
  have h3 : s3.heap = s2.heap.push { cls := .type "list", data := .seq ([] : List Value).toArray } := by rw [hs3]
  have I3 : Inv X pins σ (upd H2 D (.lst [])) s3 := by
    rw [hs3]
    refine I2.laid (t' := s2.toks) (fun b o e => Heap.get?_push_of_some _ e) (by rw [hD]; exact Nat.le_refl _) ⟨Nat.zero_le _, [], 0, .nil, ?_⟩
    rw [hD]
    exact Heap.get?_push_size _ rfl
  rw [← hs3, ← hD]
  obtain ⟨H3, hH3⟩ : ∃ H3, H3 = upd H2 D (.lst []) := ⟨_, rfl⟩
  rw [← hH3] at I3
  obtain ⟨base', bb⟩ := based_at hfn I3
  obtain ⟨W, ⟨m0, w0⟩, turn⟩ := q D base' hDn bb.up (bb.tells I3)
  rw [← hH3] at w0
  have sz : ∀ b ∈ fp, b < s2.heap.objs.size := fun b hb => let ⟨o, e, _⟩ := T.obj _ _ st2 b hb; Heap.lt_size e
  have f3 : ∀ b ∈ fp, FpOk X pins H3 b ∧ b < s3.heap.objs.size := fun b hb => by
    have hlt := sz b hb
    refine ⟨⟨?_, (f2 b hb).2⟩, by rw [h3, Heap.size_push]; exact Nat.lt_succ_of_lt hlt⟩
    rw [hH3, upd_ne (by rw [hD]; exact Nat.ne_of_lt hlt)]
    exact (f2 b hb).1
  have st3 : tn 0 s3.heap := T.keep _ _ _ st2 fun b _ o e => by rw [h3]; exact Heap.get?_push_of_some _ e
  obtain ⟨ce, hce⟩ : ∃ ce, ce = compEnvC scope (cellsFrom (s3.heap.objs.size + 1) scope.names (cloFrom X.env.cells scope.names [])) s3.heap.objs.size X.env := ⟨_, rfl⟩
  obtain ⟨s4, hs4⟩ : ∃ s4 : Shared, s4 = { s3 with heap := pushCells (s3.heap.push { cls := .type "dict", data := .dict #[] }) scope.names } := ⟨_, rfl⟩
  have J4 := block_start I3 ok hN f3
  rw [← hce, ← hs4] at J4
  have I4 : Inv (blkR X base' s3 H3 scope ce fp) [] (wipe σ (own.map (·.2))) H3 s4 := DL.Inv.rebase J4 bb.mod bb.bs bb.bsz (fun b o e hb => by
    rcases bb.from_ b o e with z | ⟨x, z⟩
    · exact J4.ok.noex b o z hb
    · exact (f3 b hb).1.2.2.2.2.1 x b z rfl) bb.funs
  have pg := hg base' s3 H3 s3.heap.objs.size (cellsFrom (s3.heap.objs.size + 1) scope.names (cloFrom X.env.cells scope.names [])) fp
  have pt := ht base' s3 H3 s3.heap.objs.size (cellsFrom (s3.heap.objs.size + 1) scope.names (cloFrom X.env.cells scope.names [])) fp bb.up
  have pe := he base' s3 H3 s3.heap.objs.size (cellsFrom (s3.heap.objs.size + 1) scope.names (cloFrom X.env.cells scope.names [])) fp bb.up
  rw [← hce] at pg pt pe
  have cL : ce.locals = s3.heap.objs.size := by rw [hce]; rfl
  show codeAny _ _ (.compStart (.ListComp elt [⟨tg, iter, ifs, 0⟩] scope pos) 0 (.ref it) (.ref D) (compEnvC scope (cellsFrom (s3.heap.objs.size + 1) scope.names (cloFrom X.env.cells scope.names [])) s3.heap.objs.size X.env)) (compPost (model X.prog X.w) X.A X.xe none (fun v s' => EP X pins σ Q v s') (.ref D) s3.heap.objs.size) { s3 with heap := pushCells (s3.heap.push { cls := .type "dict", data := .dict #[] }) scope.names }
  rw [← hce, ← hs4]
  have st4 : tn 0 s4.heap := T.keep _ _ _ st3 fun b _ o e => by rw [hs4]; exact pushCells_keeps _ _ _ _ (Heap.get?_push_of_some _ e)
  have stat : ∀ {σ' : L2.St} {H' : Hp} {s' : Shared}, Inv (blkR X base' s3 H3 scope ce fp) [] σ' H' s' → (∀ b ∈ fp, H' b = none) → ∀ b ∈ fp, FpOk (blkR X base' s3 H3 scope ce fp) [] H' b := fun {σ' H' s'} I' hn b hb =>
    ⟨hn b hb, (I'.ok.exf b hb).1, I'.ok.exfs b hb, .inl hb, fun x c e => (I'.ok.exf b hb).2 x c e, fun p hp => absurd (show p ∈ ([] : List (Addr × Obj)) ++ [] from hp) (by simp)⟩
  have loop : codeAny (model X.prog X.w) X.A (.compLoop (.ListComp elt [⟨tg, iter, ifs, 0⟩] scope pos) 0 (.ref it) (.ref D) ce) (compPost (model X.prog X.w) X.A X.xe none (fun v s' => EP X pins σ Q v s') (.ref D) s3.heap.objs.size) s4 := by
    refine compLoop_any (fun n s' => ∃ i H', Inv (blkR X base' s3 H3 scope ce fp) [] (wipe σ (own.map (·.2))) H' s' ∧ tn i s'.heap ∧ (∀ b ∈ fp, H' b = none) ∧ W i n H') ?_ m0 ⟨0, H3, I4, st4, fun b hb => (f3 b hb).1.1, w0⟩
    rintro n s5 ⟨i, H5, I5, st5, n5, w5⟩
    rcases turn i n H5 w5 with ⟨stop, qq⟩ | ⟨go, Nx, hNx, step⟩
    · -- the end: in the def's context again
      refine thnF (T.done (blkR X base' s3 H3 scope ce fp) rfl rfl rfl hc i [] s5 _ H5 (fun _ _ => False) I5 (stat I5 n5) st5 stop) fun r s6 ⟨hr, I6⟩ => ?_
      subst hr
      have I7 : Inv X pins σ H5 s6 := I3.call' (ch := fp) I6.os I6.base I6.hok I6.bare fun b hb => ⟨(f3 b hb).1.2.2.2.1, (f3 b hb).1.2.1, (f3 b hb).1.2.2.2.2.1, (f3 b hb).1.2.2.2.2.2⟩
      have nC : H5 s3.heap.objs.size = none := by
        have z : H5 ce.locals = none := I6.free
        rwa [cL] at z
      obtain ⟨m, hn, _⟩ := I6.loc
      have hn : s6.heap.Ns ce.locals m := hn
      rw [cL] at hn
      obtain ⟨f0, f1, f2, f3, f4, f5⟩ := I3.fpOk (Nat.le_refl _) nC
      exact ⟨m, hn, fun h'' sb => ⟨.ref D, H5, I7.turned (t' := s6.toks) (fun b o hb e => (sb.2 b hb).trans e) f0 f1 f3 f4 f5, rfl, qq⟩⟩
    · refine thnF (T.item (blkR X base' s3 H3 scope ce fp) rfl rfl rfl hc i [] s5 _ H5 (fun _ _ => False) I5 (stat I5 n5) st5 go) fun r s6 ⟨u, hr, h6⟩ => ?_
      subst hr
      refine thnF h6 fun _ s7 ⟨x, H7, I7, r7, y7, st7, n7⟩ => ?_
      refine thnF (pg.run _ s7 _ H7 x u _ (I7.pinned (stat I7 n7) (T.obj _ _ st7)) r7 (step x H7 y7)) fun _ s8 ⟨σ8, H8, I8, hw8, q8⟩ => ?_
      refine thnF (pt.run _ s8 σ8 H8 _ I8 q8) fun b s9 ⟨H9, I9, q9⟩ => ?_
      -- a turn is over
      have fin : ∀ {s' : Shared} {H' : Hp}, Inv (blkR X base' s3 H3 scope ce fp) ([] ++ pinsAt fp s7.heap) σ8 H' s' → Nx H' → ∃ m, m < n ∧ ∃ i H', Inv (blkR X base' s3 H3 scope ce fp) [] (wipe σ (own.map (·.2))) H' s' ∧ tn i s'.heap ∧ (∀ b ∈ fp, H' b = none) ∧ W i m H' := fun {s' H'} I' nx => by
        obtain ⟨m', hm, w'⟩ := hNx H' nx
        have pinned : ∀ b ∈ fp, ∀ o, s7.heap.get? b = some o → s'.heap.get? b = some o ∧ H' b = none := fun b hb o e =>
          let z := I'.pin (b, o) (List.mem_append_right _ (List.mem_append_right _ (mem_pinsAt hb e)))
          ⟨z.1, z.2.1⟩
        refine ⟨m', hm, i + 1, H', (I'.unpinned (pins := [])).weak (by rw [← hw8, wipe_length]) (fun j v e => ?_), T.keep _ _ _ st7 fun b hb o e => (pinned b hb o e).1, fun b hb => ?_, w'⟩
        · rw [← hw8] at e
          exact (wipe_some e).1
        · obtain ⟨o, e, _⟩ := T.obj _ _ st7 b hb
          exact (pinned b hb o e).2
      cases b with
      | false =>
        simp only [Bool.false_eq_true, if_false] at q9 ⊢
        exact fin I9 q9
      | true =>
        simp only [if_true] at q9 ⊢
        exact thnF (pe.run _ s9 σ8 H9 _ I9 q9) fun z s10 ⟨yv, H10, I10, r10, acc, hD10, hz10, nx⟩ => app_ok (X := blkR X base' s3 H3 scope ce fp) I10 hD10 hz10 r10 fun s11 I11 => fin I11 nx
  exact codeAny_compStart_list loop (T.self X.A 0 _ _ _ st4 loop)
end
end DL
set_option Elab.async false
set_option linter.all false
set_option maxRecDepth 100000
set_option maxHeartbeats 2000000
/-! DL21: lambdas that capture names: made, called, handed to a def. -/
namespace DL
open PySem PySem.Spec PyProof.Rows L2
/-- the captured slots, told of a base -/
def Told (Zc : Heap → Str → D → Prop) (caps : List (Nat × Str)) (base' : Heap) (Γ : Gm) : Prop := ∀ p ∈ caps, ∀ d, getS Γ p.1 = some d → simpB d = true → Zc base' p.2 d
/-- the names of caps are the frame's cells -/
def capsB (N : List Str) (names : List (Str × NameKind)) (caps : List (Nat × Str)) : Bool := caps.all fun p => decide (N[p.1]? = some p.2) && (decide (names.lookup p.2 = some .cell) || decide (names.lookup p.2 = some .free))
theorem told_of {X : Cx} {base' : Heap} {σ : L2.St} {F : Hp} {Γ : Gm} {caps : List (Nat × Str)} (T : TellsAt X base' σ) (sl : Slots X.K F σ Γ) (hc : capsB X.N X.env.scope.names caps = true) : Told (CellD X.env.cells) caps base' Γ := fun p hp d hd hs => by
  have h := List.all_eq_true.mp hc p hp
  simp only [Bool.and_eq_true, Bool.or_eq_true, decide_eq_true_eq] at h
  obtain ⟨v, hv, dv⟩ := sl.at_ p.1 d (getS_at hd)
  obtain ⟨c, u, e, z, r⟩ := T p.1 p.2 v h.1 h.2 hv
  exact ⟨c, u, e, z, simp_of hs dv r⟩
section
variable {X : Cx} {TS : List Addr} {W : WX} {elt tg iter : Expr} {ifs : List Expr} {scope : Scope} {own : List (Str × Nat)} {wi : DTI} {g : DTG} {gv : TG} {tt : Heap → DTT} {te : Heap → DTE} {pos : Pos}
/-- [elt for tg in iter if ..] over a told base -/
def dLcR (base : Heap) (Zc : Heap → Str → D → Prop) (caps : List (Nat × Str)) (vs : List Nat) (wi : DTI) (g : DTG) (tt : Heap → DTT) (te : Heap → DTE) : DTE := fun Γ B q x => wi Γ B (fun ds gd B1 => sizeOk ds ∧
  ∀ base', Up base base' → Told Zc caps base' Γ → lcK gd g (tt base') (te base') (wipeD Γ vs) (fun acc B2 => q (.lst acc) B2) ds [] B1) x
theorem de_lcR {caps : List (Nat × Str)} (hc : X.calm = true) (hN : X.N.Nodup) (hfn : ∀ x, X.fn x = true) (hcp : capsB X.N X.env.scope.names caps = true) (hi : DI X TS W tg iter wi) (ok : BlkOk X.N X.env.scope scope own) (hog : OwnG g gv (own.map (·.2)) X.K TS)
    (hg : ∀ (b : Heap) (s : Shared) (H : Hp) (C : Addr) (cl : List (Str × Addr)) (fp : List Addr), PG (blkR X b s H scope (compEnvC scope cl C X.env) fp) tg gv)
    (ht : ∀ (b : Heap) (s : Shared) (H : Hp) (C : Addr) (cl : List (Str × Addr)) (fp : List Addr), Up X.base b → DTs (blkR X b s H scope (compEnvC scope cl C X.env) fp) TS ifs (tt b))
    (he : ∀ (b : Heap) (s : Shared) (H : Hp) (C : Addr) (cl : List (Str × Addr)) (fp : List Addr), Up X.base b → DE (blkR X b s H scope (compEnvC scope cl C X.env) fp) TS W0 elt (te b)) (hs : ∀ x, foldedSetIterable iter X.env x = pure x := by intro _; rfl) :
    DE X TS W (.ListComp elt [⟨tg, iter, ifs, 0⟩] scope pos) (dLcR X.base (CellD X.env.cells) caps (own.map (·.2)) wi g tt te) :=
  PE_imp (pe_lcR (tt := fun b => LT X.K TS W0 (tt b)) (te := fun b => LE X.K TS W0 (te b)) hc hN hfn hi ok hg ht he hs) fun σ H Q ⟨F, Γ, B, R, q, x, s, rp, hu, hq, hx⟩ => by
  refine ⟨F, Γ, B, R, _, x, s, rp, hu, fun ds gd B1 F1 H1 J h1 e1 rp1 gvs => ?_, hx⟩
  obtain ⟨hz, h1⟩ := h1
  have hz := sizeOk_le hz
  obtain ⟨G, Y, wk, hG, hY⟩ := gvs
  intro D base' hD hup htl
  have h1 := h1 base' hup (told_of htl s hcp)
  have hR1 : R D = none := rp1.freeR hD
  have hnT : D ∉ TS := fun hT => by rw [rp1.tb D hT] at hR1; cases hR1
  refine lc_it wk (fun i H => ∃ F2 B acc, Same F1 F2 ∧ RepH X.K TS F2 H B (put R D (.lst acc)) ∧ acc.length ≤ i ∧ lcK gd g (tt base') (te base') (wipeD Γ (own.map (·.2))) (fun acc B2 => q (.lst acc) B2) (ds.drop i) acc B)
    ⟨F1, B1, [], Same.refl F1, rp1.boxR hD ⟨[], upd_same, rfl⟩, Nat.le_refl _, h1⟩ ?_ ?_ ?_
  · rintro i H hi ⟨F2, B, acc, e2, rp2, ha, h2⟩
    refine hG F2 H B _ e2 rp2 ?_
    cases hd : ds.drop i with
    | nil => rw [hd] at h2; exact (guard_at h2).1
    | cons d r => rw [hd] at h2; exact (guard_at h2).1
  · rintro i v H H2 hi ⟨F2, B, acc, e2, rp2, ha, h2⟩ hy
    rw [List.drop_eq_getElem_cons hi] at h2
    obtain ⟨hgd, h2⟩ := guard_at h2
    obtain ⟨F3, d, e3, rp3, hd, dv⟩ := hY i H v H2 F2 B _ e2 rp2 hgd hy
    have ed : d = ds[i] := by rw [List.getElem?_eq_getElem hi] at hd; exact (Option.some.inj hd).symm
    subst ed
    refine hog.go _ v σ (wipeD Γ (own.map (·.2))) F3 H2 B _ _ _ ((slots_wipe s (own.map (·.2))).mono (e1.trans (e2.trans e3))) rp3 dv h2 fun Γ4 B4 F4 σ4 H4 h4 e4 s4 rp4 hw => ⟨hw, ?_⟩
    refine ⟨F4, Γ4, B4, _, _, noX, s4, rp4, h4, fun b B5 F5 H5 h5 e5 rp5 => ?_, XL.noX⟩
    cases b with
    | true =>
      refine iteT ⟨F5, Γ4, B5, _, _, noX, s4.mono e5, rp5, h5, fun y B6 F6 H6 u h6 e6 rp6 dv6 => ?_, XL.noX⟩
      obtain ⟨_, us, h7, h8⟩ := rp6.rx D _ put_same
      refine ⟨us, h7, by rw [h8.length]; omega, F6, B6, acc ++ [y], e2.trans (e3.trans (e4.trans (e5.trans e6))), ?_, by rw [List.length_append]; show acc.length + 1 ≤ i + 1; omega, h6⟩
      have rp7 := rp6.writeR (b := .lst (acc ++ [y])) (o := .lst (us ++ [u])) put_same (.inl (fun z => by cases z)) ⟨_, upd_same, h8.append ⟨u, [], rfl, dv6, rfl⟩⟩
      rw [put_put] at rp7
      exact rp7
    | false => exact iteF ⟨F5, B5, acc, e2.trans (e3.trans (e4.trans e5)), rp5, by omega, h5⟩
  · rintro H ⟨F2, B, acc, e2, rp2, ha, h2⟩
    rw [List.drop_length] at h2
    obtain ⟨_, h2⟩ := guard_at h2
    obtain ⟨F3, e3, rp3, dv⟩ := rp2.freezeR put_same hnT
    rw [era_put hR1] at rp3
    exact hq _ B F3 H _ h2 (e1.trans (e2.trans e3)) rp3 dv
end
/-! ### a call over a told base -/
section
variable {X : Cx} {TS : List Addr} {W : WX} {pos p apos : Pos} {e : Expr} {es : List Expr} {tl : DTA} {k : Nat} {ps : List Str} {sp : Heap → SpD} {x : Str}
def dCallR (base : Heap) (Zc : Heap → Str → D → Prop) (caps : List (Nat × Str)) (sp : Heap → SpD) (tl : DTA) : DTE := fun Γ B q x => tl Γ B (fun ds B1 => ∀ base', Up base base' → Told Zc caps base' Γ → sp base' ds B1 q x) x
theorem de_callR {caps : List (Nat × Str)} (G : ∀ base', Up X.base base' → FnA X.prog X.w X.K X.mg base' TS x ps k (sp base')) (hfn : ∀ x, X.fn x = true) (hcp : capsB X.N X.env.scope.names caps = true) (hr : Room k X.A) (tk : Takes X W) (ha : DA X TS W (e :: es) tl) (hg : Gl X x := by rfl) (hdb : (x == ("__debug__" : Str)) = false := by decide)
    (he : starEach (e :: es) X.env = (false, eval e X.env) :: starEach es X.env := by rfl) (hpl : (backTo pos (starEach es X.env)).any (·.1) = false := by rfl) :
    DE X TS W (.Call (.Name x p) (e :: es) [] pos) (dCallR X.base (CellD X.env.cells) caps sp tl) := by
  obtain ⟨f, fd, G1, hm, hk, hb⟩ := (G X.base fun _ _ e => e).ok
  refine ⟨fun pins s σ H Q I ⟨F, Γ, B, R, q, x, sl, rp, hu, hq, hx⟩ => ?_⟩
  refine wpAny_Call_Name_kw (ld_glob I hg hm ?_ hdb)
  refine PySem.W.callWith_K (h₀ := X.base) I.ok.mod.kin hk (thn (ha.run pos pins s σ H (fun vs H1 => ∀ base', Up X.base base' → TellsAt X base' σ → LSp X.K TS (sp base') vs H1 Q (WE W σ)) I
    ⟨F, Γ, B, R, _, x, sl, rp, hu, fun ds B1 F1 H1 vs h1 e1 rp1 dv1 base' hup htl => call_lift (sl.mono e1) rp1 dv1 (h1 base' hup (told_of htl sl hcp)) (hq.mono e1) (hx.mono e1), hx⟩) fun us s1 ⟨vs, H1, I1, r, q1⟩ => ⟨I1.kIn, ?_⟩) he hpl
  obtain ⟨base', bb⟩ := based_at hfn I1
  obtain ⟨f', fd', G2, hm', _, hb'⟩ := (G base' bb.up).ok
  rw [hm] at hm'
  cases hm'
  have h := q1 base' bb.up (bb.tells I1)
  have hl : us.length = ps.length := by rw [← r.length]; exact G2.len _ _ _ _ h
  have b := hb' s1 us I1.kIn (by rw [List.append_nil]; exact hl)
  rw [List.append_nil] at b
  refine wpAny_call (codeAny_mono (G2.run X.A X.stack s1 H1 ⟨us, []⟩ us vs Q (WE W σ) hr (bb.env0 I1) b r h) fun r s' hq => ?_)
  cases r with
  | error e => exact passAt tk σ pins H1 s1 e s' I1 hq
  | ok fl =>
    cases fl with
    | ret u => exact I1.after hq
    | next => exact False.elim hq
    | brk => exact False.elim hq
    | cont => exact False.elim hq
end
/-! ### a lambda that captures -/
def LamOC (f : Addr) (q : Str) (params : Arguments) (body : Expr) (scope : Scope) (cl : List (Str × Addr)) (pm ctv : Value) (c' : Addr) : HO := .ext fun h => h.get? f = some (PySem.W.kla_obj "<lambda>" q params body scope cl pm c' ctv)
/-- no parameter, no name of its own; its names captured: N -/
structure LamN (names : List (Str × NameKind)) (scope : Scope) (N : List Str) : Prop where
  kind : scope.kind = .function
  co : scope.isCoroutine = false
  gen : scope.isGenerator = false
  own : ∀ y ∈ scope.names, y.2 ≠ .local ∧ y.2 ≠ .cell
  free : ∀ y ∈ scope.names, y.2 = .free → names.lookup y.1 = some .cell ∨ names.lookup y.1 = some .free
  nd : N.Nodup
  at_ : ∀ x ∈ N, scope.names.lookup x = some .free
  all : ∀ y ∈ scope.names, y.2 = .free → y.1 ∈ N
def lamNB (names : List (Str × NameKind)) (scope : Scope) (N : List Str) : Bool := decide (scope.kind = .function) && !scope.isCoroutine && !scope.isGenerator && (scope.names.all fun y => !decide (y.2 = .local) && !decide (y.2 = .cell) && (!decide (y.2 = .free) || decide (names.lookup y.1 = some .cell) || decide (names.lookup y.1 = some .free))) && decide N.Nodup && (N.all fun x => decide (scope.names.lookup x = some .free)) && scope.names.all fun y => !decide (y.2 = .free) || decide (y.1 ∈ N)
theorem lamN_by {names : List (Str × NameKind)} {scope : Scope} {N : List Str} (h : lamNB names scope N = true) : LamN names scope N := by
  unfold lamNB at h
  simp only [Bool.and_eq_true, Bool.or_eq_true, Bool.not_eq_true', decide_eq_true_eq, decide_eq_false_iff_not, List.all_eq_true] at h
  obtain ⟨⟨⟨⟨⟨⟨h1, h2⟩, h3⟩, h4⟩, h5⟩, h6⟩, h7⟩ := h
  refine ⟨h1, h2, h3, fun y hy => (h4 y hy).1, fun y hy e => ?_, h5, h6, fun y hy e => (h7 y hy).elim (fun z => absurd e z) fun z => z⟩
  rcases (h4 y hy).2 with (z | z) | z
  · exact absurd e z
  · exact .inl z
  · exact .inr z
abbrev lamEC (qual : Str) (scope : Scope) (cl : List (Str × Addr)) (L f c' : Addr) : Env := PySem.W.envX qual scope L f (.ref c') cl
def lamXC (P : Program) (w : World) (K : PySem.W.Frag) (mg : Str → Option Value) (base : Heap) (N : List Str) (qual : Str) (scope : Scope) (cl : List (Str × Addr)) (f c' : Addr) (A : Around) (outer : List Env) (s : Shared) (H : Hp) (E : XK) : Cx where
  prog := P
  w := w
  K := K
  mg := mg
  base := base
  A := A.deeper (lamEC qual scope cl s.heap.objs.size f c')
  N := N
  s_0 := s
  H_0 := H
  env := lamEC qual scope cl s.heap.objs.size f c'
  outer := outer
  stack := lamEC qual scope cl s.heap.objs.size f c' :: outer
  ex := []
  fn := fun _ => false
  calm := true
  pn := []
  xe := fun e s' => wpAny (model P w) (A.deeper (lamEC qual scope cl s.heap.objs.size f c')) (leaving (lamEC qual scope cl s.heap.objs.size f c') e) (fun _ s'' => L2.CX P w outer H s E e s'') (fun e' s'' => L2.CX P w outer H s E e' s'') s'
/-- what the frame's cells tell, of the closure -/
structure CloOk (cells cl : List (Str × Addr)) (scope : Scope) : Prop where
  fr : ∀ x c, cl.lookup x = some c → (x, NameKind.free) ∈ scope.names
  at_ : ∀ x c, cl.lookup x = some c → cells.lookup x = some c
  has : ∀ x, scope.names.lookup x = some .free → ∃ c, cl.lookup x = some c
  inj : ∀ x y c, cl.lookup x = some c → cl.lookup y = some c → x = y
theorem clo_of {X : Cx} {scope : Scope} {N : List Str} (L : LamN X.env.scope.names scope N) (ok : X.Ok) : CloOk X.env.cells (cloFrom X.env.cells scope.names []) scope := by
  have hfree : ∀ y ∈ scope.names, y.2 = .free → ∃ c, X.env.cells.lookup y.1 = some c := fun y hy e => by
    rcases L.free y hy e with k | k
    · exact ok.has _ (.inl k)
    · exact ok.has _ (.inr k)
  have cm : ∀ {y c}, (cloFrom X.env.cells scope.names []).lookup y = some c → X.env.cells.lookup y = some c := fun {y c} e => by
    rcases cloFrom_mem (PySem.mem_of_lookup e) with hm | ⟨h1, h2⟩
    · cases hm
    · obtain ⟨c1, hc⟩ := hfree _ h1 rfl
      have hc : X.env.cells.lookup y = some c1 := hc
      have e2 : c = c1 := by
        rw [h2, hc] <;> rfl
      rw [e2]
      exact hc
  exact ⟨fun x c e => (cloFrom_mem (PySem.mem_of_lookup e)).elim (fun z => by cases z) fun z => z.1, fun x c e => cm e, fun x hl => mem_lookup (cloFrom_has (cells := X.env.cells) (acc := []) (PySem.mem_of_lookup hl)), fun x y c e1 e2 => ok.inj x y c (cm e1) (cm e2)⟩
section
variable {P : Program} {w : World} {K : PySem.W.Frag} {mg : Str → Option Value} {base : Heap} {TS : List Addr} {H : Hp} {s : Shared}
theorem lam_enterC {A : Around} {outer : List Env} {E : XK} {qual : Str} {names : List (Str × NameKind)} {scope : Scope} {N : List Str} {cells cl : List (Str × Addr)} {f c' : Addr} {h₁ : Heap} {tk : Nat} {σ : L2.St} (L : LamN names scope N) (C : CloOk cells cl scope)
    (hσ : σ.length = N.length) (hv : ∀ (i : Nat) (x : Str), N[i]? = some x → ∃ c u, cells.lookup x = some c ∧ base.IsCell c (some u) ∧ ∀ v, σ[i]? = some (some v) → RelV v u)
    (e0 : Env0 P w K mg base A outer s H) (hd : A.handled = none)
    (hns : h₁.Ns s.heap.objs.size fun y => ([] : List (Str × Value)).reverse.lookup y) (kp : ∀ b o, s.heap.get? b = some o → h₁.get? b = some o) :
    Inv (lamXC P w K mg base N qual scope cl f c' A outer s H E) [] σ H { s with heap := h₁, toks := tk } := by
  have noA : ∀ b : Addr, b ∉ (lamXC P w K mg base N qual scope cl f c' A outer s H E).ex := fun b z => absurd (show b ∈ ([] : List Addr) from z) (by simp)
  have cell : ∀ y c, cl.lookup y = some c → ∃ u o, base.get? c = some o ∧ o.data = .cell (some u) := fun y c e => by
    obtain ⟨i, hi⟩ := List.mem_iff_getElem?.mp (L.all _ (C.fr y c e) rfl)
    obtain ⟨c2, u, e2, ⟨o, h1, h2⟩, _⟩ := hv i y hi
    have e3 := C.at_ y c e
    rw [e2] at e3
    cases e3
    exact ⟨u, o, h1, h2⟩
  refine ⟨⟨e0.mod, L.kind, rfl, rfl, Nat.le_refl _, fun y z c e1 e2 => C.inj y z c e1 e2, fun y hy => ?_, fun y c z _ => ?_, fun _ => hd, Around.frames_deeper e0.frames, .inr ⟨rfl, rfl⟩, fun b z => absurd z (noA b), e0.bs, e0.bsz, fun b _ _ => noA b,
      fun b z => absurd z (noA b), e0.funs, e0.frf⟩,
    rfl, e0.bare, Un.kept kp, ⟨_, hns, fun i y v e1 e2 e3 => ?_⟩, fun y c e => ?_, e0.hok.fresh (Nat.le_refl _), fun y c e => ?_, fun q hq => absurd (show q ∈ ([] : List (Addr × Obj)) ++ [] from hq) (by simp), e0.hok.kept kp, hσ⟩
  · have hy : scope.names.lookup y = some .cell ∨ scope.names.lookup y = some .free := hy
    rcases hy with hy | hy
    · exact absurd rfl (L.own _ (PySem.mem_of_lookup hy)).2
    · exact C.has y hy
  · have z : false = true := z
    cases z
  · have e1 : N[i]? = some y := e1
    have hf := L.at_ y (List.mem_of_getElem? e1)
    obtain ⟨c, u, h1, ⟨o, h2, h2'⟩, h3⟩ := hv i y e1
    obtain ⟨c2, h4⟩ := C.has y hf
    have h5 := C.at_ y c2 h4
    rw [h1] at h5
    cases h5
    exact ⟨u, h3 v e2, .inr ⟨.inr hf, c, h4, o, kp _ _ (e0.bs _ _ h2).1, h2'⟩⟩
  · obtain ⟨u, o, h1, h2⟩ := cell y c e
    exact ⟨_, o, kp _ _ (e0.bs _ _ h1).1, h2⟩
  · obtain ⟨u, o, h1, h2⟩ := cell y c e
    exact (e0.bs _ _ h1).2
/-- plain data of the captured names, as slots -/
theorem slots_simp (F : Hp) {cells : List (Str × Addr)} : ∀ {N : List Str} {ds : List D}, (∀ (i : Nat) (x : Str), N[i]? = some x → ∃ d, ds[i]? = some d ∧ CellD cells base x d) → N.length = ds.length →
    ∃ σ : L2.St, σ.length = N.length ∧ Slots K F σ (ds.map some) ∧ ∀ (i : Nat) (x : Str), N[i]? = some x → ∃ c u, cells.lookup x = some c ∧ base.IsCell c (some u) ∧ ∀ v, σ[i]? = some (some v) → RelV v u
  | [], [], _, _ => ⟨[], rfl, ⟨rfl, fun i d h => by simp at h⟩, fun i x h => by simp at h⟩
  | [], _ :: _, _, hl => by cases hl
  | _ :: _, [], _, hl => by cases hl
  | x :: N, d :: ds, h, hl => by
    obtain ⟨σ, h1, h2, h3⟩ := slots_simp F (N := N) (ds := ds) (fun i y hi => by simpa using h (i + 1) y (by simpa using hi)) (by simpa using hl)
    obtain ⟨d', e, c, u, h4, h5, h6⟩ := h 0 x rfl
    have e : d = d' := by simpa using e
    subst e
    obtain ⟨v, dv, r⟩ := of_simp (K := K) (F := F) h6
    refine ⟨some v :: σ, by simp [h1], ⟨by simp [h2.len], fun i d' hi => ?_⟩, fun i y hi => ?_⟩
    · cases i with
      | zero =>
        have : d = d' := by simpa using hi
        subst this
        exact ⟨v, rfl, dv⟩
      | succ i =>
        obtain ⟨v', a, b⟩ := h2.at_ i d' (by simpa using hi)
        exact ⟨v', by simpa using a, b⟩
    · cases i with
      | zero =>
        have : x = y := by simpa using hi
        subst this
        refine ⟨c, u, h4, h5, fun v' hv' => ?_⟩
        have : v = v' := by simpa using hv'
        subst this
        exact r
      | succ i =>
        obtain ⟨c', u', a, b, cc⟩ := h3 i y (by simpa using hi)
        exact ⟨c', u', a, b, fun v' hv' => cc v' (by simpa using hv')⟩
/-- a lambda that captures keeps its promise by its body, over a base that tells what it captured -/
theorem cal_ofC {k : Nat} {sp : Bx → DK → XD → Prop} {f c' : Addr} {F : Hp} {q : Str} {params : Arguments} {body : Expr} {names : List (Str × NameKind)} {scope : Scope} {N : List Str} {cells cl : List (Str × Addr)} {pm ctv : Value} {ds : List D} (hF : F f = some (LamOC f q params body scope cl pm ctv c')) (hC : F c' = some (LamX.CodeO c' q))
    (L : LamN names scope N) (C : CloOk cells cl scope) (hds : ∀ (i : Nat) (x : Str), N[i]? = some x → ∃ d, ds[i]? = some d ∧ CellD cells base x d) (hl : N.length = ds.length)
    (hbind : ∀ (pm cv ctv : Value), bindArgs (PySem.W.kla_fn "<lambda>" q params body scope cl pm cv ctv) ⟨[], []⟩ = pure [])
    (hbody : ∀ (A : Around) (outer : List Env) (s : Shared) (H : Hp) (E : XK), InBody (lamXC P w K mg base N q scope cl f c' A outer s H E) (wE E) k → ∃ t, DE (lamXC P w K mg base N q scope cl f c' A outer s H E) TS (wE E) body t ∧ ∀ B q x, sp B q x → t (ds.map some) B q x) :
    Cal P w K mg base TS (k + 1) sp f F := by
  have obj : ∀ H h, Same F H → HOk P w H h → h.get? f = some (PySem.W.kla_obj "<lambda>" q params body scope cl pm c' ctv) := fun H h e hok => (hok f _ (e _ _ hF)).1
  refine ⟨fun H h e hok => ⟨_, _, _, _, obj H h e hok⟩, fun A outer s H Q E hr e0 e hsp => ?_⟩
  obtain ⟨F1, ds1, B, R, q1, x, h1, h2, h3, h4, h5⟩ := hsp
  have of1 := obj H s.heap e e0.hok
  obtain ⟨⟨oc, vs, t, hoc, hdc, hvc⟩, _, _⟩ := e0.hok c' _ (e _ _ hC)
  refine PySem.W.kla_callFunE hr.depth of1 rfl L.co L.gen rfl ⟨c', oc, vs, t, rfl, hoc, hdc, hvc⟩ ?_
  have lim : s.heap.NoLimit := e0.mod.nolimit.keeps fun b o e => (e0.bs b o e).1
  rw [hbind]
  refine wpAny_pure (wpAny_newFunctionEnv (fun y hy => (L.own y hy).2) (fun y hy => absurd hy (by simp)) (fun h₁ hns hsb => ⟨lim.fresh _ hsb, ?_⟩) L.kind)
  show codeAny _ _ (.expr body (lamEC q scope cl s.heap.objs.size f c')) _ _
  have kp : ∀ b o, s.heap.get? b = some o → h₁.get? b = some o := fun b o e => hsb.extBut b o (Nat.ne_of_lt (Heap.lt_size e)) (Heap.get?_push_of_some _ e)
  obtain ⟨σ, hσ, sl, hv⟩ := slots_simp (K := K) F1 hds hl
  have J : Inv (lamXC P w K mg base N q scope cl f c' A outer s H E) [] σ H { s with heap := h₁, toks := s.toks + ([] : List (Str × Value)).length } := lam_enterC L C hσ hv e0 hr.hd hns kp
  obtain ⟨t', ht, hq⟩ := hbody A outer s H E ⟨hr.deeper _, takes_of rfl rfl rfl rfl, passes_of rfl⟩
  refine PySem.W.kla_codeExpr (wpAny_mono (ht.run [] _ σ H Q J ⟨F1, ds.map some, B, R, q1, x, sl, h2, hq B q1 x h3, h4, fun C B' F' H' h e rp' => h5 C B' F' H' h e rp'⟩) (fun v s' hq2 => ?_) fun e s' hq2 => hq2)
  obtain ⟨w', H', J', rv, q2⟩ := hq2
  exact ⟨w', H', J'.os, J'.bare, J'.base, J'.hok, rv, q2⟩
end
end DL
set_option Elab.async false
set_option linter.all false
set_option maxRecDepth 100000
set_option maxHeartbeats 2000000
/-! DL22: lambda: body, names captured. -/
namespace DL
open PySem PySem.Spec PyProof.Rows L2
section
variable {X : Cx} {TS : List Addr} {W : WX} {c Pt : Addr} {params : Arguments} {body : Expr} {scope : Scope} {pos : Pos} {φ : Addr → Hp → Prop} {nm : Str}
/-- lambda: body, what it captures told -/
theorem de_lamC {N : List Str} (TB : LamX.TabB X.base X.mg c Pt) (L : LamN X.env.scope.names scope N) (hφ : ∀ (cl : List (Str × Addr)) (f c' : Addr) (pm ctv : Value) (F : Hp), CloOk X.env.cells cl scope → F f = some (LamOC f nm params body scope cl pm ctv c') → F c' = some (LamX.CodeO c' nm) → φ f F)
    (hcode : X.env.code = .ref c := by rfl) (hnm : nm = X.env.qual ++ "<lambda>" := by rfl) (hdef : defaultsOf params X.env = ([], []) := by rfl) : DE X TS W (.Lambda params body scope pos) (dLam Pt nm φ) := by
  refine ⟨fun pins s σ H Q I ⟨F, Γ, B, R, q, x, sl, rp, h, hq, hx⟩ => ?_⟩
  obtain ⟨hPt, h⟩ := h
  subst hnm
  have hfree : ∀ y ∈ scope.names, y.2 = .free → ∃ c, X.env.cells.lookup y.1 = some c := fun y hy e => (L.free y hy e).elim (fun k => I.ok.has _ (.inl k)) fun k => I.ok.has _ (.inr k)
  have CL := clo_of L I.ok
  have hcl : closureFor scope X.env = pure (cloFrom X.env.cells scope.names []) := closure_ok hfree
  obtain ⟨cl, ecl⟩ : ∃ cl, cl = cloFrom X.env.cells scope.names [] := ⟨_, rfl⟩
  rw [← ecl] at CL hcl
  obtain ⟨nFP, ps, hP, ht, ha⟩ := rp.bx Pt _ hPt
  refine PySem.W.kla_eval hdef ?_
  have bP : s.heap.BuiltinsAt X.mg Pt := TB.bm.keeps I.bk
  have hP' : s.heap.get? Pt = some { cls := .none, data := .fields ps } := I.hok Pt _ hP
  -- the last step: the function object
  have fin : ∀ (c' : Addr) (pm ctv : Value) (H1 F1 : Hp) (s1 : Shared), Inv X pins σ H1 s1 → Same F F1 → RepH X.K TS F1 H1 B R → F1 c' = some (LamX.CodeO c' (X.env.qual ++ "<lambda>")) →
      EP X pins σ Q (.ref s1.heap.objs.size) { s1 with heap := s1.heap.push (PySem.W.kla_obj "<lambda>" (X.env.qual ++ "<lambda>") params body scope cl pm c' ctv) } := fun c' pm ctv H1 F1 s1 I1 e1 rp1 hc' => by
    have hn : H1 s1.heap.objs.size = none := I1.hok.fresh (Nat.le_refl _)
    have ob : ObjOk X.prog X.w (upd H1 s1.heap.objs.size (LamOC s1.heap.objs.size (X.env.qual ++ "<lambda>") params body scope cl pm ctv c')) (s1.heap.push (PySem.W.kla_obj "<lambda>" (X.env.qual ++ "<lambda>") params body scope cl pm c' ctv)) s1.heap.objs.size (LamOC s1.heap.objs.size (X.env.qual ++ "<lambda>") params body scope cl pm ctv c') :=
      ⟨Heap.get?_push_size _ rfl, ⟨_, Heap.get?_push_size _ rfl⟩, fun h1 h2 z st => st _ z⟩
    have I2 := I1.laid (t' := s1.toks) (fun b o e => Heap.get?_push_of_some _ e) (Nat.le_refl _) ob
    have rp2 := rp1.datum (o := LamOC s1.heap.objs.size (X.env.qual ++ "<lambda>") params body scope cl pm ctv c') hn
    have sm : Same F1 (upd F1 s1.heap.objs.size (LamOC s1.heap.objs.size (X.env.qual ++ "<lambda>") params body scope cl pm ctv c')) := same_upd (rp1.freeF hn)
    refine ⟨.ref _, _, I2, rfl, hq _ B _ _ _ h (e1.trans sm) rp2 ⟨_, rfl, fun F2 e2 => ?_⟩⟩
    exact hφ cl _ c' pm ctv F2 CL (e2 _ _ upd_same) (e2 _ _ (sm _ _ hc'))
  cases hc : codeAmong pos ps.toList with
  | none =>
    refine PySem.W.kla_makeFunction (mg := X.mg) (c := c) (P := Pt) (ps := ps) hcl I.ok.glob (I.mod.glob.keeps I.bk) hcode (TB.code.keeps I.bk) hP' ht hc TB.gP bP fun c' ctv h' tk hx2 hge hlt hrec htb => ?_
    obtain ⟨c2, oc, vs, t, e2, hoc, hd, hv⟩ := hrec
    cases e2
    have nC : H c' = none := I.hok.fresh hge
    have nPc : Pt ≠ c' := ne_of_none hP nC
    have I1 := LamX.inv_table (t' := tk) (q := X.env.qual ++ "<lambda>") (more := #[rawInt pos.line, rawInt pos.col, .ref c']) (h' := h') I hP (fun b o hb e => hx2 b o hb e) htb hge ⟨oc, vs, t, hoc, hd, hv⟩
    have rp1 := rp.datum (o := LamX.CodeO c' (X.env.qual ++ "<lambda>")) nC
    have sm : Same F (upd F c' (LamX.CodeO c' (X.env.qual ++ "<lambda>"))) := same_upd (rp.freeF nC)
    have eL : (ps ++ #[rawInt pos.line, rawInt pos.col, .ref c']).toList = ps.toList ++ [rawInt pos.line, rawInt pos.col, .ref c'] := by simp
    have rp2 := rp1.write (b := .tabQ (X.env.qual ++ "<lambda>")) (o := .tbl (ps ++ #[rawInt pos.line, rawInt pos.col, .ref c'])) hPt ⟨_, upd_same, by rw [eL]; exact PySem.TriplesOk_snoc _ _ _ _ ht, fun p' cv hcv => by
      rw [eL] at hcv
      rcases LamX.among_app _ ht hcv with z | z
      · obtain ⟨c0, e1, e2⟩ := ha p' cv z
        exact ⟨c0, e1, sm _ _ e2⟩
      · exact ⟨c', z, upd_same⟩⟩
    rw [put_eq hPt] at rp2
    have eH : upd (upd H c' (LamX.CodeO c' (X.env.qual ++ "<lambda>"))) Pt (.tbl (ps ++ #[rawInt pos.line, rawInt pos.col, .ref c'])) = upd (upd H Pt (.tbl (ps ++ #[rawInt pos.line, rawInt pos.col, .ref c']))) c' (LamX.CodeO c' (X.env.qual ++ "<lambda>")) := by
      funext b
      by_cases h1 : b = c'
      · subst h1; rw [upd_ne (Ne.symm nPc), upd_same, upd_same]
      · rw [upd_ne h1]
        by_cases h2 : b = Pt
        · subst h2; rw [upd_same, upd_same]
        · rw [upd_ne h2, upd_ne h2, upd_ne h1]
    rw [eH] at rp2
    exact fin c' _ ctv _ _ { s with heap := h', toks := tk } I1 sm rp2 upd_same
  | some cv =>
    obtain ⟨c', e, hco⟩ := ha pos cv hc
    subst e
    refine PySem.W.kla_makeFunctionHit (mg := X.mg) (c := c) (P := Pt) (ps := ps) hcl I.ok.glob (I.mod.glob.keeps I.bk) hcode (TB.code.keeps I.bk) hP' ht hc bP fun ctv h' tk hx2 hsz => ?_
    have I1 : Inv X pins σ H { s with heap := h', toks := tk } := I.kept fun b o e => hx2 b o e
    exact fin c' _ ctv H F { s with heap := h', toks := tk } I1 (Same.refl F) rp hco
end
end DL
set_option Elab.async false
set_option linter.all false
set_option maxRecDepth 100000
set_option maxHeartbeats 2000000
/-! DL23: max, min of one sequence of whole numbers, with default=. -/
namespace DL
open PySem PySem.Spec PyProof.Rows L2
theorem Mo.up {fa : List He.Fa} {fn : List He.DefD} {tf tl : List He.Defn} {K : PySem.W.Frag} {mg : Str → Option Value} {base base' : Heap} (E : Mo fa fn tf tl K mg base) (h : Up base base') : Mo fa fn tf tl K mg base' :=
  have tb : ∀ {c P : Addr}, LamX.TabB base mg c P → LamX.TabB base' mg c P := fun t => ⟨t.code.keeps h, t.bm.keeps h, t.gP⟩
  ⟨E.c, E.X.keeps h, E.G.keeps h, fun p hp => tb (E.T p hp), fun p hp => tb (E.L p hp)⟩
def maxI (x : Int) (xs : List Int) : Int := xs.foldl (fun a y => if a < y then y else a) x
def minI (x : Int) (xs : List Int) : Int := xs.foldl (fun a y => if y < a then y else a) x
theorem maxOf_eq (x : Int) (xs : List Int) : PySem.W.maxOf x xs = maxI x xs := by
  unfold PySem.W.maxOf maxI
  congr 1
  funext a y
  show (if decide (a < y) = true then y else a) = _
  simp
theorem minOf_eq (x : Int) (xs : List Int) : PySem.W.minOf x xs = minI x xs := by
  unfold PySem.W.minOf minI
  congr 1
  funext a y
  show (if decide (y < a) = true then y else a) = _
  simp
theorem holdAll_ints {h : Heap} : ∀ {ns : List Int} {us : List Value}, Vals (ns.map V.int) us → PySem.W.HoldAll h us ns
  | [], us, r => by cases r; exact ⟨[], .nil⟩
  | n :: ns, us, r => by
    cases r with
    | cons r t =>
      obtain ⟨tk, rfl⟩ := r
      obtain ⟨as, q⟩ := holdAll_ints t
      exact ⟨[] ++ as, .cons (.int n tk) q⟩
theorem holds_int {h : Heap} {v : Value} {n : Int} (x : PySem.W.Holds h v n) : ∃ t, v = .int n t := by
  obtain ⟨as, r⟩ := x
  cases r with
  | int i t => exact ⟨t, rfl⟩
def rMax1 (K : PySem.W.Frag) (f : Int → List Int → Int) : List V → Hp → VK → Prop := fun vs H Q => ∃ (a : Addr) (n : Int) (ns : List Int), vs = [V.ref a] ∧ (SqL K H a ((n :: ns).map V.int) ∨ SqT K H a ((n :: ns).map V.int)) ∧ Q (.int (f n ns)) H
def rMaxD (K : PySem.W.Frag) (f : Int → List Int → Int) : List V → List V → Hp → VK → Prop := fun vs zs H Q => ∃ (a : Addr) (ns : List Int) (z : Int), vs = [V.ref a] ∧ zs = [.int z] ∧ (SqL K H a (ns.map V.int) ∨ SqT K H a (ns.map V.int)) ∧ Q (.int (match ns with | [] => z | n :: ns => f n ns)) H
section
variable {X : Cx}
theorem cr_max1 (hc : X.calm = true) (hu : X.A.units + 8 < cLine) : CallR X (.builtin "max") (rMax1 X.K maxI) := by
  intro pins s σ H vs us Q I r h
  obtain ⟨a, n, ns, rfl, hs, q⟩ := h
  rw [Vals.ref1 r]
  have hu' : X.A.units + 1 + PySem.W.Datum.depth Int < cLine := by show X.A.units + 1 + 0 < cLine; omega
  rcases hs with hs | hs
  · obtain ⟨its, rv, hl, _⟩ := I.list hs
    refine PySem.W.max_list_datum (I.ok.hd hc) hl.isList (x := n) (xs := ns) (holdAll_ints rv) hu' fun i v h' tk hi hv hk => ?_
    obtain ⟨t, rfl⟩ := holds_int hv
    exact ⟨.int _, H, I.kept hk, ⟨t, rfl⟩, by rw [maxOf_eq]; exact q⟩
  · obtain ⟨its, rv, hl, _⟩ := I.tuple hs
    refine PySem.W.max_tuple_datum (I.ok.hd hc) hl (x := n) (xs := ns) (holdAll_ints rv) hu' fun i v h' tk hi hv hk => ?_
    obtain ⟨t, rfl⟩ := holds_int hv
    exact ⟨.int _, H, I.kept hk, ⟨t, rfl⟩, by rw [maxOf_eq]; exact q⟩
theorem cr_min1 (hc : X.calm = true) (hu : X.A.units + 8 < cLine) : CallR X (.builtin "min") (rMax1 X.K minI) := by
  intro pins s σ H vs us Q I r h
  obtain ⟨a, n, ns, rfl, hs, q⟩ := h
  rw [Vals.ref1 r]
  have hu' : X.A.units + 1 + PySem.W.Datum.depth Int < cLine := by show X.A.units + 1 + 0 < cLine; omega
  rcases hs with hs | hs
  · obtain ⟨its, rv, hl, _⟩ := I.list hs
    refine PySem.W.min_list_datum (I.ok.hd hc) hl.isList (x := n) (xs := ns) (holdAll_ints rv) hu' fun i v h' tk hi hv hk => ?_
    obtain ⟨t, rfl⟩ := holds_int hv
    exact ⟨.int _, H, I.kept hk, ⟨t, rfl⟩, by rw [minOf_eq]; exact q⟩
  · obtain ⟨its, rv, hl, _⟩ := I.tuple hs
    refine PySem.W.min_tuple_datum (I.ok.hd hc) hl (x := n) (xs := ns) (holdAll_ints rv) hu' fun i v h' tk hi hv hk => ?_
    obtain ⟨t, rfl⟩ := holds_int hv
    exact ⟨.int _, H, I.kept hk, ⟨t, rfl⟩, by rw [minOf_eq]; exact q⟩
theorem crk_max (hc : X.calm = true) (hu : X.A.units + 8 < cLine) : CallRK X (.builtin "max") ["default"] (rMaxD X.K maxI) := by
  intro pins s σ H vs zs us ws Q I r rz h
  obtain ⟨a, ns, z, rfl, rfl, hs, q⟩ := h
  rw [Vals.ref1 r]
  cases rz with
  | cons rz tz =>
    cases tz
    obtain ⟨tz, rfl⟩ := rz
    have hu' : X.A.units + 1 + PySem.W.Datum.depth Int < cLine := by show X.A.units + 1 + 0 < cLine; omega
    show wpAny (model X.prog X.w) X.A (call (.builtin "max") [.ref a] [(Str.ofString "default", .int z tz)]) _ _ s
    have h0 : ns = [] → ∀ h' tk, (∀ b o, s.heap.get? b = some o → h'.get? b = some o) → EP X pins σ Q (.int z tz) { s with heap := h', toks := tk } := fun e h' tk hk => by
      subst e
      exact ⟨.int z, H, I.kept hk, ⟨tz, rfl⟩, q⟩
    have h1 : ∀ (y : Int) (ys : List Int) (v : Value) h' tk, ns = y :: ys → PySem.W.Holds h' v (PySem.W.maxOf y ys) → (∀ b o, s.heap.get? b = some o → h'.get? b = some o) → EP X pins σ Q v { s with heap := h', toks := tk } := fun y ys v h' tk e hv hk => by
      subst e
      obtain ⟨t, rfl⟩ := holds_int hv
      exact ⟨.int _, H, I.kept hk, ⟨t, rfl⟩, by rw [maxOf_eq]; exact q⟩
    rcases hs with hs | hs
    · obtain ⟨its, rv, hl, _⟩ := I.list hs
      exact PySem.W.max_list_datum_default (I.ok.hd hc) hl.isList (holdAll_ints rv) hu' h0 fun y ys i v h' tk e _ hv hk => h1 y ys v h' tk e hv hk
    · obtain ⟨its, rv, hl, _⟩ := I.tuple hs
      exact PySem.W.max_tuple_datum_default (I.ok.hd hc) hl (holdAll_ints rv) hu' h0 fun y ys i v h' tk e _ hv hk => h1 y ys v h' tk e hv hk
end
/-- a sequence of whole numbers -/
def intsOf (B : Bx) (d : D) : Option (List Int) := (seqOf B d).bind fun ds => ds.mapM fun
  | .int i => some i
  | _ => none
theorem mapM_ints : ∀ {ds : List D} {ns : List Int}, (ds.mapM fun | .int i => some i | _ => none) = some ns → ds = ns.map D.int
  | [], ns, h => by
    have : ([] : List Int) = ns := by simpa using h
    subst this; rfl
  | d :: ds, ns, h => by
    rw [List.mapM_cons] at h
    cases d with
    | int i =>
      simp only [Option.pure_def, Option.bind_eq_bind, Option.bind_some] at h
      obtain ⟨ms, h1, h2⟩ := Option.bind_eq_some_iff.mp h
      cases h2
      rw [mapM_ints h1]; rfl
    | _ => cases h
theorem mapM_of : ∀ (ns : List Int), (ns.map D.int).mapM (fun | .int i => some i | _ => none) = some ns
  | [] => rfl
  | n :: ns => by rw [List.map_cons, List.mapM_cons, mapM_of ns]; rfl
theorem ints_of {K : PySem.W.Frag} {F H : Hp} {B R : Bx} {d : D} {v : V} {ns : List Int} {TS : List Addr} (rp : RepH K TS F H B R) (h : intsOf B d = some ns) (dv : Dv K F d v) : ∃ a, v = .ref a ∧ (SqL K H a (ns.map V.int) ∨ SqT K H a (ns.map V.int)) := by
  obtain ⟨ds, h1, h2⟩ := Option.bind_eq_some_iff.mp h
  obtain ⟨a, vs, e, h3, h4⟩ := seq_of rp h1 dv
  have e2 := mapM_ints h2
  subst e2
  rw [h3.ints] at h4
  exact ⟨a, e, h4⟩
def gMax1 (f : Int → List Int → Int) : GA := fun ds B q => match ds with
  | [d] => ∃ n ns, intsOf B d = some (n :: ns) ∧ q (.int (f n ns)) B
  | _ => False
section
variable {X : Cx} {TS : List Addr} {W : WX} {e v : Expr} {ta tv : DTE} {p pos kp : Pos}
theorem cd_max1 {f : Int → List Int → Int} : CallD X.K TS (rMax1 X.K f) (gMax1 f) := fun F H B R ds vs q Q rp dv h hq => by
  unfold gMax1 at h
  split at h
  · obtain ⟨v, e, h1⟩ := dv.one
    subst e
    obtain ⟨n, ns, hb, h⟩ := h
    obtain ⟨a, rfl, h2⟩ := ints_of rp hb h1
    exact ⟨a, n, ns, rfl, h2, hq.here rp (d := .int (f n ns)) h rfl⟩
  · exact h.elim
theorem bd_max1 (hc : X.calm = true) (hu : X.A.units + 8 < cLine) : BltD X TS (.builtin "max") (gMax1 maxI) := ⟨_, cr_max1 hc hu, cd_max1⟩
theorem bd_min1 (hc : X.calm = true) (hu : X.A.units + 8 < cLine) : BltD X TS (.builtin "min") (gMax1 minI) := ⟨_, cr_min1 hc hu, cd_max1⟩
/-- max(e, default=v) -/
def dMaxD (ta tv : DTE) : DTE := fun Γ B q x => ta Γ B (fun d B1 => tv Γ B1 (fun z B2 => ∃ (ns : List Int) (i : Int), intsOf B2 d = some ns ∧ z = .int i ∧ q (.int (match ns with | [] => i | n :: ns => maxI n ns)) B2) x) x
theorem de_maxD (hc : X.calm = true) (hu : X.A.units + 8 < cLine) (hm : X.mg "max" = none) (ha : DE X TS W e ta) (hv : DE X TS W v tv) (hg : Gl X "max" := by rfl) (hs : starEach [e] X.env = (false, eval e X.env) :: starEach [] X.env := by rfl) (he : backTo pos (starEach [e] X.env) = (false, eval e X.env) :: backTo pos (starEach [] X.env) := by rfl) (hpl : (backTo pos (starEach [e] X.env)).any (·.1) = false := by rfl) :
    DE X TS W (.Call (.Name "max" p) [e] [⟨"default", v, kp⟩] pos) (dMaxD ta tv) := by
  refine PE_imp (pe_callBK (crk_max hc hu) hg hm boot_max (pa_cons ha pa_nil hs) (pk_cons hv pk_nil) (by decide) (by decide) he hpl) fun σ H Q ⟨F, Γ, B, R, q, x, s, rp, h, hq, hx⟩ => ?_
  refine ⟨F, Γ, B, R, _, x, s, rp, h, fun d B1 F1 H1 vd h1 e1 rp1 dv1 => ?_, hx⟩
  refine ⟨F1, Γ, B1, R, _, x, s.mono e1, rp1, h1, fun z B2 F2 H2 vz h2 e2 rp2 dv2 => ?_, hx.mono e1⟩
  obtain ⟨ns, i, hb, rfl, h2⟩ := h2
  obtain ⟨a, rfl, h3⟩ := ints_of rp2 hb (dv1.mono e2)
  have dv2 : vz = _ := dv2
  exact ⟨a, ns, i, rfl, by rw [dv2], h3, (hq.mono (e1.trans e2)).here rp2 (d := .int _) h2 rfl⟩
end
end DL
set_option Elab.async false
set_option linter.all false
set_option maxRecDepth 100000
set_option maxHeartbeats 2000000
/-! DL24: texts: str, int, startswith, join, walks, any over the signs of a text. -/
namespace DL
open PySem PySem.Spec PyProof.Rows L2
section
variable {X : Cx} {TS : List Addr} {W : WX} {e o : Expr} {te to : DTE} {pos apos p : Pos}
/-- the figures of a whole number -/
def decS (i : Int) : Str := Str.ofString (toString i)
def gStr : GA := fun ds B q => match ds with
  | [.int i] => i.natAbs.log2 < 1920 ∧ q (.str (decS i)) B
  | _ => False
theorem bd_str : BltD X TS (.type "str") gStr := ⟨_, call_str_int, fun F H B R ds vs q Q rp dv h hq => by
  unfold gStr at h
  split at h
  · obtain ⟨v, e, h1⟩ := dv.one
    subst e
    exact ⟨_, by rw [show v = _ from h1], h.1, hq.here rp h.2 rfl⟩
  · exact h.elim⟩
/-- int of a text -/
def gIntS : GA := fun ds B q => match ds with
  | [.str a] => ∃ n, PySem.intText? a = some n ∧ a.length ≤ 640 ∧ q (.int n) B
  | _ => False
theorem bd_intS : BltD X TS (.type "int") gIntS := ⟨_, call_int_str, fun F H B R ds vs q Q rp dv h hq => by
  unfold gIntS at h
  split at h
  · obtain ⟨v, e, h1⟩ := dv.one
    subst e
    obtain ⟨n, h2, h3, h4⟩ := h
    exact ⟨_, n, by rw [show v = _ from h1], h2, h3, hq.here rp h4 rfl⟩
  · exact h.elim⟩
/-- o.startswith(e) -/
def dStarts (to te : DTE) : DTE := fun Γ B q x => to Γ B (fun d B1 => ∃ a, d = .str a ∧ te Γ B1 (fun z B2 => ∃ b, z = .str b ∧ q (.bl (Txt.startswith a b)) B2) x) x
theorem de_starts (ho : DE X TS W o to) (he : DE X TS W e te) (hs : starEach [e] X.env = [(false, eval e X.env)] := by rfl) (hbase : attributeBase o "startswith" X.env (eval o X.env) = eval o X.env := by rfl) (hline : (apos.endLine == pos.line) = true := by rfl) :
    DE X TS W (.Call (.Attribute o "startswith" apos) [e] [] pos) (dStarts to te) := PE_imp (pe_m1 PySem.F.slot_str_startswith PySem.F.type_str_startswith mt_startswith ho he hs hbase hline) fun σ H Q ⟨F, Γ, B, R, q, x, s, rp, hu, hq, hx⟩ => by
  refine ⟨F, Γ, B, R, _, x, s, rp, hu, fun d B1 F1 H1 v h1 e1 rp1 dv1 => ?_, hx⟩
  obtain ⟨a, rfl, h1⟩ := h1
  have dv1 : v = _ := dv1
  subst dv1
  refine ⟨⟨a, rfl⟩, F1, Γ, B1, R, _, x, s.mono e1, rp1, h1, fun z B2 F2 H2 u h2 e2 rp2 dv2 => ?_, hx.mono e1⟩
  obtain ⟨b, rfl, h2⟩ := h2
  have dv2 : u = _ := dv2
  subst dv2
  exact ⟨a, b, rfl, rfl, (hq.mono (e1.trans e2)).here rp2 (d := .bl _) h2 rfl⟩
/-- o.join(e) -/
def dJoin (to te : DTE) : DTE := fun Γ B q x => to Γ B (fun d B1 => ∃ a, d = .str a ∧ te Γ B1 (fun z B2 => ∃ ys : List Str, seqOf B2 z = some (ys.map D.str) ∧ (ys.map (·.length)).sum + ys.length * a.length ≤ 16777216 ∧ q (.str (Txt.join a ys)) B2) x) x
theorem de_join (ho : DE X TS W o to) (he : DE X TS W e te) (hs : starEach [e] X.env = [(false, eval e X.env)] := by rfl) (hbase : attributeBase o "join" X.env (eval o X.env) = eval o X.env := by rfl) (hline : (apos.endLine == pos.line) = true := by rfl) :
    DE X TS W (.Call (.Attribute o "join" apos) [e] [] pos) (dJoin to te) := PE_imp (pe_join ho he hs hbase hline) fun σ H Q ⟨F, Γ, B, R, q, x, s, rp, hu, hq, hx⟩ => by
  refine ⟨F, Γ, B, R, _, x, s, rp, hu, fun d B1 F1 H1 v h1 e1 rp1 dv1 => ?_, hx⟩
  obtain ⟨a, rfl, h1⟩ := h1
  have dv1 : v = _ := dv1
  subst dv1
  refine ⟨⟨a, rfl⟩, F1, Γ, B1, R, _, x, s.mono e1, rp1, h1, fun z B2 F2 H2 u h2 e2 rp2 dv2 => ?_, hx.mono e1⟩
  obtain ⟨ys, hz, hl, h2⟩ := h2
  obtain ⟨b, vs, rfl, h3, h4⟩ := seq_of rp2 hz dv2
  rw [h3.strs] at h4
  exact ⟨a, b, ys, rfl, rfl, h4, hl, (hq.mono (e1.trans e2)).here rp2 (d := .str _) h2 rfl⟩
/-- the signs of a text, as texts -/
def signs (z : Str) : List D := z.cps.toList.map fun c => .str ⟨#[c]⟩
def dIStr (te : DTE) : DTI := fun Γ B q x => te Γ B (fun d B1 => ∃ z, d = .str z ∧ q (signs z) none B1) x
theorem di_str {tg : Expr} (he : DE X TS W e te) : DI X TS W tg e (dIStr te) := PI_imp (pi_str he) fun σ H R0 ⟨F, Γ, B, R, q, x, s, rp, hu, hq, hx⟩ => by
  refine ⟨F, Γ, B, R, _, x, s, rp, hu, fun d B1 F1 H1 v h1 e1 rp1 dv1 => ?_, hx⟩
  obtain ⟨z, rfl, h1⟩ := h1
  have dv1 : v = _ := dv1
  subst dv1
  have hl : (signs z).length = z.cps.size := by unfold signs; rw [List.length_map]; simp
  refine ⟨z, rfl, hq _ _ B1 F1 H1 _ h1 e1 rp1 ⟨_, _, by rw [hl]; exact walk_str, fun F2 H2 B2 R2 e2 rp2 hg => trivial, fun i Ha u Hb F2 B2 R2 e2 rp2 hg hy => ?_⟩⟩
  obtain ⟨rfl, c, hc, rfl⟩ := hy
  exact ⟨F2, .str ⟨#[c]⟩, Same.refl _, rp2, by unfold signs; rw [List.getElem?_map, Array.getElem?_toList, hc]; rfl, rfl⟩
end
/-! ### any(test for x in text) -/
/-- x not in 'z' -/
theorem elt_notIn {prog : Program} {w : World} {scope : Scope} {x z : Str} {j : Nat} {p1 p2 p3 : Pos} (hk : scope.kind = .function) (hl : scope.names.lookup x = some .local) (hd : (x == ("__debug__" : Str)) = false := by decide) :
    GxR.EltP prog w scope x (.Compare (.Name x p1) [.NotIn] [.Constant (.str z) j p2] p3) (fun c => !decide (c ∈ z.cps.toList)) := by
  intro cenv A' E' c t s₂ m₂ hs hn hm
  refine wpAny_Compare1 ?_
  refine wpAny_Name (wpAny_loadName_local (by rw [hs]; exact hk) (show cenv.scope.names.lookup x = some .local by rw [hs]; exact hl) hn hm ?_) hd
  refine Calls.Constant_str ?_
  exact PyProof.Rows.notIn_str ⟨congrArg (fun b => Value.bool (!b)) (PySem.StrLaws.found_one z c), GxR.keeps_tok _ _⟩
section
variable {X : Cx} {TS : List Addr} {W : WX} {c Pt : Addr} {iter elt : Expr} {x : Str} {px gpos p pos : Pos} {scope : Scope} {te : DTE} {k : Nat} {pb : Nat → Bool}
def dAnyS (pb : Nat → Bool) (te : DTE) : DTE := fun Γ B q x => te Γ B (fun d B1 => ∃ a, d = .str a ∧ q (.bl (a.cps.toList.any pb)) B1) x
theorem de_anyS (hr : Room k X.A) (hm : X.mg "any" = none) (TB : TabB X.base X.mg c Pt) (hP : Pt ∈ TS) (S : GenB X.env.scope scope x) (hi : DE X TS W iter te) (hel : GxR.EltP X.prog X.w scope x elt pb)
    (hcode : X.env.code = .ref c := by rfl) (hg : Gl X "any" := by rfl) (hs : ∀ v, genFold iter X.env v = pure v := by intro _; rfl)
    (he : starEach [.GeneratorExp elt [⟨.Name x px, iter, [], 0⟩] scope gpos] X.env = (false, eval (.GeneratorExp elt [⟨.Name x px, iter, [], 0⟩] scope gpos) X.env) :: starEach [] X.env := by rfl) :
    DE X TS W (.Call (.Name "any" p) [.GeneratorExp elt [⟨.Name x px, iter, [], 0⟩] scope gpos] [] pos) (dAnyS pb te) := by
  refine ⟨fun pins s σ H Q I hh => ?_⟩
  have S0 := S.at I.ok
  refine (PE_imp (t' := LE X.K TS W (dAnyS pb te)) (GxR.pe_anyS hr hg hm (⟨TB.code, TB.bm, TB.gP⟩ : GxR.TabB X.base X.mg c Pt) hcode (⟨S0.kind, S0.co, S0.cell, S0.dot, S0.loc, S0.free⟩ : GxR.GenS X.env scope x) hi hel hs he) ?_).run pins s σ H Q I hh
  rintro σ H Q ⟨F, Γ, B, R, q, xd, s, rp, hu, hq, hx⟩
  refine ⟨F, Γ, B, R, _, xd, s, rp, hu, fun d B1 F1 H1 v h1 e1 rp1 dv1 => ?_, hx⟩
  obtain ⟨a, rfl, h1⟩ := h1
  refine ⟨a, dv1, tab_of rp1 hP, fun H2 ⟨⟨ps, h2, h3⟩, h4⟩ => ?_⟩
  exact hq _ B1 F1 H2 _ h1 e1 (same_but rp1 hP h2 h3 h4) rfl
end
end DL
set_option Elab.async false
set_option linter.all false
set_option maxRecDepth 100000
set_option maxHeartbeats 2000000
/-! DL25: any(test for x, y in zip(t, u)), t, u tuples of whole numbers. -/
namespace DL
open PySem PySem.Spec PyProof.Rows L2
/-- the element: a test of two whole numbers -/
def EltZ (prog : Program) (w : World) (scope : Scope) (xa xb : Str) (elt : Expr) (pb : Int → Int → Bool) : Prop :=
  ∀ (cenv : Env) (A' : Around) (E' : Value → Shared → Prop) (i j : Int) (t u : Tok) (s₂ : Shared) (m₂ : Str → Option Value), cenv.scope = scope → s₂.heap.Ns cenv.locals m₂ → m₂ xa = some (.int i t) → m₂ xb = some (.int j u) →
    wpAny (model prog w) A' (eval elt cenv) (fun y s₃ => y = .bool (pb i j) ∧ Keeps s₂ s₃) E' s₂
theorem eltz_ge {prog : Program} {w : World} {scope : Scope} {x y : Str} {p1 p2 p3 : Pos} (hk : scope.kind = .function) (hl : scope.names.lookup x = some .local) (hl2 : scope.names.lookup y = some .local) (hd : (x == ("__debug__" : Str)) = false := by decide) (hd2 : (y == ("__debug__" : Str)) = false := by decide) :
    EltZ prog w scope x y (.Compare (.Name x p1) [.GtE] [.Name y p2] p3) (fun i j => decide (j ≤ i)) := by
  intro cenv A' E' i j t u s₂ m₂ hs hn hm hm2
  refine wpAny_Compare1 ?_
  refine wpAny_Name (wpAny_loadName_local (by rw [hs]; exact hk) (show cenv.scope.names.lookup x = some .local by rw [hs]; exact hl) hn hm ?_) hd
  refine wpAny_Name (wpAny_loadName_local (by rw [hs]; exact hk) (show cenv.scope.names.lookup y = some .local by rw [hs]; exact hl2) hn hm2 ?_) hd2
  exact ge_int ⟨rfl, GxR.keeps_refl _⟩
/-- the generator expression's own scope: two names of its own, beside the captured ones -/
def genZB (sc scope : Scope) (xa xb : Str) : Bool :=
  decide (scope.kind = .function) && !scope.isCoroutine && (scope.names.all fun y => !decide (y.2 = .cell)) && decide (scope.names.lookup (".0" : Str) = some NameKind.local) && decide (scope.names.lookup xa = some .local) && decide (scope.names.lookup xb = some .local) && !decide (xa = xb) &&
    (scope.names.all fun y => !decide (y.2 = .free) || decide (sc.names.lookup y.1 = some .cell) || decide (sc.names.lookup y.1 = some .free))
structure GenZ (sc scope : Scope) (xa xb : Str) : Prop where
  kind : scope.kind = .function
  co : scope.isCoroutine = false
  cell : ∀ y ∈ scope.names, y.2 ≠ .cell
  dot : scope.names.lookup (".0" : Str) = some NameKind.local
  la : scope.names.lookup xa = some .local
  lb : scope.names.lookup xb = some .local
  ne : xa ≠ xb
  vis : ∀ y ∈ scope.names, y.2 = .free → sc.names.lookup y.1 = some .cell ∨ sc.names.lookup y.1 = some .free
theorem genZ_by {sc scope : Scope} {xa xb : Str} (h : genZB sc scope xa xb = true) : GenZ sc scope xa xb := by
  unfold genZB at h
  simp only [Bool.and_eq_true, Bool.or_eq_true, Bool.not_eq_true', decide_eq_true_eq, decide_eq_false_iff_not, List.all_eq_true] at h
  obtain ⟨⟨⟨⟨⟨⟨⟨h1, h2⟩, h3⟩, h4⟩, h5⟩, h6⟩, h7⟩, h8⟩ := h
  refine ⟨h1, h2, h3, h4, h5, h6, h7, fun y hy e => ?_⟩
  rcases h8 y hy with (z | z) | z
  · exact absurd e z
  · exact .inl z
  · exact .inr z
theorem vals_int_at : ∀ {ns : List Int} {us : List Value} {j : Nat} {v : Value}, Vals (ns.map V.int) us → us[j]? = some v → ∃ i t, ns[j]? = some i ∧ v = .int i t
  | [], _, _, _, r, h => by cases r; simp at h
  | n :: ns, _, j, v, r, h => by
    cases r with
    | cons r t =>
      obtain ⟨tk, rfl⟩ := r
      cases j with
      | zero => simp at h; exact ⟨n, tk, rfl, h.symm⟩
      | succ j =>
        obtain ⟨i, t', h1, h2⟩ := vals_int_at (j := j) t (by simpa using h)
        exact ⟨i, t', by simpa using h1, h2⟩
theorem nm2 {x y z : Nat} (h1 : x ≠ y) (h2 : x ≠ z) : x ∉ [y, z] := fun hm => by
  rcases List.mem_cons.mp hm with e | hm
  · exact h1 e
  · rcases List.mem_cons.mp hm with e | hm
    · exact h2 e
    · cases hm
theorem zsep {L a b : Nat} (ha : a < L) (hb : b < L) : ZipSep2 (L + 4) (L + 2) (L + 3) L (L + 1) [L, a] [L + 1, b] :=
  ⟨Nat.ne_of_lt (by omega), Nat.ne_of_lt (by omega), Nat.ne_of_lt (by omega), Nat.ne_of_gt (by omega), List.mem_cons_self, nm2 (by omega) (by omega), nm2 (by omega) (by omega), Nat.ne_of_gt (by omega), List.mem_cons_self, nm2 (by omega) (by omega), nm2 (by omega) (by omega), nm2 (by omega) (by omega), nm2 (by omega) (by omega)⟩
theorem fp_le {L a b x : Nat} (ha : a < L) (hb : b < L) (hx : x ∈ ((L + 4) :: (L + 2) :: (L + 3) :: ([L, a] ++ [L + 1, b]))) : x ≤ L + 4 := by
  have : x = L + 4 ∨ x = L + 2 ∨ x = L + 3 ∨ x = L ∨ x = a ∨ x = L + 1 ∨ x = b := by simpa using hx
  omega
theorem wr_ge {L x : Nat} (hx : x ∈ [L + 4, L + 3, L, L + 1]) : L ≤ x := by
  have : x = L + 4 ∨ x = L + 3 ∨ x = L ∨ x = L + 1 := by simpa using hx
  omega
section
variable {X : Cx} {TS : List Addr} {W : WX} {c Pt : Addr} {e1 e2 elt : Expr} {xa xb : Str} {pa pb' px gpos p pz pc pos : Pos} {kt : Nat} {scope : Scope} {tl : DTA} {k : Nat} {pb : Int → Int → Bool}
/-- the pairs of two rows, tried -/
def anyZ (pb : Int → Int → Bool) (ns ms : List Int) : Bool := (ns.zip ms).any fun p => pb p.1 p.2
def trZ (pb : Int → Int → Bool) (ns ms : List Int) (j : Nat) : Bool := match ns[j]?, ms[j]? with
  | some i, some k => pb i k
  | _, _ => false
theorem any_trZ (pb : Int → Int → Bool) : ∀ (ns ms : List Int), (List.range (min ns.length ms.length)).any (trZ pb ns ms) = anyZ pb ns ms
  | [], ms => by simp [anyZ]
  | _ :: _, [] => by simp [anyZ]
  | n :: ns, m :: ms => by
    have ih := any_trZ pb ns ms
    unfold anyZ at ih ⊢
    rw [List.zip_cons_cons, List.any_cons, ← ih]
    rw [show min (n :: ns).length (m :: ms).length = min ns.length ms.length + 1 by simp only [List.length_cons]; omega, List.range_succ_eq_map, List.any_cons, List.any_map]
    rfl
def dAnyZ (pb : Int → Int → Bool) (tl : DTA) : DTE := fun Γ B q x => tl Γ B (fun ds B1 => ∃ ns ms : List Int, ds = [.tup (ns.map D.int), .tup (ms.map D.int)] ∧ q (.bl (anyZ pb ns ms)) B1) x
theorem de_anyZ (hr : Room k X.A) (hm : X.mg "any" = none) (hmz : X.mg "zip" = none) (TB : TabB X.base X.mg c Pt) (hP : Pt ∈ TS) (S : GenZ X.env.scope scope xa xb) (ha : DA X TS W [e1, e2] tl) (hel : EltZ X.prog X.w scope xa xb elt pb)
    (hcode : X.env.code = .ref c := by rfl) (hg : Gl X "any" := by rfl) (hgz : Gl X "zip" := by rfl) (hs : ∀ v, genFold (.Call (.Name "zip" pz) [e1, e2] [] pc) X.env v = pure v := by intro _; rfl)
    (hst : starEach [e1, e2] X.env = (false, eval e1 X.env) :: starEach [e2] X.env := by rfl) (hpl : (backTo pc (starEach [e2] X.env)).any (·.1) = false := by rfl)
    (he : starEach [.GeneratorExp elt [⟨.Tuple [.Name xa pa, .Name xb pb'] kt px, .Call (.Name "zip" pz) [e1, e2] [] pc, [], 0⟩] scope gpos] X.env = (false, eval (.GeneratorExp elt [⟨.Tuple [.Name xa pa, .Name xb pb'] kt px, .Call (.Name "zip" pz) [e1, e2] [] pc, [], 0⟩] scope gpos) X.env) :: starEach [] X.env := by rfl) :
    DE X TS W (.Call (.Name "any" p) [.GeneratorExp elt [⟨.Tuple [.Name xa pa, .Name xb pb'] kt px, .Call (.Name "zip" pz) [e1, e2] [] pc, [], 0⟩] scope gpos] [] pos) (dAnyZ pb tl) := by
  refine ⟨fun pins s σ H Q I ⟨F, Γ, B, R, q, xd, sl, rp, h, hq, hx⟩ => ?_⟩
  have hfree : ∀ y ∈ scope.names, y.2 = .free → ∃ c, X.env.cells.lookup y.1 = some c := fun y hy e => (S.vis y hy e).elim (fun k => I.ok.has _ (.inl k)) fun k => I.ok.has _ (.inr k)
  refine wpAny_Call_Name_kw (ld_blt I hg hm boot_any ?_)
  refine PyProof.Rows.callWith_builtin1 ?_ he (by rfl)
  rw [he]
  show wpAny _ _ (spliced ((false, eval (.GeneratorExp elt [⟨.Tuple [.Name xa pa, .Name xb pb'] kt px, .Call (.Name "zip" pz) [e1, e2] [] pc, [], 0⟩] scope gpos) X.env) :: backTo pos (starEach [] X.env))) _ _ s
  refine Calls.spliced_cons ?_
  refine wpAny_GeneratorExp_walksQTD hr.hd S.co (closure_ok hfree) S.cell S.dot S.la S.lb S.ne S.kind (by have := hr.dp; omega) ?_ hs
  -- zip(t, u)
  refine Call_ (ld_blt I hgz hmz PyProof.Rows.boot_zip (PyProof.Rows.callWith_type1 (thn (ha.run pc pins s σ H (fun vs H1 => ∃ (ns ms : List Int) (B1 : Bx) (F1 : Hp) (a b : Addr), Same F F1 ∧ RepH X.K TS F1 H1 B1 R ∧ q (.bl (anyZ pb ns ms)) B1 ∧ vs = [.ref a, .ref b] ∧ SqT X.K H1 a (ns.map V.int) ∧ SqT X.K H1 b (ms.map V.int)) I
    ⟨F, Γ, B, R, _, xd, sl, rp, h, fun ds B1 F1 H1 vs h1 e1 rp1 dv1 => ?_, hx⟩) fun us s1 ⟨vs, H1, I1, r1, q1⟩ => ?_) hst hpl))
  · obtain ⟨ns, ms, rfl, h1⟩ := h1
    obtain ⟨v1, v2, e, d1, d2⟩ := dv1.two
    subst e
    obtain ⟨a, vs, rfl, h2, h3⟩ := d1
    obtain ⟨b, us, rfl, h4, h5⟩ := d2
    rw [h3.ints] at h2
    rw [h5.ints] at h4
    exact ⟨ns, ms, B1, F1, a, b, e1, rp1, h1, rfl, SqT.of (rp1.le _ _ h2), SqT.of (rp1.le _ _ h4)⟩
  obtain ⟨ns, ms, B1, F1, a, b, e01, rp1, hq1, ev, ha1, hb1⟩ := q1
  subst ev
  cases r1 with
  | cons r rr =>
  cases rr with
  | cons r' rr =>
  cases rr
  cases r
  cases r'
  obtain ⟨its1, rv1, pl1, _⟩ := I1.tuple ha1
  obtain ⟨its2, rv2, pl2, _⟩ := I1.tuple hb1
  have hl1 : its1.length = ns.length := by have := rv1.length; simp at this; omega
  have hl2 : its2.length = ms.length := by have := rv2.length; simp at this; omega
  refine RZ.call_zipT (show s1.heap.IsTuple a its1.toArray from pl1) (show s1.heap.IsTuple b its2.toArray from pl2) fun hz z1 z2 z3 z4 z5 z6 kz => ?_
  refine wpAny_pyIter_zip z1 ?_
  obtain ⟨ps, hPh, ht⟩ := tab_of rp1 hP
  have hPs : s1.heap.get? Pt = some { cls := .none, data := .fields ps } := I1.hok Pt _ hPh
  have hPlt : Pt < s1.heap.objs.size := Heap.lt_size hPs
  have hP2 : hz.get? Pt = some { cls := .none, data := .fields ps } := kz _ _ hPs
  have cd : PySem.W.CodeHd hz c Pt := TB.code.keeps fun b u e => kz _ _ (I1.bk b u e)
  have lim2 : hz.NoLimit := I1.nolimit.keeps kz
  have alt : a < s1.heap.objs.size := by obtain ⟨o', ho, _⟩ := pl1; exact Heap.lt_size ho
  have blt : b < s1.heap.objs.size := by obtain ⟨o', ho, _⟩ := pl2; exact Heap.lt_size ho
  obtain ⟨L, hL⟩ : ∃ L, L = s1.heap.objs.size := ⟨_, rfl⟩
  rw [← hL] at z1 z2 z3 z4 z5 z6 alt blt hPlt ⊢
  have i1n : IsZip hz (L + 4) (L + 2) (L + 3) .none := z1
  have na : a ≠ L := Nat.ne_of_lt alt
  have nb : b ≠ L + 1 := Nat.ne_of_lt (Nat.lt_succ_of_lt blt)
  have S2 := zsep alt blt
  have WU : ∀ A' : Around, A'.handled = none → WalksU X.prog X.w A' (L + 4) ((L + 4) :: (L + 2) :: (L + 3) :: ([L, a] ++ [L + 1, b])) [L + 4, L + 3, L, L + 1] (min its1.toArray.size its2.toArray.size) _ _ _ := fun A' hA =>
    (WalksT.zipD2 (A := A') S2 (Draws.tuple (A := A'.in1) hA L a na its1.toArray) (Draws.tuple (A := A'.in1) hA (L + 1) b nb its2.toArray)).toU
  have fpl : ∀ x, x ∈ ((L + 4) :: (L + 2) :: (L + 3) :: ([L, a] ++ [L + 1, b])) → x ≤ L + 4 := fun x hx => fp_le alt blt hx
  have wrl : ∀ x, x ∈ [L + 4, L + 3, L, L + 1] → L ≤ x := fun x hx => wr_ge hx
  have aP : a ≠ Pt := fun z => by
    obtain ⟨o', ho, _, n', hd⟩ := pl1
    rw [z, hPs] at ho; cases ho; cases hd
  have bP : b ≠ Pt := fun z => by
    obtain ⟨o', ho, _, n', hd⟩ := pl2
    rw [z, hPs] at ho; cases ho; cases hd
  have szs : min its1.toArray.size its2.toArray.size = min ns.length ms.length := by rw [List.size_toArray, List.size_toArray, hl1, hl2]
  have cont : ∀ (code : Value) (h3 : Heap) (tk : Nat) (ps' : Array Value), Heap.ExtBut Pt hz h3 → hz.objs.size ≤ h3.objs.size → h3.get? Pt = some { cls := .none, data := .fields ps' } → (∃ more, ps' = ps ++ more) → TriplesOk ps'.toList →
      wpAny (model X.prog X.w) X.A (builtinsFor X.env.globals X.env.builtins) (fun bi s₄ =>
        ∃ Ia fp wr n₀ Pf St₀ Mid pz F, Value.ref (L + 4) = .ref Ia ∧ (∀ A' : Around, A'.handled = none → WalksU X.prog X.w A' Ia fp wr n₀ Pf St₀ Mid) ∧ (∀ i vals, Pf i vals → ∃ va vb, vals = #[va, vb]) ∧ St₀ 0 s₄.heap ∧ (∀ b ∈ fp, b < s₄.heap.objs.size) ∧ s₄.heap.NoLimit ∧ cStatics ∉ wr ∧
          (∀ href : Heap, (∀ b o, s₄.heap.get? b = some o → href.get? b = some o) →
            QuietGenTD X.prog X.w (genEnv scope (cloFrom X.env.cells scope.names []) s₄.heap.objs.size code bi X.env) xa xb [] elt (List.range s₄.heap.objs.size) wr Pf pz F href (X.A.depth + 1) (X.A.units + 8)) ∧
          (∀ a h₅ tk gs, gs.bare = true → s₄.heap.objs.size < a → h₅.objs.size = a + 1 → (∀ b o, s₄.heap.get? b = some o → h₅.get? b = some o) →
            WalksS X.prog X.w X.A.in4 a (a :: s₄.heap.objs.size :: List.range s₄.heap.objs.size) (s₄.heap.objs.size :: wr) (GenOnlyQ s₄.gens.size) (passing pz n₀ 0).length
              (fun j y => ∃ i, (passing pz n₀ 0)[j]? = some i ∧ F i y) (GenAt X.prog X.w X.A.in4 a s₄.gens.size s₄.heap.objs.size (List.range s₄.heap.objs.size) wr pz n₀ F) →
            GenAt X.prog X.w X.A.in4 a s₄.gens.size s₄.heap.objs.size (List.range s₄.heap.objs.size) wr pz n₀ F 0 { s₄ with gens := s₄.gens.push gs, toks := tk, heap := h₅ } →
            wpAny (model X.prog X.w) X.A (spliced (backTo pos (starEach [] X.env))) (fun vs' s' => wpAny (model X.prog X.w) X.A (call (.builtin "any") (Value.ref a :: vs')) (fun v s' => EP X pins σ Q v s') X.xe s') X.xe { s₄ with gens := s₄.gens.push gs, toks := tk, heap := h₅ })) X.xe { s1 with heap := h3, toks := tk } := by
    intro code h3 tk ps' hxb hsz hP3 hmore ht3
    obtain ⟨bm, ob, e1', e2, e3, e4, e5, e6, e7, e8⟩ := TB.bm
    have hcP : cStatics ≠ Pt := fun e => by
      obtain ⟨_, hns, _⟩ := I1.nolimit
      obtain ⟨o', es, ep, ho, hd, _⟩ := hns
      rw [e, hPs] at ho
      cases ho
      cases hd
    have hcl : cStatics < L := hL ▸ (let ⟨_, hns, _⟩ := I1.nolimit; hns.lt)
    have keep3 : ∀ b u, b ≠ Pt → s1.heap.get? b = some u → h3.get? b = some u := fun b u hb e => hxb b u hb (kz _ _ e)
    have new3 : ∀ {x : Addr} {o : Obj}, L ≤ x → hz.get? x = some o → h3.get? x = some o := fun {x o} hx e => hxb x o (fun z => absurd (Nat.lt_of_lt_of_le hPlt hx) (by rw [z]; exact Nat.lt_irrefl _)) e
    refine wpAny_builtinsFor (m := X.mg) (by rw [I1.ok.glob]; exact ((I1.mod.glob.keeps I1.bk).keeps kz).extBut hxb TB.gP) e1' e2 (keep3 _ _ e4 (I1.bk _ _ e5)) e6 e7 e8 ?_
    refine ⟨L + 4, _, _, _, _, _, _, (fun _ => true), (fun i y => y = .bool (trZ pb ns ms i)), rfl, WU, ?_, ?_, ?_, lim2.extBut hxb hcP, ?_, ?_, ?_⟩
    · rintro i vals ⟨x1, x2, _, _, e⟩
      exact ⟨x1, x2, e⟩
    · refine ⟨new3 (Nat.le_add_right _ _) z1, new3 (Nat.le_add_right _ _) z2, ⟨_, _, new3 (Nat.le_add_right _ _) z3⟩, ⟨?_, ?_⟩, ⟨?_, ?_⟩⟩
      · obtain ⟨o', h1, h2⟩ := z4
        exact ⟨o', new3 (Nat.le_refl _) h1, h2⟩
      · obtain ⟨o', h1, h2⟩ := pl1
        exact ⟨o', keep3 _ _ aP h1, h2⟩
      · obtain ⟨o', h1, h2⟩ := z5
        exact ⟨o', new3 (Nat.le_add_right _ _) h1, h2⟩
      · obtain ⟨o', h1, h2⟩ := pl2
        exact ⟨o', keep3 _ _ bP h1, h2⟩
    · intro x hx
      have z6' : hz.objs.size = L + 5 := z6
      have h4 : L + 4 < h3.objs.size := by omega
      exact Nat.lt_of_le_of_lt (fpl x hx) h4
    · exact fun z => Nat.not_le_of_lt hcl (wrl _ z)
    · intro href hhref
      refine ⟨fun A' E' j va vb s₂ m₂ hA _ _ hPv hn hma hmb hk => ?_, fun A' E' j va vb s₂ m₂ hA hdp hun hPv hp hn hma hmb hk => ?_⟩
      · simp only [List.forIn_nil]
        exact wpAny_pure ⟨rfl, GxR.keeps_refl _⟩
      · obtain ⟨x1, x2, h1, h2, e⟩ := hPv
        have ea : va = x1 := by have := congrArg (fun t : Array Value => t[0]?) e; simpa using this
        have eb : vb = x2 := by have := congrArg (fun t : Array Value => t[1]?) e; simpa using this
        subst ea eb
        have h1' : its1[j]? = some va := by simpa using h1
        have h2' : its2[j]? = some vb := by simpa using h2
        obtain ⟨i1, t1, hi1, rfl⟩ := vals_int_at rv1 h1'
        obtain ⟨i2, t2, hi2, rfl⟩ := vals_int_at rv2 h2'
        refine wpAny_mono (hel _ A' E' i1 i2 t1 t2 s₂ m₂ rfl hn hma hmb) (fun y s3 r => ⟨?_, r.2⟩) fun _ _ e => e
        rw [r.1]
        unfold trZ
        rw [hi1, hi2]
    · intro g h5 tk5 gs hgb hag hsz5 hk5 W5 hat
      simp only [GxR.passing_true, List.length_range] at W5
      refine Calls.spliced_nil ?_
      refine call_any_walkS (W5.in4_1.self 0 _ _ _ hat ⟨g, _, _, _, _, _, _, trZ pb ns ms, rfl, W5.in4_1, hat, ?_, fun s' hm => ?_⟩)
      · intro j y sj Qj Ej hy hQj
        obtain ⟨i', hij, rfl⟩ := hy
        obtain ⟨hj, ej⟩ := List.getElem?_eq_some_iff.mp hij
        rw [List.getElem_range] at ej
        subst ej
        exact wpAny_truthy_bool hQj
      · obtain ⟨more, em⟩ := hmore
        have nwr : ∀ b u, s1.heap.get? b = some u → b ∉ h3.objs.size :: [L + 4, L + 3, L, L + 1] := fun b u e hb => by
          have hl : (b : Nat) < L := by rw [hL]; exact Heap.lt_size e
          have z6' : hz.objs.size = L + 5 := z6
          rcases List.mem_cons.mp hb with z | z
          · rw [z] at hl
            have h9 : (h3.objs.size : Nat) < L := hl
            omega
          · exact Nat.not_le_of_lt hl (wrl _ z)
        have J := GxR.inv_tab (more := more) (h' := s'.heap) (g' := s'.gens) (d' := s'.drawn) (t' := s'.toks) I1 hPh (fun b u hb e => hm.heap b u (nwr b u e) (hk5 b u (keep3 b u hb e)))
          (by rw [← em]; exact hm.heap Pt _ (nwr Pt _ hPs) (hk5 Pt _ hP3)) (AllBare.movedS (I1.bare.push hgb) hm)
        rw [GxR.sh_eta s1 s' hm.os] at J
        refine ⟨.bl _, _, J, rfl, ?_⟩
        rw [szs, any_trZ]
        exact hq _ B1 F1 _ _ hq1 e01 (same_but rp1 hP upd_same (by rw [← em]; exact ht3) fun b hb => upd_ne hb) rfl
  refine ⟨lim2, ?_⟩
  cases hf : codeAmong gpos ps.toList with
  | none =>
    refine wpAny_genexprCodeX hcode (cd.code hP2 ht) (cd.tab hP2) hf fun c' h' tk hx hge hlt hco' _ htab' _ => ?_
    obtain ⟨o1, vs, f1, tf, fl, tg, inF, tx, tt, op, _, _, _, _, _, _, _, _, _, htr, _⟩ := hco'
    exact cont _ h' tk _ hx (Nat.le_trans hge (Nat.le_of_lt hlt)) htab'.2 ⟨_, rfl⟩ htr
  | some cv =>
    refine wpAny_genexprCode_hit hcode (cd.code hP2 ht) hf ?_
    exact cont cv hz s1.toks ps (Heap.ExtBut.refl _ _) (Nat.le_refl _) hP2 ⟨#[], by simp⟩ ht
end
end DL
set_option Elab.async false
set_option linter.all false
set_option maxRecDepth 100000
set_option maxHeartbeats 2000000
/-! DL26: sorted of tuples of whole numbers of any lengths, the first not empty. -/
namespace DL
open PySem PySem.Spec PyProof.Rows L2
theorem lex_asym : ∀ a b : List Int, HT.lexLt a b = true → HT.lexLt b a = false
  | [], [], h => rfl
  | [], _ :: _, _ => rfl
  | _ :: _, [], h => by cases h
  | x :: xs, y :: ys, h => by
    rw [HT.lexLt_cons] at h ⊢
    by_cases e : x = y
    · rw [if_pos e] at h
      rw [if_pos e.symm]
      exact lex_asym xs ys h
    · rw [if_neg e] at h
      rw [if_neg (fun z => e z.symm)]
      have := of_decide_eq_true h
      exact decide_eq_false (by omega)
theorem lex_tr : ∀ x y z : List Int, HT.lexLt y x = false → HT.lexLt z y = false → HT.lexLt z x = false
  | [], [], z, _, h => h
  | [], _ :: _, [], _, h => rfl
  | [], _ :: _, _ :: _, _, _ => rfl
  | _ :: _, [], _, h, _ => by cases h
  | _ :: _, _ :: _, [], _, h => by cases h
  | x :: xs, y :: ys, z :: zs, h1, h2 => by
    rw [HT.lexLt_cons] at h1 h2 ⊢
    by_cases e1 : y = x
    · by_cases e2 : z = y
      · rw [if_pos e1] at h1
        rw [if_pos e2] at h2
        rw [if_pos (e2.trans e1)]
        exact lex_tr xs ys zs h1 h2
      · rw [if_neg e2] at h2
        rw [if_neg (fun q => e2 (q.trans e1.symm))]
        have := of_decide_eq_false h2
        exact decide_eq_false (by omega)
    · rw [if_neg e1] at h1
      have a1 := of_decide_eq_false h1
      by_cases e2 : z = y
      · rw [if_neg (fun q => e1 (e2.symm.trans q))]
        exact decide_eq_false (by omega)
      · rw [if_neg e2] at h2
        have a2 := of_decide_eq_false h2
        rw [if_neg (by omega)]
        exact decide_eq_false (by omega)
theorem lex_anti : ∀ a b : List Int, HT.lexLt a b = false → HT.lexLt b a = false → a = b
  | [], [], _, _ => rfl
  | [], _ :: _, h, _ => by cases h
  | _ :: _, [], _, h => by cases h
  | x :: xs, y :: ys, h1, h2 => by
    rw [HT.lexLt_cons] at h1 h2
    by_cases e : x = y
    · rw [if_pos e] at h1
      rw [if_pos e.symm] at h2
      rw [e, lex_anti xs ys h1 h2]
    · rw [if_neg e] at h1
      rw [if_neg (fun z => e z.symm)] at h2
      have a1 := of_decide_eq_false h1
      have a2 := of_decide_eq_false h2
      omega
section
variable {prog : Program} {w : World} {A : Around} {s : Shared}
theorem kat_ints {b : Bool} {Q : Bool → Shared → Prop} : ∀ {xs ys : List Value} {ns ms : List Int} {fin : Bool} {i : Nat}, IntsAre xs ns → IntsAre ys ms → fin = decide (xs.length < ys.length) → Q (HT.lexLt ns ms) s → PySem.W.KatLex prog w A b fin Q (xs.zip ys) i s
  | _, _, _, _, fin, i, .nil, .nil, hf, h => by
    refine PySem.W.kat_nil ?_
    rw [hf]
    exact h
  | _, _, _, _, fin, i, .nil, .cons _ _ _, hf, h => by
    have h' : Q true s := h
    refine PySem.W.kat_nil ?_
    rw [hf]
    simpa using h'
  | _, _, _, _, fin, i, .cons _ _ _, .nil, hf, h => by
    have h' : Q false s := h
    refine PySem.W.kat_nil ?_
    rw [hf]
    simpa using h'
  | _, _, _, _, fin, i, .cons x t r, .cons y u r', hf, h => by
    rw [List.zip_cons_cons]
    refine PySem.W.kat_cons (SeqAt.EqAt.int_int x t y u prog w _ _ ?_)
    rw [HT.lexLt_cons] at h
    refine PySem.W.kat_go (fun e1 => ?_) (fun e1 => ?_)
    · have ex : x = y := by simpa using e1
      rw [if_pos ex] at h
      exact PySem.W.kat_yes (kat_ints r r' (by rw [hf]; simp) h)
    · have ex : ¬ x = y := by simpa using e1
      rw [if_neg ex] at h
      refine PySem.W.kat_no ?_
      cases hb : (b && i == 0) with
      | true => exact oneLt_int h
      | false => exact PySem.W.kat_one _ _ (PyProof.Rows.lt_int h)
/-- the first item, read off the heap -/
def fstO (h : Heap) (v : Value) : Option Value := match v with
  | .ref a => match h.get? a with
    | some o => match o.data with
      | .seq xs _ => xs[0]?
      | _ => none
    | none => none
  | _ => none
theorem fstO_of {h : Heap} {v : Value} {ns : List Int} (x : TS.TupInts h v ns) : (ns = [] → fstO h v = none) ∧ (ns ≠ [] → ∃ i t, fstO h v = some (.int i t)) := by
  obtain ⟨a, xs, rfl, ⟨o, ho, hc, n, hd⟩, i⟩ := x
  have e : fstO h (.ref a) = xs.toList[0]? := by simp only [fstO, ho, hd]; simp
  have key : ∀ {l : List Value} {ns : List Int}, IntsAre l ns → (ns = [] → l[0]? = none) ∧ (ns ≠ [] → ∃ i t, l[0]? = some (.int i t)) := fun {l ns} i => by
    cases i with
    | nil => exact ⟨fun _ => rfl, fun h => absurd rfl h⟩
    | cons n t r => exact ⟨fun h => (by cases h), fun _ => ⟨n, t, rfl⟩⟩
  rw [e]
  exact key i
theorem tup_firsts {M : Model} {E : Value → Shared → Prop} : ∀ (vs : List Value) {Q : List (Option Value) → Shared → Prop}, (∀ v ∈ vs, ∃ ns, TS.TupInts s.heap v ns) → Q (vs.map (fstO s.heap)) s → wpAny M A (vs.mapM firstOfTuple') Q E s
  | [], Q, _, h => by rw [List.mapM_nil]; exact wpAny_pure h
  | v :: vs, Q, t, h => by
    obtain ⟨ns, a, xs, rfl, ⟨o, ho, hc, n, hd⟩, _⟩ := t v List.mem_cons_self
    rw [List.mapM_cons]
    refine wpAny_bind ?_
    rw [PySem.W.kas_first_eq]
    refine wpAny_bind (PySem.W.Looks.here (show PySem.W.Looks M s.heap (typeOf (.ref a)) o.cls from (PySem.W.Looks.ld ho).andThen .now) ?_)
    rw [hc, if_neg (by first | decide | simp)]
    refine wpAny_bind (listItems_at ho hd (wpAny_pure ?_))
    have e : fstO s.heap (.ref a) = xs[0]? := by simp only [fstO, ho, hd]
    rw [List.map_cons, e] at h
    exact wpAny_bind (tup_firsts vs (Q := fun bs s' => wpAny M A (pure (xs[0]? :: bs)) Q E s') (fun u hu => t u (List.mem_cons_of_mem _ hu)) (wpAny_pure h))
end
open SrtO in
theorem tups_sortable {prog : Program} {w : World} {A : Around} {s : Shared} {a : Addr} {vs : List Value} (k : Value → List Int) (hk : ∀ v ∈ vs, TS.TupInts s.heap v (k v)) (h0 : ∀ v, vs[0]? = some v → k v ≠ []) (h2 : 2 ≤ vs.length) (ha : ∀ o, s.heap.get? a = some o → o.cls ≠ .type "tuple") (hu : A.units < cLine) :
    SortableO prog w A s a vs fun v u => HT.lexLt (k v) (k u) := by
  intro h' keep
  have hk' : ∀ v ∈ vs, TS.TupInts h' v (k v) := fun v hm => (hk v hm).keeps fun b o e c => keep b o (fun z => by subst z; exact ha o e c) e
  by_cases hall : ∀ v ∈ vs, k v ≠ []
  · refine ⟨tuples' true, fun Q E hq => ?_, fun p q hm hm' => ?_⟩
    · have ht : PySem.W.KatTups h' vs (vs.map fun v => (fstO h' v).getD .none) := by
        have key : ∀ l : List Value, (∀ v ∈ l, TS.TupInts h' v (k v) ∧ k v ≠ []) → PySem.W.KatTups h' l (l.map fun v => (fstO h' v).getD .none) := by
          intro l
          induction l with
          | nil => intro _; exact PySem.W.KatTups.nil
          | cons v l ih =>
            intro hl
            obtain ⟨x, hn⟩ := hl v List.mem_cons_self
            obtain ⟨i, t, e⟩ := (fstO_of x).2 hn
            obtain ⟨b, xs, rfl, ⟨o, ho, hc, n, hd⟩, _⟩ := x
            have e2 : fstO h' (.ref b) = xs[0]? := by simp only [fstO, ho, hd]
            rw [List.map_cons, e]
            exact PySem.W.KatTups.cons ho hc hd (by rw [← e2]; exact e) (ih fun u hu => hl u (List.mem_cons_of_mem _ hu))
        exact key vs fun v hm => ⟨hk' v hm, hall v hm⟩
      refine PySem.W.kat_kind (T := .type "int") ht (by rw [List.length_map]; omega) (fun f hm => ?_) (by rfl) ?_
      · obtain ⟨v, hv, rfl⟩ := List.mem_map.mp hm
        obtain ⟨i, t, e⟩ := (fstO_of (hk' v hv)).2 (hall v hv)
        rw [e]
        exact PySem.W.Looks.now
      · have e : (Value.type "int" != Value.type "tuple") = true := by first | decide +kernel | rfl | decide
        rw [e]
        exact hq
    · show wpAny (model prog w) A (keyLt' (tuples' true) p.1 q.1) (fun r s' => s' = _ ∧ r = HT.lexLt (k p.1) (k q.1)) (fun _ _ => False) _
      have x1 := hk' p.1 hm
      have x2 := hk' q.1 hm'
      generalize k p.1 = ns at x1 ⊢
      generalize k q.1 = ms at x2 ⊢
      obtain ⟨a1, xs, e1, ⟨o, ho, hc, n, hd⟩, i1⟩ := x1
      obtain ⟨a2, ys, e2, ⟨o2, ho2, hc2, n2, hd2⟩, i2⟩ := x2
      rw [e1, e2]
      exact PySem.W.kat_lt ho hd ho2 hd2 (kat_ints i1 i2 (by simp) ⟨rfl, rfl⟩)
  · refine ⟨general', fun Q E hq => ?_, fun p q hm hm' => ?_⟩
    · rw [kat_kind_eq, List.mapM_toArray, map_eq_pure_bind]
      refine wpAny_bind (wpAny_bind (tup_firsts vs (fun v hv => ⟨_, hk' v hv⟩) (wpAny_pure ?_)))
      have hno : ¬ ((vs.map (fstO h')).toArray.all fun x => x.isSome) = true := fun hh => hall fun v hv e => by
        simp only [List.all_toArray, List.all_map, List.all_eq_true, Function.comp] at hh
        have := hh v hv
        rw [(fstO_of (hk' v hv)).1 e] at this
        cases this
      rw [if_neg hno]
      have h1 : (((vs.map (fstO h')).toArray[0]?).bind id).isSome = true := by
        obtain ⟨v, r, e⟩ : ∃ v r, vs = v :: r := by
          match vs, h2 with
          | v :: r, _ => exact ⟨v, r, rfl⟩
        subst e
        obtain ⟨i, t, e⟩ := (fstO_of (hk' v List.mem_cons_self)).2 (h0 v rfl)
        simp [e]
      rw [if_pos h1]
      exact wpAny_pure hq
    · show wpAny (model prog w) A (keyLt' general' p.1 q.1) (fun r s' => s' = _ ∧ r = HT.lexLt (k p.1) (k q.1)) (fun _ _ => False) _
      have x1 := hk' p.1 hm
      have x2 := hk' q.1 hm'
      generalize k p.1 = ns at x1 ⊢
      generalize k q.1 = ms at x2 ⊢
      obtain ⟨a1, xs, e1, t1, i1⟩ := x1
      obtain ⟨a2, ys, e2, t2, i2⟩ := x2
      rw [e1, e2]
      show wpAny (model prog w) A (oneLt' false (.ref a1) (.ref a2)) _ _ _
      exact PySem.W.kat_one _ _ (HT.lt_tupInts t1 t2 i1 i2 hu ⟨rfl, rfl⟩)
end DL
set_option Elab.async false
set_option linter.all false
set_option maxRecDepth 100000
set_option maxHeartbeats 2000000
/-! DL27: sorted of a list of tuples of whole numbers. -/
namespace DL
open PySem PySem.Spec PyProof.Rows L2
/-- insertion by the order of tuples -/
def insL (a : List Int) : List (List Int) → List (List Int)
  | [] => [a]
  | b :: r => if HT.lexLt b a = true then b :: insL a r else a :: b :: r
def sortL : List (List Int) → List (List Int)
  | [] => []
  | a :: r => insL a (sortL r)
theorem insL_perm (a : List Int) : ∀ l, (insL a l).Perm (a :: l)
  | [] => List.Perm.refl _
  | b :: r => by
    unfold insL
    split
    · exact ((insL_perm a r).cons b).trans (List.Perm.swap a b r)
    · exact List.Perm.refl _
theorem sortL_perm : ∀ l, (sortL l).Perm l
  | [] => List.Perm.refl _
  | a :: r => (insL_perm a _).trans ((sortL_perm r).cons a)
abbrev SrL (l : List (List Int)) : Prop := l.Pairwise fun x y => HT.lexLt y x = false
theorem insL_srt (a : List Int) : ∀ {l}, SrL l → SrL (insL a l)
  | [], _ => List.pairwise_singleton _ _
  | b :: r, h => by
    obtain ⟨h1, h2⟩ := List.pairwise_cons.mp h
    unfold insL
    split
    · rename_i hb
      refine List.pairwise_cons.mpr ⟨fun x hx => ?_, insL_srt a h2⟩
      rcases List.mem_cons.mp ((insL_perm a r).mem_iff.mp hx) with e | hx
      · rw [e]; exact lex_asym _ _ hb
      · exact h1 x hx
    · rename_i hb
      have hb : HT.lexLt b a = false := by simpa using hb
      refine List.pairwise_cons.mpr ⟨fun x hx => ?_, h⟩
      rcases List.mem_cons.mp hx with e | hx
      · rw [e]; exact hb
      · exact lex_tr a b x hb (h1 x hx)
theorem sortL_srt : ∀ l, SrL (sortL l)
  | [] => List.Pairwise.nil
  | a :: r => insL_srt a (sortL_srt r)
/-- there is one sorted row -/
theorem srL_eq : ∀ {l m : List (List Int)}, l.Perm m → SrL l → SrL m → l = m
  | [], m, h, _, _ => (List.Perm.eq_nil h.symm).symm
  | x :: l, [], h, _, _ => absurd h.length_eq (by simp)
  | x :: l, y :: m, h, h1, h2 => by
    obtain ⟨a1, a2⟩ := List.pairwise_cons.mp h1
    obtain ⟨b1, b2⟩ := List.pairwise_cons.mp h2
    have rf : ∀ z : List Int, HT.lexLt z z = false := fun z => by
      cases hz : HT.lexLt z z with
      | false => rfl
      | true => rw [lex_asym _ _ hz] at hz; cases hz
    have e1 : HT.lexLt y x = false := by
      rcases List.mem_cons.mp (h.mem_iff.mpr (List.mem_cons_self (a := y) (l := m))) with e | hy
      · rw [e]; exact rf x
      · exact a1 y hy
    have e2 : HT.lexLt x y = false := by
      rcases List.mem_cons.mp (h.mem_iff.mp (List.mem_cons_self (a := x) (l := l))) with e | hx
      · rw [e]; exact rf y
      · exact b1 x hx
    have e := lex_anti x y e2 e1
    subst e
    rw [srL_eq h.cons_inv a2 b2]
theorem sortL_eq {l m : List (List Int)} (h : l.Perm m) (s : SrL l) : l = sortL m := srL_eq (h.trans (sortL_perm m).symm) s (sortL_srt m)
/-- a row of whole numbers as a tuple -/
def tupI (ns : List Int) : D := .tup (ns.map D.int)
def rSortedTT (K : PySem.W.Frag) : List V → Hp → VK → Prop := fun vs H Q => ∃ (a : Addr) (xs : List V) (rows : List (List Int)), vs = [V.ref a] ∧ SqL K H a xs ∧ Paired (fun x ns => L2.TupI K H x ns) xs rows ∧ (2 ≤ rows.length → ∀ r, rows[0]? = some r → r ≠ []) ∧
  ∀ (ps : List (V × List Int)) (p : Addr), ps.Perm (xs.zip rows) → SrL (ps.map (·.2)) → H p = none → Q (.ref p) (upd H p (.lst (ps.map (·.1))))
section
variable {X : Cx}
theorem swo_ints (k : Value → List Int) : SrtO.Swo fun v u => HT.lexLt (k v) (k u) := ⟨fun x y h => lex_asym _ _ h, fun x y z h1 h2 => lex_tr _ _ _ h1 h2⟩
theorem tups_pair {h : Heap} : ∀ {xs : List V} {rows : List (List Int)} {us : List Value}, Paired (fun (x : V) (ns : List Int) => ∃ t, x = .ref t ∧ TS.TupInts h (.ref t) ns) xs rows → Vals xs us →
    us.map (fun u => (L2.bkV u, TS.intsOf h u)) = xs.zip rows ∧ (∀ u ∈ us, ∃ t, u = Value.ref t ∧ TS.TupInts h u (TS.intsOf h u)) ∧ us.map (TS.intsOf h) = rows
  | _, _, us, .nil, r => by cases r; exact ⟨rfl, fun u hu => absurd hu (by simp), rfl⟩
  | _, _, us, .cons ⟨t, e, x⟩ p, r => by
    subst e
    cases r with
    | cons r rr =>
      cases r
      obtain ⟨h1, h2, h3⟩ := tups_pair p rr
      refine ⟨?_, fun u hu => ?_, ?_⟩
      · rw [List.map_cons, List.zip_cons_cons, h1, x.ints]; rfl
      · rcases List.mem_cons.mp hu with e | hu
        · subst e; exact ⟨t, rfl, by rw [x.ints]; exact x⟩
        · exact h2 u hu
      · rw [List.map_cons, h3, x.ints]
theorem cr_sortedTT (hu : X.A.units + 8 < cLine) : CallR X (.builtin "sorted") (rSortedTT X.K) := by
  intro pins s σ H vs us Q I r h
  obtain ⟨a, xs, rows, rfl, hs, hp, h0, q⟩ := h
  obtain ⟨its, rv, hl, hz⟩ := I.list hs
  rw [Vals.ref1 r]
  obtain ⟨e1, e2, e3⟩ := tups_pair (h := s.heap) (L2.Paired.mapP hp fun x ns ⟨t, e, hq⟩ => ⟨t, e, tupI_raw I hq⟩) rv
  have hlen : its.length = rows.length := by rw [← e3, List.length_map]
  refine SrtO.sorted_ord (swo_ints (TS.intsOf s.heap)) hl.isList (by rw [← rv.length]; exact hz) (fun h2 h₁ a' ha kk => tups_sortable (s := { s with heap := h₁ }) _ (fun v hv => ?_) (fun v hv => ?_) h2 (fun o e => ?_) (by show X.A.units + 1 + 1 < cLine; omega)) fun out hsr hst => ?_
  · obtain ⟨t, _, ht⟩ := e2 v hv
    exact ht.keeps fun b o e _ => (kk b o e).2
  · refine h0 (by omega) _ ?_
    rw [← e3, List.getElem?_map, hv]
    rfl
  · have e' : some o = some (seqObj "list" its.toArray 0) := e.symm.trans ha
    cases e'
    intro c
    exact absurd (Value.type.inj c) (by decide)
  · obtain ⟨ep, he'⟩ := PyProof.Rows.sortedAll_at s.heap its out.toArray
    have h3 : ∀ u ∈ out, ∃ a, u = Value.ref a := fun u hu => let ⟨t, e, _⟩ := e2 u (hst.perm.mem_iff.mp hu); ⟨t, e⟩
    have hpm : (out.map (fun u => (L2.bkV u, TS.intsOf s.heap u))).Perm (xs.zip rows) := by rw [← e1]; exact hst.perm.map _
    have hln : (out.map L2.bkV).length ≤ sizeLine := by rw [List.length_map, hst.perm.length_eq, ← rv.length]; exact hz
    have hq := q (out.map (fun u => (L2.bkV u, TS.intsOf s.heap u))) (s.heap.objs.size + 1) hpm (by rw [List.map_map]; exact List.pairwise_map.mpr hsr) (I.hok.fresh (Nat.le_succ _))
    rw [List.map_map] at hq
    exact ⟨.ref _, upd H (s.heap.objs.size + 1) (.lst (out.map L2.bkV)), I.laid (t' := s.toks) (fun _ _ => PyProof.Rows.sortedAll_old) (Nat.le_succ _) ⟨hln, out, ep, L2.bkV_vals h3, by simpa using he'⟩, rfl, hq⟩
end
end DL
set_option Elab.async false
set_option linter.all false
set_option maxRecDepth 100000
set_option maxHeartbeats 2000000
/-! DL28: sorted of tuples at the level of data. -/
namespace DL
open PySem PySem.Spec PyProof.Rows L2
def gSortedT : GA := fun ds B q => match ds with
  | [d] => ∃ rows : List (List Int), lstOf B d = some (rows.map tupI) ∧ (2 ≤ rows.length → ∀ r, rows[0]? = some r → r ≠ []) ∧ q (.lst ((sortL rows).map tupI)) B
  | _ => False
theorem dv_tupI {K : PySem.W.Frag} {F H : Hp} (le : Same F H) {ns : List Int} {v : V} (h : Dv K F (tupI ns) v) : L2.TupI K H v ns := by
  obtain ⟨a, vs, e, h1, h2⟩ := h
  rw [h2.ints] at h1
  exact ⟨a, e, SqT.of (le _ _ h1)⟩
theorem dvs_tupI {K : PySem.W.Frag} {F H : Hp} (le : Same F H) : ∀ {rows : List (List Int)} {vs : List V}, Dvs K F (rows.map tupI) vs → Paired (fun x ns => L2.TupI K H x ns) vs rows
  | [], vs, h => by cases h; exact .nil
  | _ :: _, _, ⟨v, vs, e, h1, h2⟩ => by subst e; exact .cons (dv_tupI le h1) (dvs_tupI le h2)
theorem dvs_zip {K : PySem.W.Frag} {F : Hp} : ∀ {rows : List (List Int)} {vs : List V}, Dvs K F (rows.map tupI) vs → ∀ p ∈ vs.zip rows, Dv K F (tupI p.2) p.1
  | [], vs, h, p, hp => by cases h; cases hp
  | _ :: _, _, ⟨v, vs, e, h1, h2⟩, p, hp => by
    subst e
    rw [List.zip_cons_cons] at hp
    rcases List.mem_cons.mp hp with e | hp
    · subst e; exact h1
    · exact dvs_zip h2 p hp
theorem dvs_of_all {K : PySem.W.Frag} {F : Hp} : ∀ (ps : List (V × List Int)), (∀ p ∈ ps, Dv K F (tupI p.2) p.1) → Dvs K F ((ps.map (·.2)).map tupI) (ps.map (·.1))
  | [], _ => rfl
  | p :: ps, h => ⟨_, _, rfl, h p List.mem_cons_self, dvs_of_all ps fun q hq => h q (List.mem_cons_of_mem _ hq)⟩
section
variable {X : Cx} {TS : List Addr}
theorem bd_sortedT (hu : X.A.units + 8 < cLine) : BltD X TS (.builtin "sorted") gSortedT := ⟨_, cr_sortedTT hu, fun F H B R ds vs q Q rp dv h hq => by
  unfold gSortedT at h
  split at h
  · obtain ⟨v, e, h1⟩ := dv.one
    subst e
    obtain ⟨rows, hb, h0, h⟩ := h
    obtain ⟨a, xs, rfl, h2, h3⟩ := lst_of rp hb h1
    have pr := dvs_tupI rp.le h2
    refine ⟨a, xs, rows, rfl, h3, pr, h0, fun ps p hp hs hn => ?_⟩
    have hz := dvs_zip h2
    have hl : xs.length = rows.length := by have := h2.length; simpa using this
    have e : ps.map (·.2) = sortL rows := sortL_eq (by
      have := hp.map (·.2)
      rwa [List.map_snd_zip (by omega)] at this) hs
    have dvs := dvs_of_all ps fun p hp' => hz p (hp.mem_iff.mp hp')
    rw [e] at dvs
    exact new_lst rp hq h dvs hn
  · exact h.elim⟩
end
end DL
set_option Elab.async false
set_option linter.all false
set_option maxRecDepth 100000
set_option maxHeartbeats 2000000
/-! DL29: sorted of a dict whose keys are tuples of whole numbers. -/
namespace DL
open PySem PySem.Spec PyProof.Rows L2
def rSortedDT : List V → Hp → VK → Prop := fun vs H Q => ∃ (a : Addr) (kvs : List (List Key × V)) (rows : List (List Int)), vs = [V.ref a] ∧ H a = some (.dT kvs) ∧ kvs.map (·.1) = rows.map (fun r => r.map Sum.inl) ∧ (2 ≤ rows.length → ∀ r, rows[0]? = some r → r ≠ []) ∧
  ∀ (ps : List (Addr × List Int)) (p : Addr), (∀ x ∈ ps, H x.1 = some (.tup (x.2.map V.int))) → ps.map (·.2) = sortL rows → H p = none → Q (.ref p) (upd H p (.lst (ps.map fun x => V.ref x.1)))
theorem paired_at {α β : Type} {F : α → β → Prop} : ∀ {l : List α} {m : List β} {j : Nat} {y : β}, Paired F l m → m[j]? = some y → ∃ x, l[j]? = some x ∧ F x y
  | _, _, _, _, .nil, h => by simp at h
  | _, _, 0, _, .cons r _, h => by simp at h; subst h; exact ⟨_, rfl, r⟩
  | _, _, j + 1, _, .cons _ t, h => by
    obtain ⟨x, h1, h2⟩ := paired_at (j := j) t (by simpa using h)
    exact ⟨x, by simpa using h1, h2⟩
theorem rows_kV (r : List Int) : (r.map Sum.inl).map L2.kV = r.map V.int := by rw [List.map_map]; rfl
section
variable {X : Cx}
theorem cr_sortedDT (hc : X.calm = true) (hu : X.A.units + 8 < cLine) : CallR X (.builtin "sorted") rSortedDT := by
  intro pins s σ H vs us Q I r h
  obtain ⟨a, kvs, rows, rfl, ha, hk, h0, q⟩ := h
  rw [Vals.ref1 r]
  obtain ⟨hz, lo, xs, pr, o, es, ep, ho, hx, hdt, ent, nd⟩ := I.hok a _ ha
  have lx : kvs.length = xs.length := pr.length
  have le : es.size = xs.length := by rw [← Array.length_toList, ent, List.length_map]
  have lr : kvs.length = rows.length := by have := congrArg List.length hk; simpa using this
  refine Calls.call_function_entry PyProof.Rows.kind_sorted PyProof.Rows.plain_sorted PyProof.Rows.entry_sorted (PyProof.Rows.args_sorted1 _) ?_
  unfold Builtin.«sorted»
  refine wpAny_bind (m := checkCount "sorted" 1 1 _) (wpAny_pure ?_)
  refine wpAny_bind (PySem.W.kdu_collect (A := X.A.in1) (kdl_raw lo hx hdt) (I.ok.hd hc) ho (by omega) fun h' tk acc hkp hacc => ?_)
  have I1 : Inv X pins σ H { s with heap := h', toks := tk } := I.kept hkp
  -- what was collected: the keys' own tuples
  have at_ : ∀ (j : Nat) (v : Value), acc.toList[j]? = some v → ∃ (t : Addr) (ns : List Int), v = .ref t ∧ rows[j]? = some ns ∧ H t = some (.tup (ns.map V.int)) := fun j v e => by
    obtain ⟨en, h1, h2⟩ := hacc.2 j v (by rw [← Array.getElem?_toList]; exact e)
    rw [← Array.getElem?_toList, ent, List.getElem?_map] at h1
    obtain ⟨y, h3, h4⟩ := Option.map_eq_some_iff.mp h1
    obtain ⟨kv, h5, h7, h8, _⟩ := paired_at pr h3
    have h9 : (kvs.map (·.1))[j]? = some kv.1 := by rw [List.getElem?_map, h5]; rfl
    rw [hk, List.getElem?_map] at h9
    obtain ⟨ns, h10, h11⟩ := Option.map_eq_some_iff.mp h9
    refine ⟨y.2.1, ns, by rw [h2, ← h4]; rfl, h10, ?_⟩
    rw [h8, ← h11, rows_kV]
  have hal : acc.toList.length = rows.length := by rw [Array.length_toList, hacc.1]; omega
  have tupsI : ∀ v ∈ acc.toList, ∃ t ns, v = Value.ref t ∧ H t = some (.tup (ns.map V.int)) ∧ TS.TupInts h' v ns := fun v hv => by
    obtain ⟨j, hj⟩ := List.mem_iff_getElem?.mp hv
    obtain ⟨t, ns, rfl, _, e2⟩ := at_ j v hj
    exact ⟨t, ns, rfl, e2, tupI_raw I1 (SqT.of e2)⟩
  have e3 : acc.toList.map (TS.intsOf h') = rows := by
    apply List.ext_getElem?
    intro j
    rw [List.getElem?_map]
    cases e : acc.toList[j]? with
    | none =>
      have : rows.length ≤ j := by rw [← hal]; exact List.getElem?_eq_none_iff.mp e
      rw [List.getElem?_eq_none this]; rfl
    | some v =>
      obtain ⟨t, ns, rfl, e1, e2⟩ := at_ j v e
      rw [e1]
      show some (TS.intsOf h' (.ref t)) = some ns
      rw [(tupI_raw I1 (SqT.of e2)).ints]
  refine wpAny_bind (wpAny_newList ?_ (by rw [hal]; omega))
  have hoL : (h'.push (seqObj "list" acc.toList.toArray 0)).get? h'.objs.size = some (seqObj "list" acc.toList.toArray 0) := Heap.get?_push_size _ rfl
  show wpAny _ _ _ _ _ { s with heap := h'.push (seqObj "list" acc.toList.toArray 0), toks := tk }
  refine wpAny_bind (wpAny_holding (wpAny_call_entry PyProof.Rows.slot_list_sort ⟨_, hoL, rfl⟩ PyProof.Rows.entry_list_sort
    (SrtO.list_sort_ord (s := { s with heap := h'.push (seqObj "list" acc.toList.toArray 0), toks := tk }) (swo_ints (TS.intsOf h')) hoL (by rw [hal]; omega)
      (fun h2 => tups_sortable (s := { s with heap := h'.push (seqObj "list" acc.toList.toArray 0), toks := tk }) _ (fun v hv => ?_) (fun v hv => ?_) h2 (fun o e => ?_) (by show X.A.units + 1 + 1 < cLine; omega)) fun out hsr hst => ⟨_, rfl, ?_⟩) (PyProof.Rows.args_list_sort _)))
  · obtain ⟨t, ns, rfl, _, ht⟩ := tupsI v hv
    rw [ht.ints]
    exact ht.keeps fun b o e _ => Heap.get?_push_of_some _ e
  · refine h0 (by omega) _ ?_
    rw [← e3, List.getElem?_map, hv]
    rfl
  · have e' : some o = some (seqObj "list" acc.toList.toArray 0) := e.symm.trans hoL
    cases e'
    intro c
    exact absurd (Value.type.inj c) (by decide)
  · have hln : (out.map fun u => V.ref (match u with | .ref t => t | _ => 0)).length ≤ sizeLine := by rw [List.length_map, hst.perm.length_eq, hal]; omega
    have mem : ∀ u ∈ out, ∃ t ns, u = Value.ref t ∧ H t = some (.tup (ns.map V.int)) ∧ TS.TupInts h' u ns := fun u hu => tupsI u (hst.perm.mem_iff.mp hu)
    have vls : ∀ l : List Value, (∀ u ∈ l, ∃ t, u = Value.ref t) → Vals (l.map fun u => V.ref (match u with | .ref t => t | _ => 0)) l := by
      intro l
      induction l with
      | nil => intro _; exact .nil
      | cons u l ih =>
        intro hl
        obtain ⟨t, rfl⟩ := hl u List.mem_cons_self
        exact .cons rfl (ih fun v hv => hl v (List.mem_cons_of_mem _ hv))
    have hq := q (out.map fun u => ((match u with | .ref t => t | _ => 0 : Addr), TS.intsOf h' u)) h'.objs.size (fun x hx => by
      obtain ⟨u, hu, rfl⟩ := List.mem_map.mp hx
      obtain ⟨t, ns, rfl, e1, e2⟩ := mem u hu
      show H t = some (.tup ((TS.intsOf h' (.ref t)).map V.int))
      rw [e2.ints]
      exact e1) (by
      rw [List.map_map]
      refine sortL_eq ?_ (List.pairwise_map.mpr hsr)
      have := hst.perm.map (TS.intsOf h')
      rwa [e3] at this) (I1.hok.fresh (Nat.le_refl _))
    rw [List.map_map] at hq
    obtain ⟨e', he'⟩ := PyProof.Rows.sortedHeap_at (vs := acc.toList) (out := out.toArray) hoL
    refine wpAny_pure ⟨_, rfl, .ref h'.objs.size, upd H h'.objs.size (.lst (out.map fun u => V.ref (match u with | .ref t => t | _ => 0))), I1.laid (t' := tk) (fun b u e => ?_) (Nat.le_refl _)
      (show ObjOk X.prog X.w _ _ _ (.lst _) from ⟨hln, out, e', vls out fun u hu => let ⟨t, _, e, _⟩ := mem u hu; ⟨t, e⟩, he'⟩), rfl, hq⟩
    have hb : b < h'.objs.size := Heap.lt_size e
    rw [PyProof.Rows.sortedHeap_old (Nat.ne_of_lt hb) (by rw [size_push']; exact Nat.lt_succ_of_lt hb)]
    exact Heap.get?_push_of_some _ e
end
end DL
set_option Elab.async false
set_option linter.all false
set_option maxRecDepth 100000
set_option maxHeartbeats 2000000
/-! DL30: sorted of a dict: at the level of data. -/
namespace DL
open PySem PySem.Spec PyProof.Rows L2
/-- a box is no tuple -/
theorem BoxOk.notTup {K : PySem.W.Frag} {F H : Hp} {b : Box} {a : Addr} (h : BoxOk K F H b a) (vs : List V) : H a ≠ some (.tup vs) := fun e => by
  cases b with
  | lst ds => obtain ⟨_, h, _⟩ := h; rw [e] at h; cases h
  | dK ds => obtain ⟨_, h, _⟩ := h; rw [e] at h; cases h
  | dT ds => obtain ⟨_, h, _⟩ := h; rw [e] at h; cases h
  | ins C fs => obtain ⟨_, _, h, _⟩ := h; rw [e] at h; cases h
  | tab => obtain ⟨_, h, _⟩ := h; rw [e] at h; cases h
  | ext φ => have h : H a = some (.ext φ) := h; rw [e] at h; cases h
  | tabQ q => obtain ⟨_, h, _⟩ := h; rw [e] at h; cases h
  | lk o ws kvs => obtain ⟨h, _⟩ := h; rw [e] at h; cases h
/-- tuples that stand are known -/
theorem RepH.know {K : PySem.W.Frag} {TS : List Addr} {F H : Hp} {B R : Bx} (r : RepH K TS F H B R) (qs : List Addr) (h : ∀ q ∈ qs, ∃ vs, H q = some (.tup vs)) : ∃ F', Same F F' ∧ RepH K TS F' H B R ∧ ∀ q ∈ qs, F' q = H q := by
  classical
  have sm : Same F (fun c => if c ∈ qs then H c else F c) := fun c o e => by
    show (if c ∈ qs then H c else F c) = some o
    split
    · exact r.le _ _ e
    · exact e
  refine ⟨fun c => if c ∈ qs then H c else F c, sm, ⟨fun c o e => ?_, fun a b e => ?_, fun a b e => ?_, r.dj, r.tb⟩, fun q hq => if_pos hq⟩
  · have e : (if c ∈ qs then H c else F c) = some o := e
    split at e
    · exact e
    · exact r.le _ _ e
  · obtain ⟨h1, h2⟩ := r.bx a b e
    refine ⟨?_, h2.mono sm rfl⟩
    show (if a ∈ qs then H a else F a) = none
    rw [if_neg (fun hm => let ⟨vs, hv⟩ := h a hm; h2.notTup vs hv)]
    exact h1
  · obtain ⟨h1, h2⟩ := r.rx a b e
    refine ⟨?_, h2.mono sm rfl⟩
    show (if a ∈ qs then H a else F a) = none
    rw [if_neg (fun hm => let ⟨vs, hv⟩ := h a hm; h2.notTup vs hv)]
    exact h1
def gSortedDT : GA := fun ds B q => match ds with
  | [.ref a] => ∃ (kvs : List (List Key × D)) (rows : List (List Int)), B a = some (.dT kvs) ∧ kvs.map (·.1) = rows.map (fun r => r.map Sum.inl) ∧ (2 ≤ rows.length → ∀ r, rows[0]? = some r → r ≠ []) ∧ q (.lst ((sortL rows).map tupI)) B
  | _ => False
section
variable {X : Cx} {TS : List Addr}
theorem bd_sortedDT (hc : X.calm = true) (hu : X.A.units + 8 < cLine) : BltD X TS (.builtin "sorted") gSortedDT := ⟨_, cr_sortedDT hc hu, fun F H B R ds vs q Q rp dv h hq => by
  unfold gSortedDT at h
  split at h
  · obtain ⟨v, e, h1⟩ := dv.one
    subst e
    have h1 : v = _ := h1
    subst h1
    obtain ⟨kvs, rows, hb, hk, h0, h⟩ := h
    obtain ⟨_, ws, h2, h3⟩ := rp.bx _ _ hb
    refine ⟨_, ws, rows, rfl, h2, by rw [h3.keys]; exact hk, h0, fun ps p hps hs hn => ?_⟩
    obtain ⟨F1, e1, rp1, hF⟩ := rp.know (ps.map (·.1)) fun q hq => by
      obtain ⟨x, hx, rfl⟩ := List.mem_map.mp hq
      exact ⟨_, hps x hx⟩
    have dvs : ∀ l : List (Addr × List Int), (∀ x ∈ l, F1 x.1 = some (.tup (x.2.map V.int))) → Dvs X.K F1 ((l.map (·.2)).map tupI) (l.map fun x => V.ref x.1) := by
      intro l
      induction l with
      | nil => intro _; rfl
      | cons x l ih =>
        intro hl
        exact ⟨_, _, rfl, ⟨x.1, x.2.map V.int, rfl, hl x List.mem_cons_self, Dvs.ofInts x.2⟩, ih fun y hy => hl y (List.mem_cons_of_mem _ hy)⟩
    have d := dvs ps fun x hx => by
      rw [hF x.1 (List.mem_map.mpr ⟨x, hx, rfl⟩)]
      exact hps x hx
    rw [hs] at d
    exact new_lst rp1 (hq.mono e1) h d hn
  · exact h.elim⟩
/-- .. with whole numbers as keys, fewer than 64 -/
def gSortedDI : GA := fun ds B q => match ds with
  | [.ref a] => ∃ (kvs : List (Key × D)) (ks : List Int), B a = some (.dK kvs) ∧ kvs.map (·.1) = ks.map Sum.inl ∧ ks.length < 64 ∧ q (.lst ((sortI ks).map D.int)) B
  | _ => False
theorem bd_sortedDI (hc : X.calm = true) : BltD X TS (.builtin "sorted") gSortedDI := ⟨_, call_sortedDI hc, fun F H B R ds vs q Q rp dv h hq => by
  unfold gSortedDI at h
  split at h
  · obtain ⟨v, e, h1⟩ := dv.one
    subst e
    have h1 : v = _ := h1
    subst h1
    obtain ⟨kvs, ks, hb, hk, h64, h⟩ := h
    obtain ⟨_, ws, h2, h3⟩ := rp.bx _ _ hb
    refine ⟨_, ws, ks, rfl, .inl h2, by rw [h3.keys]; exact hk, h64, fun ys p hp hs hn => ?_⟩
    have e := sorted_eq hp hs
    rw [← e] at h
    exact new_lst rp hq h (Dvs.ofInts ys) hn
  · exact h.elim⟩
end
end DL
set_option Elab.async false
set_option linter.all false
set_option maxRecDepth 100000
set_option maxHeartbeats 2000000
/-! DL31: dict(list of pairs). -/
namespace DL
open PySem PySem.Spec PyProof.Rows L2
def mergeD {κ : Type} [DecidableEq κ] (kvs : List (κ × D)) : List (κ × D) := kvs.foldl (fun acc kv => putD acc kv.1 kv.2) []
def kD : Key → D
  | .inl i => .int i
  | .inr x => .str x
theorem dv_kD {K : PySem.W.Frag} {F : Hp} {k : Key} {v : V} (h : Dv K F (kD k) v) : v = L2.kV k := by
  cases k with
  | inl i => exact h
  | inr x => exact h
theorem dvs_kD {K : PySem.W.Frag} {F : Hp} : ∀ {ks : List Key} {vs : List V}, Dvs K F (ks.map kD) vs → vs = ks.map L2.kV
  | [], vs, h => h
  | k :: ks, _, ⟨v, vs, e, h1, h2⟩ => by subst e; rw [dv_kD h1, dvs_kD h2]; rfl
theorem dkv_fold {K : PySem.W.Frag} {F : Hp} {κ : Type} [DecidableEq κ] : ∀ {kvs : List (κ × D)} {ws : List (κ × V)} {a : List (κ × D)} {b : List (κ × V)}, DKv K F kvs ws → DKv K F a b →
    DKv K F (kvs.foldl (fun acc kv => putD acc kv.1 kv.2) a) (ws.foldl (fun acc kv => putK acc kv.1 kv.2) b)
  | [], _, _, _, h, h0 => by cases h; exact h0
  | (k, d) :: kvs, _, a, b, ⟨v, ws, e, h1, h2⟩, h0 => by
    subst e
    rw [List.foldl_cons, List.foldl_cons]
    exact dkv_fold (a := putD a k d) (b := putK b k v) h2 (h0.put k h1)
theorem pairs_dp {K : PySem.W.Frag} {F H : Hp} (le : Same F H) : ∀ {kvs : List (Key × D)} {vs : List V}, Dvs K F (kvs.map fun kv => .tup [kD kv.1, kv.2]) vs → ∃ (ps : List Addr) (ws : List (Key × V)), vs = ps.map V.ref ∧ DKv K F kvs ws ∧ Paired (fun p kv => SqT K H p [L2.kV kv.1, kv.2]) ps ws
  | [], vs, h => by cases h; exact ⟨[], [], rfl, rfl, .nil⟩
  | (k, d) :: kvs, _, ⟨v, vs, e, h1, h2⟩ => by
    subst e
    obtain ⟨a, us, rfl, h3, h4⟩ := h1
    obtain ⟨v1, v2, e, h5, h6⟩ := h4.two
    subst e
    rw [dv_kD h5] at h3
    obtain ⟨ps, ws, e, h7, h8⟩ := pairs_dp le h2
    subst e
    exact ⟨a :: ps, (k, v2) :: ws, rfl, ⟨v2, ws, rfl, h6, h7⟩, .cons (SqT.of (le _ _ h3)) h8⟩
/-- dict(pairs), keys ints and texts -/
def gDictP : GA := fun ds B q => match ds with
  | [d] => ∃ kvs : List (Key × D), lstOf B d = some (kvs.map fun kv => .tup [kD kv.1, kv.2]) ∧ ∀ p, B p = none → q (.ref p) (put B p (.dK (mergeD kvs)))
  | _ => False
/-- .. keys tuples -/
def gDictPT : GA := fun ds B q => match ds with
  | [d] => ∃ kvs : List (List Key × D), lstOf B d = some (kvs.map fun kv => .tup [.tup (kv.1.map kD), kv.2]) ∧ ∀ p, B p = none → q (.ref p) (put B p (.dT (mergeD kvs)))
  | _ => False
def rDictPT (K : PySem.W.Frag) : List V → Hp → VK → Prop := fun vs H Q => ∃ (a : Addr) (ps : List Addr) (kxs : List (List Key × Addr × V)), vs = [.ref a] ∧ SqL K H a (ps.map V.ref) ∧ Paired (fun (p : Addr) (x : List Key × Addr × V) => SqT K H p [V.ref x.2.1, x.2.2] ∧ H x.2.1 = some (.tup (x.1.map L2.kV))) ps kxs ∧
  ∀ p, H p = none → Q (.ref p) (upd H p (.dT ((kxs.map fun x => (x.1, x.2.2)).foldl (fun acc kv => putK acc kv.1 kv.2) [])))
theorem length_foldK {κ : Type} [DecidableEq κ] : ∀ (l : List (κ × V)) (b : List (κ × V)), (l.foldl (fun acc kv => putK acc kv.1 kv.2) b).length ≤ b.length + l.length
  | [], b => Nat.le_refl _
  | kv :: l, b => by
    have h1 := length_foldK l (putK b kv.1 kv.2)
    have h2 : (putK b kv.1 kv.2).length ≤ b.length + 1 := by unfold putK; split <;> simp
    rw [List.foldl_cons, List.length_cons]
    omega
section
variable {X : Cx} {pins : List (Addr × Obj)} {σ : L2.St} {H : Hp} {s : Shared}
theorem tpairs_of (I : Inv X pins σ H s) : ∀ {ps : List Addr} {kxs : List (List Key × Addr × V)}, Paired (fun (p : Addr) (x : List Key × Addr × V) => SqT X.K H p [V.ref x.2.1, x.2.2] ∧ H x.2.1 = some (.tup (x.1.map L2.kV))) ps kxs →
    ∃ prs : List (List Key × Addr × Value), prs.length = ps.length ∧ Paired (fun (x : List Key × Addr × V) (y : List Key × Addr × Value) => x.1 = y.1 ∧ x.2.1 = y.2.1 ∧ RelV x.2.2 y.2.2 ∧ H y.2.1 = some (.tup (y.1.map L2.kV))) kxs prs ∧
      ∀ (j : Nat) (q : List Key × Addr × Value), prs[j]? = some q → ∃ b : Addr, ps[j]? = some b ∧ IsTup s.heap b #[.ref q.2.1, q.2.2]
  | _, _, .nil => ⟨[], rfl, .nil, fun j q e => by simp at e⟩
  | _, _, .cons (a := p) (b := x) ⟨h, hk⟩ t => by
    obtain ⟨prs, hl, r, hp⟩ := tpairs_of I t
    obtain ⟨its, rv, ht, _⟩ := I.tuple h
    obtain ⟨u, y, ei, ru, ry⟩ := vals2 rv
    subst ei
    obtain rfl : u = Value.ref x.2.1 := ru
    refine ⟨(x.1, x.2.1, y) :: prs, by simp [hl], .cons ⟨rfl, rfl, ry, hk⟩ r, fun j q e => ?_⟩
    cases j with
    | zero =>
      have : (x.1, x.2.1, y) = q := by simpa using e
      subst this
      exact ⟨p, rfl, by simpa using ht⟩
    | succ j =>
      obtain ⟨b, h1, h2⟩ := hp j q (by simpa using e)
      exact ⟨b, by simpa using h1, h2⟩
theorem kt_fold {H : Hp} : ∀ {kxs : List (List Key × Addr × V)} {prs : List (List Key × Addr × Value)} {a : List (List Key × V)} {b : List (List Key × Addr × Value)}, Paired (fun (x : List Key × Addr × V) (y : List Key × Addr × Value) => x.1 = y.1 ∧ x.2.1 = y.2.1 ∧ RelV x.2.2 y.2.2 ∧ H y.2.1 = some (.tup (y.1.map L2.kV))) kxs prs → KT H a b →
    KT H ((kxs.map fun x => (x.1, x.2.2)).foldl (fun acc kv => putK acc kv.1 kv.2) a) (storedAllH b prs)
  | _, _, _, _, .nil, h0 => h0
  | _, _, a, b, .cons (a := x) (b := y) ⟨e1, e2, r, hk⟩ t, h0 => by
    have := kt_fold t (KT.put h0 y.1 hk r)
    rw [← e1] at this
    rw [List.map_cons, List.foldl_cons]
    show KT H _ (storedAllH (storedH b y.1 y.2.1 y.2.2) _)
    rw [← e1]
    exact this
theorem refs_of : ∀ {ps : List Addr} {us : List Value}, Vals (ps.map V.ref) us → us = ps.map Value.ref
  | [], us, r => by cases r; rfl
  | p :: ps, us, r => by
    cases r with
    | cons h t => cases h; rw [List.map_cons, ← refs_of t]
theorem call_dictPT (hc : X.calm = true) (hu : X.A.units + 8 < cLine) : CallR X (.type "dict") (rDictPT X.K) := by
  intro pins s σ H xs us Q I r q
  obtain ⟨a, ps, kxs, ex, hq, hp, q⟩ := q
  subst ex
  rw [Vals.ref1 r]
  obtain ⟨its, rv, pl, hz⟩ := I.list hq
  have ei := refs_of rv
  subst ei
  rw [List.length_map] at hz
  obtain ⟨prs, hl, rel, hpr⟩ := tpairs_of I hp
  obtain ⟨o, n, ho, hcl, hd, hdat⟩ := pl
  have ok : (fun h => PlainSeq "list" h a (ps.map Value.ref).toArray ∧ PairItems h (ps.map Value.ref).toArray (fun j => ps.getD j 0) (prs.map fun x => (Value.ref x.2.1, x.2.2))) s.heap := by
    refine ⟨⟨o, n, ho, hcl, hd, hdat⟩, by simp [hl], fun j k v e => ?_⟩
    rw [List.getElem?_map] at e
    obtain ⟨y, h1, h2⟩ := Option.map_eq_some_iff.mp e
    cases h2
    obtain ⟨b, h3, h4⟩ := hpr j y h1
    have eg : ps.getD j 0 = b := by rw [List.getD_eq_getElem?_getD, h3]; rfl
    exact ⟨by simp [h3], .inl (by show s.heap.IsTuple (ps.getD j 0) _; rw [eg]; exact h4)⟩
  have keyAt : ∀ x ∈ prs, (tupleKind (mixKind X.prog X.w)).is s.heap x.1 x.2.1 := fun x hx => by
    obtain ⟨j, hj⟩ := List.mem_iff_getElem?.mp hx
    obtain ⟨_, _, _, _, _, hk⟩ := paired_at rel hj
    exact key_of I.hok hk
  refine call_dict_pairsH (knd := tupleKind (mixKind X.prog X.w)) (ps := prs) (PairArg.list a (ps.map Value.ref).toArray (fun j => ps.getD j 0) (prs.map fun x => (Value.ref x.2.1, x.2.2))) (I.ok.hd hc) (by show X.A.units + 1 + 1 < cLine; omega) ok ⟨by simp, fun i key v e => ?_⟩ (fun h' hk x hx => ?_) (by simp [hl]; exact hz) fun h' tk hd' k => ?_
  · have e : (prs.map fun x => (Value.ref x.2.1, x.2.2))[i]? = some (key, v) := e
    rw [List.getElem?_map] at e
    obtain ⟨y, h1, h2⟩ := Option.map_eq_some_iff.mp e
    cases h2
    exact ⟨y.1, y.2.1, h1, rfl⟩
  · obtain ⟨o', items, n', h1, h2, h3, h4⟩ := keyAt x hx
    exact ⟨o', items, n', hk _ _ (Nat.ne_of_lt (Heap.lt_size h1)) (fun z => nomatch z) h1, h2, h3, h4⟩
  · have hm : (s.heap.objs.size == sysModules) = false := beq_eq_false_iff_ne.mpr (Nat.ne_of_gt I.big)
    have kt := kt_fold (a := []) (b := []) rel .nil
    have hlen : ((kxs.map fun x => (x.1, x.2.2)).foldl (fun acc kv => putK acc kv.1 kv.2) ([] : List (List Key × V))).length ≤ sizeLine := by
      refine Nat.le_trans (length_foldK _ []) ?_
      rw [List.length_nil, Nat.zero_add, List.length_map, rel.length, hl]
      exact hz
    obtain ⟨o2, es, ep, g1, g2, g3, g4, _, g6⟩ := hd'
    have nN : H s.heap.objs.size = none := I.hok.fresh (Nat.le_refl _)
    refine ⟨.ref s.heap.objs.size, upd H s.heap.objs.size (.dT _), I.laid (t' := tk) (fun b o e => k b o (fun z => nomatch z) e) (Nat.le_refl _) (show ObjOk X.prog X.w _ _ _ (.dT _) from ⟨hlen, hm, storedAllH [] prs, ?_, o2, es, ep, g1, g2, g3, g4, g6⟩), rfl, q _ nN⟩
    refine L2.Paired.mapP kt fun x y ⟨a1, a2, a3⟩ => ⟨a1, ?_, a3⟩
    rw [upd_ne (ne_of_none a2 nN)]
    exact a2
end
section
variable {X : Cx} {TS : List Addr}
theorem bd_dictP (hc : X.calm = true) : BltD X TS (.type "dict") gDictP := ⟨_, call_dictP hc, fun F H B R ds vs q Q rp dv h hq => by
  unfold gDictP at h
  split at h
  · obtain ⟨v, e, h1⟩ := dv.one
    subst e
    obtain ⟨kvs, hb, h⟩ := h
    obtain ⟨a, xs, rfl, h2, h3⟩ := lst_of rp hb h1
    obtain ⟨ps, ws, rfl, h4, h5⟩ := pairs_dp rp.le h2
    exact ⟨a, ps, ws, rfl, h3, h5, fun p hp => hq _ (put B p (.dK (mergeD kvs))) F _ _ (h p (rp.freeB hp)) (Same.refl F) (rp.box hp ⟨_, upd_same, dkv_fold h4 rfl⟩) rfl⟩
  · exact h.elim⟩
theorem tpairs_dp {K : PySem.W.Frag} {F H : Hp} (le : Same F H) : ∀ {kvs : List (List Key × D)} {vs : List V}, Dvs K F (kvs.map fun kv => .tup [.tup (kv.1.map kD), kv.2]) vs → ∃ (ps : List Addr) (kxs : List (List Key × Addr × V)), vs = ps.map V.ref ∧ DKv K F kvs (kxs.map fun x => (x.1, x.2.2)) ∧
    Paired (fun (p : Addr) (x : List Key × Addr × V) => SqT K H p [V.ref x.2.1, x.2.2] ∧ H x.2.1 = some (.tup (x.1.map L2.kV))) ps kxs
  | [], vs, h => by cases h; exact ⟨[], [], rfl, rfl, .nil⟩
  | (k, d) :: kvs, _, ⟨v, vs, e, h1, h2⟩ => by
    subst e
    obtain ⟨a, us, rfl, h3, h4⟩ := h1
    obtain ⟨v1, v2, e, h5, h6⟩ := h4.two
    subst e
    obtain ⟨t, ks, rfl, h9, h10⟩ := h5
    rw [dvs_kD h10] at h9
    obtain ⟨ps, kxs, e, h7, h8⟩ := tpairs_dp le h2
    subst e
    exact ⟨a :: ps, (k, t, v2) :: kxs, rfl, ⟨v2, _, rfl, h6, h7⟩, .cons ⟨SqT.of (le _ _ h3), le _ _ h9⟩ h8⟩
theorem bd_dictPT (hc : X.calm = true) (hu : X.A.units + 8 < cLine) : BltD X TS (.type "dict") gDictPT := ⟨_, call_dictPT hc hu, fun F H B R ds vs q Q rp dv h hq => by
  unfold gDictPT at h
  split at h
  · obtain ⟨v, e, h1⟩ := dv.one
    subst e
    obtain ⟨kvs, hb, h⟩ := h
    obtain ⟨a, xs, rfl, h2, h3⟩ := lst_of rp hb h1
    obtain ⟨ps, kxs, rfl, h4, h5⟩ := tpairs_dp rp.le h2
    exact ⟨a, ps, kxs, rfl, h3, h5, fun p hp => hq _ (put B p (.dT (mergeD kvs))) F _ _ (h p (rp.freeB hp)) (Same.refl F) (rp.box hp ⟨_, upd_same, dkv_fold h4 rfl⟩) rfl⟩
  · exact h.elim⟩
end
end DL
set_option Elab.async false
set_option linter.all false
set_option maxRecDepth 100000
set_option maxHeartbeats 2000000
/-! DL32: sorted of a tuple of whole numbers. -/
namespace DL
open PySem PySem.Spec PyProof.Rows L2
def rSortedTup (K : PySem.W.Frag) : List V → Hp → VK → Prop := fun vs H Q => ∃ (a : Addr) (ns : List Int), vs = [V.ref a] ∧ SqT K H a (ns.map V.int) ∧
  ∀ (ns' : List Int) (p : Addr), ns'.Perm ns → ns'.Pairwise (· ≤ ·) → H p = none → Q (.ref p) (upd H p (.lst (ns'.map V.int)))
section
variable {X : Cx} {TS : List Addr}
theorem cr_sortedTup : CallR X (.builtin "sorted") (rSortedTup X.K) := by
  intro pins s σ H vs us Q I r h
  obtain ⟨a, ns, rfl, hs, q⟩ := h
  obtain ⟨its, rv, hl, hz⟩ := I.tuple hs
  rw [Vals.ref1 r]
  obtain ⟨o, ho, hcl, n, hd⟩ := hl
  have hi : IntsAre its ns := rv.ints
  have hlen : its.length ≤ sizeLine := by rw [← rv.length]; exact hz
  refine Calls.call_function_entry PyProof.Rows.kind_sorted PyProof.Rows.plain_sorted PyProof.Rows.entry_sorted (PyProof.Rows.args_sorted1 _) ?_
  unfold Builtin.«sorted»
  refine wpAny_bind (m := checkCount "sorted" 1 1 _) (wpAny_pure ?_)
  refine wpAny_bind (wpAny_collect_seq (A := X.A.in1) a (.inr rfl) ho hcl hd (fun h' hkp => ?_) (by simpa using hlen))
  have I1 : Inv X pins σ H { s with heap := h' } := I.kept (t' := s.toks) hkp
  show wpAny _ _ _ _ _ _
  rw [show its.toArray.toList = its by simp]
  refine wpAny_bind (wpAny_newList ?_ hlen)
  have hoL : (h'.push (seqObj "list" its.toArray 0)).get? h'.objs.size = some (seqObj "list" its.toArray 0) := Heap.get?_push_size _ rfl
  show wpAny _ _ _ _ _ { s with heap := h'.push (seqObj "list" its.toArray 0) }
  refine wpAny_bind (wpAny_holding (wpAny_call_entry PyProof.Rows.slot_list_sort ⟨_, hoL, rfl⟩ PyProof.Rows.entry_list_sort
    (SrtO.list_sort_ord (s := { s with heap := h'.push (seqObj "list" its.toArray 0) }) SrtO.swo_int hoL hlen (fun h2 => SrtO.ints_sortable hi h2) fun out hsr hst => ⟨_, rfl, ?_⟩) (PyProof.Rows.args_list_sort _)))
  obtain ⟨k1, k2, k3⟩ := SrtO.ints_out hi hsr hst
  obtain ⟨e', he'⟩ := PyProof.Rows.sortedHeap_at (vs := its) (out := out.toArray) hoL
  have hl2 : ((out.map SrtO.iv).map V.int).length ≤ sizeLine := by
    rw [List.length_map, k2.length_eq]
    rw [List.length_map] at hz
    exact hz
  refine wpAny_pure ⟨_, rfl, .ref h'.objs.size, upd H h'.objs.size (.lst ((out.map SrtO.iv).map V.int)), I1.laid (t' := s.toks) (fun b u e => ?_) (Nat.le_refl _)
    (show ObjOk X.prog X.w _ _ _ (.lst _) from ⟨hl2, out, e', vals_of_ints k1, he'⟩), rfl, q _ _ k2 k3 (I1.hok.fresh (Nat.le_refl _))⟩
  have hb : b < h'.objs.size := Heap.lt_size e
  rw [PyProof.Rows.sortedHeap_old (Nat.ne_of_lt hb) (by rw [size_push']; exact Nat.lt_succ_of_lt hb)]
  exact Heap.get?_push_of_some _ e
/-- sorted of a list or a tuple of whole numbers -/
def gSortedS : GA := fun ds B q => match ds with
  | [d] => ∃ ns : List Int, seqOf B d = some (ns.map .int) ∧ q (.lst ((sortI ns).map .int)) B
  | _ => False
theorem bd_sortedS : BltD X TS (.builtin "sorted") gSortedS := ⟨_, CallR.or cr_sortedI cr_sortedTup, fun F H B R ds vs q Q rp dv h hq => by
  unfold gSortedS at h
  split at h
  · obtain ⟨v, e, h1⟩ := dv.one
    subst e
    obtain ⟨ns, hb, h⟩ := h
    obtain ⟨a, vs, rfl, h2, h3⟩ := seq_of rp hb h1
    rw [h2.ints] at h3
    have fin : ∀ (ns' : List Int) (p : Addr), ns'.Perm ns → ns'.Pairwise (· ≤ ·) → H p = none → Q (.ref p) (upd H p (.lst (ns'.map V.int))) := fun ns' p hp hs hH => by
      rw [sorted_eq hp hs]
      exact new_lst rp hq h (Dvs.ofInts _) hH
    rcases h3 with h3 | h3
    · exact .inl ⟨a, ns, rfl, h3, fin⟩
    · exact .inr ⟨a, ns, rfl, h3, fin⟩
  · exact h.elim⟩
end
end DL
set_option Elab.async false
set_option linter.all false
set_option maxRecDepth 100000
set_option maxHeartbeats 2000000
/-! DL33: what is known of lambdas that capture names, at the level of data. -/
namespace DL
open PySem PySem.Spec PyProof.Rows L2
/-- callable over the base b -/
abbrev CalAt (P : Program) (w : World) (K : PySem.W.Frag) (mg : Str → Option Value) (TS : List Addr) (k : Nat) (b : Heap) : CalP := fun sp f F => Cal P w K mg b TS k sp f F
/-- a lambda that captures the names N: over each base that tells what they hold, it keeps the promise sl of that -/
def LamP (cal : Heap → CalP) (base : Heap) (Zc : Heap → Str → D → Prop) (N : List Str) (sl : List D → Bx → DK → XD → Prop) : Addr → Hp → Prop := fun f F =>
  ∀ b, Up base b → ∀ ds : List D, N.length = ds.length → (∀ (i : Nat) (x : Str), N[i]? = some x → ∃ d, ds[i]? = some d ∧ Zc b x d) → cal b (sl ds) f F
theorem InBody.u8 {X : Cx} {W : WX} {k : Nat} (I : InBody X W k) : X.A.units + 8 < cLine := by have := I.u64; omega
/-! ### list(range(a, b)) -/
def rgI (i j : Int) : List Int := (List.range (j - i).toNat).map fun k => i + (k : Nat)
theorem rgV_eq (i j : Int) : L2.rgV i j = (rgI i j).map V.int := by unfold L2.rgV rgI; rw [List.map_map]; rfl
def dLstRg2 (ta tb : DTE) : DTE := fun Γ B q x => ta Γ B (fun d B1 => tb Γ B1 (fun e B2 => ∃ i j, d = .int i ∧ e = .int j ∧ RgOk i j ∧ q (.lst ((rgI i j).map .int)) B2) x) x
section
variable {X : Cx} {TS : List Addr} {W : WX} {a b : Expr} {ta tb : DTE} {p p2 pos pos2 : Pos}
theorem de_listRg2 (hc : X.calm = true) (hml : X.mg "list" = none) (hmr : X.mg "range" = none) (ha : DE X TS W a ta) (hb : DE X TS W b tb) (hgl : Gl X "list" := by rfl) (hgr : Gl X "range" := by rfl) (na : starEach [a, b] X.env = (false, eval a X.env) :: starEach [b] X.env := by rfl)
    (nb : starEach [b] X.env = (false, eval b X.env) :: starEach [] X.env := by rfl) (hp : (backTo pos2 (starEach [b] X.env)).any (·.1) = false := by rfl)
    (nr : starEach [.Call (.Name "range" p2) [a, b] [] pos2] X.env = (false, eval (.Call (.Name "range" p2) [a, b] [] pos2) X.env) :: starEach [] X.env := by rfl) :
    DE X TS W (.Call (.Name "list" p) [.Call (.Name "range" p2) [a, b] [] pos2] [] pos) (dLstRg2 ta tb) := PE_imp (pe_listRg hc hgl hml (prg_2 hgr hmr ha hb na nb hp) nr) fun σ H Q ⟨F, Γ, B, R, q, x, s, rp, hu, hq, hx⟩ => by
  refine ⟨F, Γ, B, R, _, x, s, rp, hu, fun d B1 F1 H1 v h1 e1 rp1 dv1 => ?_, hx⟩
  refine ⟨F1, Γ, B1, R, _, x, s.mono e1, rp1, h1, fun e B2 F2 H2 u h2 e2 rp2 dv2 => ?_, hx.mono e1⟩
  obtain ⟨i, j, rfl, rfl, ok, h2⟩ := h2
  refine ⟨i, j, dv1, dv2, ok, fun p hp => ?_⟩
  rw [rgV_eq]
  exact new_lst rp2 (hq.mono (e1.trans e2)) h2 (Dvs.ofInts _) hp
end
end DL
set_option Elab.async false
set_option linter.all false
set_option maxRecDepth 100000
set_option maxHeartbeats 2000000
/-! PL1: plain laws: xor, nim products. -/
namespace PL
open PySem
theorem xor_and_sum : ∀ (n a b : Nat), a ≤ n → (a ^^^ b) + 2 * (a &&& b) = a + b
  | 0, a, b, h => by
    have : a = 0 := by omega
    subst this
    simp
  | n + 1, a, b, h => by
    by_cases ha : a = 0
    · subst ha; simp
    · have ih := xor_and_sum n (a / 2) (b / 2) (by omega)
      have h1 : (a ^^^ b) / 2 = a / 2 ^^^ b / 2 := Nat.xor_div_two
      have h2 : (a &&& b) / 2 = a / 2 &&& b / 2 := Nat.and_div_two
      have h3 : (a ^^^ b) % 2 = (a % 2) ^^^ (b % 2) := Nat.xor_mod_two_pow (n := 1)
      have h4 : (a &&& b) % 2 = (a % 2) &&& (b % 2) := Nat.and_mod_two_pow (n := 1)
      have e1 := Nat.div_add_mod (a ^^^ b) 2
      have e2 := Nat.div_add_mod (a &&& b) 2
      have e3 := Nat.div_add_mod a 2
      have e4 := Nat.div_add_mod b 2
      rw [h1, h3] at e1
      rw [h2, h4] at e2
      rcases Nat.mod_two_eq_zero_or_one a with e | e <;> rcases Nat.mod_two_eq_zero_or_one b with f | f <;> rw [e, f] at e1 e2 <;> simp at e1 e2 <;> omega
theorem bxN (a b : Nat) : Builtin.bitXor (a : Int) (b : Int) = ((a ^^^ b : Nat) : Int) := by
  rw [PyProof.Rows.bitXor_and]
  have h := xor_and_sum a a b (Nat.le_refl _)
  have e : Builtin.bitAnd (a : Int) (b : Int) = ((a &&& b : Nat) : Int) := by
    unfold Builtin.bitAnd
    have h1 : decide (0 ≤ (a : Int)) = true := decide_eq_true (by omega)
    have h2 : decide (0 ≤ (b : Int)) = true := decide_eq_true (by omega)
    rw [h1, h2]
    rfl
  rw [e]
  omega

/-! ### nim products -/
def lim : Nat → Nat
  | 0 => 0
  | 1 => 2
  | 2 => 4
  | 3 => 16
  | _ + 4 => 256
def half (m : Nat) : Nat := if 16 ≤ m then 16 else if 4 ≤ m then 4 else 2
def npN : Nat → Nat → Nat → Nat
  | 0, _, _ => 0
  | n + 1, a, b => if a < 2 ∨ b < 2 then a * b else
    (npN n (a / half (max a b)) (b % half (max a b)) ^^^ npN n (a % half (max a b)) (b / half (max a b)) ^^^ npN n (a / half (max a b)) (b / half (max a b))) * half (max a b) ^^^
      npN n (a % half (max a b)) (b % half (max a b)) ^^^ npN n (npN n (a / half (max a b)) (b / half (max a b))) (half (max a b) / 2)
theorem half_cases (m : Nat) : (16 ≤ m ∧ half m = 16) ∨ (4 ≤ m ∧ m < 16 ∧ half m = 4) ∨ (m < 4 ∧ half m = 2) := by
  unfold half
  by_cases h : 16 ≤ m
  · exact .inl ⟨h, if_pos h⟩
  · rw [if_neg h]
    by_cases h4 : 4 ≤ m
    · exact .inr (.inl ⟨h4, by omega, if_pos h4⟩)
    · exact .inr (.inr ⟨by omega, if_neg h4⟩)
theorem lim_div {n a m : Nat} (hn : n ≤ 3) (ha : a ≤ m) (h2 : 2 ≤ m) (hm : m < lim (n + 1)) : a / half m < lim n ∧ a % half m < lim n ∧ half m / 2 < lim n := by
  rcases half_cases m with ⟨h1, e⟩ | ⟨h1, h3, e⟩ | ⟨h1, e⟩ <;> rw [e] <;> (match n, hn with
    | 0, _ => (simp [lim] at hm; omega)
    | 1, _ => (simp [lim] at hm ⊢; omega)
    | 2, _ => (simp [lim] at hm ⊢; omega)
    | 3, _ => (simp [lim] at hm ⊢; omega))
theorem np_closed3 : ∀ n, n ≤ 3 → ∀ a, a < lim n → ∀ b, b < lim n → npN n a b < lim n := by decide +kernel
def invT : List Nat := [0, 1, 3, 2, 15, 12, 9, 11, 10, 6, 8, 7, 5, 14, 13, 4, 170, 160, 109, 107, 131, 139, 116, 115, 228, 234, 92, 89, 73, 77, 220, 209, 85, 214, 80, 219, 199, 179, 203, 184, 66, 226, 70, 236, 156, 247, 149, 248, 255, 182, 189, 240, 120, 164, 174, 127, 142, 100, 98, 134, 193, 152, 145, 205, 119, 207, 40, 227, 112, 195, 42, 237, 76, 28, 186, 97, 72, 29, 177, 103, 34, 218, 104, 253, 215, 32, 242, 110, 93, 27, 151, 123, 26, 88, 124, 158, 187, 75, 58, 135, 57, 143, 176, 79, 82, 252, 108, 19, 106, 18, 87, 243, 68, 194, 117, 23, 22, 114, 206, 64, 52, 165, 150, 91, 94, 159, 175, 55, 238, 146, 138, 20, 196, 222, 59, 99, 224, 155, 130, 21, 200, 211, 56, 101, 204, 62, 129, 239, 249, 46, 122, 90, 61, 192, 225, 137, 44, 246, 95, 125, 17, 171, 181, 212, 53, 121, 244, 232, 190, 217, 16, 161, 251, 230, 54, 126, 102, 78, 198, 37, 213, 162, 49, 254, 39, 202, 74, 96, 241, 50, 168, 216, 153, 60, 113, 69, 132, 223, 178, 36, 140, 210, 185, 38, 144, 63, 118, 65, 221, 31, 201, 141, 163, 180, 33, 84, 191, 169, 81, 35, 30, 208, 133, 197, 136, 154, 41, 67, 24, 235, 173, 250, 167, 245, 25, 229, 43, 71, 128, 147, 51, 188, 86, 111, 166, 233, 157, 45, 47, 148, 231, 172, 105, 83, 183, 48]
theorem inv_ok : ∀ a, a < 256 → 1 ≤ a → 1 ≤ invT.getD a 0 ∧ invT.getD a 0 < 256 ∧ npN 4 a (invT.getD a 0) = 1 := by decide +kernel

/-! ### cold pairs -/
def nx : Nat → List Int → Int → Option Int
  | 0, _, _ => none
  | f + 1, ms, l => if l ∈ ms then nx f ms (l + 1) else some l
def addK (ms : List Int) (m : Int) : List Int := if m ∈ ms then ms else ms ++ [m]
theorem addK_len (ms : List Int) (m : Int) : (addK ms m).length ≤ ms.length + 1 := by
  unfold addK
  split
  · omega
  · simp
/-- seen, least, the last pair, after n turns -/
def coldS : Nat → Option (List Int × Int × Int × Int)
  | 0 => some ([], 0, 0, 0)
  | n + 1 => match coldS n with
    | some (ms, l, _, _) => (nx 200 ms l).map fun l' => (addK (addK ms l') (l' + (n : Int)), l', l', l' + (n : Int))
    | none => none
theorem cold_ok : ∀ n, n < 61 → (coldS n).isSome = true := by decide +kernel
def coldP (k : Nat) : Int × Int := match coldS (k + 1) with
  | some (_, _, a, b) => (a, b)
  | none => (0, 0)
end PL
namespace DL
open PySem PySem.Spec PyProof.Rows L2
/-- a dict of marks -/
def kd (ms : List Int) : List (Key × D) := ms.map fun m => (.inl m, .bl true)
theorem kd_val (ms : List Int) (l : Int) : (valD (kd ms) (.inl l)).isSome = decide (l ∈ ms) := by
  induction ms with
  | nil => rfl
  | cons m ms ih =>
    show (valD ((.inl m, .bl true) :: kd ms) (.inl l)).isSome = _
    rw [valD_cons]
    by_cases h : m = l
    · subst h; simp
    · have h2 : ¬ ((Sum.inl m : Key) = Sum.inl l) := fun e => h (Sum.inl.inj e)
      rw [if_neg h2, ih]
      simp [Ne.symm h]
theorem kd_put (ms : List Int) (m : Int) : putD (kd ms) (.inl m) (.bl true) = kd (PL.addK ms m) := by
  unfold PL.addK
  by_cases h : m ∈ ms
  · rw [if_pos h]
    unfold putD
    have e : ((kd ms).any fun kv => decide (kv.1 = Sum.inl m)) = true := by
      rw [valD_any, kd_val]; exact decide_eq_true h
    rw [if_pos e]
    unfold kd
    rw [List.map_map]
    refine List.map_congr_left fun a _ => ?_
    show (if (Sum.inl a : Key) = Sum.inl m then (Sum.inl a, D.bl true) else (Sum.inl a, D.bl true)) = _
    split <;> rfl
  · rw [if_neg h]
    rw [putD_new _ (by
      have := kd_val ms m
      rw [decide_eq_false h] at this
      cases e : valD (kd ms) (Sum.inl m) with
      | none => rfl
      | some d => rw [e] at this; cases this)]
    unfold kd
    rw [List.map_append]
    rfl
end DL
set_option Elab.async false
set_option linter.all false
set_option pp.maxSteps 600
set_option maxRecDepth 100000
set_option maxHeartbeats 2000000
--MORE
namespace DL
open PySem PySem.Spec PyProof.Rows L2
/-! DL34: numbers in rows, comprehensions without effects, the laws' dice. -/
def iL (ns : List Int) : List D := ns.map .int
def iN (ns : List Nat) : List D := ns.map fun (n : Nat) => D.int (n : Int)
theorem iN_iL (ns : List Nat) : iN ns = iL (ns.map fun (n : Nat) => (n : Int)) := by unfold iN iL; rw [List.map_map]; rfl
theorem iN_len (ns : List Nat) : (iN ns).length = ns.length := List.length_map ..
theorem iL_len (ns : List Int) : (iL ns).length = ns.length := List.length_map ..
theorem iN_app (a b : List Nat) : iN (a ++ b) = iN a ++ iN b := List.map_append
theorem iL_app (a b : List Int) : iL (a ++ b) = iL a ++ iL b := List.map_append
theorem iN_at {ns : List Nat} {k : Nat} (h : k < ns.length) : atI (iN ns) (k : Int) = some (.int (ns.getD k 0 : Nat)) := by
  refine L2.atI_nat ?_
  unfold iN
  rw [List.getElem?_map, List.getElem?_eq_getElem h, List.getD_eq_getElem?_getD, List.getElem?_eq_getElem h]
  rfl
theorem flat_N (ns : List Nat) : (iN ns).all flatD = true := by rw [iN_iL]; exact flat_ints _
theorem inD_N (n : Nat) (ns : List Nat) : inD (.int n) (iN ns) = decide (n ∈ ns) := by
  rw [iN_iL]
  show inD _ (List.map _ _) = _
  rw [inD_int, decide_eq_decide, List.mem_map]
  refine ⟨fun ⟨a, h, e⟩ => ?_, fun h => ⟨n, h, rfl⟩⟩
  have : a = n := by omega
  rw [← this]; exact h
theorem gIn_seq {B : Bx} {d e : D} {xs : List D} {neg : Bool} {q : DK} (h : seqOf B d = some xs) (h1 : flatD e = true) (h2 : xs.all flatD = true) (hq : q (.bl (neg ^^ inD e xs)) B) : gIn neg e d B q := by
  cases d with
  | lst ys => exact ⟨xs, h, h1, h2, hq⟩
  | tup ys => exact ⟨xs, h, h1, h2, hq⟩
  | rol ys => exact ⟨xs, h, h1, h2, hq⟩
  | rot ys => exact ⟨xs, h, h1, h2, hq⟩
  | ref a =>
    unfold seqOf at h
    dsimp only at h
    split at h
    · rename_i ys hb
      cases h
      exact .inr ⟨_, hb, h1, h2, hq⟩
    · cases h
  | str x => cases h
  | non => cases h
  | bl b => cases h
  | int i => cases h
  | ty n => cases h
  | obj φ => cases h
/-- a[i] of a row of numbers, however it stands -/
theorem gIx_N {B : Bx} {d : D} {ns : List Nat} {k : Nat} {q : DK} (h : seqOf B d = some (iN ns)) (hk : k < ns.length) (hq : q (.int (ns.getD k 0 : Nat)) B) : gIx d (.int (k : Int)) B q := by
  have hx : ixSeq (iN ns) (.int (k : Int)) fun v => q v B := ⟨k, _, rfl, iN_at hk, hq⟩
  cases d with
  | lst ys => cases h; exact hx
  | tup ys => cases h; exact hx
  | rol ys => cases h; exact hx
  | rot ys => cases h; exact hx
  | ref a =>
    unfold seqOf at h
    dsimp only at h
    split at h
    · rename_i ys hb
      cases h
      exact .inl ⟨_, hb, hx⟩
    · cases h
  | str x => cases h
  | non => cases h
  | bl b => cases h
  | int i => cases h
  | ty n => cases h
  | obj φ => cases h
def notI (f : Int → Bool) : D → Bool
  | .int n => !(f n)
  | _ => false
theorem any_notI (ns : List Int) (f : Int → Bool) : (iL ns).any (notI f) = !(ns.all f) := by
  unfold iL
  rw [List.any_map, List.all_eq_not_any_not, Bool.not_not]
  rfl
theorem fld_one {f : Str} {v : D} {r : List (Str × D)} : fldD ((f, v) :: r) f = some v := if_pos rfl
theorem if_yes {b : Bool} {p q : Prop} (hb : b = true) (h : p) : if b = true then p else q := by rw [if_pos hb]; exact h
theorem if_no {b : Bool} {p q : Prop} (hb : b = false) (h : q) : if b = true then p else q := by rw [if_neg (by rw [hb]; decide)]; exact h
section
variable {α : Type} {enc : α → D} {gd : Gd} {g : DTG} {tt : DTT} {te : DTE} {Γ : Gm} {B : Bx} {q : List D → Bx → Prop}
/-- a comprehension that changes nothing -/
theorem lc_pure (c : α → Bool) (f : α → D) (hg : ∀ f, gd = some f → f B) : ∀ (l : List α) (acc : List D),
    (∀ a ∈ l, ∀ (K1 : Bx → Prop) (K2 : D → Bx → Prop), (c a = true → K2 (f a) B) → (c a = false → K1 B) → g (enc a) Γ B fun Γ1 B1 => tt Γ1 B1 (fun b B2 => if b = true then te Γ1 B2 K2 noX else K1 B2) noX) →
    q (acc ++ (l.filter c).map f) B → lcK gd g tt te Γ q (l.map enc) acc B
  | [], acc, _, h => guard_of hg (by simpa using h)
  | a :: l, acc, hs, h => by
    refine guard_of hg (hs a List.mem_cons_self (fun B2 => lcK gd g tt te Γ q (l.map enc) acc B2) (fun y B3 => lcK gd g tt te Γ q (l.map enc) (acc ++ [y]) B3) (fun hc => ?_) (fun hc => ?_))
    · refine lc_pure c f hg l _ (fun b hb => hs b (List.mem_cons_of_mem _ hb)) ?_
      rw [List.filter_cons_of_pos hc, List.map_cons] at h
      rw [List.append_assoc]
      exact h
    · refine lc_pure c f hg l _ (fun b hb => hs b (List.mem_cons_of_mem _ hb)) ?_
      rw [List.filter_cons_of_neg (by rw [hc]; decide)] at h
      exact h
end
/-! ### the laws' dice -/
abbrev diceD (i j k : Int) : Box := .lst [.int i, .int j, .int k]
def sp_ldice : SpD := fun ds B q x => ∃ c : Int, ds = [.int c] ∧ ∀ p i j k, B p = none → q (.ref p) (put B p (diceD i j k))
def sp_lroll : SpD := fun ds B q x => ∃ (a : Addr) (many i j k : Int), ds = [.ref a, .int many] ∧ B a = some (diceD i j k) ∧ 0 < many ∧ many ≤ 100000000 ∧ ∀ r i j k, 0 ≤ r → r < many → q (.int r) (put B a (diceD i j k))
def sp_lrounds : SpD := fun ds B q x => ∃ ns : List Int, ds = [.rol (iL ns), .int 1] ∧ ∀ p i j k, B p = none → q (.lst [.ref p]) (put B p (diceD i j k))
def T_ldice : DTS :=
    (dSeq (dIfS (dTest (dChain gLt gLt (dOp gSub (dC (.int 0)) (dC (.int 10))) (dVar 0) (dC (.int 10))))
    (dRet (dLstB (dCons (dCB gAbs (dCons (dVar 0) dNil)) (dCons (dC (.int 0)) (dCons (dC (.int 2)) dNil))))) dNext)
    (dRet (dLstB (dCons (dVar 0) (dCons (dOp gAdd (dC (.int 1)) (dOp gMod (dCB gIntC (dCons (dVar 0) dNil)) (dC (.int 1009)))) (dCons (dCB gIntC (dCons (dOp gGe (dVar 0) (dOp gPow (dC (.int 10)) (dC (.int 18)))) dNil)) dNil))))))
def T_lroll : DTS :=
    (dSeq (dIfS (dOr (dTest (dOp (gEq false) (dOp gIx (dVar 0) (dC (.int 2))) (dC (.int 2)))) (dAnd (dTest (dOp (gEq false) (dOp gIx (dVar 0) (dC (.int 2))) (dC (.int 1)))) (dTest (dOp gGt (dOp gIx (dVar 0) (dC (.int 0))) (dC (.int 0))))))
    (dSeq (dAsg (dOp gMod (dCB gIntC (dCons (dOp gIx (dVar 0) (dC (.int 0))) dNil)) (dVar 1)) (hName 2))
    (dSeq (dAsg (dOp gDiv (dOp gIx (dVar 0) (dC (.int 0))) (dVar 1)) (hSub (dVar 0) (dC (.int 0))))
    (dRet (dVar 2)))) dNext)
    (dSeq (dAsg (dC (.int 0)) (hSub (dVar 0) (dC (.int 2))))
    (dSeq (dIfS (dTest (dOp gGt (dVar 1) (dC (.int 100000000))))
    dNever dNext)
    (dSeq (dAsg (dOp gMod (dCB gIntC (dCons (dOp gAdd (dOp gAdd (dOp gMul (dOp gIx (dVar 0) (dC (.int 0))) (dC (.int 48271))) (dOp gMul (dOp gIx (dVar 0) (dC (.int 1))) (dC (.int 69621)))) (dC (.int 11))) dNil)) (dC (.int 2147483647))) (hSub (dVar 0) (dC (.int 0))))
    (dSeq (dAsg (dOp gAdd (dOp gIx (dVar 0) (dC (.int 1))) (dC (.int 1))) (hSub (dVar 0) (dC (.int 1))))
    (dRet (dOp gMod (dCB gIntC (dCons (dOp gDiv (dOp gIx (dVar 0) (dC (.int 0))) (dC (.int 7))) dNil)) (dVar 1))))))))
def T_lrounds (sp_ldice : SpD) : DTS :=
    (dSeq (dAsg (dSl (dVar 0) dNoPart (dPart (dVar 1))) (hName 2))
    (dSeq (dIfS (dTest (dOp (gEq false) (dVar 2) (dLst dNil)))
    (dAsg (dLst (dCons (dC (.int 0)) dNil)) (hName 2)) dNext)
    (dRet (dLc [3] (dISeq (dVar 2)) (hName 3) dYes (dCall sp_ldice (dCons (dVar 3) dNil))))))
theorem rd_ldice {ds : List D} {B : Bx} {q : DK} {x : XD} (h : sp_ldice ds B q x) : T_ldice (endsD q x) (startD ["cell"] ds) B := by
  obtain ⟨c, rfl, h1⟩ := h
  try dsimp only [T_ldice, dIfS, dOr, dAnd, dNot, dTest, dOp, dUn, dCB, dCons, dNil, dVar, dC, dSeq, dAsg, hName, dRet, dRetF, dRetN, dRaise, dNext, dDrop, dAppend, dCall, gI, gIC, gU, gMM, dChain, dAndV, dOrV, dNotV, dTup, dLst, dLstB, dNewK, dNewT, dPar, dAug, hTup, hCons, hEnd, hSub, dISeq, dIEn, dIR1, dIR2, dFor, dLc, dLcB, hPair, dYes, dBreak, dCont, dIf, dQuant, getS, setS, startD, DL.gSub, gDiv, gMod, gPow, gShl, gXor, gAddI, gLt, gLe, gGt, gGe, gNegU, gMax2, gMin2, gAbs, gIntC, gEq, gIsN, gAdd, gMul, dSl, dNoPart, dPart, wipeD, List.set, rNot, rChain, rOp, rVar, rC, rAnd, hLt, hLe, hGt, hGe, hEq, DL.rI, dSetF, dFld, dMeth, dMake, dMaxD, dJoin, dStarts, dIStr, dAnyS, dAnyZ, dIEnC, dLstRg2, dLcR, dCallR, dLam]
  have fin : 0 < (1009 : Int) ∧ CPow 10 18 ∧ DL.sizeOk [D.int c, D.int (1 + c % 1009), D.int (if decide (10 ^ Int.toNat 18 ≤ c) = true then 1 else 0)] ∧ ∀ p, B p = none → (endsD q x).rt (.ref p) (put B p (.lst [D.int c, D.int (1 + c % 1009), D.int (if decide (10 ^ Int.toNat 18 ≤ c) = true then 1 else 0)])) :=
    ⟨by decide, ⟨by decide, by decide, by decide⟩, trivial, fun p hp => here (h1 p _ _ _ hp)⟩
  refine ite_dec (fun _ => ite_dec (fun _ => ?_) (fun _ => ?_)) (fun _ => ?_)
  · exact ⟨trivial, fun p hp => here (h1 p _ _ _ hp)⟩
  · exact fin
  · rw [if_neg (by decide)]
    exact fin
theorem rd_lroll {ds : List D} {B : Bx} {q : DK} {x : XD} (h : sp_lroll ds B q x) : T_lroll (endsD q x) (startD ["dice", "many", "found"] ds) B := by
  obtain ⟨a, many, i, j, k, rfl, hb, h0, hm, h1⟩ := h
  try dsimp only [T_lroll, dIfS, dOr, dAnd, dNot, dTest, dOp, dUn, dCB, dCons, dNil, dVar, dC, dSeq, dAsg, hName, dRet, dRetF, dRetN, dRaise, dNext, dDrop, dAppend, dCall, gI, gIC, gU, gMM, dChain, dAndV, dOrV, dNotV, dTup, dLst, dLstB, dNewK, dNewT, dPar, dAug, hTup, hCons, hEnd, hSub, dISeq, dIEn, dIR1, dIR2, dFor, dLc, dLcB, hPair, dYes, dBreak, dCont, dIf, dQuant, getS, setS, startD, DL.gSub, gDiv, gMod, gPow, gShl, gXor, gAddI, gLt, gLe, gGt, gGe, gNegU, gMax2, gMin2, gAbs, gIntC, gEq, gIsN, gAdd, gMul, dSl, dNoPart, dPart, wipeD, List.set, rNot, rChain, rOp, rVar, rC, rAnd, hLt, hLe, hGt, hGe, hEq, DL.rI, dSetF, dFld, dMeth, dMake, dMaxD, dJoin, dStarts, dIStr, dAnyS, dAnyZ, dIEnC, dLstRg2, dLcR, dCallR, dLam]
  have cd : ∀ z : Int, CDiv z many := fun z => ⟨h0, by omega⟩
  refine gIx_at hb rfl ?_
  try dsimp only [dIfS, dOr, dAnd, dNot, dTest, dOp, dUn, dCB, dCons, dNil, dVar, dC, dSeq, dAsg, hName, dRet, dRetF, dRetN, dRaise, dNext, dDrop, dAppend, dCall, gI, gIC, gU, gMM, dChain, dAndV, dOrV, dNotV, dTup, dLst, dLstB, dNewK, dNewT, dPar, dAug, hTup, hCons, hEnd, hSub, dISeq, dIEn, dIR1, dIR2, dFor, dLc, dLcB, hPair, dYes, dBreak, dCont, dIf, dQuant, getS, setS, startD, DL.gSub, gDiv, gMod, gPow, gShl, gXor, gAddI, gLt, gLe, gGt, gGe, gNegU, gMax2, gMin2, gAbs, gIntC, gEq, gIsN, gAdd, gMul, dSl, dNoPart, dPart, wipeD, List.set, rNot, rChain, rOp, rVar, rC, rAnd, hLt, hLe, hGt, hGe, hEq, DL.rI, dSetF, dFld, dMeth, dMake, dMaxD, dJoin, dStarts, dIStr, dAnyS, dAnyZ, dIEnC, dLstRg2, dLcR, dCallR, dLam]
  rw [Bool.false_xor]
  refine ite_dec (fun _ => ?_) (fun _ => ?_)
  · try rw [if_pos rfl]
    exact gIx_at hb rfl ⟨h0, gIx_at hb rfl ⟨cd _, gSet_at hb rfl (here (h1 _ _ _ _ (Int.emod_nonneg _ (by omega)) (Int.emod_lt_of_pos _ h0)))⟩⟩
  · refine gIx_at hb rfl ?_
    try dsimp only [dIfS, dOr, dAnd, dNot, dTest, dOp, dUn, dCB, dCons, dNil, dVar, dC, dSeq, dAsg, hName, dRet, dRetF, dRetN, dRaise, dNext, dDrop, dAppend, dCall, gI, gIC, gU, gMM, dChain, dAndV, dOrV, dNotV, dTup, dLst, dLstB, dNewK, dNewT, dPar, dAug, hTup, hCons, hEnd, hSub, dISeq, dIEn, dIR1, dIR2, dFor, dLc, dLcB, hPair, dYes, dBreak, dCont, dIf, dQuant, getS, setS, startD, DL.gSub, gDiv, gMod, gPow, gShl, gXor, gAddI, gLt, gLe, gGt, gGe, gNegU, gMax2, gMin2, gAbs, gIntC, gEq, gIsN, gAdd, gMul, dSl, dNoPart, dPart, wipeD, List.set, rNot, rChain, rOp, rVar, rC, rAnd, hLt, hLe, hGt, hGe, hEq, DL.rI, dSetF, dFld, dMeth, dMake, dMaxD, dJoin, dStarts, dIStr, dAnyS, dAnyZ, dIEnC, dLstRg2, dLcR, dCallR, dLam]
    rw [Bool.false_xor]
    refine ite_dec (fun _ => ?_) (fun _ => ?_)
    · refine gIx_at hb rfl ?_
      refine ite_dec (fun _ => ?_) (fun _ => ?_)
      · try rw [if_pos rfl]
        exact gIx_at hb rfl ⟨h0, gIx_at hb rfl ⟨cd _, gSet_at hb rfl (here (h1 _ _ _ _ (Int.emod_nonneg _ (by omega)) (Int.emod_lt_of_pos _ h0)))⟩⟩
      · try rw [if_neg (by decide)]
        refine gSet_at hb rfl (ite_dec (fun h => absurd hm (by omega)) (fun _ => gIx_at put_same rfl ?_))
        refine ⟨.inr ⟨by decide, by decide⟩, gIx_at put_same rfl ⟨.inr ⟨by decide, by decide⟩, by decide, gSet_at put_same rfl (gIx_at put_same rfl ?_)⟩⟩
        refine gSet_at put_same rfl (gIx_at put_same rfl ⟨⟨by decide, by decide⟩, h0, ?_⟩)
        rw [put_put, put_put]
        exact here (h1 _ _ _ _ (Int.emod_nonneg _ (by omega)) (Int.emod_lt_of_pos _ h0))
    · try rw [if_neg (by decide)]
      refine gSet_at hb rfl (ite_dec (fun h => absurd hm (by omega)) (fun _ => gIx_at put_same rfl ?_))
      refine ⟨.inr ⟨by decide, by decide⟩, gIx_at put_same rfl ⟨.inr ⟨by decide, by decide⟩, by decide, gSet_at put_same rfl (gIx_at put_same rfl ?_)⟩⟩
      refine gSet_at put_same rfl (gIx_at put_same rfl ⟨⟨by decide, by decide⟩, h0, ?_⟩)
      rw [put_put, put_put]
      exact here (h1 _ _ _ _ (Int.emod_nonneg _ (by omega)) (Int.emod_lt_of_pos _ h0))
theorem rd_lrounds {ds : List D} {B : Bx} {q : DK} {x : XD} (h : sp_lrounds ds B q x) : T_lrounds sp_ldice (endsD q x) (startD ["script", "most", "cells", "cell"] ds) B := by
  obtain ⟨ns, rfl, h1⟩ := h
  try dsimp only [T_lrounds, dIfS, dOr, dAnd, dNot, dTest, dOp, dUn, dCB, dCons, dNil, dVar, dC, dSeq, dAsg, hName, dRet, dRetF, dRetN, dRaise, dNext, dDrop, dAppend, dCall, gI, gIC, gU, gMM, dChain, dAndV, dOrV, dNotV, dTup, dLst, dLstB, dNewK, dNewT, dPar, dAug, hTup, hCons, hEnd, hSub, dISeq, dIEn, dIR1, dIR2, dFor, dLc, dLcB, hPair, dYes, dBreak, dCont, dIf, dQuant, getS, setS, startD, DL.gSub, gDiv, gMod, gPow, gShl, gXor, gAddI, gLt, gLe, gGt, gGe, gNegU, gMax2, gMin2, gAbs, gIntC, gEq, gIsN, gAdd, gMul, dSl, dNoPart, dPart, wipeD, List.set, rNot, rChain, rOp, rVar, rC, rAnd, hLt, hLe, hGt, hGe, hEq, DL.rI, dSetF, dFld, dMeth, dMake, dMaxD, dJoin, dStarts, dIStr, dAnyS, dAnyZ, dIEnC, dLstRg2, dLcR, dCallR, dLam]
  refine ⟨_, rfl, ?_⟩
  have e : cutD (iL ns) none (some 1) = (iL ns).take 1 := cutD_take _ 1
  rw [e]
  have fin : ∀ c : Int, iSq (.lst [.int c]) B fun ds gd B1 => DL.sizeOk ds ∧ lcK gd (hName 3) dYes (dCall sp_ldice (dCons (dVar 3) dNil)) [some (.rol (iL ns)), some (.int 1), some (.lst [.int c]), none] (fun acc B2 => (endsD q x).rt (.lst acc) B2) ds [] B1 := fun c => by
    refine ⟨_, rfl, trivial, ?_⟩
    refine ⟨c, rfl, fun p i j k hp => ?_⟩
    exact here (h1 p i j k hp)
  cases ns with
  | nil =>
    refine ⟨trivial, ?_⟩
    obtain ⟨b, e1, hb⟩ := eqD_pl (n := 2) (d := .lst []) (e := .lst []) (by decide) rfl rfl
    refine ⟨b, e1, ?_⟩
    have : b = true := hb.mpr rfl
    subst this
    exact ⟨trivial, fin 0⟩
  | cons c ns =>
    refine ⟨trivial, ?_⟩
    obtain ⟨b, e1, hb⟩ := eqD_pl (n := 2) (d := .lst [.int c]) (e := .lst []) (by decide) rfl rfl
    refine ⟨b, e1, ?_⟩
    have : b = false := by
      cases b with
      | false => rfl
      | true => cases hb.mp rfl
    subst this
    exact fin c
section
variable {g : DTG} {te : DTE} {Γ : Gm} {B : Bx} {q : List D → Bx → Prop} {a : Addr}
/-- a comprehension that rolls -/
theorem lc_roll (P : D → Prop) : ∀ (ds acc : List D) (i j k : Int),
    (∀ d ∈ ds, ∀ i j k (K1 : Bx → Prop) (K2 : D → Bx → Prop), (∀ y i j k, P y → K2 y (put B a (diceD i j k))) → g d Γ (put B a (diceD i j k)) fun Γ1 B1 => dYes Γ1 B1 (fun b B2 => if b = true then te Γ1 B2 K2 noX else K1 B2) noX) →
    (∀ ys i j k, ys.length = ds.length → (∀ y ∈ ys, P y) → q (acc ++ ys) (put B a (diceD i j k))) → lcK none g dYes te Γ q ds acc (put B a (diceD i j k))
  | [], acc, i, j, k, _, h => by
    have := h [] i j k rfl (by simp)
    rw [List.append_nil] at this
    exact this
  | d :: ds, acc, i, j, k, hs, h => by
    refine hs d List.mem_cons_self i j k (fun B2 => lcK none g dYes te Γ q ds acc B2) (fun y B3 => lcK none g dYes te Γ q ds (acc ++ [y]) B3) fun y i j k hy => ?_
    refine lc_roll P ds _ i j k (fun e he => hs e (List.mem_cons_of_mem _ he)) fun ys i j k hl hp => ?_
    rw [List.append_assoc]
    exact h (y :: ys) i j k (by simp [hl]) (fun z hz => (List.mem_cons.mp hz).elim (fun e => e ▸ hy) fun m => hp z m)
end
theorem getS_setS_ne : ∀ {Γ : Gm} {i j : Nat} {d : D}, i ≠ j → getS (setS Γ i d) j = getS Γ j
  | [], _, _, _, _ => rfl
  | _ :: _, 0, 0, _, h => absurd rfl h
  | _ :: _, 0, j + 1, _, _ => rfl
  | _ :: _, i + 1, 0, _, _ => rfl
  | _ :: r, i + 1, j + 1, _, h => getS_setS_ne (Γ := r) (fun e => h (by rw [e]))
theorem getS_set_ne : ∀ {Γ : Gm} {i j : Nat} {o : Option D}, i ≠ j → getS (Γ.set i o) j = getS Γ j
  | [], _, _, _, _ => rfl
  | _ :: _, 0, 0, _, h => absurd rfl h
  | _ :: _, 0, j + 1, _, _ => rfl
  | _ :: _, i + 1, 0, _, _ => rfl
  | _ :: r, i + 1, j + 1, _, h => getS_set_ne (Γ := r) (fun e => h (by rw [e]))
/-- the numbers below m, as many as are rolled below n -/
theorem nats_of {m : Nat} : ∀ {ys : List D}, (∀ y ∈ ys, ∃ n : Nat, y = .int n ∧ n < m) → ∃ ns : List Nat, ys = iN ns ∧ ∀ n ∈ ns, n < m
  | [], _ => ⟨[], rfl, by simp⟩
  | y :: ys, h => by
    obtain ⟨n, rfl, hn⟩ := h y List.mem_cons_self
    obtain ⟨ns, rfl, h2⟩ := nats_of (ys := ys) fun z hz => h z (List.mem_cons_of_mem _ hz)
    exact ⟨n :: ns, rfl, fun z hz => (List.mem_cons.mp hz).elim (fun e => e ▸ hn) fun k => h2 z k⟩
theorem roll_at {a : Addr} {m : Nat} {i j k : Int} {B : Bx} {q : DK} {x : XD} (hB : B a = some (diceD i j k)) (h0 : 0 < m) (h1 : m ≤ 100000000) (h : ∀ (r : Nat) i j k, r < m → q (.int (r : Int)) (put B a (diceD i j k))) : sp_lroll [.ref a, .int (m : Int)] B q x :=
  ⟨a, m, i, j, k, rfl, hB, by omega, by omega, fun r i j k k0 k1 => by
    have := h r.toNat i j k (by omega)
    rw [Int.toNat_of_nonneg k0] at this
    exact this⟩
/-- [_law_roll(dice, m) for _ in range(_law_roll(dice, n))] -/
theorem rolls_at {s d n m : Nat} {a : Addr} {i j k : Int} {Γ : Gm} {B : Bx} {q : DK} {x : XD} (hsd : s ≠ d) (hd : getS Γ d = some (.ref a)) (hB : B a = some (diceD i j k)) (hn : 0 < n ∧ n ≤ 1000) (hm : 0 < m ∧ m ≤ 100000000)
    (h : ∀ ns i j k, ns.length < n → (∀ v ∈ ns, v < m) → q (.lst (iN ns)) (put B a (diceD i j k))) :
    dLc [s] (dIR1 (dCons (dCall sp_lroll (dCons (dVar d) (dCons (dC (.int (n : Int))) dNil))) dNil)) (hName s) dYes (dCall sp_lroll (dCons (dVar d) (dCons (dC (.int (m : Int))) dNil))) Γ B q x := by
  dsimp only [dLc, dIR1, dCons, dCall, dVar, dC, dNil]
  rw [hd]
  refine roll_at hB hn.1 (by omega) fun r i j k hr => ?_
  refine ⟨⟨by omega, by omega⟩, sizeOk_of (by rw [upto_length]; omega), ?_⟩
  refine lc_roll (fun y => ∃ n : Nat, y = .int n ∧ n < m) _ [] i j k (fun e he i j k K1 K2 hk => ?_) fun ys i j k hl hp => ?_
  · have e1 : getS (setS (wipeD Γ [s]) s e) d = some (.ref a) := by
      rw [getS_setS_ne hsd]
      show getS (Γ.set s none) d = _
      rw [getS_set_ne hsd]; exact hd
    dsimp only [hName, dYes, dCall, dCons, dVar, dC, dNil]
    rw [if_pos rfl, e1]
    refine roll_at put_same hm.1 hm.2 fun r i j k hr => ?_
    rw [put_put]
    exact hk _ _ _ _ ⟨r, rfl, hr⟩
  · obtain ⟨ns, rfl, h2⟩ := nats_of hp
    rw [iN_len, upto_length] at hl
    exact h ns i j k (by omega) h2
/-- .. for _ in range(1 + _law_roll(dice, n)) -/
theorem rolls_at1 {s d n m : Nat} {a : Addr} {i j k : Int} {Γ : Gm} {B : Bx} {q : DK} {x : XD} (hsd : s ≠ d) (hd : getS Γ d = some (.ref a)) (hB : B a = some (diceD i j k)) (hn : 0 < n ∧ n ≤ 1000) (hm : 0 < m ∧ m ≤ 100000000)
    (h : ∀ ns i j k, 0 < ns.length → ns.length ≤ n → (∀ v ∈ ns, v < m) → q (.lst (iN ns)) (put B a (diceD i j k))) :
    dLc [s] (dIR1 (dCons (dOp gAdd (dC (.int 1)) (dCall sp_lroll (dCons (dVar d) (dCons (dC (.int (n : Int))) dNil)))) dNil)) (hName s) dYes (dCall sp_lroll (dCons (dVar d) (dCons (dC (.int (m : Int))) dNil))) Γ B q x := by
  dsimp only [dLc, dIR1, dCons, dCall, dVar, dC, dNil, dOp, gAdd]
  rw [hd]
  refine roll_at hB hn.1 (by omega) fun r i j k hr => ?_
  refine ⟨⟨by omega, by omega⟩, sizeOk_of (by rw [upto_length]; omega), ?_⟩
  refine lc_roll (fun y => ∃ n : Nat, y = .int n ∧ n < m) _ [] i j k (fun e he i j k K1 K2 hk => ?_) fun ys i j k hl hp => ?_
  · have e1 : getS (setS (wipeD Γ [s]) s e) d = some (.ref a) := by
      rw [getS_setS_ne hsd]
      show getS (Γ.set s none) d = _
      rw [getS_set_ne hsd]; exact hd
    dsimp only [hName, dYes, dCall, dCons, dVar, dC, dNil]
    rw [if_pos rfl, e1]
    refine roll_at put_same hm.1 hm.2 fun r i j k hr => ?_
    rw [put_put]
    exact hk _ _ _ _ ⟨r, rfl, hr⟩
  · obtain ⟨ns, rfl, h2⟩ := nats_of hp
    rw [iN_len, upto_length] at hl
    exact h ns i j k (by omega) (by omega) h2
end DL
set_option Elab.async false
set_option linter.all false
/-! PL3: sums without carrying, least numbers. -/
namespace PL
/-- the sum without carrying -/
def xs : List Nat → Nat
  | [] => 0
  | a :: r => a ^^^ xs r
theorem xs_append : ∀ (a b : List Nat), xs (a ++ b) = xs a ^^^ xs b
  | [], b => by show xs b = 0 ^^^ xs b; rw [Nat.zero_xor]
  | x :: a, b => by show x ^^^ xs (a ++ b) = (x ^^^ xs a) ^^^ xs b; rw [xs_append a b, Nat.xor_assoc]
theorem xs_perm {a b : List Nat} (h : a.Perm b) : xs a = xs b := by
  induction h with
  | nil => rfl
  | cons x _ ih => show x ^^^ _ = x ^^^ _; rw [ih]
  | swap x y l => show y ^^^ (x ^^^ xs l) = x ^^^ (y ^^^ xs l); rw [← Nat.xor_assoc, ← Nat.xor_assoc, Nat.xor_comm y x]
  | trans _ _ h1 h2 => exact h1.trans h2
theorem xor_cancel {a b : Nat} (h : a ^^^ b = 0) : a = b := by
  have e : a ^^^ b ^^^ b = b := by rw [h, Nat.zero_xor]
  rw [Nat.xor_assoc, Nat.xor_self, Nat.xor_zero] at e
  exact e
theorem xor_self_left (a b : Nat) : a ^^^ (a ^^^ b) = b := by rw [← Nat.xor_assoc, Nat.xor_self, Nat.zero_xor]
theorem xs_split {l : List Nat} {k : Nat} (h : k < l.length) : xs l = l[k] ^^^ xs (l.take k ++ l.drop (k + 1)) := by
  have e : l = l.take k ++ (l[k] :: l.drop (k + 1)) := by rw [← List.drop_eq_getElem_cons h, List.take_append_drop]
  have e2 : xs l = xs (l.take k) ^^^ (l[k] ^^^ xs (l.drop (k + 1))) := by
    conv => lhs; rw [e]
    rw [xs_append]; rfl
  rw [e2, xs_append, ← Nat.xor_assoc, ← Nat.xor_assoc, Nat.xor_comm (xs (l.take k))]
/-- one part changed -/
theorem xs_set {l : List Nat} {k : Nat} (h : k < l.length) (s : Nat) : xs (l.take k ++ [s] ++ l.drop (k + 1)) = xs l ^^^ l[k] ^^^ s := by
  have e : xs (l.take k ++ [s] ++ l.drop (k + 1)) = s ^^^ xs (l.take k ++ l.drop (k + 1)) := by
    rw [xs_append, xs_append, xs_append]
    show xs (l.take k) ^^^ (s ^^^ 0) ^^^ _ = _
    rw [Nat.xor_zero, Nat.xor_comm (xs (l.take k)) s, Nat.xor_assoc]
  rw [e, xs_split h, Nat.xor_comm (l[k]) (xs _), Nat.xor_assoc (xs _), Nat.xor_self, Nat.xor_zero, Nat.xor_comm]
theorem odd_xor {n : Nat} (h : n % 2 = 1) : n ^^^ 1 = n - 1 := by
  have h1 : (n ^^^ 1) % 2 = n % 2 ^^^ 1 % 2 := Nat.xor_mod_two_pow (n := 1)
  have h2 : (n ^^^ 1) / 2 = n / 2 ^^^ 1 / 2 := Nat.xor_div_two_pow (n := 1)
  rw [h, show (1 ^^^ 1 % 2 : Nat) = 0 from rfl] at h1
  rw [show (1 / 2 : Nat) = 0 from rfl, Nat.xor_zero] at h2
  omega
theorem xor_less {v x : Nat} (hx : x ≠ 0) (hv : v.testBit x.log2 = true) : v ^^^ x < v := by
  have h1 : (v ^^^ x) / 2 ^ x.log2 = v / 2 ^ x.log2 ^^^ x / 2 ^ x.log2 := Nat.xor_div_two_pow
  have h2 : x / 2 ^ x.log2 = 1 := by
    have a := Nat.log2_self_le hx
    have b := Nat.lt_log2_self (n := x)
    rw [Nat.pow_succ] at b
    have p : 0 < 2 ^ x.log2 := Nat.two_pow_pos _
    rw [Nat.div_eq_iff p]
    omega
  have h3 : v / 2 ^ x.log2 % 2 = 1 := by
    rw [Nat.testBit_eq_decide_div_mod_eq] at hv
    exact of_decide_eq_true hv
  rw [h2, odd_xor h3] at h1
  have p : 0 < 2 ^ x.log2 := Nat.two_pow_pos _
  have h4 := Nat.div_mul_le_self v (2 ^ x.log2)
  have h5 := Nat.lt_div_mul_add p (a := v ^^^ x)
  rw [h1] at h5
  have h6 : (v / 2 ^ x.log2 - 1) * 2 ^ x.log2 + 2 ^ x.log2 = v / 2 ^ x.log2 * 2 ^ x.log2 := by
    have : v / 2 ^ x.log2 = (v / 2 ^ x.log2 - 1) + 1 := by
      generalize v / 2 ^ x.log2 = q at h3 ⊢
      omega
    conv => rhs; rw [this]
    rw [Nat.add_mul, Nat.one_mul]
  omega
theorem bit_some {b : Nat} : ∀ {l : List Nat}, (xs l).testBit b = true → ∃ k, ∃ h : k < l.length, l[k].testBit b = true
  | [], h => by simp [xs] at h
  | a :: r, h => by
    by_cases ha : a.testBit b = true
    · exact ⟨0, by simp, ha⟩
    · have h' : (a ^^^ xs r).testBit b = true := h
      rw [Nat.testBit_xor] at h'
      rw [Bool.not_eq_true] at ha
      rw [ha, Bool.false_xor] at h'
      obtain ⟨k, hk, e⟩ := bit_some h'
      exact ⟨k + 1, by simpa using hk, by simpa using e⟩
/-- a sum that is not 0 has a part that it makes smaller -/
theorem xs_less {l : List Nat} (h : xs l ≠ 0) : ∃ k, ∃ hk : k < l.length, l[k] ^^^ xs l < l[k] := by
  obtain ⟨k, hk, e⟩ := bit_some (Nat.testBit_log2 h)
  exact ⟨k, hk, xor_less h e⟩
/-! ### the least number that is not there -/
def mexO : Nat → List Nat → Nat → Option Nat
  | 0, _, _ => none
  | n + 1, ns, k => if k ∈ ns then mexO n ns (k + 1) else some k
theorem mexO_all {ns : List Nat} : ∀ {n k : Nat}, mexO n ns k = none → ∀ j, k ≤ j → j < k + n → j ∈ ns
  | 0, k, _, j, h1, h2 => by omega
  | n + 1, k, h, j, h1, h2 => by
    unfold mexO at h
    by_cases hk : k ∈ ns
    · rw [if_pos hk] at h
      by_cases e : j = k
      · rw [e]; exact hk
      · exact mexO_all h j (by omega) (by omega)
    · rw [if_neg hk] at h; cases h
theorem nodup_le : ∀ {l m : List Nat}, l.Nodup → (∀ x ∈ l, x ∈ m) → l.length ≤ m.length
  | [], _, _, _ => Nat.zero_le _
  | a :: l, m, h, k => by
    obtain ⟨h1, h2⟩ := List.nodup_cons.mp h
    have ha := k a List.mem_cons_self
    have := nodup_le (l := l) (m := m.erase a) h2 fun x hx => (List.mem_erase_of_ne (fun e => h1 (by rw [← e]; exact hx))).mpr (k x (List.mem_cons_of_mem _ hx))
    rw [List.length_erase_of_mem ha] at this
    have hp : 0 < m.length := List.length_pos_of_mem ha
    show l.length + 1 ≤ _
    omega
theorem mexO_some {ns : List Nat} : ∃ v, mexO (ns.length + 1) ns 0 = some v := by
  cases h : mexO (ns.length + 1) ns 0 with
  | some v => exact ⟨v, rfl⟩
  | none =>
    have h1 := mexO_all h
    have h2 := nodup_le (l := List.range (ns.length + 1)) (m := ns) List.nodup_range fun x hx => h1 x (Nat.zero_le _) (by have := List.mem_range.mp hx; omega)
    rw [List.length_range] at h2
    omega
theorem mexO_more {ns : List Nat} : ∀ {n m k v : Nat}, mexO n ns k = some v → n ≤ m → mexO m ns k = some v
  | 0, _, _, _, h, _ => by cases h
  | n + 1, 0, _, _, _, h => by omega
  | n + 1, m + 1, k, v, h, l => by
    unfold mexO at h ⊢
    by_cases hk : k ∈ ns
    · rw [if_pos hk] at h ⊢; exact mexO_more h (by omega)
    · rw [if_neg hk] at h ⊢; exact h
theorem mexO_at {ns : List Nat} : ∀ {n k v : Nat}, mexO n ns k = some v → v ∉ ns ∧ (∀ j, k ≤ j → j < v → j ∈ ns) ∧ v < k + n
  | 0, _, _, h => by cases h
  | n + 1, k, v, h => by
    unfold mexO at h
    by_cases hk : k ∈ ns
    · rw [if_pos hk] at h
      obtain ⟨h1, h2, h3⟩ := mexO_at h
      refine ⟨h1, fun j h4 h5 => ?_, by omega⟩
      by_cases e : j = k
      · rw [e]; exact hk
      · exact h2 j (by omega) h5
    · rw [if_neg hk] at h
      cases h
      exact ⟨hk, fun j h4 h5 => by omega, by omega⟩
def mexN (ns : List Nat) : Nat := (mexO (ns.length + 1) ns 0).getD 0
theorem mexN_eq (ns : List Nat) : mexO (ns.length + 1) ns 0 = some (mexN ns) := by
  obtain ⟨v, h⟩ := mexO_some (ns := ns)
  unfold mexN
  rw [h]; rfl
theorem mexN_not (ns : List Nat) : mexN ns ∉ ns := (mexO_at (mexN_eq ns)).1
theorem mexN_has {ns : List Nat} {j : Nat} (h : j < mexN ns) : j ∈ ns := (mexO_at (mexN_eq ns)).2.1 j (Nat.zero_le _) h
theorem mexN_le (ns : List Nat) : mexN ns ≤ ns.length := by have := (mexO_at (mexN_eq ns)).2.2; omega
theorem mexO_head (ns : List Nat) : ∀ (n k : Nat), ((List.range' k n).filter fun j => decide (j ∉ ns)).head? = mexO n ns k
  | 0, _ => rfl
  | n + 1, k => by
    rw [List.range'_succ]
    unfold mexO
    by_cases hk : k ∈ ns
    · rw [if_pos hk, List.filter_cons_of_neg (by simpa using hk)]
      exact mexO_head ns n (k + 1)
    · rw [if_neg hk, List.filter_cons_of_pos (by simpa using hk)]
      rfl
end PL
set_option Elab.async false
set_option linter.all false
/-! K02m: taking and codes in plain words. -/
namespace K02
open PL
/-! ### numbers that may be taken -/
def near (nums vs : List Nat) (h : Nat) : List Nat := (nums.filter fun m => decide (m ≤ h)).map fun m => vs.getD (h - m) 0
def valT (nums : List Nat) : Nat → List Nat
  | 0 => []
  | h + 1 => valT nums h ++ [mexN (near nums (valT nums h) h)]
def vT (nums : List Nat) (h : Nat) : Nat := mexN (near nums (valT nums h) h)
theorem valT_eq (nums : List Nat) : ∀ n, valT nums n = (List.range n).map (vT nums)
  | 0 => rfl
  | n + 1 => by
    rw [List.range_succ, List.map_append, ← valT_eq nums n]
    rfl
theorem valT_len (nums : List Nat) (n : Nat) : (valT nums n).length = n := by rw [valT_eq, List.length_map, List.length_range]
theorem valT_at (nums : List Nat) {n i : Nat} (h : i < n) : (valT nums n).getD i 0 = vT nums i := by
  rw [valT_eq, List.getD_eq_getElem?_getD, List.getElem?_map, List.getElem?_range h]
  rfl
theorem valT_get (nums : List Nat) {n i : Nat} (h : i < n) : (valT nums n)[i]? = some (vT nums i) := by
  rw [valT_eq, List.getElem?_map, List.getElem?_range h]
  rfl
theorem near_eq {nums : List Nat} (hp : ∀ m ∈ nums, 1 ≤ m) {h n : Nat} (hn : h ≤ n) : near nums (valT nums n) h = (nums.filter fun m => decide (m ≤ h)).map fun m => vT nums (h - m) := by
  unfold near
  refine List.map_congr_left fun m hm => ?_
  obtain ⟨h1, h2⟩ := List.mem_filter.mp hm
  have h3 := hp m h1
  have h2 := of_decide_eq_true h2
  exact valT_at nums (by omega)
theorem vT_ne {nums : List Nat} (hp : ∀ m ∈ nums, 1 ≤ m) {h m : Nat} (hm : m ∈ nums) (hl : m ≤ h) : vT nums (h - m) ≠ vT nums h := fun e => by
  have h1 : vT nums h ∉ near nums (valT nums h) h := mexN_not _
  rw [near_eq hp (Nat.le_refl h)] at h1
  exact h1 (List.mem_map.mpr ⟨m, List.mem_filter.mpr ⟨hm, decide_eq_true hl⟩, e⟩)
theorem vT_to {nums : List Nat} (hp : ∀ m ∈ nums, 1 ≤ m) {h v : Nat} (hv : v < vT nums h) : ∃ m ∈ nums, m ≤ h ∧ vT nums (h - m) = v := by
  have h1 : v ∈ near nums (valT nums h) h := mexN_has hv
  rw [near_eq hp (Nat.le_refl h)] at h1
  obtain ⟨m, hm, e⟩ := List.mem_map.mp h1
  obtain ⟨h2, h3⟩ := List.mem_filter.mp hm
  exact ⟨m, h2, of_decide_eq_true h3, e⟩
def wT (nums hs : List Nat) : Bool := !decide (xs (hs.map (vT nums)) = 0)
def cutN (hs : List Nat) (k s : Nat) : List Nat := hs.take k ++ [s] ++ hs.drop (k + 1)
theorem xs_cut (nums : List Nat) {hs : List Nat} {k : Nat} (hk : k < hs.length) (s : Nat) : xs ((cutN hs k s).map (vT nums)) = xs (hs.map (vT nums)) ^^^ vT nums hs[k] ^^^ vT nums s := by
  unfold cutN
  rw [List.map_append, List.map_append, List.map_take, List.map_drop]
  have e := xs_set (l := hs.map (vT nums)) (k := k) (by rw [List.length_map]; exact hk) (vT nums s)
  rw [List.getElem_map] at e
  exact e
def anyN (f : List Nat → Bool) (hs : List Nat) (k h : Nat) : List Nat → Bool
  | [] => false
  | m :: r => (decide (m ≤ h) && !f (cutN hs k (h - m))) || anyN f hs k h r
def anyH (f : List Nat → Bool) (hs nums : List Nat) : Nat → List Nat → Bool
  | _, [] => false
  | k, h :: r => anyN f hs k h nums || anyH f hs nums (k + 1) r
theorem anyN_iff {f : List Nat → Bool} {hs : List Nat} {k h : Nat} : ∀ {nums : List Nat}, anyN f hs k h nums = true ↔ ∃ m ∈ nums, m ≤ h ∧ f (cutN hs k (h - m)) = false
  | [] => by simp [anyN]
  | m :: r => by
    unfold anyN
    rw [Bool.or_eq_true, Bool.and_eq_true, decide_eq_true_eq, Bool.not_eq_true', anyN_iff (nums := r)]
    simp
theorem anyH_iff {f : List Nat → Bool} {hs nums : List Nat} : ∀ {k : Nat} {r : List Nat}, anyH f hs nums k r = true ↔ ∃ j, ∃ hj : j < r.length, ∃ m ∈ nums, m ≤ r[j] ∧ f (cutN hs (k + j) (r[j] - m)) = false
  | k, [] => by simp [anyH]
  | k, h :: r => by
    unfold anyH
    rw [Bool.or_eq_true, anyN_iff, anyH_iff (k := k + 1) (r := r)]
    constructor
    · rintro (⟨m, h1, h2, h3⟩ | ⟨j, hj, m, h1, h2, h3⟩)
      · exact ⟨0, by simp, m, h1, h2, h3⟩
      · refine ⟨j + 1, by simpa using hj, m, h1, by simpa using h2, ?_⟩
        rw [show k + (j + 1) = k + 1 + j by omega]
        simpa using h3
    · rintro ⟨j, hj, m, h1, h2, h3⟩
      cases j with
      | zero => exact .inl ⟨m, h1, h2, h3⟩
      | succ j =>
        refine .inr ⟨j, by simpa using hj, m, h1, by simpa using h2, ?_⟩
        rw [show k + 1 + j = k + (j + 1) by omega]
        simpa using h3
/-- who wins: by trying all -/
theorem wT_rec {nums : List Nat} (hp : ∀ m ∈ nums, 1 ≤ m) (hs : List Nat) : wT nums hs = anyH (wT nums) hs nums 0 hs := by
  rw [Bool.eq_iff_iff, anyH_iff]
  unfold wT
  constructor
  · intro h
    rw [Bool.not_eq_true', decide_eq_false_iff_not] at h
    obtain ⟨k, hk, hl⟩ := xs_less h
    rw [List.length_map] at hk
    rw [List.getElem_map] at hl
    obtain ⟨m, h1, h2, h3⟩ := vT_to hp hl
    refine ⟨k, hk, m, h1, h2, ?_⟩
    rw [Nat.zero_add, xs_cut nums hk, h3, Bool.not_eq_false', decide_eq_true_eq, ← Nat.xor_assoc, Nat.xor_assoc (xs _), Nat.xor_self, Nat.xor_zero, Nat.xor_self]
  · rintro ⟨k, hk, m, h1, h2, h3⟩
    rw [Nat.zero_add, xs_cut nums hk, Bool.not_eq_false', decide_eq_true_eq] at h3
    rw [Bool.not_eq_true', decide_eq_false_iff_not]
    intro e
    rw [e, Nat.zero_xor] at h3
    exact vT_ne hp h1 h2 (xor_cancel h3).symm
theorem wT_perm {nums a b : List Nat} (h : a.Perm b) : wT nums a = wT nums b := by
  unfold wT
  rw [xs_perm (h.map (vT nums))]
/-- the moves that win -/
def movG (c : Nat → Nat → Nat → Bool) (nums : List Nat) : Nat → List Nat → List (Nat × Nat)
  | _, [] => []
  | k, h :: r => (nums.filter (c k h)).map (fun m => (k, m)) ++ movG c nums (k + 1) r
theorem movG_congr {c c' : Nat → Nat → Nat → Bool} {nums : List Nat} : ∀ {k : Nat} {r : List Nat}, (∀ j (hj : j < r.length) m, c (k + j) r[j] m = c' (k + j) r[j] m) → movG c nums k r = movG c' nums k r
  | _, [], _ => rfl
  | k, h :: r, hc => by
    have e1 : c k h = c' k h := funext fun m => hc 0 (by simp) m
    have e2 := movG_congr (c := c) (c' := c') (nums := nums) (k := k + 1) (r := r) fun j hj m => by
      have := hc (j + 1) (by simpa using hj) m
      rw [show k + (j + 1) = k + 1 + j by omega] at this
      simpa using this
    unfold movG
    rw [e1, e2]
def cP (nums : List Nat) (whole : Nat) : Nat → Nat → Nat → Bool := fun _ h m => decide (m ≤ h) && decide (vT nums (h - m) = whole ^^^ vT nums h)
def cL (nums hs : List Nat) : Nat → Nat → Nat → Bool := fun k h m => decide (m ≤ h) && !wT nums (cutN hs k (h - m))
theorem mov_eq (nums hs : List Nat) : movG (cP nums (xs (hs.map (vT nums)))) nums 0 hs = movG (cL nums hs) nums 0 hs := by
  refine movG_congr fun k hk m => ?_
  rw [Nat.zero_add]
  unfold cP cL wT
  rw [xs_cut nums hk, Bool.not_not]
  congr 1
  rw [decide_eq_decide]
  constructor
  · intro e; rw [e, Nat.xor_self]
  · intro e; exact (xor_cancel e).symm
theorem movG_len (c : Nat → Nat → Nat → Bool) (nums : List Nat) : ∀ (k : Nat) (r : List Nat), (movG c nums k r).length ≤ nums.length * r.length
  | _, [] => Nat.zero_le _
  | k, h :: r => by
    unfold movG
    rw [List.length_append, List.length_map, List.length_cons, Nat.mul_succ]
    have := movG_len c nums (k + 1) r
    have := List.length_filter_le (c k h) nums
    omega
/-! ### when values repeat -/
def back (vs : List Nat) (many : Nat) : Nat → Nat
  | 0 => 0
  | f + 1 => if vs.getD f 0 = vs.getD (f + many) 0 then back vs many f else f + 1
def repG (vs : List Nat) (reach : Nat) : Nat → Nat → Option (Nat × Nat)
  | _, 0 => none
  | many, n + 1 => if back vs many (601 - many) + many + reach ≤ 600 then some (back vs many (601 - many), many) else repG vs reach (many + 1) n
def repT (nums : List Nat) : Option (Nat × Nat) := repG (valT nums 601) (nums.getLastD 0) 1 199
/-! ### codes -/
def row1 (heap k f : Nat) : List (List Nat) :=
  (if heap = k ∧ f % 2 = 1 then [[]] else []) ++ (if k < heap ∧ f / 2 % 2 = 1 then [[heap - k]] else []) ++
    (if k + 1 < heap ∧ 4 ≤ f then (List.range' 1 ((heap - k) / 2)).map fun o => [o, heap - k - o] else [])
def rowsF (heap : Nat) : Nat → List Nat → List (List Nat)
  | _, [] => []
  | k, f :: r => row1 heap k f ++ rowsF heap (k + 1) r
structure RowOk (heap : Nat) (row : List Nat) : Prop where
  len : row.length ≤ 2
  lt : ∀ p ∈ row, p < heap
theorem row1_ok {heap k f : Nat} (hk : 1 ≤ k) {row : List Nat} (h : row ∈ row1 heap k f) : RowOk heap row := by
  unfold row1 at h
  rcases List.mem_append.mp h with h | h
  · rcases List.mem_append.mp h with h | h
    · split at h
      · rw [List.mem_singleton.mp h]; exact ⟨by simp, by simp⟩
      · cases h
    · split at h
      · rename_i c
        rw [List.mem_singleton.mp h]; exact ⟨by simp, by simp; omega⟩
      · cases h
  · split at h
    · rename_i c
      obtain ⟨o, ho, rfl⟩ := List.mem_map.mp h
      rw [List.mem_range'_1] at ho
      exact ⟨by simp, by simp; omega⟩
    · cases h
theorem rowsF_ok {heap : Nat} : ∀ {k : Nat} {figs : List Nat} {row : List Nat}, 1 ≤ k → row ∈ rowsF heap k figs → RowOk heap row
  | _, [], _, _, h => by cases h
  | k, f :: r, row, hk, h => by
    rcases List.mem_append.mp (show row ∈ row1 heap k f ++ rowsF heap (k + 1) r from h) with h | h
    · exact row1_ok hk h
    · exact rowsF_ok (by omega) h
theorem rowsF_far {heap : Nat} : ∀ {k : Nat} {figs : List Nat}, heap < k → rowsF heap k figs = []
  | _, [], _ => rfl
  | k, f :: r, h => by
    unfold rowsF row1
    rw [rowsF_far (by omega), if_neg (by omega), if_neg (by omega), if_neg (by omega)]
    rfl
theorem rowsF_nil {heap : Nat} : ∀ {k : Nat} {figs : List Nat} {t : List (List Nat)}, rowsF heap k figs = [] :: t → t = []
  | _, [], _, h => by cases h
  | k, f :: r, t, h => by
    unfold rowsF row1 at h
    rcases Nat.lt_trichotomy heap k with c | c | c
    · rw [rowsF_far (by omega), if_neg (by omega), if_neg (by omega), if_neg (by omega)] at h
      cases h
    · rw [rowsF_far (by omega), if_neg (by omega : ¬ (k < heap ∧ f / 2 % 2 = 1)), if_neg (by omega : ¬ (k + 1 < heap ∧ 4 ≤ f))] at h
      split at h
      · simpa using h.symm
      · cases h
    · rw [if_neg (by omega : ¬ (heap = k ∧ f % 2 = 1)), List.nil_append] at h
      split at h
      · simp at h
      · rw [List.nil_append] at h
        split at h
        · rename_i c2
          have : (heap - k) / 2 = (heap - k) / 2 - 1 + 1 := by omega
          rw [this, List.range'_succ] at h
          simp at h
        · exact rowsF_nil h
/-- each once -/
def addD {α : Type} [DecidableEq α] (acc : List α) (r : α) : List α := if r ∈ acc then acc else acc ++ [r]
def dd {α : Type} [DecidableEq α] (l : List α) : List α := l.foldl addD []
section
variable {α : Type} [DecidableEq α]
theorem dd_mem' {x : α} : ∀ {l acc : List α}, x ∈ l.foldl addD acc → x ∈ acc ∨ x ∈ l
  | [], _, h => .inl h
  | a :: l, acc, h => by
    rcases dd_mem' (l := l) (show x ∈ l.foldl _ (if a ∈ acc then acc else acc ++ [a]) from h) with h | h
    · split at h
      · exact .inl h
      · rcases List.mem_append.mp h with h | h
        · exact .inl h
        · exact .inr (by rw [List.mem_singleton.mp h]; exact List.mem_cons_self)
    · exact .inr (List.mem_cons_of_mem _ h)
theorem dd_mem {x : α} {l : List α} (h : x ∈ dd l) : x ∈ l := by
  rcases dd_mem' h with h | h
  · cases h
  · exact h
theorem dd_head' {a : α} : ∀ {l acc : List α}, (l.foldl addD (a :: acc)).head? = some a
  | [], _ => rfl
  | b :: l, acc => by
    show (l.foldl _ (if b ∈ a :: acc then a :: acc else a :: acc ++ [b])).head? = _
    split
    · exact dd_head'
    · exact dd_head' (acc := acc ++ [b])
theorem dd_head {a : α} {l : List α} : (dd (a :: l)).head? = some a := by
  show (l.foldl _ (if a ∈ ([] : List α) then [] else [] ++ [a])).head? = _
  rw [if_neg (by simp)]
  exact dd_head'
theorem dd_len' : ∀ {l acc : List α}, (l.foldl addD acc).length ≤ acc.length + l.length
  | [], _ => Nat.le_refl _
  | a :: l, acc => by
    have := dd_len' (l := l) (acc := if a ∈ acc then acc else acc ++ [a])
    have h2 : (if a ∈ acc then acc else acc ++ [a]).length ≤ acc.length + 1 := by
      split
      · omega
      · simp
    show (l.foldl _ (if a ∈ acc then acc else acc ++ [a])).length ≤ _
    rw [List.length_cons]; omega
theorem dd_len {l : List α} : (dd l).length ≤ l.length := by
  have := dd_len' (l := l) (acc := [])
  rw [List.length_nil, Nat.zero_add] at this
  exact this
theorem dd_nodup' : ∀ {l acc : List α}, acc.Nodup → (l.foldl addD acc).Nodup
  | [], _, h => h
  | a :: l, acc, h => by
    refine dd_nodup' (l := l) (acc := if a ∈ acc then acc else acc ++ [a]) ?_
    split
    · exact h
    · rename_i ha
      rw [List.nodup_append]
      refine ⟨h, by simp, fun x hx y hy e => ha ?_⟩
      rw [← List.mem_singleton.mp hy, ← e]
      exact hx
end
/-- a row that is empty stands alone -/
theorem dd_first {heap k : Nat} {figs : List Nat} (h2 : 2 ≤ (dd (rowsF heap k figs)).length) {r : List Nat} (h : (dd (rowsF heap k figs))[0]? = some r) : r ≠ [] := fun e => by
  subst e
  cases hr : rowsF heap k figs with
  | nil => rw [hr] at h; cases h
  | cons a t =>
    rw [hr] at h h2
    have h3 := dd_head (a := a) (l := t)
    rw [List.head?_eq_getElem?, h] at h3
    cases h3
    rw [rowsF_nil hr] at h2
    have := dd_len (l := ([] : List Nat) :: [])
    simp at this h2
    omega
/-! ### values of codes, replies -/
section
variable (opt : Nat → List (List Nat))
def valC : Nat → List Nat
  | 0 => []
  | h + 1 => valC h ++ [mexN ((opt h).map fun row => xs (row.map fun p => (valC h).getD p 0))]
def vC (h : Nat) : Nat := mexN ((opt h).map fun row => xs (row.map fun p => (valC opt h).getD p 0))
theorem valC_eq : ∀ n, valC opt n = (List.range n).map (vC opt)
  | 0 => rfl
  | n + 1 => by
    rw [List.range_succ, List.map_append, ← valC_eq n]
    rfl
theorem valC_len (n : Nat) : (valC opt n).length = n := by rw [valC_eq, List.length_map, List.length_range]
theorem valC_at {n i : Nat} (h : i < n) : (valC opt n).getD i 0 = vC opt i := by
  rw [valC_eq, List.getD_eq_getElem?_getD, List.getElem?_map, List.getElem?_range h]
  rfl
theorem valC_get {n i : Nat} (h : i < n) : (valC opt n)[i]? = some (vC opt i) := by
  rw [valC_eq, List.getElem?_map, List.getElem?_range h]
  rfl
theorem valC_take {n m : Nat} (h : n ≤ m) : (valC opt m).take n = valC opt n := by
  rw [valC_eq, valC_eq, ← List.map_take, List.take_range, Nat.min_eq_left h]
variable {opt}
theorem vC_eq (ho : ∀ h, ∀ row ∈ opt h, RowOk h row) (h : Nat) : vC opt h = mexN ((opt h).map fun row => xs (row.map (vC opt))) := by
  unfold vC
  congr 1
  refine List.map_congr_left fun row hr => ?_
  congr 1
  exact List.map_congr_left fun p hp => valC_at opt ((ho h row hr).lt p hp)
theorem vC_ne (ho : ∀ h, ∀ row ∈ opt h, RowOk h row) {h : Nat} {row : List Nat} (hr : row ∈ opt h) : xs (row.map (vC opt)) ≠ vC opt h := fun e => by
  rw [vC_eq ho h] at e
  have := mexN_not ((opt h).map fun row => xs (row.map (vC opt)))
  rw [← e] at this
  exact this (List.mem_map.mpr ⟨row, hr, rfl⟩)
theorem vC_to (ho : ∀ h, ∀ row ∈ opt h, RowOk h row) {h v : Nat} (hv : v < vC opt h) : ∃ row ∈ opt h, xs (row.map (vC opt)) = v := by
  rw [vC_eq ho h] at hv
  obtain ⟨row, h1, h2⟩ := List.mem_map.mp (mexN_has hv)
  exact ⟨row, h1, h2⟩
def repC (opt : Nat → List (List Nat)) (whole : Nat) : Nat → List Nat → Option (Nat × List Nat)
  | _, [] => none
  | k, h :: r => match (opt h).find? (fun row => decide (whole ^^^ vC opt h ^^^ xs (row.map (vC opt)) = 0)) with
    | some row => some (k, row)
    | none => repC opt whole (k + 1) r
theorem repC_none {whole : Nat} : ∀ {k : Nat} {hs : List Nat}, repC opt whole k hs = none ↔ ∀ j (hj : j < hs.length), ∀ row ∈ opt hs[j], whole ^^^ vC opt hs[j] ^^^ xs (row.map (vC opt)) ≠ 0
  | k, [] => by simp [repC]
  | k, h :: r => by
    unfold repC
    split
    · rename_i row hf
      constructor
      · intro z; cases z
      · intro z
        have h1 := List.mem_of_find?_eq_some hf
        have h2 := List.find?_some hf
        exact absurd (of_decide_eq_true h2) (z 0 (by simp) row h1)
    · rename_i hf
      rw [repC_none (k := k + 1) (hs := r)]
      constructor
      · intro z j hj row hr
        cases j with
        | zero => simpa using List.find?_eq_none.mp hf row hr
        | succ j => exact z j (by simpa using hj) row hr
      · intro z j hj row hr
        exact z (j + 1) (by simpa using hj) row hr
theorem rep_iff (ho : ∀ h, ∀ row ∈ opt h, RowOk h row) (hs : List Nat) : repC opt (xs (hs.map (vC opt))) 0 hs = none ↔ xs (hs.map (vC opt)) = 0 := by
  rw [repC_none]
  constructor
  · intro z
    refine Decidable.byContradiction fun hx => ?_
    obtain ⟨k, hk, hl⟩ := xs_less hx
    rw [List.length_map] at hk
    rw [List.getElem_map] at hl
    obtain ⟨row, h1, h2⟩ := vC_to ho hl
    refine z k hk row h1 ?_
    rw [h2, Nat.xor_comm (vC opt hs[k]), Nat.xor_self]
  · intro e j hj row hr z
    rw [e, Nat.zero_xor] at z
    exact vC_ne ho hr (xor_cancel z).symm
end
end K02
set_option Elab.async false
set_option linter.all false
/-! K02n: three repetitions. -/
namespace K02
open PL
theorem vT_per {nums : List Nat} {per N0 : Nat} {P : Nat → Nat} (hp : ∀ m ∈ nums, 1 ≤ m ∧ m ≤ N0) (h1 : 1 ≤ per) (hb : ∀ h, h < N0 + per → vT nums h = P (h % per)) : ∀ h, vT nums h = P (h % per) := by
  intro h
  induction h using Nat.strongRecOn with
  | _ h ih =>
    rcases Nat.lt_or_ge h (N0 + per) with c | c
    · exact hb h c
    · have near : ∀ k, N0 ≤ k → vT nums k = mexN (nums.map fun m => vT nums (k - m)) := fun k hk => by
        have e1 : vT nums k = mexN (near nums (valT nums k) k) := rfl
        rw [e1, near_eq (fun m hm => (hp m hm).1) (Nat.le_refl k), List.filter_eq_self.mpr (fun m hm => decide_eq_true (by have := (hp m hm).2; omega))]
      have e : vT nums h = vT nums (h - per) := by
        rw [near h (by omega), near (h - per) (by omega)]
        congr 1
        refine List.map_congr_left fun m hm => ?_
        have hm := hp m hm
        rw [ih (h - m) (by omega), ih (h - per - m) (by omega)]
        congr 1
        rw [show h - m = (h - per - m) + per by omega, Nat.add_mod_right]
      rw [e, ih (h - per) (by omega)]
      congr 1
      conv => rhs; rw [show h = (h - per) + per by omega, Nat.add_mod_right]
theorem back_zero {vs : List Nat} {many : Nat} : ∀ {n : Nat}, (∀ f, f < n → vs.getD f 0 = vs.getD (f + many) 0) → back vs many n = 0
  | 0, _ => rfl
  | n + 1, h => by
    unfold back
    rw [if_pos (h n (by omega))]
    exact back_zero fun f hf => h f (by omega)
theorem repG_skip {vs : List Nat} {rch many n : Nat} (h : vs.getD (600 - many) 0 ≠ vs.getD 600 0) (hm : many ≤ 600) : repG vs rch many (n + 1) = repG vs rch (many + 1) n := by
  have e : 601 - many = (600 - many) + 1 := by omega
  have e2 : back vs many (601 - many) = 601 - many := by
    rw [e]
    unfold back
    rw [if_neg (by rw [show 600 - many + many = 600 by omega]; exact h)]
  conv => lhs; unfold repG
  rw [e2, if_neg (by omega)]
theorem repG_hit {vs : List Nat} {rch many n : Nat} (h : ∀ f, f < 601 - many → vs.getD f 0 = vs.getD (f + many) 0) (hm : many + rch ≤ 600) : repG vs rch many (n + 1) = some (0, many) := by
  unfold repG
  rw [back_zero h, if_pos (by omega)]
theorem rep_of {nums : List Nat} {P : Nat → Nat} {per : Nat} (hv : ∀ h, vT nums h = P (h % per)) (h1 : 1 ≤ per) (h2 : per ≤ 100) (hr : nums.getLastD 0 ≤ 100) (hd : ∀ many, many < per → 1 ≤ many → P ((600 - many) % per) ≠ P (600 % per)) : repT nums = some (0, per) := by
  have key : ∀ k many n, many + k = per → 1 ≤ many → many + n = 200 → repG (valT nums 601) (nums.getLastD 0) many n = some (0, per) := by
    intro k
    induction k with
    | zero =>
      intro many n e hm hn
      have : many = per := by omega
      subst this
      obtain ⟨n, rfl⟩ : ∃ j, n = j + 1 := ⟨n - 1, by omega⟩
      refine repG_hit (fun f hf => ?_) (by omega)
      rw [valT_at nums (by omega), valT_at nums (by omega), hv, hv, Nat.add_mod_right]
    | succ k ih =>
      intro many n e hm hn
      obtain ⟨n, rfl⟩ : ∃ j, n = j + 1 := ⟨n - 1, by omega⟩
      rw [repG_skip ?_ (by omega)]
      · exact ih (many + 1) n (by omega) (by omega) (by omega)
      · rw [valT_at nums (by omega), valT_at nums (by omega), hv, hv]
        exact hd many (by omega) hm
  exact key (per - 1) 1 199 (by omega) (by omega) (by omega)
theorem rep1 : repT [1] = some (0, 2) := rep_of (nums := [1]) (P := fun r => r) (vT_per (nums := [1]) (per := 2) (N0 := 1) (P := fun r => r) (by decide) (by decide) (by decide +kernel)) (by decide) (by decide) (by decide) (by decide)
theorem rep3 : repT [1, 2, 3] = some (0, 4) := rep_of (nums := [1, 2, 3]) (P := fun r => r) (vT_per (nums := [1, 2, 3]) (per := 4) (N0 := 3) (P := fun r => r) (by decide) (by decide) (by decide +kernel)) (by decide) (by decide) (by decide) (by decide)
theorem rep4 : repT [1, 3, 4] = some (0, 7) := rep_of (nums := [1, 3, 4]) (P := fun r => [0, 1, 0, 1, 2, 3, 2].getD r 0) (vT_per (nums := [1, 3, 4]) (per := 7) (N0 := 4) (P := fun r => [0, 1, 0, 1, 2, 3, 2].getD r 0) (by decide) (by decide) (by decide +kernel)) (by decide) (by decide) (by decide) (by decide)
end K02
set_option Elab.async false
set_option linter.all false
set_option maxRecDepth 100000
set_option maxHeartbeats 4000000
namespace K02
open PySem PySem.Spec PyProof.Rows L2 DL
def top (i : Nat) : Stmt := PySem.Challenge.pw_nimstack_k02_taking_and_codes.main.body.getD i (.Pass ⟨0, 0, 0, 0⟩)
def clsTop (i j : Nat) : Stmt := match top i with | .ClassDef _ _ _ b _ _ _ _ _ _ _ => b.getD j (.Pass ⟨0, 0, 0, 0⟩) | s => s
def fa : List He.Fa := [.cls "Taking", .noat "Taking" "numbers", .free "any", .free "zip", .exc "RuleError", .glo "RuleError", .free "len", .free "tuple", .free "range", .int "MOST_VALUES" 600, .free "enumerate", .free "max", .cls "Code", .noat "Code" "figures", .free "sorted", .free "str", .free "int", .free "abs", .free "dict", .free "list", .glo "mex", .meth "Taking" "worths", .meth "Taking" "moves", .meth "Taking" "repeats", .glo "check_all", .meth "Code" "options", .meth "Code" "worths", .meth "Code" "reply", .meth "Code" "text", .glo "code_of", .glo "_law_dice", .glo "_law_roll", .glo "_law_rounds", .glo "_law_told", .glo "_law_values", .glo "_law_options", .glo "_law_worths", .glo "_law_wins", .glo "_law_plain", .glo "law", .glo "Taking", .mkr "Taking", .glo "Code", .mkr "Code", .exm "RuleError" "RuleError" true]
theorem m_cls_Taking : He.Fa.cls "Taking" ∈ fa := mem_ix 0 rfl
theorem m_noat_Taking_numbers : He.Fa.noat "Taking" "numbers" ∈ fa := mem_ix 1 rfl
theorem m_free_any : He.Fa.free "any" ∈ fa := mem_ix 2 rfl
theorem m_free_zip : He.Fa.free "zip" ∈ fa := mem_ix 3 rfl
theorem m_exc_RuleError : He.Fa.exc "RuleError" ∈ fa := mem_ix 4 rfl
theorem m_glo_RuleError : He.Fa.glo "RuleError" ∈ fa := mem_ix 5 rfl
theorem m_free_len : He.Fa.free "len" ∈ fa := mem_ix 6 rfl
theorem m_free_tuple : He.Fa.free "tuple" ∈ fa := mem_ix 7 rfl
theorem m_free_range : He.Fa.free "range" ∈ fa := mem_ix 8 rfl
theorem m_int_MOST_VALUES : He.Fa.int "MOST_VALUES" 600 ∈ fa := mem_ix 9 rfl
theorem m_free_enumerate : He.Fa.free "enumerate" ∈ fa := mem_ix 10 rfl
theorem m_free_max : He.Fa.free "max" ∈ fa := mem_ix 11 rfl
theorem m_cls_Code : He.Fa.cls "Code" ∈ fa := mem_ix 12 rfl
theorem m_noat_Code_figures : He.Fa.noat "Code" "figures" ∈ fa := mem_ix 13 rfl
theorem m_free_sorted : He.Fa.free "sorted" ∈ fa := mem_ix 14 rfl
theorem m_free_str : He.Fa.free "str" ∈ fa := mem_ix 15 rfl
theorem m_free_int : He.Fa.free "int" ∈ fa := mem_ix 16 rfl
theorem m_free_abs : He.Fa.free "abs" ∈ fa := mem_ix 17 rfl
theorem m_free_dict : He.Fa.free "dict" ∈ fa := mem_ix 18 rfl
theorem m_free_list : He.Fa.free "list" ∈ fa := mem_ix 19 rfl
theorem m_glo_mex : He.Fa.glo "mex" ∈ fa := mem_ix 20 rfl
theorem m_meth_Taking_worths : He.Fa.meth "Taking" "worths" ∈ fa := mem_ix 21 rfl
theorem m_meth_Taking_moves : He.Fa.meth "Taking" "moves" ∈ fa := mem_ix 22 rfl
theorem m_meth_Taking_repeats : He.Fa.meth "Taking" "repeats" ∈ fa := mem_ix 23 rfl
theorem m_glo_check_all : He.Fa.glo "check_all" ∈ fa := mem_ix 24 rfl
theorem m_meth_Code_options : He.Fa.meth "Code" "options" ∈ fa := mem_ix 25 rfl
theorem m_meth_Code_worths : He.Fa.meth "Code" "worths" ∈ fa := mem_ix 26 rfl
theorem m_meth_Code_reply : He.Fa.meth "Code" "reply" ∈ fa := mem_ix 27 rfl
theorem m_meth_Code_text : He.Fa.meth "Code" "text" ∈ fa := mem_ix 28 rfl
theorem m_glo_code_of : He.Fa.glo "code_of" ∈ fa := mem_ix 29 rfl
theorem m_glo__law_dice : He.Fa.glo "_law_dice" ∈ fa := mem_ix 30 rfl
theorem m_glo__law_roll : He.Fa.glo "_law_roll" ∈ fa := mem_ix 31 rfl
theorem m_glo__law_rounds : He.Fa.glo "_law_rounds" ∈ fa := mem_ix 32 rfl
theorem m_glo__law_told : He.Fa.glo "_law_told" ∈ fa := mem_ix 33 rfl
theorem m_glo__law_values : He.Fa.glo "_law_values" ∈ fa := mem_ix 34 rfl
theorem m_glo__law_options : He.Fa.glo "_law_options" ∈ fa := mem_ix 35 rfl
theorem m_glo__law_worths : He.Fa.glo "_law_worths" ∈ fa := mem_ix 36 rfl
theorem m_glo__law_wins : He.Fa.glo "_law_wins" ∈ fa := mem_ix 37 rfl
theorem m_glo__law_plain : He.Fa.glo "_law_plain" ∈ fa := mem_ix 38 rfl
theorem m_glo_law : He.Fa.glo "law" ∈ fa := mem_ix 39 rfl
theorem m_glo_Taking : He.Fa.glo "Taking" ∈ fa := mem_ix 40 rfl
theorem m_mkr_Taking : He.Fa.mkr "Taking" ∈ fa := mem_ix 41 rfl
theorem m_glo_Code : He.Fa.glo "Code" ∈ fa := mem_ix 42 rfl
theorem m_mkr_Code : He.Fa.mkr "Code" ∈ fa := mem_ix 43 rfl
theorem m_exm_RuleError : He.Fa.exm "RuleError" "RuleError" true ∈ fa := mem_ix 44 rfl
def tf : List He.Defn := [("Taking", some "__init__"), ("check_all", none), ("Code", some "__init__"), ("Code", some "reply"), ("code_of", none)]
theorem mt_Ti : (("Taking", some "__init__") : He.Defn) ∈ tf := mem_ix 0 rfl
theorem mt_call : (("check_all", none) : He.Defn) ∈ tf := mem_ix 1 rfl
theorem mt_Ci : (("Code", some "__init__") : He.Defn) ∈ tf := mem_ix 2 rfl
theorem mt_Cr : (("Code", some "reply") : He.Defn) ∈ tf := mem_ix 3 rfl
theorem mt_cof : (("code_of", none) : He.Defn) ∈ tf := mem_ix 4 rfl
def tl : List He.Defn := [("_law_plain", none)]
theorem ml_lplain : (("_law_plain", none) : He.Defn) ∈ tl := mem_ix 0 rfl
/-! ### mex -/
abbrev s_mex : Stmt := top 5
def d_mex : He.DefD := ⟨("mex", none), "mex", "mex", defArgs s_mex, defBody s_mex, defScope s_mex, [], []⟩
abbrev N_mex : List Str := ["numbers", "found"]
theorem sc_mex : FnScope N_mex ["numbers"] (defScope s_mex) := ⟨rfl, rfl, rfl, by decide +kernel, rfl, by decide +kernel, by decide +kernel⟩
def t_mex : DTS :=
    (dSeq (dAsg (dC (.int 0)) (hName 1))
    (dSeq (dWhile (dTest (dOp (gIn false) (dVar 1) (dVar 0)))
    (dAug 1 (dC (.int 1)) gAddI))
    (dRet (dVar 1))))
/-! ### Taking.__init__ -/
abbrev s_Ti : Stmt := clsTop 6 0
def d_Ti : He.DefD := ⟨("Taking", some "__init__"), "__init__", "Taking.__init__", defArgs s_Ti, defBody s_Ti, defScope s_Ti, [], []⟩
abbrev N_Ti : List Str := ["self", "numbers", "number", "one", "other"]
theorem sc_Ti : FnScope N_Ti ["self", "numbers"] (defScope s_Ti) := ⟨rfl, rfl, rfl, by decide +kernel, rfl, by decide +kernel, by decide +kernel⟩
theorem nd_Ti : ∀ l : Nat, N_Ti[l]? ≠ some (".0" : Str) := nodot (by decide +kernel)
def t_Ti (C_Taking : Addr) (C_RuleError : Addr) : DTS :=
    (dSeq (dSetF C_Taking "numbers" (dVar 0) (dCB gTuple (dCons (dVar 1) dNil)))
    (dSeq (dIfS (dOr (dNot (dTest (dChain gLt gLe (dC (.int 0)) (dCB gLen (dCons (dFld C_Taking "numbers" (dVar 0)) dNil)) (dC (.int 8))))) (dTest (dQuant false 2 (dFld C_Taking "numbers" (dVar 0)) (rNot (rChain hLe hLe (rC (.int 1)) (rVar 2) (rC (.int 60)))))))
    (dRaise C_RuleError) dNext)
    (dIfS (dTest (dAnyZ (fun i j => decide (j ≤ i)) (dCons (dFld C_Taking "numbers" (dVar 0)) (dCons (dSl (dFld C_Taking "numbers" (dVar 0)) (dPart (dC (.int 1))) dNoPart) dNil))))
    (dRaise C_RuleError) dNext)))
/-! ### Taking.worths -/
abbrev s_Tw : Stmt := clsTop 6 1
def d_Tw : He.DefD := ⟨("Taking", some "worths"), "worths", "Taking.worths", defArgs s_Tw, defBody s_Tw, defScope s_Tw, [], []⟩
abbrev N_Tw : List Str := ["self", "most", "found", "heap", "number"]
theorem sc_Tw : FnScope N_Tw ["self", "most"] (defScope s_Tw) := ⟨rfl, rfl, rfl, by decide +kernel, rfl, by decide +kernel, by decide +kernel⟩
def B1_Tw (sp_mex : SpD) (C_Taking : Addr) : DTS := (dDrop (dAppend (dVar 2) (dCall sp_mex (dCons (dLc [4] (dISeq (dFld C_Taking "numbers" (dVar 0))) (hName 4) (dTest (dOp gLe (dVar 4) (dVar 3))) (dOp gIx (dVar 2) (dOp gSub (dVar 3) (dVar 4)))) dNil))))
def t_Tw (sp_mex : SpD) (C_Taking : Addr) (C_RuleError : Addr) : DTS :=
    (dSeq (dIfS (dNot (dTest (dChain gLe gLe (dC (.int 0)) (dVar 1) (dC (.int 600)))))
    (dRaise C_RuleError) dNext)
    (dSeq (dAsg (dLstB dNil) (hName 2))
    (dSeq (dFor (dIR1 (dCons (dOp gAdd (dVar 1) (dC (.int 1))) dNil)) (hName 3)
    (B1_Tw sp_mex C_Taking))
    (dRet (dCB gTuple (dCons (dVar 2) dNil))))))
/-! ### Taking.moves -/
abbrev s_Tm : Stmt := clsTop 6 2
def d_Tm : He.DefD := ⟨("Taking", some "moves"), "moves", "Taking.moves", defArgs s_Tm, defBody s_Tm, defScope s_Tm, [], []⟩
abbrev N_Tm : List Str := ["self", "heaps", "values", "whole", "found", "heap", "place", "number"]
theorem sc_Tm : FnScope N_Tm ["self", "heaps"] (defScope s_Tm) := ⟨rfl, rfl, rfl, by decide +kernel, rfl, by decide +kernel, by decide +kernel⟩
def B1_Tm : DTS := (dIfS (dAnd (dTest (dOp gLe (dVar 7) (dVar 5))) (dTest (dOp (gEq false) (dOp gIx (dVar 2) (dOp gSub (dVar 5) (dVar 7))) (dOp gXor (dVar 3) (dOp gIx (dVar 2) (dVar 5))))))
    (dDrop (dAppend (dVar 4) (dTup (dCons (dVar 6) (dCons (dVar 7) dNil))))) dNext)
def B2_Tm (C_Taking : Addr) : DTS := (dFor (dISeq (dFld C_Taking "numbers" (dVar 0))) (hName 7)
    (B1_Tm))
def B3_Tm : DTS := (dAug 3 (dOp gIx (dVar 2) (dVar 5)) gXor)
def t_Tm (sp_Tw : SpD) (sp_call : SpD) (C_Taking : Addr) : DTS :=
    (dSeq (dDrop (dCall sp_call (dCons (dVar 1) dNil)))
    (dSeq (dPar [2, 3, 4] (dCons (dMeth C_Taking "worths" sp_Tw (dVar 0) (dCons (dMaxD (dVar 1) (dC (.int 0))) dNil)) (dCons (dC (.int 0)) (dCons (dLstB dNil) dNil))))
    (dSeq (dFor (dISeq (dVar 1)) (hName 5)
    (B3_Tm))
    (dSeq (dFor (dIEn (dCons (dVar 1) dNil)) (hTup (hCons (hName 6) (hCons (hName 5) hEnd)))
    (B2_Tm C_Taking))
    (dRet (dCB gTuple (dCons (dVar 4) dNil)))))))
/-! ### Taking.repeats -/
abbrev s_Tr : Stmt := clsTop 6 3
def d_Tr : He.DefD := ⟨("Taking", some "repeats"), "repeats", "Taking.repeats", defArgs s_Tr, defBody s_Tr, defScope s_Tr, [], []⟩
abbrev N_Tr : List Str := ["self", "values", "reach", "many", "first"]
theorem sc_Tr : FnScope N_Tr ["self"] (defScope s_Tr) := ⟨rfl, rfl, rfl, by decide +kernel, rfl, by decide +kernel, by decide +kernel⟩
def B1_Tr : DTS := (dSeq (dAsg (dOp gSub (dC (.int 600)) (dVar 3)) (hName 4))
    (dSeq (dWhile (dAnd (dTest (dOp gGe (dVar 4) (dC (.int 0)))) (dTest (dOp (gEq false) (dOp gIx (dVar 1) (dVar 4)) (dOp gIx (dVar 1) (dOp gAdd (dVar 4) (dVar 3))))))
    (dAug 4 (dC (.int 1)) gSub))
    (dIfS (dTest (dOp gLe (dOp gAdd (dOp gAdd (dOp gAdd (dVar 4) (dC (.int 1))) (dVar 3)) (dVar 2)) (dC (.int 600))))
    (dRet (dTup (dCons (dOp gAdd (dVar 4) (dC (.int 1))) (dCons (dVar 3) dNil)))) dNext)))
def t_Tr (sp_Tw : SpD) (C_Taking : Addr) : DTS :=
    (dSeq (dPar [1, 2] (dCons (dMeth C_Taking "worths" sp_Tw (dVar 0) (dCons (dC (.int 600)) dNil)) (dCons (dOp gIx (dFld C_Taking "numbers" (dVar 0)) (dUn gNegU (dC (.int 1)))) dNil)))
    (dSeq (dFor (dIR2 (dCons (dC (.int 1)) (dCons (dC (.int 200)) dNil))) (hName 3)
    (B1_Tr))
    (dRet (dC .non))))
/-! ### check_all -/
abbrev s_call : Stmt := top 7
def d_call : He.DefD := ⟨("check_all", none), "check_all", "check_all", defArgs s_call, defBody s_call, defScope s_call, [], []⟩
abbrev N_call : List Str := ["heaps", "heap"]
theorem sc_call : FnScope N_call ["heaps"] (defScope s_call) := ⟨rfl, rfl, rfl, by decide +kernel, rfl, by decide +kernel, by decide +kernel⟩
theorem nd_call : ∀ l : Nat, N_call[l]? ≠ some (".0" : Str) := nodot (by decide +kernel)
def t_call (C_RuleError : Addr) : DTS :=
    (dIfS (dOr (dTest (dOp gGt (dCB gLen (dCons (dVar 0) dNil)) (dC (.int 12)))) (dTest (dQuant false 1 (dVar 0) (rNot (rChain hLe hLe (rC (.int 0)) (rVar 1) (rC (.int 600)))))))
    (dRaise C_RuleError) dNext)
/-! ### Code.__init__ -/
abbrev s_Ci : Stmt := clsTop 8 0
def d_Ci : He.DefD := ⟨("Code", some "__init__"), "__init__", "Code.__init__", defArgs s_Ci, defBody s_Ci, defScope s_Ci, [], []⟩
abbrev N_Ci : List Str := ["self", "figures", "one"]
theorem sc_Ci : FnScope N_Ci ["self", "figures"] (defScope s_Ci) := ⟨rfl, rfl, rfl, by decide +kernel, rfl, by decide +kernel, by decide +kernel⟩
theorem nd_Ci : ∀ l : Nat, N_Ci[l]? ≠ some (".0" : Str) := nodot (by decide +kernel)
def t_Ci (C_Code : Addr) (C_RuleError : Addr) : DTS :=
    (dSeq (dSetF C_Code "figures" (dVar 0) (dCB gTuple (dCons (dVar 1) dNil)))
    (dSeq (dIfS (dOr (dNot (dTest (dChain gLt gLe (dC (.int 0)) (dCB gLen (dCons (dFld C_Code "figures" (dVar 0)) dNil)) (dC (.int 5))))) (dTest (dQuant false 2 (dFld C_Code "figures" (dVar 0)) (rNot (rChain hLe hLe (rC (.int 0)) (rVar 2) (rC (.int 7)))))))
    (dRaise C_RuleError) dNext)
    (dIfS (dTest (dOp (gEq false) (dCB (gMax1 maxI) (dCons (dFld C_Code "figures" (dVar 0)) dNil)) (dC (.int 0))))
    (dRaise C_RuleError) dNext)))
/-! ### Code.options -/
abbrev s_Co : Stmt := clsTop 8 1
def d_Co : He.DefD := ⟨("Code", some "options"), "options", "Code.options", defArgs s_Co, defBody s_Co, defScope s_Co, [], []⟩
abbrev N_Co : List Str := ["self", "heap", "found", "number", "figure", "left", "one"]
theorem sc_Co : FnScope N_Co ["self", "heap"] (defScope s_Co) := ⟨rfl, rfl, rfl, by decide +kernel, rfl, by decide +kernel, by decide +kernel⟩
def B1_Co : DTS := (dAsg (dC (.bl true)) (hSub (dVar 2) (dTup (dCons (dVar 6) (dCons (dOp gSub (dVar 5) (dVar 6)) dNil)))))
def S1_Co (C_RuleError : Addr) : DTS := (dIfS (dNot (dTest (dChain gLe gLe (dC (.int 0)) (dVar 1) (dC (.int 200)))))
    (dRaise C_RuleError) dNext)
def S2_Co : DTS := (dAsg dNewT (hName 2))
def S3_Co : DTS := (dAsg (dOp gSub (dVar 1) (dVar 3)) (hName 5))
def S4_Co : DTS := (dIfS (dAnd (dTest (dOp (gEq false) (dVar 5) (dC (.int 0)))) (dTest (dOp (gEq false) (dOp gMod (dVar 4) (dC (.int 2))) (dC (.int 1)))))
    (dAsg (dC (.bl true)) (hSub (dVar 2) (dTup dNil))) dNext)
def S5_Co : DTS := (dIfS (dAnd (dTest (dOp gGt (dVar 5) (dC (.int 0)))) (dTest (dOp (gEq false) (dOp gMod (dOp gDiv (dVar 4) (dC (.int 2))) (dC (.int 2))) (dC (.int 1)))))
    (dAsg (dC (.bl true)) (hSub (dVar 2) (dTup (dCons (dVar 5) dNil)))) dNext)
def S6_Co : DTS := (dIfS (dAnd (dTest (dOp gGt (dVar 5) (dC (.int 1)))) (dTest (dOp gGe (dVar 4) (dC (.int 4)))))
    (dFor (dIR2 (dCons (dC (.int 1)) (dCons (dOp gAdd (dOp gDiv (dVar 5) (dC (.int 2))) (dC (.int 1))) dNil))) (hName 6)
    (B1_Co)) dNext)
def S8_Co : DTS := (dRet (dCB gTuple (dCons (dCB gSortedDT (dCons (dVar 2) dNil)) dNil)))
def B2_Co : DTS := (dSeq (S3_Co)
    (dSeq (S4_Co)
    (dSeq (S5_Co)
    (S6_Co))))
def S7_Co (C_Code : Addr) : DTS := (dFor (dIEnC (dCons (dFld C_Code "figures" (dVar 0)) (dCons (dC (.int 1)) dNil))) (hTup (hCons (hName 3) (hCons (hName 4) hEnd)))
    (B2_Co))
def t_Co (C_Code : Addr) (C_RuleError : Addr) : DTS :=
    (dSeq (S1_Co C_RuleError)
    (dSeq (S2_Co)
    (dSeq (S7_Co C_Code)
    (S8_Co))))
/-! ### Code.worths -/
abbrev s_Cw : Stmt := clsTop 8 2
def d_Cw : He.DefD := ⟨("Code", some "worths"), "worths", "Code.worths", defArgs s_Cw, defBody s_Cw, defScope s_Cw, [], []⟩
abbrev N_Cw : List Str := ["self", "most", "found", "heap", "below", "row", "whole", "part"]
theorem sc_Cw : FnScope N_Cw ["self", "most"] (defScope s_Cw) := ⟨rfl, rfl, rfl, by decide +kernel, rfl, by decide +kernel, by decide +kernel⟩
def B1_Cw : DTS := (dAug 6 (dOp gIx (dVar 2) (dVar 7)) gXor)
def B2_Cw : DTS := (dSeq (dAsg (dC (.int 0)) (hName 6))
    (dSeq (dFor (dISeq (dVar 5)) (hName 7)
    (B1_Cw))
    (dDrop (dAppend (dVar 4) (dVar 6)))))
def B3_Cw (sp_mex : SpD) (sp_Co : SpD) (C_Code : Addr) : DTS := (dSeq (dAsg (dLstB dNil) (hName 4))
    (dSeq (dFor (dISeq (dMeth C_Code "options" sp_Co (dVar 0) (dCons (dVar 3) dNil))) (hName 5)
    (B2_Cw))
    (dDrop (dAppend (dVar 2) (dCall sp_mex (dCons (dVar 4) dNil))))))
def t_Cw (sp_mex : SpD) (sp_Co : SpD) (C_Code : Addr) (C_RuleError : Addr) : DTS :=
    (dSeq (dIfS (dNot (dTest (dChain gLe gLe (dC (.int 0)) (dVar 1) (dC (.int 200)))))
    (dRaise C_RuleError) dNext)
    (dSeq (dAsg (dLstB dNil) (hName 2))
    (dSeq (dFor (dIR1 (dCons (dOp gAdd (dVar 1) (dC (.int 1))) dNil)) (hName 3)
    (B3_Cw sp_mex sp_Co C_Code))
    (dRet (dCB gTuple (dCons (dVar 2) dNil))))))
/-! ### Code.reply -/
abbrev s_Cr : Stmt := clsTop 8 3
def d_Cr : He.DefD := ⟨("Code", some "reply"), "reply", "Code.reply", defArgs s_Cr, defBody s_Cr, defScope s_Cr, [], []⟩
abbrev N_Cr : List Str := ["self", "heaps", "values", "whole", "heap", "place", "row", "other", "part"]
theorem sc_Cr : FnScope N_Cr ["self", "heaps"] (defScope s_Cr) := ⟨rfl, rfl, rfl, by decide +kernel, rfl, by decide +kernel, by decide +kernel⟩
theorem nd_Cr : ∀ l : Nat, N_Cr[l]? ≠ some (".0" : Str) := nodot (by decide +kernel)
def B1_Cr : DTS := (dAug 7 (dOp gIx (dVar 2) (dVar 8)) gXor)
def B2_Cr : DTS := (dSeq (dAsg (dOp gXor (dVar 3) (dOp gIx (dVar 2) (dVar 4))) (hName 7))
    (dSeq (dFor (dISeq (dVar 6)) (hName 8)
    (B1_Cr))
    (dIfS (dTest (dOp (gEq false) (dVar 7) (dC (.int 0))))
    (dRet (dTup (dCons (dVar 5) (dCons (dVar 6) dNil)))) dNext)))
def B3_Cr (sp_Co : SpD) (C_Code : Addr) : DTS := (dFor (dISeq (dMeth C_Code "options" sp_Co (dVar 0) (dCons (dVar 4) dNil))) (hName 6)
    (B2_Cr))
def B4_Cr : DTS := (dAug 3 (dOp gIx (dVar 2) (dVar 4)) gXor)
def t_Cr (sp_Co : SpD) (sp_Cw : SpD) (C_Code : Addr) (C_RuleError : Addr) : DTS :=
    (dSeq (dIfS (dOr (dTest (dOp gGt (dCB gLen (dCons (dVar 1) dNil)) (dC (.int 12)))) (dTest (dQuant false 4 (dVar 1) (rNot (rChain hLe hLe (rC (.int 0)) (rVar 4) (rC (.int 200)))))))
    (dRaise C_RuleError) dNext)
    (dSeq (dPar [2, 3] (dCons (dMeth C_Code "worths" sp_Cw (dVar 0) (dCons (dMaxD (dVar 1) (dC (.int 0))) dNil)) (dCons (dC (.int 0)) dNil)))
    (dSeq (dFor (dISeq (dVar 1)) (hName 4)
    (B4_Cr))
    (dSeq (dFor (dIEn (dCons (dVar 1) dNil)) (hTup (hCons (hName 5) (hCons (hName 4) hEnd)))
    (B3_Cr sp_Co C_Code))
    (dRet (dC .non))))))
/-! ### Code.text -/
abbrev s_Ct : Stmt := clsTop 8 4
def d_Ct : He.DefD := ⟨("Code", some "text"), "text", "Code.text", defArgs s_Ct, defBody s_Ct, defScope s_Ct, [], []⟩
abbrev N_Ct : List Str := ["self", "one"]
theorem sc_Ct : FnScope N_Ct ["self"] (defScope s_Ct) := ⟨rfl, rfl, rfl, by decide +kernel, rfl, by decide +kernel, by decide +kernel⟩
def t_Ct (C_Code : Addr) : DTS :=
    (dRet (dOp gAdd (dC (.str "0.")) (dJoin (dC (.str "")) (dLc [1] (dISeq (dFld C_Code "figures" (dVar 0))) (hName 1) dYes (dCB gStr (dCons (dVar 1) dNil))))))
/-! ### code_of -/
abbrev s_cof : Stmt := top 9
def d_cof : He.DefD := ⟨("code_of", none), "code_of", "code_of", defArgs s_cof, defBody s_cof, defScope s_cof, [], []⟩
abbrev N_cof : List Str := ["text", "sign"]
theorem sc_cof : FnScope N_cof ["text"] (defScope s_cof) := ⟨rfl, rfl, rfl, by decide +kernel, rfl, by decide +kernel, by decide +kernel⟩
theorem nd_cof : ∀ l : Nat, N_cof[l]? ≠ some (".0" : Str) := nodot (by decide +kernel)
def t_cof (sp_Ci : SpD) (C_Code : Addr) (C_RuleError : Addr) : DTS :=
    (dSeq (dIfS (dOr (dNot (dTest (dStarts (dVar 0) (dC (.str "0."))))) (dTest (dAnyS (fun c => !decide (c ∈ ("01234567" : Str).cps.toList)) (dSl (dVar 0) (dPart (dC (.int 2))) dNoPart))))
    (dRaise C_RuleError) dNext)
    (dRet (dMake C_Code sp_Ci (dCons (dLc [1] (dIStr (dSl (dVar 0) (dPart (dC (.int 2))) dNoPart)) (hName 1) dYes (dCB gIntS (dCons (dVar 1) dNil))) dNil))))
/-! ### _law_dice -/
abbrev s_ldice : Stmt := top 11
def d_ldice : He.DefD := ⟨("_law_dice", none), "_law_dice", "_law_dice", defArgs s_ldice, defBody s_ldice, defScope s_ldice, [], []⟩
abbrev N_ldice : List Str := ["cell"]
theorem sc_ldice : FnScope N_ldice ["cell"] (defScope s_ldice) := ⟨rfl, rfl, rfl, by decide +kernel, rfl, by decide +kernel, by decide +kernel⟩
def t_ldice : DTS :=
    (dSeq (dIfS (dTest (dChain gLt gLt (dOp gSub (dC (.int 0)) (dC (.int 10))) (dVar 0) (dC (.int 10))))
    (dRet (dLstB (dCons (dCB gAbs (dCons (dVar 0) dNil)) (dCons (dC (.int 0)) (dCons (dC (.int 2)) dNil))))) dNext)
    (dRet (dLstB (dCons (dVar 0) (dCons (dOp gAdd (dC (.int 1)) (dOp gMod (dCB gIntC (dCons (dVar 0) dNil)) (dC (.int 1009)))) (dCons (dCB gIntC (dCons (dOp gGe (dVar 0) (dOp gPow (dC (.int 10)) (dC (.int 18)))) dNil)) dNil))))))
/-! ### _law_roll -/
abbrev s_lroll : Stmt := top 12
def d_lroll : He.DefD := ⟨("_law_roll", none), "_law_roll", "_law_roll", defArgs s_lroll, defBody s_lroll, defScope s_lroll, [], []⟩
abbrev N_lroll : List Str := ["dice", "many", "found"]
theorem sc_lroll : FnScope N_lroll ["dice", "many"] (defScope s_lroll) := ⟨rfl, rfl, rfl, by decide +kernel, rfl, by decide +kernel, by decide +kernel⟩
def t_lroll : DTS :=
    (dSeq (dIfS (dOr (dTest (dOp (gEq false) (dOp gIx (dVar 0) (dC (.int 2))) (dC (.int 2)))) (dAnd (dTest (dOp (gEq false) (dOp gIx (dVar 0) (dC (.int 2))) (dC (.int 1)))) (dTest (dOp gGt (dOp gIx (dVar 0) (dC (.int 0))) (dC (.int 0))))))
    (dSeq (dAsg (dOp gMod (dCB gIntC (dCons (dOp gIx (dVar 0) (dC (.int 0))) dNil)) (dVar 1)) (hName 2))
    (dSeq (dAsg (dOp gDiv (dOp gIx (dVar 0) (dC (.int 0))) (dVar 1)) (hSub (dVar 0) (dC (.int 0))))
    (dRet (dVar 2)))) dNext)
    (dSeq (dAsg (dC (.int 0)) (hSub (dVar 0) (dC (.int 2))))
    (dSeq (dIfS (dTest (dOp gGt (dVar 1) (dC (.int 100000000))))
    dNever dNext)
    (dSeq (dAsg (dOp gMod (dCB gIntC (dCons (dOp gAdd (dOp gAdd (dOp gMul (dOp gIx (dVar 0) (dC (.int 0))) (dC (.int 48271))) (dOp gMul (dOp gIx (dVar 0) (dC (.int 1))) (dC (.int 69621)))) (dC (.int 11))) dNil)) (dC (.int 2147483647))) (hSub (dVar 0) (dC (.int 0))))
    (dSeq (dAsg (dOp gAdd (dOp gIx (dVar 0) (dC (.int 1))) (dC (.int 1))) (hSub (dVar 0) (dC (.int 1))))
    (dRet (dOp gMod (dCB gIntC (dCons (dOp gDiv (dOp gIx (dVar 0) (dC (.int 0))) (dC (.int 7))) dNil)) (dVar 1))))))))
/-! ### _law_rounds -/
abbrev s_lrounds : Stmt := top 13
def d_lrounds : He.DefD := ⟨("_law_rounds", none), "_law_rounds", "_law_rounds", defArgs s_lrounds, defBody s_lrounds, defScope s_lrounds, [], []⟩
abbrev N_lrounds : List Str := ["script", "most", "cells", "cell"]
theorem sc_lrounds : FnScope N_lrounds ["script", "most"] (defScope s_lrounds) := ⟨rfl, rfl, rfl, by decide +kernel, rfl, by decide +kernel, by decide +kernel⟩
def t_lrounds (sp_ldice : SpD) : DTS :=
    (dSeq (dAsg (dSl (dVar 0) dNoPart (dPart (dVar 1))) (hName 2))
    (dSeq (dIfS (dTest (dOp (gEq false) (dVar 2) (dLst dNil)))
    (dAsg (dLst (dCons (dC (.int 0)) dNil)) (hName 2)) dNext)
    (dRet (dLc [3] (dISeq (dVar 2)) (hName 3) dYes (dCall sp_ldice (dCons (dVar 3) dNil))))))
/-! ### _law_told -/
abbrev s_ltold : Stmt := top 14
def d_ltold : He.DefD := ⟨("_law_told", none), "_law_told", "_law_told", defArgs s_ltold, defBody s_ltold, defScope s_ltold, [], []⟩
abbrev N_ltold : List Str := ["what"]
theorem sc_ltold : FnScope N_ltold ["what"] (defScope s_ltold) := ⟨rfl, rfl, rfl, by decide +kernel, rfl, by decide +kernel, by decide +kernel⟩
def t_ltold (yes_RuleError : Addr → Option Bool) (cal : CalP) : DTS :=
    (dTry yes_RuleError (dRet (dCallV cal 0)) (dRet (dC (.str "RuleError"))))
/-! ### _law_values -/
abbrev s_lval : Stmt := top 15
def d_lval : He.DefD := ⟨("_law_values", none), "_law_values", "_law_values", defArgs s_lval, defBody s_lval, defScope s_lval, [], []⟩
abbrev N_lval : List Str := ["numbers", "most", "found", "heap", "near", "number", "value"]
theorem sc_lval : FnScope N_lval ["numbers", "most"] (defScope s_lval) := ⟨rfl, rfl, rfl, by decide +kernel, rfl, by decide +kernel, by decide +kernel⟩
def B1_lval : DTS := (dSeq (dAsg (dLc [5] (dISeq (dVar 0)) (hName 5) (dTest (dOp gLe (dVar 5) (dVar 3))) (dOp gIx (dVar 2) (dOp gSub (dVar 3) (dVar 5)))) (hName 4))
    (dAsg (dOp gAdd (dVar 2) (dLst (dCons (dOp gIx (dLc [6] (dIR1 (dCons (dOp gAdd (dCB gLen (dCons (dVar 4) dNil)) (dC (.int 1))) dNil)) (hName 6) (dTest (dOp (gIn true) (dVar 6) (dVar 4))) (dVar 6)) (dC (.int 0))) dNil))) (hName 2)))
def t_lval : DTS :=
    (dSeq (dAsg (dLst dNil) (hName 2))
    (dSeq (dFor (dIR1 (dCons (dOp gAdd (dVar 1) (dC (.int 1))) dNil)) (hName 3)
    (B1_lval))
    (dRet (dVar 2))))
/-! ### _law_options -/
abbrev s_lopt : Stmt := top 16
def d_lopt : He.DefD := ⟨("_law_options", none), "_law_options", "_law_options", defArgs s_lopt, defBody s_lopt, defScope s_lopt, [], []⟩
abbrev N_lopt : List Str := ["figures", "heap", "found", "k", "figure", "left", "one", "row"]
theorem sc_lopt : FnScope N_lopt ["figures", "heap"] (defScope s_lopt) := ⟨rfl, rfl, rfl, by decide +kernel, rfl, by decide +kernel, by decide +kernel⟩
def S1_lopt : DTS := (dAsg (dLst dNil) (hName 2))
def S2_lopt : DTS := (dAsg (dOp gSub (dOp gSub (dVar 1) (dVar 3)) (dC (.int 1))) (hName 5))
def S3_lopt : DTS := (dIfS (dAnd (dTest (dOp (gEq false) (dVar 5) (dC (.int 0)))) (dTest (dOp (gIn false) (dVar 4) (dLst (dCons (dC (.int 1)) (dCons (dC (.int 3)) (dCons (dC (.int 5)) (dCons (dC (.int 7)) dNil))))))))
    (dAsg (dOp gAdd (dVar 2) (dLst (dCons (dTup dNil) dNil))) (hName 2)) dNext)
def S4_lopt : DTS := (dIfS (dAnd (dTest (dOp gGt (dVar 5) (dC (.int 0)))) (dTest (dOp (gIn false) (dVar 4) (dLst (dCons (dC (.int 2)) (dCons (dC (.int 3)) (dCons (dC (.int 6)) (dCons (dC (.int 7)) dNil))))))))
    (dAsg (dOp gAdd (dVar 2) (dLst (dCons (dTup (dCons (dVar 5) dNil)) dNil))) (hName 2)) dNext)
def S5_lopt : DTS := (dIfS (dAnd (dTest (dOp gGt (dVar 5) (dC (.int 1)))) (dTest (dOp gGe (dVar 4) (dC (.int 4)))))
    (dAsg (dOp gAdd (dVar 2) (dLc [6] (dIR2 (dCons (dC (.int 1)) (dCons (dVar 5) dNil))) (hName 6) (dTest (dOp gLe (dVar 6) (dOp gSub (dVar 5) (dVar 6)))) (dTup (dCons (dVar 6) (dCons (dOp gSub (dVar 5) (dVar 6)) dNil))))) (hName 2)) dNext)
def S7_lopt : DTS := (dRet (dCB gSortedDT (dCons (dCB gDictPT (dCons (dLc [7] (dISeq (dVar 2)) (hName 7) dYes (dTup (dCons (dVar 7) (dCons (dC (.int 1)) dNil)))) dNil)) dNil)))
def B1_lopt : DTS := (dSeq (S2_lopt)
    (dSeq (S3_lopt)
    (dSeq (S4_lopt)
    (S5_lopt))))
def S6_lopt : DTS := (dFor (dIEn (dCons (dVar 0) dNil)) (hTup (hCons (hName 3) (hCons (hName 4) hEnd)))
    (B1_lopt))
def t_lopt : DTS :=
    (dSeq (S1_lopt)
    (dSeq (S6_lopt)
    (S7_lopt)))
/-! ### _law_worths -/
abbrev s_lwor : Stmt := top 17
def d_lwor : He.DefD := ⟨("_law_worths", none), "_law_worths", "_law_worths", defArgs s_lwor, defBody s_lwor, defScope s_lwor, [], []⟩
abbrev N_lwor : List Str := ["figures", "most", "found", "heap", "near", "row", "value"]
theorem sc_lwor : FnScope N_lwor ["figures", "most"] (defScope s_lwor) := ⟨rfl, rfl, rfl, by decide +kernel, rfl, by decide +kernel, by decide +kernel⟩
def B1_lwor : DTS := (dAsg (dOp gAdd (dVar 4) (dLst (dCons (dIf (dTest (dOp (gEq false) (dCB gLen (dCons (dVar 5) dNil)) (dC (.int 2)))) (dOp gXor (dOp gIx (dVar 2) (dOp gIx (dVar 5) (dC (.int 0)))) (dOp gIx (dVar 2) (dOp gIx (dVar 5) (dC (.int 1))))) (dIf (dTest (dOp (gEq false) (dCB gLen (dCons (dVar 5) dNil)) (dC (.int 1)))) (dOp gIx (dVar 2) (dOp gIx (dVar 5) (dC (.int 0)))) (dC (.int 0)))) dNil))) (hName 4))
def B2_lwor (sp_lopt : SpD) : DTS := (dSeq (dAsg (dLst dNil) (hName 4))
    (dSeq (dFor (dISeq (dCall sp_lopt (dCons (dVar 0) (dCons (dVar 3) dNil)))) (hName 5)
    (B1_lwor))
    (dAsg (dOp gAdd (dVar 2) (dLst (dCons (dOp gIx (dLc [6] (dIR1 (dCons (dOp gAdd (dCB gLen (dCons (dVar 4) dNil)) (dC (.int 1))) dNil)) (hName 6) (dTest (dOp (gIn true) (dVar 6) (dVar 4))) (dVar 6)) (dC (.int 0))) dNil))) (hName 2))))
def t_lwor (sp_lopt : SpD) : DTS :=
    (dSeq (dAsg (dLst dNil) (hName 2))
    (dSeq (dFor (dIR1 (dCons (dOp gAdd (dVar 1) (dC (.int 1))) dNil)) (hName 3)
    (B2_lwor sp_lopt))
    (dRet (dVar 2))))
/-! ### _law_wins -/
abbrev s_lwins : Stmt := top 18
def d_lwins : He.DefD := ⟨("_law_wins", none), "_law_wins", "_law_wins", defArgs s_lwins, defBody s_lwins, defScope s_lwins, [], []⟩
abbrev N_lwins : List Str := ["numbers", "heaps", "seen", "found", "k", "heap", "number"]
theorem sc_lwins : FnScope N_lwins ["numbers", "heaps", "seen"] (defScope s_lwins) := ⟨rfl, rfl, rfl, by decide +kernel, rfl, by decide +kernel, by decide +kernel⟩
def B1_lwins (sp_lwins : SpD) : DTS := (dAsg (dOrV (dVar 3) (dAndV (dOp gLe (dVar 6) (dVar 5)) (dNotV (dCall sp_lwins (dCons (dVar 0) (dCons (dOp gAdd (dOp gAdd (dSl (dVar 1) dNoPart (dPart (dVar 4))) (dTup (dCons (dOp gSub (dVar 5) (dVar 6)) dNil))) (dSl (dVar 1) (dPart (dOp gAdd (dVar 4) (dC (.int 1)))) dNoPart)) (dCons (dVar 2) dNil))))))) (hName 3))
def B2_lwins (sp_lwins : SpD) : DTS := (dFor (dISeq (dVar 0)) (hName 6)
    (B1_lwins sp_lwins))
def t_lwins (sp_lwins : SpD) : DTS :=
    (dSeq (dAsg (dCB gTuple (dCons (dCB gSortedS (dCons (dVar 1) dNil)) dNil)) (hName 1))
    (dSeq (dIfS (dTest (dOp (gIn true) (dVar 1) (dVar 2)))
    (dSeq (dAsg (dC (.bl false)) (hName 3))
    (dSeq (dFor (dIEn (dCons (dVar 1) dNil)) (hTup (hCons (hName 4) (hCons (hName 5) hEnd)))
    (B2_lwins sp_lwins))
    (dAsg (dVar 3) (hSub (dVar 2) (dVar 1))))) dNext)
    (dRet (dOp gIx (dVar 2) (dVar 1)))))
/-! ### _law_plain -/
abbrev s_lplain : Stmt := top 19
def d_lplain : He.DefD := ⟨("_law_plain", none), "_law_plain", "_law_plain", defArgs s_lplain, defBody s_lplain, defScope s_lplain, [], []⟩
abbrev N_lplain : List Str := ["one", "kayles", "bad", "f"]
theorem sc_lplain : FnScope N_lplain [] (defScope s_lplain) := ⟨rfl, rfl, rfl, by decide +kernel, rfl, by decide +kernel, by decide +kernel⟩
def nm_lplain : Str := (("_law_plain" : Str) ++ ".<locals>.") ++ "<lambda>"
def tl1_lplain (sp_cof : SpD) : DTE := (dCall sp_cof (dCons (dC (.str "")) dNil))
def tl2_lplain (sp_cof : SpD) : DTE := (dCall sp_cof (dCons (dC (.str "0.78")) dNil))
def tl3_lplain (sp_cof : SpD) : DTE := (dCall sp_cof (dCons (dC (.str "1.7")) dNil))
def tl4_lplain (sp_cof : SpD) : DTE := (dCall sp_cof (dCons (dC (.str "0.")) dNil))
def tl5_lplain (sp_Cr : SpD) (C_Code : Addr) : DTE := (dMeth C_Code "reply" sp_Cr (dVar 0) (dCons (dLst (dCons (dC (.int 201)) dNil)) dNil))
def tl6_lplain (sp_Cw : SpD) (C_Code : Addr) : DTE := (dMeth C_Code "worths" sp_Cw (dVar 0) (dCons (dUn gNegU (dC (.int 1))) dNil))
def tl7_lplain (sp_Cw : SpD) (C_Code : Addr) : DTE := (dMeth C_Code "worths" sp_Cw (dVar 0) (dCons (dC (.int 201)) dNil))
def tl8_lplain (sp_Cr : SpD) (C_Code : Addr) : DTE := (dMeth C_Code "reply" sp_Cr (dVar 0) (dCons (dOp gMul (dLst (dCons (dC (.int 1)) dNil)) (dC (.int 13))) dNil))
def tl9_lplain (sp_Cr : SpD) (C_Code : Addr) : DTE := (dMeth C_Code "reply" sp_Cr (dVar 0) (dCons (dLst (dCons (dUn gNegU (dC (.int 1))) (dCons (dC (.int 5)) dNil))) dNil))
def tl10_lplain (sp_Co : SpD) (C_Code : Addr) : DTE := (dMeth C_Code "options" sp_Co (dVar 0) (dCons (dC (.int 201)) dNil))
def tl11_lplain (sp_Co : SpD) (C_Code : Addr) : DTE := (dMeth C_Code "options" sp_Co (dVar 0) (dCons (dUn gNegU (dC (.int 1))) dNil))
def tl12_lplain (sp_Ci : SpD) (C_Code : Addr) : DTE := (dMake C_Code sp_Ci (dCons (dOp gMul (dLst (dCons (dC (.int 1)) dNil)) (dC (.int 6))) dNil))
def tl13_lplain (sp_Ci : SpD) (C_Code : Addr) : DTE := (dMake C_Code sp_Ci (dCons (dLst (dCons (dC (.int 0)) (dCons (dC (.int 0)) dNil))) dNil))
def tl14_lplain (sp_Ci : SpD) (C_Code : Addr) : DTE := (dMake C_Code sp_Ci (dCons (dLst (dCons (dC (.int 8)) dNil)) dNil))
def tl15_lplain (sp_Ci : SpD) (C_Code : Addr) : DTE := (dMake C_Code sp_Ci (dCons (dLst dNil) dNil))
def tl16_lplain (sp_call : SpD) : DTE := (dCall sp_call (dCons (dLst (dCons (dUn gNegU (dC (.int 1))) dNil)) dNil))
def tl17_lplain (sp_Tm : SpD) (C_Taking : Addr) : DTE := (dMeth C_Taking "moves" sp_Tm (dVar 0) (dCons (dOp gMul (dLst (dCons (dC (.int 1)) dNil)) (dC (.int 13))) dNil))
def tl18_lplain (sp_Tm : SpD) (C_Taking : Addr) : DTE := (dMeth C_Taking "moves" sp_Tm (dVar 0) (dCons (dLst (dCons (dC (.int 601)) dNil)) dNil))
def tl19_lplain (sp_Tw : SpD) (C_Taking : Addr) : DTE := (dMeth C_Taking "worths" sp_Tw (dVar 0) (dCons (dUn gNegU (dC (.int 1))) dNil))
def tl20_lplain (sp_Tw : SpD) (C_Taking : Addr) : DTE := (dMeth C_Taking "worths" sp_Tw (dVar 0) (dCons (dC (.int 601)) dNil))
def tl21_lplain (sp_Ti : SpD) (C_Taking : Addr) : DTE := (dMake C_Taking sp_Ti (dCons (dLstRg2 (dC (.int 1)) (dC (.int 10))) dNil))
def tl22_lplain (sp_Ti : SpD) (C_Taking : Addr) : DTE := (dMake C_Taking sp_Ti (dCons (dLst (dCons (dC (.int 2)) (dCons (dC (.int 1)) dNil))) dNil))
def tl23_lplain (sp_Ti : SpD) (C_Taking : Addr) : DTE := (dMake C_Taking sp_Ti (dCons (dLst (dCons (dC (.int 61)) dNil)) dNil))
def tl24_lplain (sp_Ti : SpD) (C_Taking : Addr) : DTE := (dMake C_Taking sp_Ti (dCons (dLst (dCons (dC (.int 0)) dNil)) dNil))
def tl25_lplain (sp_Ti : SpD) (C_Taking : Addr) : DTE := (dMake C_Taking sp_Ti (dCons (dLst dNil) dNil))
def t_lplain (sp_Tr : SpD) (sp_Ti : SpD) (sp_Cw : SpD) (sp_mex : SpD) (sp_Tm : SpD) (sp_Cr : SpD) (sp_ltold : Heap → SpD) (sp_cof : SpD) (C_Taking : Addr) (C_Code : Addr) (base : Heap) (Zc : Heap → Str → D → Prop) (Pt : Addr) (nm : Str) (f1 : Addr → Hp → Prop) (f2 : Addr → Hp → Prop) (f3 : Addr → Hp → Prop) (f4 : Addr → Hp → Prop) (f5 : Addr → Hp → Prop) (f6 : Addr → Hp → Prop) (f7 : Addr → Hp → Prop) (f8 : Addr → Hp → Prop) (f9 : Addr → Hp → Prop) (f10 : Addr → Hp → Prop) (f11 : Addr → Hp → Prop) (f12 : Addr → Hp → Prop) (f13 : Addr → Hp → Prop) (f14 : Addr → Hp → Prop) (f15 : Addr → Hp → Prop) (f16 : Addr → Hp → Prop) (f17 : Addr → Hp → Prop) (f18 : Addr → Hp → Prop) (f19 : Addr → Hp → Prop) (f20 : Addr → Hp → Prop) (f21 : Addr → Hp → Prop) (f22 : Addr → Hp → Prop) (f23 : Addr → Hp → Prop) (f24 : Addr → Hp → Prop) (f25 : Addr → Hp → Prop) : DTS :=
    (dSeq (dAsg (dTup (dCons (dMake C_Taking sp_Ti (dCons (dLst (dCons (dC (.int 1)) dNil)) dNil)) (dCons (dCall sp_cof (dCons (dC (.str "0.77")) dNil)) dNil))) (hTup (hCons (hName 0) (hCons (hName 1) hEnd))))
    (dSeq (dAsg (dLst (dCons (dLam Pt nm f25) (dCons (dLam Pt nm f24) (dCons (dLam Pt nm f23) (dCons (dLam Pt nm f22) (dCons (dLam Pt nm f21) (dCons (dLam Pt nm f20) (dCons (dLam Pt nm f19) (dCons (dLam Pt nm f18) (dCons (dLam Pt nm f17) (dCons (dLam Pt nm f16) (dCons (dLam Pt nm f15) (dCons (dLam Pt nm f14) (dCons (dLam Pt nm f13) (dCons (dLam Pt nm f12) (dCons (dLam Pt nm f11) (dCons (dLam Pt nm f10) (dCons (dLam Pt nm f9) (dCons (dLam Pt nm f8) (dCons (dLam Pt nm f7) (dCons (dLam Pt nm f6) (dCons (dLam Pt nm f5) (dCons (dLam Pt nm f4) (dCons (dLam Pt nm f3) (dCons (dLam Pt nm f2) (dCons (dLam Pt nm f1) dNil)))))))))))))))))))))))))) (hName 2))
    (dSeq (dIfS (dOr (dTest (dOp (gEq true) (dLcR base Zc [(0, "one"), (1, "kayles")] [3] (dISeq (dVar 2)) (hName 3) (fun b => (dTest (dOp (gEq true) (dCall (sp_ltold b) (dCons (dVar 3) dNil)) (dC (.str "RuleError"))))) (fun b => (dC (.int 1)))) (dLst dNil))) (dTest (dOp (gEq true) (dC (.int 600)) (dC (.int 600)))))
    (dRet (dC (.bl false))) dNext)
    (dRet (dAndV (dOp (gEq false) (dMeth C_Taking "repeats" sp_Tr (dVar 0) dNil) (dTup (dCons (dC (.int 0)) (dCons (dC (.int 2)) dNil)))) (dAndV (dOp (gEq false) (dMeth C_Taking "repeats" sp_Tr (dMake C_Taking sp_Ti (dCons (dLst (dCons (dC (.int 1)) (dCons (dC (.int 2)) (dCons (dC (.int 3)) dNil)))) dNil)) dNil) (dTup (dCons (dC (.int 0)) (dCons (dC (.int 4)) dNil)))) (dAndV (dOp (gEq false) (dCB gList (dCons (dMeth C_Code "worths" sp_Cw (dVar 1) (dCons (dC (.int 12)) dNil)) dNil)) (dLst (dCons (dC (.int 0)) (dCons (dC (.int 1)) (dCons (dC (.int 2)) (dCons (dC (.int 3)) (dCons (dC (.int 1)) (dCons (dC (.int 4)) (dCons (dC (.int 3)) (dCons (dC (.int 2)) (dCons (dC (.int 1)) (dCons (dC (.int 4)) (dCons (dC (.int 2)) (dCons (dC (.int 6)) (dCons (dC (.int 4)) dNil))))))))))))))) (dAndV (dOp (gEq false) (dCall sp_mex (dCons (dLst dNil) dNil)) (dC (.int 0))) (dAndV (dOp (gEq false) (dMeth C_Taking "moves" sp_Tm (dVar 0) (dCons (dLst dNil) dNil)) (dTup dNil)) (dAndV (dOp (gIsN false) (dMeth C_Code "reply" sp_Cr (dVar 1) (dCons (dLst dNil) dNil)) (dC .non)) (dOp (gEq false) (dMeth C_Taking "repeats" sp_Tr (dMake C_Taking sp_Ti (dCons (dLst (dCons (dC (.int 1)) (dCons (dC (.int 3)) (dCons (dC (.int 4)) dNil)))) dNil)) dNil) (dTup (dCons (dC (.int 0)) (dCons (dC (.int 7)) dNil))))))))))))))
/-! ### law -/
abbrev s_law : Stmt := top 20
def d_law : He.DefD := ⟨("law", none), "law", "law", defArgs s_law, defBody s_law, defScope s_law, [], []⟩
abbrev N_law : List Str := ["script", "dice", "numbers", "taking", "most", "heaps", "moves", "seen", "k", "heap", "values", "due", "many", "first", "figures", "code", "worths", "whole", "reply", "row", "left", "text", "some", "number", "figure"]
theorem sc_law : FnScope N_law ["script"] (defScope s_law) := ⟨rfl, rfl, rfl, by decide +kernel, rfl, by decide +kernel, by decide +kernel⟩
def B3_law : DTS := (dAsg (dOp gXor (dVar 17) (dOp gIx (dVar 16) (dVar 9))) (hName 17))
def S3_law (sp_Tw : SpD) (sp_lval : SpD) (C_Taking : Addr) : DTS := (dIfS (dTest (dOp (gEq true) (dCB gList (dCons (dMeth C_Taking "worths" sp_Tw (dVar 3) (dCons (dVar 4) dNil)) dNil)) (dCall sp_lval (dCons (dVar 2) (dCons (dVar 4) dNil)))))
    (dRet (dC (.bl false))) dNext)
def S4_law : DTS := (dAsg (dTup (dCons (dLst dNil) (dCons dNewT dNil))) (hTup (hCons (hName 6) (hCons (hName 7) hEnd))))
def S6_law (sp_Tm : SpD) (sp_call : SpD) (C_Taking : Addr) : DTS := (dIfS (dOr (dTest (dOp (gEq true) (dCB gList (dCons (dMeth C_Taking "moves" sp_Tm (dVar 3) (dCons (dVar 5) dNil)) dNil)) (dVar 6))) (dTest (dOp (gIsN true) (dCall sp_call (dCons (dVar 5) dNil)) (dC .non))))
    (dRet (dC (.bl false))) dNext)
def S7_law (sp_lval : SpD) : DTS := (dPar [10, 11] (dCons (dCall sp_lval (dCons (dVar 2) (dCons (dC (.int 600)) dNil))) (dCons (dC .non) dNil)))
def S8_law : DTS := (dAsg (dOp gSub (dC (.int 601)) (dVar 12)) (hName 13))
def S9_law : DTS := (dWhile (dAnd (dTest (dOp gGt (dVar 13) (dC (.int 0)))) (dTest (dOp (gEq false) (dOp gIx (dVar 10) (dOp gSub (dVar 13) (dC (.int 1)))) (dOp gIx (dVar 10) (dOp gAdd (dOp gSub (dVar 13) (dC (.int 1))) (dVar 12))))))
    (dAsg (dOp gSub (dVar 13) (dC (.int 1))) (hName 13)))
def S10_law : DTS := (dAsg (dIf (dTest (dOp gLe (dOp gAdd (dOp gAdd (dVar 13) (dVar 12)) (dOp gIx (dVar 2) (dOp gSub (dCB gLen (dCons (dVar 2) dNil)) (dC (.int 1))))) (dC (.int 600)))) (dTup (dCons (dVar 13) (dCons (dVar 12) dNil))) (dC .non)) (hName 11))
def S12_law (sp_Tr : SpD) (C_Taking : Addr) : DTS := (dIfS (dTest (dOp (gEq true) (dMeth C_Taking "repeats" sp_Tr (dVar 3) dNil) (dVar 11)))
    (dRet (dC (.bl false))) dNext)
def S14_law : DTS := (dAsg (dIf (dTest (dOp gGt (dCB (gMax1 maxI) (dCons (dVar 14) dNil)) (dC (.int 0)))) (dVar 14) (dLst (dCons (dC (.int 7)) dNil))) (hName 14))
def S15_law (sp_lroll : SpD) (sp_Ci : SpD) (C_Code : Addr) : DTS := (dAsg (dTup (dCons (dMake C_Code sp_Ci (dCons (dVar 14) dNil)) (dCons (dCall sp_lroll (dCons (dVar 1) (dCons (dC (.int 20)) dNil))) dNil))) (hTup (hCons (hName 15) (hCons (hName 4) hEnd))))
def S16_law (sp_lwor : SpD) : DTS := (dAsg (dCall sp_lwor (dCons (dVar 14) (dCons (dC (.int 20)) dNil))) (hName 16))
def S19_law : DTS := (dFor (dISeq (dVar 5)) (hName 9)
    (B3_law))
def S20_law : DTS := (dAsg (dOp gXor (dOp gXor (dOp gXor (dVar 17) (dOp gIx (dVar 16) (dVar 9))) (dIf (dTest (dOp gGt (dCB gLen (dCons (dVar 19) dNil)) (dC (.int 0)))) (dOp gIx (dVar 16) (dOp gIx (dVar 19) (dC (.int 0)))) (dC (.int 0)))) (dIf (dTest (dOp gGt (dCB gLen (dCons (dVar 19) dNil)) (dC (.int 1)))) (dOp gIx (dVar 16) (dOp gIx (dVar 19) (dC (.int 1)))) (dC (.int 0)))) (hName 20))
def S21_law : DTS := (dAsg (dIf (dAnd (dTest (dOp (gIsN false) (dVar 18) (dC .non))) (dTest (dOp (gEq false) (dVar 20) (dC (.int 0))))) (dTup (dCons (dVar 8) (dCons (dVar 19) dNil))) (dVar 18)) (hName 18))
def S24_law (sp_Cr : SpD) (sp_Ct : SpD) (sp_cof : SpD) (C_Code : Addr) : DTS := (dIfS (dOr (dTest (dOp (gEq true) (dMeth C_Code "reply" sp_Cr (dVar 15) (dCons (dVar 5) dNil)) (dVar 18))) (dOr (dTest (dOp (gEq true) (dOp (gIsN false) (dVar 18) (dC .non)) (dOp (gEq false) (dVar 17) (dC (.int 0))))) (dOr (dTest (dOp (gEq true) (dMeth C_Code "text" sp_Ct (dVar 15) dNil) (dVar 21))) (dTest (dOp (gEq true) (dCB gList (dCons (dFld C_Code "figures" (dCall sp_cof (dCons (dVar 21) dNil))) dNil)) (dVar 14))))))
    (dRet (dC (.bl false))) dNext)
def S28_law (sp_lplain : SpD) : DTS := (dRet (dCall sp_lplain dNil))
def C1_law (sp_lroll : SpD) : DTE := (dLc [8] (dIR1 (dCons (dOp gAdd (dC (.int 1)) (dCall sp_lroll (dCons (dVar 1) (dCons (dC (.int 4)) dNil)))) dNil)) (hName 8) dYes (dTup (dCons (dOp gAdd (dC (.int 1)) (dCall sp_lroll (dCons (dVar 1) (dCons (dC (.int 9)) dNil)))) (dCons (dC (.int 1)) dNil))))
def C2_law (sp_lroll : SpD) : DTE := (dLc [8] (dIR1 (dCons (dCall sp_lroll (dCons (dVar 1) (dCons (dC (.int 4)) dNil))) dNil)) (hName 8) dYes (dCall sp_lroll (dCons (dVar 1) (dCons (dC (.int 7)) dNil))))
def C3_law (sp_lwins : SpD) : DTE := (dLc [23] (dISeq (dVar 2)) (hName 23) (dAnd (dTest (dOp gLe (dVar 23) (dVar 9))) (dNot (dTest (dCall sp_lwins (dCons (dVar 2) (dCons (dOp gAdd (dOp gAdd (dSl (dVar 5) dNoPart (dPart (dVar 8))) (dLst (dCons (dOp gSub (dVar 9) (dVar 23)) dNil))) (dSl (dVar 5) (dPart (dOp gAdd (dVar 8) (dC (.int 1)))) dNoPart)) (dCons (dVar 7) dNil))))))) (dTup (dCons (dVar 8) (dCons (dVar 23) dNil))))
def C4_law (sp_lroll : SpD) : DTE := (dLc [8] (dIR1 (dCons (dOp gAdd (dC (.int 1)) (dCall sp_lroll (dCons (dVar 1) (dCons (dC (.int 3)) dNil)))) dNil)) (hName 8) dYes (dCall sp_lroll (dCons (dVar 1) (dCons (dC (.int 8)) dNil))))
def C5_law (sp_Co : SpD) (C_Code : Addr) : DTE := (dLc [9] (dIR1 (dCons (dC (.int 12)) dNil)) (hName 9) dYes (dCB gList (dCons (dMeth C_Code "options" sp_Co (dVar 15) (dCons (dVar 9) dNil)) dNil)))
def C6_law (sp_lopt : SpD) : DTE := (dLc [9] (dIR1 (dCons (dC (.int 12)) dNil)) (hName 9) dYes (dCall sp_lopt (dCons (dVar 14) (dCons (dVar 9) dNil))))
def C7_law (sp_lroll : SpD) : DTE := (dLc [8] (dIR1 (dCons (dCall sp_lroll (dCons (dVar 1) (dCons (dC (.int 4)) dNil))) dNil)) (hName 8) dYes (dCall sp_lroll (dCons (dVar 1) (dCons (dC (.int 15)) dNil))))
def C8_law : DTE := (dLc [24] (dISeq (dVar 14)) (hName 24) dYes (dCB gStr (dCons (dVar 24) dNil)))
def C9_law (sp_lroll : SpD) : DTE := (dLc [8] (dIR1 (dCons (dCall sp_lroll (dCons (dVar 1) (dCons (dC (.int 7)) dNil))) dNil)) (hName 8) dYes (dCall sp_lroll (dCons (dVar 1) (dCons (dC (.int 6)) dNil))))
def C10_law : DTE := (dLc [23] (dIR1 (dCons (dC (.int 8)) dNil)) (hName 23) (dTest (dOp (gIn true) (dVar 23) (dVar 22))) (dVar 23))
def B1_law (sp_lwins : SpD) : DTS := (dAsg (dOp gAdd (dVar 6) (C3_law sp_lwins)) (hName 6))
def B2_law : DTS := (dIfS (dTest (dOp (gIsN false) (dVar 11) (dC .non)))
    (dSeq (S8_law)
    (dSeq (S9_law)
    (S10_law))) dNext)
def B4_law : DTS := (dSeq (S20_law)
    (S21_law))
def B5_law (sp_lopt : SpD) : DTS := (dFor (dISeq (dCall sp_lopt (dCons (dVar 14) (dCons (dVar 9) dNil)))) (hName 19)
    (B4_law))
def S1_law (sp_lroll : SpD) : DTS := (dAsg (dCB gSortedDI (dCons (dCB gDictP (dCons (C1_law sp_lroll) dNil)) dNil)) (hName 2))
def S2_law (sp_lroll : SpD) (sp_Ti : SpD) (C_Taking : Addr) : DTS := (dAsg (dTup (dCons (dMake C_Taking sp_Ti (dCons (dVar 2) dNil)) (dCons (dCall sp_lroll (dCons (dVar 1) (dCons (dC (.int 80)) dNil))) (dCons (C2_law sp_lroll) dNil)))) (hTup (hCons (hName 3) (hCons (hName 4) (hCons (hName 5) hEnd)))))
def S5_law (sp_lwins : SpD) : DTS := (dFor (dIEn (dCons (dVar 5) dNil)) (hTup (hCons (hName 8) (hCons (hName 9) hEnd)))
    (B1_law sp_lwins))
def S11_law : DTS := (dFor (dIR2 (dCons (dC (.int 1)) (dCons (dC (.int 200)) dNil))) (hName 12)
    (B2_law))
def S13_law (sp_lroll : SpD) : DTS := (dAsg (C4_law sp_lroll) (hName 14))
def S17_law (sp_Cw : SpD) (sp_Co : SpD) (sp_lopt : SpD) (C_Code : Addr) : DTS := (dIfS (dOr (dTest (dOp (gEq true) (dCB gList (dCons (dMeth C_Code "worths" sp_Cw (dVar 15) (dCons (dVar 4) dNil)) dNil)) (dSl (dVar 16) dNoPart (dPart (dOp gAdd (dVar 4) (dC (.int 1))))))) (dTest (dOp (gEq true) (C5_law sp_Co C_Code) (C6_law sp_lopt))))
    (dRet (dC (.bl false))) dNext)
def S18_law (sp_lroll : SpD) : DTS := (dAsg (dTup (dCons (C7_law sp_lroll) (dCons (dC (.int 0)) (dCons (dC .non) dNil)))) (hTup (hCons (hName 5) (hCons (hName 17) (hCons (hName 18) hEnd)))))
def S22_law (sp_lopt : SpD) : DTS := (dFor (dIEn (dCons (dVar 5) dNil)) (hTup (hCons (hName 8) (hCons (hName 9) hEnd)))
    (B5_law sp_lopt))
def S23_law : DTS := (dAsg (dOp gAdd (dC (.str "0.")) (dJoin (dC (.str "")) (C8_law))) (hName 21))
def S25_law (sp_lroll : SpD) : DTS := (dAsg (C9_law sp_lroll) (hName 22))
def S26_law (sp_mex : SpD) : DTS := (dIfS (dTest (dOp (gEq true) (dCall sp_mex (dCons (dVar 22) dNil)) (dOp gIx (C10_law) (dC (.int 0)))))
    (dRet (dC (.bl false))) dNext)
def B6_law (sp_lroll : SpD) (sp_Ti : SpD) (sp_Tw : SpD) (sp_lval : SpD) (sp_lwins : SpD) (sp_Tm : SpD) (sp_call : SpD) (sp_Tr : SpD) (sp_Ci : SpD) (sp_lwor : SpD) (sp_Cw : SpD) (sp_Co : SpD) (sp_lopt : SpD) (sp_Cr : SpD) (sp_Ct : SpD) (sp_cof : SpD) (sp_mex : SpD) (C_Taking : Addr) (C_Code : Addr) : DTS := (dSeq (S1_law sp_lroll)
    (dSeq (S2_law sp_lroll sp_Ti C_Taking)
    (dSeq (S3_law sp_Tw sp_lval C_Taking)
    (dSeq (S4_law)
    (dSeq (S5_law sp_lwins)
    (dSeq (S6_law sp_Tm sp_call C_Taking)
    (dSeq (S7_law sp_lval)
    (dSeq (S11_law)
    (dSeq (S12_law sp_Tr C_Taking)
    (dSeq (S13_law sp_lroll)
    (dSeq (S14_law)
    (dSeq (S15_law sp_lroll sp_Ci C_Code)
    (dSeq (S16_law sp_lwor)
    (dSeq (S17_law sp_Cw sp_Co sp_lopt C_Code)
    (dSeq (S18_law sp_lroll)
    (dSeq (S19_law)
    (dSeq (S22_law sp_lopt)
    (dSeq (S23_law)
    (dSeq (S24_law sp_Cr sp_Ct sp_cof C_Code)
    (dSeq (S25_law sp_lroll)
    (S26_law sp_mex)))))))))))))))))))))
def S27_law (sp_lrounds : SpD) (sp_lroll : SpD) (sp_Ti : SpD) (sp_Tw : SpD) (sp_lval : SpD) (sp_lwins : SpD) (sp_Tm : SpD) (sp_call : SpD) (sp_Tr : SpD) (sp_Ci : SpD) (sp_lwor : SpD) (sp_Cw : SpD) (sp_Co : SpD) (sp_lopt : SpD) (sp_Cr : SpD) (sp_Ct : SpD) (sp_cof : SpD) (sp_mex : SpD) (C_Taking : Addr) (C_Code : Addr) : DTS := (dFor (dISeq (dCall sp_lrounds (dCons (dVar 0) (dCons (dC (.int 1)) dNil)))) (hName 1)
    (B6_law sp_lroll sp_Ti sp_Tw sp_lval sp_lwins sp_Tm sp_call sp_Tr sp_Ci sp_lwor sp_Cw sp_Co sp_lopt sp_Cr sp_Ct sp_cof sp_mex C_Taking C_Code))
def t_law (sp_lrounds : SpD) (sp_lroll : SpD) (sp_Ti : SpD) (sp_Tw : SpD) (sp_lval : SpD) (sp_lwins : SpD) (sp_Tm : SpD) (sp_call : SpD) (sp_Tr : SpD) (sp_Ci : SpD) (sp_lwor : SpD) (sp_Cw : SpD) (sp_Co : SpD) (sp_lopt : SpD) (sp_Cr : SpD) (sp_Ct : SpD) (sp_cof : SpD) (sp_mex : SpD) (sp_lplain : SpD) (C_Taking : Addr) (C_Code : Addr) : DTS :=
    (dSeq (S27_law sp_lrounds sp_lroll sp_Ti sp_Tw sp_lval sp_lwins sp_Tm sp_call sp_Tr sp_Ci sp_lwor sp_Cw sp_Co sp_lopt sp_Cr sp_Ct sp_cof sp_mex C_Taking C_Code)
    (S28_law sp_lplain))
end K02
set_option Elab.async false
set_option linter.all false
set_option maxRecDepth 100000
set_option maxHeartbeats 4000000
namespace K02
open PySem PySem.Spec PyProof.Rows L2 DL
def fn : List He.DefD := [d_mex, d_Ti, d_Tw, d_Tm, d_Tr, d_call, d_Ci, d_Co, d_Cw, d_Cr, d_Ct, d_cof, d_ldice, d_lroll, d_lrounds, d_ltold, d_lval, d_lopt, d_lwor, d_lwins, d_lplain, d_law]
theorem mf_mex : d_mex ∈ fn := mem_ix 0 rfl
theorem mf_Ti : d_Ti ∈ fn := mem_ix 1 rfl
theorem mf_Tw : d_Tw ∈ fn := mem_ix 2 rfl
theorem mf_Tm : d_Tm ∈ fn := mem_ix 3 rfl
theorem mf_Tr : d_Tr ∈ fn := mem_ix 4 rfl
theorem mf_call : d_call ∈ fn := mem_ix 5 rfl
theorem mf_Ci : d_Ci ∈ fn := mem_ix 6 rfl
theorem mf_Co : d_Co ∈ fn := mem_ix 7 rfl
theorem mf_Cw : d_Cw ∈ fn := mem_ix 8 rfl
theorem mf_Cr : d_Cr ∈ fn := mem_ix 9 rfl
theorem mf_Ct : d_Ct ∈ fn := mem_ix 10 rfl
theorem mf_cof : d_cof ∈ fn := mem_ix 11 rfl
theorem mf_ldice : d_ldice ∈ fn := mem_ix 12 rfl
theorem mf_lroll : d_lroll ∈ fn := mem_ix 13 rfl
theorem mf_lrounds : d_lrounds ∈ fn := mem_ix 14 rfl
theorem mf_ltold : d_ltold ∈ fn := mem_ix 15 rfl
theorem mf_lval : d_lval ∈ fn := mem_ix 16 rfl
theorem mf_lopt : d_lopt ∈ fn := mem_ix 17 rfl
theorem mf_lwor : d_lwor ∈ fn := mem_ix 18 rfl
theorem mf_lwins : d_lwins ∈ fn := mem_ix 19 rfl
theorem mf_lplain : d_lplain ∈ fn := mem_ix 20 rfl
theorem mf_law : d_law ∈ fn := mem_ix 21 rfl
abbrev M (K : PySem.W.Frag) (mg : Str → Option Value) (base : Heap) : Prop := Mo fa fn tf tl K mg base
section
variable {P : Program} {w : World} {K : PySem.W.Frag} {mg : Str → Option Value} {base : Heap}
theorem tm_mex (E : M K mg base) {k : Nat} {f : Addr} {A : Around} {outer : List Env} {s : Shared} {H : Hp} {Ex : XK} (I : InBody (bodyX P w K mg base N_mex "mex" (defScope s_mex) f (He.codeOf K ("mex", none)) A outer s H Ex) (wE Ex) k) :
    DSs (bodyX P w K mg base N_mex "mex" (defScope s_mex) f (He.codeOf K ("mex", none)) A outer s H Ex) (tsOf tf K) (wE Ex) (defBody s_mex) (t_mex) :=
    have S := sc_mex
    (dss_cons (ds_set 1 S.nd de_int)
      (dss_cons (ds_while I.po (dt_cp (cd_in I.u1) (dv 1) (dv 0))
      (dss_one (ds_aug_add 1 S.nd de_int)))
      (dss_one (ds_ret (dv 1)))))
theorem bn_mex (kV doc pm : Value) (an : Option Addr) (cdv ct : Value) (us : List Value) (h : us.length = (["numbers"] : List Str).length) : bindArgs (PySem.W.fnOf d_mex.name d_mex.qual d_mex.params d_mex.body d_mex.scope .none kV doc pm an cdv ct) ⟨us, []⟩ = pure ((["numbers"] : List Str).zip us) := match us, h with | [_], _ => rfl
theorem tm_Ti (E : M K mg base) {k : Nat} {f : Addr} {A : Around} {outer : List Env} {s : Shared} {H : Hp} {Ex : XK} (I : InBody (bodyX P w K mg base N_Ti "Taking.__init__" (defScope s_Ti) f (He.codeOf K ("Taking", some "__init__")) A outer s H Ex) (wE Ex) k) :
    DSs (bodyX P w K mg base N_Ti "Taking.__init__" (defScope s_Ti) f (He.codeOf K ("Taking", some "__init__")) A outer s H Ex) (tsOf tf K) (wE Ex) (defBody s_Ti) (t_Ti (He.ga K "Taking") (He.ga K "RuleError")) :=
    have S := sc_Ti
    (dss_cons (ds_fld (E.cls "Taking" m_cls_Taking) (E.noat "Taking" "numbers" m_noat_Taking_numbers) (dv 0) (de_bty bd_tuple (by rfl) (E.fr "tuple" m_free_tuple) boot_tuple (da_cons (dv 1) da_nil)))
      (dss_cons (ds_if (dt_w (dw_or (dt_not (dt_ch cd_lt cd_le de_int (de_blt bd_len (by rfl) (E.fr "len" m_free_len) boot_len (da_cons (de_fld (E.cls "Taking" m_cls_Taking) (E.noat "Taking" "numbers" m_noat_Taking_numbers) (dv 0)) da_nil)) de_int)) (dw_or1 (dt_val (de_any 2 I.room (E.fr "any" m_free_any) (E.tab mt_Ti) (Mo.mem mt_Ti) (genB_by (sc := defScope s_Ti) (by decide +kernel)) (de_fld (E.cls "Taking" m_cls_Taking) (E.noat "Taking" "numbers" m_noat_Taking_numbers) (dv 0)) (re_not (re_chain or_le or_le re_int (re_var 2) re_int)) S.nd nd_Ti)))))
      (dss_one (ds_raise (by rfl) I.tk (E.exc "RuleError" m_exc_RuleError m_glo_RuleError))) dss_nil)
      (dss_one (ds_if (dt_val (de_anyZ I.room (E.fr "any" m_free_any) (E.fr "zip" m_free_zip) (E.tab mt_Ti) (Mo.mem mt_Ti) (genZ_by (sc := defScope s_Ti) (by decide +kernel)) (da_cons (de_fld (E.cls "Taking" m_cls_Taking) (E.noat "Taking" "numbers" m_noat_Taking_numbers) (dv 0)) (da_cons (de_slice (de_fld (E.cls "Taking" m_cls_Taking) (E.noat "Taking" "numbers" m_noat_Taking_numbers) (dv 0)) (do_some de_int) do_none) da_nil)) (eltz_ge (by rfl) (by rfl) (by rfl))))
      (dss_one (ds_raise (by rfl) I.tk (E.exc "RuleError" m_exc_RuleError m_glo_RuleError))) dss_nil))))
theorem bn_Ti (kV doc pm : Value) (an : Option Addr) (cdv ct : Value) (us : List Value) (h : us.length = (["self", "numbers"] : List Str).length) : bindArgs (PySem.W.fnOf d_Ti.name d_Ti.qual d_Ti.params d_Ti.body d_Ti.scope .none kV doc pm an cdv ct) ⟨us, []⟩ = pure ((["self", "numbers"] : List Str).zip us) := match us, h with | [_, _], _ => rfl
theorem tm_Tw (E : M K mg base) {k : Nat} {l_mex : Nat} {sp_mex : SpD} (G_mex : FnA P w K mg base (tsOf tf K) "mex" ["numbers"] l_mex sp_mex) (h_mex : l_mex ≤ k) {f : Addr} {A : Around} {outer : List Env} {s : Shared} {H : Hp} {Ex : XK} (I : InBody (bodyX P w K mg base N_Tw "Taking.worths" (defScope s_Tw) f (He.codeOf K ("Taking", some "worths")) A outer s H Ex) (wE Ex) k) :
    DSs (bodyX P w K mg base N_Tw "Taking.worths" (defScope s_Tw) f (He.codeOf K ("Taking", some "worths")) A outer s H Ex) (tsOf tf K) (wE Ex) (defBody s_Tw) (t_Tw sp_mex (He.ga K "Taking") (He.ga K "RuleError")) :=
    have S := sc_Tw
    (dss_cons (ds_if (dt_not (dt_ch cd_le cd_le de_int (dv 1) (de_gint (E.int "MOST_VALUES" 600 m_int_MOST_VALUES))))
      (dss_one (ds_raise (by rfl) I.tk (E.exc "RuleError" m_exc_RuleError m_glo_RuleError))) dss_nil)
      (dss_cons (ds_set 2 S.nd (de_lstB da_nil))
      (dss_cons (ds_for I.po (by rfl) (di_range1 (by rfl) (E.fr "range" m_free_range) (da_cons (de_add (dv 1) de_int) da_nil)) (dg_name 3 S.nd)
      (dss_one (ds_expr (de_append (dv 2) (de_callA G_mex (I.rm h_mex) I.tk (da_cons (de_lc (own := [("number", 4)]) (by rfl) S.nd (di_seq (de_fld (E.cls "Taking" m_cls_Taking) (E.noat "Taking" "numbers" m_noat_Taking_numbers) (dv 0))) (blk_by (N := N_Tw) (sc := defScope s_Tw) (own := [("number", 4)]) (by decide +kernel)) own_name (fun _ _ _ _ _ => pg_own1 S.nd rfl (Or.inl rfl) (Or.inr rfl)) (fun _ _ _ _ _ => dts_one (dt_cp cd_le (dv 4) (dv 3))) (fun _ _ _ _ _ => (de_ix I.u1 (dv 2) (de_sub (dv 3) (dv 4))))) da_nil))))))
      (dss_one (ds_ret (de_bty bd_tuple (by rfl) (E.fr "tuple" m_free_tuple) boot_tuple (da_cons (dv 2) da_nil)))))))
theorem bn_Tw (kV doc pm : Value) (an : Option Addr) (cdv ct : Value) (us : List Value) (h : us.length = (["self", "most"] : List Str).length) : bindArgs (PySem.W.fnOf d_Tw.name d_Tw.qual d_Tw.params d_Tw.body d_Tw.scope .none kV doc pm an cdv ct) ⟨us, []⟩ = pure ((["self", "most"] : List Str).zip us) := match us, h with | [_, _], _ => rfl
theorem tm_Tm (E : M K mg base) {k : Nat} {l_Tw : Nat} {l_call : Nat} {sp_Tw : SpD} {sp_call : SpD} (G_Tw : FnM P w K mg base (tsOf tf K) (He.ga K "Taking") "worths" ["self", "most"] l_Tw sp_Tw) (h_Tw : l_Tw ≤ k) (G_call : FnA P w K mg base (tsOf tf K) "check_all" ["heaps"] l_call sp_call) (h_call : l_call ≤ k) {f : Addr} {A : Around} {outer : List Env} {s : Shared} {H : Hp} {Ex : XK} (I : InBody (bodyX P w K mg base N_Tm "Taking.moves" (defScope s_Tm) f (He.codeOf K ("Taking", some "moves")) A outer s H Ex) (wE Ex) k) :
    DSs (bodyX P w K mg base N_Tm "Taking.moves" (defScope s_Tm) f (He.codeOf K ("Taking", some "moves")) A outer s H Ex) (tsOf tf K) (wE Ex) (defBody s_Tm) (t_Tm sp_Tw sp_call (He.ga K "Taking")) :=
    have S := sc_Tm
    (dss_cons (ds_expr (de_callA G_call (I.rm h_call) I.tk (da_cons (dv 1) da_nil)))
      (dss_cons (ds_par3 2 3 4 (by rfl) S.nd (da_cons (de_meth G_Tw (I.rm h_Tw) I.tk (dv 0) (da_cons (de_maxD (by rfl) I.u8 (E.fr "max" m_free_max) (dv 1) de_int) da_nil)) (da_cons de_int (da_cons (de_lstB da_nil) da_nil))))
      (dss_cons (ds_for I.po (by rfl) (di_seq (dv 1)) (dg_name 5 S.nd)
      (dss_one (ds_aug_xor 3 S.nd (de_ix I.u1 (dv 2) (dv 5)))))
      (dss_cons (ds_for I.po (by rfl) (di_enum (by rfl) (E.fr "enumerate" m_free_enumerate) (da_cons (dv 1) da_nil)) (dg_tup (by rfl) (dgs_cons (dg_name 6 S.nd) (dgs_cons (dg_name 5 S.nd) dgs_end)) (lenIs_cons hm_name (lenIs_cons hm_name lenIs_end)))
      (dss_one (ds_for I.po (by rfl) (di_seq (de_fld (E.cls "Taking" m_cls_Taking) (E.noat "Taking" "numbers" m_noat_Taking_numbers) (dv 0))) (dg_name 7 S.nd)
      (dss_one (ds_if (dt_w (dw_and (dt_cp cd_le (dv 7) (dv 5)) (dw_and1 (dt_cp (cd_eq I.u64) (de_ix I.u1 (dv 2) (de_sub (dv 5) (dv 7))) (de_xor (dv 3) (de_ix I.u1 (dv 2) (dv 5)))))))
      (dss_one (ds_expr (de_append (dv 4) (de_tup (da_cons (dv 6) (da_cons (dv 7) da_nil)))))) dss_nil)))))
      (dss_one (ds_ret (de_bty bd_tuple (by rfl) (E.fr "tuple" m_free_tuple) boot_tuple (da_cons (dv 4) da_nil))))))))
theorem bn_Tm (kV doc pm : Value) (an : Option Addr) (cdv ct : Value) (us : List Value) (h : us.length = (["self", "heaps"] : List Str).length) : bindArgs (PySem.W.fnOf d_Tm.name d_Tm.qual d_Tm.params d_Tm.body d_Tm.scope .none kV doc pm an cdv ct) ⟨us, []⟩ = pure ((["self", "heaps"] : List Str).zip us) := match us, h with | [_, _], _ => rfl
theorem tm_Tr (E : M K mg base) {k : Nat} {l_Tw : Nat} {sp_Tw : SpD} (G_Tw : FnM P w K mg base (tsOf tf K) (He.ga K "Taking") "worths" ["self", "most"] l_Tw sp_Tw) (h_Tw : l_Tw ≤ k) {f : Addr} {A : Around} {outer : List Env} {s : Shared} {H : Hp} {Ex : XK} (I : InBody (bodyX P w K mg base N_Tr "Taking.repeats" (defScope s_Tr) f (He.codeOf K ("Taking", some "repeats")) A outer s H Ex) (wE Ex) k) :
    DSs (bodyX P w K mg base N_Tr "Taking.repeats" (defScope s_Tr) f (He.codeOf K ("Taking", some "repeats")) A outer s H Ex) (tsOf tf K) (wE Ex) (defBody s_Tr) (t_Tr sp_Tw (He.ga K "Taking")) :=
    have S := sc_Tr
    (dss_cons (ds_par 1 2 (by rfl) S.nd (da_cons (de_meth G_Tw (I.rm h_Tw) I.tk (dv 0) (da_cons (de_gint (E.int "MOST_VALUES" 600 m_int_MOST_VALUES)) da_nil)) (da_cons (de_ix I.u1 (de_fld (E.cls "Taking" m_cls_Taking) (E.noat "Taking" "numbers" m_noat_Taking_numbers) (dv 0)) (de_neg de_int)) da_nil)))
      (dss_cons (ds_for I.po (by rfl) (di_range2 (by rfl) (E.fr "range" m_free_range) (da_cons de_int (da_cons de_int da_nil))) (dg_name 3 S.nd)
      (dss_cons (ds_set 4 S.nd (de_sub (de_gint (E.int "MOST_VALUES" 600 m_int_MOST_VALUES)) (dv 3)))
      (dss_cons (ds_while I.po (dt_w (dw_and (dt_cp cd_ge (dv 4) de_int) (dw_and1 (dt_cp (cd_eq I.u64) (de_ix I.u1 (dv 1) (dv 4)) (de_ix I.u1 (dv 1) (de_add (dv 4) (dv 3)))))))
      (dss_one (ds_aug_sub 4 S.nd de_int)))
      (dss_one (ds_if (dt_cp cd_le (de_add (de_add (de_add (dv 4) de_int) (dv 3)) (dv 2)) (de_gint (E.int "MOST_VALUES" 600 m_int_MOST_VALUES)))
      (dss_one (ds_ret (de_tup (da_cons (de_add (dv 4) de_int) (da_cons (dv 3) da_nil))))) dss_nil)))))
      (dss_one (ds_ret de_non))))
theorem bn_Tr (kV doc pm : Value) (an : Option Addr) (cdv ct : Value) (us : List Value) (h : us.length = (["self"] : List Str).length) : bindArgs (PySem.W.fnOf d_Tr.name d_Tr.qual d_Tr.params d_Tr.body d_Tr.scope .none kV doc pm an cdv ct) ⟨us, []⟩ = pure ((["self"] : List Str).zip us) := match us, h with | [_], _ => rfl
theorem tm_call (E : M K mg base) {k : Nat} {f : Addr} {A : Around} {outer : List Env} {s : Shared} {H : Hp} {Ex : XK} (I : InBody (bodyX P w K mg base N_call "check_all" (defScope s_call) f (He.codeOf K ("check_all", none)) A outer s H Ex) (wE Ex) k) :
    DSs (bodyX P w K mg base N_call "check_all" (defScope s_call) f (He.codeOf K ("check_all", none)) A outer s H Ex) (tsOf tf K) (wE Ex) (defBody s_call) (t_call (He.ga K "RuleError")) :=
    have S := sc_call
    (dss_one (ds_if (dt_w (dw_or (dt_cp cd_gt (de_blt bd_len (by rfl) (E.fr "len" m_free_len) boot_len (da_cons (dv 0) da_nil)) de_int) (dw_or1 (dt_val (de_any 1 I.room (E.fr "any" m_free_any) (E.tab mt_call) (Mo.mem mt_call) (genB_by (sc := defScope s_call) (by decide +kernel)) (dv 0) (re_not (re_chain or_le or_le re_int (re_var 1) (re_gint (E.int "MOST_VALUES" 600 m_int_MOST_VALUES)))) S.nd nd_call)))))
      (dss_one (ds_raise (by rfl) I.tk (E.exc "RuleError" m_exc_RuleError m_glo_RuleError))) dss_nil))
theorem bn_call (kV doc pm : Value) (an : Option Addr) (cdv ct : Value) (us : List Value) (h : us.length = (["heaps"] : List Str).length) : bindArgs (PySem.W.fnOf d_call.name d_call.qual d_call.params d_call.body d_call.scope .none kV doc pm an cdv ct) ⟨us, []⟩ = pure ((["heaps"] : List Str).zip us) := match us, h with | [_], _ => rfl
theorem tm_Ci (E : M K mg base) {k : Nat} {f : Addr} {A : Around} {outer : List Env} {s : Shared} {H : Hp} {Ex : XK} (I : InBody (bodyX P w K mg base N_Ci "Code.__init__" (defScope s_Ci) f (He.codeOf K ("Code", some "__init__")) A outer s H Ex) (wE Ex) k) :
    DSs (bodyX P w K mg base N_Ci "Code.__init__" (defScope s_Ci) f (He.codeOf K ("Code", some "__init__")) A outer s H Ex) (tsOf tf K) (wE Ex) (defBody s_Ci) (t_Ci (He.ga K "Code") (He.ga K "RuleError")) :=
    have S := sc_Ci
    (dss_cons (ds_fld (E.cls "Code" m_cls_Code) (E.noat "Code" "figures" m_noat_Code_figures) (dv 0) (de_bty bd_tuple (by rfl) (E.fr "tuple" m_free_tuple) boot_tuple (da_cons (dv 1) da_nil)))
      (dss_cons (ds_if (dt_w (dw_or (dt_not (dt_ch cd_lt cd_le de_int (de_blt bd_len (by rfl) (E.fr "len" m_free_len) boot_len (da_cons (de_fld (E.cls "Code" m_cls_Code) (E.noat "Code" "figures" m_noat_Code_figures) (dv 0)) da_nil)) de_int)) (dw_or1 (dt_val (de_any 2 I.room (E.fr "any" m_free_any) (E.tab mt_Ci) (Mo.mem mt_Ci) (genB_by (sc := defScope s_Ci) (by decide +kernel)) (de_fld (E.cls "Code" m_cls_Code) (E.noat "Code" "figures" m_noat_Code_figures) (dv 0)) (re_not (re_chain or_le or_le re_int (re_var 2) re_int)) S.nd nd_Ci)))))
      (dss_one (ds_raise (by rfl) I.tk (E.exc "RuleError" m_exc_RuleError m_glo_RuleError))) dss_nil)
      (dss_one (ds_if (dt_cp (cd_eq I.u64) (de_blt (bd_max1 (by rfl) I.u8) (by rfl) (E.fr "max" m_free_max) boot_max (da_cons (de_fld (E.cls "Code" m_cls_Code) (E.noat "Code" "figures" m_noat_Code_figures) (dv 0)) da_nil)) de_int)
      (dss_one (ds_raise (by rfl) I.tk (E.exc "RuleError" m_exc_RuleError m_glo_RuleError))) dss_nil))))
theorem bn_Ci (kV doc pm : Value) (an : Option Addr) (cdv ct : Value) (us : List Value) (h : us.length = (["self", "figures"] : List Str).length) : bindArgs (PySem.W.fnOf d_Ci.name d_Ci.qual d_Ci.params d_Ci.body d_Ci.scope .none kV doc pm an cdv ct) ⟨us, []⟩ = pure ((["self", "figures"] : List Str).zip us) := match us, h with | [_, _], _ => rfl
theorem tm_Co (E : M K mg base) {k : Nat} {f : Addr} {A : Around} {outer : List Env} {s : Shared} {H : Hp} {Ex : XK} (I : InBody (bodyX P w K mg base N_Co "Code.options" (defScope s_Co) f (He.codeOf K ("Code", some "options")) A outer s H Ex) (wE Ex) k) :
    DSs (bodyX P w K mg base N_Co "Code.options" (defScope s_Co) f (He.codeOf K ("Code", some "options")) A outer s H Ex) (tsOf tf K) (wE Ex) (defBody s_Co) (t_Co (He.ga K "Code") (He.ga K "RuleError")) :=
    have S := sc_Co
    (dss_cons (ds_if (dt_not (dt_ch cd_le cd_le de_int (dv 1) de_int))
      (dss_one (ds_raise (by rfl) I.tk (E.exc "RuleError" m_exc_RuleError m_glo_RuleError))) dss_nil)
      (dss_cons (ds_set 2 S.nd de_newT)
      (dss_cons (ds_for I.po (by rfl) (di_enumC (by rfl) (E.fr "enumerate" m_free_enumerate) (da_cons (de_fld (E.cls "Code" m_cls_Code) (E.noat "Code" "figures" m_noat_Code_figures) (dv 0)) (da_cons de_int da_nil))) (dg_tup (by rfl) (dgs_cons (dg_name 3 S.nd) (dgs_cons (dg_name 4 S.nd) dgs_end)) (lenIs_cons hm_name (lenIs_cons hm_name lenIs_end)))
      (dss_cons (ds_set 5 S.nd (de_sub (dv 1) (dv 3)))
      (dss_cons (ds_if (dt_w (dw_and (dt_cp (cd_eq I.u64) (dv 5) de_int) (dw_and1 (dt_cp (cd_eq I.u64) (de_mod (dv 4) de_int) de_int))))
      (dss_one (ds_asg de_bl (dg_sub (W := W0) I.u1 (dv 2) (de_tup da_nil)))) dss_nil)
      (dss_cons (ds_if (dt_w (dw_and (dt_cp cd_gt (dv 5) de_int) (dw_and1 (dt_cp (cd_eq I.u64) (de_mod (de_fdiv (dv 4) de_int) de_int) de_int))))
      (dss_one (ds_asg de_bl (dg_sub (W := W0) I.u1 (dv 2) (de_tup (da_cons (dv 5) da_nil))))) dss_nil)
      (dss_one (ds_if (dt_w (dw_and (dt_cp cd_gt (dv 5) de_int) (dw_and1 (dt_cp cd_ge (dv 4) de_int))))
      (dss_one (ds_for I.po (by rfl) (di_range2 (by rfl) (E.fr "range" m_free_range) (da_cons de_int (da_cons (de_add (de_fdiv (dv 5) de_int) de_int) da_nil))) (dg_name 6 S.nd)
      (dss_one (ds_asg de_bl (dg_sub (W := W0) I.u1 (dv 2) (de_tup (da_cons (dv 6) (da_cons (de_sub (dv 5) (dv 6)) da_nil)))))))) dss_nil))))))
      (dss_one (ds_ret (de_bty bd_tuple (by rfl) (E.fr "tuple" m_free_tuple) boot_tuple (da_cons (de_blt (bd_sortedDT (by rfl) I.u8) (by rfl) (E.fr "sorted" m_free_sorted) boot_sorted (da_cons (dv 2) da_nil)) da_nil)))))))
theorem bn_Co (kV doc pm : Value) (an : Option Addr) (cdv ct : Value) (us : List Value) (h : us.length = (["self", "heap"] : List Str).length) : bindArgs (PySem.W.fnOf d_Co.name d_Co.qual d_Co.params d_Co.body d_Co.scope .none kV doc pm an cdv ct) ⟨us, []⟩ = pure ((["self", "heap"] : List Str).zip us) := match us, h with | [_, _], _ => rfl
theorem tm_Cw (E : M K mg base) {k : Nat} {l_mex : Nat} {l_Co : Nat} {sp_mex : SpD} {sp_Co : SpD} (G_mex : FnA P w K mg base (tsOf tf K) "mex" ["numbers"] l_mex sp_mex) (h_mex : l_mex ≤ k) (G_Co : FnM P w K mg base (tsOf tf K) (He.ga K "Code") "options" ["self", "heap"] l_Co sp_Co) (h_Co : l_Co ≤ k) {f : Addr} {A : Around} {outer : List Env} {s : Shared} {H : Hp} {Ex : XK} (I : InBody (bodyX P w K mg base N_Cw "Code.worths" (defScope s_Cw) f (He.codeOf K ("Code", some "worths")) A outer s H Ex) (wE Ex) k) :
    DSs (bodyX P w K mg base N_Cw "Code.worths" (defScope s_Cw) f (He.codeOf K ("Code", some "worths")) A outer s H Ex) (tsOf tf K) (wE Ex) (defBody s_Cw) (t_Cw sp_mex sp_Co (He.ga K "Code") (He.ga K "RuleError")) :=
    have S := sc_Cw
    (dss_cons (ds_if (dt_not (dt_ch cd_le cd_le de_int (dv 1) de_int))
      (dss_one (ds_raise (by rfl) I.tk (E.exc "RuleError" m_exc_RuleError m_glo_RuleError))) dss_nil)
      (dss_cons (ds_set 2 S.nd (de_lstB da_nil))
      (dss_cons (ds_for I.po (by rfl) (di_range1 (by rfl) (E.fr "range" m_free_range) (da_cons (de_add (dv 1) de_int) da_nil)) (dg_name 3 S.nd)
      (dss_cons (ds_set 4 S.nd (de_lstB da_nil))
      (dss_cons (ds_for I.po (by rfl) (di_seq (de_meth G_Co (I.rm h_Co) I.tk (dv 0) (da_cons (dv 3) da_nil))) (dg_name 5 S.nd)
      (dss_cons (ds_set 6 S.nd de_int)
      (dss_cons (ds_for I.po (by rfl) (di_seq (dv 5)) (dg_name 7 S.nd)
      (dss_one (ds_aug_xor 6 S.nd (de_ix I.u1 (dv 2) (dv 7)))))
      (dss_one (ds_expr (de_append (dv 4) (dv 6)))))))
      (dss_one (ds_expr (de_append (dv 2) (de_callA G_mex (I.rm h_mex) I.tk (da_cons (dv 4) da_nil))))))))
      (dss_one (ds_ret (de_bty bd_tuple (by rfl) (E.fr "tuple" m_free_tuple) boot_tuple (da_cons (dv 2) da_nil)))))))
theorem bn_Cw (kV doc pm : Value) (an : Option Addr) (cdv ct : Value) (us : List Value) (h : us.length = (["self", "most"] : List Str).length) : bindArgs (PySem.W.fnOf d_Cw.name d_Cw.qual d_Cw.params d_Cw.body d_Cw.scope .none kV doc pm an cdv ct) ⟨us, []⟩ = pure ((["self", "most"] : List Str).zip us) := match us, h with | [_, _], _ => rfl
theorem tm_Cr (E : M K mg base) {k : Nat} {l_Co : Nat} {l_Cw : Nat} {sp_Co : SpD} {sp_Cw : SpD} (G_Co : FnM P w K mg base (tsOf tf K) (He.ga K "Code") "options" ["self", "heap"] l_Co sp_Co) (h_Co : l_Co ≤ k) (G_Cw : FnM P w K mg base (tsOf tf K) (He.ga K "Code") "worths" ["self", "most"] l_Cw sp_Cw) (h_Cw : l_Cw ≤ k) {f : Addr} {A : Around} {outer : List Env} {s : Shared} {H : Hp} {Ex : XK} (I : InBody (bodyX P w K mg base N_Cr "Code.reply" (defScope s_Cr) f (He.codeOf K ("Code", some "reply")) A outer s H Ex) (wE Ex) k) :
    DSs (bodyX P w K mg base N_Cr "Code.reply" (defScope s_Cr) f (He.codeOf K ("Code", some "reply")) A outer s H Ex) (tsOf tf K) (wE Ex) (defBody s_Cr) (t_Cr sp_Co sp_Cw (He.ga K "Code") (He.ga K "RuleError")) :=
    have S := sc_Cr
    (dss_cons (ds_if (dt_w (dw_or (dt_cp cd_gt (de_blt bd_len (by rfl) (E.fr "len" m_free_len) boot_len (da_cons (dv 1) da_nil)) de_int) (dw_or1 (dt_val (de_any 4 I.room (E.fr "any" m_free_any) (E.tab mt_Cr) (Mo.mem mt_Cr) (genB_by (sc := defScope s_Cr) (by decide +kernel)) (dv 1) (re_not (re_chain or_le or_le re_int (re_var 4) re_int)) S.nd nd_Cr)))))
      (dss_one (ds_raise (by rfl) I.tk (E.exc "RuleError" m_exc_RuleError m_glo_RuleError))) dss_nil)
      (dss_cons (ds_par 2 3 (by rfl) S.nd (da_cons (de_meth G_Cw (I.rm h_Cw) I.tk (dv 0) (da_cons (de_maxD (by rfl) I.u8 (E.fr "max" m_free_max) (dv 1) de_int) da_nil)) (da_cons de_int da_nil)))
      (dss_cons (ds_for I.po (by rfl) (di_seq (dv 1)) (dg_name 4 S.nd)
      (dss_one (ds_aug_xor 3 S.nd (de_ix I.u1 (dv 2) (dv 4)))))
      (dss_cons (ds_for I.po (by rfl) (di_enum (by rfl) (E.fr "enumerate" m_free_enumerate) (da_cons (dv 1) da_nil)) (dg_tup (by rfl) (dgs_cons (dg_name 5 S.nd) (dgs_cons (dg_name 4 S.nd) dgs_end)) (lenIs_cons hm_name (lenIs_cons hm_name lenIs_end)))
      (dss_one (ds_for I.po (by rfl) (di_seq (de_meth G_Co (I.rm h_Co) I.tk (dv 0) (da_cons (dv 4) da_nil))) (dg_name 6 S.nd)
      (dss_cons (ds_set 7 S.nd (de_xor (dv 3) (de_ix I.u1 (dv 2) (dv 4))))
      (dss_cons (ds_for I.po (by rfl) (di_seq (dv 6)) (dg_name 8 S.nd)
      (dss_one (ds_aug_xor 7 S.nd (de_ix I.u1 (dv 2) (dv 8)))))
      (dss_one (ds_if (dt_cp (cd_eq I.u64) (dv 7) de_int)
      (dss_one (ds_ret (de_tup (da_cons (dv 5) (da_cons (dv 6) da_nil))))) dss_nil)))))))
      (dss_one (ds_ret de_non))))))
theorem bn_Cr (kV doc pm : Value) (an : Option Addr) (cdv ct : Value) (us : List Value) (h : us.length = (["self", "heaps"] : List Str).length) : bindArgs (PySem.W.fnOf d_Cr.name d_Cr.qual d_Cr.params d_Cr.body d_Cr.scope .none kV doc pm an cdv ct) ⟨us, []⟩ = pure ((["self", "heaps"] : List Str).zip us) := match us, h with | [_, _], _ => rfl
theorem tm_Ct (E : M K mg base) {k : Nat} {f : Addr} {A : Around} {outer : List Env} {s : Shared} {H : Hp} {Ex : XK} (I : InBody (bodyX P w K mg base N_Ct "Code.text" (defScope s_Ct) f (He.codeOf K ("Code", some "text")) A outer s H Ex) (wE Ex) k) :
    DSs (bodyX P w K mg base N_Ct "Code.text" (defScope s_Ct) f (He.codeOf K ("Code", some "text")) A outer s H Ex) (tsOf tf K) (wE Ex) (defBody s_Ct) (t_Ct (He.ga K "Code")) :=
    have S := sc_Ct
    (dss_one (ds_ret (de_add de_str (de_join de_str (de_lc (own := [("one", 1)]) (by rfl) S.nd (di_seq (de_fld (E.cls "Code" m_cls_Code) (E.noat "Code" "figures" m_noat_Code_figures) (dv 0))) (blk_by (N := N_Ct) (sc := defScope s_Ct) (own := [("one", 1)]) (by decide +kernel)) own_name (fun _ _ _ _ _ => pg_own1 S.nd rfl (Or.inl rfl) (Or.inr rfl)) (fun _ _ _ _ _ => dts_no) (fun _ _ _ _ _ => (de_bty bd_str (by rfl) (E.fr "str" m_free_str) boot_str (da_cons (dv 1) da_nil))))))))
theorem bn_Ct (kV doc pm : Value) (an : Option Addr) (cdv ct : Value) (us : List Value) (h : us.length = (["self"] : List Str).length) : bindArgs (PySem.W.fnOf d_Ct.name d_Ct.qual d_Ct.params d_Ct.body d_Ct.scope .none kV doc pm an cdv ct) ⟨us, []⟩ = pure ((["self"] : List Str).zip us) := match us, h with | [_], _ => rfl
theorem tm_cof (E : M K mg base) {k : Nat} {l_Ci : Nat} {sp_Ci : SpD} (G_Ci : FnI P w K mg base (tsOf tf K) "Code" (He.ga K "Code") ["self", "figures"] l_Ci sp_Ci) (h_Ci : l_Ci + 1 ≤ k) {f : Addr} {A : Around} {outer : List Env} {s : Shared} {H : Hp} {Ex : XK} (I : InBody (bodyX P w K mg base N_cof "code_of" (defScope s_cof) f (He.codeOf K ("code_of", none)) A outer s H Ex) (wE Ex) k) :
    DSs (bodyX P w K mg base N_cof "code_of" (defScope s_cof) f (He.codeOf K ("code_of", none)) A outer s H Ex) (tsOf tf K) (wE Ex) (defBody s_cof) (t_cof sp_Ci (He.ga K "Code") (He.ga K "RuleError")) :=
    have S := sc_cof
    (dss_cons (ds_if (dt_w (dw_or (dt_not (dt_val (de_starts (dv 0) de_str))) (dw_or1 (dt_val (de_anyS I.room (E.fr "any" m_free_any) (E.tab mt_cof) (Mo.mem mt_cof) (genB_by (sc := defScope s_cof) (by decide +kernel)) (de_slice (dv 0) (do_some de_int) do_none) (elt_notIn (z := "01234567") (by rfl) (by rfl)))))))
      (dss_one (ds_raise (by rfl) I.tk (E.exc "RuleError" m_exc_RuleError m_glo_RuleError))) dss_nil)
      (dss_one (ds_ret (de_make G_Ci (I.rm h_Ci) I.tk (da_cons (de_lc (own := [("sign", 1)]) (by rfl) S.nd (di_str (de_slice (dv 0) (do_some de_int) do_none)) (blk_by (N := N_cof) (sc := defScope s_cof) (own := [("sign", 1)]) (by decide +kernel)) own_name (fun _ _ _ _ _ => pg_own1 S.nd rfl (Or.inl rfl) (Or.inr rfl)) (fun _ _ _ _ _ => dts_no) (fun _ _ _ _ _ => (de_bty bd_intS (by rfl) (E.fr "int" m_free_int) boot_int (da_cons (dv 1) da_nil)))) da_nil)))))
theorem bn_cof (kV doc pm : Value) (an : Option Addr) (cdv ct : Value) (us : List Value) (h : us.length = (["text"] : List Str).length) : bindArgs (PySem.W.fnOf d_cof.name d_cof.qual d_cof.params d_cof.body d_cof.scope .none kV doc pm an cdv ct) ⟨us, []⟩ = pure ((["text"] : List Str).zip us) := match us, h with | [_], _ => rfl
theorem tm_ldice (E : M K mg base) {k : Nat} {f : Addr} {A : Around} {outer : List Env} {s : Shared} {H : Hp} {Ex : XK} (I : InBody (bodyX P w K mg base N_ldice "_law_dice" (defScope s_ldice) f (He.codeOf K ("_law_dice", none)) A outer s H Ex) (wE Ex) k) :
    DSs (bodyX P w K mg base N_ldice "_law_dice" (defScope s_ldice) f (He.codeOf K ("_law_dice", none)) A outer s H Ex) (tsOf tf K) (wE Ex) (defBody s_ldice) (t_ldice) :=
    have S := sc_ldice
    (dss_cons (ds_if (dt_ch cd_lt cd_lt (de_sub de_int de_int) (dv 0) de_int)
      (dss_one (ds_ret (de_lstB (da_cons (de_blt bd_abs (by rfl) (E.fr "abs" m_free_abs) boot_abs (da_cons (dv 0) da_nil)) (da_cons de_int (da_cons de_int da_nil)))))) dss_nil)
      (dss_one (ds_ret (de_lstB (da_cons (dv 0) (da_cons (de_add de_int (de_mod (de_bty bd_int (by rfl) (E.fr "int" m_free_int) boot_int (da_cons (dv 0) da_nil)) de_int)) (da_cons (de_bty bd_int (by rfl) (E.fr "int" m_free_int) boot_int (da_cons (de_cp cd_ge (dv 0) (de_pow de_int de_int)) da_nil)) da_nil)))))))
theorem bn_ldice (kV doc pm : Value) (an : Option Addr) (cdv ct : Value) (us : List Value) (h : us.length = (["cell"] : List Str).length) : bindArgs (PySem.W.fnOf d_ldice.name d_ldice.qual d_ldice.params d_ldice.body d_ldice.scope .none kV doc pm an cdv ct) ⟨us, []⟩ = pure ((["cell"] : List Str).zip us) := match us, h with | [_], _ => rfl
theorem tm_lroll (E : M K mg base) {k : Nat} {f : Addr} {A : Around} {outer : List Env} {s : Shared} {H : Hp} {Ex : XK} (I : InBody (bodyX P w K mg base N_lroll "_law_roll" (defScope s_lroll) f (He.codeOf K ("_law_roll", none)) A outer s H Ex) (wE Ex) k) :
    DSs (bodyX P w K mg base N_lroll "_law_roll" (defScope s_lroll) f (He.codeOf K ("_law_roll", none)) A outer s H Ex) (tsOf tf K) (wE Ex) (defBody s_lroll) (t_lroll) :=
    have S := sc_lroll
    (dss_cons (ds_if (dt_w (dw_or (dt_cp (cd_eq I.u64) (de_ix I.u1 (dv 0) de_int) de_int) (dw_or1 (dt_w (dw_and (dt_cp (cd_eq I.u64) (de_ix I.u1 (dv 0) de_int) de_int) (dw_and1 (dt_cp cd_gt (de_ix I.u1 (dv 0) de_int) de_int)))))))
      (dss_cons (ds_set 2 S.nd (de_mod (de_bty bd_int (by rfl) (E.fr "int" m_free_int) boot_int (da_cons (de_ix I.u1 (dv 0) de_int) da_nil)) (dv 1)))
      (dss_cons (ds_asg (de_fdiv (de_ix I.u1 (dv 0) de_int) (dv 1)) (dg_sub (W := W0) I.u1 (dv 0) de_int))
      (dss_one (ds_ret (dv 2))))) dss_nil)
      (dss_cons (ds_asg de_int (dg_sub (W := W0) I.u1 (dv 0) de_int))
      (dss_cons (ds_if (dt_cp cd_gt (dv 1) de_int)
      (dss_one ds_never) dss_nil)
      (dss_cons (ds_asg (de_mod (de_bty bd_int (by rfl) (E.fr "int" m_free_int) boot_int (da_cons (de_add (de_add (de_mul (de_ix I.u1 (dv 0) de_int) de_int) (de_mul (de_ix I.u1 (dv 0) de_int) de_int)) de_int) da_nil)) de_int) (dg_sub (W := W0) I.u1 (dv 0) de_int))
      (dss_cons (ds_asg (de_add (de_ix I.u1 (dv 0) de_int) de_int) (dg_sub (W := W0) I.u1 (dv 0) de_int))
      (dss_one (ds_ret (de_mod (de_bty bd_int (by rfl) (E.fr "int" m_free_int) boot_int (da_cons (de_fdiv (de_ix I.u1 (dv 0) de_int) de_int) da_nil)) (dv 1)))))))))
theorem bn_lroll (kV doc pm : Value) (an : Option Addr) (cdv ct : Value) (us : List Value) (h : us.length = (["dice", "many"] : List Str).length) : bindArgs (PySem.W.fnOf d_lroll.name d_lroll.qual d_lroll.params d_lroll.body d_lroll.scope .none kV doc pm an cdv ct) ⟨us, []⟩ = pure ((["dice", "many"] : List Str).zip us) := match us, h with | [_, _], _ => rfl
theorem tm_lrounds (E : M K mg base) {k : Nat} {l_ldice : Nat} {sp_ldice : SpD} (G_ldice : FnA P w K mg base (tsOf tf K) "_law_dice" ["cell"] l_ldice sp_ldice) (h_ldice : l_ldice ≤ k) {f : Addr} {A : Around} {outer : List Env} {s : Shared} {H : Hp} {Ex : XK} (I : InBody (bodyX P w K mg base N_lrounds "_law_rounds" (defScope s_lrounds) f (He.codeOf K ("_law_rounds", none)) A outer s H Ex) (wE Ex) k) :
    DSs (bodyX P w K mg base N_lrounds "_law_rounds" (defScope s_lrounds) f (He.codeOf K ("_law_rounds", none)) A outer s H Ex) (tsOf tf K) (wE Ex) (defBody s_lrounds) (t_lrounds sp_ldice) :=
    have S := sc_lrounds
    (dss_cons (ds_set 2 S.nd (de_slice (dv 0) do_none (do_some (dv 1))))
      (dss_cons (ds_if (dt_cp (cd_eq I.u64) (dv 2) (de_lst da_nil))
      (dss_one (ds_set 2 S.nd (de_lst (da_cons de_int da_nil)))) dss_nil)
      (dss_one (ds_ret (de_lc (own := [("cell", 3)]) (by rfl) S.nd (di_seq (dv 2)) (blk_by (N := N_lrounds) (sc := defScope s_lrounds) (own := [("cell", 3)]) (by decide +kernel)) own_name (fun _ _ _ _ _ => pg_own1 S.nd rfl (Or.inl rfl) (Or.inr rfl)) (fun _ _ _ _ _ => dts_no) (fun _ _ _ _ _ => (de_callA G_ldice (I.rm h_ldice) takes0 (da_cons (dv 3) da_nil))))))))
theorem bn_lrounds (kV doc pm : Value) (an : Option Addr) (cdv ct : Value) (us : List Value) (h : us.length = (["script", "most"] : List Str).length) : bindArgs (PySem.W.fnOf d_lrounds.name d_lrounds.qual d_lrounds.params d_lrounds.body d_lrounds.scope .none kV doc pm an cdv ct) ⟨us, []⟩ = pure ((["script", "most"] : List Str).zip us) := match us, h with | [_, _], _ => rfl
theorem tm_ltold (E : M K mg base) {k : Nat} {l_cal : Nat} (h_cal : l_cal ≤ k) {f : Addr} {A : Around} {outer : List Env} {s : Shared} {H : Hp} {Ex : XK} (I : InBody (bodyX P w K mg base N_ltold "_law_told" (defScope s_ltold) f (He.codeOf K ("_law_told", none)) A outer s H Ex) (wE Ex) k) :
    DSs (bodyX P w K mg base N_ltold "_law_told" (defScope s_ltold) f (He.codeOf K ("_law_told", none)) A outer s H Ex) (tsOf tf K) (wE Ex) (defBody s_ltold) (t_ltold (fun C => PySem.W.exmOne K (.ref C) (.ref (He.ga K "RuleError"))) (fun sp f F => Cal P w K mg base (tsOf tf K) l_cal sp f F)) :=
    have S := sc_ltold
    (dss_one (ds_try rfl rfl ⟨by rfl, by decide, .inl (E.glo "RuleError" m_glo_RuleError)⟩ I.tk (fun W pn xe tk po => have I := I.tr tk po; (dss_one (ds_ret (de_callV 0 (I.rm h_cal) I.tk)))) (fun a oe cls d pn => (dss_one (ds_ret de_str)))))
theorem bn_ltold (kV doc pm : Value) (an : Option Addr) (cdv ct : Value) (us : List Value) (h : us.length = (["what"] : List Str).length) : bindArgs (PySem.W.fnOf d_ltold.name d_ltold.qual d_ltold.params d_ltold.body d_ltold.scope .none kV doc pm an cdv ct) ⟨us, []⟩ = pure ((["what"] : List Str).zip us) := match us, h with | [_], _ => rfl
theorem tm_lval (E : M K mg base) {k : Nat} {f : Addr} {A : Around} {outer : List Env} {s : Shared} {H : Hp} {Ex : XK} (I : InBody (bodyX P w K mg base N_lval "_law_values" (defScope s_lval) f (He.codeOf K ("_law_values", none)) A outer s H Ex) (wE Ex) k) :
    DSs (bodyX P w K mg base N_lval "_law_values" (defScope s_lval) f (He.codeOf K ("_law_values", none)) A outer s H Ex) (tsOf tf K) (wE Ex) (defBody s_lval) (t_lval) :=
    have S := sc_lval
    (dss_cons (ds_set 2 S.nd (de_lst da_nil))
      (dss_cons (ds_for I.po (by rfl) (di_range1 (by rfl) (E.fr "range" m_free_range) (da_cons (de_add (dv 1) de_int) da_nil)) (dg_name 3 S.nd)
      (dss_cons (ds_set 4 S.nd (de_lc (own := [("number", 5)]) (by rfl) S.nd (di_seq (dv 0)) (blk_by (N := N_lval) (sc := defScope s_lval) (own := [("number", 5)]) (by decide +kernel)) own_name (fun _ _ _ _ _ => pg_own1 S.nd rfl (Or.inl rfl) (Or.inr rfl)) (fun _ _ _ _ _ => dts_one (dt_cp cd_le (dv 5) (dv 3))) (fun _ _ _ _ _ => (de_ix I.u1 (dv 2) (de_sub (dv 3) (dv 5))))))
      (dss_one (ds_set 2 S.nd (de_add (dv 2) (de_lst (da_cons (de_ix I.u1 (de_lc (own := [("value", 6)]) (by rfl) S.nd (di_range1 (by rfl) (E.fr "range" m_free_range) (da_cons (de_add (de_blt bd_len (by rfl) (E.fr "len" m_free_len) boot_len (da_cons (dv 4) da_nil)) de_int) da_nil)) (blk_by (N := N_lval) (sc := defScope s_lval) (own := [("value", 6)]) (by decide +kernel)) own_name (fun _ _ _ _ _ => pg_own1 S.nd rfl (Or.inl rfl) (Or.inr rfl)) (fun _ _ _ _ _ => dts_one (dt_cp (cd_notIn I.u1) (dv 6) (dv 4))) (fun _ _ _ _ _ => (dv 6))) de_int) da_nil)))))))
      (dss_one (ds_ret (dv 2)))))
theorem bn_lval (kV doc pm : Value) (an : Option Addr) (cdv ct : Value) (us : List Value) (h : us.length = (["numbers", "most"] : List Str).length) : bindArgs (PySem.W.fnOf d_lval.name d_lval.qual d_lval.params d_lval.body d_lval.scope .none kV doc pm an cdv ct) ⟨us, []⟩ = pure ((["numbers", "most"] : List Str).zip us) := match us, h with | [_, _], _ => rfl
theorem tm_lopt (E : M K mg base) {k : Nat} {f : Addr} {A : Around} {outer : List Env} {s : Shared} {H : Hp} {Ex : XK} (I : InBody (bodyX P w K mg base N_lopt "_law_options" (defScope s_lopt) f (He.codeOf K ("_law_options", none)) A outer s H Ex) (wE Ex) k) :
    DSs (bodyX P w K mg base N_lopt "_law_options" (defScope s_lopt) f (He.codeOf K ("_law_options", none)) A outer s H Ex) (tsOf tf K) (wE Ex) (defBody s_lopt) (t_lopt) :=
    have S := sc_lopt
    (dss_cons (ds_set 2 S.nd (de_lst da_nil))
      (dss_cons (ds_for I.po (by rfl) (di_enum (by rfl) (E.fr "enumerate" m_free_enumerate) (da_cons (dv 0) da_nil)) (dg_tup (by rfl) (dgs_cons (dg_name 3 S.nd) (dgs_cons (dg_name 4 S.nd) dgs_end)) (lenIs_cons hm_name (lenIs_cons hm_name lenIs_end)))
      (dss_cons (ds_set 5 S.nd (de_sub (de_sub (dv 1) (dv 3)) de_int))
      (dss_cons (ds_if (dt_w (dw_and (dt_cp (cd_eq I.u64) (dv 5) de_int) (dw_and1 (dt_cp (cd_in I.u1) (dv 4) (de_lst (da_cons de_int (da_cons de_int (da_cons de_int (da_cons de_int da_nil)))))))))
      (dss_one (ds_set 2 S.nd (de_add (dv 2) (de_lst (da_cons (de_tup da_nil) da_nil))))) dss_nil)
      (dss_cons (ds_if (dt_w (dw_and (dt_cp cd_gt (dv 5) de_int) (dw_and1 (dt_cp (cd_in I.u1) (dv 4) (de_lst (da_cons de_int (da_cons de_int (da_cons de_int (da_cons de_int da_nil)))))))))
      (dss_one (ds_set 2 S.nd (de_add (dv 2) (de_lst (da_cons (de_tup (da_cons (dv 5) da_nil)) da_nil))))) dss_nil)
      (dss_one (ds_if (dt_w (dw_and (dt_cp cd_gt (dv 5) de_int) (dw_and1 (dt_cp cd_ge (dv 4) de_int))))
      (dss_one (ds_set 2 S.nd (de_add (dv 2) (de_lc (own := [("one", 6)]) (by rfl) S.nd (di_range2 (by rfl) (E.fr "range" m_free_range) (da_cons de_int (da_cons (dv 5) da_nil))) (blk_by (N := N_lopt) (sc := defScope s_lopt) (own := [("one", 6)]) (by decide +kernel)) own_name (fun _ _ _ _ _ => pg_own1 S.nd rfl (Or.inl rfl) (Or.inr rfl)) (fun _ _ _ _ _ => dts_one (dt_cp cd_le (dv 6) (de_sub (dv 5) (dv 6)))) (fun _ _ _ _ _ => (de_tup (da_cons (dv 6) (da_cons (de_sub (dv 5) (dv 6)) da_nil)))))))) dss_nil))))))
      (dss_one (ds_ret (de_blt (bd_sortedDT (by rfl) I.u8) (by rfl) (E.fr "sorted" m_free_sorted) boot_sorted (da_cons (de_bty (bd_dictPT (by rfl) I.u8) (by rfl) (E.fr "dict" m_free_dict) boot_dict (da_cons (de_lc (own := [("row", 7)]) (by rfl) S.nd (di_seq (dv 2)) (blk_by (N := N_lopt) (sc := defScope s_lopt) (own := [("row", 7)]) (by decide +kernel)) own_name (fun _ _ _ _ _ => pg_own1 S.nd rfl (Or.inl rfl) (Or.inr rfl)) (fun _ _ _ _ _ => dts_no) (fun _ _ _ _ _ => (de_tup (da_cons (dv 7) (da_cons de_int da_nil))))) da_nil)) da_nil))))))
theorem bn_lopt (kV doc pm : Value) (an : Option Addr) (cdv ct : Value) (us : List Value) (h : us.length = (["figures", "heap"] : List Str).length) : bindArgs (PySem.W.fnOf d_lopt.name d_lopt.qual d_lopt.params d_lopt.body d_lopt.scope .none kV doc pm an cdv ct) ⟨us, []⟩ = pure ((["figures", "heap"] : List Str).zip us) := match us, h with | [_, _], _ => rfl
theorem tm_lwor (E : M K mg base) {k : Nat} {l_lopt : Nat} {sp_lopt : SpD} (G_lopt : FnA P w K mg base (tsOf tf K) "_law_options" ["figures", "heap"] l_lopt sp_lopt) (h_lopt : l_lopt ≤ k) {f : Addr} {A : Around} {outer : List Env} {s : Shared} {H : Hp} {Ex : XK} (I : InBody (bodyX P w K mg base N_lwor "_law_worths" (defScope s_lwor) f (He.codeOf K ("_law_worths", none)) A outer s H Ex) (wE Ex) k) :
    DSs (bodyX P w K mg base N_lwor "_law_worths" (defScope s_lwor) f (He.codeOf K ("_law_worths", none)) A outer s H Ex) (tsOf tf K) (wE Ex) (defBody s_lwor) (t_lwor sp_lopt) :=
    have S := sc_lwor
    (dss_cons (ds_set 2 S.nd (de_lst da_nil))
      (dss_cons (ds_for I.po (by rfl) (di_range1 (by rfl) (E.fr "range" m_free_range) (da_cons (de_add (dv 1) de_int) da_nil)) (dg_name 3 S.nd)
      (dss_cons (ds_set 4 S.nd (de_lst da_nil))
      (dss_cons (ds_for I.po (by rfl) (di_seq (de_callA G_lopt (I.rm h_lopt) I.tk (da_cons (dv 0) (da_cons (dv 3) da_nil)))) (dg_name 5 S.nd)
      (dss_one (ds_set 4 S.nd (de_add (dv 4) (de_lst (da_cons (de_if (dt_cp (cd_eq I.u64) (de_blt bd_len (by rfl) (E.fr "len" m_free_len) boot_len (da_cons (dv 5) da_nil)) de_int) (de_xor (de_ix I.u1 (dv 2) (de_ix I.u1 (dv 5) de_int)) (de_ix I.u1 (dv 2) (de_ix I.u1 (dv 5) de_int))) (de_if (dt_cp (cd_eq I.u64) (de_blt bd_len (by rfl) (E.fr "len" m_free_len) boot_len (da_cons (dv 5) da_nil)) de_int) (de_ix I.u1 (dv 2) (de_ix I.u1 (dv 5) de_int)) de_int)) da_nil))))))
      (dss_one (ds_set 2 S.nd (de_add (dv 2) (de_lst (da_cons (de_ix I.u1 (de_lc (own := [("value", 6)]) (by rfl) S.nd (di_range1 (by rfl) (E.fr "range" m_free_range) (da_cons (de_add (de_blt bd_len (by rfl) (E.fr "len" m_free_len) boot_len (da_cons (dv 4) da_nil)) de_int) da_nil)) (blk_by (N := N_lwor) (sc := defScope s_lwor) (own := [("value", 6)]) (by decide +kernel)) own_name (fun _ _ _ _ _ => pg_own1 S.nd rfl (Or.inl rfl) (Or.inr rfl)) (fun _ _ _ _ _ => dts_one (dt_cp (cd_notIn I.u1) (dv 6) (dv 4))) (fun _ _ _ _ _ => (dv 6))) de_int) da_nil))))))))
      (dss_one (ds_ret (dv 2)))))
theorem bn_lwor (kV doc pm : Value) (an : Option Addr) (cdv ct : Value) (us : List Value) (h : us.length = (["figures", "most"] : List Str).length) : bindArgs (PySem.W.fnOf d_lwor.name d_lwor.qual d_lwor.params d_lwor.body d_lwor.scope .none kV doc pm an cdv ct) ⟨us, []⟩ = pure ((["figures", "most"] : List Str).zip us) := match us, h with | [_, _], _ => rfl
theorem tm_lwins (E : M K mg base) {k : Nat} {l_lwins : Nat} {sp_lwins : SpD} (G_lwins : FnA P w K mg base (tsOf tf K) "_law_wins" ["numbers", "heaps", "seen"] l_lwins sp_lwins) (h_lwins : l_lwins ≤ k) {f : Addr} {A : Around} {outer : List Env} {s : Shared} {H : Hp} {Ex : XK} (I : InBody (bodyX P w K mg base N_lwins "_law_wins" (defScope s_lwins) f (He.codeOf K ("_law_wins", none)) A outer s H Ex) (wE Ex) k) :
    DSs (bodyX P w K mg base N_lwins "_law_wins" (defScope s_lwins) f (He.codeOf K ("_law_wins", none)) A outer s H Ex) (tsOf tf K) (wE Ex) (defBody s_lwins) (t_lwins sp_lwins) :=
    have S := sc_lwins
    (dss_cons (ds_set 1 S.nd (de_bty bd_tuple (by rfl) (E.fr "tuple" m_free_tuple) boot_tuple (da_cons (de_blt bd_sortedS (by rfl) (E.fr "sorted" m_free_sorted) boot_sorted (da_cons (dv 1) da_nil)) da_nil)))
      (dss_cons (ds_if (dt_cp (cd_notIn I.u1) (dv 1) (dv 2))
      (dss_cons (ds_set 3 S.nd de_bl)
      (dss_cons (ds_for I.po (by rfl) (di_enum (by rfl) (E.fr "enumerate" m_free_enumerate) (da_cons (dv 1) da_nil)) (dg_tup (by rfl) (dgs_cons (dg_name 4 S.nd) (dgs_cons (dg_name 5 S.nd) dgs_end)) (lenIs_cons hm_name (lenIs_cons hm_name lenIs_end)))
      (dss_one (ds_for I.po (by rfl) (di_seq (dv 0)) (dg_name 6 S.nd)
      (dss_one (ds_set 3 S.nd (de_or (dv 3) (de_one (de_and (de_cp cd_le (dv 6) (dv 5)) (de_one (de_not (de_callA G_lwins (I.rm h_lwins) I.tk (da_cons (dv 0) (da_cons (de_add (de_add (de_slice (dv 1) do_none (do_some (dv 4))) (de_tup (da_cons (de_sub (dv 5) (dv 6)) da_nil))) (de_slice (dv 1) (do_some (de_add (dv 4) de_int)) do_none)) (da_cons (dv 2) da_nil))))))))))))))
      (dss_one (ds_asg (dv 3) (dg_sub (W := W0) I.u1 (dv 2) (dv 1)))))) dss_nil)
      (dss_one (ds_ret (de_ix I.u1 (dv 2) (dv 1))))))
theorem bn_lwins (kV doc pm : Value) (an : Option Addr) (cdv ct : Value) (us : List Value) (h : us.length = (["numbers", "heaps", "seen"] : List Str).length) : bindArgs (PySem.W.fnOf d_lwins.name d_lwins.qual d_lwins.params d_lwins.body d_lwins.scope .none kV doc pm an cdv ct) ⟨us, []⟩ = pure ((["numbers", "heaps", "seen"] : List Str).zip us) := match us, h with | [_, _, _], _ => rfl
theorem tm_lplain (E : M K mg base) {k : Nat} {l_Tr : Nat} {l_Ti : Nat} {l_Cw : Nat} {l_mex : Nat} {l_Tm : Nat} {l_Cr : Nat} {l_ltold : Nat} {l_cof : Nat} {l_Co : Nat} {l_Ci : Nat} {l_call : Nat} {l_Tw : Nat} {sp_Tr : SpD} {sp_Ti : SpD} {sp_Cw : SpD} {sp_mex : SpD} {sp_Tm : SpD} {sp_Cr : SpD} {sp_ltold : Heap → SpD} {sp_cof : SpD} {sp_Co : SpD} {sp_Ci : SpD} {sp_call : SpD} {sp_Tw : SpD} {k_lam : Nat} {sl1 : List D → Bx → DK → XD → Prop} {sl2 : List D → Bx → DK → XD → Prop} {sl3 : List D → Bx → DK → XD → Prop} {sl4 : List D → Bx → DK → XD → Prop} {sl5 : List D → Bx → DK → XD → Prop} {sl6 : List D → Bx → DK → XD → Prop} {sl7 : List D → Bx → DK → XD → Prop} {sl8 : List D → Bx → DK → XD → Prop} {sl9 : List D → Bx → DK → XD → Prop} {sl10 : List D → Bx → DK → XD → Prop} {sl11 : List D → Bx → DK → XD → Prop} {sl12 : List D → Bx → DK → XD → Prop} {sl13 : List D → Bx → DK → XD → Prop} {sl14 : List D → Bx → DK → XD → Prop} {sl15 : List D → Bx → DK → XD → Prop} {sl16 : List D → Bx → DK → XD → Prop} {sl17 : List D → Bx → DK → XD → Prop} {sl18 : List D → Bx → DK → XD → Prop} {sl19 : List D → Bx → DK → XD → Prop} {sl20 : List D → Bx → DK → XD → Prop} {sl21 : List D → Bx → DK → XD → Prop} {sl22 : List D → Bx → DK → XD → Prop} {sl23 : List D → Bx → DK → XD → Prop} {sl24 : List D → Bx → DK → XD → Prop} {sl25 : List D → Bx → DK → XD → Prop} (G_Tr : ∀ b', Up base b' → FnM P w K mg b' (tsOf tf K) (He.ga K "Taking") "repeats" ["self"] l_Tr sp_Tr) (h_Tr : l_Tr ≤ k) (G_Ti : ∀ b', Up base b' → FnI P w K mg b' (tsOf tf K) "Taking" (He.ga K "Taking") ["self", "numbers"] l_Ti sp_Ti) (h_Ti : l_Ti + 1 ≤ k) (hk_Ti : l_Ti + 1 ≤ k_lam) (G_Cw : ∀ b', Up base b' → FnM P w K mg b' (tsOf tf K) (He.ga K "Code") "worths" ["self", "most"] l_Cw sp_Cw) (h_Cw : l_Cw ≤ k) (hk_Cw : l_Cw ≤ k_lam) (G_mex : ∀ b', Up base b' → FnA P w K mg b' (tsOf tf K) "mex" ["numbers"] l_mex sp_mex) (h_mex : l_mex ≤ k) (G_Tm : ∀ b', Up base b' → FnM P w K mg b' (tsOf tf K) (He.ga K "Taking") "moves" ["self", "heaps"] l_Tm sp_Tm) (h_Tm : l_Tm ≤ k) (hk_Tm : l_Tm ≤ k_lam) (G_Cr : ∀ b', Up base b' → FnM P w K mg b' (tsOf tf K) (He.ga K "Code") "reply" ["self", "heaps"] l_Cr sp_Cr) (h_Cr : l_Cr ≤ k) (hk_Cr : l_Cr ≤ k_lam) (G_ltold : ∀ b', Up base b' → FnA P w K mg b' (tsOf tf K) "_law_told" ["what"] l_ltold (sp_ltold b')) (h_ltold : l_ltold ≤ k) (G_cof : ∀ b', Up base b' → FnA P w K mg b' (tsOf tf K) "code_of" ["text"] l_cof sp_cof) (h_cof : l_cof ≤ k) (hk_cof : l_cof ≤ k_lam) (G_Co : ∀ b', Up base b' → FnM P w K mg b' (tsOf tf K) (He.ga K "Code") "options" ["self", "heap"] l_Co sp_Co) (h_Co : l_Co ≤ k) (hk_Co : l_Co ≤ k_lam) (G_Ci : ∀ b', Up base b' → FnI P w K mg b' (tsOf tf K) "Code" (He.ga K "Code") ["self", "figures"] l_Ci sp_Ci) (h_Ci : l_Ci + 1 ≤ k) (hk_Ci : l_Ci + 1 ≤ k_lam) (G_call : ∀ b', Up base b' → FnA P w K mg b' (tsOf tf K) "check_all" ["heaps"] l_call sp_call) (h_call : l_call ≤ k) (hk_call : l_call ≤ k_lam) (G_Tw : ∀ b', Up base b' → FnM P w K mg b' (tsOf tf K) (He.ga K "Taking") "worths" ["self", "most"] l_Tw sp_Tw) (h_Tw : l_Tw ≤ k) (hk_Tw : l_Tw ≤ k_lam) (hl1 : ∀ ds B q x, sl1 ds B q x → tl1_lplain sp_cof (ds.map some) B q x) (hl2 : ∀ ds B q x, sl2 ds B q x → tl2_lplain sp_cof (ds.map some) B q x) (hl3 : ∀ ds B q x, sl3 ds B q x → tl3_lplain sp_cof (ds.map some) B q x) (hl4 : ∀ ds B q x, sl4 ds B q x → tl4_lplain sp_cof (ds.map some) B q x) (hl5 : ∀ ds B q x, sl5 ds B q x → tl5_lplain sp_Cr (He.ga K "Code") (ds.map some) B q x) (hl6 : ∀ ds B q x, sl6 ds B q x → tl6_lplain sp_Cw (He.ga K "Code") (ds.map some) B q x) (hl7 : ∀ ds B q x, sl7 ds B q x → tl7_lplain sp_Cw (He.ga K "Code") (ds.map some) B q x) (hl8 : ∀ ds B q x, sl8 ds B q x → tl8_lplain sp_Cr (He.ga K "Code") (ds.map some) B q x) (hl9 : ∀ ds B q x, sl9 ds B q x → tl9_lplain sp_Cr (He.ga K "Code") (ds.map some) B q x) (hl10 : ∀ ds B q x, sl10 ds B q x → tl10_lplain sp_Co (He.ga K "Code") (ds.map some) B q x) (hl11 : ∀ ds B q x, sl11 ds B q x → tl11_lplain sp_Co (He.ga K "Code") (ds.map some) B q x) (hl12 : ∀ ds B q x, sl12 ds B q x → tl12_lplain sp_Ci (He.ga K "Code") (ds.map some) B q x) (hl13 : ∀ ds B q x, sl13 ds B q x → tl13_lplain sp_Ci (He.ga K "Code") (ds.map some) B q x) (hl14 : ∀ ds B q x, sl14 ds B q x → tl14_lplain sp_Ci (He.ga K "Code") (ds.map some) B q x) (hl15 : ∀ ds B q x, sl15 ds B q x → tl15_lplain sp_Ci (He.ga K "Code") (ds.map some) B q x) (hl16 : ∀ ds B q x, sl16 ds B q x → tl16_lplain sp_call (ds.map some) B q x) (hl17 : ∀ ds B q x, sl17 ds B q x → tl17_lplain sp_Tm (He.ga K "Taking") (ds.map some) B q x) (hl18 : ∀ ds B q x, sl18 ds B q x → tl18_lplain sp_Tm (He.ga K "Taking") (ds.map some) B q x) (hl19 : ∀ ds B q x, sl19 ds B q x → tl19_lplain sp_Tw (He.ga K "Taking") (ds.map some) B q x) (hl20 : ∀ ds B q x, sl20 ds B q x → tl20_lplain sp_Tw (He.ga K "Taking") (ds.map some) B q x) (hl21 : ∀ ds B q x, sl21 ds B q x → tl21_lplain sp_Ti (He.ga K "Taking") (ds.map some) B q x) (hl22 : ∀ ds B q x, sl22 ds B q x → tl22_lplain sp_Ti (He.ga K "Taking") (ds.map some) B q x) (hl23 : ∀ ds B q x, sl23 ds B q x → tl23_lplain sp_Ti (He.ga K "Taking") (ds.map some) B q x) (hl24 : ∀ ds B q x, sl24 ds B q x → tl24_lplain sp_Ti (He.ga K "Taking") (ds.map some) B q x) (hl25 : ∀ ds B q x, sl25 ds B q x → tl25_lplain sp_Ti (He.ga K "Taking") (ds.map some) B q x) {f : Addr} {A : Around} {outer : List Env} {s : Shared} {H : Hp} {Ex : XK} (I : InBody (bodyX P w K mg base N_lplain "_law_plain" (defScope s_lplain) f (He.codeOf K ("_law_plain", none)) A outer s H Ex) (wE Ex) k) :
    DSs (bodyX P w K mg base N_lplain "_law_plain" (defScope s_lplain) f (He.codeOf K ("_law_plain", none)) A outer s H Ex) (tsOf tf K) (wE Ex) (defBody s_lplain) (t_lplain sp_Tr sp_Ti sp_Cw sp_mex sp_Tm sp_Cr sp_ltold sp_cof (He.ga K "Taking") (He.ga K "Code") base (CellD (bodyX P w K mg base N_lplain "_law_plain" (defScope s_lplain) f (He.codeOf K ("_law_plain", none)) A outer s H Ex).env.cells) (He.tabOf K (He.codeOf K ("_law_plain", none))) nm_lplain (LamP (CalAt P w K mg (tsOf tf K) (k_lam + 1)) base (CellD (bodyX P w K mg base N_lplain "_law_plain" (defScope s_lplain) f (He.codeOf K ("_law_plain", none)) A outer s H Ex).env.cells) [] sl1) (LamP (CalAt P w K mg (tsOf tf K) (k_lam + 1)) base (CellD (bodyX P w K mg base N_lplain "_law_plain" (defScope s_lplain) f (He.codeOf K ("_law_plain", none)) A outer s H Ex).env.cells) [] sl2) (LamP (CalAt P w K mg (tsOf tf K) (k_lam + 1)) base (CellD (bodyX P w K mg base N_lplain "_law_plain" (defScope s_lplain) f (He.codeOf K ("_law_plain", none)) A outer s H Ex).env.cells) [] sl3) (LamP (CalAt P w K mg (tsOf tf K) (k_lam + 1)) base (CellD (bodyX P w K mg base N_lplain "_law_plain" (defScope s_lplain) f (He.codeOf K ("_law_plain", none)) A outer s H Ex).env.cells) [] sl4) (LamP (CalAt P w K mg (tsOf tf K) (k_lam + 1)) base (CellD (bodyX P w K mg base N_lplain "_law_plain" (defScope s_lplain) f (He.codeOf K ("_law_plain", none)) A outer s H Ex).env.cells) ["kayles"] sl5) (LamP (CalAt P w K mg (tsOf tf K) (k_lam + 1)) base (CellD (bodyX P w K mg base N_lplain "_law_plain" (defScope s_lplain) f (He.codeOf K ("_law_plain", none)) A outer s H Ex).env.cells) ["kayles"] sl6) (LamP (CalAt P w K mg (tsOf tf K) (k_lam + 1)) base (CellD (bodyX P w K mg base N_lplain "_law_plain" (defScope s_lplain) f (He.codeOf K ("_law_plain", none)) A outer s H Ex).env.cells) ["kayles"] sl7) (LamP (CalAt P w K mg (tsOf tf K) (k_lam + 1)) base (CellD (bodyX P w K mg base N_lplain "_law_plain" (defScope s_lplain) f (He.codeOf K ("_law_plain", none)) A outer s H Ex).env.cells) ["kayles"] sl8) (LamP (CalAt P w K mg (tsOf tf K) (k_lam + 1)) base (CellD (bodyX P w K mg base N_lplain "_law_plain" (defScope s_lplain) f (He.codeOf K ("_law_plain", none)) A outer s H Ex).env.cells) ["kayles"] sl9) (LamP (CalAt P w K mg (tsOf tf K) (k_lam + 1)) base (CellD (bodyX P w K mg base N_lplain "_law_plain" (defScope s_lplain) f (He.codeOf K ("_law_plain", none)) A outer s H Ex).env.cells) ["kayles"] sl10) (LamP (CalAt P w K mg (tsOf tf K) (k_lam + 1)) base (CellD (bodyX P w K mg base N_lplain "_law_plain" (defScope s_lplain) f (He.codeOf K ("_law_plain", none)) A outer s H Ex).env.cells) ["kayles"] sl11) (LamP (CalAt P w K mg (tsOf tf K) (k_lam + 1)) base (CellD (bodyX P w K mg base N_lplain "_law_plain" (defScope s_lplain) f (He.codeOf K ("_law_plain", none)) A outer s H Ex).env.cells) [] sl12) (LamP (CalAt P w K mg (tsOf tf K) (k_lam + 1)) base (CellD (bodyX P w K mg base N_lplain "_law_plain" (defScope s_lplain) f (He.codeOf K ("_law_plain", none)) A outer s H Ex).env.cells) [] sl13) (LamP (CalAt P w K mg (tsOf tf K) (k_lam + 1)) base (CellD (bodyX P w K mg base N_lplain "_law_plain" (defScope s_lplain) f (He.codeOf K ("_law_plain", none)) A outer s H Ex).env.cells) [] sl14) (LamP (CalAt P w K mg (tsOf tf K) (k_lam + 1)) base (CellD (bodyX P w K mg base N_lplain "_law_plain" (defScope s_lplain) f (He.codeOf K ("_law_plain", none)) A outer s H Ex).env.cells) [] sl15) (LamP (CalAt P w K mg (tsOf tf K) (k_lam + 1)) base (CellD (bodyX P w K mg base N_lplain "_law_plain" (defScope s_lplain) f (He.codeOf K ("_law_plain", none)) A outer s H Ex).env.cells) [] sl16) (LamP (CalAt P w K mg (tsOf tf K) (k_lam + 1)) base (CellD (bodyX P w K mg base N_lplain "_law_plain" (defScope s_lplain) f (He.codeOf K ("_law_plain", none)) A outer s H Ex).env.cells) ["one"] sl17) (LamP (CalAt P w K mg (tsOf tf K) (k_lam + 1)) base (CellD (bodyX P w K mg base N_lplain "_law_plain" (defScope s_lplain) f (He.codeOf K ("_law_plain", none)) A outer s H Ex).env.cells) ["one"] sl18) (LamP (CalAt P w K mg (tsOf tf K) (k_lam + 1)) base (CellD (bodyX P w K mg base N_lplain "_law_plain" (defScope s_lplain) f (He.codeOf K ("_law_plain", none)) A outer s H Ex).env.cells) ["one"] sl19) (LamP (CalAt P w K mg (tsOf tf K) (k_lam + 1)) base (CellD (bodyX P w K mg base N_lplain "_law_plain" (defScope s_lplain) f (He.codeOf K ("_law_plain", none)) A outer s H Ex).env.cells) ["one"] sl20) (LamP (CalAt P w K mg (tsOf tf K) (k_lam + 1)) base (CellD (bodyX P w K mg base N_lplain "_law_plain" (defScope s_lplain) f (He.codeOf K ("_law_plain", none)) A outer s H Ex).env.cells) [] sl21) (LamP (CalAt P w K mg (tsOf tf K) (k_lam + 1)) base (CellD (bodyX P w K mg base N_lplain "_law_plain" (defScope s_lplain) f (He.codeOf K ("_law_plain", none)) A outer s H Ex).env.cells) [] sl22) (LamP (CalAt P w K mg (tsOf tf K) (k_lam + 1)) base (CellD (bodyX P w K mg base N_lplain "_law_plain" (defScope s_lplain) f (He.codeOf K ("_law_plain", none)) A outer s H Ex).env.cells) [] sl23) (LamP (CalAt P w K mg (tsOf tf K) (k_lam + 1)) base (CellD (bodyX P w K mg base N_lplain "_law_plain" (defScope s_lplain) f (He.codeOf K ("_law_plain", none)) A outer s H Ex).env.cells) [] sl24) (LamP (CalAt P w K mg (tsOf tf K) (k_lam + 1)) base (CellD (bodyX P w K mg base N_lplain "_law_plain" (defScope s_lplain) f (He.codeOf K ("_law_plain", none)) A outer s H Ex).env.cells) [] sl25)) :=
    have S := sc_lplain
    (dss_cons (ds_asg (de_tup (da_cons (de_make (G_Ti base (fun _ _ z => z)) (I.rm h_Ti) I.tk (da_cons (de_lst (da_cons de_int da_nil)) da_nil)) (da_cons (de_callA (G_cof base (fun _ _ z => z)) (I.rm h_cof) I.tk (da_cons de_str da_nil)) da_nil))) (dg_tup (by rfl) (dgs_cons (dg_name 0 S.nd) (dgs_cons (dg_name 1 S.nd) dgs_end)) (lenIs_cons hm_name (lenIs_cons hm_name lenIs_end))))
      (dss_cons (ds_set 2 S.nd (de_lst (da_cons (de_lamC (N := []) (E.L _ ml_lplain) (lamN_by (names := (defScope s_lplain).names) (N := []) (by decide +kernel)) (fun cl f c2 pm ctv F CL hF hC b hb ds hl hz => cal_ofC (k := k_lam) (sp := sl25 ds) (names := (defScope s_lplain).names) (N := []) hF hC (lamN_by (by decide +kernel)) CL hz hl (fun _ _ _ => rfl) (fun A outer s H Ex I => have E := E.up hb; ⟨(tl25_lplain sp_Ti (He.ga K "Taking")), (de_make (G_Ti b hb) (I.rm hk_Ti) I.tk (da_cons (de_lst da_nil) da_nil)), hl25 ds⟩))) (da_cons (de_lamC (N := []) (E.L _ ml_lplain) (lamN_by (names := (defScope s_lplain).names) (N := []) (by decide +kernel)) (fun cl f c2 pm ctv F CL hF hC b hb ds hl hz => cal_ofC (k := k_lam) (sp := sl24 ds) (names := (defScope s_lplain).names) (N := []) hF hC (lamN_by (by decide +kernel)) CL hz hl (fun _ _ _ => rfl) (fun A outer s H Ex I => have E := E.up hb; ⟨(tl24_lplain sp_Ti (He.ga K "Taking")), (de_make (G_Ti b hb) (I.rm hk_Ti) I.tk (da_cons (de_lst (da_cons de_int da_nil)) da_nil)), hl24 ds⟩))) (da_cons (de_lamC (N := []) (E.L _ ml_lplain) (lamN_by (names := (defScope s_lplain).names) (N := []) (by decide +kernel)) (fun cl f c2 pm ctv F CL hF hC b hb ds hl hz => cal_ofC (k := k_lam) (sp := sl23 ds) (names := (defScope s_lplain).names) (N := []) hF hC (lamN_by (by decide +kernel)) CL hz hl (fun _ _ _ => rfl) (fun A outer s H Ex I => have E := E.up hb; ⟨(tl23_lplain sp_Ti (He.ga K "Taking")), (de_make (G_Ti b hb) (I.rm hk_Ti) I.tk (da_cons (de_lst (da_cons de_int da_nil)) da_nil)), hl23 ds⟩))) (da_cons (de_lamC (N := []) (E.L _ ml_lplain) (lamN_by (names := (defScope s_lplain).names) (N := []) (by decide +kernel)) (fun cl f c2 pm ctv F CL hF hC b hb ds hl hz => cal_ofC (k := k_lam) (sp := sl22 ds) (names := (defScope s_lplain).names) (N := []) hF hC (lamN_by (by decide +kernel)) CL hz hl (fun _ _ _ => rfl) (fun A outer s H Ex I => have E := E.up hb; ⟨(tl22_lplain sp_Ti (He.ga K "Taking")), (de_make (G_Ti b hb) (I.rm hk_Ti) I.tk (da_cons (de_lst (da_cons de_int (da_cons de_int da_nil))) da_nil)), hl22 ds⟩))) (da_cons (de_lamC (N := []) (E.L _ ml_lplain) (lamN_by (names := (defScope s_lplain).names) (N := []) (by decide +kernel)) (fun cl f c2 pm ctv F CL hF hC b hb ds hl hz => cal_ofC (k := k_lam) (sp := sl21 ds) (names := (defScope s_lplain).names) (N := []) hF hC (lamN_by (by decide +kernel)) CL hz hl (fun _ _ _ => rfl) (fun A outer s H Ex I => have E := E.up hb; ⟨(tl21_lplain sp_Ti (He.ga K "Taking")), (de_make (G_Ti b hb) (I.rm hk_Ti) I.tk (da_cons (de_listRg2 (by rfl) (E.fr "list" m_free_list) (E.fr "range" m_free_range) de_int de_int) da_nil)), hl21 ds⟩))) (da_cons (de_lamC (N := ["one"]) (E.L _ ml_lplain) (lamN_by (names := (defScope s_lplain).names) (N := ["one"]) (by decide +kernel)) (fun cl f c2 pm ctv F CL hF hC b hb ds hl hz => cal_ofC (k := k_lam) (sp := sl20 ds) (names := (defScope s_lplain).names) (N := ["one"]) hF hC (lamN_by (by decide +kernel)) CL hz hl (fun _ _ _ => rfl) (fun A outer s H Ex I => have E := E.up hb; ⟨(tl20_lplain sp_Tw (He.ga K "Taking")), (de_meth (G_Tw b hb) (I.rm hk_Tw) I.tk (dv 0) (da_cons de_int da_nil)), hl20 ds⟩))) (da_cons (de_lamC (N := ["one"]) (E.L _ ml_lplain) (lamN_by (names := (defScope s_lplain).names) (N := ["one"]) (by decide +kernel)) (fun cl f c2 pm ctv F CL hF hC b hb ds hl hz => cal_ofC (k := k_lam) (sp := sl19 ds) (names := (defScope s_lplain).names) (N := ["one"]) hF hC (lamN_by (by decide +kernel)) CL hz hl (fun _ _ _ => rfl) (fun A outer s H Ex I => have E := E.up hb; ⟨(tl19_lplain sp_Tw (He.ga K "Taking")), (de_meth (G_Tw b hb) (I.rm hk_Tw) I.tk (dv 0) (da_cons (de_neg de_int) da_nil)), hl19 ds⟩))) (da_cons (de_lamC (N := ["one"]) (E.L _ ml_lplain) (lamN_by (names := (defScope s_lplain).names) (N := ["one"]) (by decide +kernel)) (fun cl f c2 pm ctv F CL hF hC b hb ds hl hz => cal_ofC (k := k_lam) (sp := sl18 ds) (names := (defScope s_lplain).names) (N := ["one"]) hF hC (lamN_by (by decide +kernel)) CL hz hl (fun _ _ _ => rfl) (fun A outer s H Ex I => have E := E.up hb; ⟨(tl18_lplain sp_Tm (He.ga K "Taking")), (de_meth (G_Tm b hb) (I.rm hk_Tm) I.tk (dv 0) (da_cons (de_lst (da_cons de_int da_nil)) da_nil)), hl18 ds⟩))) (da_cons (de_lamC (N := ["one"]) (E.L _ ml_lplain) (lamN_by (names := (defScope s_lplain).names) (N := ["one"]) (by decide +kernel)) (fun cl f c2 pm ctv F CL hF hC b hb ds hl hz => cal_ofC (k := k_lam) (sp := sl17 ds) (names := (defScope s_lplain).names) (N := ["one"]) hF hC (lamN_by (by decide +kernel)) CL hz hl (fun _ _ _ => rfl) (fun A outer s H Ex I => have E := E.up hb; ⟨(tl17_lplain sp_Tm (He.ga K "Taking")), (de_meth (G_Tm b hb) (I.rm hk_Tm) I.tk (dv 0) (da_cons (de_mul (de_lst (da_cons de_int da_nil)) de_int) da_nil)), hl17 ds⟩))) (da_cons (de_lamC (N := []) (E.L _ ml_lplain) (lamN_by (names := (defScope s_lplain).names) (N := []) (by decide +kernel)) (fun cl f c2 pm ctv F CL hF hC b hb ds hl hz => cal_ofC (k := k_lam) (sp := sl16 ds) (names := (defScope s_lplain).names) (N := []) hF hC (lamN_by (by decide +kernel)) CL hz hl (fun _ _ _ => rfl) (fun A outer s H Ex I => have E := E.up hb; ⟨(tl16_lplain sp_call), (de_callA (G_call b hb) (I.rm hk_call) I.tk (da_cons (de_lst (da_cons (de_neg de_int) da_nil)) da_nil)), hl16 ds⟩))) (da_cons (de_lamC (N := []) (E.L _ ml_lplain) (lamN_by (names := (defScope s_lplain).names) (N := []) (by decide +kernel)) (fun cl f c2 pm ctv F CL hF hC b hb ds hl hz => cal_ofC (k := k_lam) (sp := sl15 ds) (names := (defScope s_lplain).names) (N := []) hF hC (lamN_by (by decide +kernel)) CL hz hl (fun _ _ _ => rfl) (fun A outer s H Ex I => have E := E.up hb; ⟨(tl15_lplain sp_Ci (He.ga K "Code")), (de_make (G_Ci b hb) (I.rm hk_Ci) I.tk (da_cons (de_lst da_nil) da_nil)), hl15 ds⟩))) (da_cons (de_lamC (N := []) (E.L _ ml_lplain) (lamN_by (names := (defScope s_lplain).names) (N := []) (by decide +kernel)) (fun cl f c2 pm ctv F CL hF hC b hb ds hl hz => cal_ofC (k := k_lam) (sp := sl14 ds) (names := (defScope s_lplain).names) (N := []) hF hC (lamN_by (by decide +kernel)) CL hz hl (fun _ _ _ => rfl) (fun A outer s H Ex I => have E := E.up hb; ⟨(tl14_lplain sp_Ci (He.ga K "Code")), (de_make (G_Ci b hb) (I.rm hk_Ci) I.tk (da_cons (de_lst (da_cons de_int da_nil)) da_nil)), hl14 ds⟩))) (da_cons (de_lamC (N := []) (E.L _ ml_lplain) (lamN_by (names := (defScope s_lplain).names) (N := []) (by decide +kernel)) (fun cl f c2 pm ctv F CL hF hC b hb ds hl hz => cal_ofC (k := k_lam) (sp := sl13 ds) (names := (defScope s_lplain).names) (N := []) hF hC (lamN_by (by decide +kernel)) CL hz hl (fun _ _ _ => rfl) (fun A outer s H Ex I => have E := E.up hb; ⟨(tl13_lplain sp_Ci (He.ga K "Code")), (de_make (G_Ci b hb) (I.rm hk_Ci) I.tk (da_cons (de_lst (da_cons de_int (da_cons de_int da_nil))) da_nil)), hl13 ds⟩))) (da_cons (de_lamC (N := []) (E.L _ ml_lplain) (lamN_by (names := (defScope s_lplain).names) (N := []) (by decide +kernel)) (fun cl f c2 pm ctv F CL hF hC b hb ds hl hz => cal_ofC (k := k_lam) (sp := sl12 ds) (names := (defScope s_lplain).names) (N := []) hF hC (lamN_by (by decide +kernel)) CL hz hl (fun _ _ _ => rfl) (fun A outer s H Ex I => have E := E.up hb; ⟨(tl12_lplain sp_Ci (He.ga K "Code")), (de_make (G_Ci b hb) (I.rm hk_Ci) I.tk (da_cons (de_mul (de_lst (da_cons de_int da_nil)) de_int) da_nil)), hl12 ds⟩))) (da_cons (de_lamC (N := ["kayles"]) (E.L _ ml_lplain) (lamN_by (names := (defScope s_lplain).names) (N := ["kayles"]) (by decide +kernel)) (fun cl f c2 pm ctv F CL hF hC b hb ds hl hz => cal_ofC (k := k_lam) (sp := sl11 ds) (names := (defScope s_lplain).names) (N := ["kayles"]) hF hC (lamN_by (by decide +kernel)) CL hz hl (fun _ _ _ => rfl) (fun A outer s H Ex I => have E := E.up hb; ⟨(tl11_lplain sp_Co (He.ga K "Code")), (de_meth (G_Co b hb) (I.rm hk_Co) I.tk (dv 0) (da_cons (de_neg de_int) da_nil)), hl11 ds⟩))) (da_cons (de_lamC (N := ["kayles"]) (E.L _ ml_lplain) (lamN_by (names := (defScope s_lplain).names) (N := ["kayles"]) (by decide +kernel)) (fun cl f c2 pm ctv F CL hF hC b hb ds hl hz => cal_ofC (k := k_lam) (sp := sl10 ds) (names := (defScope s_lplain).names) (N := ["kayles"]) hF hC (lamN_by (by decide +kernel)) CL hz hl (fun _ _ _ => rfl) (fun A outer s H Ex I => have E := E.up hb; ⟨(tl10_lplain sp_Co (He.ga K "Code")), (de_meth (G_Co b hb) (I.rm hk_Co) I.tk (dv 0) (da_cons de_int da_nil)), hl10 ds⟩))) (da_cons (de_lamC (N := ["kayles"]) (E.L _ ml_lplain) (lamN_by (names := (defScope s_lplain).names) (N := ["kayles"]) (by decide +kernel)) (fun cl f c2 pm ctv F CL hF hC b hb ds hl hz => cal_ofC (k := k_lam) (sp := sl9 ds) (names := (defScope s_lplain).names) (N := ["kayles"]) hF hC (lamN_by (by decide +kernel)) CL hz hl (fun _ _ _ => rfl) (fun A outer s H Ex I => have E := E.up hb; ⟨(tl9_lplain sp_Cr (He.ga K "Code")), (de_meth (G_Cr b hb) (I.rm hk_Cr) I.tk (dv 0) (da_cons (de_lst (da_cons (de_neg de_int) (da_cons de_int da_nil))) da_nil)), hl9 ds⟩))) (da_cons (de_lamC (N := ["kayles"]) (E.L _ ml_lplain) (lamN_by (names := (defScope s_lplain).names) (N := ["kayles"]) (by decide +kernel)) (fun cl f c2 pm ctv F CL hF hC b hb ds hl hz => cal_ofC (k := k_lam) (sp := sl8 ds) (names := (defScope s_lplain).names) (N := ["kayles"]) hF hC (lamN_by (by decide +kernel)) CL hz hl (fun _ _ _ => rfl) (fun A outer s H Ex I => have E := E.up hb; ⟨(tl8_lplain sp_Cr (He.ga K "Code")), (de_meth (G_Cr b hb) (I.rm hk_Cr) I.tk (dv 0) (da_cons (de_mul (de_lst (da_cons de_int da_nil)) de_int) da_nil)), hl8 ds⟩))) (da_cons (de_lamC (N := ["kayles"]) (E.L _ ml_lplain) (lamN_by (names := (defScope s_lplain).names) (N := ["kayles"]) (by decide +kernel)) (fun cl f c2 pm ctv F CL hF hC b hb ds hl hz => cal_ofC (k := k_lam) (sp := sl7 ds) (names := (defScope s_lplain).names) (N := ["kayles"]) hF hC (lamN_by (by decide +kernel)) CL hz hl (fun _ _ _ => rfl) (fun A outer s H Ex I => have E := E.up hb; ⟨(tl7_lplain sp_Cw (He.ga K "Code")), (de_meth (G_Cw b hb) (I.rm hk_Cw) I.tk (dv 0) (da_cons de_int da_nil)), hl7 ds⟩))) (da_cons (de_lamC (N := ["kayles"]) (E.L _ ml_lplain) (lamN_by (names := (defScope s_lplain).names) (N := ["kayles"]) (by decide +kernel)) (fun cl f c2 pm ctv F CL hF hC b hb ds hl hz => cal_ofC (k := k_lam) (sp := sl6 ds) (names := (defScope s_lplain).names) (N := ["kayles"]) hF hC (lamN_by (by decide +kernel)) CL hz hl (fun _ _ _ => rfl) (fun A outer s H Ex I => have E := E.up hb; ⟨(tl6_lplain sp_Cw (He.ga K "Code")), (de_meth (G_Cw b hb) (I.rm hk_Cw) I.tk (dv 0) (da_cons (de_neg de_int) da_nil)), hl6 ds⟩))) (da_cons (de_lamC (N := ["kayles"]) (E.L _ ml_lplain) (lamN_by (names := (defScope s_lplain).names) (N := ["kayles"]) (by decide +kernel)) (fun cl f c2 pm ctv F CL hF hC b hb ds hl hz => cal_ofC (k := k_lam) (sp := sl5 ds) (names := (defScope s_lplain).names) (N := ["kayles"]) hF hC (lamN_by (by decide +kernel)) CL hz hl (fun _ _ _ => rfl) (fun A outer s H Ex I => have E := E.up hb; ⟨(tl5_lplain sp_Cr (He.ga K "Code")), (de_meth (G_Cr b hb) (I.rm hk_Cr) I.tk (dv 0) (da_cons (de_lst (da_cons de_int da_nil)) da_nil)), hl5 ds⟩))) (da_cons (de_lamC (N := []) (E.L _ ml_lplain) (lamN_by (names := (defScope s_lplain).names) (N := []) (by decide +kernel)) (fun cl f c2 pm ctv F CL hF hC b hb ds hl hz => cal_ofC (k := k_lam) (sp := sl4 ds) (names := (defScope s_lplain).names) (N := []) hF hC (lamN_by (by decide +kernel)) CL hz hl (fun _ _ _ => rfl) (fun A outer s H Ex I => have E := E.up hb; ⟨(tl4_lplain sp_cof), (de_callA (G_cof b hb) (I.rm hk_cof) I.tk (da_cons de_str da_nil)), hl4 ds⟩))) (da_cons (de_lamC (N := []) (E.L _ ml_lplain) (lamN_by (names := (defScope s_lplain).names) (N := []) (by decide +kernel)) (fun cl f c2 pm ctv F CL hF hC b hb ds hl hz => cal_ofC (k := k_lam) (sp := sl3 ds) (names := (defScope s_lplain).names) (N := []) hF hC (lamN_by (by decide +kernel)) CL hz hl (fun _ _ _ => rfl) (fun A outer s H Ex I => have E := E.up hb; ⟨(tl3_lplain sp_cof), (de_callA (G_cof b hb) (I.rm hk_cof) I.tk (da_cons de_str da_nil)), hl3 ds⟩))) (da_cons (de_lamC (N := []) (E.L _ ml_lplain) (lamN_by (names := (defScope s_lplain).names) (N := []) (by decide +kernel)) (fun cl f c2 pm ctv F CL hF hC b hb ds hl hz => cal_ofC (k := k_lam) (sp := sl2 ds) (names := (defScope s_lplain).names) (N := []) hF hC (lamN_by (by decide +kernel)) CL hz hl (fun _ _ _ => rfl) (fun A outer s H Ex I => have E := E.up hb; ⟨(tl2_lplain sp_cof), (de_callA (G_cof b hb) (I.rm hk_cof) I.tk (da_cons de_str da_nil)), hl2 ds⟩))) (da_cons (de_lamC (N := []) (E.L _ ml_lplain) (lamN_by (names := (defScope s_lplain).names) (N := []) (by decide +kernel)) (fun cl f c2 pm ctv F CL hF hC b hb ds hl hz => cal_ofC (k := k_lam) (sp := sl1 ds) (names := (defScope s_lplain).names) (N := []) hF hC (lamN_by (by decide +kernel)) CL hz hl (fun _ _ _ => rfl) (fun A outer s H Ex I => have E := E.up hb; ⟨(tl1_lplain sp_cof), (de_callA (G_cof b hb) (I.rm hk_cof) I.tk (da_cons de_str da_nil)), hl1 ds⟩))) da_nil)))))))))))))))))))))))))))
      (dss_cons (ds_if (dt_w (dw_or (dt_cp (cd_ne I.u64) (de_lcR (own := [("f", 3)]) (by rfl) S.nd (fun _ => rfl) (by decide +kernel : capsB N_lplain (defScope s_lplain).names [(0, "one"), (1, "kayles")] = true) (di_seq (dv 2)) (blk_by (N := N_lplain) (sc := defScope s_lplain) (own := [("f", 3)]) (by decide +kernel)) own_name (fun _ _ _ _ _ _ => pg_own1 S.nd rfl (Or.inl rfl) (Or.inr rfl)) (fun b _ _ _ _ _ hb => dts_one (dt_cp (cd_ne I.u64) (de_callA (G_ltold b hb) (I.rm h_ltold) takes0 (da_cons (dv 3) da_nil)) de_str)) (fun b _ _ _ _ _ hb => de_int)) (de_lst da_nil)) (dw_or1 (dt_cp (cd_ne I.u64) (de_gint (E.int "MOST_VALUES" 600 m_int_MOST_VALUES)) de_int))))
      (dss_one (ds_ret de_bl)) dss_nil)
      (dss_one (ds_ret (de_and (de_cp (cd_eq I.u64) (de_meth0 (G_Tr base (fun _ _ z => z)) (I.rm h_Tr) I.tk (dv 0)) (de_tup (da_cons de_int (da_cons de_int da_nil)))) (de_and (de_cp (cd_eq I.u64) (de_meth0 (G_Tr base (fun _ _ z => z)) (I.rm h_Tr) I.tk (de_make (G_Ti base (fun _ _ z => z)) (I.rm h_Ti) I.tk (da_cons (de_lst (da_cons de_int (da_cons de_int (da_cons de_int da_nil)))) da_nil))) (de_tup (da_cons de_int (da_cons de_int da_nil)))) (de_and (de_cp (cd_eq I.u64) (de_bty bd_list (by rfl) (E.fr "list" m_free_list) boot_list (da_cons (de_meth (G_Cw base (fun _ _ z => z)) (I.rm h_Cw) I.tk (dv 1) (da_cons de_int da_nil)) da_nil)) (de_lst (da_cons de_int (da_cons de_int (da_cons de_int (da_cons de_int (da_cons de_int (da_cons de_int (da_cons de_int (da_cons de_int (da_cons de_int (da_cons de_int (da_cons de_int (da_cons de_int (da_cons de_int da_nil))))))))))))))) (de_and (de_cp (cd_eq I.u64) (de_callA (G_mex base (fun _ _ z => z)) (I.rm h_mex) I.tk (da_cons (de_lst da_nil) da_nil)) de_int) (de_and (de_cp (cd_eq I.u64) (de_meth (G_Tm base (fun _ _ z => z)) (I.rm h_Tm) I.tk (dv 0) (da_cons (de_lst da_nil) da_nil)) (de_tup da_nil)) (de_and (de_cp cd_isN (de_meth (G_Cr base (fun _ _ z => z)) (I.rm h_Cr) I.tk (dv 1) (da_cons (de_lst da_nil) da_nil)) de_non) (de_one (de_cp (cd_eq I.u64) (de_meth0 (G_Tr base (fun _ _ z => z)) (I.rm h_Tr) I.tk (de_make (G_Ti base (fun _ _ z => z)) (I.rm h_Ti) I.tk (da_cons (de_lst (da_cons de_int (da_cons de_int (da_cons de_int da_nil)))) da_nil))) (de_tup (da_cons de_int (da_cons de_int da_nil))))))))))))))))
theorem bn_lplain (kV doc pm : Value) (an : Option Addr) (cdv ct : Value) (us : List Value) (h : us.length = ([] : List Str).length) : bindArgs (PySem.W.fnOf d_lplain.name d_lplain.qual d_lplain.params d_lplain.body d_lplain.scope .none kV doc pm an cdv ct) ⟨us, []⟩ = pure (([] : List Str).zip us) := match us, h with | [], _ => rfl
theorem tm_law (E : M K mg base) {k : Nat} {l_lrounds : Nat} {l_lroll : Nat} {l_Ti : Nat} {l_Tw : Nat} {l_lval : Nat} {l_lwins : Nat} {l_Tm : Nat} {l_call : Nat} {l_Tr : Nat} {l_Ci : Nat} {l_lwor : Nat} {l_Cw : Nat} {l_Co : Nat} {l_lopt : Nat} {l_Cr : Nat} {l_Ct : Nat} {l_cof : Nat} {l_mex : Nat} {l_lplain : Nat} {sp_lrounds : SpD} {sp_lroll : SpD} {sp_Ti : SpD} {sp_Tw : SpD} {sp_lval : SpD} {sp_lwins : SpD} {sp_Tm : SpD} {sp_call : SpD} {sp_Tr : SpD} {sp_Ci : SpD} {sp_lwor : SpD} {sp_Cw : SpD} {sp_Co : SpD} {sp_lopt : SpD} {sp_Cr : SpD} {sp_Ct : SpD} {sp_cof : SpD} {sp_mex : SpD} {sp_lplain : SpD} (G_lrounds : FnA P w K mg base (tsOf tf K) "_law_rounds" ["script", "most"] l_lrounds sp_lrounds) (h_lrounds : l_lrounds ≤ k) (G_lroll : FnA P w K mg base (tsOf tf K) "_law_roll" ["dice", "many"] l_lroll sp_lroll) (h_lroll : l_lroll ≤ k) (G_Ti : FnI P w K mg base (tsOf tf K) "Taking" (He.ga K "Taking") ["self", "numbers"] l_Ti sp_Ti) (h_Ti : l_Ti + 1 ≤ k) (G_Tw : FnM P w K mg base (tsOf tf K) (He.ga K "Taking") "worths" ["self", "most"] l_Tw sp_Tw) (h_Tw : l_Tw ≤ k) (G_lval : FnA P w K mg base (tsOf tf K) "_law_values" ["numbers", "most"] l_lval sp_lval) (h_lval : l_lval ≤ k) (G_lwins : FnA P w K mg base (tsOf tf K) "_law_wins" ["numbers", "heaps", "seen"] l_lwins sp_lwins) (h_lwins : l_lwins ≤ k) (G_Tm : FnM P w K mg base (tsOf tf K) (He.ga K "Taking") "moves" ["self", "heaps"] l_Tm sp_Tm) (h_Tm : l_Tm ≤ k) (G_call : FnA P w K mg base (tsOf tf K) "check_all" ["heaps"] l_call sp_call) (h_call : l_call ≤ k) (G_Tr : FnM P w K mg base (tsOf tf K) (He.ga K "Taking") "repeats" ["self"] l_Tr sp_Tr) (h_Tr : l_Tr ≤ k) (G_Ci : FnI P w K mg base (tsOf tf K) "Code" (He.ga K "Code") ["self", "figures"] l_Ci sp_Ci) (h_Ci : l_Ci + 1 ≤ k) (G_lwor : FnA P w K mg base (tsOf tf K) "_law_worths" ["figures", "most"] l_lwor sp_lwor) (h_lwor : l_lwor ≤ k) (G_Cw : FnM P w K mg base (tsOf tf K) (He.ga K "Code") "worths" ["self", "most"] l_Cw sp_Cw) (h_Cw : l_Cw ≤ k) (G_Co : FnM P w K mg base (tsOf tf K) (He.ga K "Code") "options" ["self", "heap"] l_Co sp_Co) (h_Co : l_Co ≤ k) (G_lopt : FnA P w K mg base (tsOf tf K) "_law_options" ["figures", "heap"] l_lopt sp_lopt) (h_lopt : l_lopt ≤ k) (G_Cr : FnM P w K mg base (tsOf tf K) (He.ga K "Code") "reply" ["self", "heaps"] l_Cr sp_Cr) (h_Cr : l_Cr ≤ k) (G_Ct : FnM P w K mg base (tsOf tf K) (He.ga K "Code") "text" ["self"] l_Ct sp_Ct) (h_Ct : l_Ct ≤ k) (G_cof : FnA P w K mg base (tsOf tf K) "code_of" ["text"] l_cof sp_cof) (h_cof : l_cof ≤ k) (G_mex : FnA P w K mg base (tsOf tf K) "mex" ["numbers"] l_mex sp_mex) (h_mex : l_mex ≤ k) (G_lplain : FnA P w K mg base (tsOf tf K) "_law_plain" [] l_lplain sp_lplain) (h_lplain : l_lplain ≤ k) {f : Addr} {A : Around} {outer : List Env} {s : Shared} {H : Hp} {Ex : XK} (I : InBody (bodyX P w K mg base N_law "law" (defScope s_law) f (He.codeOf K ("law", none)) A outer s H Ex) (wE Ex) k) :
    DSs (bodyX P w K mg base N_law "law" (defScope s_law) f (He.codeOf K ("law", none)) A outer s H Ex) (tsOf tf K) (wE Ex) (defBody s_law) (t_law sp_lrounds sp_lroll sp_Ti sp_Tw sp_lval sp_lwins sp_Tm sp_call sp_Tr sp_Ci sp_lwor sp_Cw sp_Co sp_lopt sp_Cr sp_Ct sp_cof sp_mex sp_lplain (He.ga K "Taking") (He.ga K "Code")) :=
    have S := sc_law
    (dss_cons (ds_for I.po (by rfl) (di_seq (de_callA G_lrounds (I.rm h_lrounds) I.tk (da_cons (dv 0) (da_cons de_int da_nil)))) (dg_name 1 S.nd)
      (dss_cons (ds_set 2 S.nd (de_blt (bd_sortedDI (by rfl)) (by rfl) (E.fr "sorted" m_free_sorted) boot_sorted (da_cons (de_bty (bd_dictP (by rfl)) (by rfl) (E.fr "dict" m_free_dict) boot_dict (da_cons (de_lc (own := [("k", 8)]) (by rfl) S.nd (di_range1 (by rfl) (E.fr "range" m_free_range) (da_cons (de_add de_int (de_callA G_lroll (I.rm h_lroll) I.tk (da_cons (dv 1) (da_cons de_int da_nil)))) da_nil)) (blk_by (N := N_law) (sc := defScope s_law) (own := [("k", 8)]) (by decide +kernel)) own_name (fun _ _ _ _ _ => pg_own1 S.nd rfl (Or.inl rfl) (Or.inr rfl)) (fun _ _ _ _ _ => dts_no) (fun _ _ _ _ _ => (de_tup (da_cons (de_add de_int (de_callA G_lroll (I.rm h_lroll) takes0 (da_cons (dv 1) (da_cons de_int da_nil)))) (da_cons de_int da_nil))))) da_nil)) da_nil)))
      (dss_cons (ds_asg (de_tup (da_cons (de_make G_Ti (I.rm h_Ti) I.tk (da_cons (dv 2) da_nil)) (da_cons (de_callA G_lroll (I.rm h_lroll) I.tk (da_cons (dv 1) (da_cons de_int da_nil))) (da_cons (de_lc (own := [("k", 8)]) (by rfl) S.nd (di_range1 (by rfl) (E.fr "range" m_free_range) (da_cons (de_callA G_lroll (I.rm h_lroll) I.tk (da_cons (dv 1) (da_cons de_int da_nil))) da_nil)) (blk_by (N := N_law) (sc := defScope s_law) (own := [("k", 8)]) (by decide +kernel)) own_name (fun _ _ _ _ _ => pg_own1 S.nd rfl (Or.inl rfl) (Or.inr rfl)) (fun _ _ _ _ _ => dts_no) (fun _ _ _ _ _ => (de_callA G_lroll (I.rm h_lroll) takes0 (da_cons (dv 1) (da_cons de_int da_nil))))) da_nil)))) (dg_tup (by rfl) (dgs_cons (dg_name 3 S.nd) (dgs_cons (dg_name 4 S.nd) (dgs_cons (dg_name 5 S.nd) dgs_end))) (lenIs_cons hm_name (lenIs_cons hm_name (lenIs_cons hm_name lenIs_end)))))
      (dss_cons (ds_if (dt_cp (cd_ne I.u64) (de_bty bd_list (by rfl) (E.fr "list" m_free_list) boot_list (da_cons (de_meth G_Tw (I.rm h_Tw) I.tk (dv 3) (da_cons (dv 4) da_nil)) da_nil)) (de_callA G_lval (I.rm h_lval) I.tk (da_cons (dv 2) (da_cons (dv 4) da_nil))))
      (dss_one (ds_ret de_bl)) dss_nil)
      (dss_cons (ds_asg (de_tup (da_cons (de_lst da_nil) (da_cons de_newT da_nil))) (dg_tup (by rfl) (dgs_cons (dg_name 6 S.nd) (dgs_cons (dg_name 7 S.nd) dgs_end)) (lenIs_cons hm_name (lenIs_cons hm_name lenIs_end))))
      (dss_cons (ds_for I.po (by rfl) (di_enum (by rfl) (E.fr "enumerate" m_free_enumerate) (da_cons (dv 5) da_nil)) (dg_tup (by rfl) (dgs_cons (dg_name 8 S.nd) (dgs_cons (dg_name 9 S.nd) dgs_end)) (lenIs_cons hm_name (lenIs_cons hm_name lenIs_end)))
      (dss_one (ds_set 6 S.nd (de_add (dv 6) (de_lc (own := [("number", 23)]) (by rfl) S.nd (di_seq (dv 2)) (blk_by (N := N_law) (sc := defScope s_law) (own := [("number", 23)]) (by decide +kernel)) own_name (fun _ _ _ _ _ => pg_own1 S.nd rfl (Or.inl rfl) (Or.inr rfl)) (fun _ _ _ _ _ => dts_one (dt_w (dw_and (dt_cp cd_le (dv 23) (dv 9)) (dw_and1 (dt_not (dt_val (de_callA G_lwins (I.rm h_lwins) takes0 (da_cons (dv 2) (da_cons (de_add (de_add (de_slice (dv 5) do_none (do_some (dv 8))) (de_lst (da_cons (de_sub (dv 9) (dv 23)) da_nil))) (de_slice (dv 5) (do_some (de_add (dv 8) de_int)) do_none)) (da_cons (dv 7) da_nil)))))))))) (fun _ _ _ _ _ => (de_tup (da_cons (dv 8) (da_cons (dv 23) da_nil)))))))))
      (dss_cons (ds_if (dt_w (dw_or (dt_cp (cd_ne I.u64) (de_bty bd_list (by rfl) (E.fr "list" m_free_list) boot_list (da_cons (de_meth G_Tm (I.rm h_Tm) I.tk (dv 3) (da_cons (dv 5) da_nil)) da_nil)) (dv 6)) (dw_or1 (dt_cp cd_notN (de_callA G_call (I.rm h_call) I.tk (da_cons (dv 5) da_nil)) de_non))))
      (dss_one (ds_ret de_bl)) dss_nil)
      (dss_cons (ds_par 10 11 (by rfl) S.nd (da_cons (de_callA G_lval (I.rm h_lval) I.tk (da_cons (dv 2) (da_cons de_int da_nil))) (da_cons de_non da_nil)))
      (dss_cons (ds_for I.po (by rfl) (di_range2 (by rfl) (E.fr "range" m_free_range) (da_cons de_int (da_cons de_int da_nil))) (dg_name 12 S.nd)
      (dss_one (ds_if (dt_cp cd_isN (dv 11) de_non)
      (dss_cons (ds_set 13 S.nd (de_sub de_int (dv 12)))
      (dss_cons (ds_while I.po (dt_w (dw_and (dt_cp cd_gt (dv 13) de_int) (dw_and1 (dt_cp (cd_eq I.u64) (de_ix I.u1 (dv 10) (de_sub (dv 13) de_int)) (de_ix I.u1 (dv 10) (de_add (de_sub (dv 13) de_int) (dv 12)))))))
      (dss_one (ds_set 13 S.nd (de_sub (dv 13) de_int))))
      (dss_one (ds_set 11 S.nd (de_if (dt_cp cd_le (de_add (de_add (dv 13) (dv 12)) (de_ix I.u1 (dv 2) (de_sub (de_blt bd_len (by rfl) (E.fr "len" m_free_len) boot_len (da_cons (dv 2) da_nil)) de_int))) de_int) (de_tup (da_cons (dv 13) (da_cons (dv 12) da_nil))) de_non))))) dss_nil)))
      (dss_cons (ds_if (dt_cp (cd_ne I.u64) (de_meth0 G_Tr (I.rm h_Tr) I.tk (dv 3)) (dv 11))
      (dss_one (ds_ret de_bl)) dss_nil)
      (dss_cons (ds_set 14 S.nd (de_lc (own := [("k", 8)]) (by rfl) S.nd (di_range1 (by rfl) (E.fr "range" m_free_range) (da_cons (de_add de_int (de_callA G_lroll (I.rm h_lroll) I.tk (da_cons (dv 1) (da_cons de_int da_nil)))) da_nil)) (blk_by (N := N_law) (sc := defScope s_law) (own := [("k", 8)]) (by decide +kernel)) own_name (fun _ _ _ _ _ => pg_own1 S.nd rfl (Or.inl rfl) (Or.inr rfl)) (fun _ _ _ _ _ => dts_no) (fun _ _ _ _ _ => (de_callA G_lroll (I.rm h_lroll) takes0 (da_cons (dv 1) (da_cons de_int da_nil))))))
      (dss_cons (ds_set 14 S.nd (de_if (dt_cp cd_gt (de_blt (bd_max1 (by rfl) I.u8) (by rfl) (E.fr "max" m_free_max) boot_max (da_cons (dv 14) da_nil)) de_int) (dv 14) (de_lst (da_cons de_int da_nil))))
      (dss_cons (ds_asg (de_tup (da_cons (de_make G_Ci (I.rm h_Ci) I.tk (da_cons (dv 14) da_nil)) (da_cons (de_callA G_lroll (I.rm h_lroll) I.tk (da_cons (dv 1) (da_cons de_int da_nil))) da_nil))) (dg_tup (by rfl) (dgs_cons (dg_name 15 S.nd) (dgs_cons (dg_name 4 S.nd) dgs_end)) (lenIs_cons hm_name (lenIs_cons hm_name lenIs_end))))
      (dss_cons (ds_set 16 S.nd (de_callA G_lwor (I.rm h_lwor) I.tk (da_cons (dv 14) (da_cons de_int da_nil))))
      (dss_cons (ds_if (dt_w (dw_or (dt_cp (cd_ne I.u64) (de_bty bd_list (by rfl) (E.fr "list" m_free_list) boot_list (da_cons (de_meth G_Cw (I.rm h_Cw) I.tk (dv 15) (da_cons (dv 4) da_nil)) da_nil)) (de_slice (dv 16) do_none (do_some (de_add (dv 4) de_int)))) (dw_or1 (dt_cp (cd_ne I.u64) (de_lc (own := [("heap", 9)]) (by rfl) S.nd (di_range1 (by rfl) (E.fr "range" m_free_range) (da_cons de_int da_nil)) (blk_by (N := N_law) (sc := defScope s_law) (own := [("heap", 9)]) (by decide +kernel)) own_name (fun _ _ _ _ _ => pg_own1 S.nd rfl (Or.inl rfl) (Or.inr rfl)) (fun _ _ _ _ _ => dts_no) (fun _ _ _ _ _ => (de_bty bd_list (by rfl) (E.fr "list" m_free_list) boot_list (da_cons (de_meth G_Co (I.rm h_Co) takes0 (dv 15) (da_cons (dv 9) da_nil)) da_nil)))) (de_lc (own := [("heap", 9)]) (by rfl) S.nd (di_range1 (by rfl) (E.fr "range" m_free_range) (da_cons de_int da_nil)) (blk_by (N := N_law) (sc := defScope s_law) (own := [("heap", 9)]) (by decide +kernel)) own_name (fun _ _ _ _ _ => pg_own1 S.nd rfl (Or.inl rfl) (Or.inr rfl)) (fun _ _ _ _ _ => dts_no) (fun _ _ _ _ _ => (de_callA G_lopt (I.rm h_lopt) takes0 (da_cons (dv 14) (da_cons (dv 9) da_nil)))))))))
      (dss_one (ds_ret de_bl)) dss_nil)
      (dss_cons (ds_asg (de_tup (da_cons (de_lc (own := [("k", 8)]) (by rfl) S.nd (di_range1 (by rfl) (E.fr "range" m_free_range) (da_cons (de_callA G_lroll (I.rm h_lroll) I.tk (da_cons (dv 1) (da_cons de_int da_nil))) da_nil)) (blk_by (N := N_law) (sc := defScope s_law) (own := [("k", 8)]) (by decide +kernel)) own_name (fun _ _ _ _ _ => pg_own1 S.nd rfl (Or.inl rfl) (Or.inr rfl)) (fun _ _ _ _ _ => dts_no) (fun _ _ _ _ _ => (de_callA G_lroll (I.rm h_lroll) takes0 (da_cons (dv 1) (da_cons de_int da_nil))))) (da_cons de_int (da_cons de_non da_nil)))) (dg_tup (by rfl) (dgs_cons (dg_name 5 S.nd) (dgs_cons (dg_name 17 S.nd) (dgs_cons (dg_name 18 S.nd) dgs_end))) (lenIs_cons hm_name (lenIs_cons hm_name (lenIs_cons hm_name lenIs_end)))))
      (dss_cons (ds_for I.po (by rfl) (di_seq (dv 5)) (dg_name 9 S.nd)
      (dss_one (ds_set 17 S.nd (de_xor (dv 17) (de_ix I.u1 (dv 16) (dv 9))))))
      (dss_cons (ds_for I.po (by rfl) (di_enum (by rfl) (E.fr "enumerate" m_free_enumerate) (da_cons (dv 5) da_nil)) (dg_tup (by rfl) (dgs_cons (dg_name 8 S.nd) (dgs_cons (dg_name 9 S.nd) dgs_end)) (lenIs_cons hm_name (lenIs_cons hm_name lenIs_end)))
      (dss_one (ds_for I.po (by rfl) (di_seq (de_callA G_lopt (I.rm h_lopt) I.tk (da_cons (dv 14) (da_cons (dv 9) da_nil)))) (dg_name 19 S.nd)
      (dss_cons (ds_set 20 S.nd (de_xor (de_xor (de_xor (dv 17) (de_ix I.u1 (dv 16) (dv 9))) (de_if (dt_cp cd_gt (de_blt bd_len (by rfl) (E.fr "len" m_free_len) boot_len (da_cons (dv 19) da_nil)) de_int) (de_ix I.u1 (dv 16) (de_ix I.u1 (dv 19) de_int)) de_int)) (de_if (dt_cp cd_gt (de_blt bd_len (by rfl) (E.fr "len" m_free_len) boot_len (da_cons (dv 19) da_nil)) de_int) (de_ix I.u1 (dv 16) (de_ix I.u1 (dv 19) de_int)) de_int)))
      (dss_one (ds_set 18 S.nd (de_if (dt_w (dw_and (dt_cp cd_isN (dv 18) de_non) (dw_and1 (dt_cp (cd_eq I.u64) (dv 20) de_int)))) (de_tup (da_cons (dv 8) (da_cons (dv 19) da_nil))) (dv 18))))))))
      (dss_cons (ds_set 21 S.nd (de_add de_str (de_join de_str (de_lc (own := [("figure", 24)]) (by rfl) S.nd (di_seq (dv 14)) (blk_by (N := N_law) (sc := defScope s_law) (own := [("figure", 24)]) (by decide +kernel)) own_name (fun _ _ _ _ _ => pg_own1 S.nd rfl (Or.inl rfl) (Or.inr rfl)) (fun _ _ _ _ _ => dts_no) (fun _ _ _ _ _ => (de_bty bd_str (by rfl) (E.fr "str" m_free_str) boot_str (da_cons (dv 24) da_nil)))))))
      (dss_cons (ds_if (dt_w (dw_or (dt_cp (cd_ne I.u64) (de_meth G_Cr (I.rm h_Cr) I.tk (dv 15) (da_cons (dv 5) da_nil)) (dv 18)) (dw_or (dt_cp (cd_ne I.u64) (de_cp cd_isN (dv 18) de_non) (de_cp (cd_eq I.u64) (dv 17) de_int)) (dw_or (dt_cp (cd_ne I.u64) (de_meth0 G_Ct (I.rm h_Ct) I.tk (dv 15)) (dv 21)) (dw_or1 (dt_cp (cd_ne I.u64) (de_bty bd_list (by rfl) (E.fr "list" m_free_list) boot_list (da_cons (de_fld (E.cls "Code" m_cls_Code) (E.noat "Code" "figures" m_noat_Code_figures) (de_callA G_cof (I.rm h_cof) I.tk (da_cons (dv 21) da_nil))) da_nil)) (dv 14)))))))
      (dss_one (ds_ret de_bl)) dss_nil)
      (dss_cons (ds_set 22 S.nd (de_lc (own := [("k", 8)]) (by rfl) S.nd (di_range1 (by rfl) (E.fr "range" m_free_range) (da_cons (de_callA G_lroll (I.rm h_lroll) I.tk (da_cons (dv 1) (da_cons de_int da_nil))) da_nil)) (blk_by (N := N_law) (sc := defScope s_law) (own := [("k", 8)]) (by decide +kernel)) own_name (fun _ _ _ _ _ => pg_own1 S.nd rfl (Or.inl rfl) (Or.inr rfl)) (fun _ _ _ _ _ => dts_no) (fun _ _ _ _ _ => (de_callA G_lroll (I.rm h_lroll) takes0 (da_cons (dv 1) (da_cons de_int da_nil))))))
      (dss_one (ds_if (dt_cp (cd_ne I.u64) (de_callA G_mex (I.rm h_mex) I.tk (da_cons (dv 22) da_nil)) (de_ix I.u1 (de_lc (own := [("number", 23)]) (by rfl) S.nd (di_range1 (by rfl) (E.fr "range" m_free_range) (da_cons de_int da_nil)) (blk_by (N := N_law) (sc := defScope s_law) (own := [("number", 23)]) (by decide +kernel)) own_name (fun _ _ _ _ _ => pg_own1 S.nd rfl (Or.inl rfl) (Or.inr rfl)) (fun _ _ _ _ _ => dts_one (dt_cp (cd_notIn I.u1) (dv 23) (dv 22))) (fun _ _ _ _ _ => (dv 23))) de_int))
      (dss_one (ds_ret de_bl)) dss_nil)))))))))))))))))))))))
      (dss_one (ds_ret (de_callA0 G_lplain (I.rm h_lplain) I.tk))))
theorem bn_law (kV doc pm : Value) (an : Option Addr) (cdv ct : Value) (us : List Value) (h : us.length = (["script"] : List Str).length) : bindArgs (PySem.W.fnOf d_law.name d_law.qual d_law.params d_law.body d_law.scope .none kV doc pm an cdv ct) ⟨us, []⟩ = pure ((["script"] : List Str).zip us) := match us, h with | [_], _ => rfl
end
end K02
set_option Elab.async false
set_option linter.all false
set_option pp.maxSteps 600
set_option maxRecDepth 100000
set_option maxHeartbeats 2000000
--MORE
namespace K02
open PySem PySem.Spec PyProof.Rows L2 DL PL
/-! ### mex -/
def sp_mex : SpD := fun ds B q x => ∃ (d : D) (ns : List Nat), ds = [d] ∧ seqOf B d = some (iN ns) ∧ q (.int (mexN ns : Nat)) B
theorem rd_mex {ds : List D} {B : Bx} {q : DK} {x : XD} (h : sp_mex ds B q x) : t_mex (endsD q x) (startD N_mex ds) B := by
  obtain ⟨d, ns, rfl, hd, h1⟩ := h
  try dsimp only [t_mex, N_mex, dIfS, dOr, dAnd, dNot, dTest, dOp, dUn, dCB, dCons, dNil, dVar, dC, dSeq, dAsg, hName, dRet, dRetF, dRetN, dRaise, dNext, dDrop, dAppend, dCall, gI, gIC, gU, gMM, dChain, dAndV, dOrV, dNotV, dTup, dLst, dLstB, dNewK, dNewT, dPar, dAug, hTup, hCons, hEnd, hSub, dISeq, dIEn, dIR1, dIR2, dFor, dLc, dLcB, hPair, dYes, dBreak, dCont, dIf, dQuant, getS, setS, startD, DL.gSub, gDiv, gMod, gPow, gShl, gXor, gAddI, gLt, gLe, gGt, gGe, gNegU, gMax2, gMin2, gAbs, gIntC, gEq, gIsN, gAdd, gMul, dSl, dNoPart, dPart, wipeD, List.set, rNot, rChain, rOp, rVar, rC, rAnd, hLt, hLe, hGt, hGe, hEq, DL.rI, dSetF, dFld, dMeth, dMake, dMaxD, dJoin, dStarts, dIStr, dAnyS, dAnyZ, dIEnC, dLstRg2, dLcR, dCallR, dLam]
  refine ⟨fun m Γ B' => B' = B ∧ ∃ k : Nat, Γ = [some d, some (.int (k : Int))] ∧ mexO m ns k = some (mexN ns), ⟨ns.length + 1, rfl, 0, rfl, mexN_eq ns⟩, fun m Γ B' h => ?_⟩
  obtain ⟨rfl, k, rfl, hk⟩ := h
  cases m with
  | zero => cases hk
  | succ m =>
    unfold mexO at hk
    try dsimp only [dIfS, dOr, dAnd, dNot, dTest, dOp, dUn, dCB, dCons, dNil, dVar, dC, dSeq, dAsg, hName, dRet, dRetF, dRetN, dRaise, dNext, dDrop, dAppend, dCall, gI, gIC, gU, gMM, dChain, dAndV, dOrV, dNotV, dTup, dLst, dLstB, dNewK, dNewT, dPar, dAug, hTup, hCons, hEnd, hSub, dISeq, dIEn, dIR1, dIR2, dFor, dLc, dLcB, hPair, dYes, dBreak, dCont, dIf, dQuant, getS, setS, startD, DL.gSub, gDiv, gMod, gPow, gShl, gXor, gAddI, gLt, gLe, gGt, gGe, gNegU, gMax2, gMin2, gAbs, gIntC, gEq, gIsN, gAdd, gMul, dSl, dNoPart, dPart, wipeD, List.set, rNot, rChain, rOp, rVar, rC, rAnd, hLt, hLe, hGt, hGe, hEq, DL.rI, dSetF, dFld, dMeth, dMake, dMaxD, dJoin, dStarts, dIStr, dAnyS, dAnyZ, dIEnC, dLstRg2, dLcR, dCallR, dLam]
    refine gIn_seq hd rfl (flat_N ns) ?_
    rw [Bool.false_xor, inD_N]
    refine ite_dec (fun hin => ?_) (fun hin => ?_)
    · rw [if_pos hin] at hk
      exact ⟨m, Nat.lt_succ_self m, rfl, k + 1, rfl, hk⟩
    · rw [if_neg hin] at hk
      cases hk
      exact here h1
/-! ### Taking -/
def okT (ns : List Int) : Bool := ((decide (0 < ns.length) && decide (ns.length ≤ 8)) && (ns.all fun n => decide (1 ≤ n) && decide (n ≤ 60))) && !anyZ (fun i j => decide (j ≤ i)) ns (ns.drop 1)
abbrev insT (C : Addr) (ns : List Int) : Box := .ins C [("numbers", .tup (iL ns))]
def sp_Ti (C CE : Addr) : SpD := fun ds B q x => ∃ (p : Addr) (d : D) (ns : List Int), ds = [.ref p, d] ∧ B p = some (.ins C []) ∧ seqOf B d = some (iL ns) ∧ (∀ ys, d ≠ .rot ys) ∧ (okT ns = true → q .non (put B p (insT C ns))) ∧ (okT ns = false → ∃ B0, Few B0 B ∧ B0 p = none ∧ x CE B0)
theorem few_put {B0 B : Bx} {p : Addr} {b : Box} (h : Few B0 B) (hp : B0 p = none) : Few B0 (put B p b) := fun a c e => by
  rw [put_ne (ne_box e hp)]; exact h a c e
theorem cut1 (ns : List Int) : cutD (iL ns) (some 1) none = iL (ns.drop 1) := by
  have := cutD_drop (iL ns) 1
  unfold iL at this ⊢
  rw [← List.map_drop] at this
  exact this
theorem rd_Ti {C CE : Addr} {ds : List D} {B : Bx} {q : DK} {x : XD} (h : sp_Ti C CE ds B q x) : t_Ti C CE (endsD q x) (startD N_Ti ds) B := by
  obtain ⟨p, d, ns, rfl, hp, hd, hrot, h1, h2⟩ := h
  have er : okT ns = false → ∀ b, ∃ B'', Few B'' (put B p b) ∧ x CE B'' := fun e b => by
    obtain ⟨B0, f0, f1, f2⟩ := h2 e
    exact ⟨B0, few_put f0 f1, f2⟩
  try dsimp only [t_Ti, N_Ti, dIfS, dOr, dAnd, dNot, dTest, dOp, dUn, dCB, dCons, dNil, dVar, dC, dSeq, dAsg, hName, dRet, dRetF, dRetN, dRaise, dNext, dDrop, dAppend, dCall, gI, gIC, gU, gMM, dChain, dAndV, dOrV, dNotV, dTup, dLst, dLstB, dNewK, dNewT, dPar, dAug, hTup, hCons, hEnd, hSub, dISeq, dIEn, dIR1, dIR2, dFor, dLc, dLcB, hPair, dYes, dBreak, dCont, dIf, dQuant, getS, setS, startD, DL.gSub, gDiv, gMod, gPow, gShl, gXor, gAddI, gLt, gLe, gGt, gGe, gNegU, gMax2, gMin2, gAbs, gIntC, gEq, gIsN, gAdd, gMul, dSl, dNoPart, dPart, wipeD, List.set, rNot, rChain, rOp, rVar, rC, rAnd, hLt, hLe, hGt, hGe, hEq, DL.rI, dSetF, dFld, dMeth, dMake, dMaxD, dJoin, dStarts, dIStr, dAnyS, dAnyZ, dIEnC, dLstRg2, dLcR, dCallR, dLam]
  refine gTuple_seq hd hrot ⟨p, _, rfl, hp, by decide, ?_⟩
  have at_ : ∀ {q : D → Prop}, q (.tup (iL ns)) → ∃ a fs v, D.ref p = .ref a ∧ put B p (.ins C (putFD "numbers" (.tup (iL ns)) [])) a = some (.ins C fs) ∧ fldD fs "numbers" = some v ∧ q v := fun h => ⟨p, _, _, rfl, put_same, fld_one, h⟩
  refine at_ (gLen_seq rfl ?_)
  try dsimp only [dIfS, dOr, dAnd, dNot, dTest, dOp, dUn, dCB, dCons, dNil, dVar, dC, dSeq, dAsg, hName, dRet, dRetF, dRetN, dRaise, dNext, dDrop, dAppend, dCall, gI, gIC, gU, gMM, dChain, dAndV, dOrV, dNotV, dTup, dLst, dLstB, dNewK, dNewT, dPar, dAug, hTup, hCons, hEnd, hSub, dISeq, dIEn, dIR1, dIR2, dFor, dLc, dLcB, hPair, dYes, dBreak, dCont, dIf, dQuant, getS, setS, startD, DL.gSub, gDiv, gMod, gPow, gShl, gXor, gAddI, gLt, gLe, gGt, gGe, gNegU, gMax2, gMin2, gAbs, gIntC, gEq, gIsN, gAdd, gMul, dSl, dNoPart, dPart, wipeD, List.set, rNot, rChain, rOp, rVar, rC, rAnd, hLt, hLe, hGt, hGe, hEq, DL.rI, dSetF, dFld, dMeth, dMake, dMaxD, dJoin, dStarts, dIStr, dAnyS, dAnyZ, dIEnC, dLstRg2, dLcR, dCallR, dLam]
  rw [iL_len]
  have bad : (decide (0 < ns.length) && decide (ns.length ≤ 8)) = false → okT ns = false := fun e => by unfold okT; rw [e]; rfl
  refine ite_dec (fun c1 => ite_ndec (fun c2 => if_yes rfl (er (bad (by simp; omega)) _)) (fun c2 => ?_)) (fun c1 => if_yes rfl (if_yes rfl (er (bad (by simp; omega)) _)))
  have good : (decide (0 < ns.length) && decide (ns.length ≤ 8)) = true := by simp; omega
  refine at_ ⟨iL ns, notI fun n => decide (1 ≤ n) && decide (n ≤ 60), rfl, fun e he => ?_, ?_⟩
  · obtain ⟨n, hn, rfl⟩ := List.mem_map.mp he
    dsimp only [notI]
    by_cases h0 : 1 ≤ n <;> simp [h0]
  rw [if_neg (by decide : ¬ (false = true)), any_notI ns fun n => decide (1 ≤ n) && decide (n ≤ 60)]
  refine ite_of (fun h => er ?_ _) (fun h => ?_)
  · unfold okT
    rw [Bool.not_eq_true'] at h
    rw [h, Bool.and_false, Bool.false_and]
  rw [Bool.not_eq_false'] at h
  refine at_ (at_ ⟨ns, ns.drop 1, ?_, ?_⟩)
  · rw [cut1]; rfl
  refine ite_of (fun h3 => er ?_ _) (fun h3 => here (h1 ?_))
  · unfold okT; rw [h3, Bool.not_true, Bool.and_false]
  · unfold okT; rw [good, h, h3]; rfl
/-- a taking that stands at p -/
structure TkB (C p : Addr) (nums : List Nat) (B : Bx) : Prop where
  at_ : B p = some (.ins C [("numbers", .tup (iN nums))])
  pos : ∀ m ∈ nums, 1 ≤ m
  len : nums.length ≤ 8
  ne : nums ≠ []
theorem TkB.get {C p : Addr} {nums : List Nat} {B : Bx} (h : TkB C p nums B) {q : D → Prop} (hq : q (.tup (iN nums))) : ∃ a fs v, D.ref p = .ref a ∧ B a = some (.ins C fs) ∧ fldD fs "numbers" = some v ∧ q v := ⟨p, _, _, rfl, h.at_, fld_one, hq⟩
theorem TkB.new {C p a : Addr} {nums : List Nat} {B : Bx} {b : Box} (h : TkB C p nums B) (ha : B a = none) : TkB C p nums (put B a b) := ⟨by rw [put_ne (ne_box h.at_ ha)]; exact h.at_, h.pos, h.len, h.ne⟩
theorem TkB.lst {C p a : Addr} {nums : List Nat} {B : Bx} {ys : List D} {b : Box} (h : TkB C p nums B) (ha : B a = some (.lst ys)) : TkB C p nums (put B a b) := ⟨by rw [put_ne (ne_boxes h.at_ ha (fun z => by cases z))]; exact h.at_, h.pos, h.len, h.ne⟩
theorem TkB.dT {C p a : Addr} {nums : List Nat} {B : Bx} {ys : List (List Key × D)} {b : Box} (h : TkB C p nums B) (ha : B a = some (.dT ys)) : TkB C p nums (put B a b) := ⟨by rw [put_ne (ne_boxes h.at_ ha (fun z => by cases z))]; exact h.at_, h.pos, h.len, h.ne⟩
def sp_Tw (C CE : Addr) : SpD := fun ds B q x => ∃ (p : Addr) (nums : List Nat) (m : Int), ds = [.ref p, .int m] ∧ TkB C p nums B ∧ (0 ≤ m → m ≤ 600 → q (.tup (iN (valT nums (m.toNat + 1)))) B) ∧ (¬ (0 ≤ m ∧ m ≤ 600) → x CE B)
theorem rd_Tw {C CE : Addr} {ds : List D} {B : Bx} {q : DK} {x : XD} (h : sp_Tw C CE ds B q x) : t_Tw sp_mex C CE (endsD q x) (startD N_Tw ds) B := by
  obtain ⟨p, nums, m, rfl, hT, h1, h2⟩ := h
  try dsimp only [t_Tw, N_Tw, dIfS, dOr, dAnd, dNot, dTest, dOp, dUn, dCB, dCons, dNil, dVar, dC, dSeq, dAsg, hName, dRet, dRetF, dRetN, dRaise, dNext, dDrop, dAppend, dCall, gI, gIC, gU, gMM, dChain, dAndV, dOrV, dNotV, dTup, dLst, dLstB, dNewK, dNewT, dPar, dAug, hTup, hCons, hEnd, hSub, dISeq, dIEn, dIR1, dIR2, dFor, dLc, dLcB, hPair, dYes, dBreak, dCont, dIf, dQuant, getS, setS, startD, DL.gSub, gDiv, gMod, gPow, gShl, gXor, gAddI, gLt, gLe, gGt, gGe, gNegU, gMax2, gMin2, gAbs, gIntC, gEq, gIsN, gAdd, gMul, dSl, dNoPart, dPart, wipeD, List.set, rNot, rChain, rOp, rVar, rC, rAnd, hLt, hLe, hGt, hGe, hEq, DL.rI, dSetF, dFld, dMeth, dMake, dMaxD, dJoin, dStarts, dIStr, dAnyS, dAnyZ, dIEnC, dLstRg2, dLcR, dCallR, dLam]
  refine ite_dec (fun c1 => ite_ndec (fun c2 => here (h2 (by omega))) (fun c2 => ?_)) (fun c1 => if_yes rfl (here (h2 (by omega))))
  have h1 := h1 c1 c2
  obtain ⟨k, rfl⟩ : ∃ k : Nat, m = k := ⟨m.toNat, by omega⟩
  refine ⟨trivial, fun p2 hp2 => ?_⟩
  refine ⟨by omega, ?_⟩
  refine for_by (fun r Γ B' => ∃ (h n : Nat) (y z : Option D), B' = put B p2 (.lst (iN (valT nums h))) ∧ r = upto h n ∧ Γ = [some (.ref p), some (.int (k : Int)), some (.ref p2), y, z] ∧ h + n = k + 1)
    ⟨0, k + 1, none, none, rfl, by show upto 0 _ = upto 0 _; congr 1, rfl, by omega⟩ (fun r Γ B' h f e => by cases e) (fun Γ B' h => ?_) (fun e r Γ B' K h hk => ?_)
  · obtain ⟨h, n, y, z, rfl, h3, rfl, h4⟩ := h
    cases n with
    | succ n => cases h3
    | zero =>
      have : h = k + 1 := by omega
      subst this
      exact gTuple_ref put_same ⟨B, Few.put hp2, h1⟩
  · obtain ⟨h, n, y, z, rfl, h3, rfl, h4⟩ := h
    cases n with
    | zero => cases h3
    | succ n =>
      cases h3
      try dsimp only [B1_Tw, dIfS, dOr, dAnd, dNot, dTest, dOp, dUn, dCB, dCons, dNil, dVar, dC, dSeq, dAsg, hName, dRet, dRetF, dRetN, dRaise, dNext, dDrop, dAppend, dCall, gI, gIC, gU, gMM, dChain, dAndV, dOrV, dNotV, dTup, dLst, dLstB, dNewK, dNewT, dPar, dAug, hTup, hCons, hEnd, hSub, dISeq, dIEn, dIR1, dIR2, dFor, dLc, dLcB, hPair, dYes, dBreak, dCont, dIf, dQuant, getS, setS, startD, DL.gSub, gDiv, gMod, gPow, gShl, gXor, gAddI, gLt, gLe, gGt, gGe, gNegU, gMax2, gMin2, gAbs, gIntC, gEq, gIsN, gAdd, gMul, dSl, dNoPart, dPart, wipeD, List.set, rNot, rChain, rOp, rVar, rC, rAnd, hLt, hLe, hGt, hGe, hEq, DL.rI, dSetF, dFld, dMeth, dMake, dMaxD, dJoin, dStarts, dIStr, dAnyS, dAnyZ, dIEnC, dLstRg2, dLcR, dCallR, dLam]
      have hT2 := hT.new (b := .lst (iN (valT nums h))) hp2
      refine ⟨⟨_, put_same⟩, hT2.get ?_⟩
      refine iSq_of (B0 := put B p2 (.lst (iN (valT nums h)))) rfl (Few.refl _) fun gd hg => ⟨sizeOk_of (by rw [iN_len]; have := hT.len; omega), ?_⟩
      refine lc_pure (enc := fun (n : Nat) => D.int (n : Int)) (fun m => decide (m ≤ h)) (fun m => .int ((valT nums h).getD (h - m) 0 : Nat)) (hg _ (Few.refl _)) nums [] (fun a ha K1 K2 k1 k2 => ?_) ?_
      · try dsimp only [dIfS, dOr, dAnd, dNot, dTest, dOp, dUn, dCB, dCons, dNil, dVar, dC, dSeq, dAsg, hName, dRet, dRetF, dRetN, dRaise, dNext, dDrop, dAppend, dCall, gI, gIC, gU, gMM, dChain, dAndV, dOrV, dNotV, dTup, dLst, dLstB, dNewK, dNewT, dPar, dAug, hTup, hCons, hEnd, hSub, dISeq, dIEn, dIR1, dIR2, dFor, dLc, dLcB, hPair, dYes, dBreak, dCont, dIf, dQuant, getS, setS, startD, DL.gSub, gDiv, gMod, gPow, gShl, gXor, gAddI, gLt, gLe, gGt, gGe, gNegU, gMax2, gMin2, gAbs, gIntC, gEq, gIsN, gAdd, gMul, dSl, dNoPart, dPart, wipeD, List.set, rNot, rChain, rOp, rVar, rC, rAnd, hLt, hLe, hGt, hGe, hEq, DL.rI, dSetF, dFld, dMeth, dMake, dMaxD, dJoin, dStarts, dIStr, dAnyS, dAnyZ, dIEnC, dLstRg2, dLcR, dCallR, dLam]
        refine ite_dec (fun c => ?_) (fun c => k2 (decide_eq_false (by omega)))
        have hc : a ≤ h := by omega
        rw [show (h : Int) - (a : Int) = ((h - a : Nat) : Int) by omega]
        refine gIx_N (seqOf_at put_same) (by rw [valT_len]; have := hT.pos a ha; omega) (k1 (decide_eq_true hc))
      · refine ⟨_, near nums (valT nums h) h, rfl, ?_, ?_⟩
        · show some _ = some _
          unfold near iN
          rw [List.map_map]
          rfl
        · refine ⟨_, put_same, lt_size (by rw [iN_len, valT_len]; omega), hk _ _ ⟨h + 1, n, _, _, ?_, rfl, rfl, by omega⟩⟩
          rw [put_put, show valT nums (h + 1) = valT nums h ++ [mexN (near nums (valT nums h) h)] from rfl, iN_app]
          rfl
/-! ### check_all -/
def okA (t : Int) (ns : List Int) : Bool := decide (ns.length ≤ 12) && ns.all fun n => decide (0 ≤ n) && decide (n ≤ t)
def sp_call (CE : Addr) : SpD := fun ds B q x => ∃ (d : D) (ns : List Int), ds = [d] ∧ seqOf B d = some (iL ns) ∧ (okA 600 ns = true → q .non B) ∧ (okA 600 ns = false → x CE B)
theorem rd_call {CE : Addr} {ds : List D} {B : Bx} {q : DK} {x : XD} (h : sp_call CE ds B q x) : t_call CE (endsD q x) (startD N_call ds) B := by
  obtain ⟨d, ns, rfl, hd, h1, h2⟩ := h
  try dsimp only [t_call, N_call, dIfS, dOr, dAnd, dNot, dTest, dOp, dUn, dCB, dCons, dNil, dVar, dC, dSeq, dAsg, hName, dRet, dRetF, dRetN, dRaise, dNext, dDrop, dAppend, dCall, gI, gIC, gU, gMM, dChain, dAndV, dOrV, dNotV, dTup, dLst, dLstB, dNewK, dNewT, dPar, dAug, hTup, hCons, hEnd, hSub, dISeq, dIEn, dIR1, dIR2, dFor, dLc, dLcB, hPair, dYes, dBreak, dCont, dIf, dQuant, getS, setS, startD, DL.gSub, gDiv, gMod, gPow, gShl, gXor, gAddI, gLt, gLe, gGt, gGe, gNegU, gMax2, gMin2, gAbs, gIntC, gEq, gIsN, gAdd, gMul, dSl, dNoPart, dPart, wipeD, List.set, rNot, rChain, rOp, rVar, rC, rAnd, hLt, hLe, hGt, hGe, hEq, DL.rI, dSetF, dFld, dMeth, dMake, dMaxD, dJoin, dStarts, dIStr, dAnyS, dAnyZ, dIEnC, dLstRg2, dLcR, dCallR, dLam]
  refine gLen_seq hd ?_
  try dsimp only [dIfS, dOr, dAnd, dNot, dTest, dOp, dUn, dCB, dCons, dNil, dVar, dC, dSeq, dAsg, hName, dRet, dRetF, dRetN, dRaise, dNext, dDrop, dAppend, dCall, gI, gIC, gU, gMM, dChain, dAndV, dOrV, dNotV, dTup, dLst, dLstB, dNewK, dNewT, dPar, dAug, hTup, hCons, hEnd, hSub, dISeq, dIEn, dIR1, dIR2, dFor, dLc, dLcB, hPair, dYes, dBreak, dCont, dIf, dQuant, getS, setS, startD, DL.gSub, gDiv, gMod, gPow, gShl, gXor, gAddI, gLt, gLe, gGt, gGe, gNegU, gMax2, gMin2, gAbs, gIntC, gEq, gIsN, gAdd, gMul, dSl, dNoPart, dPart, wipeD, List.set, rNot, rChain, rOp, rVar, rC, rAnd, hLt, hLe, hGt, hGe, hEq, DL.rI, dSetF, dFld, dMeth, dMake, dMaxD, dJoin, dStarts, dIStr, dAnyS, dAnyZ, dIEnC, dLstRg2, dLcR, dCallR, dLam]
  rw [iL_len]
  refine ite_dec (fun hl => if_yes rfl (here (h2 (by unfold okA; simp; omega)))) (fun hl => ?_)
  refine ⟨iL ns, notI fun n => decide (0 ≤ n) && decide (n ≤ 600), hd, fun e he => ?_, ?_⟩
  · obtain ⟨n, hn, rfl⟩ := List.mem_map.mp he
    dsimp only [notI]
    by_cases h0 : 0 ≤ n <;> simp [h0]
  rw [if_neg (by decide : ¬ (false = true)), any_notI ns fun n => decide (0 ≤ n) && decide (n ≤ 600)]
  refine ite_of (fun h => here (h2 ?_)) (fun h => here (h1 ?_))
  · unfold okA
    rw [Bool.not_eq_true'] at h
    rw [h, Bool.and_false]
  · unfold okA
    rw [Bool.not_eq_false'] at h
    rw [h]
    simp; omega
/-! ### Taking.moves -/
def prs (l : List (Nat × Nat)) : List D := l.map fun p => .tup [.int (p.1 : Int), .int (p.2 : Int)]
theorem prs_len (l : List (Nat × Nat)) : (prs l).length = l.length := List.length_map ..
theorem intsOf_of {B : Bx} {d : D} {ns : List Int} (h : seqOf B d = some (iL ns)) : intsOf B d = some ns := by
  unfold intsOf
  rw [h]
  exact mapM_of ns
def maxD (ns : List Int) : Int := match ns with | [] => 0 | n :: ns => maxI n ns
theorem maxI_le : ∀ (ns : List Int) (a : Int), a ≤ maxI a ns ∧ ∀ n ∈ ns, n ≤ maxI a ns
  | [], a => ⟨Int.le_refl _, by simp⟩
  | n :: ns, a => by
    obtain ⟨h1, h2⟩ := maxI_le ns (if a < n then n else a)
    have e : maxI a (n :: ns) = maxI (if a < n then n else a) ns := rfl
    rw [e]
    have h3 : a ≤ (if a < n then n else a) ∧ n ≤ (if a < n then n else a) := by split <;> omega
    refine ⟨Int.le_trans h3.1 h1, fun m hm => ?_⟩
    rcases List.mem_cons.mp hm with e | hm
    · rw [e]; exact Int.le_trans h3.2 h1
    · exact h2 m hm
theorem maxI_mem : ∀ (ns : List Int) (a : Int), maxI a ns = a ∨ maxI a ns ∈ ns
  | [], a => .inl rfl
  | n :: ns, a => by
    have e : maxI a (n :: ns) = maxI (if a < n then n else a) ns := rfl
    rw [e]
    rcases maxI_mem ns (if a < n then n else a) with h | h
    · rw [h]; split
      · exact .inr List.mem_cons_self
      · exact .inl rfl
    · exact .inr (List.mem_cons_of_mem _ h)
theorem maxD_of {t : Int} {ns : List Int} (h0 : 0 ≤ t) (h : ∀ n ∈ ns, 0 ≤ n ∧ n ≤ t) : 0 ≤ maxD ns ∧ maxD ns ≤ t ∧ ∀ n ∈ ns, n ≤ maxD ns := by
  cases ns with
  | nil => exact ⟨Int.le_refl _, h0, by simp⟩
  | cons a ns =>
    obtain ⟨h1, h2⟩ := maxI_le ns a
    have h3 := h a List.mem_cons_self
    refine ⟨by show 0 ≤ maxI a ns; omega, ?_, fun n hn => ?_⟩
    · show maxI a ns ≤ t
      rcases maxI_mem ns a with e | e
      · rw [e]; exact h3.2
      · exact (h _ (List.mem_cons_of_mem _ e)).2
    · rcases List.mem_cons.mp hn with e | hn
      · rw [e]; exact h1
      · exact h2 n hn
theorem okA_at {t : Int} {ns : List Int} (h : okA t ns = true) : ns.length ≤ 12 ∧ ∀ n ∈ ns, 0 ≤ n ∧ n ≤ t := by
  unfold okA at h
  rw [Bool.and_eq_true, List.all_eq_true] at h
  exact ⟨of_decide_eq_true h.1, fun n hn => by simpa using h.2 n hn⟩
/-- whole numbers that are not below 0 -/
def toN (ns : List Int) : List Nat := ns.map Int.toNat
theorem toN_back {ns : List Int} (h : ∀ n ∈ ns, 0 ≤ n) : iL ns = iN (toN ns) := by
  rw [iN_iL]
  unfold toN iL
  rw [List.map_map, List.map_map]
  refine List.map_congr_left fun n hn => ?_
  have := h n hn
  show D.int n = D.int (n.toNat : Int)
  rw [Int.toNat_of_nonneg this]
theorem toN_cast (ns : List Nat) : toN (ns.map fun (n : Nat) => (n : Int)) = ns := by
  unfold toN
  rw [List.map_map]
  conv => rhs; rw [← List.map_id ns]
  exact List.map_congr_left fun n _ => rfl
def sp_Tm (C CE : Addr) : SpD := fun ds B q x => ∃ (p : Addr) (d : D) (nums : List Nat) (ns : List Int), ds = [.ref p, d] ∧ TkB C p nums B ∧ seqOf B d = some (iL ns) ∧
  (okA 600 ns = true → q (.tup (prs (movG (cP nums (xs ((toN ns).map (vT nums)))) nums 0 (toN ns)))) B) ∧ (okA 600 ns = false → x CE B)
theorem rd_Tm {C CE : Addr} {ds : List D} {B : Bx} {q : DK} {x : XD} (h : sp_Tm C CE ds B q x) : t_Tm (sp_Tw C CE) (sp_call CE) C (endsD q x) (startD N_Tm ds) B := by
  obtain ⟨p, d, nums, ns, rfl, hT, hd, h1, h2⟩ := h
  try dsimp only [t_Tm, N_Tm, dIfS, dOr, dAnd, dNot, dTest, dOp, dUn, dCB, dCons, dNil, dVar, dC, dSeq, dAsg, hName, dRet, dRetF, dRetN, dRaise, dNext, dDrop, dAppend, dCall, gI, gIC, gU, gMM, dChain, dAndV, dOrV, dNotV, dTup, dLst, dLstB, dNewK, dNewT, dPar, dAug, hTup, hCons, hEnd, hSub, dISeq, dIEn, dIR1, dIR2, dFor, dLc, dLcB, hPair, dYes, dBreak, dCont, dIf, dQuant, getS, setS, startD, DL.gSub, gDiv, gMod, gPow, gShl, gXor, gAddI, gLt, gLe, gGt, gGe, gNegU, gMax2, gMin2, gAbs, gIntC, gEq, gIsN, gAdd, gMul, dSl, dNoPart, dPart, wipeD, List.set, rNot, rChain, rOp, rVar, rC, rAnd, hLt, hLe, hGt, hGe, hEq, DL.rI, dSetF, dFld, dMeth, dMake, dMaxD, dJoin, dStarts, dIStr, dAnyS, dAnyZ, dIEnC, dLstRg2, dLcR, dCallR, dLam]
  refine ⟨d, ns, rfl, hd, fun ok => ?_, fun no => here (h2 no)⟩
  have h1 := h1 ok
  obtain ⟨hlen, hbd⟩ := okA_at ok
  obtain ⟨m0, m1, m2⟩ := maxD_of (by decide) hbd
  refine ⟨p, _, rfl, hT.at_, by rfl, ns, 0, intsOf_of hd, rfl, ?_⟩
  refine ⟨p, nums, maxD ns, rfl, hT, fun _ _ => ?_, fun no => absurd ⟨m0, m1⟩ no⟩
  obtain ⟨M, hM⟩ : ∃ M, M = (maxD ns).toNat := ⟨_, rfl⟩
  rw [← hM]
  have hle : ∀ h ∈ toN ns, h < M + 1 := fun h hh => by
    obtain ⟨n, hn, rfl⟩ := List.mem_map.mp hh
    have := m2 n hn
    have := (hbd n hn).1
    omega
  have hlen2 : (toN ns).length ≤ 12 := by unfold toN; rw [List.length_map]; exact hlen
  rw [toN_back fun n hn => (hbd n hn).1] at hd
  generalize toN ns = hs at hle hlen2 hd h1
  try dsimp only [dIfS, dOr, dAnd, dNot, dTest, dOp, dUn, dCB, dCons, dNil, dVar, dC, dSeq, dAsg, hName, dRet, dRetF, dRetN, dRaise, dNext, dDrop, dAppend, dCall, gI, gIC, gU, gMM, dChain, dAndV, dOrV, dNotV, dTup, dLst, dLstB, dNewK, dNewT, dPar, dAug, hTup, hCons, hEnd, hSub, dISeq, dIEn, dIR1, dIR2, dFor, dLc, dLcB, hPair, dYes, dBreak, dCont, dIf, dQuant, getS, setS, startD, DL.gSub, gDiv, gMod, gPow, gShl, gXor, gAddI, gLt, gLe, gGt, gGe, gNegU, gMax2, gMin2, gAbs, gIntC, gEq, gIsN, gAdd, gMul, dSl, dNoPart, dPart, wipeD, List.set, rNot, rChain, rOp, rVar, rC, rAnd, hLt, hLe, hGt, hGe, hEq, DL.rI, dSetF, dFld, dMeth, dMake, dMaxD, dJoin, dStarts, dIStr, dAnyS, dAnyZ, dIEnC, dLstRg2, dLcR, dCallR, dLam]
  refine ⟨trivial, fun p2 hp2 => ?_⟩
  have hat : ∀ {i : Nat}, i < M + 1 → ∀ {q : DK} {B : Bx}, q (.int (vT nums i : Nat)) B → gIx (.tup (iN (valT nums (M + 1)))) (.int (i : Int)) B q := fun {i} hi {q B} hq => gIx_N rfl (by rw [valT_len]; exact hi) (by rw [valT_at nums hi]; exact hq)
  refine iSq_of hd (Few.put hp2) fun gd hg => ?_
  refine for_by (fun r Γ B' => B' = put B p2 (.lst []) ∧ ∃ (ms : List Nat) (acc : Nat) (y : Option D), r = iN ms ∧ (∀ m ∈ ms, m < M + 1) ∧ Γ = [some (.ref p), some d, some (.tup (iN (valT nums (M + 1)))), some (.int (acc : Int)), some (.ref p2), y, none, none] ∧ acc ^^^ xs (ms.map (vT nums)) = xs (hs.map (vT nums)))
    ⟨rfl, hs, 0, none, rfl, hle, rfl, Nat.zero_xor _⟩ (fun r Γ B' h => by rw [h.1]; exact hg _ (Few.put hp2)) (fun Γ B' h => ?_) (fun e r Γ B' K h hk => ?_)
  · obtain ⟨rfl, ms, acc, y, h3, _, rfl, h4⟩ := h
    cases ms with
    | cons m ms => cases h3
    | nil =>
      have h4 : acc ^^^ 0 = _ := h4
      rw [Nat.xor_zero] at h4
      subst h4
      try dsimp only [dIfS, dOr, dAnd, dNot, dTest, dOp, dUn, dCB, dCons, dNil, dVar, dC, dSeq, dAsg, hName, dRet, dRetF, dRetN, dRaise, dNext, dDrop, dAppend, dCall, gI, gIC, gU, gMM, dChain, dAndV, dOrV, dNotV, dTup, dLst, dLstB, dNewK, dNewT, dPar, dAug, hTup, hCons, hEnd, hSub, dISeq, dIEn, dIR1, dIR2, dFor, dLc, dLcB, hPair, dYes, dBreak, dCont, dIf, dQuant, getS, setS, startD, DL.gSub, gDiv, gMod, gPow, gShl, gXor, gAddI, gLt, gLe, gGt, gGe, gNegU, gMax2, gMin2, gAbs, gIntC, gEq, gIsN, gAdd, gMul, dSl, dNoPart, dPart, wipeD, List.set, rNot, rChain, rOp, rVar, rC, rAnd, hLt, hLe, hGt, hGe, hEq, DL.rI, dSetF, dFld, dMeth, dMake, dMaxD, dJoin, dStarts, dIStr, dAnyS, dAnyZ, dIEnC, dLstRg2, dLcR, dCallR, dLam]
      refine iEn_of (B0 := B) hd (Few.put hp2) fun gd hg => ?_
      refine for_by (fun r Γ B' => ∃ (done : List (Nat × Nat)) (k : Nat) (ms : List Nat) (y z u : Option D), B' = put B p2 (.lst (prs done)) ∧ r = enumL k (iN ms) ∧ (∀ m ∈ ms, m < M + 1) ∧ Γ = [some (.ref p), some d, some (.tup (iN (valT nums (M + 1)))), some (.int (xs (hs.map (vT nums)) : Nat)), some (.ref p2), y, z, u] ∧
          done ++ movG (cP nums (xs (hs.map (vT nums)))) nums k ms = movG (cP nums (xs (hs.map (vT nums)))) nums 0 hs ∧ done.length + 8 * ms.length ≤ 96)
        ⟨[], 0, hs, _, none, none, rfl, rfl, hle, rfl, rfl, by simp; omega⟩ (fun r Γ B' h => by obtain ⟨done, _, _, _, _, _, rfl, _⟩ := h; exact hg _ (Few.put hp2)) (fun Γ B' h => ?_) (fun e r Γ B' K h hk => ?_)
      · obtain ⟨done, k, ms, y, z, u, rfl, h3, _, rfl, h4, h5⟩ := h
        cases ms with
        | cons m ms => cases h3
        | nil =>
          rw [show movG (cP nums (xs (hs.map (vT nums)))) nums k [] = [] from rfl, List.append_nil] at h4
          subst h4
          exact gTuple_ref put_same ⟨B, Few.put hp2, h1⟩
      · obtain ⟨done, k, ms, y, z, u, rfl, h3, h6, rfl, h4, h5⟩ := h
        cases ms with
        | nil => cases h3
        | cons m ms =>
          cases h3
          have hm := h6 m List.mem_cons_self
          have hT2 := hT.new (b := .lst (prs done)) hp2
          try dsimp only [B2_Tm, dIfS, dOr, dAnd, dNot, dTest, dOp, dUn, dCB, dCons, dNil, dVar, dC, dSeq, dAsg, hName, dRet, dRetF, dRetN, dRaise, dNext, dDrop, dAppend, dCall, gI, gIC, gU, gMM, dChain, dAndV, dOrV, dNotV, dTup, dLst, dLstB, dNewK, dNewT, dPar, dAug, hTup, hCons, hEnd, hSub, dISeq, dIEn, dIR1, dIR2, dFor, dLc, dLcB, hPair, dYes, dBreak, dCont, dIf, dQuant, getS, setS, startD, DL.gSub, gDiv, gMod, gPow, gShl, gXor, gAddI, gLt, gLe, gGt, gGe, gNegU, gMax2, gMin2, gAbs, gIntC, gEq, gIsN, gAdd, gMul, dSl, dNoPart, dPart, wipeD, List.set, rNot, rChain, rOp, rVar, rC, rAnd, hLt, hLe, hGt, hGe, hEq, DL.rI, dSetF, dFld, dMeth, dMake, dMaxD, dJoin, dStarts, dIStr, dAnyS, dAnyZ, dIEnC, dLstRg2, dLcR, dCallR, dLam]
          refine hT2.get (show DL.forK none _ _ _ (iN nums) _ _ from ?_)
          refine for_by (fun r Γ B' => ∃ (dn : List (Nat × Nat)) (rn : List Nat) (u : Option D), B' = put B p2 (.lst (prs dn)) ∧ r = iN rn ∧ Γ = [some (.ref p), some d, some (.tup (iN (valT nums (M + 1)))), some (.int (xs (hs.map (vT nums)) : Nat)), some (.ref p2), some (.int (m : Int)), some (.int (k : Int)), u] ∧
              dn ++ (rn.filter (cP nums (xs (hs.map (vT nums))) k m)).map (fun a => (k, a)) = done ++ (nums.filter (cP nums (xs (hs.map (vT nums))) k m)).map (fun a => (k, a)) ∧ (∀ a ∈ rn, 1 ≤ a) ∧ dn.length + rn.length ≤ done.length + 8)
            ⟨done, nums, _, rfl, rfl, rfl, rfl, hT.pos, by have := hT.len; omega⟩ (fun r Γ B' h f e => by cases e) (fun Γ B' h => ?_) (fun e r Γ B' K' h hk' => ?_)
          · obtain ⟨dn, rn, u, rfl, h7, rfl, h8, h9, h10⟩ := h
            cases rn with
            | cons a rn => cases h7
            | nil =>
              rw [List.filter_nil, List.map_nil, List.append_nil] at h8
              refine hk _ _ ⟨dn, k + 1, ms, _, _, _, rfl, rfl, fun n hn => h6 n (List.mem_cons_of_mem _ hn), rfl, ?_, ?_⟩
              · rw [h8, ← h4, List.append_assoc]; rfl
              · simp at h5 h10; omega
          · obtain ⟨dn, rn, u, rfl, h7, rfl, h8, h9, h10⟩ := h
            cases rn with
            | nil => cases h7
            | cons a rn =>
              cases h7
              have ha := h9 a List.mem_cons_self
              try dsimp only [B1_Tm, dIfS, dOr, dAnd, dNot, dTest, dOp, dUn, dCB, dCons, dNil, dVar, dC, dSeq, dAsg, hName, dRet, dRetF, dRetN, dRaise, dNext, dDrop, dAppend, dCall, gI, gIC, gU, gMM, dChain, dAndV, dOrV, dNotV, dTup, dLst, dLstB, dNewK, dNewT, dPar, dAug, hTup, hCons, hEnd, hSub, dISeq, dIEn, dIR1, dIR2, dFor, dLc, dLcB, hPair, dYes, dBreak, dCont, dIf, dQuant, getS, setS, startD, DL.gSub, gDiv, gMod, gPow, gShl, gXor, gAddI, gLt, gLe, gGt, gGe, gNegU, gMax2, gMin2, gAbs, gIntC, gEq, gIsN, gAdd, gMul, dSl, dNoPart, dPart, wipeD, List.set, rNot, rChain, rOp, rVar, rC, rAnd, hLt, hLe, hGt, hGe, hEq, DL.rI, dSetF, dFld, dMeth, dMake, dMaxD, dJoin, dStarts, dIStr, dAnyS, dAnyZ, dIEnC, dLstRg2, dLcR, dCallR, dLam]
              have skip : cP nums (xs (hs.map (vT nums))) k m a = false → K' [some (.ref p), some d, some (.tup (iN (valT nums (M + 1)))), some (.int (xs (hs.map (vT nums)) : Nat)), some (.ref p2), some (.int (m : Int)), some (.int (k : Int)), some (.int (a : Int))] (put B p2 (.lst (prs dn))) := fun hc =>
                hk' _ _ ⟨dn, rn, _, rfl, rfl, rfl, by rw [← h8, List.filter_cons_of_neg (by rw [hc]; decide)], fun n hn => h9 n (List.mem_cons_of_mem _ hn), by simp at h10; omega⟩
              refine ite_dec (fun c => ?_) (fun c => if_no rfl (skip (by unfold cP; rw [decide_eq_false (by omega)]; rfl)))
              have hc : a ≤ m := by omega
              rw [show (m : Int) - (a : Int) = ((m - a : Nat) : Int) by omega]
              refine hat (by omega) (hat hm ?_)
              try dsimp only [dIfS, dOr, dAnd, dNot, dTest, dOp, dUn, dCB, dCons, dNil, dVar, dC, dSeq, dAsg, hName, dRet, dRetF, dRetN, dRaise, dNext, dDrop, dAppend, dCall, gI, gIC, gU, gMM, dChain, dAndV, dOrV, dNotV, dTup, dLst, dLstB, dNewK, dNewT, dPar, dAug, hTup, hCons, hEnd, hSub, dISeq, dIEn, dIR1, dIR2, dFor, dLc, dLcB, hPair, dYes, dBreak, dCont, dIf, dQuant, getS, setS, startD, DL.gSub, gDiv, gMod, gPow, gShl, gXor, gAddI, gLt, gLe, gGt, gGe, gNegU, gMax2, gMin2, gAbs, gIntC, gEq, gIsN, gAdd, gMul, dSl, dNoPart, dPart, wipeD, List.set, rNot, rChain, rOp, rVar, rC, rAnd, hLt, hLe, hGt, hGe, hEq, DL.rI, dSetF, dFld, dMeth, dMake, dMaxD, dJoin, dStarts, dIStr, dAnyS, dAnyZ, dIEnC, dLstRg2, dLcR, dCallR, dLam]
              rw [Bool.false_xor, bxN]
              refine ite_dec (fun c2 => ?_) (fun c2 => skip (by unfold cP; rw [decide_eq_false (p := vT nums (m - a) = _) (by omega), Bool.and_false]))
              have hcp : cP nums (xs (hs.map (vT nums))) k m a = true := by
                unfold cP
                rw [decide_eq_true hc, decide_eq_true (by omega)]; rfl
              refine ⟨⟨_, put_same⟩, trivial, _, put_same, lt_size (by rw [prs_len]; simp at h5 h10; omega), hk' _ _ ⟨dn ++ [(k, a)], rn, _, ?_, rfl, rfl, ?_, fun n hn => h9 n (List.mem_cons_of_mem _ hn), by simp at h10 ⊢; omega⟩⟩
              · rw [put_put]; unfold prs; rw [List.map_append]; rfl
              · rw [← h8, List.filter_cons_of_pos hcp, List.append_assoc]; rfl
  · obtain ⟨rfl, ms, acc, y, h3, h5, rfl, h4⟩ := h
    cases ms with
    | nil => cases h3
    | cons m ms =>
      cases h3
      try dsimp only [B3_Tm, dIfS, dOr, dAnd, dNot, dTest, dOp, dUn, dCB, dCons, dNil, dVar, dC, dSeq, dAsg, hName, dRet, dRetF, dRetN, dRaise, dNext, dDrop, dAppend, dCall, gI, gIC, gU, gMM, dChain, dAndV, dOrV, dNotV, dTup, dLst, dLstB, dNewK, dNewT, dPar, dAug, hTup, hCons, hEnd, hSub, dISeq, dIEn, dIR1, dIR2, dFor, dLc, dLcB, hPair, dYes, dBreak, dCont, dIf, dQuant, getS, setS, startD, DL.gSub, gDiv, gMod, gPow, gShl, gXor, gAddI, gLt, gLe, gGt, gGe, gNegU, gMax2, gMin2, gAbs, gIntC, gEq, gIsN, gAdd, gMul, dSl, dNoPart, dPart, wipeD, List.set, rNot, rChain, rOp, rVar, rC, rAnd, hLt, hLe, hGt, hGe, hEq, DL.rI, dSetF, dFld, dMeth, dMake, dMaxD, dJoin, dStarts, dIStr, dAnyS, dAnyZ, dIEnC, dLstRg2, dLcR, dCallR, dLam]
      refine hat (h5 m List.mem_cons_self) ?_
      try dsimp only [dIfS, dOr, dAnd, dNot, dTest, dOp, dUn, dCB, dCons, dNil, dVar, dC, dSeq, dAsg, hName, dRet, dRetF, dRetN, dRaise, dNext, dDrop, dAppend, dCall, gI, gIC, gU, gMM, dChain, dAndV, dOrV, dNotV, dTup, dLst, dLstB, dNewK, dNewT, dPar, dAug, hTup, hCons, hEnd, hSub, dISeq, dIEn, dIR1, dIR2, dFor, dLc, dLcB, hPair, dYes, dBreak, dCont, dIf, dQuant, getS, setS, startD, DL.gSub, gDiv, gMod, gPow, gShl, gXor, gAddI, gLt, gLe, gGt, gGe, gNegU, gMax2, gMin2, gAbs, gIntC, gEq, gIsN, gAdd, gMul, dSl, dNoPart, dPart, wipeD, List.set, rNot, rChain, rOp, rVar, rC, rAnd, hLt, hLe, hGt, hGe, hEq, DL.rI, dSetF, dFld, dMeth, dMake, dMaxD, dJoin, dStarts, dIStr, dAnyS, dAnyZ, dIEnC, dLstRg2, dLcR, dCallR, dLam]
      rw [bxN]
      exact hk _ _ ⟨rfl, ms, acc ^^^ vT nums m, _, rfl, fun n hn => h5 n (List.mem_cons_of_mem _ hn), rfl, by rw [← h4, Nat.xor_assoc]; rfl⟩
/-! ### Taking.repeats -/
def repD : Option (Nat × Nat) → D
  | none => .non
  | some p => .tup [.int (p.1 : Int), .int (p.2 : Int)]
theorem last_N {ns : List Nat} (h : ns ≠ []) : atI (iN ns) (-1) = some (.int (ns.getLastD 0 : Nat)) := by
  have hl : (iN ns).length = ns.length := iN_len ns
  have hp : 0 < ns.length := List.length_pos_iff.mpr h
  have e : atI (iN ns) (-1) = (iN ns)[ns.length - 1]? := by
    unfold L2.atI L2.ixN
    rw [hl, if_neg (by decide), if_pos (by omega)]
    show (iN ns)[((-1 : Int) + (ns.length : Int)).toNat]? = _
    rw [show ((-1 : Int) + (ns.length : Int)).toNat = ns.length - 1 by omega]
  rw [e]
  unfold iN
  rw [List.getElem?_map, List.getElem?_eq_getElem (by omega), List.getLastD_eq_getLast?, List.getLast?_eq_getElem?, List.getElem?_eq_getElem (by omega)]
  rfl
def sp_Tr (C CE : Addr) : SpD := fun ds B q x => ∃ (p : Addr) (nums : List Nat) (r : Option (Nat × Nat)), ds = [.ref p] ∧ TkB C p nums B ∧ repT nums = r ∧ q (repD r) B
theorem rd_Tr {C CE : Addr} {ds : List D} {B : Bx} {q : DK} {x : XD} (h : sp_Tr C CE ds B q x) : t_Tr (sp_Tw C CE) C (endsD q x) (startD N_Tr ds) B := by
  obtain ⟨p, nums, RR, rfl, hT, hRR, h1⟩ := h
  try dsimp only [t_Tr, N_Tr, dIfS, dOr, dAnd, dNot, dTest, dOp, dUn, dCB, dCons, dNil, dVar, dC, dSeq, dAsg, hName, dRet, dRetF, dRetN, dRaise, dNext, dDrop, dAppend, dCall, gI, gIC, gU, gMM, dChain, dAndV, dOrV, dNotV, dTup, dLst, dLstB, dNewK, dNewT, dPar, dAug, hTup, hCons, hEnd, hSub, dISeq, dIEn, dIR1, dIR2, dFor, dLc, dLcB, hPair, dYes, dBreak, dCont, dIf, dQuant, getS, setS, startD, DL.gSub, gDiv, gMod, gPow, gShl, gXor, gAddI, gLt, gLe, gGt, gGe, gNegU, gMax2, gMin2, gAbs, gIntC, gEq, gIsN, gAdd, gMul, dSl, dNoPart, dPart, wipeD, List.set, rNot, rChain, rOp, rVar, rC, rAnd, hLt, hLe, hGt, hGe, hEq, DL.rI, dSetF, dFld, dMeth, dMake, dMaxD, dJoin, dStarts, dIStr, dAnyS, dAnyZ, dIEnC, dLstRg2, dLcR, dCallR, dLam]
  refine ⟨p, _, rfl, hT.at_, by rfl, ?_⟩
  refine ⟨p, nums, 600, rfl, hT, fun _ _ => ?_, fun no => absurd ⟨by decide, by decide⟩ no⟩
  refine hT.get ⟨-1, _, rfl, last_N hT.ne, ?_⟩
  obtain ⟨vs, hvs⟩ : ∃ vs, vs = valT nums 601 := ⟨_, rfl⟩
  obtain ⟨rch, hr⟩ : ∃ rch, rch = nums.getLastD 0 := ⟨_, rfl⟩
  have hl : vs.length = 601 := by rw [hvs, valT_len]
  have hrep : repG vs rch 1 199 = RR := by rw [← hRR, hvs, hr]; rfl
  rw [show (600 : Int).toNat + 1 = 601 from rfl, ← hvs, ← hr]
  try dsimp only [dIfS, dOr, dAnd, dNot, dTest, dOp, dUn, dCB, dCons, dNil, dVar, dC, dSeq, dAsg, hName, dRet, dRetF, dRetN, dRaise, dNext, dDrop, dAppend, dCall, gI, gIC, gU, gMM, dChain, dAndV, dOrV, dNotV, dTup, dLst, dLstB, dNewK, dNewT, dPar, dAug, hTup, hCons, hEnd, hSub, dISeq, dIEn, dIR1, dIR2, dFor, dLc, dLcB, hPair, dYes, dBreak, dCont, dIf, dQuant, getS, setS, startD, DL.gSub, gDiv, gMod, gPow, gShl, gXor, gAddI, gLt, gLe, gGt, gGe, gNegU, gMax2, gMin2, gAbs, gIntC, gEq, gIsN, gAdd, gMul, dSl, dNoPart, dPart, wipeD, List.set, rNot, rChain, rOp, rVar, rC, rAnd, hLt, hLe, hGt, hGe, hEq, DL.rI, dSetF, dFld, dMeth, dMake, dMaxD, dJoin, dStarts, dIStr, dAnyS, dAnyZ, dIEnC, dLstRg2, dLcR, dCallR, dLam]
  refine ⟨by omega, ?_⟩
  refine for_by (fun r Γ B' => B' = B ∧ ∃ (many n : Nat) (y z : Option D), r = upto (many : Int) n ∧ Γ = [some (.ref p), some (.tup (iN vs)), some (.int (rch : Int)), y, z] ∧ many + n = 200 ∧ 1 ≤ many ∧ repG vs rch many n = RR)
    ⟨rfl, 1, 199, none, none, rfl, rfl, rfl, by decide, hrep⟩ (fun r Γ B' h f e => by cases e) (fun Γ B' h => ?_) (fun e r Γ B' K h hk => ?_)
  · obtain ⟨rfl, many, n, y, z, h3, rfl, h4, h5, h6⟩ := h
    cases n with
    | succ n => cases h3
    | zero =>
      rw [← h6] at h1
      exact here h1
  · obtain ⟨rfl, many, n, y, z, h3, rfl, h4, h5, h6⟩ := h
    cases n with
    | zero => cases h3
    | succ n =>
      cases h3
      try dsimp only [B1_Tr, dIfS, dOr, dAnd, dNot, dTest, dOp, dUn, dCB, dCons, dNil, dVar, dC, dSeq, dAsg, hName, dRet, dRetF, dRetN, dRaise, dNext, dDrop, dAppend, dCall, gI, gIC, gU, gMM, dChain, dAndV, dOrV, dNotV, dTup, dLst, dLstB, dNewK, dNewT, dPar, dAug, hTup, hCons, hEnd, hSub, dISeq, dIEn, dIR1, dIR2, dFor, dLc, dLcB, hPair, dYes, dBreak, dCont, dIf, dQuant, getS, setS, startD, DL.gSub, gDiv, gMod, gPow, gShl, gXor, gAddI, gLt, gLe, gGt, gGe, gNegU, gMax2, gMin2, gAbs, gIntC, gEq, gIsN, gAdd, gMul, dSl, dNoPart, dPart, wipeD, List.set, rNot, rChain, rOp, rVar, rC, rAnd, hLt, hLe, hGt, hGe, hEq, DL.rI, dSetF, dFld, dMeth, dMake, dMaxD, dJoin, dStarts, dIStr, dAnyS, dAnyZ, dIEnC, dLstRg2, dLcR, dCallR, dLam]
      obtain ⟨bk, hbk⟩ : ∃ bk, bk = back vs many (601 - many) := ⟨_, rfl⟩
      have fin : ∀ f, f = bk → (if decide (((f : Int) - 1 + 1) + (many : Int) + (rch : Int) ≤ 600) = true then DL.sizeOk [D.int ((f : Int) - 1 + 1), D.int (many : Int)] ∧ (endsD q x).rt (.tup [.int ((f : Int) - 1 + 1), .int (many : Int)]) B' else K [some (.ref p), some (.tup (iN vs)), some (.int (rch : Int)), some (.int (many : Int)), some (.int ((f : Int) - 1))] B') := fun f hf => by
        rw [show (f : Int) - 1 + 1 = (f : Int) by omega]
        unfold repG at h6
        rw [← hbk, ← hf] at h6
        refine ite_dec (fun c => ⟨trivial, here ?_⟩) (fun c => ?_)
        · rw [if_pos (by omega)] at h6
          rw [← h6] at h1
          exact h1
        · rw [if_neg (by omega)] at h6
          exact hk _ _ ⟨rfl, many + 1, n, _, _, rfl, rfl, by omega, by omega, h6⟩
      refine ⟨fun m Γ B2 => B2 = B' ∧ Γ = [some (.ref p), some (.tup (iN vs)), some (.int (rch : Int)), some (.int (many : Int)), some (.int ((m : Int) - 1))] ∧ m + many ≤ 601 ∧ back vs many m = bk, ⟨601 - many, rfl, ?_, by omega, hbk.symm⟩, fun m Γ B2 h => ?_⟩
      · rw [show (600 : Int) - (many : Int) = ((601 - many : Nat) : Int) - 1 by omega]
      · obtain ⟨rfl, rfl, h7, h8⟩ := h
        try dsimp only [dIfS, dOr, dAnd, dNot, dTest, dOp, dUn, dCB, dCons, dNil, dVar, dC, dSeq, dAsg, hName, dRet, dRetF, dRetN, dRaise, dNext, dDrop, dAppend, dCall, gI, gIC, gU, gMM, dChain, dAndV, dOrV, dNotV, dTup, dLst, dLstB, dNewK, dNewT, dPar, dAug, hTup, hCons, hEnd, hSub, dISeq, dIEn, dIR1, dIR2, dFor, dLc, dLcB, hPair, dYes, dBreak, dCont, dIf, dQuant, getS, setS, startD, DL.gSub, gDiv, gMod, gPow, gShl, gXor, gAddI, gLt, gLe, gGt, gGe, gNegU, gMax2, gMin2, gAbs, gIntC, gEq, gIsN, gAdd, gMul, dSl, dNoPart, dPart, wipeD, List.set, rNot, rChain, rOp, rVar, rC, rAnd, hLt, hLe, hGt, hGe, hEq, DL.rI, dSetF, dFld, dMeth, dMake, dMaxD, dJoin, dStarts, dIStr, dAnyS, dAnyZ, dIEnC, dLstRg2, dLcR, dCallR, dLam]
        refine ite_dec (fun c => ?_) (fun c => ?_)
        · obtain ⟨m, rfl⟩ : ∃ k, m = k + 1 := ⟨m - 1, by omega⟩
          rw [show ((m + 1 : Nat) : Int) - 1 = (m : Int) by omega]
          refine gIx_N rfl (by omega) ?_
          rw [show (m : Int) + (many : Int) = ((m + many : Nat) : Int) by omega]
          refine gIx_N rfl (by omega) ?_
          try dsimp only [dIfS, dOr, dAnd, dNot, dTest, dOp, dUn, dCB, dCons, dNil, dVar, dC, dSeq, dAsg, hName, dRet, dRetF, dRetN, dRaise, dNext, dDrop, dAppend, dCall, gI, gIC, gU, gMM, dChain, dAndV, dOrV, dNotV, dTup, dLst, dLstB, dNewK, dNewT, dPar, dAug, hTup, hCons, hEnd, hSub, dISeq, dIEn, dIR1, dIR2, dFor, dLc, dLcB, hPair, dYes, dBreak, dCont, dIf, dQuant, getS, setS, startD, DL.gSub, gDiv, gMod, gPow, gShl, gXor, gAddI, gLt, gLe, gGt, gGe, gNegU, gMax2, gMin2, gAbs, gIntC, gEq, gIsN, gAdd, gMul, dSl, dNoPart, dPart, wipeD, List.set, rNot, rChain, rOp, rVar, rC, rAnd, hLt, hLe, hGt, hGe, hEq, DL.rI, dSetF, dFld, dMeth, dMake, dMaxD, dJoin, dStarts, dIStr, dAnyS, dAnyZ, dIEnC, dLstRg2, dLcR, dCallR, dLam]
          rw [Bool.false_xor]
          unfold back at h8
          refine ite_dec (fun c2 => ?_) (fun c2 => ?_)
          · rw [if_pos (by omega)] at h8
            exact ⟨m, by omega, rfl, rfl, by omega, h8⟩
          · rw [if_neg (by omega)] at h8
            have := fin (m + 1) h8
            rw [show ((m + 1 : Nat) : Int) - 1 = (m : Int) by omega] at this
            exact this
        · have : m = 0 := by omega
          subst this
          exact if_no rfl (fin 0 h8)
theorem tr_of {CT CE p : Addr} {B : Bx} {q : DK} {x : XD} {nums : List Nat} {r : Option (Nat × Nat)} {d : D} (hT : TkB CT p nums B) (hr : repT nums = r) (hd : repD r = d) (hq : q d B) : sp_Tr CT CE [.ref p] B q x := ⟨p, nums, r, rfl, hT, hr, by rw [hd]; exact hq⟩
end K02
set_option Elab.async false
set_option linter.all false
set_option pp.maxSteps 600
set_option maxRecDepth 100000
set_option maxHeartbeats 2000000
--MORE
namespace K02
open PySem PySem.Spec PyProof.Rows L2 DL PL
/-! ### Code -/
def okC (ns : List Int) : Bool := ((decide (0 < ns.length) && decide (ns.length ≤ 5)) && (ns.all fun n => decide (0 ≤ n) && decide (n ≤ 7))) && !decide (maxD ns = 0)
abbrev insC (C : Addr) (ns : List Int) : Box := .ins C [("figures", .tup (iL ns))]
def sp_Ci (C CE : Addr) : SpD := fun ds B q x => ∃ (p : Addr) (d : D) (ns : List Int), ds = [.ref p, d] ∧ B p = some (.ins C []) ∧ seqOf B d = some (iL ns) ∧ (∀ ys, d ≠ .rot ys) ∧ (okC ns = true → q .non (put B p (insC C ns))) ∧ (okC ns = false → ∃ B0, Few B0 B ∧ B0 p = none ∧ x CE B0)
theorem rd_Ci {C CE : Addr} {ds : List D} {B : Bx} {q : DK} {x : XD} (h : sp_Ci C CE ds B q x) : t_Ci C CE (endsD q x) (startD N_Ci ds) B := by
  obtain ⟨p, d, ns, rfl, hp, hd, hrot, h1, h2⟩ := h
  have er : okC ns = false → ∀ b, ∃ B'', Few B'' (put B p b) ∧ x CE B'' := fun e b => by
    obtain ⟨B0, f0, f1, f2⟩ := h2 e
    exact ⟨B0, few_put f0 f1, f2⟩
  try dsimp only [t_Ci, N_Ci, dIfS, dOr, dAnd, dNot, dTest, dOp, dUn, dCB, dCons, dNil, dVar, dC, dSeq, dAsg, hName, dRet, dRetF, dRetN, dRaise, dNext, dDrop, dAppend, dCall, gI, gIC, gU, gMM, dChain, dAndV, dOrV, dNotV, dTup, dLst, dLstB, dNewK, dNewT, dPar, dAug, hTup, hCons, hEnd, hSub, dISeq, dIEn, dIR1, dIR2, dFor, dLc, dLcB, hPair, dYes, dBreak, dCont, dIf, dQuant, getS, setS, startD, DL.gSub, gDiv, gMod, gPow, gShl, gXor, gAddI, gLt, gLe, gGt, gGe, gNegU, gMax2, gMin2, gAbs, gIntC, gEq, gIsN, gAdd, gMul, dSl, dNoPart, dPart, wipeD, List.set, rNot, rChain, rOp, rVar, rC, rAnd, hLt, hLe, hGt, hGe, hEq, DL.rI, dSetF, dFld, dMeth, dMake, dMaxD, dJoin, dStarts, dIStr, dAnyS, dAnyZ, dIEnC, dLstRg2, dLcR, dCallR, dLam]
  refine gTuple_seq hd hrot ⟨p, _, rfl, hp, by decide, ?_⟩
  have at_ : ∀ {q : D → Prop}, q (.tup (iL ns)) → ∃ a fs v, D.ref p = .ref a ∧ put B p (.ins C (putFD "figures" (.tup (iL ns)) [])) a = some (.ins C fs) ∧ fldD fs "figures" = some v ∧ q v := fun h => ⟨p, _, _, rfl, put_same, fld_one, h⟩
  refine at_ (gLen_seq rfl ?_)
  try dsimp only [dIfS, dOr, dAnd, dNot, dTest, dOp, dUn, dCB, dCons, dNil, dVar, dC, dSeq, dAsg, hName, dRet, dRetF, dRetN, dRaise, dNext, dDrop, dAppend, dCall, gI, gIC, gU, gMM, dChain, dAndV, dOrV, dNotV, dTup, dLst, dLstB, dNewK, dNewT, dPar, dAug, hTup, hCons, hEnd, hSub, dISeq, dIEn, dIR1, dIR2, dFor, dLc, dLcB, hPair, dYes, dBreak, dCont, dIf, dQuant, getS, setS, startD, DL.gSub, gDiv, gMod, gPow, gShl, gXor, gAddI, gLt, gLe, gGt, gGe, gNegU, gMax2, gMin2, gAbs, gIntC, gEq, gIsN, gAdd, gMul, dSl, dNoPart, dPart, wipeD, List.set, rNot, rChain, rOp, rVar, rC, rAnd, hLt, hLe, hGt, hGe, hEq, DL.rI, dSetF, dFld, dMeth, dMake, dMaxD, dJoin, dStarts, dIStr, dAnyS, dAnyZ, dIEnC, dLstRg2, dLcR, dCallR, dLam]
  rw [iL_len]
  have bad : (decide (0 < ns.length) && decide (ns.length ≤ 5)) = false → okC ns = false := fun e => by unfold okC; rw [e]; rfl
  refine ite_dec (fun c1 => ite_ndec (fun c2 => if_yes rfl (er (bad (by simp; omega)) _)) (fun c2 => ?_)) (fun c1 => if_yes rfl (if_yes rfl (er (bad (by simp; omega)) _)))
  have good : (decide (0 < ns.length) && decide (ns.length ≤ 5)) = true := by simp; omega
  refine at_ ⟨iL ns, notI fun n => decide (0 ≤ n) && decide (n ≤ 7), rfl, fun e he => ?_, ?_⟩
  · obtain ⟨n, hn, rfl⟩ := List.mem_map.mp he
    dsimp only [notI]
    by_cases h0 : 0 ≤ n <;> simp [h0]
  rw [if_neg (by decide : ¬ (false = true)), any_notI ns fun n => decide (0 ≤ n) && decide (n ≤ 7)]
  refine ite_of (fun h => er ?_ _) (fun h => ?_)
  · unfold okC
    rw [Bool.not_eq_true'] at h
    rw [h, Bool.and_false, Bool.false_and]
  rw [Bool.not_eq_false'] at h
  cases hns : ns with
  | nil => rw [hns] at c1; exact absurd c1 (by decide)
  | cons a r =>
    refine ⟨p, _, _, rfl, put_same, fld_one, a, r, ?_, ?_⟩
    · exact intsOf_of rfl
    try dsimp only [dIfS, dOr, dAnd, dNot, dTest, dOp, dUn, dCB, dCons, dNil, dVar, dC, dSeq, dAsg, hName, dRet, dRetF, dRetN, dRaise, dNext, dDrop, dAppend, dCall, gI, gIC, gU, gMM, dChain, dAndV, dOrV, dNotV, dTup, dLst, dLstB, dNewK, dNewT, dPar, dAug, hTup, hCons, hEnd, hSub, dISeq, dIEn, dIR1, dIR2, dFor, dLc, dLcB, hPair, dYes, dBreak, dCont, dIf, dQuant, getS, setS, startD, DL.gSub, gDiv, gMod, gPow, gShl, gXor, gAddI, gLt, gLe, gGt, gGe, gNegU, gMax2, gMin2, gAbs, gIntC, gEq, gIsN, gAdd, gMul, dSl, dNoPart, dPart, wipeD, List.set, rNot, rChain, rOp, rVar, rC, rAnd, hLt, hLe, hGt, hGe, hEq, DL.rI, dSetF, dFld, dMeth, dMake, dMaxD, dJoin, dStarts, dIStr, dAnyS, dAnyZ, dIEnC, dLstRg2, dLcR, dCallR, dLam]
    rw [Bool.false_xor]
    have em : maxD ns = maxI a r := by rw [hns]; rfl
    rw [← hns]
    rw [← em]
    refine ite_dec (fun h3 => er ?_ _) (fun h3 => here (h1 ?_))
    · unfold okC; rw [decide_eq_true h3, Bool.not_true, Bool.and_false]
    · unfold okC; rw [good, h, decide_eq_false h3]; rfl
/-- a code that stands at p -/
structure CoB (C p : Addr) (figs : List Nat) (B : Bx) : Prop where
  at_ : B p = some (.ins C [("figures", .tup (iN figs))])
  le : ∀ m ∈ figs, m ≤ 7
  len : figs.length ≤ 5
theorem CoB.get {C p : Addr} {figs : List Nat} {B : Bx} (h : CoB C p figs B) {q : D → Prop} (hq : q (.tup (iN figs))) : ∃ a fs v, D.ref p = .ref a ∧ B a = some (.ins C fs) ∧ fldD fs "figures" = some v ∧ q v := ⟨p, _, _, rfl, h.at_, fld_one, hq⟩
theorem CoB.new {C p a : Addr} {figs : List Nat} {B : Bx} {b : Box} (h : CoB C p figs B) (ha : B a = none) : CoB C p figs (put B a b) := ⟨by rw [put_ne (ne_box h.at_ ha)]; exact h.at_, h.le, h.len⟩
theorem CoB.lst {C p a : Addr} {figs : List Nat} {B : Bx} {ys : List D} {b : Box} (h : CoB C p figs B) (ha : B a = some (.lst ys)) : CoB C p figs (put B a b) := ⟨by rw [put_ne (ne_boxes h.at_ ha (fun z => by cases z))]; exact h.at_, h.le, h.len⟩
theorem CoB.dT {C p a : Addr} {figs : List Nat} {B : Bx} {ys : List (List Key × D)} {b : Box} (h : CoB C p figs B) (ha : B a = some (.dT ys)) : CoB C p figs (put B a b) := ⟨by rw [put_ne (ne_boxes h.at_ ha (fun z => by cases z))]; exact h.at_, h.le, h.len⟩
/-! ### rows as the text has them -/
def castL (r : List Nat) : List Int := r.map fun (n : Nat) => (n : Int)
theorem tupI_cast (r : List Nat) : tupI (castL r) = .tup (iN r) := by unfold tupI castL iN; rw [List.map_map]; rfl
abbrev addR (ks : List (List Int)) (r : List Int) : List (List Int) := addD ks r
theorem addR_len (ks : List (List Int)) (r : List Int) : (addR ks r).length ≤ ks.length + 1 := by
  unfold addR addD
  split
  · omega
  · simp
theorem dd_add (l : List (List Int)) : dd l = l.foldl addR [] := rfl
/-- the options, sorted -/
def optC (figs : List Nat) (h : Nat) : List (List Nat) := (sortL (dd ((rowsF h 1 figs).map castL))).map toN
def rowsD (l : List (List Nat)) : List D := l.map fun r => .tup (iN r)
theorem rowsD_len (l : List (List Nat)) : (rowsD l).length = l.length := List.length_map ..
theorem sort_in {figs : List Nat} {h : Nat} {r : List Int} (hr : r ∈ sortL (dd ((rowsF h 1 figs).map castL))) : ∃ r0 ∈ rowsF h 1 figs, r = castL r0 := by
  have h1 := dd_mem ((sortL_perm _).mem_iff.mp hr)
  obtain ⟨r0, h2, h3⟩ := List.mem_map.mp h1
  exact ⟨r0, h2, h3.symm⟩
theorem opt_ok {figs : List Nat} (h : Nat) : ∀ row ∈ optC figs h, RowOk h row := fun row hr => by
  obtain ⟨r, h1, rfl⟩ := List.mem_map.mp hr
  obtain ⟨r0, h2, rfl⟩ := sort_in h1
  rw [show toN (castL r0) = r0 from toN_cast r0]
  exact rowsF_ok (Nat.le_refl 1) h2
theorem opt_tup (figs : List Nat) (h : Nat) : (sortL (dd ((rowsF h 1 figs).map castL))).map tupI = rowsD (optC figs h) := by
  unfold rowsD optC
  rw [List.map_map]
  refine List.map_congr_left fun r hr => ?_
  obtain ⟨r0, h2, rfl⟩ := sort_in hr
  show tupI (castL r0) = D.tup (iN (toN (castL r0)))
  rw [tupI_cast, show toN (castL r0) = r0 from toN_cast r0]
theorem first_ok (figs : List Nat) (h : Nat) : 2 ≤ (dd ((rowsF h 1 figs).map castL)).length → ∀ r, (dd ((rowsF h 1 figs).map castL))[0]? = some r → r ≠ [] := fun h2 r h1 e => by
  subst e
  cases hr : rowsF h 1 figs with
  | nil => rw [hr] at h1; cases h1
  | cons a t =>
    rw [hr] at h1 h2
    have h3 := dd_head (a := castL a) (l := t.map castL)
    rw [List.head?_eq_getElem?] at h3
    rw [List.map_cons, h3] at h1
    have ha : a = [] := by
      cases a with
      | nil => rfl
      | cons b a => cases h1
    subst ha
    rw [rowsF_nil hr] at h2
    have := dd_len (l := (([] : List Nat) :: []).map castL)
    simp at this h2
    omega
theorem row1_len (heap k f : Nat) : (row1 heap k f).length ≤ heap + 2 := by
  unfold row1
  rw [List.length_append, List.length_append]
  have h1 : (if heap = k ∧ f % 2 = 1 then [[]] else [] : List (List Nat)).length ≤ 1 := by split <;> simp
  have h2 : (if k < heap ∧ f / 2 % 2 = 1 then [[heap - k]] else [] : List (List Nat)).length ≤ 1 := by split <;> simp
  have h3 : (if k + 1 < heap ∧ 4 ≤ f then (List.range' 1 ((heap - k) / 2)).map fun o => [o, heap - k - o] else [] : List (List Nat)).length ≤ heap := by
    split
    · rw [List.length_map, List.length_range']; omega
    · simp
  omega
theorem fold_len : ∀ (l ks : List (List Int)), (l.foldl addR ks).length ≤ ks.length + l.length
  | [], ks => Nat.le_refl _
  | r :: l, ks => by
    have := fold_len l (addR ks r)
    have := addR_len ks r
    show (l.foldl addR (addR ks r)).length ≤ _
    rw [List.length_cons]; omega
theorem gSet_R {B : Bx} {a : Addr} {f : List Int → D} {ks : List (List Int)} {r : List Int} {v : D} {q : Bx → Prop} (h : B a = some (.dT (memo f ks))) (hl : ks.length < 1000000) (hv : v = f r) (hq : q (put B a (.dT (memo f (addR ks r))))) : gSet (.ref a) (.tup (r.map .int)) v B q := by
  refine ⟨_, h, r.map .int, r.map Sum.inl, rfl, keysD_ints r, ?_, ?_⟩
  · unfold memo; rw [List.length_map]; exact lt_size hl
  · rw [hv, memo_put]
    have e : addR ks r = if r ∈ ks then ks else ks ++ [r] := by
      unfold addR addD
      by_cases hr : r ∈ ks
      · rw [if_pos hr, if_pos hr]
      · rw [if_neg hr, if_neg hr]
    rw [← e]; exact hq
abbrev fT : List Int → D := fun _ => .bl true
section
variable {B : Bx} {E : DEnds} {p2 : Addr} {ks : List (List Int)} {z0 z3 z6 : Option D} {h k f : Nat}
theorem bool_and {a b : Bool} {p q : Prop} (h1 : a = true → b = true → p) (h2 : (a && b) = false → q) : (if a = true then (if b = true then p else q) else if false = true then p else q) := by
  cases a with
  | true =>
    cases b with
    | true => exact if_yes rfl (if_yes rfl (h1 rfl rfl))
    | false => exact if_yes rfl (if_no rfl (h2 rfl))
  | false => exact if_no rfl (h2 rfl)
theorem so4 (hB : B p2 = some (.dT (memo fT ks))) (hl : ks.length < 900000)
    (hn : ∀ ks', ks' = ((if h = k ∧ f % 2 = 1 then [[]] else [] : List (List Nat)).map castL).foldl addR ks → ks'.length ≤ ks.length + 1 → E.nx [z0, some (.int (h : Int)), some (.ref p2), z3, some (.int (f : Int)), some (.int ((h : Int) - (k : Int))), z6] (put B p2 (.dT (memo fT ks')))) :
    S4_Co E [z0, some (.int (h : Int)), some (.ref p2), z3, some (.int (f : Int)), some (.int ((h : Int) - (k : Int))), z6] B := by
  try dsimp only [S4_Co, dIfS, dOr, dAnd, dNot, dTest, dOp, dUn, dCB, dCons, dNil, dVar, dC, dSeq, dAsg, hName, dRet, dRetF, dRetN, dRaise, dNext, dDrop, dAppend, dCall, gI, gIC, gU, gMM, dChain, dAndV, dOrV, dNotV, dTup, dLst, dLstB, dNewK, dNewT, dPar, dAug, hTup, hCons, hEnd, hSub, dISeq, dIEn, dIR1, dIR2, dFor, dLc, dLcB, hPair, dYes, dBreak, dCont, dIf, dQuant, getS, setS, startD, DL.gSub, gDiv, gMod, gPow, gShl, gXor, gAddI, gLt, gLe, gGt, gGe, gNegU, gMax2, gMin2, gAbs, gIntC, gEq, gIsN, gAdd, gMul, dSl, dNoPart, dPart, wipeD, List.set, rNot, rChain, rOp, rVar, rC, rAnd, hLt, hLe, hGt, hGe, hEq, DL.rI, dSetF, dFld, dMeth, dMake, dMaxD, dJoin, dStarts, dIStr, dAnyS, dAnyZ, dIEnC, dLstRg2, dLcR, dCallR, dLam]
  rw [Bool.false_xor, Bool.false_xor]
  have no : ¬ (h = k ∧ f % 2 = 1) → E.nx [z0, some (.int (h : Int)), some (.ref p2), z3, some (.int (f : Int)), some (.int ((h : Int) - (k : Int))), z6] B := fun hc => by
    have := hn ks (by rw [if_neg hc]; rfl) (by omega)
    rw [put_eq hB] at this
    exact this
  exact ite_dec (fun c1 => ⟨by decide, ite_dec (fun c2 => ⟨trivial, gSet_R (r := []) hB (by omega) rfl (hn _ (by rw [if_pos ⟨by omega, by omega⟩]; rfl) (addR_len _ _))⟩) (fun c2 => no (by omega))⟩) (fun c1 => if_no rfl (no (by omega)))
theorem so5 (hB : B p2 = some (.dT (memo fT ks))) (hl : ks.length < 900000)
    (hn : ∀ ks', ks' = ((if k < h ∧ f / 2 % 2 = 1 then [[h - k]] else [] : List (List Nat)).map castL).foldl addR ks → ks'.length ≤ ks.length + 1 → E.nx [z0, some (.int (h : Int)), some (.ref p2), z3, some (.int (f : Int)), some (.int ((h : Int) - (k : Int))), z6] (put B p2 (.dT (memo fT ks')))) :
    S5_Co E [z0, some (.int (h : Int)), some (.ref p2), z3, some (.int (f : Int)), some (.int ((h : Int) - (k : Int))), z6] B := by
  try dsimp only [S5_Co, dIfS, dOr, dAnd, dNot, dTest, dOp, dUn, dCB, dCons, dNil, dVar, dC, dSeq, dAsg, hName, dRet, dRetF, dRetN, dRaise, dNext, dDrop, dAppend, dCall, gI, gIC, gU, gMM, dChain, dAndV, dOrV, dNotV, dTup, dLst, dLstB, dNewK, dNewT, dPar, dAug, hTup, hCons, hEnd, hSub, dISeq, dIEn, dIR1, dIR2, dFor, dLc, dLcB, hPair, dYes, dBreak, dCont, dIf, dQuant, getS, setS, startD, DL.gSub, gDiv, gMod, gPow, gShl, gXor, gAddI, gLt, gLe, gGt, gGe, gNegU, gMax2, gMin2, gAbs, gIntC, gEq, gIsN, gAdd, gMul, dSl, dNoPart, dPart, wipeD, List.set, rNot, rChain, rOp, rVar, rC, rAnd, hLt, hLe, hGt, hGe, hEq, DL.rI, dSetF, dFld, dMeth, dMake, dMaxD, dJoin, dStarts, dIStr, dAnyS, dAnyZ, dIEnC, dLstRg2, dLcR, dCallR, dLam]
  rw [Bool.false_xor]
  have no : ¬ (k < h ∧ f / 2 % 2 = 1) → E.nx [z0, some (.int (h : Int)), some (.ref p2), z3, some (.int (f : Int)), some (.int ((h : Int) - (k : Int))), z6] B := fun hc => by
    have := hn ks (by rw [if_neg hc]; rfl) (by omega)
    rw [put_eq hB] at this
    exact this
  refine ite_dec (fun c1 => ⟨⟨by decide, by decide⟩, by decide, ite_dec (fun c2 => ⟨trivial, ?_⟩) (fun c2 => no (by omega))⟩) (fun c1 => if_no rfl (no (by omega)))
  rw [show (h : Int) - (k : Int) = ((h - k : Nat) : Int) by omega] at hn ⊢
  exact gSet_R (r := castL [h - k]) hB (by omega) rfl (hn _ (by rw [if_pos ⟨by omega, by omega⟩]; rfl) (addR_len _ _))
theorem so6 (hB : B p2 = some (.dT (memo fT ks))) (hl : ks.length + h < 900000) (hh : h ≤ 200) (hz : z6 = none ∨ True)
    (hn : ∀ ks' z6, ks' = ((if k + 1 < h ∧ 4 ≤ f then (List.range' 1 ((h - k) / 2)).map fun o => [o, h - k - o] else [] : List (List Nat)).map castL).foldl addR ks → ks'.length ≤ ks.length + h → E.nx [z0, some (.int (h : Int)), some (.ref p2), z3, some (.int (f : Int)), some (.int ((h : Int) - (k : Int))), z6] (put B p2 (.dT (memo fT ks')))) :
    S6_Co E [z0, some (.int (h : Int)), some (.ref p2), z3, some (.int (f : Int)), some (.int ((h : Int) - (k : Int))), z6] B := by
  try dsimp only [S6_Co, dIfS, dOr, dAnd, dNot, dTest, dOp, dUn, dCB, dCons, dNil, dVar, dC, dSeq, dAsg, hName, dRet, dRetF, dRetN, dRaise, dNext, dDrop, dAppend, dCall, gI, gIC, gU, gMM, dChain, dAndV, dOrV, dNotV, dTup, dLst, dLstB, dNewK, dNewT, dPar, dAug, hTup, hCons, hEnd, hSub, dISeq, dIEn, dIR1, dIR2, dFor, dLc, dLcB, hPair, dYes, dBreak, dCont, dIf, dQuant, getS, setS, startD, DL.gSub, gDiv, gMod, gPow, gShl, gXor, gAddI, gLt, gLe, gGt, gGe, gNegU, gMax2, gMin2, gAbs, gIntC, gEq, gIsN, gAdd, gMul, dSl, dNoPart, dPart, wipeD, List.set, rNot, rChain, rOp, rVar, rC, rAnd, hLt, hLe, hGt, hGe, hEq, DL.rI, dSetF, dFld, dMeth, dMake, dMaxD, dJoin, dStarts, dIStr, dAnyS, dAnyZ, dIEnC, dLstRg2, dLcR, dCallR, dLam]
  have no : ¬ (k + 1 < h ∧ 4 ≤ f) → E.nx [z0, some (.int (h : Int)), some (.ref p2), z3, some (.int (f : Int)), some (.int ((h : Int) - (k : Int))), z6] B := fun hc => by
    have := hn ks z6 (by rw [if_neg hc]; rfl) (by omega)
    rw [put_eq hB] at this
    exact this
  refine ite_dec (fun c1 => ite_dec (fun c2 => ⟨⟨by decide, by decide⟩, by omega, ?_⟩) (fun c2 => no (by omega))) (fun c1 => if_no rfl (no (by omega)))
  have hc : k + 1 < h ∧ 4 ≤ f := ⟨by omega, by omega⟩
  rw [show (h : Int) - (k : Int) = ((h - k : Nat) : Int) by omega] at hn ⊢
  generalize hle : h - k = left at hn ⊢
  have e1 : (((left : Int) / 2 + 1) - 1).toNat = left / 2 := by omega
  rw [e1]
  refine for_by (fun r Γ B' => ∃ (ks' : List (List Int)) (s n : Nat) (z6 : Option D), B' = put B p2 (.dT (memo fT ks')) ∧ r = upto (s : Int) n ∧ Γ = [z0, some (.int (h : Int)), some (.ref p2), z3, some (.int (f : Int)), some (.int (left : Int)), z6] ∧
      (((List.range' s n).map fun o => [o, left - o]).map castL).foldl addR ks' = (((List.range' 1 (left / 2)).map fun o => [o, left - o]).map castL).foldl addR ks ∧ s + n = left / 2 + 1 ∧ ks'.length + n ≤ ks.length + left / 2)
    ⟨ks, 1, left / 2, z6, (put_eq hB).symm, rfl, rfl, rfl, by omega, by omega⟩ (fun r Γ B' h f e => by cases e) (fun Γ B' h => ?_) (fun e r Γ B' K h hk => ?_)
  · obtain ⟨ks', s, n, z6, rfl, h3, rfl, h4, h5, h6⟩ := h
    cases n with
    | succ n => cases h3
    | zero => exact hn ks' z6 (by rw [if_pos hc, ← h4]; rfl) (by omega)
  · obtain ⟨ks', s, n, z6, rfl, h3, rfl, h4, h5, h6⟩ := h
    cases n with
    | zero => cases h3
    | succ n =>
      cases h3
      try dsimp only [B1_Co, dIfS, dOr, dAnd, dNot, dTest, dOp, dUn, dCB, dCons, dNil, dVar, dC, dSeq, dAsg, hName, dRet, dRetF, dRetN, dRaise, dNext, dDrop, dAppend, dCall, gI, gIC, gU, gMM, dChain, dAndV, dOrV, dNotV, dTup, dLst, dLstB, dNewK, dNewT, dPar, dAug, hTup, hCons, hEnd, hSub, dISeq, dIEn, dIR1, dIR2, dFor, dLc, dLcB, hPair, dYes, dBreak, dCont, dIf, dQuant, getS, setS, startD, DL.gSub, gDiv, gMod, gPow, gShl, gXor, gAddI, gLt, gLe, gGt, gGe, gNegU, gMax2, gMin2, gAbs, gIntC, gEq, gIsN, gAdd, gMul, dSl, dNoPart, dPart, wipeD, List.set, rNot, rChain, rOp, rVar, rC, rAnd, hLt, hLe, hGt, hGe, hEq, DL.rI, dSetF, dFld, dMeth, dMake, dMaxD, dJoin, dStarts, dIStr, dAnyS, dAnyZ, dIEnC, dLstRg2, dLcR, dCallR, dLam]
      rw [show (left : Int) - (s : Int) = ((left - s : Nat) : Int) by omega]
      refine ⟨trivial, gSet_R (r := castL [s, left - s]) put_same (by omega) rfl (hk _ _ ⟨addR ks' (castL [s, left - s]), s + 1, n, _, by rw [put_put], rfl, rfl, ?_, by omega, ?_⟩)⟩
      · rw [← h4]; rfl
      · have := addR_len ks' (castL [s, left - s]); omega
end
def sp_Co (C CE : Addr) : SpD := fun ds B q x => ∃ (p : Addr) (figs : List Nat) (m : Int), ds = [.ref p, .int m] ∧ CoB C p figs B ∧ (0 ≤ m → m ≤ 200 → q (.tup (rowsD (optC figs m.toNat))) B) ∧ (¬ (0 ≤ m ∧ m ≤ 200) → x CE B)
theorem rd_Co {C CE : Addr} {ds : List D} {B : Bx} {q : DK} {x : XD} (h : sp_Co C CE ds B q x) : t_Co C CE (endsD q x) (startD N_Co ds) B := by
  obtain ⟨p, figs, m, rfl, hT, h1, h2⟩ := h
  try dsimp only [t_Co, N_Co, S1_Co, S2_Co, S7_Co, S8_Co, dIfS, dOr, dAnd, dNot, dTest, dOp, dUn, dCB, dCons, dNil, dVar, dC, dSeq, dAsg, hName, dRet, dRetF, dRetN, dRaise, dNext, dDrop, dAppend, dCall, gI, gIC, gU, gMM, dChain, dAndV, dOrV, dNotV, dTup, dLst, dLstB, dNewK, dNewT, dPar, dAug, hTup, hCons, hEnd, hSub, dISeq, dIEn, dIR1, dIR2, dFor, dLc, dLcB, hPair, dYes, dBreak, dCont, dIf, dQuant, getS, setS, startD, DL.gSub, gDiv, gMod, gPow, gShl, gXor, gAddI, gLt, gLe, gGt, gGe, gNegU, gMax2, gMin2, gAbs, gIntC, gEq, gIsN, gAdd, gMul, dSl, dNoPart, dPart, wipeD, List.set, rNot, rChain, rOp, rVar, rC, rAnd, hLt, hLe, hGt, hGe, hEq, DL.rI, dSetF, dFld, dMeth, dMake, dMaxD, dJoin, dStarts, dIStr, dAnyS, dAnyZ, dIEnC, dLstRg2, dLcR, dCallR, dLam]
  refine ite_dec (fun c1 => ite_ndec (fun c2 => here (h2 (by omega))) (fun c2 => ?_)) (fun c1 => if_yes rfl (here (h2 (by omega))))
  have h1 := h1 c1 c2
  obtain ⟨h, rfl⟩ : ∃ h : Nat, m = h := ⟨m.toNat, by omega⟩
  rw [show ((h : Nat) : Int).toNat = h from rfl] at h1
  have hh : h ≤ 200 := by omega
  intro p2 hp2
  refine (hT.new (b := .dT []) hp2).get ⟨⟨by decide, by decide⟩, ?_⟩
  refine for_by (fun r Γ B' => ∃ (ks : List (List Int)) (k : Nat) (ms : List Nat) (z3 z4 z5 z6 : Option D), B' = put B p2 (.dT (memo fT ks)) ∧ r = enumL (k : Int) (iN ms) ∧ Γ = [some (.ref p), some (.int (h : Int)), some (.ref p2), z3, z4, z5, z6] ∧ 1 ≤ k ∧
      ((rowsF h k ms).map castL).foldl addR ks = dd ((rowsF h 1 figs).map castL) ∧ ks.length + 202 * ms.length ≤ 1010)
    ⟨[], 1, figs, none, none, none, none, rfl, rfl, rfl, Nat.le_refl _, rfl, by have := hT.len; simp; omega⟩ (fun r Γ B' h f e => by cases e) (fun Γ B' h => ?_) (fun e r Γ B' K h3 hk => ?_)
  · obtain ⟨ks, k, ms, z3, z4, z5, z6, rfl, h3, rfl, h4, h5, h6⟩ := h
    cases ms with
    | cons m ms => cases h3
    | nil =>
      have h5 : ks = _ := h5
      subst h5
      refine ⟨_, dd ((rowsF h 1 figs).map castL), put_same, ?_, first_ok figs h, ?_⟩
      · unfold memo; rw [List.map_map]; rfl
      rw [opt_tup]
      exact ⟨_, rfl, B, Few.put hp2, h1⟩
  · obtain ⟨ks, k, ms, z3, z4, z5, z6, rfl, h3, rfl, h4, h5, h6⟩ := h3
    cases ms with
    | nil => cases h3
    | cons f ms =>
      cases h3
      rw [List.length_cons] at h6
      try dsimp only [B2_Co, S3_Co, dIfS, dOr, dAnd, dNot, dTest, dOp, dUn, dCB, dCons, dNil, dVar, dC, dSeq, dAsg, hName, dRet, dRetF, dRetN, dRaise, dNext, dDrop, dAppend, dCall, gI, gIC, gU, gMM, dChain, dAndV, dOrV, dNotV, dTup, dLst, dLstB, dNewK, dNewT, dPar, dAug, hTup, hCons, hEnd, hSub, dISeq, dIEn, dIR1, dIR2, dFor, dLc, dLcB, hPair, dYes, dBreak, dCont, dIf, dQuant, getS, setS, startD, DL.gSub, gDiv, gMod, gPow, gShl, gXor, gAddI, gLt, gLe, gGt, gGe, gNegU, gMax2, gMin2, gAbs, gIntC, gEq, gIsN, gAdd, gMul, dSl, dNoPart, dPart, wipeD, List.set, rNot, rChain, rOp, rVar, rC, rAnd, hLt, hLe, hGt, hGe, hEq, DL.rI, dSetF, dFld, dMeth, dMake, dMaxD, dJoin, dStarts, dIStr, dAnyS, dAnyZ, dIEnC, dLstRg2, dLcR, dCallR, dLam]
      refine so4 put_same (by omega) fun ks1 e1 l1 => ?_
      rw [put_put]
      refine so5 put_same (by omega) fun ks2 e2 l2 => ?_
      rw [put_put]
      refine so6 put_same (by omega) hh (.inr trivial) fun ks3 z6 e3 l3 => ?_
      rw [put_put]
      refine hk _ _ ⟨ks3, k + 1, ms, _, _, _, _, rfl, rfl, rfl, by omega, ?_, by omega⟩
      rw [← h5, e3, e2, e1, ← List.foldl_append, ← List.foldl_append, ← List.foldl_append, ← List.map_append, ← List.map_append, ← List.map_append]
      show _ = List.foldl addR ks (List.map castL (row1 h k f ++ rowsF h (k + 1) ms))
      unfold row1
      rw [List.append_assoc, List.append_assoc]
end K02
set_option Elab.async false
set_option linter.all false
set_option pp.maxSteps 600
set_option maxRecDepth 100000
set_option maxHeartbeats 2000000
--MORE
namespace K02
open PySem PySem.Spec PyProof.Rows L2 DL PL
theorem CoB.few {C p : Addr} {figs : List Nat} {B B' : Bx} (h : CoB C p figs B) (hf : Few B B') : CoB C p figs B' := ⟨hf _ _ h.at_, h.le, h.len⟩
theorem rowsF_len (h : Nat) : ∀ (figs : List Nat) (k : Nat), (rowsF h k figs).length ≤ (h + 2) * figs.length
  | [], _ => Nat.zero_le _
  | f :: r, k => by
    have h1 := rowsF_len h r (k + 1)
    have h2 := row1_len h k f
    show (row1 h k f ++ rowsF h (k + 1) r).length ≤ _
    rw [List.length_append, List.length_cons, Nat.mul_succ]
    omega
theorem opt_len {figs : List Nat} {h : Nat} (hh : h ≤ 200) (hf : figs.length ≤ 5) : (optC figs h).length ≤ 1010 := by
  unfold optC
  rw [List.length_map, (sortL_perm _).length_eq]
  have h1 := dd_len (l := (rowsF h 1 figs).map castL)
  rw [List.length_map] at h1
  have h2 := rowsF_len h figs 1
  have h3 : (h + 2) * figs.length ≤ 202 * 5 := Nat.mul_le_mul (by omega) hf
  omega
/-! ### Code.worths -/
def xr (vs row : List Nat) : Nat := xs (row.map fun p => vs.getD p 0)
def sp_Cw (C CE : Addr) : SpD := fun ds B q x => ∃ (p : Addr) (figs : List Nat) (m : Int), ds = [.ref p, .int m] ∧ CoB C p figs B ∧ (0 ≤ m → m ≤ 200 → q (.tup (iN (valC (optC figs) (m.toNat + 1)))) B) ∧ (¬ (0 ≤ m ∧ m ≤ 200) → x CE B)
theorem rd_Cw {C CE : Addr} {ds : List D} {B : Bx} {q : DK} {x : XD} (h : sp_Cw C CE ds B q x) : t_Cw sp_mex (sp_Co C CE) C CE (endsD q x) (startD N_Cw ds) B := by
  obtain ⟨p, figs, m, rfl, hT, h1, h2⟩ := h
  try dsimp only [t_Cw, N_Cw, dIfS, dOr, dAnd, dNot, dTest, dOp, dUn, dCB, dCons, dNil, dVar, dC, dSeq, dAsg, hName, dRet, dRetF, dRetN, dRaise, dNext, dDrop, dAppend, dCall, gI, gIC, gU, gMM, dChain, dAndV, dOrV, dNotV, dTup, dLst, dLstB, dNewK, dNewT, dPar, dAug, hTup, hCons, hEnd, hSub, dISeq, dIEn, dIR1, dIR2, dFor, dLc, dLcB, hPair, dYes, dBreak, dCont, dIf, dQuant, getS, setS, startD, DL.gSub, gDiv, gMod, gPow, gShl, gXor, gAddI, gLt, gLe, gGt, gGe, gNegU, gMax2, gMin2, gAbs, gIntC, gEq, gIsN, gAdd, gMul, dSl, dNoPart, dPart, wipeD, List.set, rNot, rChain, rOp, rVar, rC, rAnd, hLt, hLe, hGt, hGe, hEq, DL.rI, dSetF, dFld, dMeth, dMake, dMaxD, dJoin, dStarts, dIStr, dAnyS, dAnyZ, dIEnC, dLstRg2, dLcR, dCallR, dLam]
  refine ite_dec (fun c1 => ite_ndec (fun c2 => here (h2 (by omega))) (fun c2 => ?_)) (fun c1 => if_yes rfl (here (h2 (by omega))))
  have h1 := h1 c1 c2
  obtain ⟨k, rfl⟩ : ∃ k : Nat, m = k := ⟨m.toNat, by omega⟩
  rw [show ((k : Nat) : Int).toNat = k from rfl] at h1
  have hok : ∀ h, ∀ row ∈ optC figs h, RowOk h row := opt_ok
  have hlen : ∀ h, h ≤ 200 → (optC figs h).length ≤ 1010 := fun h hh => opt_len hh hT.len
  generalize hopt : optC figs = opt at h1 hok hlen
  refine ⟨trivial, fun p2 hp2 => ?_⟩
  refine ⟨by omega, ?_⟩
  refine for_by (fun r Γ B' => ∃ (h n : Nat) (z3 z4 z5 z6 z7 : Option D), B' p2 = some (.lst (iN (valC opt h))) ∧ Few B B' ∧ r = upto (h : Int) n ∧ Γ = [some (.ref p), some (.int (k : Int)), some (.ref p2), z3, z4, z5, z6, z7] ∧ h + n = k + 1)
    ⟨0, k + 1, none, none, none, none, none, put_same, Few.put hp2, by show upto 0 _ = upto 0 _; congr 1, rfl, by omega⟩ (fun r Γ B' h f e => by cases e) (fun Γ B' h => ?_) (fun e r Γ B' K h hk => ?_)
  · obtain ⟨h, n, z3, z4, z5, z6, z7, hb, hf, h3, rfl, h4⟩ := h
    cases n with
    | succ n => cases h3
    | zero =>
      have : h = k + 1 := by omega
      subst this
      exact gTuple_ref hb ⟨B, hf, h1⟩
  · obtain ⟨h, n, z3, z4, z5, z6, z7, hb, hf, h3, rfl, h4⟩ := h
    cases n with
    | zero => cases h3
    | succ n =>
      cases h3
      have hh : h ≤ 200 := by omega
      obtain ⟨vs, hvs⟩ : ∃ vs, vs = valC opt h := ⟨_, rfl⟩
      have hvl : vs.length = h := by rw [hvs, valC_len]
      rw [← hvs] at hb
      try dsimp only [B3_Cw, dIfS, dOr, dAnd, dNot, dTest, dOp, dUn, dCB, dCons, dNil, dVar, dC, dSeq, dAsg, hName, dRet, dRetF, dRetN, dRaise, dNext, dDrop, dAppend, dCall, gI, gIC, gU, gMM, dChain, dAndV, dOrV, dNotV, dTup, dLst, dLstB, dNewK, dNewT, dPar, dAug, hTup, hCons, hEnd, hSub, dISeq, dIEn, dIR1, dIR2, dFor, dLc, dLcB, hPair, dYes, dBreak, dCont, dIf, dQuant, getS, setS, startD, DL.gSub, gDiv, gMod, gPow, gShl, gXor, gAddI, gLt, gLe, gGt, gGe, gNegU, gMax2, gMin2, gAbs, gIntC, gEq, gIsN, gAdd, gMul, dSl, dNoPart, dPart, wipeD, List.set, rNot, rChain, rOp, rVar, rC, rAnd, hLt, hLe, hGt, hGe, hEq, DL.rI, dSetF, dFld, dMeth, dMake, dMaxD, dJoin, dStarts, dIStr, dAnyS, dAnyZ, dIEnC, dLstRg2, dLcR, dCallR, dLam]
      refine ⟨trivial, fun p3 hp3 => ?_⟩
      have n23 : p2 ≠ p3 := ne_box hb hp3
      have hTf := (hT.few hf).new (b := .lst []) hp3
      refine ⟨p, _, rfl, hTf.at_, by rfl, p, figs, h, rfl, hTf, fun _ _ => ?_, fun no => absurd ⟨by omega, by omega⟩ no⟩
      rw [hopt, show ((h : Nat) : Int).toNat = h from rfl]
      show DL.forK none _ _ _ (rowsD (opt h)) _ _
      refine for_by (fun r Γ B2 => ∃ (acc : List Nat) (rest : List (List Nat)) (z5 z6 z7 : Option D), B2 p2 = some (.lst (iN vs)) ∧ B2 p3 = some (.lst (iN acc)) ∧ Few B B2 ∧ r = rowsD rest ∧ (∀ row ∈ rest, RowOk h row) ∧ Γ = [some (.ref p), some (.int (k : Int)), some (.ref p2), some (.int (h : Int)), some (.ref p3), z5, z6, z7] ∧
          acc ++ rest.map (xr vs) = (opt h).map (xr vs) ∧ acc.length + rest.length ≤ 1010)
        ⟨[], opt h, z5, z6, z7, by rw [put_ne n23]; exact hb, put_same, few_put hf (by cases e : B p3 with | none => rfl | some b => rw [hf _ _ e] at hp3; cases hp3), rfl, hok h, rfl, rfl, by have := hlen h hh; simpa using this⟩ (fun r Γ B' h f e => by cases e) (fun Γ B2 h5 => ?_) (fun e r Γ B2 K' h5 hk' => ?_)
      · obtain ⟨acc, rest, z5, z6, z7, hb2, hb3, hf2, h6, _, rfl, h7, h8⟩ := h5
        cases rest with
        | cons row rest => cases h6
        | nil =>
          rw [List.map_nil, List.append_nil] at h7
          try dsimp only [dIfS, dOr, dAnd, dNot, dTest, dOp, dUn, dCB, dCons, dNil, dVar, dC, dSeq, dAsg, hName, dRet, dRetF, dRetN, dRaise, dNext, dDrop, dAppend, dCall, gI, gIC, gU, gMM, dChain, dAndV, dOrV, dNotV, dTup, dLst, dLstB, dNewK, dNewT, dPar, dAug, hTup, hCons, hEnd, hSub, dISeq, dIEn, dIR1, dIR2, dFor, dLc, dLcB, hPair, dYes, dBreak, dCont, dIf, dQuant, getS, setS, startD, DL.gSub, gDiv, gMod, gPow, gShl, gXor, gAddI, gLt, gLe, gGt, gGe, gNegU, gMax2, gMin2, gAbs, gIntC, gEq, gIsN, gAdd, gMul, dSl, dNoPart, dPart, wipeD, List.set, rNot, rChain, rOp, rVar, rC, rAnd, hLt, hLe, hGt, hGe, hEq, DL.rI, dSetF, dFld, dMeth, dMake, dMaxD, dJoin, dStarts, dIStr, dAnyS, dAnyZ, dIEnC, dLstRg2, dLcR, dCallR, dLam]
          refine ⟨⟨_, hb2⟩, .ref p3, acc, rfl, seqOf_at hb3, ?_⟩
          refine ⟨_, hb2, lt_size (by rw [iN_len]; omega), hk _ _ ⟨h + 1, n, _, _, _, _, _, ?_, few_put hf2 hp2, rfl, rfl, by omega⟩⟩
          rw [put_same, h7, show valC opt (h + 1) = valC opt h ++ [mexN ((opt h).map (xr (valC opt h)))] from rfl, iN_app, ← hvs]
          rfl
      · obtain ⟨acc, rest, z5, z6, z7, hb2, hb3, hf2, h6, hro, rfl, h7, h8⟩ := h5
        cases rest with
        | nil => cases h6
        | cons row rest =>
          cases h6
          have hr := hro row List.mem_cons_self
          try dsimp only [B2_Cw, dIfS, dOr, dAnd, dNot, dTest, dOp, dUn, dCB, dCons, dNil, dVar, dC, dSeq, dAsg, hName, dRet, dRetF, dRetN, dRaise, dNext, dDrop, dAppend, dCall, gI, gIC, gU, gMM, dChain, dAndV, dOrV, dNotV, dTup, dLst, dLstB, dNewK, dNewT, dPar, dAug, hTup, hCons, hEnd, hSub, dISeq, dIEn, dIR1, dIR2, dFor, dLc, dLcB, hPair, dYes, dBreak, dCont, dIf, dQuant, getS, setS, startD, DL.gSub, gDiv, gMod, gPow, gShl, gXor, gAddI, gLt, gLe, gGt, gGe, gNegU, gMax2, gMin2, gAbs, gIntC, gEq, gIsN, gAdd, gMul, dSl, dNoPart, dPart, wipeD, List.set, rNot, rChain, rOp, rVar, rC, rAnd, hLt, hLe, hGt, hGe, hEq, DL.rI, dSetF, dFld, dMeth, dMake, dMaxD, dJoin, dStarts, dIStr, dAnyS, dAnyZ, dIEnC, dLstRg2, dLcR, dCallR, dLam]
          show DL.forK none _ _ _ (iN row) _ _
          refine for_by (fun r Γ B3 => B3 = B2 ∧ ∃ (w : Nat) (ps : List Nat) (z7 : Option D), r = iN ps ∧ (∀ a ∈ ps, a < h) ∧ Γ = [some (.ref p), some (.int (k : Int)), some (.ref p2), some (.int (h : Int)), some (.ref p3), some (.tup (iN row)), some (.int (w : Int)), z7] ∧ w ^^^ xr vs ps = xr vs row)
            ⟨rfl, 0, row, z7, rfl, hr.lt, rfl, Nat.zero_xor _⟩ (fun r Γ B' h f e => by cases e) (fun Γ B3 h9 => ?_) (fun e r Γ B3 K2 h9 hk2 => ?_)
          · obtain ⟨rfl, w, ps, z7, h10, _, rfl, h11⟩ := h9
            cases ps with
            | cons a ps => cases h10
            | nil =>
              have h11 : w ^^^ 0 = _ := h11
              rw [Nat.xor_zero] at h11
              try dsimp only [dIfS, dOr, dAnd, dNot, dTest, dOp, dUn, dCB, dCons, dNil, dVar, dC, dSeq, dAsg, hName, dRet, dRetF, dRetN, dRaise, dNext, dDrop, dAppend, dCall, gI, gIC, gU, gMM, dChain, dAndV, dOrV, dNotV, dTup, dLst, dLstB, dNewK, dNewT, dPar, dAug, hTup, hCons, hEnd, hSub, dISeq, dIEn, dIR1, dIR2, dFor, dLc, dLcB, hPair, dYes, dBreak, dCont, dIf, dQuant, getS, setS, startD, DL.gSub, gDiv, gMod, gPow, gShl, gXor, gAddI, gLt, gLe, gGt, gGe, gNegU, gMax2, gMin2, gAbs, gIntC, gEq, gIsN, gAdd, gMul, dSl, dNoPart, dPart, wipeD, List.set, rNot, rChain, rOp, rVar, rC, rAnd, hLt, hLe, hGt, hGe, hEq, DL.rI, dSetF, dFld, dMeth, dMake, dMaxD, dJoin, dStarts, dIStr, dAnyS, dAnyZ, dIEnC, dLstRg2, dLcR, dCallR, dLam]
              refine ⟨⟨_, hb3⟩, _, hb3, lt_size (by rw [iN_len]; simp at h8; omega), hk' _ _ ⟨acc ++ [w], rest, _, _, _, ?_, ?_, few_put hf2 (by cases e : B p3 with | none => rfl | some b => rw [hf _ _ e] at hp3; cases hp3), rfl, fun r hr => hro r (List.mem_cons_of_mem _ hr), rfl, ?_, by simp at h8 ⊢; omega⟩⟩
              · rw [put_ne n23]; exact hb2
              · rw [put_same, iN_app]; rfl
              · rw [← h7, h11, List.append_assoc]; rfl
          · obtain ⟨rfl, w, ps, z7, h10, hps, rfl, h11⟩ := h9
            cases ps with
            | nil => cases h10
            | cons a ps =>
              cases h10
              try dsimp only [B1_Cw, dIfS, dOr, dAnd, dNot, dTest, dOp, dUn, dCB, dCons, dNil, dVar, dC, dSeq, dAsg, hName, dRet, dRetF, dRetN, dRaise, dNext, dDrop, dAppend, dCall, gI, gIC, gU, gMM, dChain, dAndV, dOrV, dNotV, dTup, dLst, dLstB, dNewK, dNewT, dPar, dAug, hTup, hCons, hEnd, hSub, dISeq, dIEn, dIR1, dIR2, dFor, dLc, dLcB, hPair, dYes, dBreak, dCont, dIf, dQuant, getS, setS, startD, DL.gSub, gDiv, gMod, gPow, gShl, gXor, gAddI, gLt, gLe, gGt, gGe, gNegU, gMax2, gMin2, gAbs, gIntC, gEq, gIsN, gAdd, gMul, dSl, dNoPart, dPart, wipeD, List.set, rNot, rChain, rOp, rVar, rC, rAnd, hLt, hLe, hGt, hGe, hEq, DL.rI, dSetF, dFld, dMeth, dMake, dMaxD, dJoin, dStarts, dIStr, dAnyS, dAnyZ, dIEnC, dLstRg2, dLcR, dCallR, dLam]
              refine gIx_N (seqOf_at hb2) (by rw [hvl]; exact hps a List.mem_cons_self) ?_
              try dsimp only [dIfS, dOr, dAnd, dNot, dTest, dOp, dUn, dCB, dCons, dNil, dVar, dC, dSeq, dAsg, hName, dRet, dRetF, dRetN, dRaise, dNext, dDrop, dAppend, dCall, gI, gIC, gU, gMM, dChain, dAndV, dOrV, dNotV, dTup, dLst, dLstB, dNewK, dNewT, dPar, dAug, hTup, hCons, hEnd, hSub, dISeq, dIEn, dIR1, dIR2, dFor, dLc, dLcB, hPair, dYes, dBreak, dCont, dIf, dQuant, getS, setS, startD, DL.gSub, gDiv, gMod, gPow, gShl, gXor, gAddI, gLt, gLe, gGt, gGe, gNegU, gMax2, gMin2, gAbs, gIntC, gEq, gIsN, gAdd, gMul, dSl, dNoPart, dPart, wipeD, List.set, rNot, rChain, rOp, rVar, rC, rAnd, hLt, hLe, hGt, hGe, hEq, DL.rI, dSetF, dFld, dMeth, dMake, dMaxD, dJoin, dStarts, dIStr, dAnyS, dAnyZ, dIEnC, dLstRg2, dLcR, dCallR, dLam]
              rw [bxN]
              exact hk2 _ _ ⟨rfl, w ^^^ vs.getD a 0, ps, _, rfl, fun b hb => hps b (List.mem_cons_of_mem _ hb), rfl, by rw [← h11, Nat.xor_assoc]; rfl⟩
/-! ### Code.reply -/
def repCD : Option (Nat × List Nat) → D
  | none => .non
  | some p => .tup [.int (p.1 : Int), .tup (iN p.2)]
def sp_Cr (C CE : Addr) : SpD := fun ds B q x => ∃ (p : Addr) (d : D) (figs : List Nat) (ns : List Int), ds = [.ref p, d] ∧ CoB C p figs B ∧ seqOf B d = some (iL ns) ∧
  (okA 200 ns = true → q (repCD (repC (optC figs) (xs ((toN ns).map (vC (optC figs)))) 0 (toN ns))) B) ∧ (okA 200 ns = false → x CE B)
theorem rd_Cr {C CE : Addr} {ds : List D} {B : Bx} {q : DK} {x : XD} (h : sp_Cr C CE ds B q x) : t_Cr (sp_Co C CE) (sp_Cw C CE) C CE (endsD q x) (startD N_Cr ds) B := by
  obtain ⟨p, d, figs, ns, rfl, hT, hd, h1, h2⟩ := h
  try dsimp only [t_Cr, N_Cr, dIfS, dOr, dAnd, dNot, dTest, dOp, dUn, dCB, dCons, dNil, dVar, dC, dSeq, dAsg, hName, dRet, dRetF, dRetN, dRaise, dNext, dDrop, dAppend, dCall, gI, gIC, gU, gMM, dChain, dAndV, dOrV, dNotV, dTup, dLst, dLstB, dNewK, dNewT, dPar, dAug, hTup, hCons, hEnd, hSub, dISeq, dIEn, dIR1, dIR2, dFor, dLc, dLcB, hPair, dYes, dBreak, dCont, dIf, dQuant, getS, setS, startD, DL.gSub, gDiv, gMod, gPow, gShl, gXor, gAddI, gLt, gLe, gGt, gGe, gNegU, gMax2, gMin2, gAbs, gIntC, gEq, gIsN, gAdd, gMul, dSl, dNoPart, dPart, wipeD, List.set, rNot, rChain, rOp, rVar, rC, rAnd, hLt, hLe, hGt, hGe, hEq, DL.rI, dSetF, dFld, dMeth, dMake, dMaxD, dJoin, dStarts, dIStr, dAnyS, dAnyZ, dIEnC, dLstRg2, dLcR, dCallR, dLam]
  refine gLen_seq hd ?_
  try dsimp only [dIfS, dOr, dAnd, dNot, dTest, dOp, dUn, dCB, dCons, dNil, dVar, dC, dSeq, dAsg, hName, dRet, dRetF, dRetN, dRaise, dNext, dDrop, dAppend, dCall, gI, gIC, gU, gMM, dChain, dAndV, dOrV, dNotV, dTup, dLst, dLstB, dNewK, dNewT, dPar, dAug, hTup, hCons, hEnd, hSub, dISeq, dIEn, dIR1, dIR2, dFor, dLc, dLcB, hPair, dYes, dBreak, dCont, dIf, dQuant, getS, setS, startD, DL.gSub, gDiv, gMod, gPow, gShl, gXor, gAddI, gLt, gLe, gGt, gGe, gNegU, gMax2, gMin2, gAbs, gIntC, gEq, gIsN, gAdd, gMul, dSl, dNoPart, dPart, wipeD, List.set, rNot, rChain, rOp, rVar, rC, rAnd, hLt, hLe, hGt, hGe, hEq, DL.rI, dSetF, dFld, dMeth, dMake, dMaxD, dJoin, dStarts, dIStr, dAnyS, dAnyZ, dIEnC, dLstRg2, dLcR, dCallR, dLam]
  rw [iL_len]
  refine ite_dec (fun hl => if_yes rfl (here (h2 (by unfold okA; simp; omega)))) (fun hl => ?_)
  refine ⟨iL ns, notI fun n => decide (0 ≤ n) && decide (n ≤ 200), hd, fun e he => ?_, ?_⟩
  · obtain ⟨n, hn, rfl⟩ := List.mem_map.mp he
    dsimp only [notI]
    by_cases h0 : 0 ≤ n <;> simp [h0]
  rw [if_neg (by decide : ¬ (false = true)), any_notI ns fun n => decide (0 ≤ n) && decide (n ≤ 200)]
  refine ite_of (fun h => here (h2 ?_)) (fun h => ?_)
  · unfold okA
    rw [Bool.not_eq_true'] at h
    rw [h, Bool.and_false]
  have ok : okA 200 ns = true := by
    unfold okA
    rw [Bool.not_eq_false'] at h
    rw [h]
    simp; omega
  have h1 := h1 ok
  obtain ⟨hlen, hbd⟩ := okA_at ok
  obtain ⟨m0, m1, m2⟩ := maxD_of (by decide) hbd
  refine ⟨p, _, rfl, hT.at_, by rfl, ns, 0, intsOf_of hd, rfl, ?_⟩
  refine ⟨p, figs, maxD ns, rfl, hT, fun _ _ => ?_, fun no => absurd ⟨m0, m1⟩ no⟩
  obtain ⟨M, hM⟩ : ∃ M, M = (maxD ns).toNat := ⟨_, rfl⟩
  rw [← hM]
  have hle : ∀ h ∈ toN ns, h < M + 1 := fun h hh => by
    obtain ⟨n, hn, rfl⟩ := List.mem_map.mp hh
    have := m2 n hn
    have := (hbd n hn).1
    omega
  have hM2 : M ≤ 200 := by omega
  rw [toN_back fun n hn => (hbd n hn).1] at hd
  generalize toN ns = hs at hle hd h1
  have hok : ∀ h, ∀ row ∈ optC figs h, RowOk h row := opt_ok
  generalize hopt : optC figs = opt at h1 hok
  generalize hW : xs (hs.map (vC opt)) = W at h1
  generalize hRR : repC opt W 0 hs = RR at h1
  have hat : ∀ {i : Nat}, i < M + 1 → ∀ {q : DK} {B : Bx}, q (.int (vC opt i : Nat)) B → gIx (.tup (iN (valC opt (M + 1)))) (.int (i : Int)) B q := fun {i} hi {q B} hq => gIx_N rfl (by rw [valC_len]; exact hi) (by rw [valC_at opt hi]; exact hq)
  try dsimp only [dIfS, dOr, dAnd, dNot, dTest, dOp, dUn, dCB, dCons, dNil, dVar, dC, dSeq, dAsg, hName, dRet, dRetF, dRetN, dRaise, dNext, dDrop, dAppend, dCall, gI, gIC, gU, gMM, dChain, dAndV, dOrV, dNotV, dTup, dLst, dLstB, dNewK, dNewT, dPar, dAug, hTup, hCons, hEnd, hSub, dISeq, dIEn, dIR1, dIR2, dFor, dLc, dLcB, hPair, dYes, dBreak, dCont, dIf, dQuant, getS, setS, startD, DL.gSub, gDiv, gMod, gPow, gShl, gXor, gAddI, gLt, gLe, gGt, gGe, gNegU, gMax2, gMin2, gAbs, gIntC, gEq, gIsN, gAdd, gMul, dSl, dNoPart, dPart, wipeD, List.set, rNot, rChain, rOp, rVar, rC, rAnd, hLt, hLe, hGt, hGe, hEq, DL.rI, dSetF, dFld, dMeth, dMake, dMaxD, dJoin, dStarts, dIStr, dAnyS, dAnyZ, dIEnC, dLstRg2, dLcR, dCallR, dLam]
  refine iSq_of hd (Few.refl _) fun gd hg => ?_
  refine for_by (fun r Γ B' => B' = B ∧ ∃ (ms : List Nat) (acc : Nat) (y : Option D), r = iN ms ∧ (∀ m ∈ ms, m < M + 1) ∧ Γ = [some (.ref p), some d, some (.tup (iN (valC opt (M + 1)))), some (.int (acc : Int)), y, none, none, none, none] ∧ acc ^^^ xs (ms.map (vC opt)) = W)
    ⟨rfl, hs, 0, none, rfl, hle, rfl, (Nat.zero_xor _).trans hW⟩ (fun r Γ B' h => by rw [h.1]; exact hg _ (Few.refl _)) (fun Γ B' h => ?_) (fun e r Γ B' K h hk => ?_)
  · obtain ⟨rfl, ms, acc, y, h3, _, rfl, h4⟩ := h
    cases ms with
    | cons m ms => cases h3
    | nil =>
      have h4 : acc ^^^ 0 = _ := h4
      rw [Nat.xor_zero] at h4
      subst h4
      try dsimp only [dIfS, dOr, dAnd, dNot, dTest, dOp, dUn, dCB, dCons, dNil, dVar, dC, dSeq, dAsg, hName, dRet, dRetF, dRetN, dRaise, dNext, dDrop, dAppend, dCall, gI, gIC, gU, gMM, dChain, dAndV, dOrV, dNotV, dTup, dLst, dLstB, dNewK, dNewT, dPar, dAug, hTup, hCons, hEnd, hSub, dISeq, dIEn, dIR1, dIR2, dFor, dLc, dLcB, hPair, dYes, dBreak, dCont, dIf, dQuant, getS, setS, startD, DL.gSub, gDiv, gMod, gPow, gShl, gXor, gAddI, gLt, gLe, gGt, gGe, gNegU, gMax2, gMin2, gAbs, gIntC, gEq, gIsN, gAdd, gMul, dSl, dNoPart, dPart, wipeD, List.set, rNot, rChain, rOp, rVar, rC, rAnd, hLt, hLe, hGt, hGe, hEq, DL.rI, dSetF, dFld, dMeth, dMake, dMaxD, dJoin, dStarts, dIStr, dAnyS, dAnyZ, dIEnC, dLstRg2, dLcR, dCallR, dLam]
      refine iEn_of hd (Few.refl _) fun gd hg => ?_
      refine for_by (fun r Γ B2 => B2 = B' ∧ ∃ (k : Nat) (ms : List Nat) (y z u v w : Option D), r = enumL k (iN ms) ∧ (∀ m ∈ ms, m < M + 1) ∧ Γ = [some (.ref p), some d, some (.tup (iN (valC opt (M + 1)))), some (.int (acc : Int)), y, z, u, v, w] ∧ repC opt acc k ms = RR)
        ⟨rfl, 0, hs, _, none, none, none, none, rfl, hle, rfl, hRR⟩ (fun r Γ B' h => by rw [h.1]; exact hg _ (Few.refl _)) (fun Γ B2 h => ?_) (fun e r Γ B2 K h hk => ?_)
      · obtain ⟨rfl, k, ms, y, z, u, v, w, h3, _, rfl, h4⟩ := h
        cases ms with
        | cons m ms => cases h3
        | nil =>
          rw [← h4] at h1
          exact here h1
      · obtain ⟨rfl, k, ms, y, z, u, v, w, h3, h6, rfl, h4⟩ := h
        cases ms with
        | nil => cases h3
        | cons m ms =>
          cases h3
          have hm := h6 m List.mem_cons_self
          try dsimp only [B3_Cr, dIfS, dOr, dAnd, dNot, dTest, dOp, dUn, dCB, dCons, dNil, dVar, dC, dSeq, dAsg, hName, dRet, dRetF, dRetN, dRaise, dNext, dDrop, dAppend, dCall, gI, gIC, gU, gMM, dChain, dAndV, dOrV, dNotV, dTup, dLst, dLstB, dNewK, dNewT, dPar, dAug, hTup, hCons, hEnd, hSub, dISeq, dIEn, dIR1, dIR2, dFor, dLc, dLcB, hPair, dYes, dBreak, dCont, dIf, dQuant, getS, setS, startD, DL.gSub, gDiv, gMod, gPow, gShl, gXor, gAddI, gLt, gLe, gGt, gGe, gNegU, gMax2, gMin2, gAbs, gIntC, gEq, gIsN, gAdd, gMul, dSl, dNoPart, dPart, wipeD, List.set, rNot, rChain, rOp, rVar, rC, rAnd, hLt, hLe, hGt, hGe, hEq, DL.rI, dSetF, dFld, dMeth, dMake, dMaxD, dJoin, dStarts, dIStr, dAnyS, dAnyZ, dIEnC, dLstRg2, dLcR, dCallR, dLam]
          refine ⟨p, _, rfl, hT.at_, by rfl, p, figs, m, rfl, hT, fun _ _ => ?_, fun no => absurd ⟨by omega, by omega⟩ no⟩
          rw [hopt, show ((m : Nat) : Int).toNat = m from rfl]
          show DL.forK none _ _ _ (rowsD (opt m)) _ _
          have hRo := hok m
          unfold repC at h4
          generalize opt m = O at hRo h4
          refine for_by (fun r Γ B3 => B3 = B2 ∧ ∃ (rest : List (List Nat)) (u v w : Option D), r = rowsD rest ∧ (∀ row ∈ rest, RowOk m row) ∧ Γ = [some (.ref p), some d, some (.tup (iN (valC opt (M + 1)))), some (.int (acc : Int)), some (.int (m : Int)), some (.int (k : Int)), u, v, w] ∧
              (match rest.find? (fun row => decide (acc ^^^ vC opt m ^^^ xs (row.map (vC opt)) = 0)) with | some row => some (k, row) | none => repC opt acc (k + 1) ms) = RR)
            ⟨rfl, O, _, _, _, rfl, hRo, rfl, h4⟩ (fun r Γ B' h f e => by cases e) (fun Γ B3 h => ?_) (fun e r Γ B3 K' h hk' => ?_)
          · obtain ⟨rfl, rest, u, v, w, h7, _, rfl, h8⟩ := h
            cases rest with
            | cons a rest => cases h7
            | nil => exact hk _ _ ⟨rfl, k + 1, ms, _, _, _, _, _, rfl, fun n hn => h6 n (List.mem_cons_of_mem _ hn), rfl, h8⟩
          · obtain ⟨rfl, rest, u, v, w, h7, hro, rfl, h8⟩ := h
            cases rest with
            | nil => cases h7
            | cons row rest =>
              cases h7
              have hr := hro row List.mem_cons_self
              try dsimp only [B2_Cr, dIfS, dOr, dAnd, dNot, dTest, dOp, dUn, dCB, dCons, dNil, dVar, dC, dSeq, dAsg, hName, dRet, dRetF, dRetN, dRaise, dNext, dDrop, dAppend, dCall, gI, gIC, gU, gMM, dChain, dAndV, dOrV, dNotV, dTup, dLst, dLstB, dNewK, dNewT, dPar, dAug, hTup, hCons, hEnd, hSub, dISeq, dIEn, dIR1, dIR2, dFor, dLc, dLcB, hPair, dYes, dBreak, dCont, dIf, dQuant, getS, setS, startD, DL.gSub, gDiv, gMod, gPow, gShl, gXor, gAddI, gLt, gLe, gGt, gGe, gNegU, gMax2, gMin2, gAbs, gIntC, gEq, gIsN, gAdd, gMul, dSl, dNoPart, dPart, wipeD, List.set, rNot, rChain, rOp, rVar, rC, rAnd, hLt, hLe, hGt, hGe, hEq, DL.rI, dSetF, dFld, dMeth, dMake, dMaxD, dJoin, dStarts, dIStr, dAnyS, dAnyZ, dIEnC, dLstRg2, dLcR, dCallR, dLam]
              refine hat hm ?_
              try dsimp only [dIfS, dOr, dAnd, dNot, dTest, dOp, dUn, dCB, dCons, dNil, dVar, dC, dSeq, dAsg, hName, dRet, dRetF, dRetN, dRaise, dNext, dDrop, dAppend, dCall, gI, gIC, gU, gMM, dChain, dAndV, dOrV, dNotV, dTup, dLst, dLstB, dNewK, dNewT, dPar, dAug, hTup, hCons, hEnd, hSub, dISeq, dIEn, dIR1, dIR2, dFor, dLc, dLcB, hPair, dYes, dBreak, dCont, dIf, dQuant, getS, setS, startD, DL.gSub, gDiv, gMod, gPow, gShl, gXor, gAddI, gLt, gLe, gGt, gGe, gNegU, gMax2, gMin2, gAbs, gIntC, gEq, gIsN, gAdd, gMul, dSl, dNoPart, dPart, wipeD, List.set, rNot, rChain, rOp, rVar, rC, rAnd, hLt, hLe, hGt, hGe, hEq, DL.rI, dSetF, dFld, dMeth, dMake, dMaxD, dJoin, dStarts, dIStr, dAnyS, dAnyZ, dIEnC, dLstRg2, dLcR, dCallR, dLam]
              rw [bxN]
              show DL.forK none _ _ _ (iN row) _ _
              refine for_by (fun r Γ B4 => B4 = B3 ∧ ∃ (o : Nat) (ps : List Nat) (w : Option D), r = iN ps ∧ (∀ a ∈ ps, a < m) ∧ Γ = [some (.ref p), some d, some (.tup (iN (valC opt (M + 1)))), some (.int (acc : Int)), some (.int (m : Int)), some (.int (k : Int)), some (.tup (iN row)), some (.int (o : Int)), w] ∧ o ^^^ xs (ps.map (vC opt)) = acc ^^^ vC opt m ^^^ xs (row.map (vC opt)))
                ⟨rfl, acc ^^^ vC opt m, row, w, rfl, hr.lt, rfl, rfl⟩ (fun r Γ B' h f e => by cases e) (fun Γ B4 h9 => ?_) (fun e r Γ B4 K2 h9 hk2 => ?_)
              · obtain ⟨rfl, o, ps, w, h10, _, rfl, h11⟩ := h9
                cases ps with
                | cons a ps => cases h10
                | nil =>
                  have h11 : o ^^^ 0 = _ := h11
                  rw [Nat.xor_zero] at h11
                  try dsimp only [dIfS, dOr, dAnd, dNot, dTest, dOp, dUn, dCB, dCons, dNil, dVar, dC, dSeq, dAsg, hName, dRet, dRetF, dRetN, dRaise, dNext, dDrop, dAppend, dCall, gI, gIC, gU, gMM, dChain, dAndV, dOrV, dNotV, dTup, dLst, dLstB, dNewK, dNewT, dPar, dAug, hTup, hCons, hEnd, hSub, dISeq, dIEn, dIR1, dIR2, dFor, dLc, dLcB, hPair, dYes, dBreak, dCont, dIf, dQuant, getS, setS, startD, DL.gSub, gDiv, gMod, gPow, gShl, gXor, gAddI, gLt, gLe, gGt, gGe, gNegU, gMax2, gMin2, gAbs, gIntC, gEq, gIsN, gAdd, gMul, dSl, dNoPart, dPart, wipeD, List.set, rNot, rChain, rOp, rVar, rC, rAnd, hLt, hLe, hGt, hGe, hEq, DL.rI, dSetF, dFld, dMeth, dMake, dMaxD, dJoin, dStarts, dIStr, dAnyS, dAnyZ, dIEnC, dLstRg2, dLcR, dCallR, dLam]
                  rw [Bool.false_xor]
                  refine ite_dec (fun c => ⟨trivial, here ?_⟩) (fun c => hk' _ _ ⟨rfl, rest, _, _, _, rfl, fun r hr => hro r (List.mem_cons_of_mem _ hr), rfl, ?_⟩)
                  · rw [List.find?_cons_of_pos (by rw [← h11]; exact decide_eq_true (by omega))] at h8
                    rw [← h8] at h1
                    exact h1
                  · rw [List.find?_cons_of_neg (by rw [← h11, decide_eq_true_eq]; omega)] at h8
                    exact h8
              · obtain ⟨rfl, o, ps, w, h10, hps, rfl, h11⟩ := h9
                cases ps with
                | nil => cases h10
                | cons a ps =>
                  cases h10
                  try dsimp only [B1_Cr, dIfS, dOr, dAnd, dNot, dTest, dOp, dUn, dCB, dCons, dNil, dVar, dC, dSeq, dAsg, hName, dRet, dRetF, dRetN, dRaise, dNext, dDrop, dAppend, dCall, gI, gIC, gU, gMM, dChain, dAndV, dOrV, dNotV, dTup, dLst, dLstB, dNewK, dNewT, dPar, dAug, hTup, hCons, hEnd, hSub, dISeq, dIEn, dIR1, dIR2, dFor, dLc, dLcB, hPair, dYes, dBreak, dCont, dIf, dQuant, getS, setS, startD, DL.gSub, gDiv, gMod, gPow, gShl, gXor, gAddI, gLt, gLe, gGt, gGe, gNegU, gMax2, gMin2, gAbs, gIntC, gEq, gIsN, gAdd, gMul, dSl, dNoPart, dPart, wipeD, List.set, rNot, rChain, rOp, rVar, rC, rAnd, hLt, hLe, hGt, hGe, hEq, DL.rI, dSetF, dFld, dMeth, dMake, dMaxD, dJoin, dStarts, dIStr, dAnyS, dAnyZ, dIEnC, dLstRg2, dLcR, dCallR, dLam]
                  refine hat (by have := hps a List.mem_cons_self; omega) ?_
                  try dsimp only [dIfS, dOr, dAnd, dNot, dTest, dOp, dUn, dCB, dCons, dNil, dVar, dC, dSeq, dAsg, hName, dRet, dRetF, dRetN, dRaise, dNext, dDrop, dAppend, dCall, gI, gIC, gU, gMM, dChain, dAndV, dOrV, dNotV, dTup, dLst, dLstB, dNewK, dNewT, dPar, dAug, hTup, hCons, hEnd, hSub, dISeq, dIEn, dIR1, dIR2, dFor, dLc, dLcB, hPair, dYes, dBreak, dCont, dIf, dQuant, getS, setS, startD, DL.gSub, gDiv, gMod, gPow, gShl, gXor, gAddI, gLt, gLe, gGt, gGe, gNegU, gMax2, gMin2, gAbs, gIntC, gEq, gIsN, gAdd, gMul, dSl, dNoPart, dPart, wipeD, List.set, rNot, rChain, rOp, rVar, rC, rAnd, hLt, hLe, hGt, hGe, hEq, DL.rI, dSetF, dFld, dMeth, dMake, dMaxD, dJoin, dStarts, dIStr, dAnyS, dAnyZ, dIEnC, dLstRg2, dLcR, dCallR, dLam]
                  rw [bxN]
                  exact hk2 _ _ ⟨rfl, o ^^^ vC opt a, ps, _, rfl, fun b hb => hps b (List.mem_cons_of_mem _ hb), rfl, by rw [← h11, Nat.xor_assoc]; rfl⟩
  · obtain ⟨rfl, ms, acc, y, h3, h5, rfl, h4⟩ := h
    cases ms with
    | nil => cases h3
    | cons m ms =>
      cases h3
      try dsimp only [B4_Cr, dIfS, dOr, dAnd, dNot, dTest, dOp, dUn, dCB, dCons, dNil, dVar, dC, dSeq, dAsg, hName, dRet, dRetF, dRetN, dRaise, dNext, dDrop, dAppend, dCall, gI, gIC, gU, gMM, dChain, dAndV, dOrV, dNotV, dTup, dLst, dLstB, dNewK, dNewT, dPar, dAug, hTup, hCons, hEnd, hSub, dISeq, dIEn, dIR1, dIR2, dFor, dLc, dLcB, hPair, dYes, dBreak, dCont, dIf, dQuant, getS, setS, startD, DL.gSub, gDiv, gMod, gPow, gShl, gXor, gAddI, gLt, gLe, gGt, gGe, gNegU, gMax2, gMin2, gAbs, gIntC, gEq, gIsN, gAdd, gMul, dSl, dNoPart, dPart, wipeD, List.set, rNot, rChain, rOp, rVar, rC, rAnd, hLt, hLe, hGt, hGe, hEq, DL.rI, dSetF, dFld, dMeth, dMake, dMaxD, dJoin, dStarts, dIStr, dAnyS, dAnyZ, dIEnC, dLstRg2, dLcR, dCallR, dLam]
      refine hat (h5 m List.mem_cons_self) ?_
      try dsimp only [dIfS, dOr, dAnd, dNot, dTest, dOp, dUn, dCB, dCons, dNil, dVar, dC, dSeq, dAsg, hName, dRet, dRetF, dRetN, dRaise, dNext, dDrop, dAppend, dCall, gI, gIC, gU, gMM, dChain, dAndV, dOrV, dNotV, dTup, dLst, dLstB, dNewK, dNewT, dPar, dAug, hTup, hCons, hEnd, hSub, dISeq, dIEn, dIR1, dIR2, dFor, dLc, dLcB, hPair, dYes, dBreak, dCont, dIf, dQuant, getS, setS, startD, DL.gSub, gDiv, gMod, gPow, gShl, gXor, gAddI, gLt, gLe, gGt, gGe, gNegU, gMax2, gMin2, gAbs, gIntC, gEq, gIsN, gAdd, gMul, dSl, dNoPart, dPart, wipeD, List.set, rNot, rChain, rOp, rVar, rC, rAnd, hLt, hLe, hGt, hGe, hEq, DL.rI, dSetF, dFld, dMeth, dMake, dMaxD, dJoin, dStarts, dIStr, dAnyS, dAnyZ, dIEnC, dLstRg2, dLcR, dCallR, dLam]
      rw [bxN]
      exact hk _ _ ⟨rfl, ms, acc ^^^ vC opt m, _, rfl, fun n hn => h5 n (List.mem_cons_of_mem _ hn), rfl, by rw [← h4, Nat.xor_assoc]; rfl⟩
/-! ### texts of codes -/
def decN (n : Nat) : Str := decS (n : Int)
def textC (figs : List Nat) : Str := ("0." : Str) ++ Txt.join "" (figs.map decN)
theorem dec_small : ∀ n, n < 8 → (decN n).length = 1 ∧ ((n : Nat) : Int).natAbs.log2 < 1920 := by decide +kernel
theorem sum_len : ∀ {figs : List Nat}, (∀ m ∈ figs, m ≤ 7) → ((figs.map decN).map (·.length)).sum = figs.length
  | [], _ => rfl
  | a :: r, h => by
    have h1 := (dec_small a (by have := h a List.mem_cons_self; omega)).1
    have h2 := sum_len (figs := r) fun m hm => h m (List.mem_cons_of_mem _ hm)
    rw [List.map_cons, List.map_cons, List.sum_cons, List.length_cons, h2]
    show (decN a).length + _ = _
    rw [h1]; omega
theorem getS_setS : ∀ {Γ : Gm} {s : Nat} {d : D}, s < Γ.length → getS (setS Γ s d) s = some d
  | [], _, _, h => by simp at h
  | _ :: _, 0, _, _ => rfl
  | _ :: r, s + 1, _, h => getS_setS (Γ := r) (by simpa using h)
theorem join_len {figs : List Nat} (h : ∀ m ∈ figs, m ≤ 7) : (Txt.join "" (figs.map decN)).length ≤ figs.length ∧ ((figs.map decN).map (·.length)).sum = figs.length := by
  have e := sum_len h
  refine ⟨?_, e⟩
  have := PySem.StrLaws.join_length_le "" (figs.map decN)
  rw [e] at this
  show (Builtin.Str.glued _ _).length ≤ _
  rw [PySem.StrLaws.glued_eq_join]
  have e0 : ("" : Str).length = 0 := by decide
  rw [e0] at this
  simpa using this
def sp_Ct (C : Addr) : SpD := fun ds B q x => ∃ (p : Addr) (figs : List Nat), ds = [.ref p] ∧ CoB C p figs B ∧ q (.str (textC figs)) B
theorem str_row {gd : Gd} {s : Nat} {q : List D → Bx → Prop} {Γ : Gm} {B : Bx} (hs : s < Γ.length) {figs : List Nat} (h : ∀ m ∈ figs, m ≤ 7) (hg : ∀ f, gd = some f → f B) (hq : q ((figs.map decN).map D.str) B) :
    lcK gd (hName s) dYes (dCB gStr (dCons (dVar s) dNil)) Γ q (iN figs) [] B := by
  refine lc_pure (enc := fun (n : Nat) => D.int (n : Int)) (fun _ => true) (fun (n : Nat) => D.str (decN n)) hg figs [] (fun a ha K1 K2 k1 k2 => ?_) ?_
  · dsimp only [hName, dYes, dCB, dCons, dVar, dNil]
    rw [if_pos rfl]
    rw [getS_setS hs]
    exact ⟨(dec_small a (by have := h a ha; omega)).2, k1 rfl⟩
  · rw [List.filter_eq_self.mpr (by simp), List.nil_append]
    rw [List.map_map] at hq
    exact hq
theorem rd_Ct {C : Addr} {ds : List D} {B : Bx} {q : DK} {x : XD} (h : sp_Ct C ds B q x) : t_Ct C (endsD q x) (startD N_Ct ds) B := by
  obtain ⟨p, figs, rfl, hT, h1⟩ := h
  dsimp only [t_Ct, N_Ct, dRet, dOp, dC, dJoin, dLc, dISeq, dFld, dVar, startD, getS]
  refine ⟨_, rfl, hT.get (iSq_of (B0 := B) rfl (Few.refl _) fun gd hg => ⟨sizeOk_of (by rw [iN_len]; have := hT.len; omega), str_row (by show 1 < 2; decide) hT.le (hg _ (Few.refl _)) ⟨figs.map decN, rfl, ?_, ?_⟩⟩)⟩
  · have := (join_len hT.le).2
    rw [this]
    have e0 : ("" : Str).length = 0 := by decide
    rw [e0]
    have := hT.len
    omega
  · have h2 := (join_len hT.le).1
    have h3 := hT.len
    have e0 : ("0." : Str).length = 2 := by decide
    exact ⟨le_size (by rw [e0]; omega), here h1⟩
/-! ### code_of -/
def listsN (m : Nat) : Nat → List (List Nat)
  | 0 => [[]]
  | n + 1 => [] :: (List.range m).flatMap fun h => (listsN m n).map fun r => h :: r
theorem mem_listsN {m : Nat} : ∀ {n : Nat} {hs : List Nat}, hs.length ≤ n → (∀ h ∈ hs, h < m) → hs ∈ listsN m n
  | 0, [], _, _ => List.mem_singleton.mpr rfl
  | 0, _ :: _, h, _ => by simp at h
  | n + 1, [], _, _ => List.mem_cons_self
  | n + 1, a :: hs, h, k => List.mem_cons_of_mem _ (List.mem_flatMap.mpr ⟨a, List.mem_range.mpr (k a List.mem_cons_self), List.mem_map.mpr ⟨hs, mem_listsN (by simpa using h) (fun h hh => k h (List.mem_cons_of_mem _ hh)), rfl⟩⟩)
def isSign (c : Nat) : Bool := !decide (c ∈ ("01234567" : Str).cps.toList)
theorem tx_all : (listsN 8 3).all (fun figs => decide ((textC figs).length ≤ 10) && Txt.startswith (textC figs) "0." && decide ((cutS (textC figs) (some 2) none).cps.toList = figs.map fun n => 48 + n)) = true := by decide +kernel
theorem sign_ok : ∀ n, n < 8 → isSign (48 + n) = false ∧ PySem.intText? ⟨#[48 + n]⟩ = some (n : Int) := by decide +kernel
theorem tx_ok {figs : List Nat} (h : figs.length ≤ 3) (k : ∀ m ∈ figs, m < 8) : (textC figs).length ≤ 10 ∧ Txt.startswith (textC figs) "0." = true ∧ (cutS (textC figs) (some 2) none).cps.toList = figs.map fun n => 48 + n := by
  have := List.all_eq_true.mp tx_all figs (mem_listsN h k)
  simp only [Bool.and_eq_true, decide_eq_true_eq] at this
  exact ⟨this.1.1, this.1.2, this.2⟩
/-- a text that is no code -/
def badT (t : Str) : Bool := decide (t.length ≤ 100) && (!Txt.startswith t "0." || (cutS t (some 2) none).cps.toList.any isSign || decide ((cutS t (some 2) none).cps.toList = []))
def sp_cof (C CE : Addr) : SpD := fun ds B q x => (∃ figs : List Nat, ds = [.str (textC figs)] ∧ figs.length ≤ 3 ∧ (∀ m ∈ figs, m < 8) ∧ okC (figs.map fun (n : Nat) => (n : Int)) = true ∧ ∀ p, B p = none → q (.ref p) (put B p (.ins C [("figures", .tup (iN figs))]))) ∨
  (∃ t : Str, ds = [.str t] ∧ badT t = true ∧ x CE B)
theorem rd_cof {C CE : Addr} {ds : List D} {B : Bx} {q : DK} {x : XD} (h : sp_cof C CE ds B q x) : t_cof (sp_Ci C CE) C CE (endsD q x) (startD N_cof ds) B := by
  rcases h with ⟨figs, rfl, hl, hb, ok, h1⟩ | ⟨t, rfl, hbad, h1⟩
  · obtain ⟨t1, t2, t3⟩ := tx_ok hl hb
    try dsimp only [t_cof, N_cof, gSl, dIfS, dOr, dAnd, dNot, dTest, dOp, dUn, dCB, dCons, dNil, dVar, dC, dSeq, dAsg, hName, dRet, dRetF, dRetN, dRaise, dNext, dDrop, dAppend, dCall, gI, gIC, gU, gMM, dChain, dAndV, dOrV, dNotV, dTup, dLst, dLstB, dNewK, dNewT, dPar, dAug, hTup, hCons, hEnd, hSub, dISeq, dIEn, dIR1, dIR2, dFor, dLc, dLcB, hPair, dYes, dBreak, dCont, dIf, dQuant, getS, setS, startD, DL.gSub, gDiv, gMod, gPow, gShl, gXor, gAddI, gLt, gLe, gGt, gGe, gNegU, gMax2, gMin2, gAbs, gIntC, gEq, gIsN, gAdd, gMul, dSl, dNoPart, dPart, wipeD, List.set, rNot, rChain, rOp, rVar, rC, rAnd, hLt, hLe, hGt, hGe, hEq, DL.rI, dSetF, dFld, dMeth, dMake, dMaxD, dJoin, dStarts, dIStr, dAnyS, dAnyZ, dIEnC, dLstRg2, dLcR, dCallR, dLam]
    refine ⟨_, rfl, _, rfl, ?_⟩
    rw [t2]
    refine if_no rfl ⟨le_size (by omega), _, rfl, ?_⟩
    have e : (cutS (textC figs) (some 2) none).cps.toList.any (fun c => !decide (c ∈ ("01234567" : Str).cps.toList)) = false := by
      rw [t3, List.any_map, List.any_eq_false]
      intro n hn
      have := (sign_ok n (hb n hn)).1
      unfold isSign at this
      show ¬ (!decide (48 + n ∈ _)) = true
      rw [this]; decide
    rw [e]
    refine if_no rfl ⟨le_size (by omega), _, rfl, ?_⟩
    have es : DL.signs (cutS (textC figs) (some 2) none) = figs.map fun (n : Nat) => D.str ⟨#[48 + n]⟩ := by
      unfold DL.signs
      rw [t3, List.map_map]
      rfl
    rw [es]
    refine ⟨sizeOk_of (by rw [List.length_map]; omega), ?_⟩
    refine lc_pure (enc := fun (n : Nat) => D.str ⟨#[48 + n]⟩) (fun _ => true) (fun (n : Nat) => .int (n : Int)) (fun f e => by cases e) figs [] (fun a ha K1 K2 k1 k2 => ?_) ?_
    · try dsimp only [gIntS, dIfS, dOr, dAnd, dNot, dTest, dOp, dUn, dCB, dCons, dNil, dVar, dC, dSeq, dAsg, hName, dRet, dRetF, dRetN, dRaise, dNext, dDrop, dAppend, dCall, gI, gIC, gU, gMM, dChain, dAndV, dOrV, dNotV, dTup, dLst, dLstB, dNewK, dNewT, dPar, dAug, hTup, hCons, hEnd, hSub, dISeq, dIEn, dIR1, dIR2, dFor, dLc, dLcB, hPair, dYes, dBreak, dCont, dIf, dQuant, getS, setS, startD, DL.gSub, gDiv, gMod, gPow, gShl, gXor, gAddI, gLt, gLe, gGt, gGe, gNegU, gMax2, gMin2, gAbs, gIntC, gEq, gIsN, gAdd, gMul, dSl, dNoPart, dPart, wipeD, List.set, rNot, rChain, rOp, rVar, rC, rAnd, hLt, hLe, hGt, hGe, hEq, DL.rI, dSetF, dFld, dMeth, dMake, dMaxD, dJoin, dStarts, dIStr, dAnyS, dAnyZ, dIEnC, dLstRg2, dLcR, dCallR, dLam]
      exact if_yes rfl ⟨a, (sign_ok a (hb a ha)).2, by show (1 : Nat) ≤ 640; decide, k1 rfl⟩
    · intro p hp
      rw [List.filter_eq_self.mpr (by simp), List.nil_append]
      refine ⟨p, _, figs.map fun (n : Nat) => (n : Int), rfl, put_same, ?_, fun ys e => (by cases e), fun _ => ⟨rfl, ?_⟩, fun no => by rw [ok] at no; cases no⟩
      · show some _ = some _
        unfold iL
        rw [List.map_map]; rfl
      · rw [put_put]
        refine ⟨_, Few.refl _, ?_⟩
        have := h1 p hp
        rw [iN_iL] at this
        exact this
  · unfold badT at hbad
    rw [Bool.and_eq_true, decide_eq_true_eq] at hbad
    obtain ⟨hlen, hbad⟩ := hbad
    try dsimp only [t_cof, N_cof, gSl, dIfS, dOr, dAnd, dNot, dTest, dOp, dUn, dCB, dCons, dNil, dVar, dC, dSeq, dAsg, hName, dRet, dRetF, dRetN, dRaise, dNext, dDrop, dAppend, dCall, gI, gIC, gU, gMM, dChain, dAndV, dOrV, dNotV, dTup, dLst, dLstB, dNewK, dNewT, dPar, dAug, hTup, hCons, hEnd, hSub, dISeq, dIEn, dIR1, dIR2, dFor, dLc, dLcB, hPair, dYes, dBreak, dCont, dIf, dQuant, getS, setS, startD, DL.gSub, gDiv, gMod, gPow, gShl, gXor, gAddI, gLt, gLe, gGt, gGe, gNegU, gMax2, gMin2, gAbs, gIntC, gEq, gIsN, gAdd, gMul, dSl, dNoPart, dPart, wipeD, List.set, rNot, rChain, rOp, rVar, rC, rAnd, hLt, hLe, hGt, hGe, hEq, DL.rI, dSetF, dFld, dMeth, dMake, dMaxD, dJoin, dStarts, dIStr, dAnyS, dAnyZ, dIEnC, dLstRg2, dLcR, dCallR, dLam]
    refine ⟨_, rfl, _, rfl, ?_⟩
    refine ite_of (fun _ => if_yes rfl (here h1)) (fun h2 => ?_)
    rw [Bool.not_eq_false'] at h2
    refine ⟨le_size (by omega), _, rfl, ?_⟩
    refine ite_of (fun _ => here h1) (fun h3 => ?_)
    have h3 : (cutS t (some 2) none).cps.toList.any isSign = false := h3
    rw [h2, h3, Bool.not_true, Bool.false_or, Bool.false_or, decide_eq_true_eq] at hbad
    refine ⟨le_size (by omega), _, rfl, ?_⟩
    have es : DL.signs (cutS t (some 2) none) = [] := by unfold DL.signs; rw [hbad]; rfl
    rw [es]
    refine ⟨trivial, fun p hp => ⟨p, _, [], rfl, put_same, rfl, fun ys e => (by cases e), fun no => absurd no (by decide), fun _ => ⟨B, Few.put hp, hp, here h1⟩⟩⟩
end K02
set_option Elab.async false
set_option linter.all false
set_option pp.maxSteps 600
set_option maxRecDepth 100000
set_option maxHeartbeats 2000000
--MORE
namespace K02
open PySem PySem.Spec PyProof.Rows L2 DL PL
theorem upto_map : ∀ (n k : Nat), upto (k : Int) n = (List.range' k n).map fun (j : Nat) => D.int (j : Int)
  | 0, _ => rfl
  | n + 1, k => by
    rw [List.range'_succ, List.map_cons]
    show D.int (k : Int) :: upto ((k : Int) + 1) n = _
    rw [show (k : Int) + 1 = ((k + 1 : Nat) : Int) by omega, upto_map n (k + 1)]
/-- the first of those that are not there -/
theorem mex_at {ns : List Nat} {n : Nat} (h : ns.length + 1 ≤ n) : atI (((List.range' 0 n).filter fun j => decide (j ∉ ns)).map fun (j : Nat) => D.int (j : Int)) 0 = some (.int (mexN ns : Nat)) := by
  have h1 := mexO_head ns n 0
  rw [mexO_more (mexN_eq ns) h, List.head?_eq_getElem?] at h1
  refine L2.atI_nat (j := 0) ?_
  rw [List.getElem?_map, h1]
  rfl
/-- [value for value in range(n) if value not in near][0] -/
theorem mex_lc {gd : Gd} {s i : Nat} {Γ : Gm} {B : Bx} {q : List D → Bx → Prop} {ns : List Nat} {n : Nat} {d : D} (hs : s < Γ.length) (hi : s ≠ i) (hd : getS Γ i = some d) (hd2 : seqOf B d = some (iN ns)) (hg : ∀ f, gd = some f → f B)
    (hq : q (((List.range' 0 n).filter fun j => decide (j ∉ ns)).map fun (j : Nat) => D.int (j : Int)) B) :
    lcK gd (hName s) (dTest (dOp (gIn true) (dVar s) (dVar i))) (dVar s) Γ q (upto 0 n) [] B := by
  rw [show (0 : Int) = ((0 : Nat) : Int) from rfl, upto_map]
  refine lc_pure (enc := fun (j : Nat) => D.int (j : Int)) (fun j => decide (j ∉ ns)) (fun (j : Nat) => D.int (j : Int)) hg _ [] (fun a ha K1 K2 k1 k2 => ?_) hq
  dsimp only [hName, dTest, dOp, dVar]
  rw [getS_setS hs, getS_setS_ne hi, hd]
  refine gIn_seq hd2 rfl (flat_N ns) ?_
  rw [inD_N]
  dsimp only
  by_cases hm : a ∈ ns
  · rw [decide_eq_true hm]
    exact if_no rfl (k2 (by simp [hm]))
  · rw [decide_eq_false hm]
    exact if_yes rfl (k1 (by simp [hm]))
/-! ### _law_values -/
def sp_lval : SpD := fun ds B q x => ∃ (nums : List Nat) (m : Nat), ds = [.lst (iN nums), .int (m : Int)] ∧ (∀ n ∈ nums, 1 ≤ n) ∧ nums.length ≤ 8 ∧ m ≤ 600 ∧ q (.lst (iN (valT nums (m + 1)))) B
theorem rd_lval {ds : List D} {B : Bx} {q : DK} {x : XD} (h : sp_lval ds B q x) : t_lval (endsD q x) (startD N_lval ds) B := by
  obtain ⟨nums, m, rfl, hp, hl, hm, h1⟩ := h
  try dsimp only [t_lval, N_lval, dIfS, dOr, dAnd, dNot, dTest, dOp, dUn, dCB, dCons, dNil, dVar, dC, dSeq, dAsg, hName, dRet, dRetF, dRetN, dRaise, dNext, dDrop, dAppend, dCall, gI, gIC, gU, gMM, dChain, dAndV, dOrV, dNotV, dTup, dLst, dLstB, dNewK, dNewT, dPar, dAug, hTup, hCons, hEnd, hSub, dISeq, dIEn, dIR1, dIR2, dFor, dLc, dLcB, hPair, dYes, dBreak, dCont, dIf, dQuant, getS, setS, startD, DL.gSub, gDiv, gMod, gPow, gShl, gXor, gAddI, gLt, gLe, gGt, gGe, gNegU, gMax2, gMin2, gAbs, gIntC, gEq, gIsN, gAdd, gMul, dSl, dNoPart, dPart, wipeD, List.set, rNot, rChain, rOp, rVar, rC, rAnd, hLt, hLe, hGt, hGe, hEq, DL.rI, dSetF, dFld, dMeth, dMake, dMaxD, dJoin, dStarts, dIStr, dAnyS, dAnyZ, dIEnC, dLstRg2, dLcR, dCallR, dLam]
  refine ⟨trivial, by omega, ?_⟩
  refine for_by (fun r Γ B' => B' = B ∧ ∃ (h n : Nat) (y z : Option D), r = upto (h : Int) n ∧ Γ = [some (.lst (iN nums)), some (.int (m : Int)), some (.lst (iN (valT nums h))), y, z, none, none] ∧ h + n = m + 1)
    ⟨rfl, 0, m + 1, none, none, by show upto 0 _ = upto 0 _; congr 1, rfl, by omega⟩ (fun r Γ B' h f e => by cases e) (fun Γ B' h => ?_) (fun e r Γ B' K h hk => ?_)
  · obtain ⟨rfl, h, n, y, z, h3, rfl, h4⟩ := h
    cases n with
    | succ n => cases h3
    | zero =>
      have : h = m + 1 := by omega
      subst this
      exact here h1
  · obtain ⟨rfl, h, n, y, z, h3, rfl, h4⟩ := h
    cases n with
    | zero => cases h3
    | succ n =>
      cases h3
      try dsimp only [B1_lval, dIfS, dOr, dAnd, dNot, dTest, dOp, dUn, dCB, dCons, dNil, dVar, dC, dSeq, dAsg, hName, dRet, dRetF, dRetN, dRaise, dNext, dDrop, dAppend, dCall, gI, gIC, gU, gMM, dChain, dAndV, dOrV, dNotV, dTup, dLst, dLstB, dNewK, dNewT, dPar, dAug, hTup, hCons, hEnd, hSub, dISeq, dIEn, dIR1, dIR2, dFor, dLc, dLcB, hPair, dYes, dBreak, dCont, dIf, dQuant, getS, setS, startD, DL.gSub, gDiv, gMod, gPow, gShl, gXor, gAddI, gLt, gLe, gGt, gGe, gNegU, gMax2, gMin2, gAbs, gIntC, gEq, gIsN, gAdd, gMul, dSl, dNoPart, dPart, wipeD, List.set, rNot, rChain, rOp, rVar, rC, rAnd, hLt, hLe, hGt, hGe, hEq, DL.rI, dSetF, dFld, dMeth, dMake, dMaxD, dJoin, dStarts, dIStr, dAnyS, dAnyZ, dIEnC, dLstRg2, dLcR, dCallR, dLam]
      refine iSq_of (B0 := B') rfl (Few.refl _) fun gd hg => ⟨sizeOk_of (by rw [iN_len]; omega), ?_⟩
      refine lc_pure (enc := fun (n : Nat) => D.int (n : Int)) (fun m => decide (m ≤ h)) (fun m => .int ((valT nums h).getD (h - m) 0 : Nat)) (hg _ (Few.refl _)) nums [] (fun a ha K1 K2 k1 k2 => ?_) ?_
      · try dsimp only [dIfS, dOr, dAnd, dNot, dTest, dOp, dUn, dCB, dCons, dNil, dVar, dC, dSeq, dAsg, hName, dRet, dRetF, dRetN, dRaise, dNext, dDrop, dAppend, dCall, gI, gIC, gU, gMM, dChain, dAndV, dOrV, dNotV, dTup, dLst, dLstB, dNewK, dNewT, dPar, dAug, hTup, hCons, hEnd, hSub, dISeq, dIEn, dIR1, dIR2, dFor, dLc, dLcB, hPair, dYes, dBreak, dCont, dIf, dQuant, getS, setS, startD, DL.gSub, gDiv, gMod, gPow, gShl, gXor, gAddI, gLt, gLe, gGt, gGe, gNegU, gMax2, gMin2, gAbs, gIntC, gEq, gIsN, gAdd, gMul, dSl, dNoPart, dPart, wipeD, List.set, rNot, rChain, rOp, rVar, rC, rAnd, hLt, hLe, hGt, hGe, hEq, DL.rI, dSetF, dFld, dMeth, dMake, dMaxD, dJoin, dStarts, dIStr, dAnyS, dAnyZ, dIEnC, dLstRg2, dLcR, dCallR, dLam]
        refine ite_dec (fun c => ?_) (fun c => k2 (decide_eq_false (by omega)))
        have hc : a ≤ h := by omega
        rw [show (h : Int) - (a : Int) = ((h - a : Nat) : Int) by omega]
        refine gIx_N rfl (by rw [valT_len]; have := hp a ha; omega) (k1 (decide_eq_true hc))
      · have en : [] ++ (nums.filter fun m => decide (m ≤ h)).map (fun m => D.int ((valT nums h).getD (h - m) 0 : Nat)) = iN (near nums (valT nums h) h) := by
          unfold near iN
          rw [List.map_map]
          rfl
        rw [en]
        have nl : (near nums (valT nums h) h).length ≤ 8 := by
          unfold near
          rw [List.length_map]
          exact Nat.le_trans (List.length_filter_le _ _) hl
        try dsimp only [dIfS, dOr, dAnd, dNot, dTest, dOp, dUn, dCB, dCons, dNil, dVar, dC, dSeq, dAsg, hName, dRet, dRetF, dRetN, dRaise, dNext, dDrop, dAppend, dCall, gI, gIC, gU, gMM, dChain, dAndV, dOrV, dNotV, dTup, dLst, dLstB, dNewK, dNewT, dPar, dAug, hTup, hCons, hEnd, hSub, dISeq, dIEn, dIR1, dIR2, dFor, dLc, dLcB, hPair, dYes, dBreak, dCont, dIf, dQuant, getS, setS, startD, DL.gSub, gDiv, gMod, gPow, gShl, gXor, gAddI, gLt, gLe, gGt, gGe, gNegU, gMax2, gMin2, gAbs, gIntC, gEq, gIsN, gAdd, gMul, dSl, dNoPart, dPart, wipeD, List.set, rNot, rChain, rOp, rVar, rC, rAnd, hLt, hLe, hGt, hGe, hEq, DL.rI, dSetF, dFld, dMeth, dMake, dMaxD, dJoin, dStarts, dIStr, dAnyS, dAnyZ, dIEnC, dLstRg2, dLcR, dCallR, dLam]
        refine gLen_seq rfl ?_
        try dsimp only [dIfS, dOr, dAnd, dNot, dTest, dOp, dUn, dCB, dCons, dNil, dVar, dC, dSeq, dAsg, hName, dRet, dRetF, dRetN, dRaise, dNext, dDrop, dAppend, dCall, gI, gIC, gU, gMM, dChain, dAndV, dOrV, dNotV, dTup, dLst, dLstB, dNewK, dNewT, dPar, dAug, hTup, hCons, hEnd, hSub, dISeq, dIEn, dIR1, dIR2, dFor, dLc, dLcB, hPair, dYes, dBreak, dCont, dIf, dQuant, getS, setS, startD, DL.gSub, gDiv, gMod, gPow, gShl, gXor, gAddI, gLt, gLe, gGt, gGe, gNegU, gMax2, gMin2, gAbs, gIntC, gEq, gIsN, gAdd, gMul, dSl, dNoPart, dPart, wipeD, List.set, rNot, rChain, rOp, rVar, rC, rAnd, hLt, hLe, hGt, hGe, hEq, DL.rI, dSetF, dFld, dMeth, dMake, dMaxD, dJoin, dStarts, dIStr, dAnyS, dAnyZ, dIEnC, dLstRg2, dLcR, dCallR, dLam]
        rw [iN_len]
        refine ⟨by omega, sizeOk_of (by rw [upto_length]; omega), ?_⟩
        rw [show ((near nums (valT nums h) h).length + 1 : Int).toNat = (near nums (valT nums h) h).length + 1 by omega]
        refine mex_lc (i := 4) (ns := near nums (valT nums h) h) (by show 6 < 7; decide) (by decide) rfl rfl (fun f e => by cases e) ⟨0, _, rfl, mex_at (Nat.le_refl _), ?_⟩
        refine ⟨trivial, le_size (by rw [iN_len, valT_len]; simp; omega), ?_⟩
        have ev : iN (valT nums h) ++ [D.int (mexN (near nums (valT nums h) h) : Nat)] = iN (valT nums (h + 1)) := by
          rw [show valT nums (h + 1) = valT nums h ++ [mexN (near nums (valT nums h) h)] from rfl, iN_app]
          rfl
        rw [ev]
        exact hk _ _ ⟨rfl, h + 1, n, _, _, rfl, rfl, by omega⟩
/-! ### _law_options -/
theorem odd_in : ∀ f, f < 8 → inD (.int ((f : Nat) : Int)) [.int 1, .int 3, .int 5, .int 7] = decide (f % 2 = 1) ∧ inD (.int ((f : Nat) : Int)) [.int 2, .int 3, .int 6, .int 7] = decide (f / 2 % 2 = 1) := by decide
section
variable {B : Bx} {E : DEnds} {rows : List (List Nat)} {z0 z3 z6 z7 : Option D} {h k f : Nat}
theorem rowsD_app (a b : List (List Nat)) : rowsD (a ++ b) = rowsD a ++ rowsD b := List.map_append
theorem lo3 (hf : f < 8) (hl : rows.length < 900000)
    (hn : E.nx [z0, some (.int (h : Int)), some (.lst (rowsD (rows ++ (if h = k ∧ f % 2 = 1 then [[]] else [])))), z3, some (.int (f : Int)), some (.int ((h : Int) - (k : Int))), z6, z7] B) :
    S3_lopt E [z0, some (.int (h : Int)), some (.lst (rowsD rows)), z3, some (.int (f : Int)), some (.int ((h : Int) - (k : Int))), z6, z7] B := by
  try dsimp only [S3_lopt, gIn, dIfS, dOr, dAnd, dNot, dTest, dOp, dUn, dCB, dCons, dNil, dVar, dC, dSeq, dAsg, hName, dRet, dRetF, dRetN, dRaise, dNext, dDrop, dAppend, dCall, gI, gIC, gU, gMM, dChain, dAndV, dOrV, dNotV, dTup, dLst, dLstB, dNewK, dNewT, dPar, dAug, hTup, hCons, hEnd, hSub, dISeq, dIEn, dIR1, dIR2, dFor, dLc, dLcB, hPair, dYes, dBreak, dCont, dIf, dQuant, getS, setS, startD, DL.gSub, gDiv, gMod, gPow, gShl, gXor, gAddI, gLt, gLe, gGt, gGe, gNegU, gMax2, gMin2, gAbs, gIntC, gEq, gIsN, gAdd, gMul, dSl, dNoPart, dPart, wipeD, List.set, rNot, rChain, rOp, rVar, rC, rAnd, hLt, hLe, hGt, hGe, hEq, DL.rI, dSetF, dFld, dMeth, dMake, dMaxD, dJoin, dStarts, dIStr, dAnyS, dAnyZ, dIEnC, dLstRg2, dLcR, dCallR, dLam]
  rw [Bool.false_xor]
  have no : ¬ (h = k ∧ f % 2 = 1) → E.nx [z0, some (.int (h : Int)), some (.lst (rowsD rows)), z3, some (.int (f : Int)), some (.int ((h : Int) - (k : Int))), z6, z7] B := fun hc => by
    rw [if_neg hc, List.append_nil] at hn
    exact hn
  refine ite_dec (fun c1 => ⟨trivial, _, rfl, rfl, rfl, ?_⟩) (fun c1 => if_no rfl (no (by omega)))
  rw [Bool.false_xor, (odd_in f hf).1]
  refine ite_dec (fun c2 => ⟨trivial, trivial, le_size (by rw [rowsD_len]; simp; omega), ?_⟩) (fun c2 => no (by omega))
  rw [if_pos ⟨by omega, c2⟩, rowsD_app] at hn
  exact hn
theorem lo4 (hf : f < 8) (hl : rows.length < 900000)
    (hn : E.nx [z0, some (.int (h : Int)), some (.lst (rowsD (rows ++ (if k < h ∧ f / 2 % 2 = 1 then [[h - k]] else [])))), z3, some (.int (f : Int)), some (.int ((h : Int) - (k : Int))), z6, z7] B) :
    S4_lopt E [z0, some (.int (h : Int)), some (.lst (rowsD rows)), z3, some (.int (f : Int)), some (.int ((h : Int) - (k : Int))), z6, z7] B := by
  try dsimp only [S4_lopt, gIn, dIfS, dOr, dAnd, dNot, dTest, dOp, dUn, dCB, dCons, dNil, dVar, dC, dSeq, dAsg, hName, dRet, dRetF, dRetN, dRaise, dNext, dDrop, dAppend, dCall, gI, gIC, gU, gMM, dChain, dAndV, dOrV, dNotV, dTup, dLst, dLstB, dNewK, dNewT, dPar, dAug, hTup, hCons, hEnd, hSub, dISeq, dIEn, dIR1, dIR2, dFor, dLc, dLcB, hPair, dYes, dBreak, dCont, dIf, dQuant, getS, setS, startD, DL.gSub, gDiv, gMod, gPow, gShl, gXor, gAddI, gLt, gLe, gGt, gGe, gNegU, gMax2, gMin2, gAbs, gIntC, gEq, gIsN, gAdd, gMul, dSl, dNoPart, dPart, wipeD, List.set, rNot, rChain, rOp, rVar, rC, rAnd, hLt, hLe, hGt, hGe, hEq, DL.rI, dSetF, dFld, dMeth, dMake, dMaxD, dJoin, dStarts, dIStr, dAnyS, dAnyZ, dIEnC, dLstRg2, dLcR, dCallR, dLam]
  have no : ¬ (k < h ∧ f / 2 % 2 = 1) → E.nx [z0, some (.int (h : Int)), some (.lst (rowsD rows)), z3, some (.int (f : Int)), some (.int ((h : Int) - (k : Int))), z6, z7] B := fun hc => by
    rw [if_neg hc, List.append_nil] at hn
    exact hn
  refine ite_dec (fun c1 => ⟨trivial, _, rfl, rfl, rfl, ?_⟩) (fun c1 => if_no rfl (no (by omega)))
  rw [Bool.false_xor, (odd_in f hf).2]
  refine ite_dec (fun c2 => ⟨trivial, trivial, le_size (by rw [rowsD_len]; simp; omega), ?_⟩) (fun c2 => no (by omega))
  rw [if_pos ⟨by omega, c2⟩, rowsD_app] at hn
  rw [show (h : Int) - (k : Int) = ((h - k : Nat) : Int) by omega] at hn ⊢
  exact hn
theorem lo5 (hf : f < 8) (hl : rows.length + h < 900000) (hh : h ≤ 200)
    (hn : E.nx [z0, some (.int (h : Int)), some (.lst (rowsD (rows ++ (if k + 1 < h ∧ 4 ≤ f then (List.range' 1 ((h - k) / 2)).map fun o => [o, h - k - o] else [])))), z3, some (.int (f : Int)), some (.int ((h : Int) - (k : Int))), z6, z7] B) :
    S5_lopt E [z0, some (.int (h : Int)), some (.lst (rowsD rows)), z3, some (.int (f : Int)), some (.int ((h : Int) - (k : Int))), z6, z7] B := by
  try dsimp only [S5_lopt, dIfS, dOr, dAnd, dNot, dTest, dOp, dUn, dCB, dCons, dNil, dVar, dC, dSeq, dAsg, hName, dRet, dRetF, dRetN, dRaise, dNext, dDrop, dAppend, dCall, gI, gIC, gU, gMM, dChain, dAndV, dOrV, dNotV, dTup, dLst, dLstB, dNewK, dNewT, dPar, dAug, hTup, hCons, hEnd, hSub, dISeq, dIEn, dIR1, dIR2, dFor, dLc, dLcB, hPair, dYes, dBreak, dCont, dIf, dQuant, getS, setS, startD, DL.gSub, gDiv, gMod, gPow, gShl, gXor, gAddI, gLt, gLe, gGt, gGe, gNegU, gMax2, gMin2, gAbs, gIntC, gEq, gIsN, gAdd, gMul, dSl, dNoPart, dPart, wipeD, List.set, rNot, rChain, rOp, rVar, rC, rAnd, hLt, hLe, hGt, hGe, hEq, DL.rI, dSetF, dFld, dMeth, dMake, dMaxD, dJoin, dStarts, dIStr, dAnyS, dAnyZ, dIEnC, dLstRg2, dLcR, dCallR, dLam]
  have no : ¬ (k + 1 < h ∧ 4 ≤ f) → E.nx [z0, some (.int (h : Int)), some (.lst (rowsD rows)), z3, some (.int (f : Int)), some (.int ((h : Int) - (k : Int))), z6, z7] B := fun hc => by
    rw [if_neg hc, List.append_nil] at hn
    exact hn
  refine ite_dec (fun c1 => ite_dec (fun c2 => ⟨by omega, sizeOk_of (by rw [upto_length]; omega), ?_⟩) (fun c2 => no (by omega))) (fun c1 => if_no rfl (no (by omega)))
  rw [if_pos ⟨by omega, by omega⟩, rowsD_app] at hn
  rw [show (h : Int) - (k : Int) = ((h - k : Nat) : Int) by omega] at hn ⊢
  generalize hle : h - k = left at hn ⊢
  rw [show ((left : Int) - 1).toNat = left - 1 by omega, show (1 : Int) = ((1 : Nat) : Int) from rfl, upto_map]
  refine lc_pure (enc := fun (j : Nat) => D.int (j : Int)) (fun j => decide (2 * j ≤ left)) (fun (j : Nat) => .tup (iN [j, left - j])) (fun f e => by cases e) _ [] (fun a ha K1 K2 k1 k2 => ?_) ?_
  · rw [List.mem_range'_1] at ha
    try dsimp only [dIfS, dOr, dAnd, dNot, dTest, dOp, dUn, dCB, dCons, dNil, dVar, dC, dSeq, dAsg, hName, dRet, dRetF, dRetN, dRaise, dNext, dDrop, dAppend, dCall, gI, gIC, gU, gMM, dChain, dAndV, dOrV, dNotV, dTup, dLst, dLstB, dNewK, dNewT, dPar, dAug, hTup, hCons, hEnd, hSub, dISeq, dIEn, dIR1, dIR2, dFor, dLc, dLcB, hPair, dYes, dBreak, dCont, dIf, dQuant, getS, setS, startD, DL.gSub, gDiv, gMod, gPow, gShl, gXor, gAddI, gLt, gLe, gGt, gGe, gNegU, gMax2, gMin2, gAbs, gIntC, gEq, gIsN, gAdd, gMul, dSl, dNoPart, dPart, wipeD, List.set, rNot, rChain, rOp, rVar, rC, rAnd, hLt, hLe, hGt, hGe, hEq, DL.rI, dSetF, dFld, dMeth, dMake, dMaxD, dJoin, dStarts, dIStr, dAnyS, dAnyZ, dIEnC, dLstRg2, dLcR, dCallR, dLam]
    refine ite_dec (fun c => ⟨trivial, ?_⟩) (fun c => k2 (decide_eq_false (by omega)))
    rw [show (left : Int) - (a : Int) = ((left - a : Nat) : Int) by omega]
    exact k1 (decide_eq_true (by omega))
  · have ef : (List.range' 1 (left - 1)).filter (fun j => decide (2 * j ≤ left)) = List.range' 1 (left / 2) := by
      have e2 : left - 1 = left / 2 + (left - 1 - left / 2) := by omega
      rw [e2, ← List.range'_append_1, List.filter_append]
      rw [List.filter_eq_self.mpr (fun a ha => by rw [List.mem_range'_1] at ha; exact decide_eq_true (by omega))]
      rw [List.filter_eq_nil_iff.mpr (fun a ha => by rw [List.mem_range'_1] at ha; rw [decide_eq_true_eq]; omega)]
      rw [List.append_nil]
    rw [ef]
    have er : [] ++ (List.range' 1 (left / 2)).map (fun (j : Nat) => D.tup (iN [j, left - j])) = rowsD ((List.range' 1 (left / 2)).map fun o => [o, left - o]) := by
      unfold rowsD
      rw [List.map_map]; rfl
    rw [er]
    refine ⟨le_size (by rw [rowsD_len, rowsD_len, List.length_map, List.length_range']; omega), hn⟩
end
abbrev fO : List Int → D := fun _ => .int 1
theorem merge_fold : ∀ (rows ks : List (List Int)), (rows.map fun r => (r.map (Sum.inl : Int → Key), D.int 1)).foldl (fun acc kv => putD acc kv.1 kv.2) (memo fO ks) = memo fO (rows.foldl addR ks)
  | [], _ => rfl
  | r :: rows, ks => by
    rw [List.map_cons, List.foldl_cons, List.foldl_cons]
    have e : putD (memo fO ks) (r.map Sum.inl) (D.int 1) = memo fO (addR ks r) := by
      have := memo_put fO ks r
      rw [show fO r = D.int 1 from rfl] at this
      rw [this]
      unfold addR addD
      by_cases hr : r ∈ ks
      · rw [if_pos hr, if_pos hr]
      · rw [if_neg hr, if_neg hr]
    show List.foldl _ (putD (memo fO ks) (r.map Sum.inl) (D.int 1)) _ = _
    rw [e]
    exact merge_fold rows (addR ks r)
def sp_lopt : SpD := fun ds B q x => ∃ (figs : List Nat) (h : Nat), ds = [.lst (iN figs), .int (h : Int)] ∧ (∀ m ∈ figs, m < 8) ∧ figs.length ≤ 5 ∧ h ≤ 200 ∧ ∀ B', Few B B' → q (.lst (rowsD (optC figs h))) B'
theorem rd_lopt {ds : List D} {B : Bx} {q : DK} {x : XD} (h : sp_lopt ds B q x) : t_lopt (endsD q x) (startD N_lopt ds) B := by
  obtain ⟨figs, h, rfl, hb, hl, hh, h1⟩ := h
  try dsimp only [t_lopt, N_lopt, S1_lopt, S6_lopt, S7_lopt, dIfS, dOr, dAnd, dNot, dTest, dOp, dUn, dCB, dCons, dNil, dVar, dC, dSeq, dAsg, hName, dRet, dRetF, dRetN, dRaise, dNext, dDrop, dAppend, dCall, gI, gIC, gU, gMM, dChain, dAndV, dOrV, dNotV, dTup, dLst, dLstB, dNewK, dNewT, dPar, dAug, hTup, hCons, hEnd, hSub, dISeq, dIEn, dIR1, dIR2, dFor, dLc, dLcB, hPair, dYes, dBreak, dCont, dIf, dQuant, getS, setS, startD, DL.gSub, gDiv, gMod, gPow, gShl, gXor, gAddI, gLt, gLe, gGt, gGe, gNegU, gMax2, gMin2, gAbs, gIntC, gEq, gIsN, gAdd, gMul, dSl, dNoPart, dPart, wipeD, List.set, rNot, rChain, rOp, rVar, rC, rAnd, hLt, hLe, hGt, hGe, hEq, DL.rI, dSetF, dFld, dMeth, dMake, dMaxD, dJoin, dStarts, dIStr, dAnyS, dAnyZ, dIEnC, dLstRg2, dLcR, dCallR, dLam]
  refine ⟨trivial, ?_⟩
  refine iEn_of (B0 := B) rfl (Few.refl _) fun gd hg => ?_
  refine for_by (fun r Γ B' => B' = B ∧ ∃ (k : Nat) (ms : List Nat) (rows : List (List Nat)) (z3 z4 z5 : Option D), r = enumL (k : Int) (iN ms) ∧ (∀ m ∈ ms, m < 8) ∧ Γ = [some (.lst (iN figs)), some (.int (h : Int)), some (.lst (rowsD rows)), z3, z4, z5, none, none] ∧ rows ++ rowsF h (k + 1) ms = rowsF h 1 figs ∧ rows.length + 202 * ms.length ≤ 1010)
    ⟨rfl, 0, figs, [], none, none, none, rfl, hb, rfl, rfl, by simp; omega⟩ (fun r Γ B' h f e => by rw [h.1] ; exact hg _ (Few.refl _) f e) (fun Γ B' h2 => ?_) (fun e r Γ B' K h2 hk => ?_)
  · obtain ⟨rfl, k, ms, rows, z3, z4, z5, h3, _, rfl, h4, h5⟩ := h2
    cases ms with
    | cons m ms => cases h3
    | nil =>
      rw [show rowsF h (k + 1) [] = [] from rfl, List.append_nil] at h4
      subst h4
      try dsimp only [dIfS, dOr, dAnd, dNot, dTest, dOp, dUn, dCB, dCons, dNil, dVar, dC, dSeq, dAsg, hName, dRet, dRetF, dRetN, dRaise, dNext, dDrop, dAppend, dCall, gI, gIC, gU, gMM, dChain, dAndV, dOrV, dNotV, dTup, dLst, dLstB, dNewK, dNewT, dPar, dAug, hTup, hCons, hEnd, hSub, dISeq, dIEn, dIR1, dIR2, dFor, dLc, dLcB, hPair, dYes, dBreak, dCont, dIf, dQuant, getS, setS, startD, DL.gSub, gDiv, gMod, gPow, gShl, gXor, gAddI, gLt, gLe, gGt, gGe, gNegU, gMax2, gMin2, gAbs, gIntC, gEq, gIsN, gAdd, gMul, dSl, dNoPart, dPart, wipeD, List.set, rNot, rChain, rOp, rVar, rC, rAnd, hLt, hLe, hGt, hGe, hEq, DL.rI, dSetF, dFld, dMeth, dMake, dMaxD, dJoin, dStarts, dIStr, dAnyS, dAnyZ, dIEnC, dLstRg2, dLcR, dCallR, dLam]
      refine iSq_of (B0 := B') rfl (Few.refl _) fun gd2 hg2 => ⟨sizeOk_of (by rw [rowsD_len]; simp at h5; omega), ?_⟩
      refine lc_pure (enc := fun (r : List Nat) => D.tup (iN r)) (fun _ => true) (fun r => .tup [.tup (iN r), .int 1]) (hg2 _ (Few.refl _)) _ [] (fun a ha K1 K2 k1 k2 => ?_) ?_
      · try dsimp only [dIfS, dOr, dAnd, dNot, dTest, dOp, dUn, dCB, dCons, dNil, dVar, dC, dSeq, dAsg, hName, dRet, dRetF, dRetN, dRaise, dNext, dDrop, dAppend, dCall, gI, gIC, gU, gMM, dChain, dAndV, dOrV, dNotV, dTup, dLst, dLstB, dNewK, dNewT, dPar, dAug, hTup, hCons, hEnd, hSub, dISeq, dIEn, dIR1, dIR2, dFor, dLc, dLcB, hPair, dYes, dBreak, dCont, dIf, dQuant, getS, setS, startD, DL.gSub, gDiv, gMod, gPow, gShl, gXor, gAddI, gLt, gLe, gGt, gGe, gNegU, gMax2, gMin2, gAbs, gIntC, gEq, gIsN, gAdd, gMul, dSl, dNoPart, dPart, wipeD, List.set, rNot, rChain, rOp, rVar, rC, rAnd, hLt, hLe, hGt, hGe, hEq, DL.rI, dSetF, dFld, dMeth, dMake, dMaxD, dJoin, dStarts, dIStr, dAnyS, dAnyZ, dIEnC, dLstRg2, dLcR, dCallR, dLam]
        exact if_yes rfl ⟨trivial, k1 rfl⟩
      · rw [List.filter_eq_self.mpr (by simp), List.nil_append]
        refine ⟨(rowsF h 1 figs).map fun r => ((castL r).map Sum.inl, D.int 1), ?_, fun p hp => ?_⟩
        · show some _ = some _
          rw [List.map_map]
          congr 1
          refine List.map_congr_left fun r _ => ?_
          show D.tup [D.tup (iN r), D.int 1] = D.tup [D.tup (((castL r).map Sum.inl).map kD), D.int 1]
          rw [List.map_map]
          unfold castL
          rw [List.map_map]
          rfl
        · have em : mergeD ((rowsF h 1 figs).map fun r => ((castL r).map (Sum.inl : Int → Key), D.int 1)) = memo fO (dd ((rowsF h 1 figs).map castL)) := by
            have := merge_fold ((rowsF h 1 figs).map castL) []
            rw [List.map_map] at this
            exact this
          rw [em]
          refine ⟨_, dd ((rowsF h 1 figs).map castL), put_same, ?_, first_ok figs h, ?_⟩
          · unfold memo; rw [List.map_map]; rfl
          rw [opt_tup]
          exact here (h1 _ (Few.put hp))
  · obtain ⟨rfl, k, ms, rows, z3, z4, z5, h3, hms, rfl, h4, h5⟩ := h2
    cases ms with
    | nil => cases h3
    | cons f ms =>
      cases h3
      have hf := hms f List.mem_cons_self
      rw [List.length_cons] at h5
      try dsimp only [B1_lopt, S2_lopt, dIfS, dOr, dAnd, dNot, dTest, dOp, dUn, dCB, dCons, dNil, dVar, dC, dSeq, dAsg, hName, dRet, dRetF, dRetN, dRaise, dNext, dDrop, dAppend, dCall, gI, gIC, gU, gMM, dChain, dAndV, dOrV, dNotV, dTup, dLst, dLstB, dNewK, dNewT, dPar, dAug, hTup, hCons, hEnd, hSub, dISeq, dIEn, dIR1, dIR2, dFor, dLc, dLcB, hPair, dYes, dBreak, dCont, dIf, dQuant, getS, setS, startD, DL.gSub, gDiv, gMod, gPow, gShl, gXor, gAddI, gLt, gLe, gGt, gGe, gNegU, gMax2, gMin2, gAbs, gIntC, gEq, gIsN, gAdd, gMul, dSl, dNoPart, dPart, wipeD, List.set, rNot, rChain, rOp, rVar, rC, rAnd, hLt, hLe, hGt, hGe, hEq, DL.rI, dSetF, dFld, dMeth, dMake, dMaxD, dJoin, dStarts, dIStr, dAnyS, dAnyZ, dIEnC, dLstRg2, dLcR, dCallR, dLam]
      rw [show (h : Int) - (k : Int) - 1 = (h : Int) - ((k + 1 : Nat) : Int) by omega]
      have e1 : (if h = k + 1 ∧ f % 2 = 1 then [[]] else [] : List (List Nat)).length ≤ 1 := by split <;> simp
      have e2 : (if k + 1 < h ∧ f / 2 % 2 = 1 then [[h - (k + 1)]] else [] : List (List Nat)).length ≤ 1 := by split <;> simp
      have e3 := row1_len h (k + 1) f
      unfold row1 at e3
      rw [List.length_append, List.length_append] at e3
      refine lo3 hf (by omega) (lo4 hf (by rw [List.length_append]; omega) (lo5 hf (by rw [List.length_append, List.length_append]; omega) hh ?_))
      refine hk _ _ ⟨rfl, k + 1, ms, _, _, _, _, rfl, fun m hm => hms m (List.mem_cons_of_mem _ hm), rfl, ?_, ?_⟩
      · rw [← h4]
        show _ = rows ++ (row1 h (k + 1) f ++ rowsF h (k + 1 + 1) ms)
        unfold row1
        simp only [List.append_assoc]
      · rw [List.length_append, List.length_append, List.length_append]; omega
/-! ### _law_worths -/
theorem xr_cases {vs row : List Nat} (h : row.length ≤ 2) : xr vs row = match row with | [] => 0 | [a] => vs.getD a 0 | a :: b :: _ => vs.getD a 0 ^^^ vs.getD b 0 := by
  match row, h with
  | [], _ => rfl
  | [a], _ => exact Nat.xor_zero _
  | [a, b], _ => show _ ^^^ (_ ^^^ 0) = _; rw [Nat.xor_zero]
def sp_lwor : SpD := fun ds B q x => ∃ (figs : List Nat) (m : Nat), ds = [.lst (iN figs), .int (m : Int)] ∧ (∀ m ∈ figs, m < 8) ∧ figs.length ≤ 5 ∧ m ≤ 200 ∧ ∀ B', Few B B' → q (.lst (iN (valC (optC figs) (m + 1)))) B'
theorem rd_lwor {ds : List D} {B : Bx} {q : DK} {x : XD} (h : sp_lwor ds B q x) : t_lwor sp_lopt (endsD q x) (startD N_lwor ds) B := by
  obtain ⟨figs, m, rfl, hb, hl, hm, h1⟩ := h
  try dsimp only [t_lwor, N_lwor, dIfS, dOr, dAnd, dNot, dTest, dOp, dUn, dCB, dCons, dNil, dVar, dC, dSeq, dAsg, hName, dRet, dRetF, dRetN, dRaise, dNext, dDrop, dAppend, dCall, gI, gIC, gU, gMM, dChain, dAndV, dOrV, dNotV, dTup, dLst, dLstB, dNewK, dNewT, dPar, dAug, hTup, hCons, hEnd, hSub, dISeq, dIEn, dIR1, dIR2, dFor, dLc, dLcB, hPair, dYes, dBreak, dCont, dIf, dQuant, getS, setS, startD, DL.gSub, gDiv, gMod, gPow, gShl, gXor, gAddI, gLt, gLe, gGt, gGe, gNegU, gMax2, gMin2, gAbs, gIntC, gEq, gIsN, gAdd, gMul, dSl, dNoPart, dPart, wipeD, List.set, rNot, rChain, rOp, rVar, rC, rAnd, hLt, hLe, hGt, hGe, hEq, DL.rI, dSetF, dFld, dMeth, dMake, dMaxD, dJoin, dStarts, dIStr, dAnyS, dAnyZ, dIEnC, dLstRg2, dLcR, dCallR, dLam]
  have hok : ∀ h, ∀ row ∈ optC figs h, RowOk h row := opt_ok
  have hlen : ∀ h, h ≤ 200 → (optC figs h).length ≤ 1010 := fun h hh => opt_len hh hl
  generalize hopt : optC figs = opt at h1 hok hlen
  refine ⟨trivial, by omega, ?_⟩
  refine for_by (fun r Γ B' => Few B B' ∧ ∃ (h n : Nat) (y z u : Option D), r = upto (h : Int) n ∧ Γ = [some (.lst (iN figs)), some (.int (m : Int)), some (.lst (iN (valC opt h))), y, z, u, none] ∧ h + n = m + 1)
    ⟨Few.refl _, 0, m + 1, none, none, none, by show upto 0 _ = upto 0 _; congr 1, rfl, by omega⟩ (fun r Γ B' h f e => by cases e) (fun Γ B' h => ?_) (fun e r Γ B' K h hk => ?_)
  · obtain ⟨hf, h, n, y, z, u, h3, rfl, h4⟩ := h
    cases n with
    | succ n => cases h3
    | zero =>
      have : h = m + 1 := by omega
      subst this
      exact here (h1 _ hf)
  · obtain ⟨hf, h, n, y, z, u, h3, rfl, h4⟩ := h
    cases n with
    | zero => cases h3
    | succ n =>
      cases h3
      have hh : h ≤ 200 := by omega
      try dsimp only [B2_lwor, dIfS, dOr, dAnd, dNot, dTest, dOp, dUn, dCB, dCons, dNil, dVar, dC, dSeq, dAsg, hName, dRet, dRetF, dRetN, dRaise, dNext, dDrop, dAppend, dCall, gI, gIC, gU, gMM, dChain, dAndV, dOrV, dNotV, dTup, dLst, dLstB, dNewK, dNewT, dPar, dAug, hTup, hCons, hEnd, hSub, dISeq, dIEn, dIR1, dIR2, dFor, dLc, dLcB, hPair, dYes, dBreak, dCont, dIf, dQuant, getS, setS, startD, DL.gSub, gDiv, gMod, gPow, gShl, gXor, gAddI, gLt, gLe, gGt, gGe, gNegU, gMax2, gMin2, gAbs, gIntC, gEq, gIsN, gAdd, gMul, dSl, dNoPart, dPart, wipeD, List.set, rNot, rChain, rOp, rVar, rC, rAnd, hLt, hLe, hGt, hGe, hEq, DL.rI, dSetF, dFld, dMeth, dMake, dMaxD, dJoin, dStarts, dIStr, dAnyS, dAnyZ, dIEnC, dLstRg2, dLcR, dCallR, dLam]
      refine ⟨trivial, figs, h, rfl, hb, hl, hh, fun B2 hf2 => ?_⟩
      rw [hopt]
      have hf3 := hf.trans hf2
      obtain ⟨vs, hvs⟩ : ∃ vs, vs = valC opt h := ⟨_, rfl⟩
      have hvl : vs.length = h := by rw [hvs, valC_len]
      rw [← hvs]
      refine iSq_of (B0 := B2) rfl (Few.refl _) fun gd hg => ?_
      refine for_by (fun r Γ B3 => B3 = B2 ∧ ∃ (acc : List Nat) (rest : List (List Nat)) (u : Option D), r = rowsD rest ∧ (∀ row ∈ rest, RowOk h row) ∧ Γ = [some (.lst (iN figs)), some (.int (m : Int)), some (.lst (iN vs)), some (.int (h : Int)), some (.lst (iN acc)), u, none] ∧ acc ++ rest.map (xr vs) = (opt h).map (xr vs) ∧ acc.length + rest.length ≤ 1010)
        ⟨rfl, [], opt h, u, rfl, hok h, rfl, rfl, by have := hlen h hh; simpa using this⟩ (fun r Γ B' h f e => by rw [h.1]; exact hg _ (Few.refl _) f e) (fun Γ B3 h5 => ?_) (fun e r Γ B3 K' h5 hk' => ?_)
      · obtain ⟨rfl, acc, rest, u, h6, _, rfl, h7, h8⟩ := h5
        cases rest with
        | cons row rest => cases h6
        | nil =>
          rw [List.map_nil, List.append_nil] at h7
          try dsimp only [dIfS, dOr, dAnd, dNot, dTest, dOp, dUn, dCB, dCons, dNil, dVar, dC, dSeq, dAsg, hName, dRet, dRetF, dRetN, dRaise, dNext, dDrop, dAppend, dCall, gI, gIC, gU, gMM, dChain, dAndV, dOrV, dNotV, dTup, dLst, dLstB, dNewK, dNewT, dPar, dAug, hTup, hCons, hEnd, hSub, dISeq, dIEn, dIR1, dIR2, dFor, dLc, dLcB, hPair, dYes, dBreak, dCont, dIf, dQuant, getS, setS, startD, DL.gSub, gDiv, gMod, gPow, gShl, gXor, gAddI, gLt, gLe, gGt, gGe, gNegU, gMax2, gMin2, gAbs, gIntC, gEq, gIsN, gAdd, gMul, dSl, dNoPart, dPart, wipeD, List.set, rNot, rChain, rOp, rVar, rC, rAnd, hLt, hLe, hGt, hGe, hEq, DL.rI, dSetF, dFld, dMeth, dMake, dMaxD, dJoin, dStarts, dIStr, dAnyS, dAnyZ, dIEnC, dLstRg2, dLcR, dCallR, dLam]
          refine gLen_seq rfl ?_
          try dsimp only [dIfS, dOr, dAnd, dNot, dTest, dOp, dUn, dCB, dCons, dNil, dVar, dC, dSeq, dAsg, hName, dRet, dRetF, dRetN, dRaise, dNext, dDrop, dAppend, dCall, gI, gIC, gU, gMM, dChain, dAndV, dOrV, dNotV, dTup, dLst, dLstB, dNewK, dNewT, dPar, dAug, hTup, hCons, hEnd, hSub, dISeq, dIEn, dIR1, dIR2, dFor, dLc, dLcB, hPair, dYes, dBreak, dCont, dIf, dQuant, getS, setS, startD, DL.gSub, gDiv, gMod, gPow, gShl, gXor, gAddI, gLt, gLe, gGt, gGe, gNegU, gMax2, gMin2, gAbs, gIntC, gEq, gIsN, gAdd, gMul, dSl, dNoPart, dPart, wipeD, List.set, rNot, rChain, rOp, rVar, rC, rAnd, hLt, hLe, hGt, hGe, hEq, DL.rI, dSetF, dFld, dMeth, dMake, dMaxD, dJoin, dStarts, dIStr, dAnyS, dAnyZ, dIEnC, dLstRg2, dLcR, dCallR, dLam]
          rw [iN_len]
          refine ⟨by omega, sizeOk_of (by rw [upto_length]; simp at h8; omega), ?_⟩
          rw [show ((acc.length : Int) + 1).toNat = acc.length + 1 by omega]
          refine mex_lc (i := 4) (ns := acc) (by show 6 < 7; decide) (by decide) rfl rfl (fun f e => by cases e) ⟨0, _, rfl, mex_at (Nat.le_refl _), ?_⟩
          refine ⟨trivial, le_size (by rw [iN_len, hvl]; simp; omega), ?_⟩
          have ev : iN vs ++ [D.int (mexN acc : Nat)] = iN (valC opt (h + 1)) := by
            rw [h7, show valC opt (h + 1) = valC opt h ++ [mexN ((opt h).map (xr (valC opt h)))] from rfl, iN_app, ← hvs]
            rfl
          rw [ev]
          exact hk _ _ ⟨hf3, h + 1, n, _, _, _, rfl, rfl, by omega⟩
      · obtain ⟨rfl, acc, rest, u, h6, hro, rfl, h7, h8⟩ := h5
        cases rest with
        | nil => cases h6
        | cons row rest =>
          cases h6
          have hr := hro row List.mem_cons_self
          have fin : ∀ v, v = xr vs row → DL.sizeOk [D.int (v : Nat)] ∧ (iN acc).length + [D.int (v : Nat)].length ≤ sizeLine ∧ K' [some (.lst (iN figs)), some (.int (m : Int)), some (.lst (iN vs)), some (.int (h : Int)), some (.lst (iN acc ++ [D.int (v : Nat)])), some (.tup (iN row)), none] B3 := fun v hv => by
            refine ⟨trivial, le_size (by rw [iN_len]; simp at h8 ⊢; omega), ?_⟩
            have ea : iN acc ++ [D.int (v : Nat)] = iN (acc ++ [v]) := by rw [iN_app]; rfl
            rw [ea]
            exact hk' _ _ ⟨rfl, acc ++ [v], rest, _, rfl, fun r hr => hro r (List.mem_cons_of_mem _ hr), rfl, by rw [← h7, hv, List.append_assoc]; rfl, by simp at h8 ⊢; omega⟩
          have hlt := hr.lt
          have hl2 := hr.len
          have ix : ∀ {a : Nat} {q : DK} {B : Bx}, a ∈ row → q (.int (vs.getD a 0 : Nat)) B → gIx (.lst (iN vs)) (.int (a : Int)) B q := fun {a q B} ha hq => gIx_N rfl (by rw [hvl]; exact hlt a ha) hq
          try dsimp only [B1_lwor, dIfS, dOr, dAnd, dNot, dTest, dOp, dUn, dCB, dCons, dNil, dVar, dC, dSeq, dAsg, hName, dRet, dRetF, dRetN, dRaise, dNext, dDrop, dAppend, dCall, gI, gIC, gU, gMM, dChain, dAndV, dOrV, dNotV, dTup, dLst, dLstB, dNewK, dNewT, dPar, dAug, hTup, hCons, hEnd, hSub, dISeq, dIEn, dIR1, dIR2, dFor, dLc, dLcB, hPair, dYes, dBreak, dCont, dIf, dQuant, getS, setS, startD, DL.gSub, gDiv, gMod, gPow, gShl, gXor, gAddI, gLt, gLe, gGt, gGe, gNegU, gMax2, gMin2, gAbs, gIntC, gEq, gIsN, gAdd, gMul, dSl, dNoPart, dPart, wipeD, List.set, rNot, rChain, rOp, rVar, rC, rAnd, hLt, hLe, hGt, hGe, hEq, DL.rI, dSetF, dFld, dMeth, dMake, dMaxD, dJoin, dStarts, dIStr, dAnyS, dAnyZ, dIEnC, dLstRg2, dLcR, dCallR, dLam]
          refine gLen_seq rfl ?_
          try dsimp only [dIfS, dOr, dAnd, dNot, dTest, dOp, dUn, dCB, dCons, dNil, dVar, dC, dSeq, dAsg, hName, dRet, dRetF, dRetN, dRaise, dNext, dDrop, dAppend, dCall, gI, gIC, gU, gMM, dChain, dAndV, dOrV, dNotV, dTup, dLst, dLstB, dNewK, dNewT, dPar, dAug, hTup, hCons, hEnd, hSub, dISeq, dIEn, dIR1, dIR2, dFor, dLc, dLcB, hPair, dYes, dBreak, dCont, dIf, dQuant, getS, setS, startD, DL.gSub, gDiv, gMod, gPow, gShl, gXor, gAddI, gLt, gLe, gGt, gGe, gNegU, gMax2, gMin2, gAbs, gIntC, gEq, gIsN, gAdd, gMul, dSl, dNoPart, dPart, wipeD, List.set, rNot, rChain, rOp, rVar, rC, rAnd, hLt, hLe, hGt, hGe, hEq, DL.rI, dSetF, dFld, dMeth, dMake, dMaxD, dJoin, dStarts, dIStr, dAnyS, dAnyZ, dIEnC, dLstRg2, dLcR, dCallR, dLam]
          rw [Bool.false_xor, iN_len]
          cases row with
          | nil =>
            refine if_no rfl (gLen_seq rfl ?_)
            try dsimp only [dIfS, dOr, dAnd, dNot, dTest, dOp, dUn, dCB, dCons, dNil, dVar, dC, dSeq, dAsg, hName, dRet, dRetF, dRetN, dRaise, dNext, dDrop, dAppend, dCall, gI, gIC, gU, gMM, dChain, dAndV, dOrV, dNotV, dTup, dLst, dLstB, dNewK, dNewT, dPar, dAug, hTup, hCons, hEnd, hSub, dISeq, dIEn, dIR1, dIR2, dFor, dLc, dLcB, hPair, dYes, dBreak, dCont, dIf, dQuant, getS, setS, startD, DL.gSub, gDiv, gMod, gPow, gShl, gXor, gAddI, gLt, gLe, gGt, gGe, gNegU, gMax2, gMin2, gAbs, gIntC, gEq, gIsN, gAdd, gMul, dSl, dNoPart, dPart, wipeD, List.set, rNot, rChain, rOp, rVar, rC, rAnd, hLt, hLe, hGt, hGe, hEq, DL.rI, dSetF, dFld, dMeth, dMake, dMaxD, dJoin, dStarts, dIStr, dAnyS, dAnyZ, dIEnC, dLstRg2, dLcR, dCallR, dLam]
            exact if_no rfl (fin 0 rfl)
          | cons a t =>
            cases t with
            | nil =>
              refine if_no rfl (gLen_seq rfl ?_)
              try dsimp only [dIfS, dOr, dAnd, dNot, dTest, dOp, dUn, dCB, dCons, dNil, dVar, dC, dSeq, dAsg, hName, dRet, dRetF, dRetN, dRaise, dNext, dDrop, dAppend, dCall, gI, gIC, gU, gMM, dChain, dAndV, dOrV, dNotV, dTup, dLst, dLstB, dNewK, dNewT, dPar, dAug, hTup, hCons, hEnd, hSub, dISeq, dIEn, dIR1, dIR2, dFor, dLc, dLcB, hPair, dYes, dBreak, dCont, dIf, dQuant, getS, setS, startD, DL.gSub, gDiv, gMod, gPow, gShl, gXor, gAddI, gLt, gLe, gGt, gGe, gNegU, gMax2, gMin2, gAbs, gIntC, gEq, gIsN, gAdd, gMul, dSl, dNoPart, dPart, wipeD, List.set, rNot, rChain, rOp, rVar, rC, rAnd, hLt, hLe, hGt, hGe, hEq, DL.rI, dSetF, dFld, dMeth, dMake, dMaxD, dJoin, dStarts, dIStr, dAnyS, dAnyZ, dIEnC, dLstRg2, dLcR, dCallR, dLam]
              exact if_yes rfl (gIx_N (ns := [a]) (k := 0) rfl (by simp) (ix (by simp) (fin _ (xr_cases (row := [a]) (by simp)).symm)))
            | cons b t =>
              cases t with
              | nil =>
                refine if_yes rfl (gIx_N (ns := [a, b]) (k := 0) rfl (by simp) (ix (by simp) (gIx_N (ns := [a, b]) (k := 1) rfl (by simp) (ix (by simp) ?_))))
                try dsimp only [dIfS, dOr, dAnd, dNot, dTest, dOp, dUn, dCB, dCons, dNil, dVar, dC, dSeq, dAsg, hName, dRet, dRetF, dRetN, dRaise, dNext, dDrop, dAppend, dCall, gI, gIC, gU, gMM, dChain, dAndV, dOrV, dNotV, dTup, dLst, dLstB, dNewK, dNewT, dPar, dAug, hTup, hCons, hEnd, hSub, dISeq, dIEn, dIR1, dIR2, dFor, dLc, dLcB, hPair, dYes, dBreak, dCont, dIf, dQuant, getS, setS, startD, DL.gSub, gDiv, gMod, gPow, gShl, gXor, gAddI, gLt, gLe, gGt, gGe, gNegU, gMax2, gMin2, gAbs, gIntC, gEq, gIsN, gAdd, gMul, dSl, dNoPart, dPart, wipeD, List.set, rNot, rChain, rOp, rVar, rC, rAnd, hLt, hLe, hGt, hGe, hEq, DL.rI, dSetF, dFld, dMeth, dMake, dMaxD, dJoin, dStarts, dIStr, dAnyS, dAnyZ, dIEnC, dLstRg2, dLcR, dCallR, dLam]
                rw [bxN]
                exact fin _ (xr_cases (row := [a, b]) (by simp)).symm
              | cons c t => simp at hl2
end K02
set_option Elab.async false
set_option linter.all false
set_option pp.maxSteps 600
set_option maxRecDepth 100000
set_option maxHeartbeats 2000000
--MORE
namespace K02
open PySem PySem.Spec PyProof.Rows L2 DL PL
/-! ### _law_wins -/
abbrev fW (nums : List Nat) : List Int → D := fun l => .bl (wT nums (toN l))
def domK : List (List Int) := (listsN 7 3).map castL
theorem dom_len : domK.length < 1000000 := by decide +kernel
theorem sort_nat (hs : List Nat) : ∃ key : List Nat, sortI (hs.map fun (n : Nat) => (n : Int)) = castL key ∧ key.Perm hs := by
  have p := sortI_perm (hs.map fun (n : Nat) => (n : Int))
  refine ⟨toN (sortI (hs.map fun (n : Nat) => (n : Int))), ?_, ?_⟩
  · unfold castL toN
    rw [List.map_map]
    conv => lhs; rw [← List.map_id (sortI (hs.map fun (n : Nat) => (n : Int)))]
    refine List.map_congr_left fun n hn => ?_
    obtain ⟨k, _, rfl⟩ := List.mem_map.mp (p.mem_iff.mp hn)
    rfl
  · have := p.map Int.toNat
    rw [show (hs.map fun (n : Nat) => (n : Int)).map Int.toNat = hs from toN_cast hs] at this
    exact this
def sumN (hs : List Nat) : Nat := hs.foldr (· + ·) 0
theorem sumN_perm {a b : List Nat} (h : a.Perm b) : sumN a = sumN b := by
  induction h with
  | nil => rfl
  | cons x _ ih => exact congrArg (x + ·) ih
  | swap x y l => show y + (x + sumN l) = x + (y + sumN l); omega
  | trans _ _ h1 h2 => exact h1.trans h2
theorem sumN_app : ∀ (a b : List Nat), sumN (a ++ b) = sumN a + sumN b
  | [], b => by show sumN b = 0 + sumN b; omega
  | x :: a, b => by show x + sumN (a ++ b) = (x + sumN a) + sumN b; rw [sumN_app a b]; omega
theorem sumN_cut {hs : List Nat} {k : Nat} (hk : k < hs.length) (s : Nat) : sumN (cutN hs k s) + hs[k] = sumN hs + s := by
  have e : hs = hs.take k ++ (hs[k] :: hs.drop (k + 1)) := by rw [← List.drop_eq_getElem_cons hk, List.take_append_drop]
  have e2 : sumN hs = sumN (hs.take k) + (hs[k] + sumN (hs.drop (k + 1))) := by
    conv => lhs; rw [e]
    rw [sumN_app]; rfl
  unfold cutN
  rw [sumN_app, sumN_app, e2]
  show _ + (s + 0) + _ + _ = _
  omega
structure InK (hs : List Nat) : Prop where
  len : hs.length ≤ 3
  lt : ∀ h ∈ hs, h < 7
theorem InK.perm {a b : List Nat} (h : InK a) (p : b.Perm a) : InK b := ⟨by rw [p.length_eq]; exact h.len, fun x hx => h.lt x (p.mem_iff.mp hx)⟩
theorem InK.cut {hs : List Nat} (h : InK hs) {k s : Nat} (hk : k < hs.length) (hs2 : s ≤ hs[k]) : InK (cutN hs k s) := by
  have hb := h.lt _ (List.getElem_mem hk)
  have hl := h.len
  refine ⟨by unfold cutN; simp; omega, fun n hn => ?_⟩
  unfold cutN at hn
  rcases List.mem_append.mp hn with hn | hn
  · rcases List.mem_append.mp hn with hn | hn
    · exact h.lt n (List.mem_of_mem_take hn)
    · have e : n = s := by simpa using hn
      omega
  · exact h.lt n (List.mem_of_mem_drop hn)
theorem InK.dom {hs : List Nat} (h : InK hs) : castL hs ∈ domK := List.mem_map.mpr ⟨hs, mem_listsN h.len h.lt, rfl⟩
theorem cut_iN (hs : List Nat) (k s : Nat) : cutD (iN hs) none (some (k : Int)) ++ [.int (s : Int)] ++ cutD (iN hs) (some ((k + 1 : Nat) : Int)) none = iN (cutN hs k s) := by
  rw [cutD_take, cutD_drop]
  unfold cutN iN
  rw [List.map_append, List.map_append, List.map_take, List.map_drop]
  rfl
theorem cutN_len (hs : List Nat) (k s : Nat) : (cutN hs k s).length ≤ hs.length + 1 := by unfold cutN; simp; omega
theorem cutD_len (xs : List D) (lo hi : Option Int) : (DL.cutD xs lo hi).length ≤ xs.length := by
  unfold DL.cutD
  rw [List.length_take, List.length_drop]
  omega
def sp_lwins (n : Nat) : SpD := fun ds B q x => ∃ (d : D) (nums hs : List Nat) (a : Addr) (ks : List (List Int)), ds = [.lst (iN nums), d, .ref a] ∧ (∀ m ∈ nums, 1 ≤ m) ∧ seqOf B d = some (iN hs) ∧ InK hs ∧ sumN hs < n ∧ B a = some (.dT (memo (fW nums) ks)) ∧ Mem domK ks ∧
  ∀ ks', Mem domK ks' → q (.bl (wT nums hs)) (put B a (.dT (memo (fW nums) ks')))
theorem rd_lwins {n : Nat} {ds : List D} {B : Bx} {q : DK} {x : XD} (h : sp_lwins (n + 1) ds B q x) : t_lwins (sp_lwins n) (endsD q x) (startD N_lwins ds) B := by
  obtain ⟨d, nums, hs, a, ks, rfl, hp, hd, hin, hsum, hb, hm, h1⟩ := h
  obtain ⟨N, eN, pN⟩ := sort_nat hs
  have hinN := hin.perm pN
  have hw : wT nums N = wT nums hs := wT_perm pN
  have hsN : sumN N = sumN hs := sumN_perm pN
  rw [← hw] at h1
  try dsimp only [t_lwins, N_lwins, dIfS, dOr, dAnd, dNot, dTest, dOp, dUn, dCB, dCons, dNil, dVar, dC, dSeq, dAsg, hName, dRet, dRetF, dRetN, dRaise, dNext, dDrop, dAppend, dCall, gI, gIC, gU, gMM, dChain, dAndV, dOrV, dNotV, dTup, dLst, dLstB, dNewK, dNewT, dPar, dAug, hTup, hCons, hEnd, hSub, dISeq, dIEn, dIR1, dIR2, dFor, dLc, dLcB, hPair, dYes, dBreak, dCont, dIf, dQuant, getS, setS, startD, DL.gSub, gDiv, gMod, gPow, gShl, gXor, gAddI, gLt, gLe, gGt, gGe, gNegU, gMax2, gMin2, gAbs, gIntC, gEq, gIsN, gAdd, gMul, dSl, dNoPart, dPart, wipeD, List.set, rNot, rChain, rOp, rVar, rC, rAnd, hLt, hLe, hGt, hGe, hEq, DL.rI, dSetF, dFld, dMeth, dMake, dMaxD, dJoin, dStarts, dIStr, dAnyS, dAnyZ, dIEnC, dLstRg2, dLcR, dCallR, dLam]
  refine ⟨hs.map fun (n : Nat) => (n : Int), ?_, ?_⟩
  · rw [hd, iN_iL]; rfl
  have eI : (castL N).map D.int = iN N := by unfold castL iN; rw [List.map_map]; rfl
  rw [eN, eI]
  refine ⟨_, rfl, ?_⟩
  have ef : fW nums (castL N) = .bl (wT nums N) := by show D.bl (wT nums (toN (castL N))) = _; rw [show toN (castL N) = N from toN_cast N]
  rw [← eI]
  refine gIn_mk hb ?_
  try dsimp only [dIfS, dOr, dAnd, dNot, dTest, dOp, dUn, dCB, dCons, dNil, dVar, dC, dSeq, dAsg, hName, dRet, dRetF, dRetN, dRaise, dNext, dDrop, dAppend, dCall, gI, gIC, gU, gMM, dChain, dAndV, dOrV, dNotV, dTup, dLst, dLstB, dNewK, dNewT, dPar, dAug, hTup, hCons, hEnd, hSub, dISeq, dIEn, dIR1, dIR2, dFor, dLc, dLcB, hPair, dYes, dBreak, dCont, dIf, dQuant, getS, setS, startD, DL.gSub, gDiv, gMod, gPow, gShl, gXor, gAddI, gLt, gLe, gGt, gGe, gNegU, gMax2, gMin2, gAbs, gIntC, gEq, gIsN, gAdd, gMul, dSl, dNoPart, dPart, wipeD, List.set, rNot, rChain, rOp, rVar, rC, rAnd, hLt, hLe, hGt, hGe, hEq, DL.rI, dSetF, dFld, dMeth, dMake, dMaxD, dJoin, dStarts, dIStr, dAnyS, dAnyZ, dIEnC, dLstRg2, dLcR, dCallR, dLam]
  refine ite_of (fun hni => ?_) (fun hin2 => ?_)
  · have hrec := wT_rec hp N
    rw [eI]
    refine for_by (fun r Γ B2 => ∃ (ks' : List (List Int)) (k : Nat) (ms : List Nat) (fnd : Bool) (y z u : Option D), Mem domK ks' ∧ B2 = put B a (.dT (memo (fW nums) ks')) ∧ r = enumL (k : Int) (iN ms) ∧ Γ = [some (.lst (iN nums)), some (.tup (iN N)), some (.ref a), some (.bl fnd), y, z, u] ∧ ms = N.drop k ∧ (fnd || anyH (wT nums) N nums k ms) = wT nums N)
      ⟨ks, 0, N, false, none, none, none, hm, (put_eq hb).symm, rfl, rfl, rfl, by rw [hrec]; rfl⟩ (fun r Γ B' h f e => by cases e) (fun Γ B2 h => ?_) (fun e r Γ B2 K h hk => ?_)
    · obtain ⟨ks', k, ms, fnd, y, z, u, hm', rfl, h3, rfl, h4, h5⟩ := h
      cases ms with
      | cons m ms => cases h3
      | nil =>
        have h5 : (fnd || false) = _ := h5
        rw [Bool.or_false] at h5
        try dsimp only [dIfS, dOr, dAnd, dNot, dTest, dOp, dUn, dCB, dCons, dNil, dVar, dC, dSeq, dAsg, hName, dRet, dRetF, dRetN, dRaise, dNext, dDrop, dAppend, dCall, gI, gIC, gU, gMM, dChain, dAndV, dOrV, dNotV, dTup, dLst, dLstB, dNewK, dNewT, dPar, dAug, hTup, hCons, hEnd, hSub, dISeq, dIEn, dIR1, dIR2, dFor, dLc, dLcB, hPair, dYes, dBreak, dCont, dIf, dQuant, getS, setS, startD, DL.gSub, gDiv, gMod, gPow, gShl, gXor, gAddI, gLt, gLe, gGt, gGe, gNegU, gMax2, gMin2, gAbs, gIntC, gEq, gIsN, gAdd, gMul, dSl, dNoPart, dPart, wipeD, List.set, rNot, rChain, rOp, rVar, rC, rAnd, hLt, hLe, hGt, hGe, hEq, DL.rI, dSetF, dFld, dMeth, dMake, dMaxD, dJoin, dStarts, dIStr, dAnyS, dAnyZ, dIEnC, dLstRg2, dLcR, dCallR, dLam]
        rw [← eI]
        refine gSet_mk put_same hm' dom_len hinN.dom (by rw [h5, ef]) fun ks2 hm2 hin2 => ?_
        refine gIx_mk put_same hin2 ?_
        rw [put_put, ef]
        exact here (h1 ks2 hm2)
    · obtain ⟨ks', k, ms, fnd, y, z, u, hm', rfl, h3, rfl, h4, h5⟩ := h
      cases ms with
      | nil => cases h3
      | cons m ms =>
        cases h3
        have hk2 : k < N.length := by
          rcases Nat.lt_or_ge k N.length with h | h
          · exact h
          · rw [List.drop_of_length_le h] at h4; cases h4
        rw [List.drop_eq_getElem_cons hk2] at h4
        injection h4 with h4 h7
        try dsimp only [B2_lwins, dIfS, dOr, dAnd, dNot, dTest, dOp, dUn, dCB, dCons, dNil, dVar, dC, dSeq, dAsg, hName, dRet, dRetF, dRetN, dRaise, dNext, dDrop, dAppend, dCall, gI, gIC, gU, gMM, dChain, dAndV, dOrV, dNotV, dTup, dLst, dLstB, dNewK, dNewT, dPar, dAug, hTup, hCons, hEnd, hSub, dISeq, dIEn, dIR1, dIR2, dFor, dLc, dLcB, hPair, dYes, dBreak, dCont, dIf, dQuant, getS, setS, startD, DL.gSub, gDiv, gMod, gPow, gShl, gXor, gAddI, gLt, gLe, gGt, gGe, gNegU, gMax2, gMin2, gAbs, gIntC, gEq, gIsN, gAdd, gMul, dSl, dNoPart, dPart, wipeD, List.set, rNot, rChain, rOp, rVar, rC, rAnd, hLt, hLe, hGt, hGe, hEq, DL.rI, dSetF, dFld, dMeth, dMake, dMaxD, dJoin, dStarts, dIStr, dAnyS, dAnyZ, dIEnC, dLstRg2, dLcR, dCallR, dLam]
        show ∃ xs, lstOf _ (.lst (iN nums)) = some xs ∧ _
        refine ⟨_, rfl, ?_⟩
        refine for_by (fun r Γ B2 => ∃ (ks' : List (List Int)) (rn : List Nat) (fnd : Bool) (u : Option D), Mem domK ks' ∧ B2 = put B a (.dT (memo (fW nums) ks')) ∧ r = iN rn ∧ Γ = [some (.lst (iN nums)), some (.tup (iN N)), some (.ref a), some (.bl fnd), some (.int (k : Int)), some (.int (m : Int)), u] ∧ (∀ b ∈ rn, 1 ≤ b) ∧ (fnd || (anyN (wT nums) N k m rn || anyH (wT nums) N nums (k + 1) ms)) = wT nums N)
          ⟨ks', nums, fnd, u, hm', rfl, rfl, rfl, hp, h5⟩ (fun r Γ B' h f e => by cases e) (fun Γ B2 h => ?_) (fun e r Γ B2 K' h hk' => ?_)
        · obtain ⟨ks2, rn, fnd, u, hm2, rfl, h8, rfl, _, h9⟩ := h
          cases rn with
          | cons b rn => cases h8
          | nil =>
            have h9 : (fnd || (false || _)) = _ := h9
            rw [Bool.false_or] at h9
            exact hk _ _ ⟨ks2, k + 1, ms, fnd, _, _, _, hm2, rfl, rfl, rfl, h7, h9⟩
        · obtain ⟨ks2, rn, fnd, u, hm2, rfl, h8, rfl, h10, h9⟩ := h
          cases rn with
          | nil => cases h8
          | cons b rn =>
            cases h8
            have hb1 := h10 b List.mem_cons_self
            have e1 : ((k : Int) + 1) = ((k + 1 : Nat) : Int) := by omega
            try dsimp only [B1_lwins, dIfS, dOr, dAnd, dNot, dTest, dOp, dUn, dCB, dCons, dNil, dVar, dC, dSeq, dAsg, hName, dRet, dRetF, dRetN, dRaise, dNext, dDrop, dAppend, dCall, gI, gIC, gU, gMM, dChain, dAndV, dOrV, dNotV, dTup, dLst, dLstB, dNewK, dNewT, dPar, dAug, hTup, hCons, hEnd, hSub, dISeq, dIEn, dIR1, dIR2, dFor, dLc, dLcB, hPair, dYes, dBreak, dCont, dIf, dQuant, getS, setS, startD, DL.gSub, gDiv, gMod, gPow, gShl, gXor, gAddI, gLt, gLe, gGt, gGe, gNegU, gMax2, gMin2, gAbs, gIntC, gEq, gIsN, gAdd, gMul, dSl, dNoPart, dPart, wipeD, List.set, rNot, rChain, rOp, rVar, rC, rAnd, hLt, hLe, hGt, hGe, hEq, DL.rI, dSetF, dFld, dMeth, dMake, dMaxD, dJoin, dStarts, dIStr, dAnyS, dAnyZ, dIEnC, dLstRg2, dLcR, dCallR, dLam]
            refine ite_of (fun hf => ?_) (fun hf => ?_)
            · subst hf
              exact hk' _ _ ⟨ks2, rn, true, _, hm2, rfl, rfl, rfl, fun c hc => h10 c (List.mem_cons_of_mem _ hc), by rw [Bool.true_or] at h9 ⊢; exact h9⟩
            · subst hf
              rw [Bool.false_or] at h9
              unfold anyN at h9
              refine ite_dec (fun hc => ?_) (fun hc => hk' _ _ ⟨ks2, rn, false, _, hm2, rfl, rfl, rfl, fun c hc => h10 c (List.mem_cons_of_mem _ hc), ?_⟩)
              · have h12 := cutD_len (iN N) none (some (k : Int))
                have h13 := cutD_len (iN N) (some ((k + 1 : Nat) : Int)) none
                rw [iN_len] at h12 h13
                have hl3 := hinN.len
                rw [e1, show (m : Int) - (b : Int) = ((m - b : Nat) : Int) by omega]
                refine ⟨trivial, le_size (by simp; omega), le_size (by simp at h12 h13 ⊢; omega), ?_⟩
                rw [cut_iN]
                have hs2 := sumN_cut hk2 (m - b)
                refine ⟨_, nums, cutN N k (m - b), a, ks2, rfl, hp, rfl, hinN.cut hk2 (by omega), by omega, put_same, hm2, fun ks3 hm3 => ?_⟩
                rw [put_put]
                refine hk' _ _ ⟨ks3, rn, _, _, hm3, rfl, rfl, rfl, fun c hc => h10 c (List.mem_cons_of_mem _ hc), ?_⟩
                rw [← h9, decide_eq_true (by omega), Bool.true_and, Bool.or_assoc]
              · rw [← h9, decide_eq_false (by omega), Bool.false_and, Bool.false_or, Bool.false_or]
  · have hin3 : castL N ∈ ks := by
      cases h : decide (castL N ∈ ks) with
      | true => exact of_decide_eq_true h
      | false => rw [h] at hin2; cases hin2
    refine gIx_mk hb hin3 ?_
    have e2 := h1 ks hm
    rw [put_eq hb, ← ef] at e2
    exact here e2
end K02
set_option Elab.async false
set_option linter.all false
set_option pp.maxSteps 900
set_option maxRecDepth 100000
set_option maxHeartbeats 4000000
--NS 25
--MORE
namespace K02
open PySem PySem.Spec PyProof.Rows L2 DL PL
/-- what stands throughout -/
structure LawB (a Pt : Addr) (nm : Str) (B : Bx) : Prop where
  dice : ∃ i j k, B a = some (diceD i j k)
  tab : B Pt = some (.tabQ nm)
section
variable {a Pt p : Addr} {nm : Str} {B B' : Bx} {b : Box}
theorem LawB.ne (h : LawB a Pt nm B) : a ≠ Pt := by
  obtain ⟨i, j, k, e⟩ := h.dice
  exact ne_boxes e h.tab (fun z => by cases z)
theorem LawB.roll (h : LawB a Pt nm B) (i j k : Int) : LawB a Pt nm (put B a (diceD i j k)) := ⟨⟨i, j, k, put_same⟩, by rw [put_ne (Ne.symm h.ne)]; exact h.tab⟩
theorem LawB.few (h : LawB a Pt nm B) (hf : Few B B') : LawB a Pt nm B' := by
  obtain ⟨i, j, k, e⟩ := h.dice
  exact ⟨⟨i, j, k, hf _ _ e⟩, hf _ _ h.tab⟩
theorem LawB.new (h : LawB a Pt nm B) (hp : B p = none) : LawB a Pt nm (put B p b) := h.few (Few.put hp)
theorem LawB.set {kvs : List (List Key × D)} (h : LawB a Pt nm B) (hp : B p = some (.dT kvs)) : LawB a Pt nm (put B p b) := by
  obtain ⟨i, j, k, e⟩ := h.dice
  exact ⟨⟨i, j, k, by rw [put_ne (ne_boxes e hp (fun z => by cases z))]; exact e⟩, by rw [put_ne (ne_boxes h.tab hp (fun z => by cases z))]; exact h.tab⟩
theorem TkB.few {C : Addr} {nums : List Nat} (h : TkB C p nums B) (hf : Few B B') : TkB C p nums B' := ⟨hf _ _ h.at_, h.pos, h.len, h.ne⟩
end
/-! ### the numbers of a round -/
structure NumsOk (nums : List Nat) : Prop where
  le : ∀ m ∈ nums, 1 ≤ m ∧ m ≤ 9
  len : nums.length ≤ 4
  ne : nums ≠ []
  ok : okT (nums.map fun (n : Nat) => (n : Int)) = true
def kv1 (ks : List Int) : List (Key × D) := ks.map fun k => (.inl k, .int 1)
theorem kv1_val (n : Int) : ∀ ks : List Int, valD (kv1 ks) (.inl n) = if n ∈ ks then some (.int 1) else none
  | [] => rfl
  | k :: ks => by
    show valD ((.inl k, D.int 1) :: kv1 ks) (.inl n) = _
    rw [valD_cons, kv1_val n ks]
    by_cases h : k = n
    · subst h; simp
    · have h2 : ¬ ((Sum.inl k : Key) = Sum.inl n) := fun e => h (Sum.inl.inj e)
      have h3 : ¬ n = k := fun e => h e.symm
      rw [if_neg h2]
      simp [h3]
theorem kv1_put (n : Int) (ks : List Int) : putD (kv1 ks) (.inl n) (.int 1) = kv1 (addD ks n) := by
  unfold addD
  by_cases h : n ∈ ks
  · rw [if_pos h]
    unfold putD
    rw [if_pos (by rw [valD_any, kv1_val, if_pos h]; rfl)]
    unfold kv1
    rw [List.map_map]
    refine List.map_congr_left fun k _ => ?_
    show (if (Sum.inl k : Key) = Sum.inl n then (Sum.inl k, D.int 1) else (Sum.inl k, D.int 1)) = _
    split <;> rfl
  · rw [if_neg h, putD_new _ (by rw [kv1_val, if_neg h])]
    unfold kv1
    rw [List.map_append]; rfl
theorem kv1_fold : ∀ (ms ks : List Int), (kv1 ms).foldl (fun acc kv => putD acc kv.1 kv.2) (kv1 ks) = kv1 (ms.foldl addD ks)
  | [], _ => rfl
  | m :: ms, ks => by
    show (kv1 ms).foldl _ (putD (kv1 ks) (.inl m) (.int 1)) = _
    rw [kv1_put]
    exact kv1_fold ms (addD ks m)
theorem asc_ok : ∀ {l : List Int}, l.Pairwise (· ≤ ·) → l.Nodup → anyZ (fun i j => decide (j ≤ i)) l (l.drop 1) = false
  | [], _, _ => rfl
  | [a], _, _ => rfl
  | a :: b :: r, h, n => by
    have ih := asc_ok (l := b :: r) (List.pairwise_cons.mp h).2 (List.nodup_cons.mp n).2
    unfold anyZ at ih ⊢
    show (decide (b ≤ a) || ((b :: r).zip ((b :: r).drop 1)).any _) = false
    rw [ih, Bool.or_false, decide_eq_false_iff_not]
    have h1 := (List.pairwise_cons.mp h).1 b List.mem_cons_self
    have h2 : a ≠ b := fun e => (List.nodup_cons.mp n).1 (by rw [e]; exact List.mem_cons_self)
    omega
theorem nums_ok {ms : List Nat} (h0 : 0 < ms.length) (h1 : ms.length ≤ 4) (hb : ∀ m ∈ ms, m < 9) : ∃ nums, NumsOk nums ∧ (sortI (dd (ms.map fun (n : Nat) => 1 + (n : Int)))).map D.int = iN nums ∧ (dd (ms.map fun (n : Nat) => 1 + (n : Int))).length < 64 := by
  have p := sortI_perm (dd (ms.map fun (n : Nat) => 1 + (n : Int)))
  have hl := dd_len (l := ms.map fun (n : Nat) => 1 + (n : Int))
  rw [List.length_map] at hl
  have hbd : ∀ z ∈ sortI (dd (ms.map fun (n : Nat) => 1 + (n : Int))), 1 ≤ z ∧ z ≤ 9 := fun z hz => by
    have h2 := dd_mem (p.mem_iff.mp hz)
    obtain ⟨n, hn, rfl⟩ := List.mem_map.mp h2
    have := hb n hn
    omega
  have hn : (dd (ms.map fun (n : Nat) => 1 + (n : Int))).Nodup := dd_nodup' List.nodup_nil
  have hne : dd (ms.map fun (n : Nat) => 1 + (n : Int)) ≠ [] := by
    cases ms with
    | nil => simp at h0
    | cons m ms =>
      intro e
      have := dd_head (a := 1 + (m : Int)) (l := ms.map fun (n : Nat) => 1 + (n : Int))
      rw [show dd ((1 + (m : Int)) :: (ms.map fun (n : Nat) => 1 + (n : Int))) = [] from e] at this
      cases this
  have hs := sortI_sorted (dd (ms.map fun (n : Nat) => 1 + (n : Int)))
  generalize hD : dd (ms.map fun (n : Nat) => 1 + (n : Int)) = dl at p hl hbd hn hne hs
  have back : (toN (sortI dl)).map (fun (n : Nat) => (n : Int)) = sortI dl := by
    unfold toN
    rw [List.map_map]
    conv => rhs; rw [← List.map_id (sortI dl)]
    refine List.map_congr_left fun z hz => ?_
    have := hbd z hz
    show ((z.toNat : Nat) : Int) = z
    omega
  have len : (sortI dl).length = dl.length := p.length_eq
  have hpos : 0 < dl.length := List.length_pos_iff.mpr hne
  refine ⟨toN (sortI dl), ⟨fun m hm => ?_, ?_, fun e => ?_, ?_⟩, toN_back fun z hz => by have := hbd z hz; omega, by omega⟩
  · obtain ⟨z, hz, rfl⟩ := List.mem_map.mp hm
    have := hbd z hz
    omega
  · unfold toN; rw [List.length_map, len]; omega
  · have := congrArg List.length e
    unfold toN at this
    rw [List.length_map, len] at this
    simp at this
    exact hne this
  · rw [back]
    unfold okT
    rw [asc_ok hs (p.nodup_iff.mpr hn), len]
    have : (sortI dl).all (fun n => decide (1 ≤ n) && decide (n ≤ 60)) = true := List.all_eq_true.mpr fun z hz => by
      have := hbd z hz
      simp; omega
    rw [this]
    simp; omega
section
variable {z0 z1 z2 z3 z4 z5 z6 z7 z8 z9 z10 z11 z12 z13 z14 z15 z16 z17 z18 z19 z20 z21 z22 z23 z24 : Option D}
variable {a Pt : Addr} {B : Bx} {E : DEnds} {nm : Str} {CT CC CE pT pC pS : Addr} {nums figs : List Nat}
theorem s1 (hB : LawB a Pt nm B) (h : ∀ nums B', NumsOk nums → LawB a Pt nm B' → E.nx [z0, some (.ref a), some (.lst (iN nums)), z3, z4, z5, z6, z7, z8, z9, z10, z11, z12, z13, z14, z15, z16, z17, z18, z19, z20, z21, z22, z23, z24] B') : S1_law sp_lroll E [z0, some (.ref a), z2, z3, z4, z5, z6, z7, z8, z9, z10, z11, z12, z13, z14, z15, z16, z17, z18, z19, z20, z21, z22, z23, z24] B := by
  obtain ⟨i, j, k, e⟩ := hB.dice
  try dsimp only [S1_law, C1_law, dIfS, dOr, dAnd, dNot, dTest, dOp, dUn, dCB, dCons, dNil, dVar, dC, dSeq, dAsg, hName, dRet, dRetF, dRetN, dRaise, dNext, dDrop, dAppend, dCall, gI, gIC, gU, gMM, dChain, dAndV, dOrV, dNotV, dTup, dLst, dLstB, dNewK, dNewT, dPar, dAug, hTup, hCons, hEnd, hSub, dISeq, dIEn, dIR1, dIR2, dFor, dLc, dLcB, hPair, dYes, dBreak, dCont, dIf, dQuant, getS, setS, startD, DL.gSub, gDiv, gMod, gPow, gShl, gXor, gAddI, gLt, gLe, gGt, gGe, gNegU, gMax2, gMin2, gAbs, gIntC, gEq, gIsN, gAdd, gMul, dSl, dNoPart, dPart, wipeD, List.set, rNot, rChain, rOp, rVar, rC, rAnd, hLt, hLe, hGt, hGe, hEq, DL.rI, dSetF, dFld, dMeth, dMake, dMaxD, dJoin, dStarts, dIStr, dAnyS, dAnyZ, dIEnC, dLstRg2, dLcR, dCallR, dLam]
  refine roll_at (m := 4) e (by decide) (by decide) fun r i j k hr => ?_
  try dsimp only [dIfS, dOr, dAnd, dNot, dTest, dOp, dUn, dCB, dCons, dNil, dVar, dC, dSeq, dAsg, hName, dRet, dRetF, dRetN, dRaise, dNext, dDrop, dAppend, dCall, gI, gIC, gU, gMM, dChain, dAndV, dOrV, dNotV, dTup, dLst, dLstB, dNewK, dNewT, dPar, dAug, hTup, hCons, hEnd, hSub, dISeq, dIEn, dIR1, dIR2, dFor, dLc, dLcB, hPair, dYes, dBreak, dCont, dIf, dQuant, getS, setS, startD, DL.gSub, gDiv, gMod, gPow, gShl, gXor, gAddI, gLt, gLe, gGt, gGe, gNegU, gMax2, gMin2, gAbs, gIntC, gEq, gIsN, gAdd, gMul, dSl, dNoPart, dPart, wipeD, List.set, rNot, rChain, rOp, rVar, rC, rAnd, hLt, hLe, hGt, hGe, hEq, DL.rI, dSetF, dFld, dMeth, dMake, dMaxD, dJoin, dStarts, dIStr, dAnyS, dAnyZ, dIEnC, dLstRg2, dLcR, dCallR, dLam]
  refine ⟨⟨by omega, by omega⟩, sizeOk_of (by rw [upto_length]; omega), ?_⟩
  refine lc_roll (fun y => ∃ n : Nat, y = .tup [.int (1 + (n : Int)), .int 1] ∧ n < 9) _ [] i j k (fun e he i j k K1 K2 hk => ?_) fun ys i j k hl hp => ?_
  · try dsimp only [dIfS, dOr, dAnd, dNot, dTest, dOp, dUn, dCB, dCons, dNil, dVar, dC, dSeq, dAsg, hName, dRet, dRetF, dRetN, dRaise, dNext, dDrop, dAppend, dCall, gI, gIC, gU, gMM, dChain, dAndV, dOrV, dNotV, dTup, dLst, dLstB, dNewK, dNewT, dPar, dAug, hTup, hCons, hEnd, hSub, dISeq, dIEn, dIR1, dIR2, dFor, dLc, dLcB, hPair, dYes, dBreak, dCont, dIf, dQuant, getS, setS, startD, DL.gSub, gDiv, gMod, gPow, gShl, gXor, gAddI, gLt, gLe, gGt, gGe, gNegU, gMax2, gMin2, gAbs, gIntC, gEq, gIsN, gAdd, gMul, dSl, dNoPart, dPart, wipeD, List.set, rNot, rChain, rOp, rVar, rC, rAnd, hLt, hLe, hGt, hGe, hEq, DL.rI, dSetF, dFld, dMeth, dMake, dMaxD, dJoin, dStarts, dIStr, dAnyS, dAnyZ, dIEnC, dLstRg2, dLcR, dCallR, dLam]
    refine if_yes rfl (roll_at (m := 9) put_same (by decide) (by decide) fun r i j k hr => ?_)
    try dsimp only [dIfS, dOr, dAnd, dNot, dTest, dOp, dUn, dCB, dCons, dNil, dVar, dC, dSeq, dAsg, hName, dRet, dRetF, dRetN, dRaise, dNext, dDrop, dAppend, dCall, gI, gIC, gU, gMM, dChain, dAndV, dOrV, dNotV, dTup, dLst, dLstB, dNewK, dNewT, dPar, dAug, hTup, hCons, hEnd, hSub, dISeq, dIEn, dIR1, dIR2, dFor, dLc, dLcB, hPair, dYes, dBreak, dCont, dIf, dQuant, getS, setS, startD, DL.gSub, gDiv, gMod, gPow, gShl, gXor, gAddI, gLt, gLe, gGt, gGe, gNegU, gMax2, gMin2, gAbs, gIntC, gEq, gIsN, gAdd, gMul, dSl, dNoPart, dPart, wipeD, List.set, rNot, rChain, rOp, rVar, rC, rAnd, hLt, hLe, hGt, hGe, hEq, DL.rI, dSetF, dFld, dMeth, dMake, dMaxD, dJoin, dStarts, dIStr, dAnyS, dAnyZ, dIEnC, dLstRg2, dLcR, dCallR, dLam]
    rw [put_put]
    exact ⟨trivial, hk _ _ _ _ ⟨r, rfl, hr⟩⟩
  · have hy : ∃ ms : List Nat, ys = (kv1 (ms.map fun (n : Nat) => 1 + (n : Int))).map (fun kv => D.tup [kD kv.1, kv.2]) ∧ (∀ m ∈ ms, m < 9) ∧ ms.length = ys.length := by
      clear hl
      induction ys with
      | nil => exact ⟨[], rfl, by simp, rfl⟩
      | cons y ys ih =>
        obtain ⟨n, rfl, hn⟩ := hp y List.mem_cons_self
        obtain ⟨ms, e1, e2, e3⟩ := ih fun z hz => hp z (List.mem_cons_of_mem _ hz)
        exact ⟨n :: ms, by rw [e1]; rfl, fun m hm => (List.mem_cons.mp hm).elim (fun e => e ▸ hn) (e2 m), by simp [e3]⟩
    obtain ⟨ms, rfl, hm, hml⟩ := hy
    rw [upto_length] at hl
    have e0 : mergeD (kv1 (ms.map fun (n : Nat) => 1 + (n : Int))) = kv1 (dd (ms.map fun (n : Nat) => 1 + (n : Int))) := kv1_fold _ []
    obtain ⟨nums, hn, hsrt, hlt⟩ := nums_ok (ms := ms) (by omega) (by omega) hm
    refine ⟨_, rfl, fun p hp => ?_⟩
    rw [e0]
    refine ⟨_, dd (ms.map fun (n : Nat) => 1 + (n : Int)), put_same, ?_, hlt, ?_⟩
    · unfold kv1; rw [List.map_map]; rfl
    rw [hsrt]
    exact h nums _ hn ((hB.roll i j k).new hp)
theorem s2 (hB : LawB a Pt nm B) (hn : NumsOk nums) (h : ∀ p (most : Nat) hs B', LawB a Pt nm B' → TkB CT p nums B' → most < 80 → InK hs → E.nx [z0, some (.ref a), some (.lst (iN nums)), some (.ref p), some (.int (most : Int)), some (.lst (iN hs)), z6, z7, z8, z9, z10, z11, z12, z13, z14, z15, z16, z17, z18, z19, z20, z21, z22, z23, z24] B') :
    S2_law sp_lroll (sp_Ti CT CE) CT E [z0, some (.ref a), some (.lst (iN nums)), z3, z4, z5, z6, z7, z8, z9, z10, z11, z12, z13, z14, z15, z16, z17, z18, z19, z20, z21, z22, z23, z24] B := by
  try dsimp only [S2_law, dIfS, dOr, dAnd, dNot, dTest, dOp, dUn, dCB, dCons, dNil, dVar, dC, dSeq, dAsg, hName, dRet, dRetF, dRetN, dRaise, dNext, dDrop, dAppend, dCall, gI, gIC, gU, gMM, dChain, dAndV, dOrV, dNotV, dTup, dLst, dLstB, dNewK, dNewT, dPar, dAug, hTup, hCons, hEnd, hSub, dISeq, dIEn, dIR1, dIR2, dFor, dLc, dLcB, hPair, dYes, dBreak, dCont, dIf, dQuant, getS, setS, startD, DL.gSub, gDiv, gMod, gPow, gShl, gXor, gAddI, gLt, gLe, gGt, gGe, gNegU, gMax2, gMin2, gAbs, gIntC, gEq, gIsN, gAdd, gMul, dSl, dNoPart, dPart, wipeD, List.set, rNot, rChain, rOp, rVar, rC, rAnd, hLt, hLe, hGt, hGe, hEq, DL.rI, dSetF, dFld, dMeth, dMake, dMaxD, dJoin, dStarts, dIStr, dAnyS, dAnyZ, dIEnC, dLstRg2, dLcR, dCallR, dLam]
  refine fun p hp => ⟨p, _, nums.map fun (n : Nat) => (n : Int), rfl, put_same, by rw [← iN_iL]; rfl, fun ys e => (by cases e), fun _ => ⟨rfl, ?_⟩, fun no => by rw [hn.ok] at no; cases no⟩
  rw [put_put, insT, ← iN_iL]
  have hT : TkB CT p nums (put B p (.ins CT [("numbers", .tup (iN nums))])) := ⟨put_same, fun m hm => (hn.le m hm).1, by have := hn.len; omega, hn.ne⟩
  have hB2 := hB.new (b := .ins CT [("numbers", .tup (iN nums))]) hp
  generalize put B p (.ins CT [("numbers", .tup (iN nums))]) = B1 at hT hB2
  obtain ⟨i, j, k, e⟩ := hB2.dice
  refine roll_at (m := 80) e (by decide) (by decide) fun most i j k hr => ?_
  have hT2 := hT.lst (b := diceD i j k) e
  have hB3 := hB2.roll i j k
  refine rolls_at (s := 8) (d := 1) (n := 4) (m := 7) (by decide) rfl put_same (by decide) (by decide) fun ns i2 j2 k2 hl hb => ?_
  try dsimp only [dIfS, dOr, dAnd, dNot, dTest, dOp, dUn, dCB, dCons, dNil, dVar, dC, dSeq, dAsg, hName, dRet, dRetF, dRetN, dRaise, dNext, dDrop, dAppend, dCall, gI, gIC, gU, gMM, dChain, dAndV, dOrV, dNotV, dTup, dLst, dLstB, dNewK, dNewT, dPar, dAug, hTup, hCons, hEnd, hSub, dISeq, dIEn, dIR1, dIR2, dFor, dLc, dLcB, hPair, dYes, dBreak, dCont, dIf, dQuant, getS, setS, startD, DL.gSub, gDiv, gMod, gPow, gShl, gXor, gAddI, gLt, gLe, gGt, gGe, gNegU, gMax2, gMin2, gAbs, gIntC, gEq, gIsN, gAdd, gMul, dSl, dNoPart, dPart, wipeD, List.set, rNot, rChain, rOp, rVar, rC, rAnd, hLt, hLe, hGt, hGe, hEq, DL.rI, dSetF, dFld, dMeth, dMake, dMaxD, dJoin, dStarts, dIStr, dAnyS, dAnyZ, dIEnC, dLstRg2, dLcR, dCallR, dLam]
  refine ⟨trivial, ?_⟩
  try dsimp only [dIfS, dOr, dAnd, dNot, dTest, dOp, dUn, dCB, dCons, dNil, dVar, dC, dSeq, dAsg, hName, dRet, dRetF, dRetN, dRaise, dNext, dDrop, dAppend, dCall, gI, gIC, gU, gMM, dChain, dAndV, dOrV, dNotV, dTup, dLst, dLstB, dNewK, dNewT, dPar, dAug, hTup, hCons, hEnd, hSub, dISeq, dIEn, dIR1, dIR2, dFor, dLc, dLcB, hPair, dYes, dBreak, dCont, dIf, dQuant, getS, setS, startD, DL.gSub, gDiv, gMod, gPow, gShl, gXor, gAddI, gLt, gLe, gGt, gGe, gNegU, gMax2, gMin2, gAbs, gIntC, gEq, gIsN, gAdd, gMul, dSl, dNoPart, dPart, wipeD, List.set, rNot, rChain, rOp, rVar, rC, rAnd, hLt, hLe, hGt, hGe, hEq, DL.rI, dSetF, dFld, dMeth, dMake, dMaxD, dJoin, dStarts, dIStr, dAnyS, dAnyZ, dIEnC, dLstRg2, dLcR, dCallR, dLam]
  exact h p most ns _ (hB3.roll i2 j2 k2) (hT2.lst put_same) hr ⟨by omega, hb⟩
theorem valT_few (nums : List Nat) (n : Nat) : (iN (valT nums n)).length = n := by rw [iN_len, valT_len]
theorem eq_self {d : D} {n : Nat} (hd : plD n d = true) (hn : n ≤ 64 := by decide) : eqD d d = some true := by
  obtain ⟨b, e, h⟩ := eqD_pl hn hd hd
  rw [e, h.mpr rfl]
theorem pl_N (ns : List Nat) : plD 1 (.lst (iN ns)) = true := by
  show (iN ns).all (plD 0) = true
  rw [iN_iL]
  exact plD_ints 0 _
theorem s3 {most : Nat} {hs : List Nat} (hT : TkB CT pT nums B) (hn : NumsOk nums) (hm : most < 80) (h : E.nx [z0, some (.ref a), some (.lst (iN nums)), some (.ref pT), some (.int (most : Int)), some (.lst (iN hs)), z6, z7, z8, z9, z10, z11, z12, z13, z14, z15, z16, z17, z18, z19, z20, z21, z22, z23, z24] B) :
    S3_law (sp_Tw CT CE) sp_lval CT E [z0, some (.ref a), some (.lst (iN nums)), some (.ref pT), some (.int (most : Int)), some (.lst (iN hs)), z6, z7, z8, z9, z10, z11, z12, z13, z14, z15, z16, z17, z18, z19, z20, z21, z22, z23, z24] B := by
  try dsimp only [S3_law, dIfS, dOr, dAnd, dNot, dTest, dOp, dUn, dCB, dCons, dNil, dVar, dC, dSeq, dAsg, hName, dRet, dRetF, dRetN, dRaise, dNext, dDrop, dAppend, dCall, gI, gIC, gU, gMM, dChain, dAndV, dOrV, dNotV, dTup, dLst, dLstB, dNewK, dNewT, dPar, dAug, hTup, hCons, hEnd, hSub, dISeq, dIEn, dIR1, dIR2, dFor, dLc, dLcB, hPair, dYes, dBreak, dCont, dIf, dQuant, getS, setS, startD, DL.gSub, gDiv, gMod, gPow, gShl, gXor, gAddI, gLt, gLe, gGt, gGe, gNegU, gMax2, gMin2, gAbs, gIntC, gEq, gIsN, gAdd, gMul, dSl, dNoPart, dPart, wipeD, List.set, rNot, rChain, rOp, rVar, rC, rAnd, hLt, hLe, hGt, hGe, hEq, DL.rI, dSetF, dFld, dMeth, dMake, dMaxD, dJoin, dStarts, dIStr, dAnyS, dAnyZ, dIEnC, dLstRg2, dLcR, dCallR, dLam]
  refine ⟨pT, _, rfl, hT.at_, by rfl, pT, nums, most, rfl, hT, fun _ _ => ⟨_, rfl, nums, most, rfl, hT.pos, hT.len, by omega, ?_⟩, fun no => absurd ⟨by omega, by omega⟩ no⟩
  try dsimp only [dIfS, dOr, dAnd, dNot, dTest, dOp, dUn, dCB, dCons, dNil, dVar, dC, dSeq, dAsg, hName, dRet, dRetF, dRetN, dRaise, dNext, dDrop, dAppend, dCall, gI, gIC, gU, gMM, dChain, dAndV, dOrV, dNotV, dTup, dLst, dLstB, dNewK, dNewT, dPar, dAug, hTup, hCons, hEnd, hSub, dISeq, dIEn, dIR1, dIR2, dFor, dLc, dLcB, hPair, dYes, dBreak, dCont, dIf, dQuant, getS, setS, startD, DL.gSub, gDiv, gMod, gPow, gShl, gXor, gAddI, gLt, gLe, gGt, gGe, gNegU, gMax2, gMin2, gAbs, gIntC, gEq, gIsN, gAdd, gMul, dSl, dNoPart, dPart, wipeD, List.set, rNot, rChain, rOp, rVar, rC, rAnd, hLt, hLe, hGt, hGe, hEq, DL.rI, dSetF, dFld, dMeth, dMake, dMaxD, dJoin, dStarts, dIStr, dAnyS, dAnyZ, dIEnC, dLstRg2, dLcR, dCallR, dLam]
  exact ⟨true, eq_self (pl_N _), if_no rfl h⟩
theorem s4 {most : Nat} {hs : List Nat} (h : ∀ pS, B pS = none → E.nx [z0, some (.ref a), some (.lst (iN nums)), some (.ref pT), some (.int (most : Int)), some (.lst (iN hs)), some (.lst []), some (.ref pS), z8, z9, z10, z11, z12, z13, z14, z15, z16, z17, z18, z19, z20, z21, z22, z23, z24] (put B pS (.dT []))) :
    S4_law E [z0, some (.ref a), some (.lst (iN nums)), some (.ref pT), some (.int (most : Int)), some (.lst (iN hs)), z6, z7, z8, z9, z10, z11, z12, z13, z14, z15, z16, z17, z18, z19, z20, z21, z22, z23, z24] B := by
  try dsimp only [S4_law, dIfS, dOr, dAnd, dNot, dTest, dOp, dUn, dCB, dCons, dNil, dVar, dC, dSeq, dAsg, hName, dRet, dRetF, dRetN, dRaise, dNext, dDrop, dAppend, dCall, gI, gIC, gU, gMM, dChain, dAndV, dOrV, dNotV, dTup, dLst, dLstB, dNewK, dNewT, dPar, dAug, hTup, hCons, hEnd, hSub, dISeq, dIEn, dIR1, dIR2, dFor, dLc, dLcB, hPair, dYes, dBreak, dCont, dIf, dQuant, getS, setS, startD, DL.gSub, gDiv, gMod, gPow, gShl, gXor, gAddI, gLt, gLe, gGt, gGe, gNegU, gMax2, gMin2, gAbs, gIntC, gEq, gIsN, gAdd, gMul, dSl, dNoPart, dPart, wipeD, List.set, rNot, rChain, rOp, rVar, rC, rAnd, hLt, hLe, hGt, hGe, hEq, DL.rI, dSetF, dFld, dMeth, dMake, dMaxD, dJoin, dStarts, dIStr, dAnyS, dAnyZ, dIEnC, dLstRg2, dLcR, dCallR, dLam]
  exact ⟨trivial, fun pS hp => ⟨trivial, h pS hp⟩⟩
/-- the memory of tries -/
structure LawW (a Pt : Addr) (nm : Str) (CT pT pS : Addr) (nums : List Nat) (B : Bx) : Prop where
  b : LawB a Pt nm B
  t : TkB CT pT nums B
  m : ∃ ks, B pS = some (.dT (memo (fW nums) ks)) ∧ Mem domK ks
theorem LawW.w (h : LawW a Pt nm CT pT pS nums B) {ks : List (List Int)} (hm : Mem domK ks) : LawW a Pt nm CT pT pS nums (put B pS (.dT (memo (fW nums) ks))) := by
  obtain ⟨k1, e1, g1⟩ := h.m
  exact ⟨h.b.set e1, h.t.dT e1, ⟨ks, put_same, hm⟩⟩
theorem sumN_le {hs : List Nat} (h : InK hs) : sumN hs < 30 := by
  have key : ∀ {l : List Nat}, (∀ v ∈ l, v < 7) → sumN l ≤ 6 * l.length := by
    intro l
    induction l with
    | nil => intro _; exact Nat.le_refl _
    | cons v l ih =>
      intro k
      have h1 := k v List.mem_cons_self
      have h2 := ih fun x hx => k x (List.mem_cons_of_mem _ hx)
      show v + sumN l ≤ _
      rw [List.length_cons]
      omega
  have h1 := key h.lt
  have h2 := h.len
  omega
theorem s5 {hs : List Nat} (hW : LawW a Pt nm CT pT pS nums B) (hn : NumsOk nums) (hin : InK hs)
    (h : ∀ B' z8 z9, LawW a Pt nm CT pT pS nums B' → E.nx [z0, some (.ref a), some (.lst (iN nums)), some (.ref pT), z4, some (.lst (iN hs)), some (.lst (prs (movG (cL nums hs) nums 0 hs))), some (.ref pS), z8, z9, z10, z11, z12, z13, z14, z15, z16, z17, z18, z19, z20, z21, z22, z23, z24] B') :
    S5_law (sp_lwins 30) E [z0, some (.ref a), some (.lst (iN nums)), some (.ref pT), z4, some (.lst (iN hs)), some (.lst []), some (.ref pS), z8, z9, z10, z11, z12, z13, z14, z15, z16, z17, z18, z19, z20, z21, z22, z23, z24] B := by
  try dsimp only [S5_law, dIfS, dOr, dAnd, dNot, dTest, dOp, dUn, dCB, dCons, dNil, dVar, dC, dSeq, dAsg, hName, dRet, dRetF, dRetN, dRaise, dNext, dDrop, dAppend, dCall, gI, gIC, gU, gMM, dChain, dAndV, dOrV, dNotV, dTup, dLst, dLstB, dNewK, dNewT, dPar, dAug, hTup, hCons, hEnd, hSub, dISeq, dIEn, dIR1, dIR2, dFor, dLc, dLcB, hPair, dYes, dBreak, dCont, dIf, dQuant, getS, setS, startD, DL.gSub, gDiv, gMod, gPow, gShl, gXor, gAddI, gLt, gLe, gGt, gGe, gNegU, gMax2, gMin2, gAbs, gIntC, gEq, gIsN, gAdd, gMul, dSl, dNoPart, dPart, wipeD, List.set, rNot, rChain, rOp, rVar, rC, rAnd, hLt, hLe, hGt, hGe, hEq, DL.rI, dSetF, dFld, dMeth, dMake, dMaxD, dJoin, dStarts, dIStr, dAnyS, dAnyZ, dIEnC, dLstRg2, dLcR, dCallR, dLam]
  show ∃ xs, lstOf B (.lst (iN hs)) = some xs ∧ _
  refine ⟨_, rfl, ?_⟩
  have hlen := hin.len
  have hnl := hn.len
  refine for_by (fun r Γ B' => ∃ (k : Nat) (ms : List Nat) (M : List (Nat × Nat)) (z8 z9 : Option D), LawW a Pt nm CT pT pS nums B' ∧ r = enumL (k : Int) (iN ms) ∧ Γ = [z0, some (.ref a), some (.lst (iN nums)), some (.ref pT), z4, some (.lst (iN hs)), some (.lst (prs M)), some (.ref pS), z8, z9, z10, z11, z12, z13, z14, z15, z16, z17, z18, z19, z20, z21, z22, z23, z24] ∧ ms = hs.drop k ∧
      M ++ movG (cL nums hs) nums k ms = movG (cL nums hs) nums 0 hs ∧ M.length + 4 * ms.length ≤ 12)
    ⟨0, hs, [], z8, z9, hW, rfl, rfl, rfl, rfl, by simp; omega⟩ (fun r Γ B' h f e => by cases e) (fun Γ B' h2 => ?_) (fun e r Γ B' K h2 hk => ?_)
  · obtain ⟨k, ms, M, z8, z9, hW', h3, rfl, h4, h5, h6⟩ := h2
    cases ms with
    | cons m ms => cases h3
    | nil =>
      rw [show movG (cL nums hs) nums k [] = [] from rfl, List.append_nil] at h5
      subst h5
      exact h B' z8 z9 hW'
  · obtain ⟨k, ms, M, z8, z9, hW', h3, rfl, h4, h5, h6⟩ := h2
    cases ms with
    | nil => cases h3
    | cons m ms =>
      cases h3
      have hk2 : k < hs.length := by
        rcases Nat.lt_or_ge k hs.length with h | h
        · exact h
        · rw [List.drop_of_length_le h] at h4; cases h4
      rw [List.drop_eq_getElem_cons hk2] at h4
      injection h4 with h4 h10
      rw [List.length_cons] at h6
      try dsimp only [B1_law, C3_law, dIfS, dOr, dAnd, dNot, dTest, dOp, dUn, dCB, dCons, dNil, dVar, dC, dSeq, dAsg, hName, dRet, dRetF, dRetN, dRaise, dNext, dDrop, dAppend, dCall, gI, gIC, gU, gMM, dChain, dAndV, dOrV, dNotV, dTup, dLst, dLstB, dNewK, dNewT, dPar, dAug, hTup, hCons, hEnd, hSub, dISeq, dIEn, dIR1, dIR2, dFor, dLc, dLcB, hPair, dYes, dBreak, dCont, dIf, dQuant, getS, setS, startD, DL.gSub, gDiv, gMod, gPow, gShl, gXor, gAddI, gLt, gLe, gGt, gGe, gNegU, gMax2, gMin2, gAbs, gIntC, gEq, gIsN, gAdd, gMul, dSl, dNoPart, dPart, wipeD, List.set, rNot, rChain, rOp, rVar, rC, rAnd, hLt, hLe, hGt, hGe, hEq, DL.rI, dSetF, dFld, dMeth, dMake, dMaxD, dJoin, dStarts, dIStr, dAnyS, dAnyZ, dIEnC, dLstRg2, dLcR, dCallR, dLam]
      refine ⟨_, rfl, sizeOk_of (by rw [iN_len]; omega), ?_⟩
      refine lc_by (fun w acc B2 => ∃ (rn : List Nat) (ac : List (Nat × Nat)), LawW a Pt nm CT pT pS nums B2 ∧ w = iN rn ∧ acc = prs ac ∧ (∀ b ∈ rn, 1 ≤ b) ∧ ac ++ (rn.filter (cL nums hs k m)).map (fun b => (k, b)) = (nums.filter (cL nums hs k m)).map (fun b => (k, b)) ∧ ac.length + rn.length ≤ 4)
        ⟨nums, [], hW', rfl, rfl, hW'.t.pos, rfl, by simp; omega⟩ (fun r acc B' h f e => by cases e) (fun acc B2 h2 => ?_) (fun e w acc B2 K2 h2 hk2' => ?_)
      · obtain ⟨rn, ac, hW2, h7, rfl, _, h8, h9⟩ := h2
        cases rn with
        | cons b rn => cases h7
        | nil =>
          rw [List.filter_nil, List.map_nil, List.append_nil] at h8
          refine ⟨le_size (by rw [prs_len, prs_len]; simp at h9; omega), ?_⟩
          have ep : prs M ++ prs ac = prs (M ++ ac) := by unfold prs; rw [List.map_append]
          rw [ep]
          refine hk _ _ ⟨k + 1, ms, M ++ ac, _, _, hW2, rfl, rfl, h10, ?_, ?_⟩
          · rw [h8, ← h5, List.append_assoc]; rfl
          · rw [List.length_append]; simp at h9; omega
      · obtain ⟨rn, ac, hW2, h7, rfl, hpos, h8, h9⟩ := h2
        cases rn with
        | nil => cases h7
        | cons b rn =>
          cases h7
          have hb := hpos b List.mem_cons_self
          have hpos' : ∀ c ∈ rn, 1 ≤ c := fun c hc => hpos c (List.mem_cons_of_mem _ hc)
          rw [List.length_cons] at h9
          have e1 : ((k : Int) + 1) = ((k + 1 : Nat) : Int) := by omega
          try dsimp only [dIfS, dOr, dAnd, dNot, dTest, dOp, dUn, dCB, dCons, dNil, dVar, dC, dSeq, dAsg, hName, dRet, dRetF, dRetN, dRaise, dNext, dDrop, dAppend, dCall, gI, gIC, gU, gMM, dChain, dAndV, dOrV, dNotV, dTup, dLst, dLstB, dNewK, dNewT, dPar, dAug, hTup, hCons, hEnd, hSub, dISeq, dIEn, dIR1, dIR2, dFor, dLc, dLcB, hPair, dYes, dBreak, dCont, dIf, dQuant, getS, setS, startD, DL.gSub, gDiv, gMod, gPow, gShl, gXor, gAddI, gLt, gLe, gGt, gGe, gNegU, gMax2, gMin2, gAbs, gIntC, gEq, gIsN, gAdd, gMul, dSl, dNoPart, dPart, wipeD, List.set, rNot, rChain, rOp, rVar, rC, rAnd, hLt, hLe, hGt, hGe, hEq, DL.rI, dSetF, dFld, dMeth, dMake, dMaxD, dJoin, dStarts, dIStr, dAnyS, dAnyZ, dIEnC, dLstRg2, dLcR, dCallR, dLam]
          refine ite_dec (fun c => ?_) (fun c => if_no rfl (hk2' _ _ ⟨rn, ac, hW2, rfl, rfl, hpos', ?_, by omega⟩))
          · have h12 := cutD_len (iN hs) none (some (k : Int))
            have h13 := cutD_len (iN hs) (some ((k + 1 : Nat) : Int)) none
            rw [iN_len] at h12 h13
            rw [e1, show (m : Int) - (b : Int) = ((m - b : Nat) : Int) by omega]
            refine ⟨_, rfl, trivial, le_size (by simp; omega), _, rfl, le_size (by simp at h12 h13 ⊢; omega), ?_⟩
            rw [cut_iN]
            have hc2 := hin.cut hk2 (s := m - b) (by omega)
            obtain ⟨ks, m1, g1⟩ := hW2.m
            refine ⟨_, nums, cutN hs k (m - b), pS, ks, rfl, hW2.t.pos, rfl, hc2, sumN_le hc2, m1, g1, fun ks' g' => ?_⟩
            have hW3 := hW2.w g'
            have ec : cL nums hs k m b = !wT nums (cutN hs k (m - b)) := by unfold cL; rw [decide_eq_true (by omega), Bool.true_and]
            refine ite_of (fun hw => ⟨trivial, ?_⟩) (fun hw => hk2' _ _ ⟨rn, ac, hW3, rfl, rfl, hpos', ?_, by omega⟩)
            · have ep : prs ac ++ [D.tup [.int (k : Int), .int (b : Int)]] = prs (ac ++ [(k, b)]) := by unfold prs; rw [List.map_append]; rfl
              rw [ep]
              refine hk2' _ _ ⟨rn, ac ++ [(k, b)], hW3, rfl, rfl, hpos', ?_, by rw [List.length_append]; simp; omega⟩
              rw [← h8, List.filter_cons_of_pos (by rw [ec]; exact hw), List.append_assoc]; rfl
            · rw [← h8, List.filter_cons_of_neg (by rw [ec, hw]; decide)]
          · rw [← h8, List.filter_cons_of_neg (by unfold cL; rw [decide_eq_false (by omega)]; simp)]
end
end K02
set_option Elab.async false
set_option linter.all false
set_option pp.maxSteps 600
set_option maxRecDepth 100000
set_option maxHeartbeats 2000000
--MORE
namespace K02
open PySem PySem.Spec PyProof.Rows L2 DL PL
/-! ### what is refused -/
/-- where cond holds, it lets the error C out -/
def slG (cond : List D → Bx → Prop) (C : Addr) : List D → Bx → DK → XD → Prop := fun ds B _ x => cond ds B ∧ x C B
abbrev c0 : List D → Bx → Prop := fun _ _ => True
abbrev cT (CT : Addr) : List D → Bx → Prop := fun ds B => ∃ p, ds = [.ref p] ∧ TkB CT p [1] B
abbrev cK (CC : Addr) : List D → Bx → Prop := fun ds B => ∃ p, ds = [.ref p] ∧ CoB CC p [7, 7] B
section
variable {CT CC CE : Addr} {ds : List D} {B : Bx} {q : DK} {x : XD}
theorem bad_cof {t : Str} (hb : badT t = true) (h : x CE B) : sp_cof CC CE [.str t] B q x := .inr ⟨t, rfl, hb, h⟩
theorem rl1 (h : slG c0 CE ds B q x) : tl1_lplain (sp_cof CC CE) (ds.map some) B q x := bad_cof (by decide +kernel) h.2
theorem rl2 (h : slG c0 CE ds B q x) : tl2_lplain (sp_cof CC CE) (ds.map some) B q x := bad_cof (by decide +kernel) h.2
theorem rl3 (h : slG c0 CE ds B q x) : tl3_lplain (sp_cof CC CE) (ds.map some) B q x := bad_cof (by decide +kernel) h.2
theorem rl4 (h : slG c0 CE ds B q x) : tl4_lplain (sp_cof CC CE) (ds.map some) B q x := bad_cof (by decide +kernel) h.2
theorem bad_Cr {p : Addr} {ns : List Int} (hp : CoB CC p [7, 7] B) (hb : okA 200 ns = false) (h : x CE B) : sp_Cr CC CE [.ref p, .lst (iL ns)] B q x := ⟨p, _, [7, 7], ns, rfl, hp, rfl, fun e => (by rw [hb] at e; cases e), fun _ => h⟩
theorem bad_Tm {p : Addr} {ns : List Int} (hp : TkB CT p [1] B) (hb : okA 600 ns = false) (h : x CE B) : sp_Tm CT CE [.ref p, .lst (iL ns)] B q x := ⟨p, _, [1], ns, rfl, hp, rfl, fun e => (by rw [hb] at e; cases e), fun _ => h⟩
theorem rl5 (h : slG (cK CC) CE ds B q x) : tl5_lplain (sp_Cr CC CE) CC (ds.map some) B q x := by
  obtain ⟨⟨p, rfl, hp⟩, h⟩ := h
  try dsimp only [tl5_lplain, List.map, dIfS, dOr, dAnd, dNot, dTest, dOp, dUn, dCB, dCons, dNil, dVar, dC, dSeq, dAsg, hName, dRet, dRetF, dRetN, dRaise, dNext, dDrop, dAppend, dCall, gI, gIC, gU, gMM, dChain, dAndV, dOrV, dNotV, dTup, dLst, dLstB, dNewK, dNewT, dPar, dAug, hTup, hCons, hEnd, hSub, dISeq, dIEn, dIR1, dIR2, dFor, dLc, dLcB, hPair, dYes, dBreak, dCont, dIf, dQuant, getS, setS, startD, DL.gSub, gDiv, gMod, gPow, gShl, gXor, gAddI, gLt, gLe, gGt, gGe, gNegU, gMax2, gMin2, gAbs, gIntC, gEq, gIsN, gAdd, gMul, dSl, dNoPart, dPart, wipeD, List.set, rNot, rChain, rOp, rVar, rC, rAnd, hLt, hLe, hGt, hGe, hEq, DL.rI, dSetF, dFld, dMeth, dMake, dMaxD, dJoin, dStarts, dIStr, dAnyS, dAnyZ, dIEnC, dLstRg2, dLcR, dCallR, dLam]
  exact ⟨p, _, rfl, hp.at_, by rfl, trivial, bad_Cr (ns := [201]) hp (by decide) h⟩
theorem rl6 (h : slG (cK CC) CE ds B q x) : tl6_lplain (sp_Cw CC CE) CC (ds.map some) B q x := by
  obtain ⟨⟨p, rfl, hp⟩, h⟩ := h
  try dsimp only [tl6_lplain, List.map, dIfS, dOr, dAnd, dNot, dTest, dOp, dUn, dCB, dCons, dNil, dVar, dC, dSeq, dAsg, hName, dRet, dRetF, dRetN, dRaise, dNext, dDrop, dAppend, dCall, gI, gIC, gU, gMM, dChain, dAndV, dOrV, dNotV, dTup, dLst, dLstB, dNewK, dNewT, dPar, dAug, hTup, hCons, hEnd, hSub, dISeq, dIEn, dIR1, dIR2, dFor, dLc, dLcB, hPair, dYes, dBreak, dCont, dIf, dQuant, getS, setS, startD, DL.gSub, gDiv, gMod, gPow, gShl, gXor, gAddI, gLt, gLe, gGt, gGe, gNegU, gMax2, gMin2, gAbs, gIntC, gEq, gIsN, gAdd, gMul, dSl, dNoPart, dPart, wipeD, List.set, rNot, rChain, rOp, rVar, rC, rAnd, hLt, hLe, hGt, hGe, hEq, DL.rI, dSetF, dFld, dMeth, dMake, dMaxD, dJoin, dStarts, dIStr, dAnyS, dAnyZ, dIEnC, dLstRg2, dLcR, dCallR, dLam]
  exact ⟨p, _, rfl, hp.at_, by rfl, p, _, -1, rfl, hp, fun e => absurd e (by decide), fun _ => h⟩
theorem rl7 (h : slG (cK CC) CE ds B q x) : tl7_lplain (sp_Cw CC CE) CC (ds.map some) B q x := by
  obtain ⟨⟨p, rfl, hp⟩, h⟩ := h
  try dsimp only [tl7_lplain, List.map, dIfS, dOr, dAnd, dNot, dTest, dOp, dUn, dCB, dCons, dNil, dVar, dC, dSeq, dAsg, hName, dRet, dRetF, dRetN, dRaise, dNext, dDrop, dAppend, dCall, gI, gIC, gU, gMM, dChain, dAndV, dOrV, dNotV, dTup, dLst, dLstB, dNewK, dNewT, dPar, dAug, hTup, hCons, hEnd, hSub, dISeq, dIEn, dIR1, dIR2, dFor, dLc, dLcB, hPair, dYes, dBreak, dCont, dIf, dQuant, getS, setS, startD, DL.gSub, gDiv, gMod, gPow, gShl, gXor, gAddI, gLt, gLe, gGt, gGe, gNegU, gMax2, gMin2, gAbs, gIntC, gEq, gIsN, gAdd, gMul, dSl, dNoPart, dPart, wipeD, List.set, rNot, rChain, rOp, rVar, rC, rAnd, hLt, hLe, hGt, hGe, hEq, DL.rI, dSetF, dFld, dMeth, dMake, dMaxD, dJoin, dStarts, dIStr, dAnyS, dAnyZ, dIEnC, dLstRg2, dLcR, dCallR, dLam]
  exact ⟨p, _, rfl, hp.at_, by rfl, p, _, 201, rfl, hp, fun _ e => absurd e (by decide), fun _ => h⟩
theorem rl8 (h : slG (cK CC) CE ds B q x) : tl8_lplain (sp_Cr CC CE) CC (ds.map some) B q x := by
  obtain ⟨⟨p, rfl, hp⟩, h⟩ := h
  try dsimp only [tl8_lplain, List.map, dIfS, dOr, dAnd, dNot, dTest, dOp, dUn, dCB, dCons, dNil, dVar, dC, dSeq, dAsg, hName, dRet, dRetF, dRetN, dRaise, dNext, dDrop, dAppend, dCall, gI, gIC, gU, gMM, dChain, dAndV, dOrV, dNotV, dTup, dLst, dLstB, dNewK, dNewT, dPar, dAug, hTup, hCons, hEnd, hSub, dISeq, dIEn, dIR1, dIR2, dFor, dLc, dLcB, hPair, dYes, dBreak, dCont, dIf, dQuant, getS, setS, startD, DL.gSub, gDiv, gMod, gPow, gShl, gXor, gAddI, gLt, gLe, gGt, gGe, gNegU, gMax2, gMin2, gAbs, gIntC, gEq, gIsN, gAdd, gMul, dSl, dNoPart, dPart, wipeD, List.set, rNot, rChain, rOp, rVar, rC, rAnd, hLt, hLe, hGt, hGe, hEq, DL.rI, dSetF, dFld, dMeth, dMake, dMaxD, dJoin, dStarts, dIStr, dAnyS, dAnyZ, dIEnC, dLstRg2, dLcR, dCallR, dLam]
  exact ⟨p, _, rfl, hp.at_, by rfl, trivial, ⟨by decide, by decide, le_size (by decide)⟩, bad_Cr (ns := [1, 1, 1, 1, 1, 1, 1, 1, 1, 1, 1, 1, 1]) hp (by decide) h⟩
theorem rl9 (h : slG (cK CC) CE ds B q x) : tl9_lplain (sp_Cr CC CE) CC (ds.map some) B q x := by
  obtain ⟨⟨p, rfl, hp⟩, h⟩ := h
  try dsimp only [tl9_lplain, List.map, dIfS, dOr, dAnd, dNot, dTest, dOp, dUn, dCB, dCons, dNil, dVar, dC, dSeq, dAsg, hName, dRet, dRetF, dRetN, dRaise, dNext, dDrop, dAppend, dCall, gI, gIC, gU, gMM, dChain, dAndV, dOrV, dNotV, dTup, dLst, dLstB, dNewK, dNewT, dPar, dAug, hTup, hCons, hEnd, hSub, dISeq, dIEn, dIR1, dIR2, dFor, dLc, dLcB, hPair, dYes, dBreak, dCont, dIf, dQuant, getS, setS, startD, DL.gSub, gDiv, gMod, gPow, gShl, gXor, gAddI, gLt, gLe, gGt, gGe, gNegU, gMax2, gMin2, gAbs, gIntC, gEq, gIsN, gAdd, gMul, dSl, dNoPart, dPart, wipeD, List.set, rNot, rChain, rOp, rVar, rC, rAnd, hLt, hLe, hGt, hGe, hEq, DL.rI, dSetF, dFld, dMeth, dMake, dMaxD, dJoin, dStarts, dIStr, dAnyS, dAnyZ, dIEnC, dLstRg2, dLcR, dCallR, dLam]
  exact ⟨p, _, rfl, hp.at_, by rfl, trivial, bad_Cr (ns := [-1, 5]) hp (by decide) h⟩
theorem rl10 (h : slG (cK CC) CE ds B q x) : tl10_lplain (sp_Co CC CE) CC (ds.map some) B q x := by
  obtain ⟨⟨p, rfl, hp⟩, h⟩ := h
  try dsimp only [tl10_lplain, List.map, dIfS, dOr, dAnd, dNot, dTest, dOp, dUn, dCB, dCons, dNil, dVar, dC, dSeq, dAsg, hName, dRet, dRetF, dRetN, dRaise, dNext, dDrop, dAppend, dCall, gI, gIC, gU, gMM, dChain, dAndV, dOrV, dNotV, dTup, dLst, dLstB, dNewK, dNewT, dPar, dAug, hTup, hCons, hEnd, hSub, dISeq, dIEn, dIR1, dIR2, dFor, dLc, dLcB, hPair, dYes, dBreak, dCont, dIf, dQuant, getS, setS, startD, DL.gSub, gDiv, gMod, gPow, gShl, gXor, gAddI, gLt, gLe, gGt, gGe, gNegU, gMax2, gMin2, gAbs, gIntC, gEq, gIsN, gAdd, gMul, dSl, dNoPart, dPart, wipeD, List.set, rNot, rChain, rOp, rVar, rC, rAnd, hLt, hLe, hGt, hGe, hEq, DL.rI, dSetF, dFld, dMeth, dMake, dMaxD, dJoin, dStarts, dIStr, dAnyS, dAnyZ, dIEnC, dLstRg2, dLcR, dCallR, dLam]
  exact ⟨p, _, rfl, hp.at_, by rfl, p, _, 201, rfl, hp, fun _ e => absurd e (by decide), fun _ => h⟩
theorem rl11 (h : slG (cK CC) CE ds B q x) : tl11_lplain (sp_Co CC CE) CC (ds.map some) B q x := by
  obtain ⟨⟨p, rfl, hp⟩, h⟩ := h
  try dsimp only [tl11_lplain, List.map, dIfS, dOr, dAnd, dNot, dTest, dOp, dUn, dCB, dCons, dNil, dVar, dC, dSeq, dAsg, hName, dRet, dRetF, dRetN, dRaise, dNext, dDrop, dAppend, dCall, gI, gIC, gU, gMM, dChain, dAndV, dOrV, dNotV, dTup, dLst, dLstB, dNewK, dNewT, dPar, dAug, hTup, hCons, hEnd, hSub, dISeq, dIEn, dIR1, dIR2, dFor, dLc, dLcB, hPair, dYes, dBreak, dCont, dIf, dQuant, getS, setS, startD, DL.gSub, gDiv, gMod, gPow, gShl, gXor, gAddI, gLt, gLe, gGt, gGe, gNegU, gMax2, gMin2, gAbs, gIntC, gEq, gIsN, gAdd, gMul, dSl, dNoPart, dPart, wipeD, List.set, rNot, rChain, rOp, rVar, rC, rAnd, hLt, hLe, hGt, hGe, hEq, DL.rI, dSetF, dFld, dMeth, dMake, dMaxD, dJoin, dStarts, dIStr, dAnyS, dAnyZ, dIEnC, dLstRg2, dLcR, dCallR, dLam]
  exact ⟨p, _, rfl, hp.at_, by rfl, p, _, -1, rfl, hp, fun e => absurd e (by decide), fun _ => h⟩
theorem bad_Ci {p : Addr} {ns : List Int} {q' : DK} (hp : B p = none) (hb : okC ns = false) (h : x CE B) : sp_Ci CC CE [.ref p, .lst (iL ns)] (put B p (.ins CC [])) q' x := ⟨p, _, ns, rfl, put_same, rfl, fun ys e => (by cases e), fun e => (by rw [hb] at e; cases e), fun _ => ⟨B, Few.put hp, hp, h⟩⟩
theorem bad_Ti {p : Addr} {ns : List Int} {q' : DK} (hp : B p = none) (hb : okT ns = false) (h : x CE B) : sp_Ti CT CE [.ref p, .lst (iL ns)] (put B p (.ins CT [])) q' x := ⟨p, _, ns, rfl, put_same, rfl, fun ys e => (by cases e), fun e => (by rw [hb] at e; cases e), fun _ => ⟨B, Few.put hp, hp, h⟩⟩
theorem rl12 (h : slG c0 CE ds B q x) : tl12_lplain (sp_Ci CC CE) CC (ds.map some) B q x := by
  obtain ⟨_, h⟩ := h
  try dsimp only [tl12_lplain, dIfS, dOr, dAnd, dNot, dTest, dOp, dUn, dCB, dCons, dNil, dVar, dC, dSeq, dAsg, hName, dRet, dRetF, dRetN, dRaise, dNext, dDrop, dAppend, dCall, gI, gIC, gU, gMM, dChain, dAndV, dOrV, dNotV, dTup, dLst, dLstB, dNewK, dNewT, dPar, dAug, hTup, hCons, hEnd, hSub, dISeq, dIEn, dIR1, dIR2, dFor, dLc, dLcB, hPair, dYes, dBreak, dCont, dIf, dQuant, getS, setS, startD, DL.gSub, gDiv, gMod, gPow, gShl, gXor, gAddI, gLt, gLe, gGt, gGe, gNegU, gMax2, gMin2, gAbs, gIntC, gEq, gIsN, gAdd, gMul, dSl, dNoPart, dPart, wipeD, List.set, rNot, rChain, rOp, rVar, rC, rAnd, hLt, hLe, hGt, hGe, hEq, DL.rI, dSetF, dFld, dMeth, dMake, dMaxD, dJoin, dStarts, dIStr, dAnyS, dAnyZ, dIEnC, dLstRg2, dLcR, dCallR, dLam]
  exact ⟨trivial, ⟨by decide, by decide, le_size (by decide)⟩, fun p hp => bad_Ci (ns := [1, 1, 1, 1, 1, 1]) hp (by decide) h⟩
theorem rl13 (h : slG c0 CE ds B q x) : tl13_lplain (sp_Ci CC CE) CC (ds.map some) B q x := by
  obtain ⟨_, h⟩ := h
  try dsimp only [tl13_lplain, dIfS, dOr, dAnd, dNot, dTest, dOp, dUn, dCB, dCons, dNil, dVar, dC, dSeq, dAsg, hName, dRet, dRetF, dRetN, dRaise, dNext, dDrop, dAppend, dCall, gI, gIC, gU, gMM, dChain, dAndV, dOrV, dNotV, dTup, dLst, dLstB, dNewK, dNewT, dPar, dAug, hTup, hCons, hEnd, hSub, dISeq, dIEn, dIR1, dIR2, dFor, dLc, dLcB, hPair, dYes, dBreak, dCont, dIf, dQuant, getS, setS, startD, DL.gSub, gDiv, gMod, gPow, gShl, gXor, gAddI, gLt, gLe, gGt, gGe, gNegU, gMax2, gMin2, gAbs, gIntC, gEq, gIsN, gAdd, gMul, dSl, dNoPart, dPart, wipeD, List.set, rNot, rChain, rOp, rVar, rC, rAnd, hLt, hLe, hGt, hGe, hEq, DL.rI, dSetF, dFld, dMeth, dMake, dMaxD, dJoin, dStarts, dIStr, dAnyS, dAnyZ, dIEnC, dLstRg2, dLcR, dCallR, dLam]
  exact ⟨trivial, fun p hp => bad_Ci (ns := [0, 0]) hp (by decide) h⟩
theorem rl14 (h : slG c0 CE ds B q x) : tl14_lplain (sp_Ci CC CE) CC (ds.map some) B q x := by
  obtain ⟨_, h⟩ := h
  try dsimp only [tl14_lplain, dIfS, dOr, dAnd, dNot, dTest, dOp, dUn, dCB, dCons, dNil, dVar, dC, dSeq, dAsg, hName, dRet, dRetF, dRetN, dRaise, dNext, dDrop, dAppend, dCall, gI, gIC, gU, gMM, dChain, dAndV, dOrV, dNotV, dTup, dLst, dLstB, dNewK, dNewT, dPar, dAug, hTup, hCons, hEnd, hSub, dISeq, dIEn, dIR1, dIR2, dFor, dLc, dLcB, hPair, dYes, dBreak, dCont, dIf, dQuant, getS, setS, startD, DL.gSub, gDiv, gMod, gPow, gShl, gXor, gAddI, gLt, gLe, gGt, gGe, gNegU, gMax2, gMin2, gAbs, gIntC, gEq, gIsN, gAdd, gMul, dSl, dNoPart, dPart, wipeD, List.set, rNot, rChain, rOp, rVar, rC, rAnd, hLt, hLe, hGt, hGe, hEq, DL.rI, dSetF, dFld, dMeth, dMake, dMaxD, dJoin, dStarts, dIStr, dAnyS, dAnyZ, dIEnC, dLstRg2, dLcR, dCallR, dLam]
  exact ⟨trivial, fun p hp => bad_Ci (ns := [8]) hp (by decide) h⟩
theorem rl15 (h : slG c0 CE ds B q x) : tl15_lplain (sp_Ci CC CE) CC (ds.map some) B q x := by
  obtain ⟨_, h⟩ := h
  try dsimp only [tl15_lplain, dIfS, dOr, dAnd, dNot, dTest, dOp, dUn, dCB, dCons, dNil, dVar, dC, dSeq, dAsg, hName, dRet, dRetF, dRetN, dRaise, dNext, dDrop, dAppend, dCall, gI, gIC, gU, gMM, dChain, dAndV, dOrV, dNotV, dTup, dLst, dLstB, dNewK, dNewT, dPar, dAug, hTup, hCons, hEnd, hSub, dISeq, dIEn, dIR1, dIR2, dFor, dLc, dLcB, hPair, dYes, dBreak, dCont, dIf, dQuant, getS, setS, startD, DL.gSub, gDiv, gMod, gPow, gShl, gXor, gAddI, gLt, gLe, gGt, gGe, gNegU, gMax2, gMin2, gAbs, gIntC, gEq, gIsN, gAdd, gMul, dSl, dNoPart, dPart, wipeD, List.set, rNot, rChain, rOp, rVar, rC, rAnd, hLt, hLe, hGt, hGe, hEq, DL.rI, dSetF, dFld, dMeth, dMake, dMaxD, dJoin, dStarts, dIStr, dAnyS, dAnyZ, dIEnC, dLstRg2, dLcR, dCallR, dLam]
  exact ⟨trivial, fun p hp => bad_Ci (ns := []) hp (by decide) h⟩
theorem rl16 (h : slG c0 CE ds B q x) : tl16_lplain (sp_call CE) (ds.map some) B q x := by
  obtain ⟨_, h⟩ := h
  try dsimp only [tl16_lplain, dIfS, dOr, dAnd, dNot, dTest, dOp, dUn, dCB, dCons, dNil, dVar, dC, dSeq, dAsg, hName, dRet, dRetF, dRetN, dRaise, dNext, dDrop, dAppend, dCall, gI, gIC, gU, gMM, dChain, dAndV, dOrV, dNotV, dTup, dLst, dLstB, dNewK, dNewT, dPar, dAug, hTup, hCons, hEnd, hSub, dISeq, dIEn, dIR1, dIR2, dFor, dLc, dLcB, hPair, dYes, dBreak, dCont, dIf, dQuant, getS, setS, startD, DL.gSub, gDiv, gMod, gPow, gShl, gXor, gAddI, gLt, gLe, gGt, gGe, gNegU, gMax2, gMin2, gAbs, gIntC, gEq, gIsN, gAdd, gMul, dSl, dNoPart, dPart, wipeD, List.set, rNot, rChain, rOp, rVar, rC, rAnd, hLt, hLe, hGt, hGe, hEq, DL.rI, dSetF, dFld, dMeth, dMake, dMaxD, dJoin, dStarts, dIStr, dAnyS, dAnyZ, dIEnC, dLstRg2, dLcR, dCallR, dLam]
  exact ⟨trivial, _, [-1], rfl, rfl, fun e => absurd e (by decide), fun _ => h⟩
theorem rl17 (h : slG (cT CT) CE ds B q x) : tl17_lplain (sp_Tm CT CE) CT (ds.map some) B q x := by
  obtain ⟨⟨p, rfl, hp⟩, h⟩ := h
  try dsimp only [tl17_lplain, List.map, dIfS, dOr, dAnd, dNot, dTest, dOp, dUn, dCB, dCons, dNil, dVar, dC, dSeq, dAsg, hName, dRet, dRetF, dRetN, dRaise, dNext, dDrop, dAppend, dCall, gI, gIC, gU, gMM, dChain, dAndV, dOrV, dNotV, dTup, dLst, dLstB, dNewK, dNewT, dPar, dAug, hTup, hCons, hEnd, hSub, dISeq, dIEn, dIR1, dIR2, dFor, dLc, dLcB, hPair, dYes, dBreak, dCont, dIf, dQuant, getS, setS, startD, DL.gSub, gDiv, gMod, gPow, gShl, gXor, gAddI, gLt, gLe, gGt, gGe, gNegU, gMax2, gMin2, gAbs, gIntC, gEq, gIsN, gAdd, gMul, dSl, dNoPart, dPart, wipeD, List.set, rNot, rChain, rOp, rVar, rC, rAnd, hLt, hLe, hGt, hGe, hEq, DL.rI, dSetF, dFld, dMeth, dMake, dMaxD, dJoin, dStarts, dIStr, dAnyS, dAnyZ, dIEnC, dLstRg2, dLcR, dCallR, dLam]
  exact ⟨p, _, rfl, hp.at_, by rfl, trivial, ⟨by decide, by decide, le_size (by decide)⟩, bad_Tm (ns := [1, 1, 1, 1, 1, 1, 1, 1, 1, 1, 1, 1, 1]) hp (by decide) h⟩
theorem rl18 (h : slG (cT CT) CE ds B q x) : tl18_lplain (sp_Tm CT CE) CT (ds.map some) B q x := by
  obtain ⟨⟨p, rfl, hp⟩, h⟩ := h
  try dsimp only [tl18_lplain, List.map, dIfS, dOr, dAnd, dNot, dTest, dOp, dUn, dCB, dCons, dNil, dVar, dC, dSeq, dAsg, hName, dRet, dRetF, dRetN, dRaise, dNext, dDrop, dAppend, dCall, gI, gIC, gU, gMM, dChain, dAndV, dOrV, dNotV, dTup, dLst, dLstB, dNewK, dNewT, dPar, dAug, hTup, hCons, hEnd, hSub, dISeq, dIEn, dIR1, dIR2, dFor, dLc, dLcB, hPair, dYes, dBreak, dCont, dIf, dQuant, getS, setS, startD, DL.gSub, gDiv, gMod, gPow, gShl, gXor, gAddI, gLt, gLe, gGt, gGe, gNegU, gMax2, gMin2, gAbs, gIntC, gEq, gIsN, gAdd, gMul, dSl, dNoPart, dPart, wipeD, List.set, rNot, rChain, rOp, rVar, rC, rAnd, hLt, hLe, hGt, hGe, hEq, DL.rI, dSetF, dFld, dMeth, dMake, dMaxD, dJoin, dStarts, dIStr, dAnyS, dAnyZ, dIEnC, dLstRg2, dLcR, dCallR, dLam]
  exact ⟨p, _, rfl, hp.at_, by rfl, trivial, bad_Tm (ns := [601]) hp (by decide) h⟩
theorem rl19 (h : slG (cT CT) CE ds B q x) : tl19_lplain (sp_Tw CT CE) CT (ds.map some) B q x := by
  obtain ⟨⟨p, rfl, hp⟩, h⟩ := h
  try dsimp only [tl19_lplain, List.map, dIfS, dOr, dAnd, dNot, dTest, dOp, dUn, dCB, dCons, dNil, dVar, dC, dSeq, dAsg, hName, dRet, dRetF, dRetN, dRaise, dNext, dDrop, dAppend, dCall, gI, gIC, gU, gMM, dChain, dAndV, dOrV, dNotV, dTup, dLst, dLstB, dNewK, dNewT, dPar, dAug, hTup, hCons, hEnd, hSub, dISeq, dIEn, dIR1, dIR2, dFor, dLc, dLcB, hPair, dYes, dBreak, dCont, dIf, dQuant, getS, setS, startD, DL.gSub, gDiv, gMod, gPow, gShl, gXor, gAddI, gLt, gLe, gGt, gGe, gNegU, gMax2, gMin2, gAbs, gIntC, gEq, gIsN, gAdd, gMul, dSl, dNoPart, dPart, wipeD, List.set, rNot, rChain, rOp, rVar, rC, rAnd, hLt, hLe, hGt, hGe, hEq, DL.rI, dSetF, dFld, dMeth, dMake, dMaxD, dJoin, dStarts, dIStr, dAnyS, dAnyZ, dIEnC, dLstRg2, dLcR, dCallR, dLam]
  exact ⟨p, _, rfl, hp.at_, by rfl, p, _, -1, rfl, hp, fun e => absurd e (by decide), fun _ => h⟩
theorem rl20 (h : slG (cT CT) CE ds B q x) : tl20_lplain (sp_Tw CT CE) CT (ds.map some) B q x := by
  obtain ⟨⟨p, rfl, hp⟩, h⟩ := h
  try dsimp only [tl20_lplain, List.map, dIfS, dOr, dAnd, dNot, dTest, dOp, dUn, dCB, dCons, dNil, dVar, dC, dSeq, dAsg, hName, dRet, dRetF, dRetN, dRaise, dNext, dDrop, dAppend, dCall, gI, gIC, gU, gMM, dChain, dAndV, dOrV, dNotV, dTup, dLst, dLstB, dNewK, dNewT, dPar, dAug, hTup, hCons, hEnd, hSub, dISeq, dIEn, dIR1, dIR2, dFor, dLc, dLcB, hPair, dYes, dBreak, dCont, dIf, dQuant, getS, setS, startD, DL.gSub, gDiv, gMod, gPow, gShl, gXor, gAddI, gLt, gLe, gGt, gGe, gNegU, gMax2, gMin2, gAbs, gIntC, gEq, gIsN, gAdd, gMul, dSl, dNoPart, dPart, wipeD, List.set, rNot, rChain, rOp, rVar, rC, rAnd, hLt, hLe, hGt, hGe, hEq, DL.rI, dSetF, dFld, dMeth, dMake, dMaxD, dJoin, dStarts, dIStr, dAnyS, dAnyZ, dIEnC, dLstRg2, dLcR, dCallR, dLam]
  exact ⟨p, _, rfl, hp.at_, by rfl, p, _, 601, rfl, hp, fun _ e => absurd e (by decide), fun _ => h⟩
theorem rl21 (h : slG c0 CE ds B q x) : tl21_lplain (sp_Ti CT CE) CT (ds.map some) B q x := by
  obtain ⟨_, h⟩ := h
  try dsimp only [tl21_lplain, dIfS, dOr, dAnd, dNot, dTest, dOp, dUn, dCB, dCons, dNil, dVar, dC, dSeq, dAsg, hName, dRet, dRetF, dRetN, dRaise, dNext, dDrop, dAppend, dCall, gI, gIC, gU, gMM, dChain, dAndV, dOrV, dNotV, dTup, dLst, dLstB, dNewK, dNewT, dPar, dAug, hTup, hCons, hEnd, hSub, dISeq, dIEn, dIR1, dIR2, dFor, dLc, dLcB, hPair, dYes, dBreak, dCont, dIf, dQuant, getS, setS, startD, DL.gSub, gDiv, gMod, gPow, gShl, gXor, gAddI, gLt, gLe, gGt, gGe, gNegU, gMax2, gMin2, gAbs, gIntC, gEq, gIsN, gAdd, gMul, dSl, dNoPart, dPart, wipeD, List.set, rNot, rChain, rOp, rVar, rC, rAnd, hLt, hLe, hGt, hGe, hEq, DL.rI, dSetF, dFld, dMeth, dMake, dMaxD, dJoin, dStarts, dIStr, dAnyS, dAnyZ, dIEnC, dLstRg2, dLcR, dCallR, dLam]
  exact ⟨1, 10, rfl, rfl, by unfold RgOk; decide, fun p hp => bad_Ti (ns := rgI 1 10) hp (by decide) h⟩
theorem rl22 (h : slG c0 CE ds B q x) : tl22_lplain (sp_Ti CT CE) CT (ds.map some) B q x := by
  obtain ⟨_, h⟩ := h
  try dsimp only [tl22_lplain, dIfS, dOr, dAnd, dNot, dTest, dOp, dUn, dCB, dCons, dNil, dVar, dC, dSeq, dAsg, hName, dRet, dRetF, dRetN, dRaise, dNext, dDrop, dAppend, dCall, gI, gIC, gU, gMM, dChain, dAndV, dOrV, dNotV, dTup, dLst, dLstB, dNewK, dNewT, dPar, dAug, hTup, hCons, hEnd, hSub, dISeq, dIEn, dIR1, dIR2, dFor, dLc, dLcB, hPair, dYes, dBreak, dCont, dIf, dQuant, getS, setS, startD, DL.gSub, gDiv, gMod, gPow, gShl, gXor, gAddI, gLt, gLe, gGt, gGe, gNegU, gMax2, gMin2, gAbs, gIntC, gEq, gIsN, gAdd, gMul, dSl, dNoPart, dPart, wipeD, List.set, rNot, rChain, rOp, rVar, rC, rAnd, hLt, hLe, hGt, hGe, hEq, DL.rI, dSetF, dFld, dMeth, dMake, dMaxD, dJoin, dStarts, dIStr, dAnyS, dAnyZ, dIEnC, dLstRg2, dLcR, dCallR, dLam]
  exact ⟨trivial, fun p hp => bad_Ti (ns := [2, 1]) hp (by decide) h⟩
theorem rl23 (h : slG c0 CE ds B q x) : tl23_lplain (sp_Ti CT CE) CT (ds.map some) B q x := by
  obtain ⟨_, h⟩ := h
  try dsimp only [tl23_lplain, dIfS, dOr, dAnd, dNot, dTest, dOp, dUn, dCB, dCons, dNil, dVar, dC, dSeq, dAsg, hName, dRet, dRetF, dRetN, dRaise, dNext, dDrop, dAppend, dCall, gI, gIC, gU, gMM, dChain, dAndV, dOrV, dNotV, dTup, dLst, dLstB, dNewK, dNewT, dPar, dAug, hTup, hCons, hEnd, hSub, dISeq, dIEn, dIR1, dIR2, dFor, dLc, dLcB, hPair, dYes, dBreak, dCont, dIf, dQuant, getS, setS, startD, DL.gSub, gDiv, gMod, gPow, gShl, gXor, gAddI, gLt, gLe, gGt, gGe, gNegU, gMax2, gMin2, gAbs, gIntC, gEq, gIsN, gAdd, gMul, dSl, dNoPart, dPart, wipeD, List.set, rNot, rChain, rOp, rVar, rC, rAnd, hLt, hLe, hGt, hGe, hEq, DL.rI, dSetF, dFld, dMeth, dMake, dMaxD, dJoin, dStarts, dIStr, dAnyS, dAnyZ, dIEnC, dLstRg2, dLcR, dCallR, dLam]
  exact ⟨trivial, fun p hp => bad_Ti (ns := [61]) hp (by decide) h⟩
theorem rl24 (h : slG c0 CE ds B q x) : tl24_lplain (sp_Ti CT CE) CT (ds.map some) B q x := by
  obtain ⟨_, h⟩ := h
  try dsimp only [tl24_lplain, dIfS, dOr, dAnd, dNot, dTest, dOp, dUn, dCB, dCons, dNil, dVar, dC, dSeq, dAsg, hName, dRet, dRetF, dRetN, dRaise, dNext, dDrop, dAppend, dCall, gI, gIC, gU, gMM, dChain, dAndV, dOrV, dNotV, dTup, dLst, dLstB, dNewK, dNewT, dPar, dAug, hTup, hCons, hEnd, hSub, dISeq, dIEn, dIR1, dIR2, dFor, dLc, dLcB, hPair, dYes, dBreak, dCont, dIf, dQuant, getS, setS, startD, DL.gSub, gDiv, gMod, gPow, gShl, gXor, gAddI, gLt, gLe, gGt, gGe, gNegU, gMax2, gMin2, gAbs, gIntC, gEq, gIsN, gAdd, gMul, dSl, dNoPart, dPart, wipeD, List.set, rNot, rChain, rOp, rVar, rC, rAnd, hLt, hLe, hGt, hGe, hEq, DL.rI, dSetF, dFld, dMeth, dMake, dMaxD, dJoin, dStarts, dIStr, dAnyS, dAnyZ, dIEnC, dLstRg2, dLcR, dCallR, dLam]
  exact ⟨trivial, fun p hp => bad_Ti (ns := [0]) hp (by decide) h⟩
theorem rl25 (h : slG c0 CE ds B q x) : tl25_lplain (sp_Ti CT CE) CT (ds.map some) B q x := by
  obtain ⟨_, h⟩ := h
  try dsimp only [tl25_lplain, dIfS, dOr, dAnd, dNot, dTest, dOp, dUn, dCB, dCons, dNil, dVar, dC, dSeq, dAsg, hName, dRet, dRetF, dRetN, dRaise, dNext, dDrop, dAppend, dCall, gI, gIC, gU, gMM, dChain, dAndV, dOrV, dNotV, dTup, dLst, dLstB, dNewK, dNewT, dPar, dAug, hTup, hCons, hEnd, hSub, dISeq, dIEn, dIR1, dIR2, dFor, dLc, dLcB, hPair, dYes, dBreak, dCont, dIf, dQuant, getS, setS, startD, DL.gSub, gDiv, gMod, gPow, gShl, gXor, gAddI, gLt, gLe, gGt, gGe, gNegU, gMax2, gMin2, gAbs, gIntC, gEq, gIsN, gAdd, gMul, dSl, dNoPart, dPart, wipeD, List.set, rNot, rChain, rOp, rVar, rC, rAnd, hLt, hLe, hGt, hGe, hEq, DL.rI, dSetF, dFld, dMeth, dMake, dMaxD, dJoin, dStarts, dIStr, dAnyS, dAnyZ, dIEnC, dLstRg2, dLcR, dCallR, dLam]
  exact ⟨trivial, fun p hp => bad_Ti (ns := []) hp (by decide) h⟩
/-! ### _law_told -/
def sp_ltold (cal : Heap → CalP) (C : Addr) (b : Heap) : SpD := fun ds B q x => ∃ φ sl, ds = [.obj φ] ∧ (∀ f F, φ f F → cal b sl f F) ∧ ∀ (q' : DK) (x' : XD), (∀ d B', q d B' → q' d B') → (∀ B', q (.str "RuleError") B' → x' C B') → sl B q' x'
theorem rd_ltold {yes : Addr → Option Bool} {cal : Heap → CalP} {b : Heap} (hy : yes CE = some true) {ds : List D} (h : sp_ltold cal CE b ds B q x) : t_ltold yes (cal b) (endsD q x) (startD N_ltold ds) B := by
  obtain ⟨φ, sl, rfl, h1, h2⟩ := h
  try dsimp only [t_ltold, dTry, dCallV, N_ltold, dIfS, dOr, dAnd, dNot, dTest, dOp, dUn, dCB, dCons, dNil, dVar, dC, dSeq, dAsg, hName, dRet, dRetF, dRetN, dRaise, dNext, dDrop, dAppend, dCall, gI, gIC, gU, gMM, dChain, dAndV, dOrV, dNotV, dTup, dLst, dLstB, dNewK, dNewT, dPar, dAug, hTup, hCons, hEnd, hSub, dISeq, dIEn, dIR1, dIR2, dFor, dLc, dLcB, hPair, dYes, dBreak, dCont, dIf, dQuant, getS, setS, startD, DL.gSub, gDiv, gMod, gPow, gShl, gXor, gAddI, gLt, gLe, gGt, gGe, gNegU, gMax2, gMin2, gAbs, gIntC, gEq, gIsN, gAdd, gMul, dSl, dNoPart, dPart, wipeD, List.set, rNot, rChain, rOp, rVar, rC, rAnd, hLt, hLe, hGt, hGe, hEq, DL.rI, dSetF, dFld, dMeth, dMake, dMaxD, dJoin, dStarts, dIStr, dAnyS, dAnyZ, dIEnC, dLstRg2, dLcR, dCallR, dLam]
  exact ⟨φ, sl, rfl, h1, h2 _ _ (fun d B' h => here h) fun B' h => ⟨true, hy, fun _ => here h, fun e => by cases e⟩⟩
end
end K02
set_option Elab.async false
set_option linter.all false
set_option maxRecDepth 100000
namespace K02
open PySem PySem.Spec PyProof.Rows L2 DL PL
theorem kay12 : valC (optC [7, 7]) 13 = [0, 1, 2, 3, 1, 4, 3, 2, 1, 4, 2, 6, 4] := by decide +kernel
theorem txt77 : ("0.77" : Str) = textC [7, 7] := by decide +kernel
end K02
set_option Elab.async false
set_option linter.all false
set_option pp.maxSteps 900
set_option maxRecDepth 100000
set_option maxHeartbeats 4000000
--MORE
namespace K02
open PySem PySem.Spec PyProof.Rows L2 DL PL
/-- the lambda lets the error out where one and kayles stand -/
def Bd (cal : Heap → CalP) (b : Heap) (CE : Addr) (B : Bx) (d : D) : Prop := ∃ φ sl, d = .obj φ ∧ (∀ f F, φ f F → cal b sl f F) ∧ ∀ (q' : DK) (x' : XD), x' CE B → sl B q' x'
section
variable {cal : Heap → CalP} {base b : Heap} {Zc : Heap → Str → D → Prop} {CT CC CE p1 p2 : Addr} {B : Bx}
theorem b0 (hb : Up base b) : Bd cal b CE B (.obj (LamP cal base Zc [] (slG c0 CE))) := ⟨_, slG c0 CE [], rfl, fun f F z => z b hb [] rfl (fun i x e => by simp at e), fun q' x' hx => ⟨trivial, hx⟩⟩
theorem b1 {nm : Str} {cond : List D → Bx → Prop} {p : Addr} (hb : Up base b) (hz : Zc b nm (.ref p)) (hc : cond [.ref p] B) : Bd cal b CE B (.obj (LamP cal base Zc [nm] (slG cond CE))) := ⟨_, slG cond CE [.ref p], rfl, fun f F z => z b hb [.ref p] rfl (fun i x e => by
  cases i with
  | zero => simp at e; subst e; exact ⟨_, rfl, hz⟩
  | succ i => simp at e), fun q' x' hx => ⟨hc, hx⟩⟩
end
theorem cw_of {CC CE p : Addr} {B : Bx} {q : DK} {x : XD} {figs vs : List Nat} {m : Nat} (hK : CoB CC p figs B) (hm : m ≤ 200) {n : Nat} (hn : n = m + 1) (hv : valC (optC figs) n = vs) (hq : q (.tup (iN vs)) B) : sp_Cw CC CE [.ref p, .int (m : Int)] B q x := ⟨p, figs, m, rfl, hK, fun _ _ => by rw [show ((m : Nat) : Int).toNat + 1 = m + 1 from rfl, ← hn, hv]; exact hq, fun no => absurd ⟨by omega, by omega⟩ no⟩
theorem tm_nil {CT CE p : Addr} {B : Bx} {q : DK} {x : XD} {nums : List Nat} (hT : TkB CT p nums B) (hq : q (.tup []) B) : sp_Tm CT CE [.ref p, .lst []] B q x := ⟨p, _, nums, [], rfl, hT, rfl, fun _ => hq, fun no => absurd no (by decide)⟩
theorem cr_nil {CC CE p : Addr} {B : Bx} {q : DK} {x : XD} {figs : List Nat} (hK : CoB CC p figs B) (hq : q .non B) : sp_Cr CC CE [.ref p, .lst []] B q x := ⟨p, _, figs, [], rfl, hK, rfl, fun _ => hq, fun no => absurd no (by decide)⟩
theorem mk_T {CT CE p : Addr} {B : Bx} {q : DK} {x : XD} {nums : List Nat} (hp : B p = none) (ok : okT (nums.map fun (n : Nat) => (n : Int)) = true) (hq : q .non (put B p (.ins CT [("numbers", .tup (iN nums))]))) : sp_Ti CT CE [.ref p, .lst (iN nums)] (put B p (.ins CT [])) q x :=
  ⟨p, _, nums.map fun (n : Nat) => (n : Int), rfl, put_same, by rw [← iN_iL]; rfl, fun ys e => (by cases e), fun _ => by rw [put_put]; rw [iN_iL] at hq; exact hq, fun no => (by rw [ok] at no; cases no)⟩
def sp_lplain (Pt : Addr) (nm : Str) : SpD := fun ds B q x => ds = [] ∧ B Pt = some (.tabQ nm) ∧ ∀ B', q (.bl true) B'
theorem rd_lplain {Pt : Addr} {nm : Str} {CT CC CE : Addr} {cal : Heap → CalP} {base : Heap} {Zc : Heap → Str → D → Prop} {ds : List D} {B : Bx} {q : DK} {x : XD} (h : sp_lplain Pt nm ds B q x) :
    t_lplain (sp_Tr CT CE) (sp_Ti CT CE) (sp_Cw CC CE) sp_mex (sp_Tm CT CE) (sp_Cr CC CE) (sp_ltold cal CE) (sp_cof CC CE) CT CC base Zc Pt nm (LamP cal base Zc [] (slG c0 CE)) (LamP cal base Zc [] (slG c0 CE)) (LamP cal base Zc [] (slG c0 CE)) (LamP cal base Zc [] (slG c0 CE)) (LamP cal base Zc ["kayles"] (slG (cK CC) CE)) (LamP cal base Zc ["kayles"] (slG (cK CC) CE)) (LamP cal base Zc ["kayles"] (slG (cK CC) CE)) (LamP cal base Zc ["kayles"] (slG (cK CC) CE)) (LamP cal base Zc ["kayles"] (slG (cK CC) CE)) (LamP cal base Zc ["kayles"] (slG (cK CC) CE)) (LamP cal base Zc ["kayles"] (slG (cK CC) CE)) (LamP cal base Zc [] (slG c0 CE)) (LamP cal base Zc [] (slG c0 CE)) (LamP cal base Zc [] (slG c0 CE)) (LamP cal base Zc [] (slG c0 CE)) (LamP cal base Zc [] (slG c0 CE)) (LamP cal base Zc ["one"] (slG (cT CT) CE)) (LamP cal base Zc ["one"] (slG (cT CT) CE)) (LamP cal base Zc ["one"] (slG (cT CT) CE)) (LamP cal base Zc ["one"] (slG (cT CT) CE)) (LamP cal base Zc [] (slG c0 CE)) (LamP cal base Zc [] (slG c0 CE)) (LamP cal base Zc [] (slG c0 CE)) (LamP cal base Zc [] (slG c0 CE)) (LamP cal base Zc [] (slG c0 CE)) (endsD q x) (startD N_lplain ds) B := by
  obtain ⟨rfl, hPt, h1⟩ := h
  dsimp only [t_lplain, dSeq, dAsg, dTup, dCons, dMake, dLst, dC, dNil, N_lplain, startD]
  refine ⟨trivial, fun p1 hp1 => ⟨p1, _, [1], rfl, put_same, rfl, fun ys e => (by cases e), fun _ => ⟨rfl, ?_⟩, fun no => absurd no (by decide)⟩⟩
  rw [put_put]
  dsimp only [dCall, dCons, dC, dNil]
  rw [txt77]
  refine .inl ⟨[7, 7], rfl, by decide, by decide, by decide, fun p2 hp2 => ?_⟩
  have n12 : p1 ≠ p2 := fun e => by rw [← e, put_same] at hp2; cases hp2
  have hT : TkB CT p1 [1] (put (put B p1 (insT CT [1])) p2 (.ins CC [("figures", .tup (iN [7, 7]))])) := ⟨by rw [put_ne n12]; exact put_same, by decide, by decide, by decide⟩
  have hK : CoB CC p2 [7, 7] (put (put B p1 (insT CT [1])) p2 (.ins CC [("figures", .tup (iN [7, 7]))])) := ⟨put_same, by decide, by decide⟩
  have hP : put (put B p1 (insT CT [1])) p2 (.ins CC [("figures", .tup (iN [7, 7]))]) Pt = some (.tabQ nm) := by
    have k1 : Pt ≠ p1 := ne_box hPt hp1
    have k2 : Pt ≠ p2 := fun e => by rw [← e, put_ne k1, hPt] at hp2; cases hp2
    rw [put_ne k2, put_ne k1]; exact hPt
  generalize put (put B p1 (insT CT [1])) p2 (.ins CC [("figures", .tup (iN [7, 7]))]) = B1 at hT hK hP
  try dsimp only [dIfS, dOr, dAnd, dNot, dTest, dOp, dUn, dCB, dCons, dNil, dVar, dC, dSeq, dAsg, hName, dRet, dRetF, dRetN, dRaise, dNext, dDrop, dAppend, dCall, gI, gIC, gU, gMM, dChain, dAndV, dOrV, dNotV, dTup, dLst, dLstB, dNewK, dNewT, dPar, dAug, hTup, hCons, hEnd, hSub, dISeq, dIEn, dIR1, dIR2, dFor, dLc, dLcB, hPair, dYes, dBreak, dCont, dIf, dQuant, getS, setS, startD, DL.gSub, gDiv, gMod, gPow, gShl, gXor, gAddI, gLt, gLe, gGt, gGe, gNegU, gMax2, gMin2, gAbs, gIntC, gEq, gIsN, gAdd, gMul, dSl, dNoPart, dPart, wipeD, List.set, rNot, rChain, rOp, rVar, rC, rAnd, hLt, hLe, hGt, hGe, hEq, DL.rI, dSetF, dFld, dMeth, dMake, dMaxD, dJoin, dStarts, dIStr, dAnyS, dAnyZ, dIEnC, dLstRg2, dLcR, dCallR, dLam]
  refine ⟨trivial, ?_⟩
  try dsimp only [dIfS, dOr, dAnd, dNot, dTest, dOp, dUn, dCB, dCons, dNil, dVar, dC, dSeq, dAsg, hName, dRet, dRetF, dRetN, dRaise, dNext, dDrop, dAppend, dCall, gI, gIC, gU, gMM, dChain, dAndV, dOrV, dNotV, dTup, dLst, dLstB, dNewK, dNewT, dPar, dAug, hTup, hCons, hEnd, hSub, dISeq, dIEn, dIR1, dIR2, dFor, dLc, dLcB, hPair, dYes, dBreak, dCont, dIf, dQuant, getS, setS, startD, DL.gSub, gDiv, gMod, gPow, gShl, gXor, gAddI, gLt, gLe, gGt, gGe, gNegU, gMax2, gMin2, gAbs, gIntC, gEq, gIsN, gAdd, gMul, dSl, dNoPart, dPart, wipeD, List.set, rNot, rChain, rOp, rVar, rC, rAnd, hLt, hLe, hGt, hGe, hEq, DL.rI, dSetF, dFld, dMeth, dMake, dMaxD, dJoin, dStarts, dIStr, dAnyS, dAnyZ, dIEnC, dLstRg2, dLcR, dCallR, dLam]
  refine ⟨hP, hP, hP, hP, hP, hP, hP, hP, hP, hP, hP, hP, hP, hP, hP, hP, hP, hP, hP, hP, hP, hP, hP, hP, hP,  trivial, ?_⟩
  refine ⟨_, rfl, trivial, fun b hb told => ?_⟩
  have z1 : Zc b "one" (.ref p1) := told (0, "one") (by simp) _ rfl rfl
  have z2 : Zc b "kayles" (.ref p2) := told (1, "kayles") (by simp) _ rfl rfl
  refine lc_by (fun r acc B' => B' = B1 ∧ acc = [] ∧ ∀ d ∈ r, Bd cal b CE B1 d) ⟨rfl, rfl, fun d hd => ?_⟩ (fun r acc B' h f e => by cases e) (fun acc B' h2 => ?_) (fun e r acc B' K h2 hk => ?_)
  · simp only [List.mem_cons, List.not_mem_nil, or_false] at hd
    rcases hd with rfl | rfl | rfl | rfl | rfl | rfl | rfl | rfl | rfl | rfl | rfl | rfl | rfl | rfl | rfl | rfl | rfl | rfl | rfl | rfl | rfl | rfl | rfl | rfl | rfl
    all_goals first
      | exact b0 hb
      | exact b1 hb z1 ⟨p1, rfl, hT⟩
      | exact b1 hb z2 ⟨p2, rfl, hK⟩
  · obtain ⟨rfl, rfl, _⟩ := h2
    try dsimp only [dIfS, dOr, dAnd, dNot, dTest, dOp, dUn, dCB, dCons, dNil, dVar, dC, dSeq, dAsg, hName, dRet, dRetF, dRetN, dRaise, dNext, dDrop, dAppend, dCall, gI, gIC, gU, gMM, dChain, dAndV, dOrV, dNotV, dTup, dLst, dLstB, dNewK, dNewT, dPar, dAug, hTup, hCons, hEnd, hSub, dISeq, dIEn, dIR1, dIR2, dFor, dLc, dLcB, hPair, dYes, dBreak, dCont, dIf, dQuant, getS, setS, startD, DL.gSub, gDiv, gMod, gPow, gShl, gXor, gAddI, gLt, gLe, gGt, gGe, gNegU, gMax2, gMin2, gAbs, gIntC, gEq, gIsN, gAdd, gMul, dSl, dNoPart, dPart, wipeD, List.set, rNot, rChain, rOp, rVar, rC, rAnd, hLt, hLe, hGt, hGe, hEq, DL.rI, dSetF, dFld, dMeth, dMake, dMaxD, dJoin, dStarts, dIStr, dAnyS, dAnyZ, dIEnC, dLstRg2, dLcR, dCallR, dLam]
    refine ⟨trivial, true, eq_self (n := 1) rfl, if_no rfl ?_⟩
    try dsimp only [dIfS, dOr, dAnd, dNot, dTest, dOp, dUn, dCB, dCons, dNil, dVar, dC, dSeq, dAsg, hName, dRet, dRetF, dRetN, dRaise, dNext, dDrop, dAppend, dCall, gI, gIC, gU, gMM, dChain, dAndV, dOrV, dNotV, dTup, dLst, dLstB, dNewK, dNewT, dPar, dAug, hTup, hCons, hEnd, hSub, dISeq, dIEn, dIR1, dIR2, dFor, dLc, dLcB, hPair, dYes, dBreak, dCont, dIf, dQuant, getS, setS, startD, DL.gSub, gDiv, gMod, gPow, gShl, gXor, gAddI, gLt, gLe, gGt, gGe, gNegU, gMax2, gMin2, gAbs, gIntC, gEq, gIsN, gAdd, gMul, dSl, dNoPart, dPart, wipeD, List.set, rNot, rChain, rOp, rVar, rC, rAnd, hLt, hLe, hGt, hGe, hEq, DL.rI, dSetF, dFld, dMeth, dMake, dMaxD, dJoin, dStarts, dIStr, dAnyS, dAnyZ, dIEnC, dLstRg2, dLcR, dCallR, dLam]
    rw [decide_eq_true rfl]
    refine if_no rfl ?_
    refine ⟨p1, _, rfl, hT.at_, by rfl, tr_of hT rep1 rfl ?_⟩
    try dsimp only [dIfS, dOr, dAnd, dNot, dTest, dOp, dUn, dCB, dCons, dNil, dVar, dC, dSeq, dAsg, hName, dRet, dRetF, dRetN, dRaise, dNext, dDrop, dAppend, dCall, gI, gIC, gU, gMM, dChain, dAndV, dOrV, dNotV, dTup, dLst, dLstB, dNewK, dNewT, dPar, dAug, hTup, hCons, hEnd, hSub, dISeq, dIEn, dIR1, dIR2, dFor, dLc, dLcB, hPair, dYes, dBreak, dCont, dIf, dQuant, getS, setS, startD, DL.gSub, gDiv, gMod, gPow, gShl, gXor, gAddI, gLt, gLe, gGt, gGe, gNegU, gMax2, gMin2, gAbs, gIntC, gEq, gIsN, gAdd, gMul, dSl, dNoPart, dPart, wipeD, List.set, rNot, rChain, rOp, rVar, rC, rAnd, hLt, hLe, hGt, hGe, hEq, DL.rI, dSetF, dFld, dMeth, dMake, dMaxD, dJoin, dStarts, dIStr, dAnyS, dAnyZ, dIEnC, dLstRg2, dLcR, dCallR, dLam]
    refine ⟨trivial, true, eq_self (n := 1) rfl, if_yes rfl ⟨trivial, fun p3 hp3 => mk_T (nums := [1, 2, 3]) hp3 (by decide) ⟨rfl, ?_⟩⟩⟩
    have hT4 : TkB CT p3 [1, 2, 3] (put B' p3 (.ins CT [("numbers", .tup (iN [1, 2, 3]))])) := ⟨put_same, by decide, by decide, by decide⟩
    have hK3 := hK.new (b := .ins CT [("numbers", .tup (iN [1, 2, 3]))]) hp3
    have hT3 := hT.new (b := .ins CT [("numbers", .tup (iN [1, 2, 3]))]) hp3
    generalize put B' p3 (.ins CT [("numbers", .tup (iN [1, 2, 3]))]) = B3 at hT4 hK3 hT3
    refine ⟨p3, _, rfl, hT4.at_, by rfl, tr_of hT4 rep3 rfl ?_⟩
    try dsimp only [dIfS, dOr, dAnd, dNot, dTest, dOp, dUn, dCB, dCons, dNil, dVar, dC, dSeq, dAsg, hName, dRet, dRetF, dRetN, dRaise, dNext, dDrop, dAppend, dCall, gI, gIC, gU, gMM, dChain, dAndV, dOrV, dNotV, dTup, dLst, dLstB, dNewK, dNewT, dPar, dAug, hTup, hCons, hEnd, hSub, dISeq, dIEn, dIR1, dIR2, dFor, dLc, dLcB, hPair, dYes, dBreak, dCont, dIf, dQuant, getS, setS, startD, DL.gSub, gDiv, gMod, gPow, gShl, gXor, gAddI, gLt, gLe, gGt, gGe, gNegU, gMax2, gMin2, gAbs, gIntC, gEq, gIsN, gAdd, gMul, dSl, dNoPart, dPart, wipeD, List.set, rNot, rChain, rOp, rVar, rC, rAnd, hLt, hLe, hGt, hGe, hEq, DL.rI, dSetF, dFld, dMeth, dMake, dMaxD, dJoin, dStarts, dIStr, dAnyS, dAnyZ, dIEnC, dLstRg2, dLcR, dCallR, dLam]
    refine ⟨trivial, true, eq_self (n := 1) rfl, if_yes rfl ⟨p2, _, rfl, hK3.at_, by rfl, cw_of hK3 (by decide) (by decide) kay12 ?_⟩⟩
    refine ⟨_, rfl, trivial, true, eq_self (n := 1) rfl, if_yes rfl ⟨trivial, _, [], rfl, rfl, ?_⟩⟩
    try dsimp only [dIfS, dOr, dAnd, dNot, dTest, dOp, dUn, dCB, dCons, dNil, dVar, dC, dSeq, dAsg, hName, dRet, dRetF, dRetN, dRaise, dNext, dDrop, dAppend, dCall, gI, gIC, gU, gMM, dChain, dAndV, dOrV, dNotV, dTup, dLst, dLstB, dNewK, dNewT, dPar, dAug, hTup, hCons, hEnd, hSub, dISeq, dIEn, dIR1, dIR2, dFor, dLc, dLcB, hPair, dYes, dBreak, dCont, dIf, dQuant, getS, setS, startD, DL.gSub, gDiv, gMod, gPow, gShl, gXor, gAddI, gLt, gLe, gGt, gGe, gNegU, gMax2, gMin2, gAbs, gIntC, gEq, gIsN, gAdd, gMul, dSl, dNoPart, dPart, wipeD, List.set, rNot, rChain, rOp, rVar, rC, rAnd, hLt, hLe, hGt, hGe, hEq, DL.rI, dSetF, dFld, dMeth, dMake, dMaxD, dJoin, dStarts, dIStr, dAnyS, dAnyZ, dIEnC, dLstRg2, dLcR, dCallR, dLam]
    refine if_yes (by decide) ⟨p1, _, rfl, hT3.at_, by rfl, trivial, tm_nil hT3 ?_⟩
    try dsimp only [dIfS, dOr, dAnd, dNot, dTest, dOp, dUn, dCB, dCons, dNil, dVar, dC, dSeq, dAsg, hName, dRet, dRetF, dRetN, dRaise, dNext, dDrop, dAppend, dCall, gI, gIC, gU, gMM, dChain, dAndV, dOrV, dNotV, dTup, dLst, dLstB, dNewK, dNewT, dPar, dAug, hTup, hCons, hEnd, hSub, dISeq, dIEn, dIR1, dIR2, dFor, dLc, dLcB, hPair, dYes, dBreak, dCont, dIf, dQuant, getS, setS, startD, DL.gSub, gDiv, gMod, gPow, gShl, gXor, gAddI, gLt, gLe, gGt, gGe, gNegU, gMax2, gMin2, gAbs, gIntC, gEq, gIsN, gAdd, gMul, dSl, dNoPart, dPart, wipeD, List.set, rNot, rChain, rOp, rVar, rC, rAnd, hLt, hLe, hGt, hGe, hEq, DL.rI, dSetF, dFld, dMeth, dMake, dMaxD, dJoin, dStarts, dIStr, dAnyS, dAnyZ, dIEnC, dLstRg2, dLcR, dCallR, dLam]
    refine ⟨trivial, true, eq_self (n := 1) rfl, if_yes rfl ⟨p2, _, rfl, hK3.at_, by rfl, trivial, cr_nil hK3 ?_⟩⟩
    try dsimp only [dIfS, dOr, dAnd, dNot, dTest, dOp, dUn, dCB, dCons, dNil, dVar, dC, dSeq, dAsg, hName, dRet, dRetF, dRetN, dRaise, dNext, dDrop, dAppend, dCall, gI, gIC, gU, gMM, dChain, dAndV, dOrV, dNotV, dTup, dLst, dLstB, dNewK, dNewT, dPar, dAug, hTup, hCons, hEnd, hSub, dISeq, dIEn, dIR1, dIR2, dFor, dLc, dLcB, hPair, dYes, dBreak, dCont, dIf, dQuant, getS, setS, startD, DL.gSub, gDiv, gMod, gPow, gShl, gXor, gAddI, gLt, gLe, gGt, gGe, gNegU, gMax2, gMin2, gAbs, gIntC, gEq, gIsN, gAdd, gMul, dSl, dNoPart, dPart, wipeD, List.set, rNot, rChain, rOp, rVar, rC, rAnd, hLt, hLe, hGt, hGe, hEq, DL.rI, dSetF, dFld, dMeth, dMake, dMaxD, dJoin, dStarts, dIStr, dAnyS, dAnyZ, dIEnC, dLstRg2, dLcR, dCallR, dLam]
    refine if_yes rfl ⟨trivial, fun p4 hp4 => mk_T (nums := [1, 3, 4]) hp4 (by decide) ⟨rfl, ?_⟩⟩
    have hT5 : TkB CT p4 [1, 3, 4] (put B3 p4 (.ins CT [("numbers", .tup (iN [1, 3, 4]))])) := ⟨put_same, by decide, by decide, by decide⟩
    refine ⟨p4, _, rfl, hT5.at_, by rfl, tr_of hT5 rep4 rfl ?_⟩
    try dsimp only [dIfS, dOr, dAnd, dNot, dTest, dOp, dUn, dCB, dCons, dNil, dVar, dC, dSeq, dAsg, hName, dRet, dRetF, dRetN, dRaise, dNext, dDrop, dAppend, dCall, gI, gIC, gU, gMM, dChain, dAndV, dOrV, dNotV, dTup, dLst, dLstB, dNewK, dNewT, dPar, dAug, hTup, hCons, hEnd, hSub, dISeq, dIEn, dIR1, dIR2, dFor, dLc, dLcB, hPair, dYes, dBreak, dCont, dIf, dQuant, getS, setS, startD, DL.gSub, gDiv, gMod, gPow, gShl, gXor, gAddI, gLt, gLe, gGt, gGe, gNegU, gMax2, gMin2, gAbs, gIntC, gEq, gIsN, gAdd, gMul, dSl, dNoPart, dPart, wipeD, List.set, rNot, rChain, rOp, rVar, rC, rAnd, hLt, hLe, hGt, hGe, hEq, DL.rI, dSetF, dFld, dMeth, dMake, dMaxD, dJoin, dStarts, dIStr, dAnyS, dAnyZ, dIEnC, dLstRg2, dLcR, dCallR, dLam]
    exact ⟨trivial, true, eq_self (n := 1) rfl, here (h1 _)⟩
  · obtain ⟨rfl, rfl, h3⟩ := h2
    obtain ⟨φ, sl, rfl, h4, h5⟩ := h3 e List.mem_cons_self
    try dsimp only [dIfS, dOr, dAnd, dNot, dTest, dOp, dUn, dCB, dCons, dNil, dVar, dC, dSeq, dAsg, hName, dRet, dRetF, dRetN, dRaise, dNext, dDrop, dAppend, dCall, gI, gIC, gU, gMM, dChain, dAndV, dOrV, dNotV, dTup, dLst, dLstB, dNewK, dNewT, dPar, dAug, hTup, hCons, hEnd, hSub, dISeq, dIEn, dIR1, dIR2, dFor, dLc, dLcB, hPair, dYes, dBreak, dCont, dIf, dQuant, getS, setS, startD, DL.gSub, gDiv, gMod, gPow, gShl, gXor, gAddI, gLt, gLe, gGt, gGe, gNegU, gMax2, gMin2, gAbs, gIntC, gEq, gIsN, gAdd, gMul, dSl, dNoPart, dPart, wipeD, List.set, rNot, rChain, rOp, rVar, rC, rAnd, hLt, hLe, hGt, hGe, hEq, DL.rI, dSetF, dFld, dMeth, dMake, dMaxD, dJoin, dStarts, dIStr, dAnyS, dAnyZ, dIEnC, dLstRg2, dLcR, dCallR, dLam]
    refine ⟨φ, sl, rfl, h4, fun q' x' _ hx => h5 q' x' (hx _ ?_)⟩
    try dsimp only [dIfS, dOr, dAnd, dNot, dTest, dOp, dUn, dCB, dCons, dNil, dVar, dC, dSeq, dAsg, hName, dRet, dRetF, dRetN, dRaise, dNext, dDrop, dAppend, dCall, gI, gIC, gU, gMM, dChain, dAndV, dOrV, dNotV, dTup, dLst, dLstB, dNewK, dNewT, dPar, dAug, hTup, hCons, hEnd, hSub, dISeq, dIEn, dIR1, dIR2, dFor, dLc, dLcB, hPair, dYes, dBreak, dCont, dIf, dQuant, getS, setS, startD, DL.gSub, gDiv, gMod, gPow, gShl, gXor, gAddI, gLt, gLe, gGt, gGe, gNegU, gMax2, gMin2, gAbs, gIntC, gEq, gIsN, gAdd, gMul, dSl, dNoPart, dPart, wipeD, List.set, rNot, rChain, rOp, rVar, rC, rAnd, hLt, hLe, hGt, hGe, hEq, DL.rI, dSetF, dFld, dMeth, dMake, dMaxD, dJoin, dStarts, dIStr, dAnyS, dAnyZ, dIEnC, dLstRg2, dLcR, dCallR, dLam]
    rw [decide_eq_true rfl]
    exact if_no rfl (hk _ _ ⟨rfl, rfl, fun d hd => h3 d (List.mem_cons_of_mem _ hd)⟩)
end K02
set_option Elab.async false
set_option linter.all false
set_option pp.maxSteps 900
set_option maxRecDepth 100000
set_option maxHeartbeats 4000000
--NS 25
--MORE
namespace K02
open PySem PySem.Spec PyProof.Rows L2 DL PL
structure FigsOk (figs : List Nat) : Prop where
  lt : ∀ m ∈ figs, m < 8
  len : figs.length ≤ 3
  ok : okC (figs.map fun (n : Nat) => (n : Int)) = true
theorem seq_cast (B : Bx) (ns : List Nat) : seqOf B (.lst (iN ns)) = some (iL (ns.map fun (n : Nat) => (n : Int))) := by rw [← iN_iL]; rfl
theorem pl_prs (l : List (Nat × Nat)) : plD 2 (.lst (prs l)) = true := by
  show (prs l).all (plD 1) = true
  rw [List.all_eq_true]
  intro d hd
  obtain ⟨p, _, rfl⟩ := List.mem_map.mp hd
  rfl
theorem pl_rep (r : Option (Nat × Nat)) : plD 1 (repD r) = true := by cases r <;> rfl
theorem pl_row (r : List Nat) : plD 1 (.tup (iN r)) = true := by
  show (iN r).all (plD 0) = true
  rw [iN_iL]
  exact plD_ints 0 _
theorem pl_rows (l : List (List Nat)) : plD 2 (.lst (rowsD l)) = true := by
  show (rowsD l).all (plD 1) = true
  rw [List.all_eq_true]
  intro d hd
  obtain ⟨r, _, rfl⟩ := List.mem_map.mp hd
  exact pl_row r
theorem last_at {ns : List Nat} (h : ns ≠ []) : ns.getD (ns.length - 1) 0 = ns.getLastD 0 := by
  have hp : 0 < ns.length := List.length_pos_iff.mpr h
  rw [List.getD_eq_getElem?_getD, List.getElem?_eq_getElem (by omega), List.getLastD_eq_getLast?, List.getLast?_eq_getElem?, List.getElem?_eq_getElem (by omega)]
section
variable {z0 z1 z2 z3 z4 z5 z6 z7 z8 z9 z10 z11 z12 z13 z14 z15 z16 z17 z18 z19 z20 z21 z22 z23 z24 : Option D}
variable {a Pt : Addr} {B : Bx} {E : DEnds} {nm : Str} {CT CC CE pT pC pS : Addr} {nums figs : List Nat}
theorem s6 {hs : List Nat} (hT : TkB CT pT nums B) (hin : InK hs) (h6 : z6 = some (.lst (prs (movG (cL nums hs) nums 0 hs))))
    (h : E.nx [z0, some (.ref a), some (.lst (iN nums)), some (.ref pT), z4, some (.lst (iN hs)), z6, z7, z8, z9, z10, z11, z12, z13, z14, z15, z16, z17, z18, z19, z20, z21, z22, z23, z24] B) :
    S6_law (sp_Tm CT CE) (sp_call CE) CT E [z0, some (.ref a), some (.lst (iN nums)), some (.ref pT), z4, some (.lst (iN hs)), z6, z7, z8, z9, z10, z11, z12, z13, z14, z15, z16, z17, z18, z19, z20, z21, z22, z23, z24] B := by
  subst h6
  have ok : okA 600 (hs.map fun (n : Nat) => (n : Int)) = true := by
    unfold okA
    rw [Bool.and_eq_true, List.all_eq_true]
    refine ⟨decide_eq_true (by rw [List.length_map]; have := hin.len; omega), fun n hn => ?_⟩
    obtain ⟨k, hk, rfl⟩ := List.mem_map.mp hn
    have := hin.lt k hk
    simp; omega
  try dsimp only [S6_law, dIfS, dOr, dAnd, dNot, dTest, dOp, dUn, dCB, dCons, dNil, dVar, dC, dSeq, dAsg, hName, dRet, dRetF, dRetN, dRaise, dNext, dDrop, dAppend, dCall, gI, gIC, gU, gMM, dChain, dAndV, dOrV, dNotV, dTup, dLst, dLstB, dNewK, dNewT, dPar, dAug, hTup, hCons, hEnd, hSub, dISeq, dIEn, dIR1, dIR2, dFor, dLc, dLcB, hPair, dYes, dBreak, dCont, dIf, dQuant, getS, setS, startD, DL.gSub, gDiv, gMod, gPow, gShl, gXor, gAddI, gLt, gLe, gGt, gGe, gNegU, gMax2, gMin2, gAbs, gIntC, gEq, gIsN, gAdd, gMul, dSl, dNoPart, dPart, wipeD, List.set, rNot, rChain, rOp, rVar, rC, rAnd, hLt, hLe, hGt, hGe, hEq, DL.rI, dSetF, dFld, dMeth, dMake, dMaxD, dJoin, dStarts, dIStr, dAnyS, dAnyZ, dIEnC, dLstRg2, dLcR, dCallR, dLam]
  refine ⟨pT, _, rfl, hT.at_, by rfl, pT, _, nums, hs.map fun (n : Nat) => (n : Int), rfl, hT, seq_cast _ _, fun _ => ?_, fun no => by rw [ok] at no; cases no⟩
  rw [toN_cast, mov_eq]
  refine ⟨_, rfl, true, eq_self (pl_prs _), if_no rfl ⟨_, hs.map fun (n : Nat) => (n : Int), rfl, seq_cast _ _, fun _ => ?_, fun no => by rw [ok] at no; cases no⟩⟩
  try dsimp only [gIsN, dIfS, dOr, dAnd, dNot, dTest, dOp, dUn, dCB, dCons, dNil, dVar, dC, dSeq, dAsg, hName, dRet, dRetF, dRetN, dRaise, dNext, dDrop, dAppend, dCall, gI, gIC, gU, gMM, dChain, dAndV, dOrV, dNotV, dTup, dLst, dLstB, dNewK, dNewT, dPar, dAug, hTup, hCons, hEnd, hSub, dISeq, dIEn, dIR1, dIR2, dFor, dLc, dLcB, hPair, dYes, dBreak, dCont, dIf, dQuant, getS, setS, startD, DL.gSub, gDiv, gMod, gPow, gShl, gXor, gAddI, gLt, gLe, gGt, gGe, gNegU, gMax2, gMin2, gAbs, gIntC, gEq, gIsN, gAdd, gMul, dSl, dNoPart, dPart, wipeD, List.set, rNot, rChain, rOp, rVar, rC, rAnd, hLt, hLe, hGt, hGe, hEq, DL.rI, dSetF, dFld, dMeth, dMake, dMaxD, dJoin, dStarts, dIStr, dAnyS, dAnyZ, dIEnC, dLstRg2, dLcR, dCallR, dLam]
  exact if_no rfl h
theorem s7 (hT : TkB CT pT nums B) (h : E.nx [z0, some (.ref a), some (.lst (iN nums)), some (.ref pT), z4, z5, z6, z7, z8, z9, some (.lst (iN (valT nums 601))), some .non, z12, z13, z14, z15, z16, z17, z18, z19, z20, z21, z22, z23, z24] B) :
    S7_law sp_lval E [z0, some (.ref a), some (.lst (iN nums)), some (.ref pT), z4, z5, z6, z7, z8, z9, z10, z11, z12, z13, z14, z15, z16, z17, z18, z19, z20, z21, z22, z23, z24] B := by
  try dsimp only [S7_law, dIfS, dOr, dAnd, dNot, dTest, dOp, dUn, dCB, dCons, dNil, dVar, dC, dSeq, dAsg, hName, dRet, dRetF, dRetN, dRaise, dNext, dDrop, dAppend, dCall, gI, gIC, gU, gMM, dChain, dAndV, dOrV, dNotV, dTup, dLst, dLstB, dNewK, dNewT, dPar, dAug, hTup, hCons, hEnd, hSub, dISeq, dIEn, dIR1, dIR2, dFor, dLc, dLcB, hPair, dYes, dBreak, dCont, dIf, dQuant, getS, setS, startD, DL.gSub, gDiv, gMod, gPow, gShl, gXor, gAddI, gLt, gLe, gGt, gGe, gNegU, gMax2, gMin2, gAbs, gIntC, gEq, gIsN, gAdd, gMul, dSl, dNoPart, dPart, wipeD, List.set, rNot, rChain, rOp, rVar, rC, rAnd, hLt, hLe, hGt, hGe, hEq, DL.rI, dSetF, dFld, dMeth, dMake, dMaxD, dJoin, dStarts, dIStr, dAnyS, dAnyZ, dIEnC, dLstRg2, dLcR, dCallR, dLam]
  refine ⟨nums, 600, rfl, hT.pos, hT.len, by decide, ?_⟩
  try dsimp only [dIfS, dOr, dAnd, dNot, dTest, dOp, dUn, dCB, dCons, dNil, dVar, dC, dSeq, dAsg, hName, dRet, dRetF, dRetN, dRaise, dNext, dDrop, dAppend, dCall, gI, gIC, gU, gMM, dChain, dAndV, dOrV, dNotV, dTup, dLst, dLstB, dNewK, dNewT, dPar, dAug, hTup, hCons, hEnd, hSub, dISeq, dIEn, dIR1, dIR2, dFor, dLc, dLcB, hPair, dYes, dBreak, dCont, dIf, dQuant, getS, setS, startD, DL.gSub, gDiv, gMod, gPow, gShl, gXor, gAddI, gLt, gLe, gGt, gGe, gNegU, gMax2, gMin2, gAbs, gIntC, gEq, gIsN, gAdd, gMul, dSl, dNoPart, dPart, wipeD, List.set, rNot, rChain, rOp, rVar, rC, rAnd, hLt, hLe, hGt, hGe, hEq, DL.rI, dSetF, dFld, dMeth, dMake, dMaxD, dJoin, dStarts, dIStr, dAnyS, dAnyZ, dIEnC, dLstRg2, dLcR, dCallR, dLam]
  exact h
theorem s11 (hT : TkB CT pT nums B) (h : ∀ z12 z13, E.nx [z0, some (.ref a), some (.lst (iN nums)), some (.ref pT), z4, z5, z6, z7, z8, z9, some (.lst (iN (valT nums 601))), some (repD (repT nums)), z12, z13, z14, z15, z16, z17, z18, z19, z20, z21, z22, z23, z24] B) :
    S11_law E [z0, some (.ref a), some (.lst (iN nums)), some (.ref pT), z4, z5, z6, z7, z8, z9, some (.lst (iN (valT nums 601))), some .non, z12, z13, z14, z15, z16, z17, z18, z19, z20, z21, z22, z23, z24] B := by
  obtain ⟨vs, hvs⟩ : ∃ vs, vs = valT nums 601 := ⟨_, rfl⟩
  obtain ⟨rch, hr⟩ : ∃ rch, rch = nums.getLastD 0 := ⟨_, rfl⟩
  have hl : vs.length = 601 := by rw [hvs, valT_len]
  have hrep : repG vs rch 1 199 = repT nums := by rw [hvs, hr]; rfl
  generalize repT nums = RR at hrep h
  rw [← hvs] at h ⊢
  have hnl := List.length_pos_iff.mpr hT.ne
  have hle := hT.len
  try dsimp only [S11_law, dIfS, dOr, dAnd, dNot, dTest, dOp, dUn, dCB, dCons, dNil, dVar, dC, dSeq, dAsg, hName, dRet, dRetF, dRetN, dRaise, dNext, dDrop, dAppend, dCall, gI, gIC, gU, gMM, dChain, dAndV, dOrV, dNotV, dTup, dLst, dLstB, dNewK, dNewT, dPar, dAug, hTup, hCons, hEnd, hSub, dISeq, dIEn, dIR1, dIR2, dFor, dLc, dLcB, hPair, dYes, dBreak, dCont, dIf, dQuant, getS, setS, startD, DL.gSub, gDiv, gMod, gPow, gShl, gXor, gAddI, gLt, gLe, gGt, gGe, gNegU, gMax2, gMin2, gAbs, gIntC, gEq, gIsN, gAdd, gMul, dSl, dNoPart, dPart, wipeD, List.set, rNot, rChain, rOp, rVar, rC, rAnd, hLt, hLe, hGt, hGe, hEq, DL.rI, dSetF, dFld, dMeth, dMake, dMaxD, dJoin, dStarts, dIStr, dAnyS, dAnyZ, dIEnC, dLstRg2, dLcR, dCallR, dLam]
  refine ⟨by omega, ?_⟩
  refine for_by (fun r Γ B' => B' = B ∧ ∃ (many n : Nat) (due : Option (Nat × Nat)) (z12 z13 : Option D), r = upto (many : Int) n ∧ Γ = [z0, some (.ref a), some (.lst (iN nums)), some (.ref pT), z4, z5, z6, z7, z8, z9, some (.lst (iN vs)), some (repD due), z12, z13, z14, z15, z16, z17, z18, z19, z20, z21, z22, z23, z24] ∧ many + n = 200 ∧ 1 ≤ many ∧
      ((due = none ∧ repG vs rch many n = RR) ∨ ∃ p, due = some p ∧ RR = some p))
    ⟨rfl, 1, 199, none, z12, z13, rfl, rfl, rfl, by decide, .inl ⟨rfl, hrep⟩⟩ (fun r Γ B' h f e => by cases e) (fun Γ B' h2 => ?_) (fun e r Γ B' K h2 hk => ?_)
  · obtain ⟨rfl, many, n, due, z12, z13, h3, rfl, h4, h5, h6⟩ := h2
    cases n with
    | succ n => cases h3
    | zero =>
      have e : due = RR := by
        rcases h6 with ⟨e1, e2⟩ | ⟨p, e1, e2⟩
        · rw [e1, ← e2]; rfl
        · rw [e1, e2]
      subst e
      exact h z12 z13
  · obtain ⟨rfl, many, n, due, z12, z13, h3, rfl, h4, h5, h6⟩ := h2
    cases n with
    | zero => cases h3
    | succ n =>
      cases h3
      try dsimp only [B2_law, S8_law, S9_law, S10_law, dIfS, dOr, dAnd, dNot, dTest, dOp, dUn, dCB, dCons, dNil, dVar, dC, dSeq, dAsg, hName, dRet, dRetF, dRetN, dRaise, dNext, dDrop, dAppend, dCall, gI, gIC, gU, gMM, dChain, dAndV, dOrV, dNotV, dTup, dLst, dLstB, dNewK, dNewT, dPar, dAug, hTup, hCons, hEnd, hSub, dISeq, dIEn, dIR1, dIR2, dFor, dLc, dLcB, hPair, dYes, dBreak, dCont, dIf, dQuant, getS, setS, startD, DL.gSub, gDiv, gMod, gPow, gShl, gXor, gAddI, gLt, gLe, gGt, gGe, gNegU, gMax2, gMin2, gAbs, gIntC, gEq, gIsN, gAdd, gMul, dSl, dNoPart, dPart, wipeD, List.set, rNot, rChain, rOp, rVar, rC, rAnd, hLt, hLe, hGt, hGe, hEq, DL.rI, dSetF, dFld, dMeth, dMake, dMaxD, dJoin, dStarts, dIStr, dAnyS, dAnyZ, dIEnC, dLstRg2, dLcR, dCallR, dLam]
      rcases h6 with ⟨rfl, h6⟩ | ⟨p, rfl, h6⟩
      · try dsimp only [repD, gIsN, dIfS, dOr, dAnd, dNot, dTest, dOp, dUn, dCB, dCons, dNil, dVar, dC, dSeq, dAsg, hName, dRet, dRetF, dRetN, dRaise, dNext, dDrop, dAppend, dCall, gI, gIC, gU, gMM, dChain, dAndV, dOrV, dNotV, dTup, dLst, dLstB, dNewK, dNewT, dPar, dAug, hTup, hCons, hEnd, hSub, dISeq, dIEn, dIR1, dIR2, dFor, dLc, dLcB, hPair, dYes, dBreak, dCont, dIf, dQuant, getS, setS, startD, DL.gSub, gDiv, gMod, gPow, gShl, gXor, gAddI, gLt, gLe, gGt, gGe, gNegU, gMax2, gMin2, gAbs, gIntC, gEq, gIsN, gAdd, gMul, dSl, dNoPart, dPart, wipeD, List.set, rNot, rChain, rOp, rVar, rC, rAnd, hLt, hLe, hGt, hGe, hEq, DL.rI, dSetF, dFld, dMeth, dMake, dMaxD, dJoin, dStarts, dIStr, dAnyS, dAnyZ, dIEnC, dLstRg2, dLcR, dCallR, dLam]
        refine if_yes rfl ?_
        obtain ⟨bk, hbk⟩ : ∃ bk, bk = back vs many (601 - many) := ⟨_, rfl⟩
        have fin : ∀ (f : Nat), f = bk → ∀ (due : Option (Nat × Nat)), due = (if f + many + rch ≤ 600 then some (f, many) else none) → K [z0, some (.ref a), some (.lst (iN nums)), some (.ref pT), z4, z5, z6, z7, z8, z9, some (.lst (iN vs)), some (repD due), some (.int (many : Int)), some (.int (f : Int)), z14, z15, z16, z17, z18, z19, z20, z21, z22, z23, z24] B' := fun f hf due hd => by
          unfold repG at h6
          rw [← hbk, ← hf] at h6
          by_cases c : f + many + rch ≤ 600
          · rw [if_pos c] at h6 hd
            exact hk _ _ ⟨rfl, many + 1, n, due, _, _, rfl, rfl, by omega, by omega, .inr ⟨(f, many), hd, h6.symm⟩⟩
          · rw [if_neg c] at h6 hd
            exact hk _ _ ⟨rfl, many + 1, n, due, _, _, rfl, rfl, by omega, by omega, .inl ⟨hd, h6⟩⟩
        refine ⟨fun m Γ B2 => B2 = B' ∧ Γ = [z0, some (.ref a), some (.lst (iN nums)), some (.ref pT), z4, z5, z6, z7, z8, z9, some (.lst (iN vs)), some .non, some (.int (many : Int)), some (.int (m : Int)), z14, z15, z16, z17, z18, z19, z20, z21, z22, z23, z24] ∧ m + many ≤ 601 ∧ back vs many m = bk, ⟨601 - many, rfl, ?_, by omega, hbk.symm⟩, fun m Γ B2 h => ?_⟩
        · rw [show (601 : Int) - (many : Int) = ((601 - many : Nat) : Int) by omega]
        · obtain ⟨rfl, rfl, h7, h8⟩ := h
          try dsimp only [dIfS, dOr, dAnd, dNot, dTest, dOp, dUn, dCB, dCons, dNil, dVar, dC, dSeq, dAsg, hName, dRet, dRetF, dRetN, dRaise, dNext, dDrop, dAppend, dCall, gI, gIC, gU, gMM, dChain, dAndV, dOrV, dNotV, dTup, dLst, dLstB, dNewK, dNewT, dPar, dAug, hTup, hCons, hEnd, hSub, dISeq, dIEn, dIR1, dIR2, dFor, dLc, dLcB, hPair, dYes, dBreak, dCont, dIf, dQuant, getS, setS, startD, DL.gSub, gDiv, gMod, gPow, gShl, gXor, gAddI, gLt, gLe, gGt, gGe, gNegU, gMax2, gMin2, gAbs, gIntC, gEq, gIsN, gAdd, gMul, dSl, dNoPart, dPart, wipeD, List.set, rNot, rChain, rOp, rVar, rC, rAnd, hLt, hLe, hGt, hGe, hEq, DL.rI, dSetF, dFld, dMeth, dMake, dMaxD, dJoin, dStarts, dIStr, dAnyS, dAnyZ, dIEnC, dLstRg2, dLcR, dCallR, dLam]
          refine ite_dec (fun c => ?_) (fun c => ?_)
          · obtain ⟨m, rfl⟩ : ∃ k, m = k + 1 := ⟨m - 1, by omega⟩
            rw [show ((m + 1 : Nat) : Int) - 1 = (m : Int) by omega]
            refine gIx_N rfl (by omega) ?_
            rw [show (m : Int) + (many : Int) = ((m + many : Nat) : Int) by omega]
            refine gIx_N rfl (by omega) ?_
            try dsimp only [dIfS, dOr, dAnd, dNot, dTest, dOp, dUn, dCB, dCons, dNil, dVar, dC, dSeq, dAsg, hName, dRet, dRetF, dRetN, dRaise, dNext, dDrop, dAppend, dCall, gI, gIC, gU, gMM, dChain, dAndV, dOrV, dNotV, dTup, dLst, dLstB, dNewK, dNewT, dPar, dAug, hTup, hCons, hEnd, hSub, dISeq, dIEn, dIR1, dIR2, dFor, dLc, dLcB, hPair, dYes, dBreak, dCont, dIf, dQuant, getS, setS, startD, DL.gSub, gDiv, gMod, gPow, gShl, gXor, gAddI, gLt, gLe, gGt, gGe, gNegU, gMax2, gMin2, gAbs, gIntC, gEq, gIsN, gAdd, gMul, dSl, dNoPart, dPart, wipeD, List.set, rNot, rChain, rOp, rVar, rC, rAnd, hLt, hLe, hGt, hGe, hEq, DL.rI, dSetF, dFld, dMeth, dMake, dMaxD, dJoin, dStarts, dIStr, dAnyS, dAnyZ, dIEnC, dLstRg2, dLcR, dCallR, dLam]
            rw [Bool.false_xor]
            unfold back at h8
            refine ite_dec (fun c2 => ?_) (fun c2 => ?_)
            · rw [if_pos (by omega)] at h8
              exact ⟨m, by omega, rfl, rfl, by omega, h8⟩
            · rw [if_neg (by omega)] at h8
              refine gLen_seq rfl ?_
              try dsimp only [dIfS, dOr, dAnd, dNot, dTest, dOp, dUn, dCB, dCons, dNil, dVar, dC, dSeq, dAsg, hName, dRet, dRetF, dRetN, dRaise, dNext, dDrop, dAppend, dCall, gI, gIC, gU, gMM, dChain, dAndV, dOrV, dNotV, dTup, dLst, dLstB, dNewK, dNewT, dPar, dAug, hTup, hCons, hEnd, hSub, dISeq, dIEn, dIR1, dIR2, dFor, dLc, dLcB, hPair, dYes, dBreak, dCont, dIf, dQuant, getS, setS, startD, DL.gSub, gDiv, gMod, gPow, gShl, gXor, gAddI, gLt, gLe, gGt, gGe, gNegU, gMax2, gMin2, gAbs, gIntC, gEq, gIsN, gAdd, gMul, dSl, dNoPart, dPart, wipeD, List.set, rNot, rChain, rOp, rVar, rC, rAnd, hLt, hLe, hGt, hGe, hEq, DL.rI, dSetF, dFld, dMeth, dMake, dMaxD, dJoin, dStarts, dIStr, dAnyS, dAnyZ, dIEnC, dLstRg2, dLcR, dCallR, dLam]
              rw [iN_len, show (nums.length : Int) - 1 = ((nums.length - 1 : Nat) : Int) by omega]
              refine gIx_N rfl (by omega) ?_
              rw [last_at hT.ne, ← hr]
              try dsimp only [dIfS, dOr, dAnd, dNot, dTest, dOp, dUn, dCB, dCons, dNil, dVar, dC, dSeq, dAsg, hName, dRet, dRetF, dRetN, dRaise, dNext, dDrop, dAppend, dCall, gI, gIC, gU, gMM, dChain, dAndV, dOrV, dNotV, dTup, dLst, dLstB, dNewK, dNewT, dPar, dAug, hTup, hCons, hEnd, hSub, dISeq, dIEn, dIR1, dIR2, dFor, dLc, dLcB, hPair, dYes, dBreak, dCont, dIf, dQuant, getS, setS, startD, DL.gSub, gDiv, gMod, gPow, gShl, gXor, gAddI, gLt, gLe, gGt, gGe, gNegU, gMax2, gMin2, gAbs, gIntC, gEq, gIsN, gAdd, gMul, dSl, dNoPart, dPart, wipeD, List.set, rNot, rChain, rOp, rVar, rC, rAnd, hLt, hLe, hGt, hGe, hEq, DL.rI, dSetF, dFld, dMeth, dMake, dMaxD, dJoin, dStarts, dIStr, dAnyS, dAnyZ, dIEnC, dLstRg2, dLcR, dCallR, dLam]
              refine ite_dec (fun c => ⟨trivial, ?_⟩) (fun c => ?_)
              · exact fin (m + 1) h8 (some (m + 1, many)) (by rw [if_pos (by omega)])
              · exact fin (m + 1) h8 none (by rw [if_neg (by omega)])
          · have : m = 0 := by omega
            subst this
            refine if_no rfl ?_
            refine gLen_seq rfl ?_
            try dsimp only [dIfS, dOr, dAnd, dNot, dTest, dOp, dUn, dCB, dCons, dNil, dVar, dC, dSeq, dAsg, hName, dRet, dRetF, dRetN, dRaise, dNext, dDrop, dAppend, dCall, gI, gIC, gU, gMM, dChain, dAndV, dOrV, dNotV, dTup, dLst, dLstB, dNewK, dNewT, dPar, dAug, hTup, hCons, hEnd, hSub, dISeq, dIEn, dIR1, dIR2, dFor, dLc, dLcB, hPair, dYes, dBreak, dCont, dIf, dQuant, getS, setS, startD, DL.gSub, gDiv, gMod, gPow, gShl, gXor, gAddI, gLt, gLe, gGt, gGe, gNegU, gMax2, gMin2, gAbs, gIntC, gEq, gIsN, gAdd, gMul, dSl, dNoPart, dPart, wipeD, List.set, rNot, rChain, rOp, rVar, rC, rAnd, hLt, hLe, hGt, hGe, hEq, DL.rI, dSetF, dFld, dMeth, dMake, dMaxD, dJoin, dStarts, dIStr, dAnyS, dAnyZ, dIEnC, dLstRg2, dLcR, dCallR, dLam]
            rw [iN_len, show (nums.length : Int) - 1 = ((nums.length - 1 : Nat) : Int) by omega]
            refine gIx_N rfl (by omega) ?_
            rw [last_at hT.ne, ← hr]
            try dsimp only [dIfS, dOr, dAnd, dNot, dTest, dOp, dUn, dCB, dCons, dNil, dVar, dC, dSeq, dAsg, hName, dRet, dRetF, dRetN, dRaise, dNext, dDrop, dAppend, dCall, gI, gIC, gU, gMM, dChain, dAndV, dOrV, dNotV, dTup, dLst, dLstB, dNewK, dNewT, dPar, dAug, hTup, hCons, hEnd, hSub, dISeq, dIEn, dIR1, dIR2, dFor, dLc, dLcB, hPair, dYes, dBreak, dCont, dIf, dQuant, getS, setS, startD, DL.gSub, gDiv, gMod, gPow, gShl, gXor, gAddI, gLt, gLe, gGt, gGe, gNegU, gMax2, gMin2, gAbs, gIntC, gEq, gIsN, gAdd, gMul, dSl, dNoPart, dPart, wipeD, List.set, rNot, rChain, rOp, rVar, rC, rAnd, hLt, hLe, hGt, hGe, hEq, DL.rI, dSetF, dFld, dMeth, dMake, dMaxD, dJoin, dStarts, dIStr, dAnyS, dAnyZ, dIEnC, dLstRg2, dLcR, dCallR, dLam]
            refine ite_dec (fun c => ⟨trivial, ?_⟩) (fun c => ?_)
            · exact fin 0 h8 (some (0, many)) (by rw [if_pos (by omega)])
            · exact fin 0 h8 none (by rw [if_neg (by omega)])
      · try dsimp only [repD, gIsN, dIfS, dOr, dAnd, dNot, dTest, dOp, dUn, dCB, dCons, dNil, dVar, dC, dSeq, dAsg, hName, dRet, dRetF, dRetN, dRaise, dNext, dDrop, dAppend, dCall, gI, gIC, gU, gMM, dChain, dAndV, dOrV, dNotV, dTup, dLst, dLstB, dNewK, dNewT, dPar, dAug, hTup, hCons, hEnd, hSub, dISeq, dIEn, dIR1, dIR2, dFor, dLc, dLcB, hPair, dYes, dBreak, dCont, dIf, dQuant, getS, setS, startD, DL.gSub, gDiv, gMod, gPow, gShl, gXor, gAddI, gLt, gLe, gGt, gGe, gNegU, gMax2, gMin2, gAbs, gIntC, gEq, gIsN, gAdd, gMul, dSl, dNoPart, dPart, wipeD, List.set, rNot, rChain, rOp, rVar, rC, rAnd, hLt, hLe, hGt, hGe, hEq, DL.rI, dSetF, dFld, dMeth, dMake, dMaxD, dJoin, dStarts, dIStr, dAnyS, dAnyZ, dIEnC, dLstRg2, dLcR, dCallR, dLam]
        exact if_no rfl (hk _ _ ⟨rfl, many + 1, n, some p, _, _, rfl, rfl, by omega, by omega, .inr ⟨p, rfl, h6⟩⟩)
end
end K02
set_option Elab.async false
set_option linter.all false
set_option pp.maxSteps 900
set_option maxRecDepth 100000
set_option maxHeartbeats 4000000
--NS 25
--MORE
namespace K02
open PySem PySem.Spec PyProof.Rows L2 DL PL
section
variable {z0 z1 z2 z3 z4 z5 z6 z7 z8 z9 z10 z11 z12 z13 z14 z15 z16 z17 z18 z19 z20 z21 z22 z23 z24 : Option D}
variable {a Pt : Addr} {B : Bx} {E : DEnds} {nm : Str} {CT CC CE pT pC pS : Addr} {nums figs : List Nat}
theorem s12 {r : Option (Nat × Nat)} (hr : repT nums = r) (hT : TkB CT pT nums B) (h11 : z11 = some (repD r)) (h : E.nx [z0, some (.ref a), z2, some (.ref pT), z4, z5, z6, z7, z8, z9, z10, z11, z12, z13, z14, z15, z16, z17, z18, z19, z20, z21, z22, z23, z24] B) : S12_law (sp_Tr CT CE) CT E [z0, some (.ref a), z2, some (.ref pT), z4, z5, z6, z7, z8, z9, z10, z11, z12, z13, z14, z15, z16, z17, z18, z19, z20, z21, z22, z23, z24] B := by
  subst h11
  try dsimp only [S12_law, dIfS, dOr, dAnd, dNot, dTest, dOp, dUn, dCB, dCons, dNil, dVar, dC, dSeq, dAsg, hName, dRet, dRetF, dRetN, dRaise, dNext, dDrop, dAppend, dCall, gI, gIC, gU, gMM, dChain, dAndV, dOrV, dNotV, dTup, dLst, dLstB, dNewK, dNewT, dPar, dAug, hTup, hCons, hEnd, hSub, dISeq, dIEn, dIR1, dIR2, dFor, dLc, dLcB, hPair, dYes, dBreak, dCont, dIf, dQuant, getS, setS, startD, DL.gSub, gDiv, gMod, gPow, gShl, gXor, gAddI, gLt, gLe, gGt, gGe, gNegU, gMax2, gMin2, gAbs, gIntC, gEq, gIsN, gAdd, gMul, dSl, dNoPart, dPart, wipeD, List.set, rNot, rChain, rOp, rVar, rC, rAnd, hLt, hLe, hGt, hGe, hEq, DL.rI, dSetF, dFld, dMeth, dMake, dMaxD, dJoin, dStarts, dIStr, dAnyS, dAnyZ, dIEnC, dLstRg2, dLcR, dCallR, dLam]
  have hp := pl_rep r
  refine ⟨pT, _, rfl, hT.at_, by rfl, tr_of hT hr rfl ?_⟩
  cases r with
  | none => exact ⟨true, eq_self hp, if_no rfl h⟩
  | some p => exact ⟨true, eq_self hp, if_no rfl h⟩
theorem s13 (hB : LawB a Pt nm B) (h : ∀ figs B', 0 < figs.length → figs.length ≤ 3 → (∀ m ∈ figs, m < 8) → LawB a Pt nm B' → E.nx [z0, some (.ref a), z2, z3, z4, z5, z6, z7, z8, z9, z10, z11, z12, z13, some (.lst (iN figs)), z15, z16, z17, z18, z19, z20, z21, z22, z23, z24] B') : S13_law sp_lroll E [z0, some (.ref a), z2, z3, z4, z5, z6, z7, z8, z9, z10, z11, z12, z13, z14, z15, z16, z17, z18, z19, z20, z21, z22, z23, z24] B := by
  obtain ⟨i, j, k, e⟩ := hB.dice
  try dsimp only [S13_law, dIfS, dOr, dAnd, dNot, dTest, dOp, dUn, dCB, dCons, dNil, dVar, dC, dSeq, dAsg, hName, dRet, dRetF, dRetN, dRaise, dNext, dDrop, dAppend, dCall, gI, gIC, gU, gMM, dChain, dAndV, dOrV, dNotV, dTup, dLst, dLstB, dNewK, dNewT, dPar, dAug, hTup, hCons, hEnd, hSub, dISeq, dIEn, dIR1, dIR2, dFor, dLc, dLcB, hPair, dYes, dBreak, dCont, dIf, dQuant, getS, setS, startD, DL.gSub, gDiv, gMod, gPow, gShl, gXor, gAddI, gLt, gLe, gGt, gGe, gNegU, gMax2, gMin2, gAbs, gIntC, gEq, gIsN, gAdd, gMul, dSl, dNoPart, dPart, wipeD, List.set, rNot, rChain, rOp, rVar, rC, rAnd, hLt, hLe, hGt, hGe, hEq, DL.rI, dSetF, dFld, dMeth, dMake, dMaxD, dJoin, dStarts, dIStr, dAnyS, dAnyZ, dIEnC, dLstRg2, dLcR, dCallR, dLam]
  refine rolls_at1 (s := 8) (d := 1) (n := 3) (m := 8) (by decide) rfl e (by decide) (by decide) fun ns i2 j2 k2 h0 hl hb => ?_
  exact h ns _ h0 hl hb (hB.roll i2 j2 k2)
theorem all7 {figs : List Nat} (h : ∀ m ∈ figs, m < 8) : ((figs.map fun (n : Nat) => (n : Int)).all fun n => decide (0 ≤ n) && decide (n ≤ 7)) = true := List.all_eq_true.mpr fun n hn => by
  obtain ⟨k, hk, rfl⟩ := List.mem_map.mp hn
  have := h k hk
  simp; omega
theorem s14 (h0 : 0 < figs.length) (hl : figs.length ≤ 3) (hb : ∀ m ∈ figs, m < 8) (h : ∀ figs, FigsOk figs → E.nx [z0, some (.ref a), z2, z3, z4, z5, z6, z7, z8, z9, z10, z11, z12, z13, some (.lst (iN figs)), z15, z16, z17, z18, z19, z20, z21, z22, z23, z24] B) : S14_law E [z0, some (.ref a), z2, z3, z4, z5, z6, z7, z8, z9, z10, z11, z12, z13, some (.lst (iN figs)), z15, z16, z17, z18, z19, z20, z21, z22, z23, z24] B := by
  cases hf : figs with
  | nil => rw [hf] at h0; exact absurd h0 (by decide)
  | cons f r =>
    rw [← hf]
    try dsimp only [S14_law, dIfS, dOr, dAnd, dNot, dTest, dOp, dUn, dCB, dCons, dNil, dVar, dC, dSeq, dAsg, hName, dRet, dRetF, dRetN, dRaise, dNext, dDrop, dAppend, dCall, gI, gIC, gU, gMM, dChain, dAndV, dOrV, dNotV, dTup, dLst, dLstB, dNewK, dNewT, dPar, dAug, hTup, hCons, hEnd, hSub, dISeq, dIEn, dIR1, dIR2, dFor, dLc, dLcB, hPair, dYes, dBreak, dCont, dIf, dQuant, getS, setS, startD, DL.gSub, gDiv, gMod, gPow, gShl, gXor, gAddI, gLt, gLe, gGt, gGe, gNegU, gMax2, gMin2, gAbs, gIntC, gEq, gIsN, gAdd, gMul, dSl, dNoPart, dPart, wipeD, List.set, rNot, rChain, rOp, rVar, rC, rAnd, hLt, hLe, hGt, hGe, hEq, DL.rI, dSetF, dFld, dMeth, dMake, dMaxD, dJoin, dStarts, dIStr, dAnyS, dAnyZ, dIEnC, dLstRg2, dLcR, dCallR, dLam]
    have em : maxD (figs.map fun (n : Nat) => (n : Int)) = maxI (f : Int) (r.map fun (n : Nat) => (n : Int)) := by rw [hf]; rfl
    have h1 := maxD_of (t := 7) (ns := figs.map fun (n : Nat) => (n : Int)) (by decide) fun n hn => by
      obtain ⟨k, hk, rfl⟩ := List.mem_map.mp hn
      have := hb k hk
      omega
    refine ⟨(f : Int), r.map fun (n : Nat) => (n : Int), ?_, ?_⟩
    · rw [intsOf_of (seq_cast B figs), hf]; rfl
    try dsimp only [dIfS, dOr, dAnd, dNot, dTest, dOp, dUn, dCB, dCons, dNil, dVar, dC, dSeq, dAsg, hName, dRet, dRetF, dRetN, dRaise, dNext, dDrop, dAppend, dCall, gI, gIC, gU, gMM, dChain, dAndV, dOrV, dNotV, dTup, dLst, dLstB, dNewK, dNewT, dPar, dAug, hTup, hCons, hEnd, hSub, dISeq, dIEn, dIR1, dIR2, dFor, dLc, dLcB, hPair, dYes, dBreak, dCont, dIf, dQuant, getS, setS, startD, DL.gSub, gDiv, gMod, gPow, gShl, gXor, gAddI, gLt, gLe, gGt, gGe, gNegU, gMax2, gMin2, gAbs, gIntC, gEq, gIsN, gAdd, gMul, dSl, dNoPart, dPart, wipeD, List.set, rNot, rChain, rOp, rVar, rC, rAnd, hLt, hLe, hGt, hGe, hEq, DL.rI, dSetF, dFld, dMeth, dMake, dMaxD, dJoin, dStarts, dIStr, dAnyS, dAnyZ, dIEnC, dLstRg2, dLcR, dCallR, dLam]
    rw [← em]
    refine ite_dec (fun c => h figs ⟨hb, hl, ?_⟩) (fun c => ⟨trivial, h [7] ⟨by decide, by decide, by decide⟩⟩)
    unfold okC
    rw [all7 hb, decide_eq_false (p := maxD (figs.map fun (n : Nat) => (n : Int)) = 0) (by rw [em]; omega), List.length_map, decide_eq_true h0, decide_eq_true (p := figs.length ≤ 5) (by omega)]
    rfl
theorem s15 (hB : LawB a Pt nm B) (hF : FigsOk figs) (h : ∀ p (most : Nat) B', LawB a Pt nm B' → CoB CC p figs B' → most < 20 → E.nx [z0, some (.ref a), z2, z3, some (.int (most : Int)), z5, z6, z7, z8, z9, z10, z11, z12, z13, some (.lst (iN figs)), some (.ref p), z16, z17, z18, z19, z20, z21, z22, z23, z24] B') :
    S15_law sp_lroll (sp_Ci CC CE) CC E [z0, some (.ref a), z2, z3, z4, z5, z6, z7, z8, z9, z10, z11, z12, z13, some (.lst (iN figs)), z15, z16, z17, z18, z19, z20, z21, z22, z23, z24] B := by
  try dsimp only [S15_law, dIfS, dOr, dAnd, dNot, dTest, dOp, dUn, dCB, dCons, dNil, dVar, dC, dSeq, dAsg, hName, dRet, dRetF, dRetN, dRaise, dNext, dDrop, dAppend, dCall, gI, gIC, gU, gMM, dChain, dAndV, dOrV, dNotV, dTup, dLst, dLstB, dNewK, dNewT, dPar, dAug, hTup, hCons, hEnd, hSub, dISeq, dIEn, dIR1, dIR2, dFor, dLc, dLcB, hPair, dYes, dBreak, dCont, dIf, dQuant, getS, setS, startD, DL.gSub, gDiv, gMod, gPow, gShl, gXor, gAddI, gLt, gLe, gGt, gGe, gNegU, gMax2, gMin2, gAbs, gIntC, gEq, gIsN, gAdd, gMul, dSl, dNoPart, dPart, wipeD, List.set, rNot, rChain, rOp, rVar, rC, rAnd, hLt, hLe, hGt, hGe, hEq, DL.rI, dSetF, dFld, dMeth, dMake, dMaxD, dJoin, dStarts, dIStr, dAnyS, dAnyZ, dIEnC, dLstRg2, dLcR, dCallR, dLam]
  refine fun p hp => ⟨p, _, figs.map fun (n : Nat) => (n : Int), rfl, put_same, seq_cast _ _, fun ys e => (by cases e), fun _ => ⟨rfl, ?_⟩, fun no => by rw [hF.ok] at no; cases no⟩
  rw [put_put, insC, ← iN_iL]
  have hK : CoB CC p figs (put B p (.ins CC [("figures", .tup (iN figs))])) := ⟨put_same, fun m hm => by have := hF.lt m hm; omega, by have := hF.len; omega⟩
  have hB2 := hB.new (b := .ins CC [("figures", .tup (iN figs))]) hp
  generalize put B p (.ins CC [("figures", .tup (iN figs))]) = B1 at hK hB2
  obtain ⟨i, j, k, e⟩ := hB2.dice
  refine roll_at (m := 20) e (by decide) (by decide) fun most i j k hr => ?_
  try dsimp only [dIfS, dOr, dAnd, dNot, dTest, dOp, dUn, dCB, dCons, dNil, dVar, dC, dSeq, dAsg, hName, dRet, dRetF, dRetN, dRaise, dNext, dDrop, dAppend, dCall, gI, gIC, gU, gMM, dChain, dAndV, dOrV, dNotV, dTup, dLst, dLstB, dNewK, dNewT, dPar, dAug, hTup, hCons, hEnd, hSub, dISeq, dIEn, dIR1, dIR2, dFor, dLc, dLcB, hPair, dYes, dBreak, dCont, dIf, dQuant, getS, setS, startD, DL.gSub, gDiv, gMod, gPow, gShl, gXor, gAddI, gLt, gLe, gGt, gGe, gNegU, gMax2, gMin2, gAbs, gIntC, gEq, gIsN, gAdd, gMul, dSl, dNoPart, dPart, wipeD, List.set, rNot, rChain, rOp, rVar, rC, rAnd, hLt, hLe, hGt, hGe, hEq, DL.rI, dSetF, dFld, dMeth, dMake, dMaxD, dJoin, dStarts, dIStr, dAnyS, dAnyZ, dIEnC, dLstRg2, dLcR, dCallR, dLam]
  exact ⟨trivial, h p most _ (hB2.roll i j k) (hK.lst e) hr⟩
theorem s16 (hB : LawB a Pt nm B) (hK : CoB CC pC figs B) (hF : FigsOk figs) (h : ∀ B', LawB a Pt nm B' → CoB CC pC figs B' → E.nx [z0, some (.ref a), z2, z3, z4, z5, z6, z7, z8, z9, z10, z11, z12, z13, some (.lst (iN figs)), some (.ref pC), some (.lst (iN (valC (optC figs) 21))), z17, z18, z19, z20, z21, z22, z23, z24] B') :
    S16_law sp_lwor E [z0, some (.ref a), z2, z3, z4, z5, z6, z7, z8, z9, z10, z11, z12, z13, some (.lst (iN figs)), some (.ref pC), z16, z17, z18, z19, z20, z21, z22, z23, z24] B := by
  try dsimp only [S16_law, dIfS, dOr, dAnd, dNot, dTest, dOp, dUn, dCB, dCons, dNil, dVar, dC, dSeq, dAsg, hName, dRet, dRetF, dRetN, dRaise, dNext, dDrop, dAppend, dCall, gI, gIC, gU, gMM, dChain, dAndV, dOrV, dNotV, dTup, dLst, dLstB, dNewK, dNewT, dPar, dAug, hTup, hCons, hEnd, hSub, dISeq, dIEn, dIR1, dIR2, dFor, dLc, dLcB, hPair, dYes, dBreak, dCont, dIf, dQuant, getS, setS, startD, DL.gSub, gDiv, gMod, gPow, gShl, gXor, gAddI, gLt, gLe, gGt, gGe, gNegU, gMax2, gMin2, gAbs, gIntC, gEq, gIsN, gAdd, gMul, dSl, dNoPart, dPart, wipeD, List.set, rNot, rChain, rOp, rVar, rC, rAnd, hLt, hLe, hGt, hGe, hEq, DL.rI, dSetF, dFld, dMeth, dMake, dMaxD, dJoin, dStarts, dIStr, dAnyS, dAnyZ, dIEnC, dLstRg2, dLcR, dCallR, dLam]
  refine ⟨figs, 20, rfl, hF.lt, by have := hF.len; omega, by decide, fun B' hf => ?_⟩
  try dsimp only [dIfS, dOr, dAnd, dNot, dTest, dOp, dUn, dCB, dCons, dNil, dVar, dC, dSeq, dAsg, hName, dRet, dRetF, dRetN, dRaise, dNext, dDrop, dAppend, dCall, gI, gIC, gU, gMM, dChain, dAndV, dOrV, dNotV, dTup, dLst, dLstB, dNewK, dNewT, dPar, dAug, hTup, hCons, hEnd, hSub, dISeq, dIEn, dIR1, dIR2, dFor, dLc, dLcB, hPair, dYes, dBreak, dCont, dIf, dQuant, getS, setS, startD, DL.gSub, gDiv, gMod, gPow, gShl, gXor, gAddI, gLt, gLe, gGt, gGe, gNegU, gMax2, gMin2, gAbs, gIntC, gEq, gIsN, gAdd, gMul, dSl, dNoPart, dPart, wipeD, List.set, rNot, rChain, rOp, rVar, rC, rAnd, hLt, hLe, hGt, hGe, hEq, DL.rI, dSetF, dFld, dMeth, dMake, dMaxD, dJoin, dStarts, dIStr, dAnyS, dAnyZ, dIEnC, dLstRg2, dLcR, dCallR, dLam]
  exact h B' (hB.few hf) (hK.few hf)
def optsD (figs : List Nat) : List D := (List.range' 0 12).map fun h => .lst (rowsD (optC figs h))
theorem pl_opts (figs : List Nat) : plD 3 (.lst (optsD figs)) = true := by
  show (optsD figs).all (plD 2) = true
  rw [List.all_eq_true]
  intro d hd
  obtain ⟨h, _, rfl⟩ := List.mem_map.mp hd
  exact pl_rows _
theorem c5 {q : DK} {x : XD} (hK : CoB CC pC figs B) (h : q (.lst (optsD figs)) B) : C5_law (sp_Co CC CE) CC [z0, z1, z2, z3, z4, z5, z6, z7, z8, z9, z10, z11, z12, z13, some (.lst (iN figs)), some (.ref pC), z16, z17, z18, z19, z20, z21, z22, z23, z24] B q x := by
  try dsimp only [C5_law, dIfS, dOr, dAnd, dNot, dTest, dOp, dUn, dCB, dCons, dNil, dVar, dC, dSeq, dAsg, hName, dRet, dRetF, dRetN, dRaise, dNext, dDrop, dAppend, dCall, gI, gIC, gU, gMM, dChain, dAndV, dOrV, dNotV, dTup, dLst, dLstB, dNewK, dNewT, dPar, dAug, hTup, hCons, hEnd, hSub, dISeq, dIEn, dIR1, dIR2, dFor, dLc, dLcB, hPair, dYes, dBreak, dCont, dIf, dQuant, getS, setS, startD, DL.gSub, gDiv, gMod, gPow, gShl, gXor, gAddI, gLt, gLe, gGt, gGe, gNegU, gMax2, gMin2, gAbs, gIntC, gEq, gIsN, gAdd, gMul, dSl, dNoPart, dPart, wipeD, List.set, rNot, rChain, rOp, rVar, rC, rAnd, hLt, hLe, hGt, hGe, hEq, DL.rI, dSetF, dFld, dMeth, dMake, dMaxD, dJoin, dStarts, dIStr, dAnyS, dAnyZ, dIEnC, dLstRg2, dLcR, dCallR, dLam]
  refine ⟨by decide, sizeOk_of (by decide), ?_⟩
  rw [show upto 0 (12 : Int).toNat = (List.range' 0 12).map fun (j : Nat) => D.int (j : Int) from upto_map 12 0]
  refine lc_pure (enc := fun (j : Nat) => D.int (j : Int)) (fun _ => true) (fun (j : Nat) => .lst (rowsD (optC figs j))) (fun f e => by cases e) _ [] (fun j hj K1 K2 k1 k2 => ?_) ?_
  · rw [List.mem_range'_1] at hj
    try dsimp only [dIfS, dOr, dAnd, dNot, dTest, dOp, dUn, dCB, dCons, dNil, dVar, dC, dSeq, dAsg, hName, dRet, dRetF, dRetN, dRaise, dNext, dDrop, dAppend, dCall, gI, gIC, gU, gMM, dChain, dAndV, dOrV, dNotV, dTup, dLst, dLstB, dNewK, dNewT, dPar, dAug, hTup, hCons, hEnd, hSub, dISeq, dIEn, dIR1, dIR2, dFor, dLc, dLcB, hPair, dYes, dBreak, dCont, dIf, dQuant, getS, setS, startD, DL.gSub, gDiv, gMod, gPow, gShl, gXor, gAddI, gLt, gLe, gGt, gGe, gNegU, gMax2, gMin2, gAbs, gIntC, gEq, gIsN, gAdd, gMul, dSl, dNoPart, dPart, wipeD, List.set, rNot, rChain, rOp, rVar, rC, rAnd, hLt, hLe, hGt, hGe, hEq, DL.rI, dSetF, dFld, dMeth, dMake, dMaxD, dJoin, dStarts, dIStr, dAnyS, dAnyZ, dIEnC, dLstRg2, dLcR, dCallR, dLam]
    refine if_yes rfl ⟨pC, _, rfl, hK.at_, by rfl, pC, figs, j, rfl, hK, fun _ _ => ⟨_, rfl, k1 rfl⟩, fun no => absurd ⟨by omega, by omega⟩ no⟩
  · rw [List.filter_eq_self.mpr (by simp), List.nil_append]
    exact h
theorem c6 {q : DK} {x : XD} (hF : FigsOk figs) (h : ∀ B', Few B B' → q (.lst (optsD figs)) B') : C6_law sp_lopt [z0, z1, z2, z3, z4, z5, z6, z7, z8, z9, z10, z11, z12, z13, some (.lst (iN figs)), some (.ref pC), z16, z17, z18, z19, z20, z21, z22, z23, z24] B q x := by
  try dsimp only [C6_law, dIfS, dOr, dAnd, dNot, dTest, dOp, dUn, dCB, dCons, dNil, dVar, dC, dSeq, dAsg, hName, dRet, dRetF, dRetN, dRaise, dNext, dDrop, dAppend, dCall, gI, gIC, gU, gMM, dChain, dAndV, dOrV, dNotV, dTup, dLst, dLstB, dNewK, dNewT, dPar, dAug, hTup, hCons, hEnd, hSub, dISeq, dIEn, dIR1, dIR2, dFor, dLc, dLcB, hPair, dYes, dBreak, dCont, dIf, dQuant, getS, setS, startD, DL.gSub, gDiv, gMod, gPow, gShl, gXor, gAddI, gLt, gLe, gGt, gGe, gNegU, gMax2, gMin2, gAbs, gIntC, gEq, gIsN, gAdd, gMul, dSl, dNoPart, dPart, wipeD, List.set, rNot, rChain, rOp, rVar, rC, rAnd, hLt, hLe, hGt, hGe, hEq, DL.rI, dSetF, dFld, dMeth, dMake, dMaxD, dJoin, dStarts, dIStr, dAnyS, dAnyZ, dIEnC, dLstRg2, dLcR, dCallR, dLam]
  refine ⟨by decide, sizeOk_of (by decide), ?_⟩
  rw [show upto 0 (12 : Int).toNat = (List.range' 0 12).map fun (j : Nat) => D.int (j : Int) from upto_map 12 0]
  refine lc_by (fun w acc B2 => Few B B2 ∧ ∃ s n, s + n = 12 ∧ w = (List.range' s n).map (fun (j : Nat) => D.int (j : Int)) ∧ acc ++ (List.range' s n).map (fun h => D.lst (rowsD (optC figs h))) = optsD figs) ⟨Few.refl _, 0, 12, rfl, rfl, rfl⟩ (fun r acc B' h f e => by cases e) (fun acc B2 h2 => ?_) (fun e w acc B2 K h2 hk => ?_)
  · obtain ⟨hf, s, n, h3, h4, h5⟩ := h2
    cases n with
    | succ n => cases h4
    | zero =>
      rw [show List.range' s 0 = [] from rfl, List.map_nil, List.append_nil] at h5
      rw [h5]
      exact h B2 hf
  · obtain ⟨hf, s, n, h3, h4, h5⟩ := h2
    cases n with
    | zero => cases h4
    | succ n =>
      rw [List.range'_succ, List.map_cons] at h4
      cases h4
      try dsimp only [dIfS, dOr, dAnd, dNot, dTest, dOp, dUn, dCB, dCons, dNil, dVar, dC, dSeq, dAsg, hName, dRet, dRetF, dRetN, dRaise, dNext, dDrop, dAppend, dCall, gI, gIC, gU, gMM, dChain, dAndV, dOrV, dNotV, dTup, dLst, dLstB, dNewK, dNewT, dPar, dAug, hTup, hCons, hEnd, hSub, dISeq, dIEn, dIR1, dIR2, dFor, dLc, dLcB, hPair, dYes, dBreak, dCont, dIf, dQuant, getS, setS, startD, DL.gSub, gDiv, gMod, gPow, gShl, gXor, gAddI, gLt, gLe, gGt, gGe, gNegU, gMax2, gMin2, gAbs, gIntC, gEq, gIsN, gAdd, gMul, dSl, dNoPart, dPart, wipeD, List.set, rNot, rChain, rOp, rVar, rC, rAnd, hLt, hLe, hGt, hGe, hEq, DL.rI, dSetF, dFld, dMeth, dMake, dMaxD, dJoin, dStarts, dIStr, dAnyS, dAnyZ, dIEnC, dLstRg2, dLcR, dCallR, dLam]
      refine if_yes rfl ⟨figs, s, rfl, hF.lt, by have := hF.len; omega, by omega, fun B3 hf3 => hk _ _ ⟨hf.trans hf3, s + 1, n, by omega, rfl, ?_⟩⟩
      rw [← h5, List.range'_succ, List.map_cons, List.append_assoc]
      rfl
theorem s17 {most : Nat} (hB : LawB a Pt nm B) (hK : CoB CC pC figs B) (hF : FigsOk figs) (hm : most < 20) (h4 : z4 = some (.int (most : Int))) (h : ∀ B', LawB a Pt nm B' → CoB CC pC figs B' → E.nx [z0, some (.ref a), z2, z3, z4, z5, z6, z7, z8, z9, z10, z11, z12, z13, some (.lst (iN figs)), some (.ref pC), some (.lst (iN (valC (optC figs) 21))), z17, z18, z19, z20, z21, z22, z23, z24] B') :
    S17_law (sp_Cw CC CE) (sp_Co CC CE) sp_lopt CC E [z0, some (.ref a), z2, z3, z4, z5, z6, z7, z8, z9, z10, z11, z12, z13, some (.lst (iN figs)), some (.ref pC), some (.lst (iN (valC (optC figs) 21))), z17, z18, z19, z20, z21, z22, z23, z24] B := by
  subst h4
  try dsimp only [S17_law, dIfS, dOr, dAnd, dNot, dTest, dOp, dUn, dCB, dCons, dNil, dVar, dC, dSeq, dAsg, hName, dRet, dRetF, dRetN, dRaise, dNext, dDrop, dAppend, dCall, gI, gIC, gU, gMM, dChain, dAndV, dOrV, dNotV, dTup, dLst, dLstB, dNewK, dNewT, dPar, dAug, hTup, hCons, hEnd, hSub, dISeq, dIEn, dIR1, dIR2, dFor, dLc, dLcB, hPair, dYes, dBreak, dCont, dIf, dQuant, getS, setS, startD, DL.gSub, gDiv, gMod, gPow, gShl, gXor, gAddI, gLt, gLe, gGt, gGe, gNegU, gMax2, gMin2, gAbs, gIntC, gEq, gIsN, gAdd, gMul, dSl, dNoPart, dPart, wipeD, List.set, rNot, rChain, rOp, rVar, rC, rAnd, hLt, hLe, hGt, hGe, hEq, DL.rI, dSetF, dFld, dMeth, dMake, dMaxD, dJoin, dStarts, dIStr, dAnyS, dAnyZ, dIEnC, dLstRg2, dLcR, dCallR, dLam]
  refine ⟨pC, _, rfl, hK.at_, by rfl, pC, figs, most, rfl, hK, fun _ _ => ⟨_, rfl, ?_⟩, fun no => absurd ⟨by omega, by omega⟩ no⟩
  refine ⟨_, rfl, ?_⟩
  have ec : DL.cutD (iN (valC (optC figs) 21)) none (some ((most : Int) + 1)) = iN (valC (optC figs) (most + 1)) := by
    rw [show (most : Int) + 1 = ((most + 1 : Nat) : Int) by omega, cutD_take]
    unfold iN
    rw [← List.map_take, valC_take (optC figs) (by omega)]
  rw [ec]
  refine ⟨true, eq_self (pl_N _), if_no rfl (c5 hK (c6 hF fun B' hf => ⟨true, eq_self (pl_opts _), if_no rfl (h B' (hB.few hf) (hK.few hf))⟩))⟩
theorem s18 (hB : LawB a Pt nm B) (hK : CoB CC pC figs B) (h : ∀ hs B', LawB a Pt nm B' → CoB CC pC figs B' → hs.length ≤ 3 → (∀ m ∈ hs, m < 15) → E.nx [z0, some (.ref a), z2, z3, z4, some (.lst (iN hs)), z6, z7, z8, z9, z10, z11, z12, z13, z14, z15, z16, some (.int 0), some .non, z19, z20, z21, z22, z23, z24] B') : S18_law sp_lroll E [z0, some (.ref a), z2, z3, z4, z5, z6, z7, z8, z9, z10, z11, z12, z13, z14, z15, z16, z17, z18, z19, z20, z21, z22, z23, z24] B := by
  obtain ⟨i, j, k, e⟩ := hB.dice
  try dsimp only [S18_law, dIfS, dOr, dAnd, dNot, dTest, dOp, dUn, dCB, dCons, dNil, dVar, dC, dSeq, dAsg, hName, dRet, dRetF, dRetN, dRaise, dNext, dDrop, dAppend, dCall, gI, gIC, gU, gMM, dChain, dAndV, dOrV, dNotV, dTup, dLst, dLstB, dNewK, dNewT, dPar, dAug, hTup, hCons, hEnd, hSub, dISeq, dIEn, dIR1, dIR2, dFor, dLc, dLcB, hPair, dYes, dBreak, dCont, dIf, dQuant, getS, setS, startD, DL.gSub, gDiv, gMod, gPow, gShl, gXor, gAddI, gLt, gLe, gGt, gGe, gNegU, gMax2, gMin2, gAbs, gIntC, gEq, gIsN, gAdd, gMul, dSl, dNoPart, dPart, wipeD, List.set, rNot, rChain, rOp, rVar, rC, rAnd, hLt, hLe, hGt, hGe, hEq, DL.rI, dSetF, dFld, dMeth, dMake, dMaxD, dJoin, dStarts, dIStr, dAnyS, dAnyZ, dIEnC, dLstRg2, dLcR, dCallR, dLam]
  refine rolls_at (s := 8) (d := 1) (n := 4) (m := 15) (by decide) rfl e (by decide) (by decide) fun ns i2 j2 k2 hl hb => ?_
  try dsimp only [dIfS, dOr, dAnd, dNot, dTest, dOp, dUn, dCB, dCons, dNil, dVar, dC, dSeq, dAsg, hName, dRet, dRetF, dRetN, dRaise, dNext, dDrop, dAppend, dCall, gI, gIC, gU, gMM, dChain, dAndV, dOrV, dNotV, dTup, dLst, dLstB, dNewK, dNewT, dPar, dAug, hTup, hCons, hEnd, hSub, dISeq, dIEn, dIR1, dIR2, dFor, dLc, dLcB, hPair, dYes, dBreak, dCont, dIf, dQuant, getS, setS, startD, DL.gSub, gDiv, gMod, gPow, gShl, gXor, gAddI, gLt, gLe, gGt, gGe, gNegU, gMax2, gMin2, gAbs, gIntC, gEq, gIsN, gAdd, gMul, dSl, dNoPart, dPart, wipeD, List.set, rNot, rChain, rOp, rVar, rC, rAnd, hLt, hLe, hGt, hGe, hEq, DL.rI, dSetF, dFld, dMeth, dMake, dMaxD, dJoin, dStarts, dIStr, dAnyS, dAnyZ, dIEnC, dLstRg2, dLcR, dCallR, dLam]
  exact ⟨trivial, h ns _ (hB.roll i2 j2 k2) (hK.lst e) (by omega) hb⟩
theorem s19 {hs : List Nat} {opt : Nat → List (List Nat)} (hb : ∀ m ∈ hs, m < 15) (h : ∀ z9, E.nx [z0, some (.ref a), z2, z3, z4, some (.lst (iN hs)), z6, z7, z8, z9, z10, z11, z12, z13, z14, z15, some (.lst (iN (valC opt 21))), some (.int (xs (hs.map (vC opt)) : Nat)), some .non, z19, z20, z21, z22, z23, z24] B) :
    S19_law E [z0, some (.ref a), z2, z3, z4, some (.lst (iN hs)), z6, z7, z8, z9, z10, z11, z12, z13, z14, z15, some (.lst (iN (valC opt 21))), some (.int 0), some .non, z19, z20, z21, z22, z23, z24] B := by
  try dsimp only [S19_law, dIfS, dOr, dAnd, dNot, dTest, dOp, dUn, dCB, dCons, dNil, dVar, dC, dSeq, dAsg, hName, dRet, dRetF, dRetN, dRaise, dNext, dDrop, dAppend, dCall, gI, gIC, gU, gMM, dChain, dAndV, dOrV, dNotV, dTup, dLst, dLstB, dNewK, dNewT, dPar, dAug, hTup, hCons, hEnd, hSub, dISeq, dIEn, dIR1, dIR2, dFor, dLc, dLcB, hPair, dYes, dBreak, dCont, dIf, dQuant, getS, setS, startD, DL.gSub, gDiv, gMod, gPow, gShl, gXor, gAddI, gLt, gLe, gGt, gGe, gNegU, gMax2, gMin2, gAbs, gIntC, gEq, gIsN, gAdd, gMul, dSl, dNoPart, dPart, wipeD, List.set, rNot, rChain, rOp, rVar, rC, rAnd, hLt, hLe, hGt, hGe, hEq, DL.rI, dSetF, dFld, dMeth, dMake, dMaxD, dJoin, dStarts, dIStr, dAnyS, dAnyZ, dIEnC, dLstRg2, dLcR, dCallR, dLam]
  show ∃ xs, lstOf B (.lst (iN hs)) = some xs ∧ _
  refine ⟨_, rfl, ?_⟩
  refine for_by (fun r Γ B' => B' = B ∧ ∃ (ms : List Nat) (acc : Nat) (z9 : Option D), r = iN ms ∧ (∀ m ∈ ms, m < 15) ∧ Γ = [z0, some (.ref a), z2, z3, z4, some (.lst (iN hs)), z6, z7, z8, z9, z10, z11, z12, z13, z14, z15, some (.lst (iN (valC opt 21))), some (.int (acc : Int)), some .non, z19, z20, z21, z22, z23, z24] ∧ acc ^^^ xs (ms.map (vC opt)) = xs (hs.map (vC opt)))
    ⟨rfl, hs, 0, z9, rfl, hb, rfl, Nat.zero_xor _⟩ (fun r Γ B' h f e => by cases e) (fun Γ B' h2 => ?_) (fun e r Γ B' K h2 hk => ?_)
  · obtain ⟨rfl, ms, acc, z9, h3, _, rfl, h4⟩ := h2
    cases ms with
    | cons m ms => cases h3
    | nil =>
      have h4 : acc ^^^ 0 = _ := h4
      rw [Nat.xor_zero] at h4
      subst h4
      exact h z9
  · obtain ⟨rfl, ms, acc, z9, h3, h5, rfl, h4⟩ := h2
    cases ms with
    | nil => cases h3
    | cons m ms =>
      cases h3
      have hm := h5 m List.mem_cons_self
      try dsimp only [B3_law, dIfS, dOr, dAnd, dNot, dTest, dOp, dUn, dCB, dCons, dNil, dVar, dC, dSeq, dAsg, hName, dRet, dRetF, dRetN, dRaise, dNext, dDrop, dAppend, dCall, gI, gIC, gU, gMM, dChain, dAndV, dOrV, dNotV, dTup, dLst, dLstB, dNewK, dNewT, dPar, dAug, hTup, hCons, hEnd, hSub, dISeq, dIEn, dIR1, dIR2, dFor, dLc, dLcB, hPair, dYes, dBreak, dCont, dIf, dQuant, getS, setS, startD, DL.gSub, gDiv, gMod, gPow, gShl, gXor, gAddI, gLt, gLe, gGt, gGe, gNegU, gMax2, gMin2, gAbs, gIntC, gEq, gIsN, gAdd, gMul, dSl, dNoPart, dPart, wipeD, List.set, rNot, rChain, rOp, rVar, rC, rAnd, hLt, hLe, hGt, hGe, hEq, DL.rI, dSetF, dFld, dMeth, dMake, dMaxD, dJoin, dStarts, dIStr, dAnyS, dAnyZ, dIEnC, dLstRg2, dLcR, dCallR, dLam]
      refine gIx_N rfl (by rw [valC_len]; omega) ?_
      rw [valC_at opt (by omega)]
      try dsimp only [dIfS, dOr, dAnd, dNot, dTest, dOp, dUn, dCB, dCons, dNil, dVar, dC, dSeq, dAsg, hName, dRet, dRetF, dRetN, dRaise, dNext, dDrop, dAppend, dCall, gI, gIC, gU, gMM, dChain, dAndV, dOrV, dNotV, dTup, dLst, dLstB, dNewK, dNewT, dPar, dAug, hTup, hCons, hEnd, hSub, dISeq, dIEn, dIR1, dIR2, dFor, dLc, dLcB, hPair, dYes, dBreak, dCont, dIf, dQuant, getS, setS, startD, DL.gSub, gDiv, gMod, gPow, gShl, gXor, gAddI, gLt, gLe, gGt, gGe, gNegU, gMax2, gMin2, gAbs, gIntC, gEq, gIsN, gAdd, gMul, dSl, dNoPart, dPart, wipeD, List.set, rNot, rChain, rOp, rVar, rC, rAnd, hLt, hLe, hGt, hGe, hEq, DL.rI, dSetF, dFld, dMeth, dMake, dMaxD, dJoin, dStarts, dIStr, dAnyS, dAnyZ, dIEnC, dLstRg2, dLcR, dCallR, dLam]
      rw [bxN]
      exact hk _ _ ⟨rfl, ms, acc ^^^ vC opt m, _, rfl, fun n hn => h5 n (List.mem_cons_of_mem _ hn), rfl, by rw [← h4, Nat.xor_assoc]; rfl⟩
end
end K02
set_option Elab.async false
set_option linter.all false
set_option pp.maxSteps 900
set_option maxRecDepth 100000
set_option maxHeartbeats 4000000
--NS 25
--MORE
namespace K02
open PySem PySem.Spec PyProof.Rows L2 DL PL
theorem pl_repC (r : Option (Nat × List Nat)) : plD 2 (repCD r) = true := by
  cases r with
  | none => rfl
  | some p =>
    show (plD 1 (.int (p.1 : Int)) && (plD 1 (.tup (iN p.2)) && true)) = true
    rw [pl_row]
    rfl
section
variable {z0 z1 z2 z3 z4 z5 z6 z7 z8 z9 z10 z11 z12 z13 z14 z15 z16 z17 z18 z19 z20 z21 z22 z23 z24 : Option D}
variable {a Pt : Addr} {B : Bx} {E : DEnds} {nm : Str} {CT CC CE pT pC pS : Addr} {nums figs : List Nat}
theorem s22 {hs : List Nat} {W : Nat} {RR : Option (Nat × List Nat)} (hB : LawB a Pt nm B) (hK : CoB CC pC figs B) (hF : FigsOk figs) (hb : ∀ m ∈ hs, m < 15) (hRR : repC (optC figs) W 0 hs = RR)
    (h : ∀ B' z8 z9 z19 z20, LawB a Pt nm B' → CoB CC pC figs B' → E.nx [z0, some (.ref a), z2, z3, z4, some (.lst (iN hs)), z6, z7, z8, z9, z10, z11, z12, z13, some (.lst (iN figs)), some (.ref pC), z16, some (.int (W : Int)), some (repCD RR), z19, z20, z21, z22, z23, z24] B')
    (h16 : z16 = some (.lst (iN (valC (optC figs) 21)))) :
    S22_law sp_lopt E [z0, some (.ref a), z2, z3, z4, some (.lst (iN hs)), z6, z7, z8, z9, z10, z11, z12, z13, some (.lst (iN figs)), some (.ref pC), z16, some (.int (W : Int)), some .non, z19, z20, z21, z22, z23, z24] B := by
  subst h16
  have hok : ∀ h, ∀ row ∈ optC figs h, RowOk h row := opt_ok
  generalize hopt : optC figs = opt at hRR hok h
  have ix : ∀ {m : Nat} {q : DK} {B : Bx}, m < 15 → q (.int (vC opt m : Nat)) B → gIx (.lst (iN (valC opt 21))) (.int (m : Int)) B q := fun {m q B} hm hq => gIx_N rfl (by rw [valC_len]; omega) (by rw [valC_at opt (by omega)]; exact hq)
  try dsimp only [S22_law, dIfS, dOr, dAnd, dNot, dTest, dOp, dUn, dCB, dCons, dNil, dVar, dC, dSeq, dAsg, hName, dRet, dRetF, dRetN, dRaise, dNext, dDrop, dAppend, dCall, gI, gIC, gU, gMM, dChain, dAndV, dOrV, dNotV, dTup, dLst, dLstB, dNewK, dNewT, dPar, dAug, hTup, hCons, hEnd, hSub, dISeq, dIEn, dIR1, dIR2, dFor, dLc, dLcB, hPair, dYes, dBreak, dCont, dIf, dQuant, getS, setS, startD, DL.gSub, gDiv, gMod, gPow, gShl, gXor, gAddI, gLt, gLe, gGt, gGe, gNegU, gMax2, gMin2, gAbs, gIntC, gEq, gIsN, gAdd, gMul, dSl, dNoPart, dPart, wipeD, List.set, rNot, rChain, rOp, rVar, rC, rAnd, hLt, hLe, hGt, hGe, hEq, DL.rI, dSetF, dFld, dMeth, dMake, dMaxD, dJoin, dStarts, dIStr, dAnyS, dAnyZ, dIEnC, dLstRg2, dLcR, dCallR, dLam]
  show ∃ xs, lstOf B (.lst (iN hs)) = some xs ∧ _
  refine ⟨_, rfl, ?_⟩
  refine for_by (fun r Γ B' => LawB a Pt nm B' ∧ CoB CC pC figs B' ∧ ∃ (k : Nat) (ms : List Nat) (rep : Option (Nat × List Nat)) (z8 z9 z19 z20 : Option D), r = enumL (k : Int) (iN ms) ∧ (∀ m ∈ ms, m < 15) ∧ Γ = [z0, some (.ref a), z2, z3, z4, some (.lst (iN hs)), z6, z7, z8, z9, z10, z11, z12, z13, some (.lst (iN figs)), some (.ref pC), some (.lst (iN (valC opt 21))), some (.int (W : Int)), some (repCD rep), z19, z20, z21, z22, z23, z24] ∧
      ((rep = none ∧ repC opt W k ms = RR) ∨ ∃ p, rep = some p ∧ RR = some p))
    ⟨hB, hK, 0, hs, none, z8, z9, z19, z20, rfl, hb, rfl, .inl ⟨rfl, hRR⟩⟩ (fun r Γ B' h f e => by cases e) (fun Γ B' h2 => ?_) (fun e r Γ B' K h2 hk => ?_)
  · obtain ⟨hB', hK', k, ms, rep, z8, z9, z19, z20, h3, _, rfl, h4⟩ := h2
    cases ms with
    | cons m ms => cases h3
    | nil =>
      have e : rep = RR := by
        rcases h4 with ⟨e1, e2⟩ | ⟨p, e1, e2⟩
        · rw [e1, ← e2]; rfl
        · rw [e1, e2]
      subst e
      exact h B' z8 z9 z19 z20 hB' hK'
  · obtain ⟨hB', hK', k, ms, rep, z8, z9, z19, z20, h3, h5, rfl, h4⟩ := h2
    cases ms with
    | nil => cases h3
    | cons m ms =>
      cases h3
      have hm := h5 m List.mem_cons_self
      have h5' : ∀ n ∈ ms, n < 15 := fun n hn => h5 n (List.mem_cons_of_mem _ hn)
      try dsimp only [B5_law, dIfS, dOr, dAnd, dNot, dTest, dOp, dUn, dCB, dCons, dNil, dVar, dC, dSeq, dAsg, hName, dRet, dRetF, dRetN, dRaise, dNext, dDrop, dAppend, dCall, gI, gIC, gU, gMM, dChain, dAndV, dOrV, dNotV, dTup, dLst, dLstB, dNewK, dNewT, dPar, dAug, hTup, hCons, hEnd, hSub, dISeq, dIEn, dIR1, dIR2, dFor, dLc, dLcB, hPair, dYes, dBreak, dCont, dIf, dQuant, getS, setS, startD, DL.gSub, gDiv, gMod, gPow, gShl, gXor, gAddI, gLt, gLe, gGt, gGe, gNegU, gMax2, gMin2, gAbs, gIntC, gEq, gIsN, gAdd, gMul, dSl, dNoPart, dPart, wipeD, List.set, rNot, rChain, rOp, rVar, rC, rAnd, hLt, hLe, hGt, hGe, hEq, DL.rI, dSetF, dFld, dMeth, dMake, dMaxD, dJoin, dStarts, dIStr, dAnyS, dAnyZ, dIEnC, dLstRg2, dLcR, dCallR, dLam]
      refine ⟨figs, m, rfl, hF.lt, by have := hF.len; omega, by omega, fun B2 hf => ?_⟩
      rw [hopt]
      show ∃ xs, lstOf B2 (.lst (rowsD (opt m))) = some xs ∧ _
      refine ⟨_, rfl, ?_⟩
      have hRo := hok m
      have h4' : (rep = none ∧ (match (opt m).find? (fun row => decide (W ^^^ vC opt m ^^^ PL.xs (row.map (vC opt)) = 0)) with | some row => some (k, row) | none => repC opt W (k + 1) ms) = RR) ∨ ∃ p, rep = some p ∧ RR = some p := h4
      generalize opt m = O at hRo h4'
      refine for_by (fun r Γ B3 => B3 = B2 ∧ ∃ (rest : List (List Nat)) (rep : Option (Nat × List Nat)) (z19 z20 : Option D), r = rowsD rest ∧ (∀ row ∈ rest, RowOk m row) ∧ Γ = [z0, some (.ref a), z2, z3, z4, some (.lst (iN hs)), z6, z7, some (.int (k : Int)), some (.int (m : Int)), z10, z11, z12, z13, some (.lst (iN figs)), some (.ref pC), some (.lst (iN (valC opt 21))), some (.int (W : Int)), some (repCD rep), z19, z20, z21, z22, z23, z24] ∧
          ((rep = none ∧ (match rest.find? (fun row => decide (W ^^^ vC opt m ^^^ PL.xs (row.map (vC opt)) = 0)) with | some row => some (k, row) | none => repC opt W (k + 1) ms) = RR) ∨ ∃ p, rep = some p ∧ RR = some p))
        ⟨rfl, O, rep, z19, z20, rfl, hRo, rfl, h4'⟩ (fun r Γ B' h f e => by cases e) (fun Γ B3 h6 => ?_) (fun e r Γ B3 K' h6 hk' => ?_)
      · obtain ⟨rfl, rest, rep, z19, z20, h7, _, rfl, h8⟩ := h6
        cases rest with
        | cons row rest => cases h7
        | nil => exact hk _ _ ⟨hB'.few hf, hK'.few hf, k + 1, ms, rep, _, _, _, _, rfl, h5', rfl, h8⟩
      · obtain ⟨rfl, rest, rep, z19, z20, h7, hro, rfl, h8⟩ := h6
        cases rest with
        | nil => cases h7
        | cons row rest =>
          cases h7
          have hr := hro row List.mem_cons_self
          have hro' : ∀ r ∈ rest, RowOk m r := fun r hr => hro r (List.mem_cons_of_mem _ hr)
          have hlt := hr.lt
          have hl2 := hr.len
          -- what follows, with the sum at hand
          have fin : ∀ (v : Nat), v = W ^^^ vC opt m ^^^ PL.xs (row.map (vC opt)) → S21_law { E with nx := K', ct := K', bk := fun Γ' B' => K Γ' B' } [z0, some (.ref a), z2, z3, z4, some (.lst (iN hs)), z6, z7, some (.int (k : Int)), some (.int (m : Int)), z10, z11, z12, z13, some (.lst (iN figs)), some (.ref pC), some (.lst (iN (valC opt 21))), some (.int (W : Int)), some (repCD rep), some (.tup (iN row)), some (.int (v : Int)), z21, z22, z23, z24] B3 := fun v hv => by
            try dsimp only [S21_law, dIfS, dOr, dAnd, dNot, dTest, dOp, dUn, dCB, dCons, dNil, dVar, dC, dSeq, dAsg, hName, dRet, dRetF, dRetN, dRaise, dNext, dDrop, dAppend, dCall, gI, gIC, gU, gMM, dChain, dAndV, dOrV, dNotV, dTup, dLst, dLstB, dNewK, dNewT, dPar, dAug, hTup, hCons, hEnd, hSub, dISeq, dIEn, dIR1, dIR2, dFor, dLc, dLcB, hPair, dYes, dBreak, dCont, dIf, dQuant, getS, setS, startD, DL.gSub, gDiv, gMod, gPow, gShl, gXor, gAddI, gLt, gLe, gGt, gGe, gNegU, gMax2, gMin2, gAbs, gIntC, gEq, gIsN, gAdd, gMul, dSl, dNoPart, dPart, wipeD, List.set, rNot, rChain, rOp, rVar, rC, rAnd, hLt, hLe, hGt, hGe, hEq, DL.rI, dSetF, dFld, dMeth, dMake, dMaxD, dJoin, dStarts, dIStr, dAnyS, dAnyZ, dIEnC, dLstRg2, dLcR, dCallR, dLam]
            rcases h8 with ⟨rfl, h8⟩ | ⟨p, rfl, h8⟩
            · try dsimp only [repCD, gIsN, dIfS, dOr, dAnd, dNot, dTest, dOp, dUn, dCB, dCons, dNil, dVar, dC, dSeq, dAsg, hName, dRet, dRetF, dRetN, dRaise, dNext, dDrop, dAppend, dCall, gI, gIC, gU, gMM, dChain, dAndV, dOrV, dNotV, dTup, dLst, dLstB, dNewK, dNewT, dPar, dAug, hTup, hCons, hEnd, hSub, dISeq, dIEn, dIR1, dIR2, dFor, dLc, dLcB, hPair, dYes, dBreak, dCont, dIf, dQuant, getS, setS, startD, DL.gSub, gDiv, gMod, gPow, gShl, gXor, gAddI, gLt, gLe, gGt, gGe, gNegU, gMax2, gMin2, gAbs, gIntC, gEq, gIsN, gAdd, gMul, dSl, dNoPart, dPart, wipeD, List.set, rNot, rChain, rOp, rVar, rC, rAnd, hLt, hLe, hGt, hGe, hEq, DL.rI, dSetF, dFld, dMeth, dMake, dMaxD, dJoin, dStarts, dIStr, dAnyS, dAnyZ, dIEnC, dLstRg2, dLcR, dCallR, dLam]
              refine if_yes rfl ?_
              rw [Bool.false_xor]
              refine ite_dec (fun c => ⟨trivial, ?_⟩) (fun c => hk' _ _ ⟨rfl, rest, none, _, _, rfl, hro', rfl, .inl ⟨rfl, ?_⟩⟩)
              · refine hk' _ _ ⟨rfl, rest, some (k, row), _, _, rfl, hro', rfl, .inr ⟨(k, row), rfl, ?_⟩⟩
                rw [List.find?_cons_of_pos (by rw [← hv]; exact decide_eq_true (by omega))] at h8
                exact h8.symm
              · rw [List.find?_cons_of_neg (by rw [← hv, decide_eq_true_eq]; omega)] at h8
                exact h8
            · try dsimp only [repCD, gIsN, dIfS, dOr, dAnd, dNot, dTest, dOp, dUn, dCB, dCons, dNil, dVar, dC, dSeq, dAsg, hName, dRet, dRetF, dRetN, dRaise, dNext, dDrop, dAppend, dCall, gI, gIC, gU, gMM, dChain, dAndV, dOrV, dNotV, dTup, dLst, dLstB, dNewK, dNewT, dPar, dAug, hTup, hCons, hEnd, hSub, dISeq, dIEn, dIR1, dIR2, dFor, dLc, dLcB, hPair, dYes, dBreak, dCont, dIf, dQuant, getS, setS, startD, DL.gSub, gDiv, gMod, gPow, gShl, gXor, gAddI, gLt, gLe, gGt, gGe, gNegU, gMax2, gMin2, gAbs, gIntC, gEq, gIsN, gAdd, gMul, dSl, dNoPart, dPart, wipeD, List.set, rNot, rChain, rOp, rVar, rC, rAnd, hLt, hLe, hGt, hGe, hEq, DL.rI, dSetF, dFld, dMeth, dMake, dMaxD, dJoin, dStarts, dIStr, dAnyS, dAnyZ, dIEnC, dLstRg2, dLcR, dCallR, dLam]
              exact if_no rfl (hk' _ _ ⟨rfl, rest, some p, _, _, rfl, hro', rfl, .inr ⟨p, rfl, h8⟩⟩)
          try dsimp only [B4_law, S20_law, dIfS, dOr, dAnd, dNot, dTest, dOp, dUn, dCB, dCons, dNil, dVar, dC, dSeq, dAsg, hName, dRet, dRetF, dRetN, dRaise, dNext, dDrop, dAppend, dCall, gI, gIC, gU, gMM, dChain, dAndV, dOrV, dNotV, dTup, dLst, dLstB, dNewK, dNewT, dPar, dAug, hTup, hCons, hEnd, hSub, dISeq, dIEn, dIR1, dIR2, dFor, dLc, dLcB, hPair, dYes, dBreak, dCont, dIf, dQuant, getS, setS, startD, DL.gSub, gDiv, gMod, gPow, gShl, gXor, gAddI, gLt, gLe, gGt, gGe, gNegU, gMax2, gMin2, gAbs, gIntC, gEq, gIsN, gAdd, gMul, dSl, dNoPart, dPart, wipeD, List.set, rNot, rChain, rOp, rVar, rC, rAnd, hLt, hLe, hGt, hGe, hEq, DL.rI, dSetF, dFld, dMeth, dMake, dMaxD, dJoin, dStarts, dIStr, dAnyS, dAnyZ, dIEnC, dLstRg2, dLcR, dCallR, dLam]
          refine ix hm ?_
          try dsimp only [dIfS, dOr, dAnd, dNot, dTest, dOp, dUn, dCB, dCons, dNil, dVar, dC, dSeq, dAsg, hName, dRet, dRetF, dRetN, dRaise, dNext, dDrop, dAppend, dCall, gI, gIC, gU, gMM, dChain, dAndV, dOrV, dNotV, dTup, dLst, dLstB, dNewK, dNewT, dPar, dAug, hTup, hCons, hEnd, hSub, dISeq, dIEn, dIR1, dIR2, dFor, dLc, dLcB, hPair, dYes, dBreak, dCont, dIf, dQuant, getS, setS, startD, DL.gSub, gDiv, gMod, gPow, gShl, gXor, gAddI, gLt, gLe, gGt, gGe, gNegU, gMax2, gMin2, gAbs, gIntC, gEq, gIsN, gAdd, gMul, dSl, dNoPart, dPart, wipeD, List.set, rNot, rChain, rOp, rVar, rC, rAnd, hLt, hLe, hGt, hGe, hEq, DL.rI, dSetF, dFld, dMeth, dMake, dMaxD, dJoin, dStarts, dIStr, dAnyS, dAnyZ, dIEnC, dLstRg2, dLcR, dCallR, dLam]
          refine gLen_seq rfl ?_
          try dsimp only [dIfS, dOr, dAnd, dNot, dTest, dOp, dUn, dCB, dCons, dNil, dVar, dC, dSeq, dAsg, hName, dRet, dRetF, dRetN, dRaise, dNext, dDrop, dAppend, dCall, gI, gIC, gU, gMM, dChain, dAndV, dOrV, dNotV, dTup, dLst, dLstB, dNewK, dNewT, dPar, dAug, hTup, hCons, hEnd, hSub, dISeq, dIEn, dIR1, dIR2, dFor, dLc, dLcB, hPair, dYes, dBreak, dCont, dIf, dQuant, getS, setS, startD, DL.gSub, gDiv, gMod, gPow, gShl, gXor, gAddI, gLt, gLe, gGt, gGe, gNegU, gMax2, gMin2, gAbs, gIntC, gEq, gIsN, gAdd, gMul, dSl, dNoPart, dPart, wipeD, List.set, rNot, rChain, rOp, rVar, rC, rAnd, hLt, hLe, hGt, hGe, hEq, DL.rI, dSetF, dFld, dMeth, dMake, dMaxD, dJoin, dStarts, dIStr, dAnyS, dAnyZ, dIEnC, dLstRg2, dLcR, dCallR, dLam]
          rw [bxN, iN_len]
          cases row with
          | nil =>
            refine if_no rfl ?_
            rw [show Builtin.bitXor ((W ^^^ vC opt m : Nat) : Int) 0 = ((W ^^^ vC opt m ^^^ 0 : Nat) : Int) from bxN _ 0]
            refine gLen_seq rfl ?_
            try dsimp only [dIfS, dOr, dAnd, dNot, dTest, dOp, dUn, dCB, dCons, dNil, dVar, dC, dSeq, dAsg, hName, dRet, dRetF, dRetN, dRaise, dNext, dDrop, dAppend, dCall, gI, gIC, gU, gMM, dChain, dAndV, dOrV, dNotV, dTup, dLst, dLstB, dNewK, dNewT, dPar, dAug, hTup, hCons, hEnd, hSub, dISeq, dIEn, dIR1, dIR2, dFor, dLc, dLcB, hPair, dYes, dBreak, dCont, dIf, dQuant, getS, setS, startD, DL.gSub, gDiv, gMod, gPow, gShl, gXor, gAddI, gLt, gLe, gGt, gGe, gNegU, gMax2, gMin2, gAbs, gIntC, gEq, gIsN, gAdd, gMul, dSl, dNoPart, dPart, wipeD, List.set, rNot, rChain, rOp, rVar, rC, rAnd, hLt, hLe, hGt, hGe, hEq, DL.rI, dSetF, dFld, dMeth, dMake, dMaxD, dJoin, dStarts, dIStr, dAnyS, dAnyZ, dIEnC, dLstRg2, dLcR, dCallR, dLam]
            refine if_no rfl ?_
            rw [show Builtin.bitXor ((W ^^^ vC opt m ^^^ 0 : Nat) : Int) 0 = ((W ^^^ vC opt m ^^^ 0 ^^^ 0 : Nat) : Int) from bxN _ 0]
            exact fin _ (by rw [Nat.xor_zero]; rfl)
          | cons b t =>
            refine ite_dec (fun _ => ?_) (fun c => absurd (by simp) c)
            refine gIx_N (ns := b :: t) (k := 0) rfl (by simp) (ix (by have := hlt b (by simp); show b < 15; omega) ?_)
            try dsimp only [dIfS, dOr, dAnd, dNot, dTest, dOp, dUn, dCB, dCons, dNil, dVar, dC, dSeq, dAsg, hName, dRet, dRetF, dRetN, dRaise, dNext, dDrop, dAppend, dCall, gI, gIC, gU, gMM, dChain, dAndV, dOrV, dNotV, dTup, dLst, dLstB, dNewK, dNewT, dPar, dAug, hTup, hCons, hEnd, hSub, dISeq, dIEn, dIR1, dIR2, dFor, dLc, dLcB, hPair, dYes, dBreak, dCont, dIf, dQuant, getS, setS, startD, DL.gSub, gDiv, gMod, gPow, gShl, gXor, gAddI, gLt, gLe, gGt, gGe, gNegU, gMax2, gMin2, gAbs, gIntC, gEq, gIsN, gAdd, gMul, dSl, dNoPart, dPart, wipeD, List.set, rNot, rChain, rOp, rVar, rC, rAnd, hLt, hLe, hGt, hGe, hEq, DL.rI, dSetF, dFld, dMeth, dMake, dMaxD, dJoin, dStarts, dIStr, dAnyS, dAnyZ, dIEnC, dLstRg2, dLcR, dCallR, dLam]
            rw [show ((b :: t).getD 0 0) = b from rfl, bxN]
            refine gLen_seq rfl ?_
            try dsimp only [dIfS, dOr, dAnd, dNot, dTest, dOp, dUn, dCB, dCons, dNil, dVar, dC, dSeq, dAsg, hName, dRet, dRetF, dRetN, dRaise, dNext, dDrop, dAppend, dCall, gI, gIC, gU, gMM, dChain, dAndV, dOrV, dNotV, dTup, dLst, dLstB, dNewK, dNewT, dPar, dAug, hTup, hCons, hEnd, hSub, dISeq, dIEn, dIR1, dIR2, dFor, dLc, dLcB, hPair, dYes, dBreak, dCont, dIf, dQuant, getS, setS, startD, DL.gSub, gDiv, gMod, gPow, gShl, gXor, gAddI, gLt, gLe, gGt, gGe, gNegU, gMax2, gMin2, gAbs, gIntC, gEq, gIsN, gAdd, gMul, dSl, dNoPart, dPart, wipeD, List.set, rNot, rChain, rOp, rVar, rC, rAnd, hLt, hLe, hGt, hGe, hEq, DL.rI, dSetF, dFld, dMeth, dMake, dMaxD, dJoin, dStarts, dIStr, dAnyS, dAnyZ, dIEnC, dLstRg2, dLcR, dCallR, dLam]
            rw [iN_len]
            cases t with
            | nil =>
              refine if_no rfl ?_
              rw [show Builtin.bitXor ((W ^^^ vC opt m ^^^ vC opt b : Nat) : Int) 0 = ((W ^^^ vC opt m ^^^ vC opt b ^^^ 0 : Nat) : Int) from bxN _ 0]
              exact fin _ (by show _ = W ^^^ vC opt m ^^^ (vC opt b ^^^ 0); rw [Nat.xor_zero, Nat.xor_zero])
            | cons c t =>
              cases t with
              | cons d t => simp at hl2
              | nil =>
                refine if_yes rfl (gIx_N (ns := [b, c]) (k := 1) rfl (by simp) (ix (by have := hlt c (by simp); show c < 15; omega) ?_))
                try dsimp only [dIfS, dOr, dAnd, dNot, dTest, dOp, dUn, dCB, dCons, dNil, dVar, dC, dSeq, dAsg, hName, dRet, dRetF, dRetN, dRaise, dNext, dDrop, dAppend, dCall, gI, gIC, gU, gMM, dChain, dAndV, dOrV, dNotV, dTup, dLst, dLstB, dNewK, dNewT, dPar, dAug, hTup, hCons, hEnd, hSub, dISeq, dIEn, dIR1, dIR2, dFor, dLc, dLcB, hPair, dYes, dBreak, dCont, dIf, dQuant, getS, setS, startD, DL.gSub, gDiv, gMod, gPow, gShl, gXor, gAddI, gLt, gLe, gGt, gGe, gNegU, gMax2, gMin2, gAbs, gIntC, gEq, gIsN, gAdd, gMul, dSl, dNoPart, dPart, wipeD, List.set, rNot, rChain, rOp, rVar, rC, rAnd, hLt, hLe, hGt, hGe, hEq, DL.rI, dSetF, dFld, dMeth, dMake, dMaxD, dJoin, dStarts, dIStr, dAnyS, dAnyZ, dIEnC, dLstRg2, dLcR, dCallR, dLam]
                rw [show (([b, c] : List Nat).getD 1 0) = c from rfl, bxN]
                exact fin _ (by show _ = W ^^^ vC opt m ^^^ (vC opt b ^^^ (vC opt c ^^^ 0)); rw [Nat.xor_zero, Nat.xor_assoc (W ^^^ vC opt m)])
theorem s23 (hF : FigsOk figs) (h : E.nx [z0, some (.ref a), z2, z3, z4, z5, z6, z7, z8, z9, z10, z11, z12, z13, some (.lst (iN figs)), z15, z16, z17, z18, z19, z20, some (.str (textC figs)), z22, z23, z24] B) : S23_law E [z0, some (.ref a), z2, z3, z4, z5, z6, z7, z8, z9, z10, z11, z12, z13, some (.lst (iN figs)), z15, z16, z17, z18, z19, z20, z21, z22, z23, z24] B := by
  have h7 : ∀ m ∈ figs, m ≤ 7 := fun m hm => by have := hF.lt m hm; omega
  have hl := hF.len
  dsimp only [S23_law, dAsg, dOp, dC, dJoin, C8_law, dLc, dISeq, dVar, getS, hName]
  refine ⟨_, rfl, iSq_of (B0 := B) rfl (Few.refl _) fun gd hg => ⟨sizeOk_of (by rw [iN_len]; omega), str_row (by show 24 < 25; decide) h7 (hg _ (Few.refl _)) ⟨figs.map decN, rfl, ?_, ?_⟩⟩⟩
  · have := (join_len h7).2
    rw [this]
    have e0 : ("" : Str).length = 0 := by decide
    rw [e0]
    omega
  · have h2 := (join_len h7).1
    have e0 : ("0." : Str).length = 2 := by decide
    exact ⟨le_size (by rw [e0]; omega), h⟩
theorem s24 {hs : List Nat} {W : Nat} {RR : Option (Nat × List Nat)} (hB : LawB a Pt nm B) (hK : CoB CC pC figs B) (hF : FigsOk figs) (hl : hs.length ≤ 3) (hb : ∀ m ∈ hs, m < 15) (hW : xs (hs.map (vC (optC figs))) = W) (hRR : repC (optC figs) W 0 hs = RR)
    (h : ∀ B', LawB a Pt nm B' → E.nx [z0, some (.ref a), z2, z3, z4, z5, z6, z7, z8, z9, z10, z11, z12, z13, some (.lst (iN figs)), some (.ref pC), z16, z17, z18, z19, z20, z21, z22, z23, z24] B') (h5 : z5 = some (.lst (iN hs))) (h17 : z17 = some (.int (W : Int))) (h18 : z18 = some (repCD RR)) (h21 : z21 = some (.str (textC figs))) :
    S24_law (sp_Cr CC CE) (sp_Ct CC) (sp_cof CC CE) CC E [z0, some (.ref a), z2, z3, z4, z5, z6, z7, z8, z9, z10, z11, z12, z13, some (.lst (iN figs)), some (.ref pC), z16, z17, z18, z19, z20, z21, z22, z23, z24] B := by
  subst h5 h17 h18 h21
  have ok : okA 200 (hs.map fun (n : Nat) => (n : Int)) = true := by
    unfold okA
    rw [Bool.and_eq_true, List.all_eq_true]
    refine ⟨decide_eq_true (by rw [List.length_map]; omega), fun n hn => ?_⟩
    obtain ⟨k, hk, rfl⟩ := List.mem_map.mp hn
    have := hb k hk
    simp; omega
  have hri := rep_iff (opt := optC figs) opt_ok hs
  rw [hW, hRR] at hri
  have hcr : ∀ {q : DK} {x : XD}, q (repCD RR) B → sp_Cr CC CE [.ref pC, .lst (iN hs)] B q x := fun {q x} hq => ⟨pC, _, figs, hs.map fun (n : Nat) => (n : Int), rfl, hK, seq_cast _ _, fun _ => by rw [toN_cast, hW, hRR]; exact hq, fun no => by rw [ok] at no; cases no⟩
  have h0 : ∀ B', LawB a Pt nm B' → E.nx [z0, some (.ref a), z2, z3, z4, some (.lst (iN hs)), z6, z7, z8, z9, z10, z11, z12, z13, some (.lst (iN figs)), some (.ref pC), z16, some (.int (W : Int)), some (repCD RR), z19, z20, some (.str (textC figs)), z22, z23, z24] B' := fun B' hB' => h B' hB'
  clear h
  have pl := pl_repC RR
  have last : S24_law (sp_Cr CC CE) (sp_Ct CC) (sp_cof CC CE) CC E [z0, some (.ref a), z2, z3, z4, some (.lst (iN hs)), z6, z7, z8, z9, z10, z11, z12, z13, some (.lst (iN figs)), some (.ref pC), z16, some (.int (W : Int)), some (repCD RR), z19, z20, some (.str (textC figs)), z22, z23, z24] B := by
    try dsimp only [S24_law, dIfS, dOr, dAnd, dNot, dTest, dOp, dUn, dCB, dCons, dNil, dVar, dC, dSeq, dAsg, hName, dRet, dRetF, dRetN, dRaise, dNext, dDrop, dAppend, dCall, gI, gIC, gU, gMM, dChain, dAndV, dOrV, dNotV, dTup, dLst, dLstB, dNewK, dNewT, dPar, dAug, hTup, hCons, hEnd, hSub, dISeq, dIEn, dIR1, dIR2, dFor, dLc, dLcB, hPair, dYes, dBreak, dCont, dIf, dQuant, getS, setS, startD, DL.gSub, gDiv, gMod, gPow, gShl, gXor, gAddI, gLt, gLe, gGt, gGe, gNegU, gMax2, gMin2, gAbs, gIntC, gEq, gIsN, gAdd, gMul, dSl, dNoPart, dPart, wipeD, List.set, rNot, rChain, rOp, rVar, rC, rAnd, hLt, hLe, hGt, hGe, hEq, DL.rI, dSetF, dFld, dMeth, dMake, dMaxD, dJoin, dStarts, dIStr, dAnyS, dAnyZ, dIEnC, dLstRg2, dLcR, dCallR, dLam]
    refine ⟨pC, _, rfl, hK.at_, by rfl, hcr ?_⟩
    cases RR with
    | none =>
      have hW0 : W = 0 := hri.mp rfl
      try dsimp only [repCD, dIfS, dOr, dAnd, dNot, dTest, dOp, dUn, dCB, dCons, dNil, dVar, dC, dSeq, dAsg, hName, dRet, dRetF, dRetN, dRaise, dNext, dDrop, dAppend, dCall, gI, gIC, gU, gMM, dChain, dAndV, dOrV, dNotV, dTup, dLst, dLstB, dNewK, dNewT, dPar, dAug, hTup, hCons, hEnd, hSub, dISeq, dIEn, dIR1, dIR2, dFor, dLc, dLcB, hPair, dYes, dBreak, dCont, dIf, dQuant, getS, setS, startD, DL.gSub, gDiv, gMod, gPow, gShl, gXor, gAddI, gLt, gLe, gGt, gGe, gNegU, gMax2, gMin2, gAbs, gIntC, gEq, gIsN, gAdd, gMul, dSl, dNoPart, dPart, wipeD, List.set, rNot, rChain, rOp, rVar, rC, rAnd, hLt, hLe, hGt, hGe, hEq, DL.rI, dSetF, dFld, dMeth, dMake, dMaxD, dJoin, dStarts, dIStr, dAnyS, dAnyZ, dIEnC, dLstRg2, dLcR, dCallR, dLam]
      refine ⟨true, eq_self (d := .non) (n := 1) rfl, if_no rfl ?_⟩
      try dsimp only [gIsN, dIfS, dOr, dAnd, dNot, dTest, dOp, dUn, dCB, dCons, dNil, dVar, dC, dSeq, dAsg, hName, dRet, dRetF, dRetN, dRaise, dNext, dDrop, dAppend, dCall, gI, gIC, gU, gMM, dChain, dAndV, dOrV, dNotV, dTup, dLst, dLstB, dNewK, dNewT, dPar, dAug, hTup, hCons, hEnd, hSub, dISeq, dIEn, dIR1, dIR2, dFor, dLc, dLcB, hPair, dYes, dBreak, dCont, dIf, dQuant, getS, setS, startD, DL.gSub, gDiv, gMod, gPow, gShl, gXor, gAddI, gLt, gLe, gGt, gGe, gNegU, gMax2, gMin2, gAbs, gIntC, gEq, gIsN, gAdd, gMul, dSl, dNoPart, dPart, wipeD, List.set, rNot, rChain, rOp, rVar, rC, rAnd, hLt, hLe, hGt, hGe, hEq, DL.rI, dSetF, dFld, dMeth, dMake, dMaxD, dJoin, dStarts, dIStr, dAnyS, dAnyZ, dIEnC, dLstRg2, dLcR, dCallR, dLam]
      rw [decide_eq_true (p := (W : Int) = 0) (by omega)]
      refine if_no rfl ?_
      refine ⟨pC, _, rfl, hK.at_, by rfl, pC, figs, rfl, hK, ?_⟩
      try dsimp only [dIfS, dOr, dAnd, dNot, dTest, dOp, dUn, dCB, dCons, dNil, dVar, dC, dSeq, dAsg, hName, dRet, dRetF, dRetN, dRaise, dNext, dDrop, dAppend, dCall, gI, gIC, gU, gMM, dChain, dAndV, dOrV, dNotV, dTup, dLst, dLstB, dNewK, dNewT, dPar, dAug, hTup, hCons, hEnd, hSub, dISeq, dIEn, dIR1, dIR2, dFor, dLc, dLcB, hPair, dYes, dBreak, dCont, dIf, dQuant, getS, setS, startD, DL.gSub, gDiv, gMod, gPow, gShl, gXor, gAddI, gLt, gLe, gGt, gGe, gNegU, gMax2, gMin2, gAbs, gIntC, gEq, gIsN, gAdd, gMul, dSl, dNoPart, dPart, wipeD, List.set, rNot, rChain, rOp, rVar, rC, rAnd, hLt, hLe, hGt, hGe, hEq, DL.rI, dSetF, dFld, dMeth, dMake, dMaxD, dJoin, dStarts, dIStr, dAnyS, dAnyZ, dIEnC, dLstRg2, dLcR, dCallR, dLam]
      exact if_no (by rw [decide_eq_true rfl]; rfl) (.inl ⟨figs, rfl, hF.len, hF.lt, hF.ok, fun p hp => ⟨p, _, _, rfl, put_same, fld_one, _, rfl, true, eq_self (pl_N _), if_no rfl (h0 _ (hB.new hp))⟩⟩)
    | some r =>
      have hW0 : W ≠ 0 := fun e => by have := hri.mpr e; cases this
      try dsimp only [repCD, dIfS, dOr, dAnd, dNot, dTest, dOp, dUn, dCB, dCons, dNil, dVar, dC, dSeq, dAsg, hName, dRet, dRetF, dRetN, dRaise, dNext, dDrop, dAppend, dCall, gI, gIC, gU, gMM, dChain, dAndV, dOrV, dNotV, dTup, dLst, dLstB, dNewK, dNewT, dPar, dAug, hTup, hCons, hEnd, hSub, dISeq, dIEn, dIR1, dIR2, dFor, dLc, dLcB, hPair, dYes, dBreak, dCont, dIf, dQuant, getS, setS, startD, DL.gSub, gDiv, gMod, gPow, gShl, gXor, gAddI, gLt, gLe, gGt, gGe, gNegU, gMax2, gMin2, gAbs, gIntC, gEq, gIsN, gAdd, gMul, dSl, dNoPart, dPart, wipeD, List.set, rNot, rChain, rOp, rVar, rC, rAnd, hLt, hLe, hGt, hGe, hEq, DL.rI, dSetF, dFld, dMeth, dMake, dMaxD, dJoin, dStarts, dIStr, dAnyS, dAnyZ, dIEnC, dLstRg2, dLcR, dCallR, dLam]
      refine ⟨true, eq_self pl, if_no rfl ?_⟩
      try dsimp only [gIsN, dIfS, dOr, dAnd, dNot, dTest, dOp, dUn, dCB, dCons, dNil, dVar, dC, dSeq, dAsg, hName, dRet, dRetF, dRetN, dRaise, dNext, dDrop, dAppend, dCall, gI, gIC, gU, gMM, dChain, dAndV, dOrV, dNotV, dTup, dLst, dLstB, dNewK, dNewT, dPar, dAug, hTup, hCons, hEnd, hSub, dISeq, dIEn, dIR1, dIR2, dFor, dLc, dLcB, hPair, dYes, dBreak, dCont, dIf, dQuant, getS, setS, startD, DL.gSub, gDiv, gMod, gPow, gShl, gXor, gAddI, gLt, gLe, gGt, gGe, gNegU, gMax2, gMin2, gAbs, gIntC, gEq, gIsN, gAdd, gMul, dSl, dNoPart, dPart, wipeD, List.set, rNot, rChain, rOp, rVar, rC, rAnd, hLt, hLe, hGt, hGe, hEq, DL.rI, dSetF, dFld, dMeth, dMake, dMaxD, dJoin, dStarts, dIStr, dAnyS, dAnyZ, dIEnC, dLstRg2, dLcR, dCallR, dLam]
      rw [decide_eq_false (p := (W : Int) = 0) (by omega)]
      refine if_no rfl ?_
      refine ⟨pC, _, rfl, hK.at_, by rfl, pC, figs, rfl, hK, ?_⟩
      try dsimp only [dIfS, dOr, dAnd, dNot, dTest, dOp, dUn, dCB, dCons, dNil, dVar, dC, dSeq, dAsg, hName, dRet, dRetF, dRetN, dRaise, dNext, dDrop, dAppend, dCall, gI, gIC, gU, gMM, dChain, dAndV, dOrV, dNotV, dTup, dLst, dLstB, dNewK, dNewT, dPar, dAug, hTup, hCons, hEnd, hSub, dISeq, dIEn, dIR1, dIR2, dFor, dLc, dLcB, hPair, dYes, dBreak, dCont, dIf, dQuant, getS, setS, startD, DL.gSub, gDiv, gMod, gPow, gShl, gXor, gAddI, gLt, gLe, gGt, gGe, gNegU, gMax2, gMin2, gAbs, gIntC, gEq, gIsN, gAdd, gMul, dSl, dNoPart, dPart, wipeD, List.set, rNot, rChain, rOp, rVar, rC, rAnd, hLt, hLe, hGt, hGe, hEq, DL.rI, dSetF, dFld, dMeth, dMake, dMaxD, dJoin, dStarts, dIStr, dAnyS, dAnyZ, dIEnC, dLstRg2, dLcR, dCallR, dLam]
      exact if_no (by rw [decide_eq_true rfl]; rfl) (.inl ⟨figs, rfl, hF.len, hF.lt, hF.ok, fun p hp => ⟨p, _, _, rfl, put_same, fld_one, _, rfl, true, eq_self (pl_N _), if_no rfl (h0 _ (hB.new hp))⟩⟩)
  exact last
theorem s25 (hB : LawB a Pt nm B) (h : ∀ ns B', ns.length ≤ 6 → LawB a Pt nm B' → E.nx [z0, some (.ref a), z2, z3, z4, z5, z6, z7, z8, z9, z10, z11, z12, z13, z14, z15, z16, z17, z18, z19, z20, z21, some (.lst (iN ns)), z23, z24] B') : S25_law sp_lroll E [z0, some (.ref a), z2, z3, z4, z5, z6, z7, z8, z9, z10, z11, z12, z13, z14, z15, z16, z17, z18, z19, z20, z21, z22, z23, z24] B := by
  obtain ⟨i, j, k, e⟩ := hB.dice
  try dsimp only [S25_law, dIfS, dOr, dAnd, dNot, dTest, dOp, dUn, dCB, dCons, dNil, dVar, dC, dSeq, dAsg, hName, dRet, dRetF, dRetN, dRaise, dNext, dDrop, dAppend, dCall, gI, gIC, gU, gMM, dChain, dAndV, dOrV, dNotV, dTup, dLst, dLstB, dNewK, dNewT, dPar, dAug, hTup, hCons, hEnd, hSub, dISeq, dIEn, dIR1, dIR2, dFor, dLc, dLcB, hPair, dYes, dBreak, dCont, dIf, dQuant, getS, setS, startD, DL.gSub, gDiv, gMod, gPow, gShl, gXor, gAddI, gLt, gLe, gGt, gGe, gNegU, gMax2, gMin2, gAbs, gIntC, gEq, gIsN, gAdd, gMul, dSl, dNoPart, dPart, wipeD, List.set, rNot, rChain, rOp, rVar, rC, rAnd, hLt, hLe, hGt, hGe, hEq, DL.rI, dSetF, dFld, dMeth, dMake, dMaxD, dJoin, dStarts, dIStr, dAnyS, dAnyZ, dIEnC, dLstRg2, dLcR, dCallR, dLam]
  refine rolls_at (s := 8) (d := 1) (n := 7) (m := 6) (by decide) rfl e (by decide) (by decide) fun ns i2 j2 k2 hl hb => ?_
  exact h ns _ (by omega) (hB.roll i2 j2 k2)
theorem s26 {ns : List Nat} (hl : ns.length ≤ 6) (h : E.nx [z0, some (.ref a), z2, z3, z4, z5, z6, z7, z8, z9, z10, z11, z12, z13, z14, z15, z16, z17, z18, z19, z20, z21, some (.lst (iN ns)), z23, z24] B) : S26_law sp_mex E [z0, some (.ref a), z2, z3, z4, z5, z6, z7, z8, z9, z10, z11, z12, z13, z14, z15, z16, z17, z18, z19, z20, z21, some (.lst (iN ns)), z23, z24] B := by
  dsimp only [S26_law, dIfS, dTest, dOp, dCall, dCons, dNil, dVar, getS, dC, C10_law, dLc, dIR1]
  refine ⟨_, ns, rfl, rfl, ⟨by decide, by decide⟩, sizeOk_of (by decide), ?_⟩
  refine mex_lc (i := 22) (ns := ns) (n := 8) (by show 23 < 25; decide) (by decide) rfl rfl (fun f e => by cases e) ⟨0, _, rfl, mex_at (by omega), ?_⟩
  try dsimp only [dIfS, dOr, dAnd, dNot, dTest, dOp, dUn, dCB, dCons, dNil, dVar, dC, dSeq, dAsg, hName, dRet, dRetF, dRetN, dRaise, dNext, dDrop, dAppend, dCall, gI, gIC, gU, gMM, dChain, dAndV, dOrV, dNotV, dTup, dLst, dLstB, dNewK, dNewT, dPar, dAug, hTup, hCons, hEnd, hSub, dISeq, dIEn, dIR1, dIR2, dFor, dLc, dLcB, hPair, dYes, dBreak, dCont, dIf, dQuant, getS, setS, startD, DL.gSub, gDiv, gMod, gPow, gShl, gXor, gAddI, gLt, gLe, gGt, gGe, gNegU, gMax2, gMin2, gAbs, gIntC, gEq, gIsN, gAdd, gMul, dSl, dNoPart, dPart, wipeD, List.set, rNot, rChain, rOp, rVar, rC, rAnd, hLt, hLe, hGt, hGe, hEq, DL.rI, dSetF, dFld, dMeth, dMake, dMaxD, dJoin, dStarts, dIStr, dAnyS, dAnyZ, dIEnC, dLstRg2, dLcR, dCallR, dLam]
  exact if_no (by rw [decide_eq_true rfl]; rfl) h
end
/-! ### law -/
def sp_law (Pt : Addr) (nm : Str) : SpD := fun ds B q x => ∃ ns : List Int, ds = [.rol (iL ns)] ∧ B Pt = some (.tabQ nm) ∧ ∀ B', q (.bl true) B'
theorem rd_law {Pt : Addr} {nm : Str} {CT CC CE : Addr} {ds : List D} {B : Bx} {q : DK} {x : XD} (h : sp_law Pt nm ds B q x) :
    t_law sp_lrounds sp_lroll (sp_Ti CT CE) (sp_Tw CT CE) sp_lval (sp_lwins 30) (sp_Tm CT CE) (sp_call CE) (sp_Tr CT CE) (sp_Ci CC CE) sp_lwor (sp_Cw CC CE) (sp_Co CC CE) sp_lopt (sp_Cr CC CE) (sp_Ct CC) (sp_cof CC CE) sp_mex (sp_lplain Pt nm) CT CC (endsD q x) (startD N_law ds) B := by
  obtain ⟨ns, rfl, hPt, h1⟩ := h
  have tail : ∀ (Γ : Gm) (B' : Bx), B' Pt = some (.tabQ nm) → S28_law (sp_lplain Pt nm) (endsD q x) Γ B' := by
    intro Γ B' hB
    try dsimp only [S28_law, dIfS, dOr, dAnd, dNot, dTest, dOp, dUn, dCB, dCons, dNil, dVar, dC, dSeq, dAsg, hName, dRet, dRetF, dRetN, dRaise, dNext, dDrop, dAppend, dCall, gI, gIC, gU, gMM, dChain, dAndV, dOrV, dNotV, dTup, dLst, dLstB, dNewK, dNewT, dPar, dAug, hTup, hCons, hEnd, hSub, dISeq, dIEn, dIR1, dIR2, dFor, dLc, dLcB, hPair, dYes, dBreak, dCont, dIf, dQuant, getS, setS, startD, DL.gSub, gDiv, gMod, gPow, gShl, gXor, gAddI, gLt, gLe, gGt, gGe, gNegU, gMax2, gMin2, gAbs, gIntC, gEq, gIsN, gAdd, gMul, dSl, dNoPart, dPart, wipeD, List.set, rNot, rChain, rOp, rVar, rC, rAnd, hLt, hLe, hGt, hGe, hEq, DL.rI, dSetF, dFld, dMeth, dMake, dMaxD, dJoin, dStarts, dIStr, dAnyS, dAnyZ, dIEnC, dLstRg2, dLcR, dCallR, dLam]
    exact ⟨rfl, hB, fun B2 => ⟨B2, Few.refl _, h1 B2⟩⟩
  dsimp only [t_law, dSeq, S27_law, dFor, dISeq, dCall, dCons, dNil, dVar, dC, N_law, startD, getS]
  refine ⟨ns, rfl, fun p i j k hp => ⟨_, rfl, ?_⟩⟩
  have hB : LawB p Pt nm (put B p (diceD i j k)) := ⟨⟨i, j, k, put_same⟩, by rw [put_ne (ne_box hPt hp)]; exact hPt⟩
  dsimp only [forK, DL.guard, hName, setS, B6_law, dSeq]
  refine s1 hB fun nums B1 hn hB => ?_
  refine s2 hB hn fun pT most hs B2 hB hT hm hin => ?_
  refine s3 hT hn hm ?_
  refine s4 fun pS hpS => ?_
  refine s5 (pS := pS) ⟨hB.new hpS, hT.new hpS, [], put_same, Mem.nil _⟩ hn hin fun B3 z8 z9 hW => ?_
  refine s6 hW.t hin rfl ?_
  refine s7 hW.t ?_
  refine s11 hW.t fun z12 z13 => ?_
  refine s12 rfl hW.t rfl ?_
  refine s13 hW.b fun figs0 B4 f0 f1 f2 hB => ?_
  refine s14 f0 f1 f2 fun figs hF => ?_
  refine s15 hB hF fun pC most2 B5 hB hK hm2 => ?_
  refine s16 hB hK hF fun B6 hB hK => ?_
  refine s17 hB hK hF hm2 rfl fun B7 hB hK => ?_
  refine s18 hB hK fun hs2 B8 hB hK l2 b2 => ?_
  refine s19 b2 fun z9 => ?_
  refine s22 hB hK hF b2 rfl (fun B9 z8 z9 z19 z20 hB hK => ?_) rfl
  refine s23 hF ?_
  refine s24 hB hK hF l2 b2 rfl rfl (fun B10 hB => ?_) rfl rfl rfl rfl
  refine s25 hB fun ns B11 l3 hB => ?_
  refine s26 l3 ?_
  dsimp only [lstGd]
  exact tail _ _ hB.tab
end K02
set_option Elab.async false
set_option linter.all false
set_option pp.maxSteps 900
set_option maxRecDepth 100000
set_option maxHeartbeats 4000000
namespace K02
open PySem PySem.Spec PyProof.Rows L2 DL PL
section
variable {P : Program} {w : World} {K : PySem.W.Frag} {mg : Str → Option Value} {base : Heap}
abbrev CE (K : PySem.W.Frag) : Addr := He.ga K "RuleError"
abbrev CT (K : PySem.W.Frag) : Addr := He.ga K "Taking"
abbrev CC (K : PySem.W.Frag) : Addr := He.ga K "Code"
theorem ok_mex (E : M K mg base) : FnA P w K mg base (tsOf tf K) "mex" ["numbers"] 1 (sp_mex) :=
  DL.okA E mf_mex rfl rfl m_glo_mex sc_mex bn_mex (fun ds B q x h => by obtain ⟨_, _, rfl, _⟩ := h; rfl) fun f A outer s H Ex I => ⟨_, tm_mex E  I, fun ds B q x h => rd_mex h⟩
theorem ok_Ti (E : M K mg base) : FnI P w K mg base (tsOf tf K) "Taking" (He.ga K "Taking") ["self", "numbers"] 1 (sp_Ti (CT K) (CE K)) :=
  okI E mf_Ti rfl rfl m_mkr_Taking m_glo_Taking sc_Ti bn_Ti (fun ds B q x h => by obtain ⟨_, _, _, rfl, _⟩ := h; rfl) fun f A outer s H Ex I => ⟨_, tm_Ti E  I, fun ds B q x h => rd_Ti h⟩
theorem ok_call (E : M K mg base) : FnA P w K mg base (tsOf tf K) "check_all" ["heaps"] 1 (sp_call (CE K)) :=
  DL.okA E mf_call rfl rfl m_glo_check_all sc_call bn_call (fun ds B q x h => by obtain ⟨_, _, rfl, _⟩ := h; rfl) fun f A outer s H Ex I => ⟨_, tm_call E  I, fun ds B q x h => rd_call h⟩
theorem ok_Tw (E : M K mg base) : FnM P w K mg base (tsOf tf K) (He.ga K "Taking") "worths" ["self", "most"] 2 (sp_Tw (CT K) (CE K)) :=
  okM E mf_Tw rfl rfl m_cls_Taking m_meth_Taking_worths sc_Tw bn_Tw (fun ds B q x h => by obtain ⟨_, _, _, rfl, _⟩ := h; rfl) fun f A outer s H Ex I => ⟨_, tm_Tw E (ok_mex E) (by decide) I, fun ds B q x h => rd_Tw h⟩
theorem ok_Tm (E : M K mg base) : FnM P w K mg base (tsOf tf K) (He.ga K "Taking") "moves" ["self", "heaps"] 3 (sp_Tm (CT K) (CE K)) :=
  okM E mf_Tm rfl rfl m_cls_Taking m_meth_Taking_moves sc_Tm bn_Tm (fun ds B q x h => by obtain ⟨_, _, _, _, rfl, _⟩ := h; rfl) fun f A outer s H Ex I => ⟨_, tm_Tm E (ok_Tw E) (by decide) (ok_call E) (by decide) I, fun ds B q x h => rd_Tm h⟩
theorem ok_Tr (E : M K mg base) : FnM P w K mg base (tsOf tf K) (He.ga K "Taking") "repeats" ["self"] 3 (sp_Tr (CT K) (CE K)) :=
  okM E mf_Tr rfl rfl m_cls_Taking m_meth_Taking_repeats sc_Tr bn_Tr (fun ds B q x h => by obtain ⟨_, _, _, rfl, _⟩ := h; rfl) fun f A outer s H Ex I => ⟨_, tm_Tr E (ok_Tw E) (by decide) I, fun ds B q x h => rd_Tr h⟩
theorem ok_Ci (E : M K mg base) : FnI P w K mg base (tsOf tf K) "Code" (He.ga K "Code") ["self", "figures"] 1 (sp_Ci (CC K) (CE K)) :=
  okI E mf_Ci rfl rfl m_mkr_Code m_glo_Code sc_Ci bn_Ci (fun ds B q x h => by obtain ⟨_, _, _, rfl, _⟩ := h; rfl) fun f A outer s H Ex I => ⟨_, tm_Ci E  I, fun ds B q x h => rd_Ci h⟩
theorem ok_Co (E : M K mg base) : FnM P w K mg base (tsOf tf K) (He.ga K "Code") "options" ["self", "heap"] 1 (sp_Co (CC K) (CE K)) :=
  okM E mf_Co rfl rfl m_cls_Code m_meth_Code_options sc_Co bn_Co (fun ds B q x h => by obtain ⟨_, _, _, rfl, _⟩ := h; rfl) fun f A outer s H Ex I => ⟨_, tm_Co E  I, fun ds B q x h => rd_Co h⟩
theorem ok_Cw (E : M K mg base) : FnM P w K mg base (tsOf tf K) (He.ga K "Code") "worths" ["self", "most"] 2 (sp_Cw (CC K) (CE K)) :=
  okM E mf_Cw rfl rfl m_cls_Code m_meth_Code_worths sc_Cw bn_Cw (fun ds B q x h => by obtain ⟨_, _, _, rfl, _⟩ := h; rfl) fun f A outer s H Ex I => ⟨_, tm_Cw E (ok_mex E) (by decide) (ok_Co E) (by decide) I, fun ds B q x h => rd_Cw h⟩
theorem ok_Cr (E : M K mg base) : FnM P w K mg base (tsOf tf K) (He.ga K "Code") "reply" ["self", "heaps"] 3 (sp_Cr (CC K) (CE K)) :=
  okM E mf_Cr rfl rfl m_cls_Code m_meth_Code_reply sc_Cr bn_Cr (fun ds B q x h => by obtain ⟨_, _, _, _, rfl, _⟩ := h; rfl) fun f A outer s H Ex I => ⟨_, tm_Cr E (ok_Co E) (by decide) (ok_Cw E) (by decide) I, fun ds B q x h => rd_Cr h⟩
theorem ok_Ct (E : M K mg base) : FnM P w K mg base (tsOf tf K) (He.ga K "Code") "text" ["self"] 1 (sp_Ct (CC K)) :=
  okM E mf_Ct rfl rfl m_cls_Code m_meth_Code_text sc_Ct bn_Ct (fun ds B q x h => by obtain ⟨_, _, rfl, _⟩ := h; rfl) fun f A outer s H Ex I => ⟨_, tm_Ct E  I, fun ds B q x h => rd_Ct h⟩
theorem ok_cof (E : M K mg base) : FnA P w K mg base (tsOf tf K) "code_of" ["text"] 3 (sp_cof (CC K) (CE K)) :=
  DL.okA E mf_cof rfl rfl m_glo_code_of sc_cof bn_cof (fun ds B q x h => by rcases h with ⟨_, rfl, _⟩ | ⟨_, rfl, _⟩ <;> rfl) fun f A outer s H Ex I => ⟨_, tm_cof E (ok_Ci E) (by decide) I, fun ds B q x h => rd_cof h⟩
theorem ok_ldice (E : M K mg base) : FnA P w K mg base (tsOf tf K) "_law_dice" ["cell"] 1 (sp_ldice) :=
  DL.okA E mf_ldice rfl rfl m_glo__law_dice sc_ldice bn_ldice (fun ds B q x h => by obtain ⟨_, rfl, _⟩ := h; rfl) fun f A outer s H Ex I => ⟨_, tm_ldice E  I, fun ds B q x h => rd_ldice h⟩
theorem ok_lroll (E : M K mg base) : FnA P w K mg base (tsOf tf K) "_law_roll" ["dice", "many"] 1 (sp_lroll) :=
  DL.okA E mf_lroll rfl rfl m_glo__law_roll sc_lroll bn_lroll (fun ds B q x h => by obtain ⟨_, _, _, _, _, rfl, _⟩ := h; rfl) fun f A outer s H Ex I => ⟨_, tm_lroll E  I, fun ds B q x h => rd_lroll h⟩
theorem ok_lrounds (E : M K mg base) : FnA P w K mg base (tsOf tf K) "_law_rounds" ["script", "most"] 2 (sp_lrounds) :=
  DL.okA E mf_lrounds rfl rfl m_glo__law_rounds sc_lrounds bn_lrounds (fun ds B q x h => by obtain ⟨_, rfl, _⟩ := h; rfl) fun f A outer s H Ex I => ⟨_, tm_lrounds E (ok_ldice E) (by decide) I, fun ds B q x h => rd_lrounds h⟩
theorem ok_lval (E : M K mg base) : FnA P w K mg base (tsOf tf K) "_law_values" ["numbers", "most"] 1 (sp_lval) :=
  DL.okA E mf_lval rfl rfl m_glo__law_values sc_lval bn_lval (fun ds B q x h => by obtain ⟨_, _, rfl, _⟩ := h; rfl) fun f A outer s H Ex I => ⟨_, tm_lval E  I, fun ds B q x h => rd_lval h⟩
theorem ok_lopt (E : M K mg base) : FnA P w K mg base (tsOf tf K) "_law_options" ["figures", "heap"] 1 (sp_lopt) :=
  DL.okA E mf_lopt rfl rfl m_glo__law_options sc_lopt bn_lopt (fun ds B q x h => by obtain ⟨_, _, rfl, _⟩ := h; rfl) fun f A outer s H Ex I => ⟨_, tm_lopt E  I, fun ds B q x h => rd_lopt h⟩
theorem ok_lwor (E : M K mg base) : FnA P w K mg base (tsOf tf K) "_law_worths" ["figures", "most"] 2 (sp_lwor) :=
  DL.okA E mf_lwor rfl rfl m_glo__law_worths sc_lwor bn_lwor (fun ds B q x h => by obtain ⟨_, _, rfl, _⟩ := h; rfl) fun f A outer s H Ex I => ⟨_, tm_lwor E (ok_lopt E) (by decide) I, fun ds B q x h => rd_lwor h⟩
theorem ok_lwins (E : M K mg base) : ∀ n, FnA P w K mg base (tsOf tf K) "_law_wins" ["numbers", "heaps", "seen"] n (sp_lwins n)
  | 0 => fnA_zero E mf_lwins rfl rfl m_glo__law_wins bn_lwins fun ds B q x h => by
    obtain ⟨_, _, _, _, _, _, _, _, _, hsum, _⟩ := h
    omega
  | n + 1 => DL.okA E mf_lwins rfl rfl m_glo__law_wins sc_lwins bn_lwins (fun ds B q x h => by obtain ⟨_, _, _, _, _, rfl, _⟩ := h; rfl) fun f A outer s H Ex I => ⟨_, tm_lwins E (ok_lwins E n) (Nat.le_refl _) I, fun ds B q x h => rd_lwins h⟩
theorem ok_ltold (E : M K mg base) : FnA P w K mg base (tsOf tf K) "_law_told" ["what"] 5 (sp_ltold (CalAt P w K mg (tsOf tf K) 4) (CE K) base) :=
  DL.okA E mf_ltold rfl rfl m_glo__law_told sc_ltold bn_ltold (fun ds B q x h => by obtain ⟨_, _, rfl, _⟩ := h; rfl) fun f A outer s H Ex I => ⟨_, tm_ltold E (l_cal := 4) (Nat.le_refl _) I, fun ds B q x h => rd_ltold (cal := CalAt P w K mg (tsOf tf K) 4) (E.exm "RuleError" "RuleError" true m_exm_RuleError) h⟩
theorem ok_lplain (E : M K mg base) : FnA P w K mg base (tsOf tf K) "_law_plain" [] 6 (sp_lplain (He.tabOf K (He.codeOf K ("_law_plain", none))) nm_lplain) :=
  DL.okA E mf_lplain rfl rfl m_glo__law_plain sc_lplain bn_lplain (fun ds B q x h => by obtain ⟨rfl, _⟩ := h; rfl) fun f A outer s H Ex I => ⟨_, tm_lplain E (k_lam := 3) (sl1 := slG c0 (CE K)) (sl2 := slG c0 (CE K)) (sl3 := slG c0 (CE K)) (sl4 := slG c0 (CE K)) (sl5 := slG (cK (CC K)) (CE K)) (sl6 := slG (cK (CC K)) (CE K)) (sl7 := slG (cK (CC K)) (CE K)) (sl8 := slG (cK (CC K)) (CE K)) (sl9 := slG (cK (CC K)) (CE K)) (sl10 := slG (cK (CC K)) (CE K)) (sl11 := slG (cK (CC K)) (CE K)) (sl12 := slG c0 (CE K)) (sl13 := slG c0 (CE K)) (sl14 := slG c0 (CE K)) (sl15 := slG c0 (CE K)) (sl16 := slG c0 (CE K)) (sl17 := slG (cT (CT K)) (CE K)) (sl18 := slG (cT (CT K)) (CE K)) (sl19 := slG (cT (CT K)) (CE K)) (sl20 := slG (cT (CT K)) (CE K)) (sl21 := slG c0 (CE K)) (sl22 := slG c0 (CE K)) (sl23 := slG c0 (CE K)) (sl24 := slG c0 (CE K)) (sl25 := slG c0 (CE K)) (G_Tr := fun b hb => ok_Tr (E.up hb)) (h_Tr := by decide) (G_Ti := fun b hb => ok_Ti (E.up hb)) (h_Ti := by decide) (G_Cw := fun b hb => ok_Cw (E.up hb)) (h_Cw := by decide) (G_mex := fun b hb => ok_mex (E.up hb)) (h_mex := by decide) (G_Tm := fun b hb => ok_Tm (E.up hb)) (h_Tm := by decide) (G_Cr := fun b hb => ok_Cr (E.up hb)) (h_Cr := by decide) (G_ltold := fun b hb => ok_ltold (E.up hb)) (h_ltold := by decide) (G_cof := fun b hb => ok_cof (E.up hb)) (h_cof := by decide) (G_Co := fun b hb => ok_Co (E.up hb)) (h_Co := by decide) (G_Ci := fun b hb => ok_Ci (E.up hb)) (h_Ci := by decide) (G_call := fun b hb => ok_call (E.up hb)) (h_call := by decide) (G_Tw := fun b hb => ok_Tw (E.up hb)) (h_Tw := by decide) (hk_Ti := by decide) (hk_Cw := by decide) (hk_Tm := by decide) (hk_Cr := by decide) (hk_cof := by decide) (hk_Co := by decide) (hk_Ci := by decide) (hk_call := by decide) (hk_Tw := by decide) (hl1 := fun ds B q x h => rl1 h) (hl2 := fun ds B q x h => rl2 h) (hl3 := fun ds B q x h => rl3 h) (hl4 := fun ds B q x h => rl4 h) (hl5 := fun ds B q x h => rl5 h) (hl6 := fun ds B q x h => rl6 h) (hl7 := fun ds B q x h => rl7 h) (hl8 := fun ds B q x h => rl8 h) (hl9 := fun ds B q x h => rl9 h) (hl10 := fun ds B q x h => rl10 h) (hl11 := fun ds B q x h => rl11 h) (hl12 := fun ds B q x h => rl12 h) (hl13 := fun ds B q x h => rl13 h) (hl14 := fun ds B q x h => rl14 h) (hl15 := fun ds B q x h => rl15 h) (hl16 := fun ds B q x h => rl16 h) (hl17 := fun ds B q x h => rl17 h) (hl18 := fun ds B q x h => rl18 h) (hl19 := fun ds B q x h => rl19 h) (hl20 := fun ds B q x h => rl20 h) (hl21 := fun ds B q x h => rl21 h) (hl22 := fun ds B q x h => rl22 h) (hl23 := fun ds B q x h => rl23 h) (hl24 := fun ds B q x h => rl24 h) (hl25 := fun ds B q x h => rl25 h) I, fun ds B q x h => rd_lplain h⟩
theorem ok_law (E : M K mg base) {fd : FuncData} (F : FunD K d_law.name d_law.qual d_law.params d_law.body d_law.scope (d_law.dvs K) (d_law.kws K) (He.fAd K d_law.at_) fd) :
    FnD P w K mg base (tsOf tf K) 31 (He.fAd K d_law.at_) fd ["script"] (sp_law (He.tabOf K (He.codeOf K ("_law_plain", none))) nm_lplain) :=
  okF F rfl sc_law (fun ds B q x h => by obtain ⟨_, rfl, _⟩ := h; rfl) fun f A outer s H Ex I => ⟨_, tm_law E (G_lrounds := ok_lrounds E) (h_lrounds := by decide) (G_lroll := ok_lroll E) (h_lroll := by decide) (G_Ti := ok_Ti E) (h_Ti := by decide) (G_Tw := ok_Tw E) (h_Tw := by decide) (G_lval := ok_lval E) (h_lval := by decide) (G_lwins := ok_lwins E 30) (h_lwins := by decide) (G_Tm := ok_Tm E) (h_Tm := by decide) (G_call := ok_call E) (h_call := by decide) (G_Tr := ok_Tr E) (h_Tr := by decide) (G_Ci := ok_Ci E) (h_Ci := by decide) (G_lwor := ok_lwor E) (h_lwor := by decide) (G_Cw := ok_Cw E) (h_Cw := by decide) (G_Co := ok_Co E) (h_Co := by decide) (G_lopt := ok_lopt E) (h_lopt := by decide) (G_Cr := ok_Cr E) (h_Cr := by decide) (G_Ct := ok_Ct E) (h_Ct := by decide) (G_cof := ok_cof E) (h_cof := by decide) (G_mex := ok_mex E) (h_mex := by decide) (G_lplain := ok_lplain E) (h_lplain := by decide) I, fun ds B q x h => rd_law h⟩
end
end K02
set_option Elab.async false
set_option linter.all false
set_option pp.maxSteps 900
set_option maxRecDepth 100000
set_option maxHeartbeats 4000000
namespace K02
open PySem PySem.Spec PyProof.Rows L2 DL PL
abbrev R : PySem.W.OpenRow := PySem.W.OpenLaw.row PySem.Challenge.rw_nimstack_k02_taking_and_codes
/-- the lambdas' table is none of the others -/
def ex (K : PySem.W.Frag) : Bool := decide ((He.cT K ("_law_plain", none)).2 ∉ tsOf tf K)
abbrev hk : PySem.W.Hook := He.hookX 4 fa fn [] (tf ++ tl) ex
def ob (s : PySem.W.SharedT) : He.AlX := He.obsX 4 fa fn [] (tf ++ tl) ex (HandSHeadRun.getT s)
theorem ob_eq (s : PySem.W.SharedT) : ob s = hk.obs s.abs := He.obsX_eq (HandSHeadRun.getT_eq s)
def loose : List Str := ["NimError", "RuleError", "MOST_VALUES", "mex", "Taking", "check_all", "Code", "code_of", "_law_dice", "_law_roll", "_law_rounds", "_law_told", "_law_values", "_law_options", "_law_worths", "_law_wins", "_law_plain"]
theorem run (w : World) : HandSHeadRun.RunEq R (PySem.W.view R.prog [20]) hk ob 9000 loose w := by
  intro os
  kernel_rfl
end K02
set_option Elab.async false
set_option linter.all false
set_option pp.maxSteps 900
set_option maxRecDepth 100000
set_option maxHeartbeats 0
open PySem PySem.W PySem.Calls PyProof.Rows
theorem PySem.Challenge.cw_nimstack_k02_taking_and_codes_holds : PySem.Challenge.rw_nimstack_k02_taking_and_codes.Holds := by
  w_on; o_law
  refine HandSHeadRun.head_any (r := OpenLaw.row PySem.Challenge.rw_nimstack_k02_taking_and_codes) (q := view (OpenLaw.row PySem.Challenge.rw_nimstack_k02_taking_and_codes).prog [20]) (H := K02.hk) (ob := K02.ob) (M := 9000) (loose := K02.loose) (d := HandSHeadRun.topDef (OpenLaw.row PySem.Challenge.rw_nimstack_k02_taking_and_codes).prog 20) (kwd := []) K02.ob_eq
    (by kernel_rfl) (fun s => by kernel_rfl) K02.run (by kernel_rfl) (by kernel_rfl) (by kernel_rfl) (by rfl) (by first | assumption | decide +kernel) (by decide +kernel) ⟨rfl, rfl, rfl, rfl, rfl, by decide +kernel⟩ ?hw ?hc
  case hw => w_witness2
  case hc =>
    refine LamX.walk_ofTsE (l := PySem.Challenge.rw_nimstack_k02_taking_and_codes) (n := 63) (k := 31) (x := "script") (CX := fun w => L2.CX PySem.Challenge.rw_nimstack_k02_taking_and_codes.prog w) rfl (by decide) (by kernel_rfl) ⟨rfl, by decide, by decide⟩ ?F (fun w H s e s' z => by obtain ⟨_, _, _, _, _, _, _, _, _, _, _, _, z⟩ := z; exact z)
    intro w mg fa h Y G hmg0
    obtain ⟨K, KX, c⟩ := Y
    have hmg : mg ("law" : PySem.Str) = some (.ref fa) := by
      have e : (HandSHeadRun.topDef (OpenLaw.row PySem.Challenge.rw_nimstack_k02_taking_and_codes).prog 20).name = ("law" : PySem.Str) := by kernel_rfl
      rw [← e]
      exact hmg0
    refine ⟨K, KX, DL.law_at (d := K02.d_law) (tl := K02.tl) (tf := K02.tf) (nm := fun _ => K02.nm_lplain) KX G c K02.mf_law rfl rfl K02.m_glo_law hmg K02.bn_law (fun p hp => ?_) (fun _ _ _ _ _ => rfl) (fun base fd E F => K02.ok_law E F) (fun ns B q x hl hb hB hq => ⟨ns, rfl, hB _ K02.ml_lplain, hq⟩)⟩
    have e : p = (("_law_plain", none) : He.Defn) := by simpa [K02.tl] using hp
    subst e
    exact of_decide_eq_true c.more
#print axioms PySem.Challenge.cw_nimstack_k02_taking_and_codes_holds
