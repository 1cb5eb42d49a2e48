import PyProof.Rows.All
import Wide.All
import OpenK.AllK
import Wide.FinOn
import HandS.ForMost
import HandS.Exc
import HandS.TryOnly
import HandS.WordsExc
import HandS.Walk
import HandS.Flow
import HandS.Style
import HandS.TupAny
import HandS.Lambda
import KE.GoesEnum
import HandS.AnyAll
import HandS.EndOwn
import HandS.SortInts
import HandS.HeadHook4
import HandS.HeadWalk
import KE.KStateDown
import HandS.Head0
import HandS.Head1
import HandS.Head2
import PySem.Challenge.RW_nimstack_k01_heaps_and_products
set_option Elab.async false
set_option linter.all false
set_option maxRecDepth 100000
/-! DL0: values as trees of data over the hand layer; mutable things are boxes. -/
namespace DL
open PySem PySem.Spec PyProof.Rows L2

/-- a value with all that is never written inside it -/
inductive D where
  | non | bl (b : Bool) | int (i : Int) | str (x : Str) | lst (xs : List D) | tup (xs : List D) | ref (a : Addr) | ty (n : String)
  /-- an object of which φ is known -/
  | obj (φ : Addr → Hp → Prop)
  /-- a list, a tuple of the text or of the caller's, never written -/
  | rol (xs : List D) | rot (xs : List D)

/-- what stands at an address that may be written -/
inductive Box where
  | lst (xs : List D) | dK (kvs : List (Key × D)) | dT (kvs : List (List Key × D)) | ins (C : Addr) (fs : List (Str × D)) | tab
  | ext (φ : Heap → Prop)
  /-- the table of a def's code objects, all of the name q -/
  | tabQ (q : Str)
  /-- a dict while a loop walks it -/
  | lk (o : Obj) (ws : List (Key × V)) (kvs : List (Key × D))

abbrev Bx := Addr → Option Box
def put (B : Bx) (a : Addr) (b : Box) : Bx := fun c => if c = a then some b else B c
def era (B : Bx) (a : Addr) : Bx := fun c => if c = a then none else B c
theorem put_same {B : Bx} {a : Addr} {b : Box} : put B a b a = some b := by unfold put; rw [if_pos rfl]
theorem put_ne {B : Bx} {a c : Addr} {b : Box} (h : c ≠ a) : put B a b c = B c := by unfold put; rw [if_neg h]
theorem put_put {B : Bx} {a : Addr} {b c : Box} : put (put B a b) a c = put B a c := by
  funext x; unfold put; split <;> rfl
theorem era_same {B : Bx} {a : Addr} : era B a a = none := by unfold era; rw [if_pos rfl]
theorem era_ne {B : Bx} {a c : Addr} (h : c ≠ a) : era B a c = B c := by unfold era; rw [if_neg h]
theorem era_put {B : Bx} {a : Addr} {b : Box} (h : B a = none) : era (put B a b) a = B := by
  funext x; unfold era put; split
  · rename_i e; rw [e, h]
  · rfl
/-- fewer boxes -/
def Few (B B' : Bx) : Prop := ∀ a b, B a = some b → B' a = some b
theorem Few.refl (B : Bx) : Few B B := fun _ _ h => h
theorem Few.trans {A B C : Bx} (h : Few A B) (k : Few B C) : Few A C := fun a b e => k a b (h a b e)
theorem Few.put {B : Bx} {a : Addr} {b : Box} (h : B a = none) : Few B (put B a b) := fun c x e => by
  rw [put_ne (fun z => by rw [z, h] at e; cases e)]; exact e
theorem ne_box {B : Bx} {a c : Addr} {b : Box} (h : B a = some b) (h' : B c = none) : a ≠ c := fun e => by rw [e, h'] at h; cases h
theorem ne_boxes {B : Bx} {a c : Addr} {b d : Box} (h : B a = some b) (h' : B c = some d) (n : b ≠ d) : a ≠ c := fun e => by
  rw [e, h'] at h; exact n (Option.some.inj h).symm

section
variable (K : PySem.W.Frag) (F : Hp)
mutual
/-- the value v bears the datum; its lists and tuples stand in F -/
def Dv : D → V → Prop
  | .non, v => v = .non
  | .bl b, v => v = .bl b
  | .int i, v => v = .int i
  | .str x, v => v = .str x
  | .ty n, v => v = .ty n
  | .obj φ, v => ∃ a, v = .ref a ∧ ∀ F', Same F F' → φ a F'
  | .ref a, v => v = .ref a
  | .lst ds, v => ∃ a vs, v = .ref a ∧ F a = some (.lst vs) ∧ Dvs ds vs
  | .tup ds, v => ∃ a vs, v = .ref a ∧ F a = some (.tup vs) ∧ Dvs ds vs
  | .rol ds, v => ∃ a vs, v = .ref a ∧ SqL K F a vs ∧ Dvs ds vs
  | .rot ds, v => ∃ a vs, v = .ref a ∧ SqT K F a vs ∧ Dvs ds vs
def Dvs : List D → List V → Prop
  | [], vs => vs = []
  | d :: ds, vs => ∃ v vs', vs = v :: vs' ∧ Dv d v ∧ Dvs ds vs'
end
end
section
variable {K : PySem.W.Frag} {F F' H H' : Hp}
theorem SqT_mono {a : Addr} {xs : List V} (e : Same F F') (h : SqT K F a xs) : SqT K F' a xs := by
  rcases h with (h | ⟨o, h⟩) | h
  · exact .inl (.inl (e _ _ h))
  · exact .inl (.inr ⟨o, e _ _ h⟩)
  · exact .inr h
mutual
theorem Dv.mono (e : Same F F') : ∀ (d : D) {v : V}, Dv K F d v → Dv K F' d v
  | .non, _, h => h
  | .bl _, _, h => h
  | .int _, _, h => h
  | .str _, _, h => h
  | .ty _, _, h => h
  | .obj φ, _, ⟨a, e1, h⟩ => ⟨a, e1, fun F2 e2 => h F2 (e.trans e2)⟩
  | .ref _, _, h => h
  | .lst ds, _, ⟨a, vs, h1, h2, h3⟩ => ⟨a, vs, h1, e _ _ h2, Dvs.mono e ds h3⟩
  | .tup ds, _, ⟨a, vs, h1, h2, h3⟩ => ⟨a, vs, h1, e _ _ h2, Dvs.mono e ds h3⟩
  | .rol ds, _, ⟨a, vs, h1, h2, h3⟩ => ⟨a, vs, h1, e.seq h2, Dvs.mono e ds h3⟩
  | .rot ds, _, ⟨a, vs, h1, h2, h3⟩ => ⟨a, vs, h1, SqT_mono e h2, Dvs.mono e ds h3⟩
theorem Dvs.mono (e : Same F F') : ∀ (ds : List D) {vs : List V}, Dvs K F ds vs → Dvs K F' ds vs
  | [], _, h => h
  | d :: ds, _, ⟨v, vs, h1, h2, h3⟩ => ⟨v, vs, h1, Dv.mono e d h2, Dvs.mono e ds h3⟩
end
theorem Dvs.nil : Dvs K F [] [] := rfl
theorem Dvs.cons {d : D} {v : V} {ds : List D} {vs : List V} (h : Dv K F d v) (t : Dvs K F ds vs) : Dvs K F (d :: ds) (v :: vs) := ⟨v, vs, rfl, h, t⟩
theorem Dvs.length : ∀ {ds : List D} {vs : List V}, Dvs K F ds vs → vs.length = ds.length
  | [], _, h => by cases h; rfl
  | _ :: ds, _, ⟨v, vs, e, _, t⟩ => by subst e; simp [Dvs.length t]
theorem Dvs.get : ∀ {ds : List D} {vs : List V} {i : Nat} {d : D}, Dvs K F ds vs → ds[i]? = some d → ∃ v, vs[i]? = some v ∧ Dv K F d v
  | [], _, _, _, _, e => by simp at e
  | x :: ds, _, 0, d, ⟨v, vs, e1, h, t⟩, e => by subst e1; simp at e; subst e; exact ⟨v, rfl, h⟩
  | x :: ds, _, i + 1, d, ⟨v, vs, e1, h, t⟩, e => by
    subst e1
    obtain ⟨u, h1, h2⟩ := Dvs.get (i := i) (d := d) t (by simpa using e)
    exact ⟨u, by simpa using h1, h2⟩
theorem Dvs.getV : ∀ {ds : List D} {vs : List V} {i : Nat} {v : V}, Dvs K F ds vs → vs[i]? = some v → ∃ d, ds[i]? = some d ∧ Dv K F d v := fun {ds vs i v} h e => by
  have hl := h.length
  have hi : i < ds.length := by rw [← hl]; exact (List.getElem?_eq_some_iff.mp e).1
  obtain ⟨u, h1, h2⟩ := h.get (List.getElem?_eq_getElem hi)
  rw [e] at h1; cases h1
  exact ⟨_, List.getElem?_eq_getElem hi, h2⟩
theorem Dvs.append : ∀ {ds es : List D} {vs us : List V}, Dvs K F ds vs → Dvs K F es us → Dvs K F (ds ++ es) (vs ++ us)
  | [], _, _, _, h, k => by cases h; exact k
  | _ :: _, _, _, _, ⟨v, vs, e, h, t⟩, k => by subst e; exact ⟨v, vs ++ _, rfl, h, t.append k⟩
theorem Dvs.take : ∀ {ds : List D} {vs : List V} (n : Nat), Dvs K F ds vs → Dvs K F (ds.take n) (vs.take n)
  | _, _, 0, _ => rfl
  | [], _, n + 1, h => by cases h; rfl
  | _ :: _, _, n + 1, ⟨v, vs, e, h, t⟩ => by subst e; exact ⟨v, vs.take n, rfl, h, t.take n⟩
theorem Dvs.drop : ∀ {ds : List D} {vs : List V} (n : Nat), Dvs K F ds vs → Dvs K F (ds.drop n) (vs.drop n)
  | _, _, 0, h => h
  | [], _, n + 1, h => by cases h; rfl
  | _ :: _, _, n + 1, ⟨v, vs, e, h, t⟩ => by subst e; exact t.drop n
theorem Dvs.set : ∀ {ds : List D} {vs : List V} {d : D} {v : V} (i : Nat), Dvs K F ds vs → Dv K F d v → Dvs K F (ds.set i d) (vs.set i v)
  | [], _, _, _, _, h, _ => by cases h; rfl
  | _ :: _, _, _, v, 0, ⟨_, vs, e, _, t⟩, k => by subst e; exact ⟨v, vs, rfl, k, t⟩
  | _ :: _, _, _, _, i + 1, ⟨u, vs, e, h, t⟩, k => by subst e; exact ⟨u, vs.set i _, rfl, h, t.set i k⟩
theorem Dvs.reverse : ∀ {ds : List D} {vs : List V}, Dvs K F ds vs → Dvs K F ds.reverse vs.reverse
  | [], _, h => by cases h; rfl
  | _ :: _, _, ⟨v, vs, e, h, t⟩ => by subst e; rw [List.reverse_cons, List.reverse_cons]; exact t.reverse.append ⟨v, [], rfl, h, rfl⟩
theorem Dvs.ints : ∀ {ns : List Int} {vs : List V}, Dvs K F (ns.map D.int) vs → vs = ns.map V.int
  | [], _, h => h
  | n :: ns, _, ⟨v, vs, e, h, t⟩ => by subst e; rw [show v = V.int n from h, Dvs.ints t]; rfl
theorem Dvs.ofInts : ∀ (ns : List Int), Dvs K F (ns.map D.int) (ns.map V.int)
  | [] => rfl
  | n :: ns => ⟨_, _, rfl, rfl, Dvs.ofInts ns⟩
theorem Dvs.strs : ∀ {ns : List Str} {vs : List V}, Dvs K F (ns.map D.str) vs → vs = ns.map V.str
  | [], _, h => h
  | n :: ns, _, ⟨v, vs, e, h, t⟩ => by subst e; rw [show v = V.str n from h, Dvs.strs t]; rfl
theorem Dvs.bls : ∀ {ns : List Bool} {vs : List V}, Dvs K F (ns.map D.bl) vs → vs = ns.map V.bl
  | [], _, h => h
  | n :: ns, _, ⟨v, vs, e, h, t⟩ => by subst e; rw [show v = V.bl n from h, Dvs.bls t]; rfl
end

/-- keys beside data -/
def DKv (K : PySem.W.Frag) (F : Hp) {κ : Type} : List (κ × D) → List (κ × V) → Prop
  | [], ws => ws = []
  | (k, d) :: kvs, ws => ∃ v ws', ws = (k, v) :: ws' ∧ Dv K F d v ∧ DKv K F kvs ws'
section
variable {K : PySem.W.Frag} {F F' H H' : Hp} {κ : Type}
theorem DKv.mono (e : Same F F') : ∀ {kvs : List (κ × D)} {ws : List (κ × V)}, DKv K F kvs ws → DKv K F' kvs ws
  | [], _, h => h
  | _ :: _, _, ⟨v, ws, h1, h2, h3⟩ => ⟨v, ws, h1, h2.mono e, h3.mono e⟩
theorem DKv.length : ∀ {kvs : List (κ × D)} {ws : List (κ × V)}, DKv K F kvs ws → ws.length = kvs.length
  | [], _, h => by cases h; rfl
  | _ :: _, _, ⟨v, ws, h1, h2, h3⟩ => by subst h1; simp [h3.length]
theorem DKv.keys : ∀ {kvs : List (κ × D)} {ws : List (κ × V)}, DKv K F kvs ws → ws.map (·.1) = kvs.map (·.1)
  | [], _, h => by cases h; rfl
  | _ :: _, _, ⟨v, ws, h1, h2, h3⟩ => by subst h1; simp [h3.keys]
theorem DKv.append : ∀ {kvs kvs' : List (κ × D)} {ws ws' : List (κ × V)}, DKv K F kvs ws → DKv K F kvs' ws' → DKv K F (kvs ++ kvs') (ws ++ ws')
  | [], _, _, _, h, k => by cases h; exact k
  | (_, _) :: _, _, _, _, ⟨v, ws, h1, h2, h3⟩, k => by subst h1; exact ⟨v, ws ++ _, rfl, h2, h3.append k⟩
end

def BoxOk (K : PySem.W.Frag) (F H : Hp) : Box → Addr → Prop
  | .lst ds, a => ∃ vs, H a = some (.lst vs) ∧ Dvs K F ds vs
  | .dK kvs, a => ∃ ws, H a = some (.dK ws) ∧ DKv K F kvs ws
  | .dT kvs, a => ∃ ws, H a = some (.dT ws) ∧ DKv K F kvs ws
  | .ins C fs, a => ∃ dx ws, H a = some (.ins C dx ws) ∧ DKv K F fs ws
  | .tab, a => ∃ ps : Array Value, H a = some (.tbl ps) ∧ TriplesOk ps.toList
  | .ext φ, a => H a = some (.ext φ)
  | .tabQ q, a => ∃ ps : Array Value, H a = some (.tbl ps) ∧ TriplesOk ps.toList ∧ ∀ (pos : Pos) (cv : Value), codeAmong pos ps.toList = some cv → ∃ c, cv = .ref c ∧ F c = some (LamX.CodeO c q)
  | .lk o ws kvs, a => H a = some (.frz o (.dK ws)) ∧ DKv K F kvs ws
theorem BoxOk.there {K : PySem.W.Frag} {F H : Hp} {b : Box} {a : Addr} (h : BoxOk K F H b a) : ∃ o, H a = some o := by
  cases b with
  | lst ds => obtain ⟨_, e, _⟩ := h; exact ⟨_, e⟩
  | dK ds => obtain ⟨_, e, _⟩ := h; exact ⟨_, e⟩
  | dT ds => obtain ⟨_, e, _⟩ := h; exact ⟨_, e⟩
  | ins C fs => obtain ⟨_, _, e, _⟩ := h; exact ⟨_, e⟩
  | tab => obtain ⟨_, e, _⟩ := h; exact ⟨_, e⟩
  | ext φ => exact ⟨_, h⟩
  | tabQ q => obtain ⟨_, e, _⟩ := h; exact ⟨_, e⟩
  | lk o ws kvs => exact ⟨_, h.1⟩
theorem BoxOk.mono {K : PySem.W.Frag} {F F' H H' : Hp} {b : Box} {a : Addr} (eF : Same F F') (eH : H' a = H a) (h : BoxOk K F H b a) : BoxOk K F' H' b a := by
  cases b with
  | lst ds => obtain ⟨vs, e, r⟩ := h; exact ⟨vs, eH.trans e, r.mono eF⟩
  | dK ds => obtain ⟨vs, e, r⟩ := h; exact ⟨vs, eH.trans e, r.mono eF⟩
  | dT ds => obtain ⟨vs, e, r⟩ := h; exact ⟨vs, eH.trans e, r.mono eF⟩
  | ins C fs => obtain ⟨dx, vs, e, r⟩ := h; exact ⟨dx, vs, eH.trans e, r.mono eF⟩
  | tab => obtain ⟨ps, e, r⟩ := h; exact ⟨ps, eH.trans e, r⟩
  | ext φ => exact eH.trans h
  | tabQ q => obtain ⟨ps, e, r, k⟩ := h; exact ⟨ps, eH.trans e, r, fun pos cv hc => let ⟨c, e1, e2⟩ := k pos cv hc; ⟨c, e1, eF _ _ e2⟩⟩
  | lk o ws kvs => exact ⟨eH.trans h.1, h.2.mono eF⟩

/-- the heap H: the data in F, the boxes B that one speaks of, the boxes R that one does not; the tables at TS are among R -/
structure RepH (K : PySem.W.Frag) (TS : List Addr) (F H : Hp) (B R : Bx) : Prop where
  le : Same F H
  bx : ∀ a b, B a = some b → F a = none ∧ BoxOk K F H b a
  rx : ∀ a b, R a = some b → F a = none ∧ BoxOk K F H b a
  dj : ∀ a, B a = none ∨ R a = none
  tb : ∀ P ∈ TS, R P = some .tab
section
variable {K : PySem.W.Frag} {TS : List Addr} {F F' H H' : Hp} {B B' R : Bx} {a p : Addr} {o : HO} {b : Box}
theorem RepH.freeF (r : RepH K TS F H B R) (h : H p = none) : F p = none := r.le.free h
theorem RepH.freeB (r : RepH K TS F H B R) (h : H p = none) : B p = none := by
  cases q : B p with
  | none => rfl
  | some b => obtain ⟨o, e⟩ := (r.bx p b q).2.there; rw [h] at e; cases e
theorem RepH.freeR (r : RepH K TS F H B R) (h : H p = none) : R p = none := by
  cases q : R p with
  | none => rfl
  | some b => obtain ⟨o, e⟩ := (r.rx p b q).2.there; rw [h] at e; cases e
theorem same_upd {F : Hp} {p : Addr} {o : HO} (h : F p = none) : Same F (upd F p o) := fun c u e => by rw [upd_ne (ne_of_none e h)]; exact e
theorem RepH.there (r : RepH K TS F H B R) (h : B a = some b) : ∃ o, H a = some o := (r.bx a b h).2.there
/-- the tracked heap has grown, or changed where nothing is known -/
theorem RepH.same (r : RepH K TS F H B R) (e : Same H H') : RepH K TS F H' B R where
  le := r.le.trans e
  bx := fun a b h => by
    obtain ⟨h1, h2⟩ := r.bx a b h
    obtain ⟨o, ho⟩ := h2.there
    exact ⟨h1, h2.mono (Same.refl F) ((e _ _ ho).trans ho.symm)⟩
  rx := fun a b h => by
    obtain ⟨h1, h2⟩ := r.rx a b h
    obtain ⟨o, ho⟩ := h2.there
    exact ⟨h1, h2.mono (Same.refl F) ((e _ _ ho).trans ho.symm)⟩
  dj := r.dj
  tb := r.tb
/-- a new datum -/
theorem RepH.datum (r : RepH K TS F H B R) (h : H p = none) : RepH K TS (upd F p o) (upd H p o) B R := by
  have hF := r.freeF h
  refine ⟨fun c u e => ?_, fun c u e => ?_, fun c u e => ?_, r.dj, r.tb⟩
  · by_cases hc : c = p
    · rw [hc, upd_same] at e; rw [hc, upd_same]; exact e
    · rw [upd_ne hc] at e ⊢; exact r.le _ _ e
  · have hc : c ≠ p := ne_box e (r.freeB h)
    obtain ⟨h1, h2⟩ := r.bx c u e
    exact ⟨by rw [upd_ne hc]; exact h1, h2.mono (same_upd hF) (upd_ne hc)⟩
  · have hc : c ≠ p := ne_box e (r.freeR h)
    obtain ⟨h1, h2⟩ := r.rx c u e
    exact ⟨by rw [upd_ne hc]; exact h1, h2.mono (same_upd hF) (upd_ne hc)⟩
/-- a new box -/
theorem RepH.box (r : RepH K TS F H B R) (h : H p = none) (hb : BoxOk K F (upd H p o) b p) : RepH K TS F (upd H p o) (put B p b) R := by
  have hF := r.freeF h
  refine ⟨fun c u e => ?_, fun c u e => ?_, fun c u e => ?_, fun c => ?_, r.tb⟩
  · rw [upd_ne (ne_of_none e hF)]; exact r.le _ _ e
  · by_cases hc : c = p
    · rw [hc, put_same] at e; cases e; rw [hc]; exact ⟨hF, hb⟩
    · rw [put_ne hc] at e
      obtain ⟨h1, h2⟩ := r.bx c u e
      exact ⟨h1, h2.mono (Same.refl F) (upd_ne hc)⟩
  · have hc : c ≠ p := ne_box e (r.freeR h)
    obtain ⟨h1, h2⟩ := r.rx c u e
    exact ⟨h1, h2.mono (Same.refl F) (upd_ne hc)⟩
  · by_cases hc : c = p
    · rw [hc]; exact .inr (r.freeR h)
    · rw [put_ne hc]; exact r.dj c
/-- a new box among those that one does not speak of -/
theorem RepH.boxR (r : RepH K TS F H B R) (h : H p = none) (hb : BoxOk K F (upd H p o) b p) : RepH K TS F (upd H p o) B (put R p b) := by
  have hF := r.freeF h
  refine ⟨fun c u e => ?_, fun c u e => ?_, fun c u e => ?_, fun c => ?_, fun P hP => ?_⟩
  · rw [upd_ne (ne_of_none e hF)]; exact r.le _ _ e
  · have hc : c ≠ p := ne_box e (r.freeB h)
    obtain ⟨h1, h2⟩ := r.bx c u e
    exact ⟨h1, h2.mono (Same.refl F) (upd_ne hc)⟩
  · by_cases hc : c = p
    · rw [hc, put_same] at e; cases e; rw [hc]; exact ⟨hF, hb⟩
    · rw [put_ne hc] at e
      obtain ⟨h1, h2⟩ := r.rx c u e
      exact ⟨h1, h2.mono (Same.refl F) (upd_ne hc)⟩
  · by_cases hc : c = p
    · rw [hc]; exact .inl (r.freeB h)
    · rw [put_ne hc]; exact r.dj c
  · rw [put_ne (ne_box (r.tb P hP) (r.freeR h))]; exact r.tb P hP
/-- a box is written -/
theorem RepH.write {c : Box} (r : RepH K TS F H B R) (h : B a = some c) (hb : BoxOk K F (upd H a o) b a) : RepH K TS F (upd H a o) (put B a b) R := by
  obtain ⟨hF, _⟩ := r.bx a c h
  have hR : R a = none := by
    rcases r.dj a with z | z
    · rw [h] at z; cases z
    · exact z
  refine ⟨fun c u e => ?_, fun c u e => ?_, fun c u e => ?_, fun c => ?_, r.tb⟩
  · rw [upd_ne (ne_of_none e hF)]; exact r.le _ _ e
  · by_cases hc : c = a
    · rw [hc, put_same] at e; cases e; rw [hc]; exact ⟨hF, hb⟩
    · rw [put_ne hc] at e
      obtain ⟨h1, h2⟩ := r.bx c u e
      exact ⟨h1, h2.mono (Same.refl F) (upd_ne hc)⟩
  · have hc : c ≠ a := ne_box e hR
    obtain ⟨h1, h2⟩ := r.rx c u e
    exact ⟨h1, h2.mono (Same.refl F) (upd_ne hc)⟩
  · by_cases hc : c = a
    · rw [hc]; exact .inr hR
    · rw [put_ne hc]; exact r.dj c
theorem RepH.writeR {c : Box} (r : RepH K TS F H B R) (h : R a = some c) (nt : c ≠ .tab ∨ b = .tab) (hb : BoxOk K F (upd H a o) b a) : RepH K TS F (upd H a o) B (put R a b) := by
  obtain ⟨hF, _⟩ := r.rx a c h
  have hB : B a = none := by
    rcases r.dj a with z | z
    · exact z
    · rw [h] at z; cases z
  refine ⟨fun c u e => ?_, fun c u e => ?_, fun c u e => ?_, fun c => ?_, fun P hP => ?_⟩
  · rw [upd_ne (ne_of_none e hF)]; exact r.le _ _ e
  · have hc : c ≠ a := ne_box e hB
    obtain ⟨h1, h2⟩ := r.bx c u e
    exact ⟨h1, h2.mono (Same.refl F) (upd_ne hc)⟩
  · by_cases hc : c = a
    · rw [hc, put_same] at e; cases e; rw [hc]; exact ⟨hF, hb⟩
    · rw [put_ne hc] at e
      obtain ⟨h1, h2⟩ := r.rx c u e
      exact ⟨h1, h2.mono (Same.refl F) (upd_ne hc)⟩
  · by_cases hc : c = a
    · rw [hc]; exact .inl hB
    · rw [put_ne hc]; exact r.dj c
  · by_cases hc : P = a
    · rw [hc, put_same]
      have e := r.tb P hP
      rw [hc, h] at e
      rcases nt with z | z
      · exact absurd (Option.some.inj e) z
      · rw [z]
    · rw [put_ne hc]; exact r.tb P hP
/-- fewer boxes are spoken of -/
theorem RepH.few (r : RepH K TS F H B R) (f : Few B' B) : RepH K TS F H B' R :=
  ⟨r.le, fun a b h => r.bx a b (f a b h), r.rx, fun a => (r.dj a).imp (fun z => by
    cases q : B' a with
    | none => rfl
    | some b => rw [f a b q] at z; cases z) id, r.tb⟩
/-- a list that is never written again becomes a datum -/
theorem RepH.freeze {ds : List D} (r : RepH K TS F H B R) (h : B a = some (.lst ds)) : ∃ F', Same F F' ∧ RepH K TS F' H (era B a) R ∧ Dv K F' (.lst ds) (.ref a) := by
  obtain ⟨hF, vs, hH, dv⟩ := r.bx a _ h
  have hR : R a = none := by
    rcases r.dj a with z | z
    · rw [h] at z; cases z
    · exact z
  have sm : Same F (upd F a (.lst vs)) := same_upd hF
  refine ⟨upd F a (.lst vs), sm, ⟨fun c u e => ?_, fun c u e => ?_, fun c u e => ?_, fun c => ?_, r.tb⟩, a, vs, rfl, upd_same, dv.mono sm⟩
  · by_cases hc : c = a
    · rw [hc, upd_same] at e; cases e; rw [hc]; exact hH
    · rw [upd_ne hc] at e; exact r.le _ _ e
  · by_cases hc : c = a
    · rw [hc, era_same] at e; cases e
    · rw [era_ne hc] at e
      obtain ⟨h1, h2⟩ := r.bx c u e
      exact ⟨by rw [upd_ne hc]; exact h1, h2.mono sm rfl⟩
  · have hc : c ≠ a := ne_box e hR
    obtain ⟨h1, h2⟩ := r.rx c u e
    exact ⟨by rw [upd_ne hc]; exact h1, h2.mono sm rfl⟩
  · by_cases hc : c = a
    · rw [hc]; exact .inl era_same
    · rw [era_ne hc]; exact r.dj c
/-- .. one of those that one does not speak of -/
theorem RepH.freezeR {ds : List D} (r : RepH K TS F H B R) (h : R a = some (.lst ds)) (nt : a ∉ TS) : ∃ F', Same F F' ∧ RepH K TS F' H B (era R a) ∧ Dv K F' (.lst ds) (.ref a) := by
  obtain ⟨hF, vs, hH, dv⟩ := r.rx a _ h
  have hB : B a = none := by
    rcases r.dj a with z | z
    · exact z
    · rw [h] at z; cases z
  have sm : Same F (upd F a (.lst vs)) := same_upd hF
  refine ⟨upd F a (.lst vs), sm, ⟨fun c u e => ?_, fun c u e => ?_, fun c u e => ?_, fun c => ?_, fun P hP => ?_⟩, a, vs, rfl, upd_same, dv.mono sm⟩
  · by_cases hc : c = a
    · rw [hc, upd_same] at e; cases e; rw [hc]; exact hH
    · rw [upd_ne hc] at e; exact r.le _ _ e
  · have hc : c ≠ a := ne_box e hB
    obtain ⟨h1, h2⟩ := r.bx c u e
    exact ⟨by rw [upd_ne hc]; exact h1, h2.mono sm rfl⟩
  · by_cases hc : c = a
    · rw [hc, era_same] at e; cases e
    · rw [era_ne hc] at e
      obtain ⟨h1, h2⟩ := r.rx c u e
      exact ⟨by rw [upd_ne hc]; exact h1, h2.mono sm rfl⟩
  · by_cases hc : c = a
    · rw [hc]; exact .inr era_same
    · rw [era_ne hc]; exact r.dj c
  · rw [era_ne (show P ≠ a from fun z => nt (by rw [← z]; exact hP))]; exact r.tb P hP
/-- a hidden box is handed over -/
theorem RepH.show (r : RepH K TS F H B R) (h : R a = some b) (nt : a ∉ TS) : RepH K TS F H (put B a b) (era R a) := by
  obtain ⟨hF, ok⟩ := r.rx a _ h
  refine ⟨r.le, fun c u e => ?_, fun c u e => ?_, fun c => ?_, fun P hP => ?_⟩
  · by_cases hc : c = a
    · rw [hc, put_same] at e; cases e; rw [hc]; exact ⟨hF, ok⟩
    · rw [put_ne hc] at e; exact r.bx c u e
  · by_cases hc : c = a
    · rw [hc, era_same] at e; cases e
    · rw [era_ne hc] at e; exact r.rx c u e
  · by_cases hc : c = a
    · rw [hc]; exact .inr era_same
    · rw [put_ne hc, era_ne hc]; exact r.dj c
  · rw [era_ne (show P ≠ a from fun z => nt (by rw [← z]; exact hP))]; exact r.tb P hP
end

/-! ### slots -/
abbrev Gm := List (Option D)
structure Slots (K : PySem.W.Frag) (F : Hp) (σ : L2.St) (Γ : Gm) : Prop where
  len : Γ.length = σ.length
  at_ : ∀ (i : Nat) (d : D), Γ[i]? = some (some d) → ∃ v, σ[i]? = some (some v) ∧ Dv K F d v
section
variable {K : PySem.W.Frag} {F F' : Hp} {σ : L2.St} {Γ : Gm}
theorem Slots.mono (s : Slots K F σ Γ) (e : Same F F') : Slots K F' σ Γ := ⟨s.len, fun i d h => by
  obtain ⟨v, h1, h2⟩ := s.at_ i d h
  exact ⟨v, h1, h2.mono e⟩⟩
theorem Slots.set (s : Slots K F σ Γ) (i : Nat) {d : D} {v : V} (h : Dv K F d v) : Slots K F (σ.set i (some v)) (Γ.set i (some d)) := ⟨by simp [s.len], fun j e hj => by
  by_cases hji : i = j
  · subst hji
    by_cases hi : i < Γ.length
    · rw [List.getElem?_set_self hi] at hj
      cases hj
      exact ⟨v, by rw [List.getElem?_set_self (by rw [← s.len]; exact hi)], h⟩
    · rw [List.getElem?_eq_none (by simpa using hi)] at hj; cases hj
  · rw [List.getElem?_set_ne hji] at hj
    obtain ⟨u, h1, h2⟩ := s.at_ j e hj
    exact ⟨u, by rw [List.getElem?_set_ne hji]; exact h1, h2⟩⟩
/-- slots may be forgotten -/
theorem Slots.drop {Γ' : Gm} (s : Slots K F σ Γ) (hl : Γ'.length = Γ.length) (h : ∀ (i : Nat) (d : D), Γ'[i]? = some (some d) → Γ[i]? = some (some d)) : Slots K F σ Γ' :=
  ⟨hl.trans s.len, fun i d e => s.at_ i d (h i d e)⟩
end
end DL
set_option Elab.async false
set_option linter.all false
set_option maxRecDepth 100000
set_option maxHeartbeats 1000000
/-! DL1: readings at the level of data; expressions. -/
namespace DL
open PySem PySem.Spec PyProof.Rows L2

abbrev DK := D → Bx → Prop
abbrev XD := Addr → Bx → Prop
abbrev DTE := Gm → Bx → DK → XD → Prop
abbrev DTT := Gm → Bx → (Bool → Bx → Prop) → XD → Prop
abbrev DTA := Gm → Bx → (List D → Bx → Prop) → XD → Prop

/-- what is wanted at the level of data carries over -/
def QL (K : PySem.W.Frag) (TS : List Addr) (F : Hp) (R : Bx) (q : DK) (Q : VK) : Prop := ∀ d B' F' H' v, q d B' → Same F F' → RepH K TS F' H' B' R → Dv K F' d v → Q v H'
def QB (K : PySem.W.Frag) (TS : List Addr) (F : Hp) (R : Bx) (q : Bool → Bx → Prop) (Q : Bool → Hp → Prop) : Prop := ∀ b B' F' H', q b B' → Same F F' → RepH K TS F' H' B' R → Q b H'
def QA (K : PySem.W.Frag) (TS : List Addr) (F : Hp) (R : Bx) (q : List D → Bx → Prop) (Q : List V → Hp → Prop) : Prop := ∀ ds B' F' H' vs, q ds B' → Same F F' → RepH K TS F' H' B' R → Dvs K F' ds vs → Q vs H'
def XL (K : PySem.W.Frag) (TS : List Addr) (W : WX) (F : Hp) (R : Bx) (σ : L2.St) (x : XD) : Prop := ∀ C B' F' H', x C B' → Same F F' → RepH K TS F' H' B' R → W (.ref C) none σ H'
section
variable {K : PySem.W.Frag} {TS : List Addr} {W : WX} {F F' : Hp} {R : Bx} {σ : L2.St} {q : DK} {Q : VK} {x : XD}
theorem QL.mono (h : QL K TS F R q Q) (e : Same F F') : QL K TS F' R q Q := fun d B' F2 H' v hq e2 => h d B' F2 H' v hq (e.trans e2)
theorem QB.mono {q : Bool → Bx → Prop} {Q : Bool → Hp → Prop} (h : QB K TS F R q Q) (e : Same F F') : QB K TS F' R q Q := fun d B' F2 H' hq e2 => h d B' F2 H' hq (e.trans e2)
theorem QA.mono {q : List D → Bx → Prop} {Q : List V → Hp → Prop} (h : QA K TS F R q Q) (e : Same F F') : QA K TS F' R q Q := fun d B' F2 H' v hq e2 => h d B' F2 H' v hq (e.trans e2)
theorem XL.mono (h : XL K TS W F R σ x) (e : Same F F') : XL K TS W F' R σ x := fun C B' F2 H' hq e2 => h C B' F2 H' hq (e.trans e2)
end
/-- the lifted readings -/
def LE (K : PySem.W.Frag) (TS : List Addr) (W : WX) (t : DTE) : TE := fun σ H Q => ∃ F Γ B R q x, Slots K F σ Γ ∧ RepH K TS F H B R ∧ t Γ B q x ∧ QL K TS F R q Q ∧ XL K TS W F R σ x
def LT (K : PySem.W.Frag) (TS : List Addr) (W : WX) (t : DTT) : TT := fun σ H Q => ∃ F Γ B R q x, Slots K F σ Γ ∧ RepH K TS F H B R ∧ t Γ B q x ∧ QB K TS F R q Q ∧ XL K TS W F R σ x
def LA (K : PySem.W.Frag) (TS : List Addr) (W : WX) (t : DTA) : TA := fun σ H Q => ∃ F Γ B R q x, Slots K F σ Γ ∧ RepH K TS F H B R ∧ t Γ B q x ∧ QA K TS F R q Q ∧ XL K TS W F R σ x

def DE (X : Cx) (TS : List Addr) (W : WX) (e : Expr) (t : DTE) : Prop := PE X e (LE X.K TS W t)
def DT (X : Cx) (TS : List Addr) (W : WX) (e : Expr) (t : DTT) : Prop := PT X e (LT X.K TS W t)
def DW (X : Cx) (TS : List Addr) (W : WX) (e : Expr) (t : DTT) : Prop := PW X e (LT X.K TS W t)
def DA (X : Cx) (TS : List Addr) (W : WX) (es : List Expr) (t : DTA) : Prop := PA X es (LA X.K TS W t)

theorem PE_imp {X : Cx} {e : Expr} {t t' : TE} (h : PE X e t) (k : ∀ σ H Q, t' σ H Q → t σ H Q) : PE X e t' := ⟨fun pins s σ H Q I hw => h.run pins s σ H Q I (k σ H Q hw)⟩
theorem PT_imp {X : Cx} {e : Expr} {t t' : TT} (h : PT X e t) (k : ∀ σ H Q, t' σ H Q → t σ H Q) : PT X e t' := ⟨fun pins s σ H Q I hw => h.run pins s σ H Q I (k σ H Q hw)⟩
theorem PW_imp {X : Cx} {e : Expr} {t t' : TT} (h : PW X e t) (k : ∀ σ H Q, t' σ H Q → t σ H Q) : PW X e t' := ⟨fun wh pins s σ H Q I hw => h.run wh pins s σ H Q I (k σ H Q hw)⟩
theorem PA_imp {X : Cx} {e : List Expr} {t t' : TA} (h : PA X e t) (k : ∀ σ H Q, t' σ H Q → t σ H Q) : PA X e t' := ⟨fun pos pins s σ H Q I hw => h.run pos pins s σ H Q I (k σ H Q hw)⟩

/-! ### slots at the level of data -/
def getS : Gm → Nat → Option D
  | [], _ => none
  | a :: _, 0 => a
  | _ :: r, i + 1 => getS r i
def setS : Gm → Nat → D → Gm
  | [], _, _ => []
  | _ :: r, 0, d => some d :: r
  | a :: r, i + 1, d => a :: setS r i d
theorem getS_at : ∀ {Γ : Gm} {i : Nat} {d : D}, getS Γ i = some d → Γ[i]? = some (some d)
  | [], _, _, h => by cases h
  | a :: _, 0, d, h => by have h : a = some d := h; subst h; rfl
  | _ :: r, i + 1, d, h => by simpa using getS_at (Γ := r) (i := i) h
theorem setS_eq : ∀ (Γ : Gm) (i : Nat) (d : D), setS Γ i d = Γ.set i (some d)
  | [], _, _ => by simp [setS]
  | _ :: _, 0, _ => rfl
  | _ :: r, i + 1, d => by simp [setS, setS_eq r i d]

section
variable {X : Cx} {TS : List Addr} {W : WX} {a b e : Expr} {ta tb te : DTE} {pos : Pos}

/-! ### names, constants -/
def dVar (i : Nat) : DTE := fun Γ B q _ => match getS Γ i with
  | some d => q d B
  | none => False
def dC (d : D) : DTE := fun _ B q _ => q d B
theorem de_of {t : TE} {u : DTE} (h : PE X e t) (k : ∀ σ H Q F Γ B R q x, Slots X.K F σ Γ → RepH X.K TS F H B R → u Γ B q x → QL X.K TS F R q Q → XL X.K TS W F R σ x → t σ H Q) : DE X TS W e u :=
  PE_imp h fun σ H Q ⟨F, Γ, B, R, q, x, s, r, hu, hq, hx⟩ => k σ H Q F Γ B R q x s r hu hq hx
theorem de_v {i : Nat} (h : PE X e (tVar i)) : DE X TS W e (dVar i) := de_of h fun σ H Q F Γ B R q x s r hu hq hx => by
  unfold dVar at hu
  cases hg : getS Γ i with
  | none => rw [hg] at hu; exact hu.elim
  | some d =>
    rw [hg] at hu
    obtain ⟨v, h1, h2⟩ := s.at_ i d (getS_at hg)
    exact ⟨v, h1, hq d B F H v hu (Same.refl F) r h2⟩
/-- the name in slot i -/
theorem dv (i : Nat) {x : Str} {pos : Pos} (hN : X.N[i]? = some x := by rfl) (hv : Vis X.env.scope x := by first | exact Or.inl rfl | exact Or.inr (Or.inl rfl) | exact Or.inr (Or.inr rfl)) (hd : (x == ("__debug__" : Str)) = false := by decide)
    (hcd : (x == ("__classdict__" : Str)) = false := by decide) : DE X TS W (.Name x pos) (dVar i) := de_v (pe_var hN hv hd hcd)
theorem de_c {v : V} {d : D} (h : PE X e (tC v)) (hd : ∀ F, Dv X.K F d v) : DE X TS W e (dC d) := de_of h fun σ H Q F Γ B R q x s r hu hq hx => hq d B F H v hu (Same.refl F) r (hd F)
theorem de_int {i j} : DE X TS W (.Constant (.int i) j pos) (dC (.int i)) := de_c pe_int fun _ => rfl
theorem de_bl {b j} : DE X TS W (.Constant (.bool b) j pos) (dC (.bl b)) := de_c pe_bl fun _ => rfl
theorem de_non {j} : DE X TS W (.Constant .none j pos) (dC .non) := de_c pe_non fun _ => rfl
theorem de_str {x j} : DE X TS W (.Constant (.str x) j pos) (dC (.str x)) := de_c pe_str fun _ => rfl
/-- a module's constant -/
theorem de_glob {x : Str} {d : D} {v : V} {u : Value} (hg : Gl X x) (hm : X.mg x = some u) (r : RelV v u) (hd : ∀ F, Dv X.K F d v) (hdb : (x == ("__debug__" : Str)) = false := by decide) : DE X TS W (.Name x pos) (dC d) := de_c (pe_glob hg hm r hdb) hd

/-! ### operators -/
abbrev G2 := D → D → Bx → DK → Prop
abbrev G1 := D → Bx → DK → Prop
def OpD (K : PySem.W.Frag) (TS : List Addr) (r : R2) (g : G2) : Prop := ∀ F H B R d e v u q Q, RepH K TS F H B R → Dv K F d v → Dv K F e u → g d e B q → QL K TS F R q Q → r v u H Q
def UnD (K : PySem.W.Frag) (TS : List Addr) (r : V → Hp → VK → Prop) (g : G1) : Prop := ∀ F H B R d v q Q, RepH K TS F H B R → Dv K F d v → g d B q → QL K TS F R q Q → r v H Q
def dOp (g : G2) (ta tb : DTE) : DTE := fun Γ B q x => ta Γ B (fun d B1 => tb Γ B1 (fun e B2 => g d e B2 q) x) x
def dUn (g : G1) (ta : DTE) : DTE := fun Γ B q x => ta Γ B (fun d B1 => g d B1 q) x
/-- two operands in a row -/
theorem two_lift {K : PySem.W.Frag} {r : R2} {g : G2} (ho : OpD K TS r g) {σ : L2.St} {H : Hp} {Q : VK} (h : LE K TS W (dOp g ta tb) σ H Q) : tOp r (LE K TS W ta) (LE K TS W tb) σ H Q := by
  obtain ⟨F, Γ, B, R, q, x, s, rp, hu, hq, hx⟩ := h
  refine ⟨F, Γ, B, R, _, x, s, rp, hu, fun d B1 F1 H1 v h1 e1 rp1 dv1 => ?_, hx⟩
  refine ⟨F1, Γ, B1, R, _, x, s.mono e1, rp1, h1, fun e B2 F2 H2 u h2 e2 rp2 dv2 => ?_, hx.mono e1⟩
  exact ho F2 H2 B2 R d e v u q Q rp2 (dv1.mono e2) dv2 h2 (hq.mono (e1.trans e2))
theorem de_op {op : Operator} {r : R2} {g : G2} (ho : OpR X (binaryOp op) r) (hg : OpD X.K TS r g) (ha : DE X TS W a ta) (hb : DE X TS W b tb) : DE X TS W (.BinOp a op b pos) (dOp g ta tb) :=
  PE_imp (pe_op ho ha hb) fun _ _ _ => two_lift hg
theorem de_un {op : UnaryOp} {r : V → Hp → VK → Prop} {g : G1} (ho : UnR X (unaryOp op) r) (hg : UnD X.K TS r g) (ha : DE X TS W a ta) : DE X TS W (.UnaryOp op a pos) (dUn g ta) :=
  PE_imp (pe_un ho ha) fun σ H Q ⟨F, Γ, B, R, q, x, s, rp, hu, hq, hx⟩ =>
    ⟨F, Γ, B, R, _, x, s, rp, hu, fun d B1 F1 H1 v h1 e1 rp1 dv1 => hg F1 H1 B1 R d v q Q rp1 dv1 h1 (hq.mono e1), hx⟩

/-! #### whole numbers -/
def gI (f : Int → Int → D) : G2 := fun d e B q => match d, e with
  | .int i, .int j => q (f i j) B
  | _, _ => False
def gIC (C : Int → Int → Prop) (f : Int → Int → D) : G2 := fun d e B q => match d, e with
  | .int i, .int j => C i j ∧ q (f i j) B
  | _, _ => False
theorem gI_elim {f : Int → Int → D} {d e : D} {B : Bx} {q : DK} (h : gI f d e B q) : ∃ i j, d = .int i ∧ e = .int j ∧ q (f i j) B := by
  unfold gI at h
  split at h
  · exact ⟨_, _, rfl, rfl, h⟩
  · exact h.elim
theorem gIC_elim {C : Int → Int → Prop} {f : Int → Int → D} {d e : D} {B : Bx} {q : DK} (h : gIC C f d e B q) : ∃ i j, d = .int i ∧ e = .int j ∧ C i j ∧ q (f i j) B := by
  unfold gIC at h
  split at h
  · exact ⟨_, _, rfl, rfl, h⟩
  · exact h.elim
theorem od_int {K : PySem.W.Frag} {f : Int → Int → Int} : OpD K TS (rI0 fun i j => .int (f i j)) (gI fun i j => .int (f i j)) := fun F H B R d e v u q Q rp hd he h hq => by
  obtain ⟨i, j, rfl, rfl, h⟩ := gI_elim h
  exact ⟨i, j, hd, he, hq _ B F H _ h (Same.refl F) rp rfl⟩
theorem od_bl {K : PySem.W.Frag} {f : Int → Int → Bool} : OpD K TS (rI0 fun i j => .bl (f i j)) (gI fun i j => .bl (f i j)) := fun F H B R d e v u q Q rp hd he h hq => by
  obtain ⟨i, j, rfl, rfl, h⟩ := gI_elim h
  exact ⟨i, j, hd, he, hq _ B F H _ h (Same.refl F) rp rfl⟩
theorem od_intC {K : PySem.W.Frag} {C : Int → Int → Prop} {f : Int → Int → Int} : OpD K TS (rI C fun i j => .int (f i j)) (gIC C fun i j => .int (f i j)) := fun F H B R d e v u q Q rp hd he h hq => by
  obtain ⟨i, j, rfl, rfl, c, h⟩ := gIC_elim h
  exact ⟨i, j, hd, he, c, hq _ B F H _ h (Same.refl F) rp rfl⟩
theorem de_sub (ha : DE X TS W a ta) (hb : DE X TS W b tb) : DE X TS W (.BinOp a .Sub b pos) (dOp (gI fun i j => .int (i - j)) ta tb) := de_op op_sub od_int ha hb
theorem de_fdiv (ha : DE X TS W a ta) (hb : DE X TS W b tb) : DE X TS W (.BinOp a .FloorDiv b pos) (dOp (gIC CDiv fun i j => .int (i / j)) ta tb) := de_op op_fdiv od_intC ha hb
theorem de_mod (ha : DE X TS W a ta) (hb : DE X TS W b tb) : DE X TS W (.BinOp a .Mod b pos) (dOp (gIC (fun _ j => 0 < j) fun i j => .int (i % j)) ta tb) := de_op op_mod od_intC ha hb
theorem de_pow (ha : DE X TS W a ta) (hb : DE X TS W b tb) : DE X TS W (.BinOp a .Pow b pos) (dOp (gIC CPow fun i j => .int (i ^ j.toNat)) ta tb) := de_op op_pow od_intC ha hb
theorem de_shl (ha : DE X TS W a ta) (hb : DE X TS W b tb) : DE X TS W (.BinOp a .LShift b pos) (dOp (gIC CPow fun i j => .int (i * 2 ^ j.toNat)) ta tb) := de_op op_shl od_intC ha hb
theorem de_xor (ha : DE X TS W a ta) (hb : DE X TS W b tb) : DE X TS W (.BinOp a .BitXor b pos) (dOp (gI fun i j => .int (Builtin.bitXor i j)) ta tb) := de_op op_xor od_int ha hb
def gU (f : Int → D) : G1 := fun d B q => match d with
  | .int i => q (f i) B
  | _ => False
theorem gU_elim {f : Int → D} {d : D} {B : Bx} {q : DK} (h : gU f d B q) : ∃ i, d = .int i ∧ q (f i) B := by
  unfold gU at h
  split at h
  · exact ⟨_, rfl, h⟩
  · exact h.elim
theorem de_neg (ha : DE X TS W a ta) : DE X TS W (.UnaryOp .USub a pos) (dUn (gU fun i => .int (-i)) ta) := de_un un_neg (fun F H B R d v q Q rp hd h hq => by
  obtain ⟨i, rfl, h⟩ := gU_elim h
  exact ⟨i, hd, hq _ B F H _ h (Same.refl F) rp rfl⟩) ha

/-! #### + : whole numbers, texts, lists, tuples -/
def rAdd4 (K : PySem.W.Frag) : R2 := fun x y H Q => (∃ i j, x = .int i ∧ y = .int j ∧ Q (.int (i + j)) H) ∨ ((∃ i j, x = .str i ∧ y = .str j ∧ i.length + j.length ≤ sizeLine ∧ Q (.str (i ++ j)) H) ∨ (rCat x y H Q ∨ rCatA K x y H Q))
theorem op_add4 : OpR X (binaryOp .Add) (rAdd4 X.K) := OpR.or op_add (OpR.or op_add_str (OpR.or op_cat op_catA))
def gAdd : G2 := fun d e B q => match d, e with
  | .int i, .int j => q (.int (i + j)) B
  | .str x, .str y => x.length + y.length ≤ sizeLine ∧ q (.str (x ++ y)) B
  | .lst xs, .lst ys => xs.length + ys.length ≤ sizeLine ∧ q (.lst (xs ++ ys)) B
  | .tup xs, .tup ys => xs.length + ys.length ≤ sizeLine ∧ q (.tup (xs ++ ys)) B
  | _, _ => False
/-- a new list, a new tuple, as a datum -/
theorem new_lst {K : PySem.W.Frag} {F H : Hp} {B R : Bx} {ds : List D} {vs : List V} {q : DK} {Q : VK} {p : Addr} (rp : RepH K TS F H B R) (hq : QL K TS F R q Q) (h : q (.lst ds) B) (dv : Dvs K F ds vs) (hp : H p = none) : Q (.ref p) (upd H p (.lst vs)) :=
  hq _ B (upd F p (.lst vs)) _ _ h (same_upd (rp.freeF hp)) (rp.datum hp) ⟨p, vs, rfl, upd_same, dv.mono (same_upd (rp.freeF hp))⟩
theorem new_tup {K : PySem.W.Frag} {F H : Hp} {B R : Bx} {ds : List D} {vs : List V} {q : DK} {Q : VK} {p : Addr} (rp : RepH K TS F H B R) (hq : QL K TS F R q Q) (h : q (.tup ds) B) (dv : Dvs K F ds vs) (hp : H p = none) : Q (.ref p) (upd H p (.tup vs)) :=
  hq _ B (upd F p (.tup vs)) _ _ h (same_upd (rp.freeF hp)) (rp.datum hp) ⟨p, vs, rfl, upd_same, dv.mono (same_upd (rp.freeF hp))⟩
/-- a new list, as a box -/
theorem new_lstB {K : PySem.W.Frag} {F H : Hp} {B R : Bx} {ds : List D} {vs : List V} {q : DK} {Q : VK} {p : Addr} (rp : RepH K TS F H B R) (hq : QL K TS F R q Q) (h : ∀ p, B p = none → q (.ref p) (put B p (.lst ds))) (dv : Dvs K F ds vs) (hp : H p = none) : Q (.ref p) (upd H p (.lst vs)) :=
  hq _ (put B p (.lst ds)) F _ _ (h p (rp.freeB hp)) (Same.refl F) (rp.box hp ⟨vs, upd_same, dv⟩) rfl
theorem od_add {K : PySem.W.Frag} : OpD K TS (rAdd4 K) gAdd := fun F H B R d e v u q Q rp hd he h hq => by
  unfold gAdd at h
  split at h
  · exact .inl ⟨_, _, hd, he, hq _ B F H _ h (Same.refl F) rp rfl⟩
  · exact .inr (.inl ⟨_, _, hd, he, h.1, hq _ B F H _ h.2 (Same.refl F) rp rfl⟩)
  · obtain ⟨a, vs, rfl, h1, h2⟩ := hd
    obtain ⟨b, us, rfl, h3, h4⟩ := he
    exact .inr (.inr (.inl ⟨a, b, vs, us, rfl, rfl, rp.le _ _ h1, rp.le _ _ h3, by rw [h2.length, h4.length]; exact h.1, fun p hp => new_lst rp hq h.2 (h2.append h4) hp⟩))
  · obtain ⟨a, vs, rfl, h1, h2⟩ := hd
    obtain ⟨b, us, rfl, h3, h4⟩ := he
    have l2 := h2.length
    have l4 := h4.length
    refine .inr (.inr (.inr ⟨a, b, vs, us, rfl, rfl, SqT.of (rp.le _ _ h1), SqT.of (rp.le _ _ h3), by rw [l2, l4]; exact h.1, fun e => ?_, fun _ e => ?_, fun _ _ p hp => new_tup rp hq h.2 (h2.append h4) hp⟩))
    · subst e
      have e1 := List.eq_nil_of_length_eq_zero l2.symm
      subst e1
      exact hq _ B F H _ h.2 (Same.refl F) rp ⟨b, us, rfl, h3, h4⟩
    · subst e
      have e1 := List.eq_nil_of_length_eq_zero l4.symm
      subst e1
      rw [List.append_nil] at h
      exact hq _ B F H _ h.2 (Same.refl F) rp ⟨a, vs, rfl, h1, h2⟩
  · exact h.elim
theorem de_add (ha : DE X TS W a ta) (hb : DE X TS W b tb) : DE X TS W (.BinOp a .Add b pos) (dOp gAdd ta tb) := de_op op_add4 od_add ha hb

/-! #### * : whole numbers, a list by a number -/
def gMul : G2 := fun d e B q => match d, e with
  | .int i, .int j => CMul i j ∧ q (.int (i * j)) B
  | .lst xs, .int k => (-(2 ^ 63) ≤ k ∧ k < 2 ^ 63 ∧ xs.length * k.toNat ≤ sizeLine) ∧ q (.lst (List.replicate k.toNat xs).flatten) B
  | _, _ => False
theorem Dvs.rep {K : PySem.W.Frag} {F : Hp} {ds : List D} {vs : List V} (h : Dvs K F ds vs) : ∀ k : Nat, Dvs K F (List.replicate k ds).flatten (List.replicate k vs).flatten
  | 0 => rfl
  | k + 1 => by rw [List.replicate_succ, List.replicate_succ, List.flatten_cons, List.flatten_cons]; exact h.append (Dvs.rep h k)
theorem od_mul {K : PySem.W.Frag} : OpD K TS (fun x y H Q => rI CMul (fun i j => .int (i * j)) x y H Q ∨ rRep x y H Q) gMul := fun F H B R d e v u q Q rp hd he h hq => by
  unfold gMul at h
  split at h
  · exact .inl ⟨_, _, hd, he, h.1, hq _ B F H _ h.2 (Same.refl F) rp rfl⟩
  · obtain ⟨a, vs, rfl, h1, h2⟩ := hd
    have he : u = _ := he
    subst he
    exact .inr ⟨a, _, vs, rfl, rfl, rp.le _ _ h1, h.1.1, h.1.2.1, by rw [h2.length]; exact h.1.2.2, fun p hp => new_lst rp hq h.2 (h2.rep _) hp⟩
  · exact h.elim
theorem de_mul (ha : DE X TS W a ta) (hb : DE X TS W b tb) : DE X TS W (.BinOp a .Mult b pos) (dOp gMul ta tb) := de_op (OpR.or op_mul op_rep) od_mul ha hb

/-! ### data as the library's data -/
mutual
def toPy : D → Option PyData
  | .non => some .none
  | .bl b => some (.bool b)
  | .int i => some (.int i)
  | .str x => some (.str x)
  | .lst xs => (toPys xs).map .list
  | .tup xs => (toPys xs).map .tuple
  | .rol xs => (toPys xs).map .list
  | .rot xs => (toPys xs).map .tuple
  | .ref _ => none
  | .ty _ => none
  | .obj _ => none
def toPys : List D → Option (List PyData)
  | [] => some []
  | d :: ds => match toPy d, toPys ds with
    | some p, some ps => some (p :: ps)
    | _, _ => none
end
mutual
theorem dp_of {K : PySem.W.Frag} {F H : Hp} (le : Same F H) : ∀ (d : D) {v : V} {p : PyData}, toPy d = some p → Dv K F d v → Dp K H v p
  | .non, _, _, h, e => by cases h; cases e; exact .non
  | .bl b, _, _, h, e => by cases h; cases e; exact .bl b
  | .int b, _, _, h, e => by cases h; cases e; exact .int b
  | .str b, _, _, h, e => by cases h; cases e; exact .str b
  | .lst ds, _, _, h, ⟨a, vs, e1, e2, e3⟩ => by
    obtain ⟨ps, h1, h2⟩ := Option.map_eq_some_iff.mp h
    subst h2 e1
    exact .lst (SqL.of (le _ _ e2)) (dps_of le ds h1 e3)
  | .tup ds, _, _, h, ⟨a, vs, e1, e2, e3⟩ => by
    obtain ⟨ps, h1, h2⟩ := Option.map_eq_some_iff.mp h
    subst h2 e1
    exact .tup (SqT.of (le _ _ e2)) (dps_of le ds h1 e3)
  | .rol ds, _, _, h, ⟨a, vs, e1, e2, e3⟩ => by
    obtain ⟨ps, h1, h2⟩ := Option.map_eq_some_iff.mp h
    subst h2 e1
    exact .lst (le.seq e2) (dps_of le ds h1 e3)
  | .rot ds, _, _, h, ⟨a, vs, e1, e2, e3⟩ => by
    obtain ⟨ps, h1, h2⟩ := Option.map_eq_some_iff.mp h
    subst h2 e1
    exact .tup (SqT_mono le e2) (dps_of le ds h1 e3)
  | .ref _, _, _, h, _ => by cases h
  | .ty _, _, _, h, _ => by cases h
  | .obj _, _, _, h, _ => by cases h
theorem dps_of {K : PySem.W.Frag} {F H : Hp} (le : Same F H) : ∀ (ds : List D) {vs : List V} {ps : List PyData}, toPys ds = some ps → Dvs K F ds vs → DpAll K H vs ps
  | [], _, _, h, e => by cases h; cases e; exact .nil
  | d :: ds, _, _, h, ⟨v, vs, e1, e2, e3⟩ => by
    subst e1
    unfold toPys at h
    split at h
    · rename_i p ps h1 h2
      cases h
      exact .cons (dp_of le d h1 e2) (dps_of le ds h2 e3)
    · cases h
end

/-! ### == and != -/
def eqD (d e : D) : Option Bool := match toPy d, toPy e with
  | some p, some r => if SeqAt.shaped p = true ∧ SeqAt.shaped r = true then some (PyData.eqv p r) else none
  | _, _ => none
theorem eqD_elim {d e : D} {b : Bool} (h : eqD d e = some b) : ∃ p r, toPy d = some p ∧ toPy e = some r ∧ SeqAt.shaped p = true ∧ SeqAt.shaped r = true ∧ b = PyData.eqv p r := by
  unfold eqD at h
  split at h
  · rename_i p r h1 h2
    split at h
    · rename_i hs
      cases h
      exact ⟨p, r, h1, h2, hs.1, hs.2, rfl⟩
    · cases h
  · cases h
def gEq (neg : Bool) : G2 := fun d e B q => match d, e with
  | .int i, .int j => q (.bl (neg ^^ decide (i = j))) B
  | .str i, .str j => q (.bl (neg ^^ decide (i = j))) B
  | .bl i, .bl j => q (.bl (neg ^^ decide (i = j))) B
  | d, e => ∃ b, eqD d e = some b ∧ q (.bl (neg ^^ b)) B
theorem dec_V_int {i j : Int} : decide (V.int i = V.int j) = decide (i = j) := by rw [decide_eq_decide]; exact ⟨fun h => V.int.inj h, fun h => by rw [h]⟩
theorem dec_V_str {i j : Str} : decide (V.str i = V.str j) = decide (i = j) := by rw [decide_eq_decide]; exact ⟨fun h => V.str.inj h, fun h => by rw [h]⟩
theorem dec_V_bl {i j : Bool} : decide (V.bl i = V.bl j) = decide (i = j) := by rw [decide_eq_decide]; exact ⟨fun h => V.bl.inj h, fun h => by rw [h]⟩
theorem od_eq {K : PySem.W.Frag} : OpD K TS (fun x y H Q => rEq x y H Q ∨ rEqD K x y H Q) (gEq false) := fun F H B R d e v u q Q rp hd he h hq => by
  have fin : ∀ b, q (.bl (false ^^ b)) B → Q (.bl b) H := fun b hb => hq (.bl b) B F H _ (by rw [Bool.false_xor] at hb; exact hb) (Same.refl F) rp rfl
  unfold gEq at h
  split at h
  · cases hd; cases he
    exact .inl ⟨rfl, by rw [dec_V_int]; exact fin _ h⟩
  · cases hd; cases he
    exact .inl ⟨rfl, by rw [dec_V_str]; exact fin _ h⟩
  · cases hd; cases he
    exact .inl ⟨rfl, by rw [dec_V_bl]; exact fin _ h⟩
  · obtain ⟨b, hb, h⟩ := h
    obtain ⟨p, r, h1, h2, h3, h4, rfl⟩ := eqD_elim hb
    exact .inr ⟨p, r, dp_of rp.le _ h1 hd, dp_of rp.le _ h2 he, h3, h4, fin _ h⟩
theorem od_ne {K : PySem.W.Frag} : OpD K TS (fun x y H Q => rNe x y H Q ∨ rNeD K x y H Q) (gEq true) := fun F H B R d e v u q Q rp hd he h hq => by
  have fin : ∀ b, q (.bl (true ^^ b)) B → Q (.bl (!b)) H := fun b hb => hq (.bl (!b)) B F H _ (by rw [Bool.true_xor] at hb; exact hb) (Same.refl F) rp rfl
  unfold gEq at h
  split at h
  · cases hd; cases he
    exact .inl ⟨rfl, by rw [dec_V_int]; exact fin _ h⟩
  · cases hd; cases he
    exact .inl ⟨rfl, by rw [dec_V_str]; exact fin _ h⟩
  · cases hd; cases he
    exact .inl ⟨rfl, by rw [dec_V_bl]; exact fin _ h⟩
  · obtain ⟨b, hb, h⟩ := h
    obtain ⟨p, r, h1, h2, h3, h4, rfl⟩ := eqD_elim hb
    exact .inr ⟨p, r, dp_of rp.le _ h1 hd, dp_of rp.le _ h2 he, h3, h4, fin _ h⟩

/-! ### comparisons, as values, as tests -/
def dTest (t : DTE) : DTT := fun Γ B q x => t Γ B (fun d B1 => match d with
  | .bl b => q b B1
  | _ => False) x
theorem de_cmp {op : CmpOp} {r : R2} {g : G2} (ho : OpR X (compareOp op) r) (hg : OpD X.K TS r g) (ha : DE X TS W a ta) (hb : DE X TS W b tb) (hm : behindInMarks op b = false) : DE X TS W (.Compare a [op] [b] pos) (dOp g ta tb) :=
  PE_imp (pe_cmpR ho ha hb hm) fun _ _ _ => two_lift hg
theorem test_lift {K : PySem.W.Frag} {t : TE} {u : DTE} (k : ∀ σ H Q, LE K TS W u σ H Q → t σ H Q) {σ : L2.St} {H : Hp} {Q : Bool → Hp → Prop} (h : LT K TS W (dTest u) σ H Q) : t σ H fun x H' => ∃ c, x = .bl c ∧ Q c H' := by
  obtain ⟨F, Γ, B, R, q, x, s, rp, hu, hq, hx⟩ := h
  refine k σ H _ ⟨F, Γ, B, R, _, x, s, rp, hu, fun d B1 F1 H1 v h1 e1 rp1 dv1 => ?_, hx⟩
  dsimp only at h1
  split at h1
  · exact ⟨_, dv1, hq _ B1 F1 H1 h1 e1 rp1⟩
  · exact h1.elim
theorem dt_cmp {op : CmpOp} {r : R2} {g : G2} (ho : OpR X (compareOp op) r) (hg : OpD X.K TS r g) (ha : DE X TS W a ta) (hb : DE X TS W b tb) (hm : behindInMarks op b = false) : DT X TS W (.Compare a [op] [b] pos) (dTest (dOp g ta tb)) :=
  PT_imp (pt_cmpR ho ha hb hm) fun σ H Q h => test_lift (fun _ _ _ => two_lift hg) h
/-- an expression that gives True or False, as a test -/
theorem dt_val {t : DTE} (h : DE X TS W e t) (he : ∀ whole, isTrue e X.env whole = (do let v ← whole; standAt e.pos; holding [v] (truthy v)) := by intro _; rfl) : DT X TS W e (dTest t) :=
  PT_imp (pt_val h he) fun σ H Q hh => test_lift (fun _ _ _ z => z) hh
def dChain (g g' : G2) (ta tb tc : DTE) : DTE := fun Γ B q x => ta Γ B (fun d B1 => tb Γ B1 (fun e B2 => g d e B2 fun z B3 => match z with
  | .bl k => if k = true then tc Γ B3 (fun f B4 => g' e f B4 q) x else q (.bl false) B3
  | _ => False) x) x
end
end DL
set_option Elab.async false
set_option linter.all false
set_option maxRecDepth 100000
set_option maxHeartbeats 1000000
/-! DL2: more expressions. -/
namespace DL
open PySem PySem.Spec PyProof.Rows L2

section
variable {X : Cx} {TS : List Addr} {W : WX} {a b c e : Expr} {ta tb tc : DTE} {pos : Pos}
/-! ### chains, and, or, not, if-else -/
theorem chain_lift {K : PySem.W.Frag} {r r' : R2} {g g' : G2} (ho : OpD K TS r g) (ho' : OpD K TS r' g') {σ : L2.St} {H : Hp} {Q : VK} (h : LE K TS W (dChain g g' ta tb tc) σ H Q) : tChain r r' (LE K TS W ta) (LE K TS W tb) (LE K TS W tc) σ H Q := by
  obtain ⟨F, Γ, B, R, q, x, s, rp, hu, hq, hx⟩ := h
  refine ⟨F, Γ, B, R, _, x, s, rp, hu, fun d B1 F1 H1 v h1 e1 rp1 dv1 => ?_, hx⟩
  refine ⟨F1, Γ, B1, R, _, x, s.mono e1, rp1, h1, fun e B2 F2 H2 u h2 e2 rp2 dv2 => ?_, hx.mono e1⟩
  refine ho F2 H2 B2 R d e v u _ _ rp2 (dv1.mono e2) dv2 h2 fun z B3 F3 H3 w h3 e3 rp3 dv3 => ?_
  split at h3
  · rename_i k
    refine ⟨k, dv3, ?_⟩
    cases k with
    | true =>
      refine iteT ?_
      have h3 : tc Γ B3 _ x := h3
      refine ⟨F3, Γ, B3, R, _, x, s.mono (e1.trans (e2.trans e3)), rp3, h3, fun f B4 F4 H4 w4 h4 e4 rp4 dv4 => ?_, hx.mono (e1.trans (e2.trans e3))⟩
      exact ho' F4 H4 B4 R e f u w4 q Q rp4 (dv2.mono (e3.trans e4)) dv4 h4 (hq.mono (e1.trans (e2.trans (e3.trans e4))))
    | false =>
      refine iteF ?_
      have h3 : q (.bl false) B3 := h3
      exact hq _ B3 F3 H3 _ h3 (e1.trans (e2.trans e3)) rp3 rfl
  · exact h3.elim
theorem de_chain {op op' : CmpOp} {r r' : R2} {g g' : G2} (ho : OpR X (compareOp op) r) (hg : OpD X.K TS r g) (ho' : OpR X (compareOp op') r') (hg' : OpD X.K TS r' g') (ha : DE X TS W a ta) (hb : DE X TS W b tb) (hc : DE X TS W c tc)
    (hm : lastMarks [op, op'] [b, c] = false := by with_unfolding_all rfl) : DE X TS W (.Compare a [op, op'] [b, c] pos) (dChain g g' ta tb tc) := PE_imp (pe_chain ho ho' ha hb hc hm) fun _ _ _ => chain_lift hg hg'
theorem dt_chain {op op' : CmpOp} {r r' : R2} {g g' : G2} (ho : OpR X (compareOp op) r) (hg : OpD X.K TS r g) (ho' : OpR X (compareOp op') r') (hg' : OpD X.K TS r' g') (ha : DE X TS W a ta) (hb : DE X TS W b tb) (hc : DE X TS W c tc)
    (hm : lastMarks [op, op'] [b, c] = false := by with_unfolding_all rfl) : DT X TS W (.Compare a [op, op'] [b, c] pos) (dTest (dChain g g' ta tb tc)) := PT_imp (pt_chain ho ho' ha hb hc hm) fun σ H Q h => test_lift (fun _ _ _ => chain_lift hg hg') h
/-- a rule of comparison with what it computes -/
structure CmpD (X : Cx) (TS : List Addr) (op : CmpOp) (g : G2) : Prop where
  ok : ∃ r, OpR X (compareOp op) r ∧ OpD X.K TS r g
theorem cd_lt : CmpD X TS .Lt (gI fun i j => .bl (decide (i < j))) := ⟨_, op_lt, od_bl⟩
theorem cd_le : CmpD X TS .LtE (gI fun i j => .bl (decide (i ≤ j))) := ⟨_, op_le, od_bl⟩
theorem cd_gt : CmpD X TS .Gt (gI fun i j => .bl (decide (j < i))) := ⟨_, op_gt, od_bl⟩
theorem cd_ge : CmpD X TS .GtE (gI fun i j => .bl (decide (j ≤ i))) := ⟨_, op_ge, od_bl⟩
theorem cd_eq (hu : X.A.units + 64 < cLine) : CmpD X TS .Eq (gEq false) := ⟨_, OpR.or op_eq (op_eqD hu), od_eq⟩
theorem cd_ne (hu : X.A.units + 64 < cLine) : CmpD X TS .NotEq (gEq true) := ⟨_, OpR.or op_ne (op_neD hu), od_ne⟩
def gIsN (neg : Bool) : G2 := fun d e B q => match d, e with
  | .non, .non => q (.bl (neg ^^ true)) B
  | .int _, .non => q (.bl (neg ^^ false)) B
  | .bl _, .non => q (.bl (neg ^^ false)) B
  | .str _, .non => q (.bl (neg ^^ false)) B
  | .tup _, .non => q (.bl (neg ^^ false)) B
  | .lst _, .non => q (.bl (neg ^^ false)) B
  | .ref _, .non => q (.bl (neg ^^ false)) B
  | _, _ => False
theorem isN_of {K : PySem.W.Frag} {F : Hp} {d e : D} {v u : V} {B : Bx} {q : DK} {neg : Bool} (hd : Dv K F d v) (he : Dv K F e u) (h : gIsN neg d e B q) : u = .non ∧ q (.bl (neg ^^ decide (v = .non))) B := by
  unfold gIsN at h
  split at h
  · cases hd; cases he; exact ⟨rfl, h⟩
  · cases hd; cases he; exact ⟨rfl, h⟩
  · cases hd; cases he; exact ⟨rfl, h⟩
  · cases hd; cases he; exact ⟨rfl, h⟩
  · obtain ⟨_, _, e1, _⟩ := hd; cases e1; cases he; exact ⟨rfl, h⟩
  · obtain ⟨_, _, e1, _⟩ := hd; cases e1; cases he; exact ⟨rfl, h⟩
  · cases hd; cases he; exact ⟨rfl, h⟩
  · exact h.elim
theorem cd_isN : CmpD X TS .Is (gIsN false) := ⟨_, op_isN, fun F H B R d e v u q Q rp hd he h hq => by
  obtain ⟨e1, h⟩ := isN_of hd he h
  rw [Bool.false_xor] at h
  exact ⟨e1, hq _ B F H _ h (Same.refl F) rp rfl⟩⟩
theorem cd_notN : CmpD X TS .IsNot (gIsN true) := ⟨_, op_notN, fun F H B R d e v u q Q rp hd he h hq => by
  obtain ⟨e1, h⟩ := isN_of hd he h
  rw [Bool.true_xor] at h
  exact ⟨e1, hq _ B F H _ h (Same.refl F) rp rfl⟩⟩
theorem de_cp {op : CmpOp} {g : G2} (hc : CmpD X TS op g) (ha : DE X TS W a ta) (hb : DE X TS W b tb) (hm : behindInMarks op b = false := by first | exact nomark _ | rfl) : DE X TS W (.Compare a [op] [b] pos) (dOp g ta tb) :=
  let ⟨_, ho, hg⟩ := hc.ok; de_cmp ho hg ha hb hm
theorem dt_cp {op : CmpOp} {g : G2} (hc : CmpD X TS op g) (ha : DE X TS W a ta) (hb : DE X TS W b tb) (hm : behindInMarks op b = false := by first | exact nomark _ | rfl) : DT X TS W (.Compare a [op] [b] pos) (dTest (dOp g ta tb)) :=
  let ⟨_, ho, hg⟩ := hc.ok; dt_cmp ho hg ha hb hm
theorem de_ch {op op' : CmpOp} {g g' : G2} (h1 : CmpD X TS op g) (h2 : CmpD X TS op' g') (ha : DE X TS W a ta) (hb : DE X TS W b tb) (hc : DE X TS W c tc) (hm : lastMarks [op, op'] [b, c] = false := by with_unfolding_all rfl) :
    DE X TS W (.Compare a [op, op'] [b, c] pos) (dChain g g' ta tb tc) := let ⟨_, ho, hg⟩ := h1.ok; let ⟨_, ho', hg'⟩ := h2.ok; de_chain ho hg ho' hg' ha hb hc hm
theorem dt_ch {op op' : CmpOp} {g g' : G2} (h1 : CmpD X TS op g) (h2 : CmpD X TS op' g') (ha : DE X TS W a ta) (hb : DE X TS W b tb) (hc : DE X TS W c tc) (hm : lastMarks [op, op'] [b, c] = false := by with_unfolding_all rfl) :
    DT X TS W (.Compare a [op, op'] [b, c] pos) (dTest (dChain g g' ta tb tc)) := let ⟨_, ho, hg⟩ := h1.ok; let ⟨_, ho', hg'⟩ := h2.ok; dt_chain ho hg ho' hg' ha hb hc hm

def dAnd (t u : DTT) : DTT := fun Γ B q x => t Γ B (fun c B1 => if c = true then u Γ B1 q x else q false B1) x
def dOr (t u : DTT) : DTT := fun Γ B q x => t Γ B (fun c B1 => if c = true then q true B1 else u Γ B1 q x) x
def dNot (t : DTT) : DTT := fun Γ B q x => t Γ B (fun c B1 => q (!c) B1) x
variable {t u : DTT} {rest : List Expr}
theorem dw_and1 (ha : DT X TS W a t) : DW X TS W (.BoolOp .And [a] pos) t := pw_and1 ha
theorem dw_or1 (ha : DT X TS W a t) : DW X TS W (.BoolOp .Or [a] pos) t := pw_or1 ha
theorem dw_and (ha : DT X TS W a t) (hb : DW X TS W (.BoolOp .And (b :: rest) pos) u) : DW X TS W (.BoolOp .And (a :: b :: rest) pos) (dAnd t u) := PW_imp (pw_and ha hb) fun σ H Q ⟨F, Γ, B, R, q, x, s, rp, hu, hq, hx⟩ => by
  refine ⟨F, Γ, B, R, _, x, s, rp, hu, fun c B1 F1 H1 h1 e1 rp1 => ?_, hx⟩
  cases c with
  | true => exact iteT ⟨F1, Γ, B1, R, q, x, s.mono e1, rp1, h1, hq.mono e1, hx.mono e1⟩
  | false => exact iteF (hq _ B1 F1 H1 h1 e1 rp1)
theorem dw_or (ha : DT X TS W a t) (hb : DW X TS W (.BoolOp .Or (b :: rest) pos) u) : DW X TS W (.BoolOp .Or (a :: b :: rest) pos) (dOr t u) := PW_imp (pw_or ha hb) fun σ H Q ⟨F, Γ, B, R, q, x, s, rp, hu, hq, hx⟩ => by
  refine ⟨F, Γ, B, R, _, x, s, rp, hu, fun c B1 F1 H1 h1 e1 rp1 => ?_, hx⟩
  cases c with
  | false => exact iteF ⟨F1, Γ, B1, R, q, x, s.mono e1, rp1, h1, hq.mono e1, hx.mono e1⟩
  | true => exact iteT (hq _ B1 F1 H1 h1 e1 rp1)
theorem dt_w (h : DW X TS W e t) : DT X TS W e t := h.pt
theorem dt_not (ha : DT X TS W a t) : DT X TS W (.UnaryOp .Not a pos) (dNot t) := PT_imp (pt_not ha) fun σ H Q ⟨F, Γ, B, R, q, x, s, rp, hu, hq, hx⟩ =>
  ⟨F, Γ, B, R, _, x, s, rp, hu, fun c B1 F1 H1 h1 e1 rp1 => hq _ B1 F1 H1 h1 e1 rp1, hx⟩
/-- .. as values -/
def dAndV (ta tb : DTE) : DTE := fun Γ B q x => ta Γ B (fun d B1 => match d with
  | .bl c => if c = true then tb Γ B1 q x else q (.bl false) B1
  | _ => False) x
def dOrV (ta tb : DTE) : DTE := fun Γ B q x => ta Γ B (fun d B1 => match d with
  | .bl c => if c = true then q (.bl true) B1 else tb Γ B1 q x
  | _ => False) x
def dNotV (ta : DTE) : DTE := fun Γ B q x => ta Γ B (fun d B1 => match d with
  | .bl c => q (.bl (!c)) B1
  | _ => False) x
theorem de_one {op} (h : DE X TS W a ta) : DE X TS W (.BoolOp op [a] pos) ta := pe_one h
theorem de_and (ha : DE X TS W a ta) (hb : DE X TS W (.BoolOp .And (b :: rest) pos) tb) : DE X TS W (.BoolOp .And (a :: b :: rest) pos) (dAndV ta tb) := PE_imp (pe_and ha hb) fun σ H Q ⟨F, Γ, B, R, q, x, s, rp, hu, hq, hx⟩ => by
  refine ⟨F, Γ, B, R, _, x, s, rp, hu, fun d B1 F1 H1 v h1 e1 rp1 dv1 => ?_, hx⟩
  dsimp only at h1
  split at h1
  · rename_i c
    refine ⟨c, dv1, ?_⟩
    cases c with
    | true => exact iteT ⟨F1, Γ, B1, R, q, x, s.mono e1, rp1, h1, hq.mono e1, hx.mono e1⟩
    | false => exact iteF (hq _ B1 F1 H1 _ (show q (.bl false) B1 from h1) e1 rp1 rfl)
  · exact h1.elim
theorem de_or (ha : DE X TS W a ta) (hb : DE X TS W (.BoolOp .Or (b :: rest) pos) tb) : DE X TS W (.BoolOp .Or (a :: b :: rest) pos) (dOrV ta tb) := PE_imp (pe_or ha hb) fun σ H Q ⟨F, Γ, B, R, q, x, s, rp, hu, hq, hx⟩ => by
  refine ⟨F, Γ, B, R, _, x, s, rp, hu, fun d B1 F1 H1 v h1 e1 rp1 dv1 => ?_, hx⟩
  dsimp only at h1
  split at h1
  · rename_i c
    refine ⟨c, dv1, ?_⟩
    cases c with
    | false => exact iteF ⟨F1, Γ, B1, R, q, x, s.mono e1, rp1, h1, hq.mono e1, hx.mono e1⟩
    | true => exact iteT (hq _ B1 F1 H1 _ (show q (.bl true) B1 from h1) e1 rp1 rfl)
  · exact h1.elim
theorem de_not (ha : DE X TS W a ta) : DE X TS W (.UnaryOp .Not a pos) (dNotV ta) := PE_imp (pe_not ha) fun σ H Q ⟨F, Γ, B, R, q, x, s, rp, hu, hq, hx⟩ => by
  refine ⟨F, Γ, B, R, _, x, s, rp, hu, fun d B1 F1 H1 v h1 e1 rp1 dv1 => ?_, hx⟩
  dsimp only at h1
  split at h1
  · exact ⟨_, dv1, hq _ B1 F1 H1 _ h1 e1 rp1 rfl⟩
  · exact h1.elim
def dIf (t : DTT) (ta tb : DTE) : DTE := fun Γ B q x => t Γ B (fun c B1 => if c = true then ta Γ B1 q x else tb Γ B1 q x) x
theorem de_if (hc : DT X TS W c t) (ha : DE X TS W a ta) (hb : DE X TS W b tb) : DE X TS W (.IfExp c a b pos) (dIf t ta tb) := PE_imp (pe_ifExp hc ha hb) fun σ H Q ⟨F, Γ, B, R, q, x, s, rp, hu, hq, hx⟩ => by
  refine ⟨F, Γ, B, R, _, x, s, rp, hu, fun c B1 F1 H1 h1 e1 rp1 => ?_, hx⟩
  cases c with
  | true => exact iteT ⟨F1, Γ, B1, R, q, x, s.mono e1, rp1, h1, hq.mono e1, hx.mono e1⟩
  | false => exact iteF ⟨F1, Γ, B1, R, q, x, s.mono e1, rp1, h1, hq.mono e1, hx.mono e1⟩

/-! ### arguments, displays -/
def dNil : DTA := fun _ B q _ => q [] B
def dCons (ta : DTE) (tr : DTA) : DTA := fun Γ B q x => ta Γ B (fun d B1 => tr Γ B1 (fun ds B2 => q (d :: ds) B2) x) x
variable {es : List Expr} {tl : DTA}
theorem da_nil : DA X TS W [] dNil := PA_imp pa_nil fun σ H Q ⟨F, Γ, B, R, q, x, s, rp, hu, hq, hx⟩ => hq [] B F H [] hu (Same.refl F) rp rfl
theorem da_cons (ha : DE X TS W e ta) (hr : DA X TS W es tl) (hs : starEach (e :: es) X.env = (false, eval e X.env) :: starEach es X.env := by rfl) : DA X TS W (e :: es) (dCons ta tl) :=
  PA_imp (pa_cons ha hr hs) fun σ H Q ⟨F, Γ, B, R, q, x, s, rp, hu, hq, hx⟩ =>
    ⟨F, Γ, B, R, _, x, s, rp, hu, fun d B1 F1 H1 v h1 e1 rp1 dv1 => ⟨F1, Γ, B1, R, _, x, s.mono e1, rp1, h1, fun ds B2 F2 H2 vs h2 e2 rp2 dv2 => hq _ B2 F2 H2 _ h2 (e1.trans e2) rp2 ⟨v, vs, rfl, dv1.mono e2, dv2⟩, hx.mono e1⟩, hx⟩
/-- at most twenty items: nothing to show -/
def few : Nat → List D → Bool
  | _, [] => true
  | 0, _ :: _ => false
  | n + 1, _ :: r => few n r
theorem few_le : ∀ {n : Nat} {ds : List D}, few n ds = true → ds.length ≤ n
  | _, [], _ => Nat.zero_le _
  | 0, _ :: _, h => by cases h
  | n + 1, _ :: r, h => Nat.succ_le_succ (few_le (n := n) (ds := r) h)
def sizeOk (ds : List D) : Prop := match few 30 ds with
  | true => True
  | false => ds.length ≤ sizeLine
theorem sizeOk_le {ds : List D} (h : sizeOk ds) : ds.length ≤ sizeLine := by
  unfold sizeOk at h
  split at h
  · rename_i h1
    exact Nat.le_trans (few_le h1) (by decide)
  · exact h
def dTup (t : DTA) : DTE := fun Γ B q x => t Γ B (fun ds B1 => sizeOk ds ∧ q (.tup ds) B1) x
def dLst (t : DTA) : DTE := fun Γ B q x => t Γ B (fun ds B1 => sizeOk ds ∧ q (.lst ds) B1) x
/-- .. a list that will be written -/
def dLstB (t : DTA) : DTE := fun Γ B q x => t Γ B (fun ds B1 => sizeOk ds ∧ ∀ p, B1 p = none → q (.ref p) (put B1 p (.lst ds))) x
theorem de_tup {k} (h : DA X TS W es tl) : DE X TS W (.Tuple es k pos) (dTup tl) := PE_imp (pe_tup h) fun σ H Q ⟨F, Γ, B, R, q, x, s, rp, hu, hq, hx⟩ =>
  ⟨F, Γ, B, R, _, x, s, rp, hu, fun ds B1 F1 H1 vs h1 e1 rp1 dv1 => ⟨by rw [dv1.length]; exact sizeOk_le h1.1, fun p hp => new_tup rp1 (hq.mono e1) h1.2 dv1 hp⟩, hx⟩
theorem de_lst (h : DA X TS W es tl) : DE X TS W (.List es pos) (dLst tl) := PE_imp (pe_lst h) fun σ H Q ⟨F, Γ, B, R, q, x, s, rp, hu, hq, hx⟩ =>
  ⟨F, Γ, B, R, _, x, s, rp, hu, fun ds B1 F1 H1 vs h1 e1 rp1 dv1 => ⟨by rw [dv1.length]; exact sizeOk_le h1.1, fun p hp => new_lst rp1 (hq.mono e1) h1.2 dv1 hp⟩, hx⟩
theorem de_lstB (h : DA X TS W es tl) : DE X TS W (.List es pos) (dLstB tl) := PE_imp (pe_lst h) fun σ H Q ⟨F, Γ, B, R, q, x, s, rp, hu, hq, hx⟩ =>
  ⟨F, Γ, B, R, _, x, s, rp, hu, fun ds B1 F1 H1 vs h1 e1 rp1 dv1 => ⟨by rw [dv1.length]; exact sizeOk_le h1.1, fun p hp => new_lstB rp1 (hq.mono e1) h1.2 dv1 hp⟩, hx⟩
/-- {}, with keys ints and texts; with tuples as keys -/
def dNewK : DTE := fun _ B q _ => ∀ p, B p = none → q (.ref p) (put B p (.dK []))
def dNewT : DTE := fun _ B q _ => ∀ p, B p = none → q (.ref p) (put B p (.dT []))
theorem de_newK : DE X TS W (.Dict [] [] pos) dNewK := PE_imp pe_dnewK fun σ H Q ⟨F, Γ, B, R, q, x, s, rp, hu, hq, hx⟩ p hp => hq _ (put B p (.dK [])) F _ _ (hu p (rp.freeB hp)) (Same.refl F) (rp.box hp ⟨[], upd_same, rfl⟩) rfl
theorem de_newT : DE X TS W (.Dict [] [] pos) dNewT := PE_imp pe_dnewT fun σ H Q ⟨F, Γ, B, R, q, x, s, rp, hu, hq, hx⟩ p hp => hq _ (put B p (.dT [])) F _ _ (hu p (rp.freeB hp)) (Same.refl F) (rp.box hp ⟨[], upd_same, rfl⟩) rfl

/-! ### calls of built-ins by values -/
abbrev GA := List D → Bx → DK → Prop
def CallD (K : PySem.W.Frag) (TS : List Addr) (r : List V → Hp → VK → Prop) (g : GA) : Prop := ∀ F H B R ds vs q Q, RepH K TS F H B R → Dvs K F ds vs → g ds B q → QL K TS F R q Q → r vs H Q
structure BltD (X : Cx) (TS : List Addr) (f : Value) (g : GA) : Prop where
  ok : ∃ r, CallR X f r ∧ CallD X.K TS r g
def dCB (g : GA) (t : DTA) : DTE := fun Γ B q x => t Γ B (fun ds B1 => g ds B1 q) x
theorem cb_lift {K : PySem.W.Frag} {r : List V → Hp → VK → Prop} {g : GA} (hg : CallD K TS r g) {σ : L2.St} {H : Hp} {Q : VK} (h : LE K TS W (dCB g tl) σ H Q) : tCB r (LA K TS W tl) σ H Q := by
  obtain ⟨F, Γ, B, R, q, x, s, rp, hu, hq, hx⟩ := h
  exact ⟨F, Γ, B, R, _, x, s, rp, hu, fun ds B1 F1 H1 vs h1 e1 rp1 dv1 => hg F1 H1 B1 R ds vs q Q rp1 dv1 h1 (hq.mono e1), hx⟩
theorem de_blt {x : Str} {p : Pos} {id : String} {g : GA} (hc : BltD X TS (.builtin id) g) (hg : Gl X x) (hm : X.mg x = none) (hv : bootBuiltins x = some (.builtin id)) (ha : DA X TS W (e :: es) tl) (hn : x ≠ "__name__" := by decide) (hdb : (x == ("__debug__" : Str)) = false := by decide)
    (he : starEach (e :: es) X.env = (false, eval e X.env) :: starEach es X.env := by rfl) (hpl : (backTo pos (starEach es X.env)).any (·.1) = false := by rfl) : DE X TS W (.Call (.Name x p) (e :: es) [] pos) (dCB g tl) :=
  let ⟨_, h1, h2⟩ := hc.ok; PE_imp (pe_callB h1 hg hm hv ha hn hdb he hpl) fun _ _ _ => cb_lift h2
theorem de_bty {x : Str} {p : Pos} {T : String} {g : GA} (hc : BltD X TS (.type T) g) (hg : Gl X x) (hm : X.mg x = none) (hv : bootBuiltins x = some (.type T)) (ha : DA X TS W (e :: es) tl) (hn : x ≠ "__name__" := by decide) (hdb : (x == ("__debug__" : Str)) = false := by decide)
    (he : starEach (e :: es) X.env = (false, eval e X.env) :: starEach es X.env := by rfl) (hpl : (backTo pos (starEach es X.env)).any (·.1) = false := by rfl) : DE X TS W (.Call (.Name x p) (e :: es) [] pos) (dCB g tl) :=
  let ⟨_, h1, h2⟩ := hc.ok; PE_imp (pe_callTy h1 hg hm hv ha hn hdb he hpl) fun _ _ _ => cb_lift h2
theorem Dvs.one {K : PySem.W.Frag} {F : Hp} {d : D} {vs : List V} (h : Dvs K F [d] vs) : ∃ v, vs = [v] ∧ Dv K F d v := by
  obtain ⟨v, r, e, h1, h2⟩ := h
  cases h2
  exact ⟨v, e, h1⟩
theorem Dvs.two {K : PySem.W.Frag} {F : Hp} {d d' : D} {vs : List V} (h : Dvs K F [d, d'] vs) : ∃ v v', vs = [v, v'] ∧ Dv K F d v ∧ Dv K F d' v' := by
  obtain ⟨v, r, e, h1, h2⟩ := h
  obtain ⟨v', e', h3⟩ := h2.one
  subst e'
  exact ⟨v, v', e, h1, h3⟩
/-- the items of what may be walked, asked for its length .. -/
def seqOf (B : Bx) : D → Option (List D)
  | .lst xs => some xs
  | .tup xs => some xs
  | .rol xs => some xs
  | .rot xs => some xs
  | .ref a => match B a with
    | some (.lst xs) => some xs
    | _ => none
  | _ => none
theorem seq_of {K : PySem.W.Frag} {F H : Hp} {B R : Bx} {d : D} {v : V} {ds : List D} (rp : RepH K TS F H B R) (h : seqOf B d = some ds) (dv : Dv K F d v) : ∃ a vs, v = .ref a ∧ Dvs K F ds vs ∧ (SqL K H a vs ∨ SqT K H a vs) := by
  unfold seqOf at h
  split at h
  · cases h; obtain ⟨a, vs, e, h1, h2⟩ := dv; exact ⟨a, vs, e, h2, .inl (SqL.of (rp.le _ _ h1))⟩
  · cases h; obtain ⟨a, vs, e, h1, h2⟩ := dv; exact ⟨a, vs, e, h2, .inr (SqT.of (rp.le _ _ h1))⟩
  · cases h; obtain ⟨a, vs, e, h1, h2⟩ := dv; exact ⟨a, vs, e, h2, .inl (rp.le.seq h1)⟩
  · cases h; obtain ⟨a, vs, e, h1, h2⟩ := dv; exact ⟨a, vs, e, h2, .inr (SqT_mono rp.le h1)⟩
  · rename_i a
    split at h
    · rename_i xs hb
      cases h
      obtain ⟨_, vs, h1, h2⟩ := rp.bx a _ hb
      exact ⟨a, vs, dv, h2, .inl (SqL.of h1)⟩
    · cases h
  · cases h
/-- .. that is a list -/
def lstOf (B : Bx) : D → Option (List D)
  | .lst xs => some xs
  | .rol xs => some xs
  | .ref a => match B a with
    | some (.lst xs) => some xs
    | _ => none
  | _ => none
theorem lst_of {K : PySem.W.Frag} {F H : Hp} {B R : Bx} {d : D} {v : V} {ds : List D} (rp : RepH K TS F H B R) (h : lstOf B d = some ds) (dv : Dv K F d v) : ∃ a vs, v = .ref a ∧ Dvs K F ds vs ∧ SqL K H a vs := by
  unfold lstOf at h
  split at h
  · cases h; obtain ⟨a, vs, e, h1, h2⟩ := dv; exact ⟨a, vs, e, h2, SqL.of (rp.le _ _ h1)⟩
  · cases h; obtain ⟨a, vs, e, h1, h2⟩ := dv; exact ⟨a, vs, e, h2, rp.le.seq h1⟩
  · rename_i a
    split at h
    · rename_i xs hb
      cases h
      obtain ⟨_, vs, h1, h2⟩ := rp.bx a _ hb
      exact ⟨a, vs, dv, h2, SqL.of h1⟩
    · cases h
  · cases h
/-- .. that is a tuple -/
def tupOf : D → Option (List D)
  | .tup xs => some xs
  | .rot xs => some xs
  | _ => none
theorem tup_of {K : PySem.W.Frag} {F H : Hp} {B R : Bx} {d : D} {v : V} {ds : List D} (rp : RepH K TS F H B R) (h : tupOf d = some ds) (dv : Dv K F d v) : ∃ a vs, v = .ref a ∧ Dvs K F ds vs ∧ SqT K H a vs := by
  unfold tupOf at h
  split at h
  · cases h; obtain ⟨a, vs, e, h1, h2⟩ := dv; exact ⟨a, vs, e, h2, SqT.of (rp.le _ _ h1)⟩
  · cases h; obtain ⟨a, vs, e, h1, h2⟩ := dv; exact ⟨a, vs, e, h2, SqT_mono rp.le h1⟩
  · cases h
theorem QL.here {K : PySem.W.Frag} {F H : Hp} {B R : Bx} {q : DK} {Q : VK} (hq : QL K TS F R q Q) (rp : RepH K TS F H B R) {d : D} {v : V} (h : q d B) (dv : Dv K F d v) : Q v H := hq d B F H v h (Same.refl F) rp dv

/-- len -/
def gLen : GA := fun ds B q => match ds with
  | [.str x] => x.length ≤ sizeLine ∧ q (.int x.length) B
  | [.ref a] => (∃ xs, B a = some (.lst xs) ∧ q (.int xs.length) B) ∨ ∃ kvs, B a = some (.dK kvs) ∧ q (.int kvs.length) B
  | [d] => ∃ xs, seqOf B d = some xs ∧ q (.int xs.length) B
  | _ => False
theorem bd_len : BltD X TS (.builtin "len") gLen := ⟨_, CallR.or call_len call_lenD, fun F H B R ds vs q Q rp dv h hq => by
  unfold gLen at h
  split at h
  · obtain ⟨v, e, h1⟩ := dv.one
    subst e
    exact .inl ⟨v, _, rfl, by rw [show v = _ from h1]; exact ⟨h.1, rfl⟩, hq.here rp h.2 rfl⟩
  · obtain ⟨v, e, h1⟩ := dv.one
    subst e
    have h1 : v = _ := h1
    subst h1
    rcases h with ⟨xs, hb, h⟩ | ⟨kvs, hb, h⟩
    · obtain ⟨_, vs, h2, h3⟩ := rp.bx _ _ hb
      exact .inl ⟨_, vs.length, rfl, .inl ⟨vs, SqL.of h2, rfl⟩, hq.here rp (d := .int xs.length) h (by rw [h3.length]; rfl)⟩
    · obtain ⟨_, ws, h2, h3⟩ := rp.bx _ _ hb
      exact .inr ⟨_, ws, rfl, h2, hq.here rp (d := .int kvs.length) h (by rw [h3.length]; rfl)⟩
  · obtain ⟨v, e, h1⟩ := dv.one
    subst e
    obtain ⟨xs, hb, h⟩ := h
    obtain ⟨a, vs, rfl, h2, h3⟩ := seq_of rp hb h1
    refine .inl ⟨_, vs.length, rfl, ?_, hq.here rp (d := .int xs.length) h (by rw [h2.length]; rfl)⟩
    rcases h3 with h3 | h3
    · exact .inl ⟨vs, h3, rfl⟩
    · exact .inr ⟨vs, h3, rfl⟩
  · exact h.elim⟩
def gAbs : GA := fun ds B q => match ds with
  | [.int i] => q (.int (if i < 0 then -i else i)) B
  | _ => False
theorem bd_abs : BltD X TS (.builtin "abs") gAbs := ⟨_, call_abs, fun F H B R ds vs q Q rp dv h hq => by
  unfold gAbs at h
  split at h
  · obtain ⟨v, e, h1⟩ := dv.one
    subst e
    exact ⟨_, by rw [show v = _ from h1], hq.here rp h rfl⟩
  · exact h.elim⟩
def gIntC : GA := fun ds B q => match ds with
  | [.int i] => q (.int i) B
  | [.bl k] => q (.int (if k then 1 else 0)) B
  | _ => False
theorem bd_int : BltD X TS (.type "int") gIntC := ⟨_, call_int1, fun F H B R ds vs q Q rp dv h hq => by
  unfold gIntC at h
  split at h
  · obtain ⟨v, e, h1⟩ := dv.one
    subst e
    exact .inl ⟨_, by rw [show v = _ from h1], hq.here rp h rfl⟩
  · obtain ⟨v, e, h1⟩ := dv.one
    subst e
    exact .inr ⟨_, by rw [show v = _ from h1], hq.here rp h rfl⟩
  · exact h.elim⟩
def gMM (f : Int → Int → Int) : GA := fun ds B q => match ds with
  | [.int i, .int j] => q (.int (f i j)) B
  | _ => False
theorem bd_max2 (hc : X.calm = true) : BltD X TS (.builtin "max") (gMM fun i j => if j > i then j else i) := ⟨_, call_max2 hc, fun F H B R ds vs q Q rp dv h hq => by
  unfold gMM at h
  split at h
  · obtain ⟨v, u, e, h1, h2⟩ := dv.two
    subst e
    exact ⟨_, _, by rw [show v = _ from h1, show u = _ from h2], hq.here rp h rfl⟩
  · exact h.elim⟩
theorem bd_min2 (hc : X.calm = true) : BltD X TS (.builtin "min") (gMM fun i j => if j < i then j else i) := ⟨_, call_min2 hc, fun F H B R ds vs q Q rp dv h hq => by
  unfold gMM at h
  split at h
  · obtain ⟨v, u, e, h1, h2⟩ := dv.two
    subst e
    exact ⟨_, _, by rw [show v = _ from h1, show u = _ from h2], hq.here rp h rfl⟩
  · exact h.elim⟩
/-- list(x), as a datum or a box; tuple(x) -/
def gList : GA := fun ds B q => match ds with
  | [d] => ∃ xs, seqOf B d = some xs ∧ q (.lst xs) B
  | _ => False
def gListB : GA := fun ds B q => match ds with
  | [d] => ∃ xs, seqOf B d = some xs ∧ ∀ p, B p = none → q (.ref p) (put B p (.lst xs))
  | _ => False
theorem bd_list : BltD X TS (.type "list") gList := ⟨_, call_list_of, fun F H B R ds vs q Q rp dv h hq => by
  unfold gList at h
  split at h
  · obtain ⟨v, e, h1⟩ := dv.one
    subst e
    obtain ⟨xs, hb, h⟩ := h
    obtain ⟨a, vs, rfl, h2, h3⟩ := seq_of rp hb h1
    exact ⟨a, vs, rfl, h3, fun l hl => new_lst rp hq h h2 hl⟩
  · exact h.elim⟩
theorem bd_listB : BltD X TS (.type "list") gListB := ⟨_, call_list_of, fun F H B R ds vs q Q rp dv h hq => by
  unfold gListB at h
  split at h
  · obtain ⟨v, e, h1⟩ := dv.one
    subst e
    obtain ⟨xs, hb, h⟩ := h
    obtain ⟨a, vs, rfl, h2, h3⟩ := seq_of rp hb h1
    exact ⟨a, vs, rfl, h3, fun l hl => new_lstB rp hq h h2 hl⟩
  · exact h.elim⟩
def gTuple : GA := fun ds B q => match ds with
  | [.tup xs] => q (.tup xs) B
  | [d] => ∃ xs, lstOf B d = some xs ∧ q (.tup xs) B
  | _ => False
theorem bd_tuple : BltD X TS (.type "tuple") gTuple := ⟨_, call_tuple_of, fun F H B R ds vs q Q rp dv h hq => by
  unfold gTuple at h
  split at h
  · obtain ⟨v, e, a, us, h1, h2, h3⟩ := dv.one
    subst e h1
    exact ⟨a, us, rfl, .inr ⟨SqT.of (rp.le _ _ h2), hq.here rp h ⟨a, us, rfl, h2, h3⟩⟩⟩
  · obtain ⟨v, e, h1⟩ := dv.one
    subst e
    obtain ⟨xs, hb, h⟩ := h
    obtain ⟨a, vs, rfl, h2, h3⟩ := lst_of rp hb h1
    exact ⟨a, vs, rfl, .inl ⟨h3, fun l hl => new_tup rp hq h h2 hl⟩⟩
  · exact h.elim⟩
/-- sum, max, min of whole numbers -/
def gSum : GA := fun ds B q => match ds with
  | [d] => ∃ ns : List Int, lstOf B d = some (ns.map .int) ∧ q (.int ns.sum) B
  | _ => False
theorem bd_sum (hc : X.calm = true) : BltD X TS (.builtin "sum") gSum := ⟨_, cr_sum hc, fun F H B R ds vs q Q rp dv h hq => by
  unfold gSum at h
  split at h
  · obtain ⟨v, e, h1⟩ := dv.one
    subst e
    obtain ⟨ns, hb, h⟩ := h
    obtain ⟨a, vs, rfl, h2, h3⟩ := lst_of rp hb h1
    rw [h2.ints] at h3
    exact ⟨a, ns, rfl, h3, hq.here rp h rfl⟩
  · exact h.elim⟩
end
end DL
set_option Elab.async false
set_option linter.all false
set_option maxRecDepth 100000
set_option maxHeartbeats 1000000
/-! DL3: dicts, subscripts, slices, methods. -/
namespace DL
open PySem PySem.Spec PyProof.Rows L2

/-! ### tables of data -/
section
variable {κ : Type} [DecidableEq κ]
def valD (kvs : List (κ × D)) (k : κ) : Option D := (kvs.find? fun kv => decide (kv.1 = k)).map (·.2)
def putD (kvs : List (κ × D)) (k : κ) (v : D) : List (κ × D) :=
  if (kvs.any fun kv => decide (kv.1 = k)) = true then kvs.map (fun kv => if kv.1 = k then (kv.1, v) else kv) else kvs ++ [(k, v)]
def dropD (kvs : List (κ × D)) (k : κ) : List (κ × D) := kvs.filter fun kv => decide (kv.1 ≠ k)
theorem valD_nil {k : κ} : valD ([] : List (κ × D)) k = none := rfl
theorem valD_cons {p : κ × D} {r : List (κ × D)} {k : κ} : valD (p :: r) k = if p.1 = k then some p.2 else valD r k := by
  unfold valD
  rw [List.find?_cons]
  by_cases e : p.1 = k
  · rw [if_pos e, decide_eq_true e]; rfl
  · rw [if_neg e, decide_eq_false e]
theorem valD_any (k : κ) : ∀ kvs : List (κ × D), (kvs.any fun kv => decide (kv.1 = k)) = (valD kvs k).isSome
  | [] => rfl
  | p :: r => by
    rw [List.any_cons, valD_any k r, valD_cons]
    by_cases e : p.1 = k
    · rw [if_pos e, decide_eq_true e]; rfl
    · rw [if_neg e, decide_eq_false e, Bool.false_or]
theorem valD_map (k j : κ) (y : D) : ∀ kvs : List (κ × D), valD (kvs.map fun kv => if kv.1 = k then (kv.1, y) else kv) j = (valD kvs j).map fun x => if j = k then y else x
  | [] => rfl
  | p :: r => by
    rw [List.map_cons, valD_cons, valD_cons, valD_map k j y r]
    by_cases e : p.1 = k
    · rw [if_pos e]
      by_cases e2 : p.1 = j
      · rw [if_pos e2, if_pos e2, Option.map_some, if_pos (e2.symm.trans e)]
      · rw [if_neg e2, if_neg e2]
    · rw [if_neg e]
      by_cases e2 : p.1 = j
      · rw [if_pos e2, if_pos e2, Option.map_some, if_neg (fun z => e (e2.trans z))]
      · rw [if_neg e2, if_neg e2]
theorem valD_snoc (k j : κ) (y : D) : ∀ kvs : List (κ × D), valD kvs k = none → valD (kvs ++ [(k, y)]) j = if j = k then some y else valD kvs j
  | [], _ => by
    rw [List.nil_append, valD_cons]
    by_cases e : k = j
    · rw [if_pos e, if_pos e.symm]
    · rw [if_neg e, if_neg (Ne.symm e)]
  | p :: r, h => by
    rw [valD_cons] at h
    by_cases e : p.1 = k
    · rw [if_pos e] at h; cases h
    · rw [if_neg e] at h
      rw [List.cons_append, valD_cons, valD_cons, valD_snoc k j y r h]
      by_cases e2 : p.1 = j
      · rw [if_pos e2, if_pos e2, if_neg (fun z => e (e2.trans z))]
      · rw [if_neg e2, if_neg e2]
theorem valD_put (kvs : List (κ × D)) (k j : κ) (y : D) : valD (putD kvs k y) j = if j = k then some y else valD kvs j := by
  unfold putD
  rw [valD_any]
  cases h : valD kvs k with
  | none => rw [if_neg (by simp)]; exact valD_snoc k j y kvs h
  | some x =>
    rw [if_pos (show (Option.some x).isSome = true from rfl), valD_map]
    by_cases e : j = k
    · subst e; rw [h, if_pos rfl]; simp
    · rw [if_neg e]; cases valD kvs j <;> simp [e]
theorem length_putD (kvs : List (κ × D)) (k : κ) (v : D) : (putD kvs k v).length ≤ kvs.length + 1 := by
  unfold putD
  split <;> simp
theorem putD_new {kvs : List (κ × D)} {k : κ} (v : D) (h : valD kvs k = none) : putD kvs k v = kvs ++ [(k, v)] := by
  unfold putD
  rw [valD_any, h, if_neg (by simp)]
section
variable {K : PySem.W.Frag} {F : Hp}
theorem DKv.val : ∀ {kvs : List (κ × D)} {ws : List (κ × V)}, DKv K F kvs ws → ∀ k, (valD kvs k = none ∧ valV ws k = none) ∨ ∃ d v, valD kvs k = some d ∧ valV ws k = some v ∧ Dv K F d v
  | [], _, h, k => by cases h; exact .inl ⟨rfl, rfl⟩
  | (k', d) :: kvs, _, ⟨v, ws, e, h1, h2⟩, k => by
    subst e
    rw [valD_cons]
    by_cases e : k' = k
    · rw [if_pos e, valV_pos e]; exact .inr ⟨d, v, rfl, rfl, h1⟩
    · rw [if_neg e, valV_neg e]; exact h2.val k
theorem DKv.some {kvs : List (κ × D)} {ws : List (κ × V)} {k : κ} {d : D} (h : DKv K F kvs ws) (e : valD kvs k = some d) : ∃ v, valV ws k = Option.some v ∧ Dv K F d v := by
  rcases h.val k with ⟨h1, _⟩ | ⟨d', v, h1, h2, h3⟩
  · rw [e] at h1; cases h1
  · rw [e] at h1; cases h1; exact ⟨v, h2, h3⟩
theorem DKv.none {kvs : List (κ × D)} {ws : List (κ × V)} {k : κ} (h : DKv K F kvs ws) (e : valD kvs k = Option.none) : valV ws k = Option.none := by
  rcases h.val k with ⟨_, h1⟩ | ⟨d', v, h1, _, _⟩
  · exact h1
  · rw [e] at h1; cases h1
theorem DKv.isSome {kvs : List (κ × D)} {ws : List (κ × V)} (h : DKv K F kvs ws) (k : κ) : (valV ws k).isSome = (valD kvs k).isSome := by
  rcases h.val k with ⟨h1, h2⟩ | ⟨d', v, h1, h2, _⟩
  · rw [h1, h2]; rfl
  · rw [h1, h2]; rfl
theorem DKv.any {kvs : List (κ × D)} {ws : List (κ × V)} (h : DKv K F kvs ws) (k : κ) : (ws.any fun kv => decide (kv.1 = k)) = (kvs.any fun kv => decide (kv.1 = k)) := by
  rw [valV_any, valD_any, h.isSome]
theorem DKv.repl (k : κ) {y : D} {u : V} (ry : Dv K F y u) : ∀ {kvs : List (κ × D)} {ws : List (κ × V)}, DKv K F kvs ws →
    DKv K F (kvs.map fun kv => if kv.1 = k then (kv.1, y) else kv) (ws.map fun kv => if kv.1 = k then (kv.1, u) else kv)
  | [], _, h => by cases h; rfl
  | (k', d) :: kvs, _, ⟨v, ws, e, h1, h2⟩ => by
    subst e
    rw [List.map_cons, List.map_cons]
    by_cases e : k' = k
    · rw [if_pos e, if_pos e]; exact ⟨u, _, rfl, ry, h2.repl k ry⟩
    · rw [if_neg e, if_neg e]; exact ⟨v, _, rfl, h1, h2.repl k ry⟩
theorem DKv.put {kvs : List (κ × D)} {ws : List (κ × V)} (h : DKv K F kvs ws) (k : κ) {y : D} {u : V} (ry : Dv K F y u) : DKv K F (putD kvs k y) (putK ws k u) := by
  unfold putD putK
  rw [h.any]
  split
  · exact h.repl k ry
  · exact h.append ⟨u, [], rfl, ry, rfl⟩
theorem DKv.drop (k : κ) : ∀ {kvs : List (κ × D)} {ws : List (κ × V)}, DKv K F kvs ws → DKv K F (dropD kvs k) (dropK ws k)
  | [], _, h => by cases h; rfl
  | (k', d) :: kvs, _, ⟨v, ws, e, h1, h2⟩ => by
    subst e
    unfold dropD dropK
    rw [List.filter_cons, List.filter_cons]
    by_cases e : k' = k
    · rw [if_neg (by simp [e]), if_neg (by simp [e])]; exact h2.drop k
    · rw [if_pos (by simp [e]), if_pos (by simp [e])]; exact ⟨v, _, rfl, h1, h2.drop k⟩
end
end

/-! ### keys -/
def keyD : D → Option Key
  | .int i => some (.inl i)
  | .str x => some (.inr x)
  | _ => none
def keysD : List D → Option (List Key)
  | [] => some []
  | d :: ds => match keyD d, keysD ds with
    | some k, some ks => some (k :: ks)
    | _, _ => none
theorem keyD_v {K : PySem.W.Frag} {F : Hp} {d : D} {k : Key} {v : V} (h : keyD d = some k) (dv : Dv K F d v) : v = kV k := by
  unfold keyD at h
  split at h
  · cases h; exact dv
  · cases h; exact dv
  · cases h
theorem keysD_vs {K : PySem.W.Frag} {F : Hp} : ∀ {ds : List D} {ks : List Key} {vs : List V}, keysD ds = some ks → Dvs K F ds vs → vs = ks.map kV
  | [], _, _, h, e => by cases h; exact e
  | d :: ds, _, _, h, ⟨v, vs, e1, e2, e3⟩ => by
    subst e1
    unfold keysD at h
    split at h
    · rename_i k ks h1 h2
      cases h
      rw [keyD_v h1 e2, keysD_vs h2 e3]; rfl
    · cases h
theorem keysD_ints : ∀ ns : List Int, keysD (ns.map .int) = some (ns.map Sum.inl)
  | [] => rfl
  | n :: ns => by show (match keyD (.int n), keysD (ns.map .int) with | some k, some ks => some (k :: ks) | _, _ => none) = _; rw [keysD_ints ns]; rfl
/-- what stands under the key e of the dict at a: none: it is no dict, or e no key -/
def dGet (B : Bx) (a : Addr) (e : D) : Option (Option D) := match B a with
  | some (.dK kvs) => (keyD e).map (valD kvs)
  | some (.lk _ _ kvs) => (keyD e).map (valD kvs)
  | some (.dT kvs) => match e with
    | .tup xs => (keysD xs).map (valD kvs)
    | _ => none
  | _ => none
section
variable {K : PySem.W.Frag} {TS : List Addr} {F H : Hp} {B R : Bx} {a : Addr} {e d : D} {v : V} {o : Option D}
theorem dGet_of (rp : RepH K TS F H B R) (h : dGet B a e = some o) (dv : Dv K F e v) : ∃ r, DGet H a v r ∧ ((o = none ∧ r = none) ∨ ∃ d u, o = some d ∧ r = some u ∧ Dv K F d u) := by
  unfold dGet at h
  split at h
  · rename_i kvs hb
    obtain ⟨k, h1, h2⟩ := Option.map_eq_some_iff.mp h
    obtain ⟨_, ws, h3, h4⟩ := rp.bx a _ hb
    rw [keyD_v h1 dv]
    refine ⟨_, DGet.k h3, ?_⟩
    rw [← h2]
    rcases h4.val k with ⟨e1, e2⟩ | ⟨d, u, e1, e2, e3⟩
    · exact .inl ⟨e1, e2⟩
    · exact .inr ⟨d, u, e1, e2, e3⟩
  · rename_i ob ws kvs hb
    obtain ⟨k, h1, h2⟩ := Option.map_eq_some_iff.mp h
    obtain ⟨_, h3, h4⟩ := rp.bx a _ hb
    rw [keyD_v h1 dv]
    refine ⟨_, .inl ⟨ws, k, .inr ⟨ob, h3⟩, rfl, rfl⟩, ?_⟩
    rw [← h2]
    rcases h4.val k with ⟨e1, e2⟩ | ⟨d, u, e1, e2, e3⟩
    · exact .inl ⟨e1, e2⟩
    · exact .inr ⟨d, u, e1, e2, e3⟩
  · rename_i kvs hb
    split at h
    · obtain ⟨ks, h1, h2⟩ := Option.map_eq_some_iff.mp h
      obtain ⟨_, ws, h3, h4⟩ := rp.bx a _ hb
      obtain ⟨b, vs, rfl, h5, h6⟩ := dv
      rw [keysD_vs h1 h6] at h5
      refine ⟨_, DGet.t h3 (rp.le _ _ h5), ?_⟩
      rw [← h2]
      rcases h4.val ks with ⟨e1, e2⟩ | ⟨d, u, e1, e2, e3⟩
      · exact .inl ⟨e1, e2⟩
      · exact .inr ⟨d, u, e1, e2, e3⟩
    · cases h
  · cases h
end

section
variable {X : Cx} {TS : List Addr} {W : WX} {a b c e o : Expr} {ta tb tc : DTE} {pos : Pos}
/-! ### subscripts -/
def rIxD' : R2 := fun x y H Q => ∃ a v, x = .ref a ∧ DGet H a y (some v) ∧ Q v H
theorem ix_dict (hu : X.A.units + 1 < cLine) : IxR X rIxD' := by
  intro value slice pins s σ H x y v u Q I rx ry h hs
  obtain ⟨a, z, rfl, g, q⟩ := h
  cases rx
  exact tail_any (dict_typeIs I g) PySem.F.slot_dict_getitem.lookup (d_getItem hu I g ry fun w' s' I' rw' => ⟨z, H, I', rw', q⟩) hs
def ixSeq (xs : List D) (e : D) (q : D → Prop) : Prop := ∃ i v, e = .int i ∧ atI xs i = some v ∧ q v
def gIx : G2 := fun d e B q => match d with
  | .lst xs => ixSeq xs e fun v => q v B
  | .tup xs => ixSeq xs e fun v => q v B
  | .rol xs => ixSeq xs e fun v => q v B
  | .rot xs => ixSeq xs e fun v => q v B
  | .str z => ∃ i c, e = .int i ∧ z.length ≤ sizeLine ∧ atI z.cps.toList i = some c ∧ q (.str ⟨#[c]⟩) B
  | .ref a => (∃ xs, B a = some (.lst xs) ∧ ixSeq xs e fun v => q v B) ∨ ∃ v, dGet B a e = some (some v) ∧ q v B
  | _ => False
theorem atI_dvs {K : PySem.W.Frag} {F : Hp} {ds : List D} {vs : List V} {i : Int} {d : D} (h : Dvs K F ds vs) (e : atI ds i = some d) : ∃ v, atI vs i = some v ∧ Dv K F d v := by
  unfold atI at e ⊢
  rw [← h.length] at e
  cases hi : ixN vs.length i with
  | none => rw [hi] at e; cases e
  | some j =>
    rw [hi] at e
    exact h.get e
theorem od_ix {K : PySem.W.Frag} : OpD K TS (fun x y H Q => rIx K x y H Q ∨ rIxD' x y H Q) gIx := fun F H B R d e v u q Q rp hd he h hq => by
  have lst : ∀ {a : Addr} {xs : List D} {vs : List V}, SqL K H a vs → Dvs K F xs vs → ixSeq xs e (fun v => q v B) → rIx K (.ref a) u H Q := fun {a xs vs} h1 h2 ⟨i, w, e1, e2, e3⟩ => by
    subst e1
    obtain ⟨z, e4, e5⟩ := atI_dvs h2 e2
    exact .inl ⟨a, vs, i, z, rfl, he, h1, e4, hq.here rp e3 e5⟩
  have tup : ∀ {a : Addr} {xs : List D} {vs : List V}, SqT K H a vs → Dvs K F xs vs → ixSeq xs e (fun v => q v B) → rIx K (.ref a) u H Q := fun {a xs vs} h1 h2 ⟨i, w, e1, e2, e3⟩ => by
    subst e1
    obtain ⟨z, e4, e5⟩ := atI_dvs h2 e2
    exact .inr (.inl ⟨a, vs, i, z, rfl, he, h1, e4, hq.here rp e3 e5⟩)
  unfold gIx at h
  split at h
  · obtain ⟨a, vs, rfl, h1, h2⟩ := hd; exact .inl (lst (SqL.of (rp.le _ _ h1)) h2 h)
  · obtain ⟨a, vs, rfl, h1, h2⟩ := hd; exact .inl (tup (SqT.of (rp.le _ _ h1)) h2 h)
  · obtain ⟨a, vs, rfl, h1, h2⟩ := hd; exact .inl (lst (rp.le.seq h1) h2 h)
  · obtain ⟨a, vs, rfl, h1, h2⟩ := hd; exact .inl (tup (SqT_mono rp.le h1) h2 h)
  · obtain ⟨i, c, e1, e2, e3, e4⟩ := h
    subst e1
    exact .inl (.inr (.inr ⟨_, i, c, hd, he, e2, e3, hq.here rp e4 rfl⟩))
  · have hd : v = _ := hd
    subst hd
    rcases h with ⟨xs, hb, h⟩ | ⟨w, hb, h⟩
    · obtain ⟨_, vs, h2, h3⟩ := rp.bx _ _ hb
      exact .inl (lst (SqL.of h2) h3 h)
    · obtain ⟨r, h1, h2⟩ := dGet_of rp hb he
      rcases h2 with ⟨z, _⟩ | ⟨d, z, h3, h4, h5⟩
      · cases z
      · cases h3
        subst h4
        exact .inr ⟨_, z, rfl, h1, hq.here rp h h5⟩
  · exact h.elim
/-- a[b] -/
theorem de_ix (hu : X.A.units + 1 < cLine) (ha : DE X TS W a ta) (hb : DE X TS W b tb) (hs : PlainIx b := by exact fun _ _ => rfl) : DE X TS W (.Subscript a b pos) (dOp gIx ta tb) :=
  PE_imp (pe_ix (IxR.or ix_seq (ix_dict hu)) ha hb hs) fun _ _ _ => two_lift od_ix

/-! ### in, not in -/
def flatD : D → Bool
  | .non => true
  | .bl _ => true
  | .int _ => true
  | .str _ => true
  | _ => false
def eqF : D → D → Bool
  | .non, .non => true
  | .bl a, .bl b => a == b
  | .bl a, .int b => (if a then 1 else 0) == b
  | .int a, .bl b => a == (if b then 1 else 0)
  | .int a, .int b => a == b
  | .str a, .str b => a == b
  | _, _ => false
def inD (x : D) (xs : List D) : Bool := xs.any fun y => eqF y x
def toV : D → V
  | .non => .non
  | .bl b => .bl b
  | .int i => .int i
  | .str x => .str x
  | _ => .non
theorem flat_v {K : PySem.W.Frag} {F : Hp} : ∀ {d : D} {v : V}, flatD d = true → Dv K F d v → v = toV d ∧ flatV v = true
  | .non, _, _, h => by cases h; exact ⟨rfl, rfl⟩
  | .bl _, _, _, h => by cases h; exact ⟨rfl, rfl⟩
  | .int _, _, _, h => by cases h; exact ⟨rfl, rfl⟩
  | .str _, _, _, h => by cases h; exact ⟨rfl, rfl⟩
  | .lst _, _, h, _ => by cases h
  | .tup _, _, h, _ => by cases h
  | .rol _, _, h, _ => by cases h
  | .rot _, _, h, _ => by cases h
  | .ref _, _, h, _ => by cases h
  | .ty _, _, h, _ => by cases h
  | .obj _, _, h, _ => by cases h
theorem eqF_v {d e : D} (hd : flatD d = true) (he : flatD e = true) : eqV (toV d) (toV e) = eqF d e := by
  cases d <;> first | (exact absurd hd Bool.false_ne_true) | (cases e <;> first | (exact absurd he Bool.false_ne_true) | rfl)
theorem inD_v {K : PySem.W.Frag} {F : Hp} {x : D} {v : V} (hx : flatD x = true) (dv : Dv K F x v) : ∀ {ds : List D} {vs : List V}, ds.all flatD = true → Dvs K F ds vs → vs.all flatV = true ∧ inV v vs = inD x ds
  | [], _, _, h => by cases h; exact ⟨rfl, rfl⟩
  | d :: ds, _, h, ⟨w, ws, e1, e2, e3⟩ => by
    subst e1
    rw [List.all_cons, Bool.and_eq_true] at h
    obtain ⟨i1, i2⟩ := inD_v hx dv h.2 e3
    obtain ⟨f1, f2⟩ := flat_v h.1 e2
    obtain ⟨f3, f4⟩ := flat_v hx dv
    refine ⟨by rw [List.all_cons, f2, i1]; rfl, ?_⟩
    unfold inV inD at i2 ⊢
    rw [List.any_cons, List.any_cons, i2, f1, f3, eqF_v h.1 hx]
theorem inD_int (n : Int) : ∀ ns : List Int, inD (.int n) (ns.map .int) = decide (n ∈ ns)
  | [] => rfl
  | m :: ns => by
    unfold inD
    rw [List.map_cons, List.any_cons]
    have ih := inD_int n ns
    unfold inD at ih
    rw [ih]
    show ((m == n) || _) = _
    by_cases h : m = n
    · subst h; simp
    · have h' : ¬ n = m := fun z => h z.symm
      simp [h, h']
theorem inD_str (n : Str) : ∀ ns : List Str, inD (.str n) (ns.map .str) = decide (n ∈ ns)
  | [] => rfl
  | m :: ns => by
    unfold inD
    rw [List.map_cons, List.any_cons]
    have ih := inD_str n ns
    unfold inD at ih
    rw [ih]
    show ((m == n) || _) = _
    by_cases h : m = n
    · subst h; simp
    · have h' : ¬ n = m := fun z => h z.symm
      simp [h, h']
theorem flat_ints : ∀ ns : List Int, (ns.map D.int).all flatD = true
  | [] => rfl
  | _ :: ns => by rw [List.map_cons, List.all_cons, flat_ints ns]; rfl
theorem flat_strs : ∀ ns : List Str, (ns.map D.str).all flatD = true
  | [] => rfl
  | _ :: ns => by rw [List.map_cons, List.all_cons, flat_strs ns]; rfl
def gIn (neg : Bool) : G2 := fun e c B q => match c with
  | .str z => ∃ s, e = .str ⟨#[s]⟩ ∧ q (.bl (neg ^^ decide (s ∈ z.cps.toList))) B
  | .ref a => (∃ o, dGet B a e = some o ∧ q (.bl (neg ^^ o.isSome)) B) ∨ (∃ xs, B a = some (.lst xs) ∧ flatD e = true ∧ xs.all flatD = true ∧ q (.bl (neg ^^ inD e xs)) B)
  | c => ∃ xs, seqOf B c = some xs ∧ flatD e = true ∧ xs.all flatD = true ∧ q (.bl (neg ^^ inD e xs)) B
def rInS (neg : Bool) : R2 := fun x y H Q => ∃ (c : Nat) (z : Str), x = .str ⟨#[c]⟩ ∧ y = .str z ∧ Q (.bl (neg ^^ decide (c ∈ z.cps.toList))) H
def rInDk (neg : Bool) : R2 := fun x y H Q => ∃ a o, y = .ref a ∧ DGet H a x o ∧ Q (.bl (neg ^^ o.isSome)) H
theorem op_inD (hu : X.A.units + 1 < cLine) : OpR X (compareOp .In) (rInDk false) := by
  intro pins s σ H x y v u Q I rx ry h
  obtain ⟨a, o, rfl, g, q⟩ := h
  cases ry
  rw [Bool.false_xor] at q
  exact d_in hu I g rx fun s' I' => ⟨.bl o.isSome, H, I', rfl, q⟩
theorem op_notInD (hu : X.A.units + 1 < cLine) : OpR X (compareOp .NotIn) (rInDk true) := by
  intro pins s σ H x y v u Q I rx ry h
  obtain ⟨a, o, rfl, g, q⟩ := h
  cases ry
  rw [Bool.true_xor] at q
  exact d_notIn hu I g rx fun s' I' => ⟨.bl (!o.isSome), H, I', rfl, q⟩
theorem op_inS : OpR X (compareOp .In) (rInS false) := by
  intro pins s σ H x y v u Q I rx ry h
  obtain ⟨c, z, e1, e2, q⟩ := h
  rw [Bool.false_xor] at q
  exact op_in_sign pins s σ H x y v u Q I rx ry ⟨c, z, e1, e2, q⟩
theorem op_notInS : OpR X (compareOp .NotIn) (rInS true) := by
  intro pins s σ H x y v u Q I rx ry h
  obtain ⟨c, z, e1, e2, q⟩ := h
  rw [Bool.true_xor] at q
  exact op_notIn_sign pins s σ H x y v u Q I rx ry ⟨c, z, e1, e2, q⟩
def rInQ (K : PySem.W.Frag) (neg : Bool) : R2 := fun x y H Q => ∃ p xs, y = .ref p ∧ (SqL K H p xs ∨ SqT K H p xs) ∧ flatV x = true ∧ xs.all flatV = true ∧ Q (.bl (neg ^^ inV x xs)) H
theorem op_inQ : OpR X (compareOp .In) (rInQ X.K false) := by
  intro pins s σ H x y v u Q I rx ry h
  obtain ⟨p, xs, e1, h1, h2, h3, q⟩ := h
  rw [Bool.false_xor] at q
  exact op_in_seq pins s σ H x y v u Q I rx ry ⟨p, xs, e1, h1, h2, h3, q⟩
theorem op_notInQ : OpR X (compareOp .NotIn) (rInQ X.K true) := by
  intro pins s σ H x y v u Q I rx ry h
  obtain ⟨p, xs, e1, h1, h2, h3, q⟩ := h
  rw [Bool.true_xor] at q
  exact op_notIn_seq pins s σ H x y v u Q I rx ry ⟨p, xs, e1, h1, h2, h3, q⟩
theorem od_in {K : PySem.W.Frag} (neg : Bool) : OpD K TS (fun x y H Q => rInQ K neg x y H Q ∨ (rInDk neg x y H Q ∨ rInS neg x y H Q)) (gIn neg) := fun F H B R e c v u q Q rp he hc h hq => by
  have seq : ∀ {a : Addr} {xs : List D} {vs : List V}, u = .ref a → (SqL K H a vs ∨ SqT K H a vs) → Dvs K F xs vs → flatD e = true → xs.all flatD = true → q (.bl (neg ^^ inD e xs)) B → rInQ K neg v u H Q := fun {a xs vs} eu h1 h2 h3 h4 h5 => by
    obtain ⟨i1, i2⟩ := inD_v h3 he h4 h2
    exact ⟨a, vs, eu, h1, (flat_v h3 he).2, i1, by rw [i2]; exact hq.here rp h5 rfl⟩
  unfold gIn at h
  split at h
  · obtain ⟨s, e1, h⟩ := h
    subst e1
    exact .inr (.inr ⟨s, _, he, hc, hq.here rp h rfl⟩)
  · have hc : u = _ := hc
    rcases h with ⟨o, hb, h⟩ | ⟨xs, hb, h3, h4, h⟩
    · obtain ⟨r, h1, h2⟩ := dGet_of rp hb he
      refine .inr (.inl ⟨_, r, hc, h1, hq.here rp (d := .bl (neg ^^ o.isSome)) h ?_⟩)
      rcases h2 with ⟨e1, e2⟩ | ⟨d, z, e1, e2, _⟩
      · rw [e1, e2]; rfl
      · rw [e1, e2]; rfl
    · obtain ⟨_, vs, h2, h5⟩ := rp.bx _ _ hb
      exact .inl (seq hc (.inl (SqL.of h2)) h5 h3 h4 h)
  · obtain ⟨xs, hb, h3, h4, h⟩ := h
    obtain ⟨a, vs, e1, h2, h5⟩ := seq_of rp hb hc
    exact .inl (seq e1 h5 h2 h3 h4 h)
theorem cd_in (hu : X.A.units + 1 < cLine) : CmpD X TS .In (gIn false) := ⟨_, OpR.or op_inQ (OpR.or (op_inD hu) op_inS), od_in false⟩
theorem cd_notIn (hu : X.A.units + 1 < cLine) : CmpD X TS .NotIn (gIn true) := ⟨_, OpR.or op_notInQ (OpR.or (op_notInD hu) op_notInS), od_in true⟩

/-! ### slices -/
def cutD (xs : List D) (lo hi : Option Int) : List D := (xs.drop (HT.sIx xs.length 0 lo)).take (HT.sIx xs.length xs.length hi - HT.sIx xs.length 0 lo)
theorem cut_dvs {K : PySem.W.Frag} {F : Hp} {ds : List D} {vs : List V} (h : Dvs K F ds vs) (lo hi : Option Int) : Dvs K F (cutD ds lo hi) (cutV vs lo hi) := by
  unfold cutD cutV
  rw [h.length]
  exact (h.drop _).take _
abbrev DTO := Gm → Bx → (Option Int → Bx → Prop) → XD → Prop
def LO (K : PySem.W.Frag) (TS : List Addr) (W : WX) (t : DTO) : TO := fun σ H Q => ∃ F Γ B R q x, Slots K F σ Γ ∧ RepH K TS F H B R ∧ t Γ B q x ∧ (∀ o B' F' H', q o B' → Same F F' → RepH K TS F' H' B' R → Q o H') ∧ XL K TS W F R σ x
def DO (X : Cx) (TS : List Addr) (W : WX) (e : Option Expr) (t : DTO) : Prop := PO X e (LO X.K TS W t)
def dNoPart : DTO := fun _ B q _ => q none B
def dPart (t : DTE) : DTO := fun Γ B q x => t Γ B (fun d B1 => match d with
  | .int i => q (some i) B1
  | _ => False) x
theorem do_none : DO X TS W none dNoPart := ⟨fun pins s σ H Q I ⟨F, Γ, B, R, q, x, s1, rp, hu, hq, hx⟩ => po_none.run pins s σ H Q I (hq _ B F H hu (Same.refl F) rp)⟩
theorem do_some (h : DE X TS W e ta) : DO X TS W (some e) (dPart ta) := ⟨fun pins s σ H Q I ⟨F, Γ, B, R, q, x, s1, rp, hu, hq, hx⟩ => (po_some h).run pins s σ H Q I
  ⟨F, Γ, B, R, _, x, s1, rp, hu, fun d B1 F1 H1 v h1 e1 rp1 dv1 => by
    dsimp only at h1
    split at h1
    · exact ⟨_, dv1, hq _ B1 F1 H1 h1 e1 rp1⟩
    · exact h1.elim, hx⟩⟩
def gSl (d : D) (lo hi : Option Int) (B : Bx) (q : DK) : Prop := match d with
  | .tup xs => q (.tup (cutD xs lo hi)) B
  | .str z => z.length ≤ sizeLine ∧ q (.str (cutS z lo hi)) B
  | d => ∃ xs, lstOf B d = some xs ∧ q (.lst (cutD xs lo hi)) B
def dSl (t : DTE) (tl th : DTO) : DTE := fun Γ B q x => t Γ B (fun d B1 => tl Γ B1 (fun l B2 => th Γ B2 (fun h B3 => gSl d l h B3 q) x) x) x
theorem cutD_all {xs : List D} {lo hi : Option Int} (h : HT.sIx xs.length 0 lo = 0 ∧ HT.sIx xs.length xs.length hi = xs.length) : cutD xs lo hi = xs := by
  unfold cutD
  rw [h.1, h.2, List.drop_zero, Nat.sub_zero, List.take_length]
variable {lo hi : Option Expr} {tl th : DTO} {p2 : Pos}
theorem de_slice (he : DE X TS W e ta) (hl : DO X TS W lo tl) (hh : DO X TS W hi th) : DE X TS W (.Subscript e (.Slice lo hi none p2) pos) (dSl ta tl th) :=
  PE_imp (pe_slice (SlR.or sl_list (SlR.or sl_tupA sl_str)) he hl hh) fun σ H Q ⟨F, Γ, B, R, q, x, s, rp, hu, hq, hx⟩ => by
    refine ⟨F, Γ, B, R, _, x, s, rp, hu, fun d B1 F1 H1 v h1 e1 rp1 dv1 => ⟨F1, Γ, B1, R, _, x, s.mono e1, rp1, h1, fun l B2 F2 H2 h2 e2 rp2 => ⟨F2, Γ, B2, R, _, x, s.mono (e1.trans e2), rp2, h2, fun h B3 F3 H3 h3 e3 rp3 => ?_, hx.mono (e1.trans e2)⟩, hx.mono e1⟩, hx⟩
    have dv3 := dv1.mono (e2.trans e3)
    have hq3 := hq.mono (e1.trans (e2.trans e3))
    unfold gSl at h3
    split at h3
    · rename_i xs
      obtain ⟨a, vs, rfl, h4, h5⟩ := dv3
      have hlen := h5.length
      refine .inr (.inl ⟨a, vs, rfl, SqT.of (rp3.le _ _ h4), fun hw => ?_, fun _ p hp => new_tup rp3 hq3 h3 (cut_dvs h5 l h) hp⟩)
      rw [hlen] at hw
      rw [cutD_all hw] at h3
      exact hq3.here rp3 h3 ⟨a, vs, rfl, h4, h5⟩
    · exact .inr (.inr ⟨_, dv3, h3.1, hq3.here rp3 h3.2 rfl⟩)
    · obtain ⟨xs, h4, h3⟩ := h3
      obtain ⟨a, vs, rfl, h5, h6⟩ := lst_of rp3 h4 dv3
      exact .inl ⟨a, vs, rfl, h6, fun p hp => new_lst rp3 hq3 h3 (cut_dvs h5 l h) hp⟩

/-! ### methods of lists -/
variable {es : List Expr} {tg : DTA} {apos cpos : Pos}
/-- o.append(e) -/
def dAppend (to te : DTE) : DTE := fun Γ B q x => to Γ B (fun d B1 => match d with
  | .ref a => (∃ ys, B1 a = some (.lst ys)) ∧ te Γ B1 (fun y B2 => ∃ xs, B2 a = some (.lst xs) ∧ xs.length < sizeLine ∧ q .non (put B2 a (.lst (xs ++ [y])))) x
  | _ => False) x
theorem de_append {o e : Expr} {to te : DTE} (ho : DE X TS W o to) (he : DE X TS W e te) (hbase : attributeBase o "append" X.env (eval o X.env) = eval o X.env := by rfl)
    (hfew : ((backTo cpos (starEach [e] X.env)).all (fun x => !x.1) && (backToKw cpos (keywordEach [] X.env)).all (fun x => x.1.isSome) && decide (([e] : List Expr).length + ([] : List Keyword).length + (if ([] : List Keyword).isEmpty then 0 else 1) < 30)) = true := by rfl)
    (hline : (apos.endLine == cpos.line) = true := by rfl) (hs : starEach [e] X.env = (false, eval e X.env) :: starEach [] X.env := by rfl) (hplain : (backTo cpos (starEach [] X.env)).any (·.1) = false := by rfl) :
    DE X TS W (.Call (.Attribute o "append" apos) [e] [] cpos) (dAppend to te) :=
  PE_imp (pe_bm PySem.F.plainAttrs_list PySem.F.slot_list_append PySem.F.type_list_append mt_append ho (pa_cons he pa_nil hs) hbase hfew hline hs hplain) fun σ H Q ⟨F, Γ, B, R, q, x, s, rp, hu, hq, hx⟩ => by
    refine ⟨F, Γ, B, R, _, x, s, rp, hu, fun d B1 F1 H1 v h1 e1 rp1 dv1 => ?_, hx⟩
    dsimp only at h1
    split at h1
    · rename_i a
      have dv1 : v = _ := dv1
      subst dv1
      obtain ⟨⟨ys, hb⟩, h1⟩ := h1
      obtain ⟨_, vs, h2, h3⟩ := rp1.bx _ _ hb
      refine ⟨.inl ⟨rfl, _, SqL.of h2⟩, F1, Γ, B1, R, _, x, s.mono e1, rp1, h1, fun y B2 F2 H2 u h4 e2 rp2 dv2 => ?_, hx.mono e1⟩
      obtain ⟨xs, hb2, hz, h4⟩ := h4
      obtain ⟨_, us, h5, h6⟩ := rp2.bx _ _ hb2
      refine ⟨a, us, u, rfl, rfl, h5, by rw [h6.length]; exact hz, ?_⟩
      exact hq _ _ F2 _ _ h4 (e1.trans e2) (rp2.write hb2 ⟨_, upd_same, h6.append ⟨u, [], rfl, dv2, rfl⟩⟩) rfl
    · exact h1.elim
end
end DL
set_option Elab.async false
set_option linter.all false
set_option maxRecDepth 100000
set_option maxHeartbeats 1000000
/-! DL4: targets, statements, loops. -/
namespace DL
open PySem PySem.Spec PyProof.Rows L2

structure DEnds where
  nx : Gm → Bx → Prop
  rt : DK
  bk : Gm → Bx → Prop := fun _ _ => False
  ct : Gm → Bx → Prop := fun _ _ => False
  ex : Gm → XD
abbrev DTS := DEnds → Gm → Bx → Prop
def NL (K : PySem.W.Frag) (TS : List Addr) (F : Hp) (R : Bx) (n : Gm → Bx → Prop) (N : L2.St → Hp → Prop) : Prop := ∀ Γ' B' F' σ' H', n Γ' B' → Same F F' → Slots K F' σ' Γ' → RepH K TS F' H' B' R → N σ' H'
theorem NL.mono {K : PySem.W.Frag} {TS : List Addr} {F F' : Hp} {R : Bx} {n : Gm → Bx → Prop} {N : L2.St → Hp → Prop} (h : NL K TS F R n N) (e : Same F F') : NL K TS F' R n N := fun Γ' B' F2 σ' H' hn e2 => h Γ' B' F2 σ' H' hn (e.trans e2)
structure EL (K : PySem.W.Frag) (TS : List Addr) (W : WX) (F : Hp) (R : Bx) (E : DEnds) (D : Ends) : Prop where
  nx : NL K TS F R E.nx D.nx
  rt : QL K TS F R E.rt D.rt
  bk : NL K TS F R E.bk D.bk
  ct : NL K TS F R E.ct D.ct
  ex : ∀ σ' Γ' F', Same F F' → Slots K F' σ' Γ' → XL K TS W F' R σ' (E.ex Γ')
theorem EL.mono {K : PySem.W.Frag} {TS : List Addr} {W : WX} {F F' : Hp} {R : Bx} {E : DEnds} {D : Ends} (h : EL K TS W F R E D) (e : Same F F') : EL K TS W F' R E D :=
  ⟨h.nx.mono e, h.rt.mono e, h.bk.mono e, h.ct.mono e, fun σ' Γ' F2 e2 => h.ex σ' Γ' F2 (e.trans e2)⟩
def LS (K : PySem.W.Frag) (TS : List Addr) (W : WX) (t : DTS) : L2.TS := fun D σ H => ∃ F Γ B R E, Slots K F σ Γ ∧ RepH K TS F H B R ∧ t E Γ B ∧ EL K TS W F R E D
def DS (X : Cx) (TS : List Addr) (W : WX) (st : Stmt) (t : DTS) : Prop := PS X st (LS X.K TS W t)
def DSs (X : Cx) (TS : List Addr) (W : WX) (st : List Stmt) (t : DTS) : Prop := PSs X st (LS X.K TS W t)
theorem PS_imp {X : Cx} {e : Stmt} {t t' : L2.TS} (h : PS X e t) (k : ∀ D σ H, t' D σ H → t D σ H) : PS X e t' := ⟨fun pins s σ H D I hw => h.run pins s σ H D I (k D σ H hw)⟩
theorem PSs_imp {X : Cx} {e : List Stmt} {t t' : L2.TS} (h : PSs X e t) (k : ∀ D σ H, t' D σ H → t D σ H) : PSs X e t' := ⟨fun pins s σ H D I hw => h.run pins s σ H D I (k D σ H hw)⟩

/-! ### targets -/
abbrev DTG := D → Gm → Bx → (Gm → Bx → Prop) → Prop
abbrev DTGs := List D → Gm → Bx → (Gm → Bx → Prop) → Prop
def LG (K : PySem.W.Frag) (TS : List Addr) (t : DTG) : TG := fun v σ H Q => ∃ F Γ B R q d, Slots K F σ Γ ∧ RepH K TS F H B R ∧ Dv K F d v ∧ t d Γ B q ∧ NL K TS F R q Q
def LGs (K : PySem.W.Frag) (TS : List Addr) (t : DTGs) : TGs := fun vs σ H Q => ∃ F Γ B R q ds, Slots K F σ Γ ∧ RepH K TS F H B R ∧ Dvs K F ds vs ∧ t ds Γ B q ∧ NL K TS F R q Q
def DG (X : Cx) (TS : List Addr) (e : Expr) (t : DTG) : Prop := PG X e (LG X.K TS t)
def DGs (X : Cx) (TS : List Addr) (es : List Expr) (t : DTGs) : Prop := PGs X es (LGs X.K TS t)
theorem PG_imp {X : Cx} {e : Expr} {t t' : TG} (h : PG X e t) (k : ∀ v σ H Q, t' v σ H Q → t v σ H Q) : PG X e t' := ⟨fun pins s σ H v u Q I r hw => h.run pins s σ H v u Q I r (k v σ H Q hw)⟩
theorem PGs_imp {X : Cx} {es : List Expr} {t t' : TGs} (h : PGs X es t) (k : ∀ v σ H Q, t' v σ H Q → t v σ H Q) : PGs X es t' := ⟨fun pins s σ H vs us Q I r hw => h.run pins s σ H vs us Q I r (k vs σ H Q hw)⟩
section
variable {X : Cx} {TS : List Addr} {W : WX} {pos : Pos}
def hName (i : Nat) : DTG := fun d Γ B q => q (setS Γ i d) B
theorem dg_name (i : Nat) {x : Str} (hN : X.N.Nodup) (hi : X.N[i]? = some x := by rfl) (hx : Loc X.env.scope x := by first | exact Or.inl rfl | exact Or.inr rfl) (hf : X.fn x = true ∨ X.env.scope.names.lookup x = some .local := by first | exact .inl rfl | exact .inr rfl) : DG X TS (.Name x pos) (hName i) :=
  PG_imp (pg_name hN hi hx hf) fun v σ H Q ⟨F, Γ, B, R, q, d, s, rp, dv, hu, hq⟩ => by
    have hu : q (setS Γ i d) B := hu
    rw [setS_eq] at hu
    exact hq _ B F _ H hu (Same.refl F) (s.set i dv) rp
def hNil : DTGs := fun _ Γ B q => q Γ B
def hCons (t : DTG) (u : DTGs) : DTGs := fun ds Γ B q => match ds with
  | d :: r => t d Γ B (fun Γ' B' => u r Γ' B' q)
  | [] => False
theorem dgs_nil : DGs X TS [] (fun ds Γ B q => match ds with | [] => q Γ B | _ => False) := PGs_imp pgs_nil fun v σ H Q ⟨F, Γ, B, R, q, ds, s, rp, dv, hu, hq⟩ => by
  dsimp only at hu
  split at hu
  · cases dv; exact ⟨rfl, hq _ B F _ H hu (Same.refl F) s rp⟩
  · exact hu.elim
theorem dgs_cons {e : Expr} {es : List Expr} {t : DTG} {u : DTGs} (h1 : DG X TS e t) (h2 : DGs X TS es u)
    (hs : (assignEach (e :: es) X.env).map (·.2) = assign e X.env :: (assignEach es X.env).map (·.2) := by rfl) : DGs X TS (e :: es) (hCons t u) := PGs_imp (pgs_cons h1 h2 hs) fun v σ H Q ⟨F, Γ, B, R, q, ds, s, rp, dv, hu, hq⟩ => by
  unfold hCons at hu
  split at hu
  · obtain ⟨v1, vr, e1, h3, h4⟩ := dv
    exact ⟨v1, vr, e1, F, Γ, B, R, _, _, s, rp, h3, hu, fun Γ' B' F' σ' H' hn e2 s2 rp2 => ⟨F', Γ', B', R, q, _, s2, rp2, h4.mono e2, hn, hq.mono e2⟩⟩
  · exact hu.elim
def hTup (t : DTGs) : DTG := fun d Γ B q => match d with
  | .tup xs => t xs Γ B q
  | d => ∃ xs, tupOf d = some xs ∧ t xs Γ B q
def hLst (t : DTGs) : DTG := fun d Γ B q => ∃ xs, lstOf B d = some xs ∧ t xs Γ B q
/-- the number of items is that of the targets -/
def lenIs (t : DTGs) (n : Nat) : Prop := ∀ ds Γ B q, t ds Γ B q → ds.length = n
theorem lenIs_nil : lenIs (fun ds Γ B q => match ds with | [] => q Γ B | _ => False) 0 := fun ds Γ B q h => by
  dsimp only at h
  split at h
  · rfl
  · exact h.elim
theorem lenIs_cons {t : DTG} {u : DTGs} {n : Nat} (hm : ∀ d Γ B q, t d Γ B q → ∃ Γ' B', q Γ' B') (h : lenIs u n) : lenIs (hCons t u) (n + 1) := fun ds Γ B q hh => by
  unfold hCons at hh
  split at hh
  · obtain ⟨Γ', B', h2⟩ := hm _ _ _ _ hh
    rw [List.length_cons, h _ _ _ _ h2]
  · exact hh.elim
theorem hm_name {i : Nat} : ∀ d Γ B q, hName i d Γ B q → ∃ Γ' B', q Γ' B' := fun d Γ B q h => ⟨_, _, h⟩
theorem dg_tup {es : List Expr} {k : Nat} {t : DTGs} {n : Nat} (hc : X.calm = true) (h : DGs X TS es t) (hl : lenIs t n)
    (hn : (assignEach es X.env).length = n := by rfl) (hst : (assignEach es X.env).findIdx? (·.1) = none := by rfl) : DG X TS (.Tuple es k pos) (hTup t) := PG_imp (pg_tup hc h hn hst) fun v σ H Q ⟨F, Γ, B, R, q, d, s, rp, dv, hu, hq⟩ => by
  have hu' : ∃ xs, tupOf d = some xs ∧ t xs Γ B q := by
    unfold hTup at hu
    split at hu
    · exact ⟨_, rfl, hu⟩
    · exact hu
  obtain ⟨xs, h1, h2⟩ := hu'
  obtain ⟨a, vs, e1, h3, h4⟩ := tup_of rp h1 dv
  exact ⟨a, vs, e1, h4, h3.length.trans (hl _ _ _ _ h2), F, Γ, B, R, q, xs, s, rp, h3, h2, hq⟩
theorem dg_lst {es : List Expr} {k : Nat} {t : DTGs} {n : Nat} (hc : X.calm = true) (h : DGs X TS es t) (hl : lenIs t n)
    (hn : (assignEach es X.env).length = n := by rfl) (hst : (assignEach es X.env).findIdx? (·.1) = none := by rfl) : DG X TS (.Tuple es k pos) (hLst t) := PG_imp (pg_lst hc h hn hst) fun v σ H Q ⟨F, Γ, B, R, q, d, s, rp, dv, hu, hq⟩ => by
  obtain ⟨xs, h1, h2⟩ := hu
  obtain ⟨a, vs, e1, h3, h4⟩ := lst_of rp h1 dv
  exact ⟨a, vs, e1, h4, h3.length.trans (hl _ _ _ _ h2), F, Γ, B, R, q, xs, s, rp, h3, h2, hq⟩

/-! #### o[i] = v -/
theorem PSet.or {r r' : TSet} (h : PSet X r) (h' : PSet X r') : PSet X (fun o i v H Q => r o i v H Q ∨ r' o i v H Q) := by
  intro pins s σ H o i v ov iv u Q I r1 r2 r3 q
  rcases q with q | q
  · exact h pins s σ H o i v ov iv u Q I r1 r2 r3 q
  · exact h' pins s σ H o i v ov iv u Q I r1 r2 r3 q
def rSetD : TSet := fun o i v H Q => ∃ a H', o = .ref a ∧ DPut H a i v H' ∧ Q H'
theorem set_dict (hu : X.A.units + 1 < cLine) : PSet X rSetD := by
  intro pins s σ H o i v ov iv u Q I r1 r2 r3 h
  obtain ⟨a, H', e, g, q⟩ := h
  subst e
  cases r1
  exact d_setItem hu I g r2 r3 fun s' I' => ⟨H', I', q⟩
def gSet (o i v : D) (B : Bx) (q : Bx → Prop) : Prop := match o with
  | .ref a => ∃ b, B a = some b ∧ match b with
    | .lst xs => ∃ k j, i = .int k ∧ ixN xs.length k = some j ∧ q (put B a (.lst (xs.set j v)))
    | .dK kvs => ∃ k, keyD i = some k ∧ kvs.length < sizeLine ∧ q (put B a (.dK (putD kvs k v)))
    | .dT kvs => ∃ ys ks, i = .tup ys ∧ keysD ys = some ks ∧ kvs.length < sizeLine ∧ q (put B a (.dT (putD kvs ks v)))
    | _ => False
  | _ => False
theorem set_lift {K : PySem.W.Frag} {F H : Hp} {B R : Bx} {o i d : D} {vo vi v : V} {q : Bx → Prop} {Q : Hp → Prop} (rp : RepH K TS F H B R) (ho : Dv K F o vo) (hi : Dv K F i vi) (hd : Dv K F d v) (h : gSet o i d B q)
    (hq : ∀ B' H', q B' → RepH K TS F H' B' R → Q H') : rSetL vo vi v H Q ∨ rSetD vo vi v H Q := by
  unfold gSet at h
  split at h
  · rename_i a
    have ho : vo = _ := ho
    subst ho
    obtain ⟨b, hb, h⟩ := h
    have bx := (rp.bx a b hb).2
    split at h
    · obtain ⟨vs, h1, h2⟩ := bx
      obtain ⟨k, j, e1, e2, h⟩ := h
      subst e1
      exact .inl ⟨a, vs, k, j, rfl, hi, h1, by rw [h2.length]; exact e2, hq _ _ h (rp.write hb ⟨_, upd_same, h2.set j hd⟩)⟩
    · obtain ⟨ws, h1, h2⟩ := bx
      obtain ⟨k, e1, e2, h⟩ := h
      rw [keyD_v e1 hi]
      exact .inr ⟨a, _, rfl, DPut.k h1 (by rw [h2.length]; exact e2), hq _ _ h (rp.write hb ⟨_, upd_same, h2.put k hd⟩)⟩
    · obtain ⟨ws, h1, h2⟩ := bx
      obtain ⟨ys, ks, e0, e1, e2, h⟩ := h
      subst e0
      obtain ⟨c, us, rfl, h3, h4⟩ := hi
      rw [keysD_vs e1 h4] at h3
      exact .inr ⟨a, _, rfl, DPut.t h1 (rp.le _ _ h3) (by rw [h2.length]; exact e2), hq _ _ h (rp.write hb ⟨_, upd_same, h2.put ks hd⟩)⟩
    · exact h.elim
  · exact h.elim
def noX : XD := fun _ _ => False
theorem XL.noX {K : PySem.W.Frag} {F : Hp} {R : Bx} {σ : L2.St} : XL K TS W F R σ noX := fun _ _ _ _ h => h.elim
def hSub (to ti : DTE) : DTG := fun d Γ B q => to Γ B (fun o B1 => ti Γ B1 (fun i B2 => gSet o i d B2 fun B3 => q Γ B3) noX) noX
theorem dg_sub {o i : Expr} {to ti : DTE} (hu : X.A.units + 1 < cLine) (ho : DE X TS W o to) (hi : DE X TS W i ti)
    (ha : ∀ v, assign (.Subscript o i pos) X.env v = (do
      let ov ← holding [v] (eval o X.env)
      let iv ← holding [v, ov] (eval i X.env)
      standAt pos
      holding [v, ov, iv] (setItem ov iv v)
      release [v, ov, iv] []) := by intro _; rfl) : DG X TS (.Subscript o i pos) (hSub to ti) := PG_imp (pg_sub ho hi (PSet.or set_list (set_dict hu)) ha) fun v σ H Q ⟨F, Γ, B, R, q, d, s, rp, dv, hu, hq⟩ => by
  refine ⟨F, Γ, B, R, _, noX, s, rp, hu, fun o B1 F1 H1 vo h1 e1 rp1 dv1 => ⟨F1, Γ, B1, R, _, noX, s.mono e1, rp1, h1, fun i B2 F2 H2 vi h2 e2 rp2 dv2 => ?_, XL.noX⟩, XL.noX⟩
  exact set_lift rp2 (dv1.mono e2) dv2 (dv.mono (e1.trans e2)) h2 fun B' H' hb rp' => hq Γ B' F2 σ H' hb (e1.trans e2) (s.mono (e1.trans e2)) rp'
end

/-! ### statements -/
section
variable {X : Cx} {TS : List Addr} {W : WX} {pos : Pos} {e : Expr} {te : DTE} {st : Stmt} {rest : List Stmt} {t u : DTS}
def dNext : DTS := fun E Γ B => E.nx Γ B
def dSeq (t u : DTS) : DTS := fun E Γ B => t { E with nx := fun Γ' B' => u E Γ' B' } Γ B
theorem dss_nil : DSs X TS W [] dNext := PSs_imp pss_nil fun D σ H ⟨F, Γ, B, R, E, s, rp, hu, hE⟩ => hE.nx Γ B F σ H hu (Same.refl F) s rp
theorem dss_one (h : DS X TS W st t) : DSs X TS W [st] t := pss_one h
theorem dss_cons (h1 : DS X TS W st t) (h2 : DSs X TS W rest u) : DSs X TS W (st :: rest) (dSeq t u) := PSs_imp (pss_cons h1 h2) fun D σ H ⟨F, Γ, B, R, E, s, rp, hu, hE⟩ =>
  ⟨F, Γ, B, R, _, s, rp, hu, ⟨fun Γ' B' F' σ' H' hn e2 s2 rp2 => ⟨F', Γ', B', R, E, s2, rp2, hn, hE.mono e2⟩, hE.rt, hE.bk, hE.ct, hE.ex⟩⟩
def dBreak : DTS := fun E Γ B => E.bk Γ B
def dCont : DTS := fun E Γ B => E.ct Γ B
theorem ds_break : DS X TS W (.Break pos) dBreak := PS_imp ps_break fun D σ H ⟨F, Γ, B, R, E, s, rp, hu, hE⟩ => hE.bk Γ B F σ H hu (Same.refl F) s rp
theorem ds_continue : DS X TS W (.Continue pos) dCont := PS_imp ps_continue fun D σ H ⟨F, Γ, B, R, E, s, rp, hu, hE⟩ => hE.ct Γ B F σ H hu (Same.refl F) s rp
theorem ds_pass : DS X TS W (.Pass pos) dNext := PS_imp ps_pass fun D σ H ⟨F, Γ, B, R, E, s, rp, hu, hE⟩ => hE.nx Γ B F σ H hu (Same.refl F) s rp
def dDrop (te : DTE) : DTS := fun E Γ B => te Γ B (fun _ B1 => E.nx Γ B1) (E.ex Γ)
theorem ds_expr (he : DE X TS W e te) (hs : swapsWith e none pos.line X.env = pure false := by rfl) : DS X TS W (.Expr e pos) (dDrop te) := PS_imp (ps_expr he hs) fun D σ H ⟨F, Γ, B, R, E, s, rp, hu, hE⟩ =>
  ⟨F, Γ, B, R, _, _, s, rp, hu, fun d B1 F1 H1 v h1 e1 rp1 dv1 => hE.nx Γ B1 F1 σ H1 h1 e1 (s.mono e1) rp1, hE.ex σ Γ F (Same.refl F) s⟩
def dRet (te : DTE) : DTS := fun E Γ B => te Γ B E.rt (E.ex Γ)
theorem ds_ret (he : DE X TS W e te) : DS X TS W (.Return (some e) pos) (dRet te) := PS_imp (ps_ret he) fun D σ H ⟨F, Γ, B, R, E, s, rp, hu, hE⟩ =>
  ⟨F, Γ, B, R, _, _, s, rp, hu, hE.rt, hE.ex σ Γ F (Same.refl F) s⟩
/-- a list that was written is handed back: nobody writes it from now on -/
def dRetF (te : DTE) : DTS := fun E Γ B => te Γ B (fun d B1 => ∃ a xs, d = .ref a ∧ B1 a = some (.lst xs) ∧ E.rt (.lst xs) (era B1 a)) (E.ex Γ)
theorem ds_retF (he : DE X TS W e te) : DS X TS W (.Return (some e) pos) (dRetF te) := PS_imp (ps_ret he) fun D σ H ⟨F, Γ, B, R, E, s, rp, hu, hE⟩ =>
  ⟨F, Γ, B, R, _, _, s, rp, hu, fun d B1 F1 H1 v h1 e1 rp1 dv1 => by
    obtain ⟨a, xs, e2, hb, h1⟩ := h1
    subst e2
    have dv1 : v = _ := dv1
    subst dv1
    obtain ⟨F2, e3, rp2, dv2⟩ := rp1.freeze hb
    exact hE.rt _ _ F2 _ _ h1 (e1.trans e3) rp2 dv2, hE.ex σ Γ F (Same.refl F) s⟩
def dRetN : DTS := fun E _ B => E.rt .non B
theorem ds_retN : DS X TS W (.Return none pos) dRetN := PS_imp ps_retN fun D σ H ⟨F, Γ, B, R, E, s, rp, hu, hE⟩ => hE.rt .non B F H .non hu (Same.refl F) rp rfl
def dIfS (c : DTT) (t u : DTS) : DTS := fun E Γ B => c Γ B (fun b B1 => if b = true then t E Γ B1 else u E Γ B1) (E.ex Γ)
theorem ds_if {c : Expr} {a b : List Stmt} {tc : DTT} (hc : DT X TS W c tc) (ha : DSs X TS W a t) (hb : DSs X TS W b u) : DS X TS W (.If c a b pos) (dIfS tc t u) := PS_imp (ps_if hc ha hb) fun D σ H ⟨F, Γ, B, R, E, s, rp, hu, hE⟩ =>
  ⟨F, Γ, B, R, _, _, s, rp, hu, fun b B1 F1 H1 h1 e1 rp1 => by
    cases b with
    | true => exact iteT ⟨F1, Γ, B1, R, E, s.mono e1, rp1, h1, hE.mono e1⟩
    | false => exact iteF ⟨F1, Γ, B1, R, E, s.mono e1, rp1, h1, hE.mono e1⟩, hE.ex σ Γ F (Same.refl F) s⟩
def dNever : DTS := fun _ _ _ => False
theorem ds_never : DS X TS W st dNever := PS_imp ps_never fun D σ H ⟨F, Γ, B, R, E, s, rp, hu, hE⟩ => hu.elim
theorem dss_never {sts : List Stmt} : DSs X TS W sts dNever := PSs_imp pss_never fun D σ H ⟨F, Γ, B, R, E, s, rp, hu, hE⟩ => hu.elim
/-- name = e -/
def dAsg (te : DTE) (g : DTG) : DTS := fun E Γ B => te Γ B (fun d B1 => g d Γ B1 E.nx) (E.ex Γ)
theorem asg_lift {K : PySem.W.Frag} {g : DTG} {gv : TG} (hg : ∀ v σ H Q, LG K TS g v σ H Q → gv v σ H Q) {D : Ends} {σ : L2.St} {H : Hp} (h : LS K TS W (dAsg te g) D σ H) : tAsg (LE K TS W te) gv D σ H := by
  obtain ⟨F, Γ, B, R, E, s, rp, hu, hE⟩ := h
  exact ⟨F, Γ, B, R, _, _, s, rp, hu, fun d B1 F1 H1 v h1 e1 rp1 dv1 => hg _ _ _ _ ⟨F1, Γ, B1, R, _, d, s.mono e1, rp1, dv1, h1, hE.nx.mono e1⟩, hE.ex σ Γ F (Same.refl F) s⟩
theorem lg_name {K : PySem.W.Frag} {i : Nat} : ∀ v σ H Q, LG K TS (hName i) v σ H Q → gName i v σ H Q := fun v σ H Q ⟨F, Γ, B, R, q, d, s, rp, dv, hu, hq⟩ => by
  have hu : q (setS Γ i d) B := hu
  rw [setS_eq] at hu
  exact hq _ B F _ H hu (Same.refl F) (s.set i dv) rp
theorem ds_set (i : Nat) {x : Str} {pos' : Pos} (hN : X.N.Nodup) (he : DE X TS W e te) (hi : X.N[i]? = some x := by rfl) (hx : Loc X.env.scope x := by first | exact Or.inl rfl | exact Or.inr rfl) (hs : swapsWith e (some (.Name x pos')) pos.line X.env = pure false := by rfl)
    (hf : X.fn x = true ∨ X.env.scope.names.lookup x = some .local := by first | exact .inl rfl | exact .inr rfl) : DS X TS W (.Assign [.Name x pos'] e pos) (dAsg te (hName i)) := PS_imp (ps_set hN hi hx he hs hf) fun D σ H h => asg_lift lg_name h
theorem ds_asg {tg : Expr} {g : DTG} (he : DE X TS W e te) (hg : DG X TS tg g) (hs : swapsWithSole [tg] e pos.line X.env = pure false := by rfl) (hw : swappedStores [tg] e X.env = pure none := by rfl)
    (h1 : (assignEach [tg] X.env).map (·.2) = [assign tg X.env] := by rfl) : DS X TS W (.Assign [tg] e pos) (dAsg te g) := PS_imp (ps_asg he hg hs hw h1) fun D σ H h => asg_lift (fun _ _ _ _ z => z) h
/-- a, b = x, y with plain local names -/
def dPar (is : List Nat) (ta : DTA) : DTS := fun E Γ B => ta Γ B (fun ds B1 => match is, ds with
  | [i, j], [d, e] => E.nx (setS (setS Γ i d) j e) B1
  | [i, j, k], [d, e, f] => E.nx (setS (setS (setS Γ i d) j e) k f) B1
  | _, _ => False) (E.ex Γ)
theorem ds_par (i j : Nat) {x y : Str} {a b : Expr} {ta : DTA} {px py pt : Pos} {kt k2 pt2} (hc : X.calm = true) (hN : X.N.Nodup) (ha : DA X TS W [a, b] ta) (hi : X.N[i]? = some x := by rfl) (hj : X.N[j]? = some y := by rfl) (hij : i ≠ j := by decide)
    (hx : X.env.scope.names.lookup x = some .local := by rfl) (hy : X.env.scope.names.lookup y = some .local := by rfl)
    (hw : swappedStores [.Tuple [.Name x px, .Name y py] kt pt] (.Tuple [a, b] k2 pt2) X.env = pure (some [x, y]) := by rfl)
    (hs : swapsWithSole [.Tuple [.Name x px, .Name y py] kt pt] (.Tuple [a, b] k2 pt2) pos.line X.env = pure false := by rfl) :
    DS X TS W (.Assign [.Tuple [.Name x px, .Name y py] kt pt] (.Tuple [a, b] k2 pt2) pos) (dPar [i, j] ta) := PS_imp (L2.ps_par hc hN hi hj hij hx hy ha hw hs) fun D σ H ⟨F, Γ, B, R, E, s, rp, hu, hE⟩ =>
  ⟨F, Γ, B, R, _, _, s, rp, hu, fun ds B1 F1 H1 vs h1 e1 rp1 dv1 => by
    dsimp only at h1
    split at h1
    · rename_i hl
      cases hl
      obtain ⟨v, w, e2, h2, h3⟩ := dv1.two
      rw [setS_eq, setS_eq] at h1
      exact ⟨v, w, e2, hE.nx _ B1 F1 _ H1 h1 e1 (((s.mono e1).set _ h2).set _ h3) rp1⟩
    · rename_i hl
      cases hl
    · exact h1.elim, hE.ex σ Γ F (Same.refl F) s⟩
theorem ds_par3 (i j l : Nat) {x y z : Str} {a b c : Expr} {ta : DTA} {px py pz pt : Pos} {kt k2 pt2} (hc : X.calm = true) (hN : X.N.Nodup) (ha : DA X TS W [a, b, c] ta) (hi : X.N[i]? = some x := by rfl) (hj : X.N[j]? = some y := by rfl) (hl : X.N[l]? = some z := by rfl)
    (hij : i ≠ j := by decide) (hil : i ≠ l := by decide) (hjl : j ≠ l := by decide)
    (hx : X.env.scope.names.lookup x = some .local := by rfl) (hy : X.env.scope.names.lookup y = some .local := by rfl) (hz : X.env.scope.names.lookup z = some .local := by rfl)
    (hw : swappedStores [.Tuple [.Name x px, .Name y py, .Name z pz] kt pt] (.Tuple [a, b, c] k2 pt2) X.env = pure (some [x, y, z]) := by rfl)
    (hs : swapsWithSole [.Tuple [.Name x px, .Name y py, .Name z pz] kt pt] (.Tuple [a, b, c] k2 pt2) pos.line X.env = pure false := by rfl) :
    DS X TS W (.Assign [.Tuple [.Name x px, .Name y py, .Name z pz] kt pt] (.Tuple [a, b, c] k2 pt2) pos) (dPar [i, j, l] ta) := PS_imp (L2.ps_par3 hc hN hi hj hl hij hil hjl hx hy hz ha hw hs) fun D σ H ⟨F, Γ, B, R, E, s, rp, hu, hE⟩ =>
  ⟨F, Γ, B, R, _, _, s, rp, hu, fun ds B1 F1 H1 vs h1 e1 rp1 dv1 => by
    dsimp only at h1
    split at h1
    · rename_i hl
      cases hl
    · rename_i hl
      cases hl
      obtain ⟨v, r, e2, h2, h3⟩ := dv1
      obtain ⟨w, w', e3, h4, h5⟩ := h3.two
      subst e3
      rw [setS_eq, setS_eq, setS_eq] at h1
      exact ⟨v, w, w', e2, hE.nx _ B1 F1 _ H1 h1 e1 ((((s.mono e1).set _ h2).set _ h4).set _ h5) rp1⟩
    · exact h1.elim, hE.ex σ Γ F (Same.refl F) s⟩
/-- name op= e -/
def dAug (i : Nat) (te : DTE) (g : G2) : DTS := fun E Γ B => match getS Γ i with
  | some d => te Γ B (fun e B1 => g d e B1 (fun z B2 => E.nx (setS Γ i z) B2)) (E.ex Γ)
  | none => False
theorem ds_aug (i : Nat) {x : Str} {op : Operator} {r : R2} {g : G2} {pos' : Pos} (ho : OpR X (inplaceOp op) r) (hg : OpD X.K TS r g) (hN : X.N.Nodup) (he : DE X TS W e te) (hi : X.N[i]? = some x := by rfl) (hx : Loc X.env.scope x := by first | exact Or.inl rfl | exact Or.inr rfl)
    (hf : X.fn x = true ∨ X.env.scope.names.lookup x = some .local := by first | exact .inl rfl | exact .inr rfl) : DS X TS W (.AugAssign (.Name x pos') op e pos) (dAug i te g) := PS_imp (ps_aug (op := op) (ti := r) hN hi hx he (fun pins s σ H x y v u Q I r1 r2 h => ho pins s σ H x y v u Q I r1 r2 h) hf) fun D σ H ⟨F, Γ, B, R, E, s, rp, hu, hE⟩ => by
  unfold dAug at hu
  cases hgi : getS Γ i with
  | none => rw [hgi] at hu; exact hu.elim
  | some d =>
    rw [hgi] at hu
    obtain ⟨v, h1, h2⟩ := s.at_ i d (getS_at hgi)
    refine ⟨v, h1, F, Γ, B, R, _, _, s, rp, hu, fun e B1 F1 H1 u h3 e1 rp1 dv1 => ?_, hE.ex σ Γ F (Same.refl F) s⟩
    refine hg F1 H1 B1 R d e v u _ _ rp1 (h2.mono e1) dv1 h3 fun z B2 F2 H2 w h4 e2 rp2 dv2 => ?_
    have h4 : E.nx (setS Γ i z) B2 := h4
    rw [setS_eq] at h4
    exact hE.nx _ B2 F2 _ H2 h4 (e1.trans e2) ((s.mono (e1.trans e2)).set i dv2) rp2
theorem ds_aug_xor (i : Nat) {x : Str} {pos' : Pos} (hN : X.N.Nodup) (he : DE X TS W e te) (hi : X.N[i]? = some x := by rfl) (hx : Loc X.env.scope x := by first | exact Or.inl rfl | exact Or.inr rfl)
    (hf : X.fn x = true ∨ X.env.scope.names.lookup x = some .local := by first | exact .inl rfl | exact .inr rfl) : DS X TS W (.AugAssign (.Name x pos') .BitXor e pos) (dAug i te (gI fun i j => .int (Builtin.bitXor i j))) := ds_aug i iop_xor od_int hN he hi hx hf
theorem ds_aug_add (i : Nat) {x : Str} {pos' : Pos} (hN : X.N.Nodup) (he : DE X TS W e te) (hi : X.N[i]? = some x := by rfl) (hx : Loc X.env.scope x := by first | exact Or.inl rfl | exact Or.inr rfl)
    (hf : X.fn x = true ∨ X.env.scope.names.lookup x = some .local := by first | exact .inl rfl | exact .inr rfl) : DS X TS W (.AugAssign (.Name x pos') .Add e pos) (dAug i te (gI fun i j => .int (i + j))) := ds_aug i iop_add od_int hN he hi hx hf
theorem ds_aug_sub (i : Nat) {x : Str} {pos' : Pos} (hN : X.N.Nodup) (he : DE X TS W e te) (hi : X.N[i]? = some x := by rfl) (hx : Loc X.env.scope x := by first | exact Or.inl rfl | exact Or.inr rfl)
    (hf : X.fn x = true ∨ X.env.scope.names.lookup x = some .local := by first | exact .inl rfl | exact .inr rfl) : DS X TS W (.AugAssign (.Name x pos') .Sub e pos) (dAug i te (gI fun i j => .int (i - j))) := ds_aug i iop_sub od_int hN he hi hx hf
theorem ds_aug_fdiv (i : Nat) {x : Str} {pos' : Pos} (hN : X.N.Nodup) (he : DE X TS W e te) (hi : X.N[i]? = some x := by rfl) (hx : Loc X.env.scope x := by first | exact Or.inl rfl | exact Or.inr rfl)
    (hf : X.fn x = true ∨ X.env.scope.names.lookup x = some .local := by first | exact .inl rfl | exact .inr rfl) : DS X TS W (.AugAssign (.Name x pos') .FloorDiv e pos) (dAug i te (gIC CDiv fun i j => .int (i / j))) := ds_aug i iop_fdiv od_intC hN he hi hx hf

/-! ### while -/
/-- an invariant with its measure -/
def dWhile (c : DTT) (tb : DTS) : DTS := fun E Γ B => ∃ Wv : Nat → Gm → Bx → Prop, (∃ m, Wv m Γ B) ∧ ∀ m Γ B, Wv m Γ B →
  c Γ B (fun b B1 => if b = true then tb { E with nx := fun Γ' B' => ∃ m', m' < m ∧ Wv m' Γ' B', ct := fun Γ' B' => ∃ m', m' < m ∧ Wv m' Γ' B', bk := E.nx } Γ B1 else E.nx Γ B1) (E.ex Γ)
theorem ds_while {c : Expr} {body : List Stmt} {tc : DTT} {tb : DTS} (hp : PassesOwn (model X.prog X.w) X.A X.env X.xe) (hc : DT X TS W c tc) (hb : DSs X TS W body tb) : DS X TS W (.While c body [] pos) (dWhile tc tb) := PS_imp (ps_while hp hc hb) fun D σ H ⟨F, Γ, B, R, E, s, rp, hu, hE⟩ => by
  obtain ⟨Wv, ⟨m0, w0⟩, turn⟩ := hu
  refine ⟨fun m σ H => ∃ F' Γ B, Same F F' ∧ Slots X.K F' σ Γ ∧ RepH X.K TS F' H B R ∧ Wv m Γ B, ⟨m0, F, Γ, B, Same.refl F, s, rp, w0⟩, ?_⟩
  rintro m σ H ⟨F', Γ, B, e0, s, rp, w⟩
  have hE := hE.mono e0
  refine ⟨F', Γ, B, R, _, _, s, rp, turn m Γ B w, fun b B1 F1 H1 h1 e1 rp1 => ?_, hE.ex σ Γ F' (Same.refl F') s⟩
  cases b with
  | true =>
    refine iteT ⟨fun σ' H' => ∃ m', m' < m ∧ ∃ F' Γ B, Same F F' ∧ Slots X.K F' σ' Γ ∧ RepH X.K TS F' H' B R ∧ Wv m' Γ B, fun _ _ z => z, ?_⟩
    have again : NL X.K TS F1 R (fun Γ' B' => ∃ m', m' < m ∧ Wv m' Γ' B') (fun σ' H' => ∃ m', m' < m ∧ ∃ F' Γ B, Same F F' ∧ Slots X.K F' σ' Γ ∧ RepH X.K TS F' H' B R ∧ Wv m' Γ B) := fun Γ' B' F2 σ' H' hn e2 s2 rp2 => by
      obtain ⟨m', hm, w'⟩ := hn
      exact ⟨m', hm, F2, Γ', B', e0.trans (e1.trans e2), s2, rp2, w'⟩
    have hE1 := hE.mono e1
    exact ⟨F1, Γ, B1, R, _, s.mono e1, rp1, h1, again, hE1.rt, hE1.nx, again, hE1.ex⟩
  | false => exact iteF (hE.nx Γ B1 F1 σ H1 h1 e1 (s.mono e1) rp1)

/-! ### what is walked -/
/-- what must hold of the boxes at each turn -/
abbrev Gd := Option (Bx → Prop)
def guard (gd : Gd) (B : Bx) (P : Prop) : Prop := match gd with
  | none => P
  | some f => f B ∧ P
theorem guard_at {gd : Gd} {B : Bx} {P : Prop} (h : guard gd B P) : (∀ f, gd = some f → f B) ∧ P := by
  cases gd with
  | none => exact ⟨(fun _ z => nomatch z), h⟩
  | some f => exact ⟨fun _ z => (Option.some.inj z) ▸ h.1, h.2⟩
abbrev DTI := Gm → Bx → (List D → Gd → Bx → Prop) → XD → Prop
/-- the walk J gives the items ds, from F on, while the boxes are as gd says -/
structure Gives (K : PySem.W.Frag) (TS : List Addr) (F : Hp) (gd : Gd) (ds : List D) (J : It) : Prop where
  wk : ∃ G Y, Walk J ds.length G Y ∧ (∀ F2 H2 B2 R2, Same F F2 → RepH K TS F2 H2 B2 R2 → (∀ f, gd = some f → f B2) → G H2) ∧
    ∀ i H1 v H2 F1 B1 R1, Same F F1 → RepH K TS F1 H1 B1 R1 → (∀ f, gd = some f → f B1) → Y i H1 v H2 → ∃ F2 d, Same F1 F2 ∧ RepH K TS F2 H2 B1 R1 ∧ ds[i]? = some d ∧ Dv K F2 d v
def LI (K : PySem.W.Frag) (TS : List Addr) (W : WX) (t : DTI) : TI := fun σ H R0 => ∃ F Γ B R q x, Slots K F σ Γ ∧ RepH K TS F H B R ∧ t Γ B q x ∧
  (∀ ds gd B' F' H' J, q ds gd B' → Same F F' → RepH K TS F' H' B' R → Gives K TS F' gd ds J → R0 J H') ∧ XL K TS W F R σ x
def DI (X : Cx) (TS : List Addr) (W : WX) (tg iter : Expr) (t : DTI) : Prop := PI X tg iter (LI X.K TS W t)
theorem PI_imp {X : Cx} {tg e : Expr} {t t' : TI} (h : PI X tg e t) (k : ∀ σ H R, t' σ H R → t σ H R) : PI X tg e t' := ⟨fun pins s σ H R I hw => h.run pins s σ H R I (k σ H R hw)⟩
def forK (gd : Gd) (g : DTG) (tb : DTS) (E : DEnds) : List D → Gm → Bx → Prop
  | [], Γ, B => guard gd B (E.nx Γ B)
  | d :: ds, Γ, B => guard gd B (g d Γ B fun Γ1 B1 => tb { E with nx := forK gd g tb E ds, ct := forK gd g tb E ds, bk := E.nx } Γ1 B1)
def dFor (wi : DTI) (g : DTG) (tb : DTS) : DTS := fun E Γ B => wi Γ B (fun ds gd B1 => forK gd g tb E ds Γ B1) (E.ex Γ)
theorem ds_for {iter tg : Expr} {body : List Stmt} {wi : DTI} {g : DTG} {tb : DTS} (hp : PassesOwn (model X.prog X.w) X.A X.env X.xe) (hc : X.calm = true) (hi : DI X TS W tg iter wi) (hg : DG X TS tg g) (hb : DSs X TS W body tb)
    (hs : ∀ x, foldedSetIterable iter X.env x = pure x := by intro _; rfl) : DS X TS W (.For tg iter body [] pos) (dFor wi g tb) := PS_imp (ps_for hp hc hi hg hb hs) fun D σ H ⟨F, Γ, B, R, E, s, rp, hu, hE⟩ => by
  refine ⟨F, Γ, B, R, _, _, s, rp, hu, fun ds gd B' F' H' J h1 e1 rp1 gv => ?_, hE.ex σ Γ F (Same.refl F) s⟩
  obtain ⟨G, Y, wk, hG, hY⟩ := gv
  have hE1 := hE.mono e1
  refine for_it wk (fun i σ H => ∃ F2 Γ B, Same F' F2 ∧ Slots X.K F2 σ Γ ∧ RepH X.K TS F2 H B R ∧ forK gd g tb E (ds.drop i) Γ B) ⟨F', Γ, B', Same.refl F', s.mono e1, rp1, h1⟩ ?_ ?_ ?_
  · rintro i σ H hi ⟨F2, Γ, B, e2, s2, rp2, h2⟩
    refine hG F2 H B R e2 rp2 ?_
    cases hd : ds.drop i with
    | nil => rw [hd] at h2; exact (guard_at h2).1
    | cons d r => rw [hd] at h2; exact (guard_at h2).1
  · rintro i v σ H H2 hi ⟨F2, Γ, B, e2, s2, rp2, h2⟩ hy
    rw [List.drop_eq_getElem_cons hi] at h2
    obtain ⟨hgd, h2⟩ := guard_at (show guard gd B (g ds[i] Γ B fun Γ1 B1 => tb { E with nx := forK gd g tb E (ds.drop (i + 1)), ct := forK gd g tb E (ds.drop (i + 1)), bk := E.nx } Γ1 B1) from h2)
    obtain ⟨F3, d, e3, rp3, hd, dv⟩ := hY i H v H2 F2 B R e2 rp2 hgd hy
    have ed : d = ds[i] := by rw [List.getElem?_eq_getElem hi] at hd; exact (Option.some.inj hd).symm
    subst ed
    refine ⟨F3, Γ, B, R, _, _, s2.mono e3, rp3, dv, h2, fun Γ' B' F4 σ' H' hn e4 s4 rp4 => ?_⟩
    have hE4 := hE1.mono (e2.trans (e3.trans e4))
    have again : NL X.K TS F4 R (forK gd g tb E (ds.drop (i + 1))) (fun σ H => ∃ F2 Γ B, Same F' F2 ∧ Slots X.K F2 σ Γ ∧ RepH X.K TS F2 H B R ∧ forK gd g tb E (ds.drop (i + 1)) Γ B) := fun Γ5 B5 F5 σ5 H5 hn5 e5 s5 rp5 =>
      ⟨F5, Γ5, B5, e2.trans (e3.trans (e4.trans e5)), s5, rp5, hn5⟩
    exact ⟨F4, Γ', B', R, _, s4, rp4, hn, again, hE4.rt, hE4.nx, again, hE4.ex⟩
  · rintro σ H ⟨F2, Γ, B, e2, s2, rp2, h2⟩
    rw [List.drop_length] at h2
    obtain ⟨_, h2⟩ := guard_at (show guard gd B (E.nx Γ B) from h2)
    exact hE1.nx Γ B F2 σ H h2 e2 s2 rp2

/-! #### lists, tuples, as they stand at each turn -/
theorem walk_listD {K : PySem.W.Frag} {a : Addr} {n : Nat} : Walk (Itl K a) n (fun H => ∃ xs, SqL K H a xs ∧ xs.length = n) (fun i H x H' => H' = H ∧ i < n ∧ ∀ xs, SqL K H a xs → xs[i]? = some x) :=
  ⟨fun i _ hi ⟨xs, q, hl⟩ => ⟨xs, xs[i]'(by omega), q, by simp [show i < xs.length by omega]⟩, fun _ ⟨xs, q, hl⟩ => ⟨xs, q, by omega⟩, fun _ _ _ _ hi _ y => ⟨y.1, hi, y.2⟩⟩
theorem walk_tupD {K : PySem.W.Frag} {a : Addr} {n : Nat} : Walk (Itt K a) n (fun H => ∃ xs, SqT K H a xs ∧ xs.length = n) (fun i H x H' => H' = H ∧ i < n ∧ ∀ xs, SqT K H a xs → xs[i]? = some x) :=
  ⟨fun i _ hi ⟨xs, q, hl⟩ => ⟨xs, xs[i]'(by omega), q, by simp [show i < xs.length by omega]⟩, fun _ ⟨xs, q, hl⟩ => ⟨xs, q, by omega⟩, fun _ _ _ _ hi _ y => ⟨y.1, hi, y.2⟩⟩
/-- a list's guard: a datum needs none -/
def lstGd : D → List D → Gd
  | .ref a, xs => some fun B => B a = some (.lst xs)
  | _, _ => none
theorem lst_stays {K : PySem.W.Frag} {F F2 H2 : Hp} {B B2 R2 : Bx} {d : D} {v : V} {ds : List D} {a : Addr} (hd : lstOf B d = some ds) (dv : Dv K F d v) (ev : v = .ref a) (e : Same F F2) (rp2 : RepH K TS F2 H2 B2 R2) (hg : ∀ f, lstGd d ds = some f → f B2) :
    ∃ vs, SqL K H2 a vs ∧ Dvs K F2 ds vs := by
  unfold lstOf at hd
  split at hd
  · cases hd
    obtain ⟨b, ws, e1, h1, h2⟩ := dv
    rw [ev] at e1; cases e1
    exact ⟨ws, SqL.of (rp2.le _ _ (e _ _ h1)), h2.mono e⟩
  · cases hd
    obtain ⟨b, ws, e1, h1, h2⟩ := dv
    rw [ev] at e1; cases e1
    exact ⟨ws, rp2.le.seq (e.seq h1), h2.mono e⟩
  · rename_i b
    split at hd
    · cases hd
      have dv : v = .ref b := dv
      rw [ev] at dv; cases dv
      obtain ⟨_, ws, h1, h2⟩ := rp2.bx a _ (hg _ rfl)
      exact ⟨ws, SqL.of h1, h2⟩
    · cases hd
  · cases hd
def dILst (te : DTE) : DTI := fun Γ B q x => te Γ B (fun d B1 => ∃ xs, lstOf B1 d = some xs ∧ q xs (lstGd d xs) B1) x
theorem di_list {tg : Expr} (he : DE X TS W e te) : DI X TS W tg e (dILst te) := PI_imp (pi_list he) fun σ H R0 ⟨F, Γ, B, R, q, x, s, rp, hu, hq, hx⟩ => by
  refine ⟨F, Γ, B, R, _, x, s, rp, hu, fun d B1 F1 H1 v h1 e1 rp1 dv1 => ?_, hx⟩
  obtain ⟨xs, h2, h1⟩ := h1
  obtain ⟨a, vs, ev, h3, h4⟩ := lst_of rp1 h2 dv1
  refine ⟨a, ev, ⟨vs, h4⟩, hq _ _ B1 F1 H1 _ h1 e1 rp1 ⟨_, _, walk_listD (n := xs.length), fun F2 H2 B2 R2 e2 rp2 hg => ?_, fun i Ha u Hb F2 B2 R2 e2 rp2 hg hy => ?_⟩⟩
  · obtain ⟨ws, h5, h6⟩ := lst_stays h2 dv1 ev e2 rp2 hg
    exact ⟨ws, h5, h6.length⟩
  · obtain ⟨rfl, hi, hy⟩ := hy
    obtain ⟨ws, h5, h6⟩ := lst_stays h2 dv1 ev e2 rp2 hg
    obtain ⟨d2, h7, h8⟩ := h6.getV (hy ws h5)
    exact ⟨F2, d2, Same.refl _, rp2, h7, h8⟩
theorem tup_stays {K : PySem.W.Frag} {F F2 H2 : Hp} {B2 R2 : Bx} {d : D} {v : V} {ds : List D} {a : Addr} (hd : tupOf d = some ds) (dv : Dv K F d v) (ev : v = .ref a) (e : Same F F2) (rp2 : RepH K TS F2 H2 B2 R2) : ∃ vs, SqT K H2 a vs ∧ Dvs K F2 ds vs := by
  unfold tupOf at hd
  split at hd
  · cases hd
    obtain ⟨b, ws, e1, h1, h2⟩ := dv
    rw [ev] at e1; cases e1
    exact ⟨ws, SqT.of (rp2.le _ _ (e _ _ h1)), h2.mono e⟩
  · cases hd
    obtain ⟨b, ws, e1, h1, h2⟩ := dv
    rw [ev] at e1; cases e1
    exact ⟨ws, SqT_mono rp2.le (SqT_mono e h1), h2.mono e⟩
  · cases hd
def dITup (te : DTE) : DTI := fun Γ B q x => te Γ B (fun d B1 => ∃ xs, tupOf d = some xs ∧ q xs none B1) x
theorem di_tup {tg : Expr} (he : DE X TS W e te) : DI X TS W tg e (dITup te) := PI_imp (pi_tup he) fun σ H R0 ⟨F, Γ, B, R, q, x, s, rp, hu, hq, hx⟩ => by
  refine ⟨F, Γ, B, R, _, x, s, rp, hu, fun d B1 F1 H1 v h1 e1 rp1 dv1 => ?_, hx⟩
  obtain ⟨xs, h2, h1⟩ := h1
  obtain ⟨a, vs, ev, h3, h4⟩ := tup_of rp1 h2 dv1
  refine ⟨a, ev, ⟨vs, h4⟩, hq _ _ B1 F1 H1 _ h1 e1 rp1 ⟨_, _, walk_tupD (n := xs.length), fun F2 H2 B2 R2 e2 rp2 hg => ?_, fun i Ha u Hb F2 B2 R2 e2 rp2 hg hy => ?_⟩⟩
  · obtain ⟨ws, h5, h6⟩ := tup_stays h2 dv1 ev e2 rp2
    exact ⟨ws, h5, h6.length⟩
  · obtain ⟨rfl, hi, hy⟩ := hy
    obtain ⟨ws, h5, h6⟩ := tup_stays h2 dv1 ev e2 rp2
    obtain ⟨d2, h7, h8⟩ := h6.getV (hy ws h5)
    exact ⟨F2, d2, Same.refl _, rp2, h7, h8⟩
/-! #### ranges -/
def upto (lo : Int) : Nat → List D
  | 0 => []
  | n + 1 => .int lo :: upto (lo + 1) n
theorem upto_length (lo : Int) : ∀ n, (upto lo n).length = n
  | 0 => rfl
  | n + 1 => by show (upto (lo + 1) n).length + 1 = n + 1; rw [upto_length (lo + 1) n]
theorem upto_at : ∀ (n : Nat) (lo : Int) (i : Nat), i < n → (upto lo n)[i]? = some (.int (lo + i))
  | 0, _, _, h => absurd h (Nat.not_lt_zero _)
  | n + 1, lo, 0, _ => by show some (D.int lo) = _; simp
  | n + 1, lo, i + 1, h => by
    show (upto (lo + 1) n)[i]? = _
    rw [upto_at n (lo + 1) i (by omega)]
    have e : lo + 1 + (i : Int) = lo + ((i + 1 : Nat) : Int) := by omega
    rw [e]
theorem gives_range {K : PySem.W.Frag} {F : Hp} {lo : Int} {n : Nat} : Gives K TS F none (upto lo n) (Itr lo n) := ⟨_, _, by rw [upto_length]; exact ⟨fun _ _ hi _ => hi, fun _ _ => Nat.le_refl _, fun i H x H' hi _ y => (⟨hi, y⟩ : i < n ∧ H' = H ∧ x = V.int (lo + i))⟩, fun _ _ _ _ _ _ _ => (trivial : (fun _ : Hp => True) _), fun i Ha u Hb F2 B2 R2 e2 rp2 hg hy => by
  obtain ⟨hi, rfl, rfl⟩ := hy
  exact ⟨F2, .int (lo + i), Same.refl _, rp2, upto_at n lo i hi, rfl⟩⟩
variable {ta : DTA}
def dIR1 (ta : DTA) : DTI := fun Γ B q x => ta Γ B (fun ds B1 => match ds with
  | [.int j] => (-(2 ^ 62) ≤ j ∧ j < 2 ^ 62) ∧ q (upto 0 j.toNat) none B1
  | _ => False) x
def dIR2 (ta : DTA) : DTI := fun Γ B q x => ta Γ B (fun ds B1 => match ds with
  | [.int i, .int j] => (-(2 ^ 62) ≤ i ∧ i < 2 ^ 62 ∧ -(2 ^ 62) ≤ j ∧ j < 2 ^ 62) ∧ q (upto i (j - i).toNat) none B1
  | _ => False) x
theorem di_range1 {tg a : Expr} {p : Pos} (hg : Gl X "range") (hm : X.mg "range" = none) (ha : DA X TS W [a] ta) (hs : starEach [a] X.env = [(false, eval a X.env)] := by rfl) : DI X TS W tg (.Call (.Name "range" p) [a] [] pos) (dIR1 ta) := PI_imp (pi_range1 hg hm ha hs) fun σ H R0 ⟨F, Γ, B, R, q, x, s, rp, hu, hq, hx⟩ => by
  refine ⟨F, Γ, B, R, _, x, s, rp, hu, fun ds B1 F1 H1 vs h1 e1 rp1 dv1 => ?_, hx⟩
  dsimp only at h1
  split at h1
  · obtain ⟨v, e2, h2⟩ := dv1.one
    exact ⟨_, by rw [e2, show v = _ from h2], h1.1.1, h1.1.2, hq _ _ B1 F1 H1 _ h1.2 e1 rp1 gives_range⟩
  · exact h1.elim
theorem di_range2 {tg a b : Expr} {p : Pos} (hg : Gl X "range") (hm : X.mg "range" = none) (ha : DA X TS W [a, b] ta) (hs : starEach [a, b] X.env = [(false, eval a X.env), (false, eval b X.env)] := by rfl) (hs2 : starEach [b] X.env = [(false, eval b X.env)] := by rfl) : DI X TS W tg (.Call (.Name "range" p) [a, b] [] pos) (dIR2 ta) := PI_imp (pi_range2 hg hm ha hs hs2) fun σ H R0 ⟨F, Γ, B, R, q, x, s, rp, hu, hq, hx⟩ => by
  refine ⟨F, Γ, B, R, _, x, s, rp, hu, fun ds B1 F1 H1 vs h1 e1 rp1 dv1 => ?_, hx⟩
  dsimp only at h1
  split at h1
  · obtain ⟨v, u, e2, h2, h3⟩ := dv1.two
    exact ⟨_, _, by rw [e2, show v = _ from h2, show u = _ from h3], h1.1, hq _ _ B1 F1 H1 _ h1.2 e1 rp1 gives_range⟩
  · exact h1.elim
end
end DL
set_option Elab.async false
set_option linter.all false
set_option maxRecDepth 100000
set_option maxHeartbeats 2000000
/-! DL5: enumerate of a list or a tuple, zip, comprehensions. -/
namespace DL
open PySem PySem.Spec PyProof.Rows L2

/-! ### enumerate(t), enumerate(t, c): a tuple -/
def IteT (K : PySem.W.Frag) (a : Addr) (c : Int) : It :=
  ⟨fun i H => ∃ (xs : List V) (x : V), SqT K H a xs ∧ xs[i]? = some x, fun i H v H' => ∃ T x, v = .ref T ∧ H T = none ∧ H' = upd H T (.tup [.int (c + (i : Nat)), x]) ∧ ∀ xs, SqT K H a xs → xs[i]? = some x, fun i H => ∃ xs : List V, SqT K H a xs ∧ xs.length = i⟩
theorem turn_enumT {P : Program} {w : World} {K : PySem.W.Frag} {elts : List Expr} {kk : Nat} {tpos : Pos} (a e it : Addr) (c : Int) :
    Turn P w K (.Tuple elts kk tpos) (IteT K a c) [e, it] e (fun i h => (∃ old, IsEnum h e it (c + ((i : Nat) : Int)) old) ∧ h.IsTupleIter it a i ∧ e ≠ it) where
  mem := by simp
  obj := fun i h st b hb => by
    obtain ⟨⟨old, he⟩, ⟨o, ho, hc, hd⟩, _⟩ := st
    have e' : b = e ∨ b = it := by simpa using hb
    rcases e' with z | z
    · rw [z]; exact ⟨_, he, fun v q => nomatch q⟩
    · rw [z]; exact ⟨o, ho, fun v q => by rw [hd] at q; cases q⟩
  keep := fun i h h' st k => let ⟨⟨old, he⟩, hi, hne⟩ := st; ⟨⟨old, k e (by simp) _ he⟩, hi.at fun o q => k it (by simp) o q, hne⟩
  item := by
    intro X hP hw hK hc i pins s σ H E I hf st hg
    subst hP hw hK
    obtain ⟨⟨old, he⟩, hit, hne⟩ := st
    obtain ⟨xs, x, hq, hx⟩ := hg
    obtain ⟨its, rv, p, hz⟩ := I.tuple hq
    have hel : e < s.heap.objs.size := Heap.lt_size he
    have hil : it < s.heap.objs.size := by obtain ⟨_, q, _⟩ := hit; exact Heap.lt_size q
    have nai : a ≠ it := fun z => by
      obtain ⟨o, q, qc, _⟩ := hit
      obtain ⟨o', q', qc', _⟩ := p
      rw [z, q] at q'; cases q'; rw [qc] at qc'; injection qc' with qq; exact absurd qq (by decide)
    have nae : a ≠ e := fun z => by
      have he' : s.heap.get? e = some _ := he
      obtain ⟨o', q', qc', _⟩ := p
      rw [z, he'] at q'; cases q'; injection qc' with qq; exact absurd qq (by decide)
    have hlt : i < its.toArray.size := by
      have h1 := (List.getElem?_eq_some_iff.mp hx).1
      rw [rv.length] at h1
      simpa using h1
    refine wpAny_pyNext_enum_itemC (Draws.tuple (show X.A.in1.handled = none from I.ok.hd hc) it a nai its.toArray) he ⟨hit, p⟩ hlt hne (by simp [hne, Ne.symm nae]) fun u h' tk hu ho hit' hT hsz hk => ?_
    refine ⟨_, rfl, wpAny_letOwnedTupleGo_enum (s := { s with heap := h', toks := tk + 1 }) ho fun h'' he' sb => ?_⟩
    have ru : RelV x u := by
      obtain ⟨u', h1, h2⟩ := rv.get hx
      have hu : its.toArray[i]? = some u := hu
      have : its[i]? = some u := by simpa using hu
      rw [h1] at this; cases this
      exact h2
    have hT2 : h''.get? s.heap.objs.size = some { cls := .type "tuple", data := .seq #[.int (c + i) tk, u] } := (sb.2 _ (Nat.ne_of_gt hel)).trans hT
    have new : ObjOk X.prog X.w (upd H s.heap.objs.size (.tup [.int (c + (i : Nat)), x])) h'' s.heap.objs.size (.tup [.int (c + (i : Nat)), x]) :=
      ⟨by show 2 ≤ sizeLine; decide, [.int (c + i) tk, u], .cons ⟨_, rfl⟩ (.cons ru .nil), ⟨_, hT2, rfl, _, rfl⟩⟩
    have I1 : Inv X pins σ (upd H s.heap.objs.size (.tup [.int (c + (i : Nat)), x])) { s with heap := h'', toks := tk + 1 } :=
      I.turnedNew (ch := [e, it]) (fun b ob hb q => (sb.2 b (fun z => hb (by simp [z]))).trans (hk b ob (fun z => hb (by simp [z])) (fun z => hb (by simp [z])) q)) hf (Nat.le_refl _) new
    refine ⟨.ref s.heap.objs.size, _, I1, rfl, ⟨_, x, rfl, I.hok.fresh (Nat.le_refl _), rfl, fun ys hy => by rw [I.tuple_inj hy hq]; exact hx⟩, ⟨⟨u, ?_⟩, hit'.1.at fun o q => (sb.2 it (Ne.symm hne)).trans q, hne⟩, fun b hb => ?_⟩
    · have e1 : c + ((i + 1 : Nat) : Int) = c + (i : Int) + 1 := by omega
      rw [e1]; exact he'
    · have hb' : b < s.heap.objs.size := by
        have e' : b = e ∨ b = it := by simpa using hb
        rcases e' with z | z
        · rw [z]; exact hel
        · rw [z]; exact hil
      rw [upd_ne (Nat.ne_of_lt hb')]
      exact (hf b hb).1
  done := by
    intro X hP hw hK hc i pins s σ H E I hf st hg
    subst hP hw hK
    obtain ⟨⟨old, he⟩, hit, hne⟩ := st
    obtain ⟨xs, hq, hx⟩ := hg
    obtain ⟨its, rv, p, hz⟩ := I.tuple hq
    obtain ⟨f0, f1, f2, f3, f4, f5⟩ := hf it (by simp)
    have nai : a ≠ it := fun z => by
      obtain ⟨o, q, qc, _⟩ := hit
      obtain ⟨o', q', qc', _⟩ := p
      rw [z, q] at q'; cases q'; rw [qc] at qc'; injection qc' with qq; exact absurd qq (by decide)
    have hl : its.toArray.size = i := by rw [← hx, rv.length]; simp
    refine wpAny_pyNext_enum_endD (Draws.tuple (show X.A.in1.handled = none from I.ok.hd hc) it a nai its.toArray) he (by rw [hl]; exact ⟨hit, p⟩) fun h' eb => ⟨rfl, I.turned (t' := s.toks) (fun b o hb q => eb b o hb q) f0 f1 f3 f4 f5⟩
  self := fun A i s Q E st h => let ⟨⟨_, he⟩, _⟩ := st; wpAny_pyIter_enum he h

theorem meets_enumerate_new1 {v : Value} {o : Obj} {H : Heap → Prop} (B : Begins v o H) :
    Meets (Builtin.«enumerate.__new__» ⟨[.type "enumerate", v], []⟩) (fun _ R s => H s.heap ∧
      R (.ok (.ret (.ref (s.heap.push o).objs.size))) { s with heap := (s.heap.push o).push { cls := .type "enumerate", data := .fields #[.none, .bool false, .ref s.heap.objs.size, rawInt 0, .none, .none] } }) :=
  .of_wp fun prog w A R s h => by
    obtain ⟨hp, g, d, tk, os⟩ := s; obtain ⟨h1, h⟩ := h
    have hsub := sub_enumerate
    have q1 : ∀ {A' : Around} {E : Value → Shared → Prop} {Q : Value → Shared → Prop}, Q (.ref hp.objs.size) ⟨hp.push o, g, d, tk, os⟩ → wpAny (model prog w) A' (pyIter v) Q E ⟨hp, g, d, tk, os⟩ :=
      fun q => B.iter prog w _ _ ⟨hp, g, d, tk, os⟩ _ h1 q
    wp_walk using q1
    refine wpAny_stack_any fun st => wpAny_pure ?_
    split
    · rename_i c _ _ _ _ _
      cases (c == Value.type "enumerate")
      · wp_walk using q1
        exact ⟨_, rfl, h⟩
      · wp_walk using q1
        exact ⟨_, rfl, h⟩
    · wp_walk using q1
      exact ⟨_, rfl, h⟩
theorem enum_begins1 {prog : Program} {w : World} {A : Around} {E : Value → Shared → Prop} {s : Shared} {v : Value} {o : Obj} {H : Heap → Prop} {Q : Value → Shared → Prop} (B : Begins v o H) (h1 : H s.heap)
    (h : ∀ h', IsEnum h' (s.heap.objs.size + 1) s.heap.objs.size 0 .none → h'.get? s.heap.objs.size = some o → h'.objs.size = s.heap.objs.size + 2 →
      (∀ b o, s.heap.get? b = some o → h'.get? b = some o) → Q (.ref (s.heap.objs.size + 1)) { s with heap := h' }) :
    wpAny (model prog w) A (call (.type "enumerate") [v]) Q E s := by
  refine callType_new F.called_enumerate (by decide) (F.typeCall_enumerate_1 _) (F.newCall_enumerate_1 _) (fun obj => F.args_object_init_2 obj _) F.entry_enumerate_new
    (meets_enumerate_new1 B) ⟨h1, ?_⟩
  have hz : (s.heap.push o).objs.size = s.heap.objs.size + 1 := Heap.size_push ..
  show _ ∧ _
  rw [hz]
  have he : IsEnum ((s.heap.push o).push { cls := .type "enumerate", data := .fields #[.none, .bool false, .ref s.heap.objs.size, rawInt 0, .none, .none] }) (s.heap.objs.size + 1) s.heap.objs.size 0 .none := by
    have := Heap.get?_push_size (s.heap.push o) (o := { cls := .type "enumerate", data := .fields #[.none, .bool false, .ref s.heap.objs.size, rawInt 0, .none, .none] }) rfl
    rw [hz] at this; exact this
  refine ⟨⟨_, he, rfl⟩, h _ he (Heap.get?_push_of_some _ (Heap.get?_push_size _ B.free)) (by rw [Heap.size_push, hz]) fun b o x => Heap.get?_push_of_some _ (Heap.get?_push_of_some _ x)⟩
/-- enumerate of a list or of a tuple -/
def iEnumS (K : PySem.W.Frag) (ta : TA) : TI := fun σ H R => ta σ H fun vs H1 => ∃ a, vs = [.ref a] ∧ ((∃ xs, SqL K H1 a xs ∧ R (Ite K a) H1) ∨ ∃ xs, SqT K H1 a xs ∧ R (IteT K a 0) H1)
theorem pi_enumS {X : Cx} {e : Expr} {ta : TA} {p pos tpos : Pos} {elts : List Expr} {kk : Nat} (hg : Gl X "enumerate") (hm : X.mg "enumerate" = none) (ha : PA X [e] ta) (hs : starEach [e] X.env = [(false, eval e X.env)] := by rfl) :
    PI X (.Tuple elts kk tpos) (.Call (.Name "enumerate" p) [e] [] pos) (iEnumS X.K ta) := by
  refine ⟨fun pins s σ H R I h => ?_⟩
  refine Call_ (ld_blt I hg hm boot_enumerate (PyProof.Rows.callWith_type1 (thn (ha.run pos pins s σ H _ I h) fun us s1 ⟨vs, H1, I1, r1, q1⟩ => ?_) hs rfl))
  obtain ⟨a, ex, hq⟩ := q1
  subst ex
  have fp : ∀ b ∈ [s1.heap.objs.size + 1, s1.heap.objs.size], FpOk X pins H1 b := fun b hb => by
    have e' : b = s1.heap.objs.size + 1 ∨ b = s1.heap.objs.size := by simpa using hb
    have hle : s1.heap.objs.size ≤ b := by
      rcases e' with z | z
      · rw [z]; exact Nat.le_add_right _ _
      · rw [z]; exact Nat.le_refl _
    exact I1.fpOk hle (I1.hok.fresh hle)
  cases r1 with
  | cons r rr =>
    cases rr
    cases r
    rcases hq with ⟨xs, hq, q⟩ | ⟨xs, hq, q⟩
    · obtain ⟨its, rv, p', hz⟩ := I1.list hq
      refine call_enumerate_list p'.isList fun h' he hit hsz hk => wpAny_pyIter_enum he ?_
      have I2 : Inv X pins σ H1 { s1 with heap := h' } := I1.kept (t' := s1.toks) hk
      exact ⟨s1.heap.objs.size + 1, [s1.heap.objs.size + 1, s1.heap.objs.size], _, _, H1, rfl, I2, turn_enum a (s1.heap.objs.size + 1) s1.heap.objs.size, ⟨⟨.none, he⟩, hit, Nat.succ_ne_self _⟩, fp, q⟩
    · obtain ⟨its, rv, p', hz⟩ := I1.tuple hq
      refine enum_begins1 (begins_tuple a its.toArray) (show s1.heap.IsTuple a its.toArray from p') fun h' he hit hsz hk => wpAny_pyIter_enum he ?_
      have I2 : Inv X pins σ H1 { s1 with heap := h' } := I1.kept (t' := s1.toks) hk
      exact ⟨s1.heap.objs.size + 1, [s1.heap.objs.size + 1, s1.heap.objs.size], _, _, H1, rfl, I2, turn_enumT a (s1.heap.objs.size + 1) s1.heap.objs.size 0, ⟨⟨.none, by simpa using he⟩, ⟨_, hit, rfl, rfl⟩, Nat.succ_ne_self _⟩, fp, q⟩
/-- enumerate(t, c), t a tuple -/
def iEnumC (K : PySem.W.Frag) (ta : TA) : TI := fun σ H R => ta σ H fun vs H1 => ∃ a c, vs = [.ref a, .int c] ∧ (-(2 ^ 63) ≤ c ∧ c < 2 ^ 63) ∧ ∃ xs, SqT K H1 a xs ∧ R (IteT K a c) H1
theorem pi_enumC {X : Cx} {e e2 : Expr} {ta : TA} {p pos tpos : Pos} {elts : List Expr} {kk : Nat} (hg : Gl X "enumerate") (hm : X.mg "enumerate" = none) (ha : PA X [e, e2] ta)
    (hs : starEach [e, e2] X.env = [(false, eval e X.env), (false, eval e2 X.env)] := by rfl) (hs2 : starEach [e2] X.env = [(false, eval e2 X.env)] := by rfl) :
    PI X (.Tuple elts kk tpos) (.Call (.Name "enumerate" p) [e, e2] [] pos) (iEnumC X.K ta) := by
  refine ⟨fun pins s σ H R I h => ?_⟩
  refine Call_ (ld_blt I hg hm boot_enumerate (PyProof.Rows.callWith_type1 (thn (ha.run pos pins s σ H _ I h) fun us s1 ⟨vs, H1, I1, r1, q1⟩ => ?_) (by rw [hs, hs2]) (by rw [hs2]; rfl)))
  obtain ⟨a, c, ex, hc, xs, hq, q⟩ := q1
  subst ex
  have fp : ∀ b ∈ [s1.heap.objs.size + 1, s1.heap.objs.size], FpOk X pins H1 b := fun b hb => by
    have e' : b = s1.heap.objs.size + 1 ∨ b = s1.heap.objs.size := by simpa using hb
    have hle : s1.heap.objs.size ≤ b := by
      rcases e' with z | z
      · rw [z]; exact Nat.le_add_right _ _
      · rw [z]; exact Nat.le_refl _
    exact I1.fpOk hle (I1.hok.fresh hle)
  cases r1 with
  | cons r rr =>
    cases rr with
    | cons r2 rr =>
      cases rr
      cases r
      obtain ⟨t, rfl⟩ := r2
      obtain ⟨its, rv, p', hz⟩ := I1.tuple hq
      refine enum_begins (begins_tuple a its.toArray) (show s1.heap.IsTuple a its.toArray from p') hc.1 hc.2 fun h' he hit hsz hk => wpAny_pyIter_enum he ?_
      have I2 : Inv X pins σ H1 { s1 with heap := h' } := I1.kept (t' := s1.toks) hk
      exact ⟨s1.heap.objs.size + 1, [s1.heap.objs.size + 1, s1.heap.objs.size], _, _, H1, rfl, I2, turn_enumT a (s1.heap.objs.size + 1) s1.heap.objs.size c, ⟨⟨.none, by simpa using he⟩, ⟨_, hit, rfl, rfl⟩, Nat.succ_ne_self _⟩, fp, q⟩

section
variable {X : Cx} {TS : List Addr} {W : WX} {pos : Pos} {e : Expr} {te : DTE} {ta : DTA}
/-- pairs of the place, from c on, and the item -/
def enumL (c : Int) : List D → List D
  | [] => []
  | d :: ds => .tup [.int c, d] :: enumL (c + 1) ds
theorem enumL_length : ∀ (ds : List D) (c : Int), (enumL c ds).length = ds.length
  | [], _ => rfl
  | _ :: ds, c => by show (enumL (c + 1) ds).length + 1 = _; rw [enumL_length ds (c + 1)]; rfl
theorem enumL_at : ∀ (ds : List D) (c : Int) (i : Nat) (d : D), ds[i]? = some d → (enumL c ds)[i]? = some (.tup [.int (c + i), d])
  | [], _, _, _, h => by simp at h
  | a :: ds, c, 0, d, h => by
    have h : some a = some d := h
    cases h
    show some (D.tup [.int c, a]) = _
    simp
  | _ :: ds, c, i + 1, d, h => by
    show (enumL (c + 1) ds)[i]? = _
    rw [enumL_at ds (c + 1) i d (by simpa using h)]
    have e : c + 1 + (i : Int) = c + ((i + 1 : Nat) : Int) := by omega
    rw [e]
theorem walk_enumD {K : PySem.W.Frag} {a : Addr} {n : Nat} : Walk (Ite K a) n (fun H => ∃ xs, SqL K H a xs ∧ xs.length = n) (fun i H v H' => i < n ∧ ∃ T x, v = .ref T ∧ H T = none ∧ H' = upd H T (.tup [.int (i : Nat), x]) ∧ ∀ xs, SqL K H a xs → xs[i]? = some x) :=
  ⟨fun i _ hi ⟨xs, q, hl⟩ => ⟨xs, xs[i]'(by omega), q, by simp [show i < xs.length by omega]⟩, fun _ ⟨xs, q, hl⟩ => ⟨xs, q, by omega⟩, fun _ _ _ _ hi _ y => ⟨hi, y⟩⟩
theorem walk_enumTD {K : PySem.W.Frag} {a : Addr} {n : Nat} {c : Int} : Walk (IteT K a c) n (fun H => ∃ xs, SqT K H a xs ∧ xs.length = n) (fun i H v H' => i < n ∧ ∃ T x, v = .ref T ∧ H T = none ∧ H' = upd H T (.tup [.int (c + (i : Nat)), x]) ∧ ∀ xs, SqT K H a xs → xs[i]? = some x) :=
  ⟨fun i _ hi ⟨xs, q, hl⟩ => ⟨xs, xs[i]'(by omega), q, by simp [show i < xs.length by omega]⟩, fun _ ⟨xs, q, hl⟩ => ⟨xs, q, hl⟩, fun _ _ _ _ hi _ y => ⟨hi, y⟩⟩
/-- a new pair, as a datum -/
theorem pair_new {K : PySem.W.Frag} {F H : Hp} {B R : Bx} {x y : V} {d e : D} {T : Addr} (rp : RepH K TS F H B R) (hT : H T = none) (hd : Dv K F d x) (he : Dv K F e y) :
    ∃ F2, Same F F2 ∧ RepH K TS F2 (upd H T (.tup [x, y])) B R ∧ Dv K F2 (.tup [d, e]) (.ref T) :=
  have sm : Same F (upd F T (.tup [x, y])) := same_upd (rp.freeF hT)
  ⟨upd F T (.tup [x, y]), sm, rp.datum hT, T, [x, y], rfl, upd_same, x, [y], rfl, hd.mono sm, y, [], rfl, he.mono sm, rfl⟩
def iEn (ds : List D) (B1 : Bx) (q : List D → Gd → Bx → Prop) : Prop := match ds with
  | [.tup xs] => q (enumL 0 xs) none B1
  | [.rot xs] => q (enumL 0 xs) none B1
  | [d] => ∃ xs, lstOf B1 d = some xs ∧ q (enumL 0 xs) (lstGd d xs) B1
  | _ => False
def dIEn (ta : DTA) : DTI := fun Γ B q x => ta Γ B (fun ds B1 => iEn ds B1 q) x
theorem gives_enumT {K : PySem.W.Frag} {F : Hp} {d : D} {a : Addr} {xs : List D} {v : V} {c : Int} (h2 : tupOf d = some xs) (dv1 : Dv K F d v) (ev : v = .ref a) : Gives K TS F none (enumL c xs) (IteT K a c) :=
  ⟨_, _, walk_enumTD, fun F2 H2 B2 R2 e2 rp2 hg => by
    obtain ⟨ws, h5, h6⟩ := tup_stays h2 dv1 ev e2 rp2
    exact ⟨ws, h5, by rw [h6.length, enumL_length]⟩, fun i Ha u Hb F2 B2 R2 e2 rp2 hg hy => by
    obtain ⟨hi, T, x, rfl, hT, rfl, hy⟩ := hy
    obtain ⟨ws, h5, h6⟩ := tup_stays h2 dv1 ev e2 rp2
    obtain ⟨d2, h7, h8⟩ := h6.getV (hy ws h5)
    obtain ⟨F3, e3, rp3, dv3⟩ := pair_new (d := .int (c + (i : Nat))) rp2 hT rfl h8
    exact ⟨F3, _, e3, rp3, enumL_at xs c i d2 h7, dv3⟩⟩
theorem di_enum {elts : List Expr} {kk : Nat} {p tpos : Pos} (hg : Gl X "enumerate") (hm : X.mg "enumerate" = none) (ha : DA X TS W [e] ta) (hs : starEach [e] X.env = [(false, eval e X.env)] := by rfl) :
    DI X TS W (.Tuple elts kk tpos) (.Call (.Name "enumerate" p) [e] [] pos) (dIEn ta) := PI_imp (pi_enumS hg hm ha hs) fun σ H R0 ⟨F, Γ, B, R, q, x, s, rp, hu, hq, hx⟩ => by
  refine ⟨F, Γ, B, R, _, x, s, rp, hu, fun ds B1 F1 H1 vs h1 e1 rp1 dv1 => ?_, hx⟩
  dsimp only [iEn] at h1
  split at h1
  · obtain ⟨v, e2, h2⟩ := dv1.one
    obtain ⟨a, vs, ev, h3, h4⟩ := tup_of rp1 (d := .tup _) rfl h2
    exact ⟨a, by rw [e2, ev], .inr ⟨vs, h4, hq _ _ B1 F1 H1 _ h1 e1 rp1 (gives_enumT rfl h2 ev)⟩⟩
  · obtain ⟨v, e2, h2⟩ := dv1.one
    obtain ⟨a, vs, ev, h3, h4⟩ := tup_of rp1 (d := .rot _) rfl h2
    exact ⟨a, by rw [e2, ev], .inr ⟨vs, h4, hq _ _ B1 F1 H1 _ h1 e1 rp1 (gives_enumT rfl h2 ev)⟩⟩
  · rename_i d _ _
    obtain ⟨v, e2, dv⟩ := dv1.one
    obtain ⟨xs, h2, h1⟩ := h1
    obtain ⟨a, vs, ev, h3, h4⟩ := lst_of rp1 h2 dv
    refine ⟨a, by rw [e2, ev], .inl ⟨vs, h4, hq _ _ B1 F1 H1 _ h1 e1 rp1 ⟨_, _, walk_enumD, fun F2 H2 B2 R2 e2 rp2 hg => ?_, fun i Ha u Hb F2 B2 R2 e2 rp2 hg hy => ?_⟩⟩⟩
    · obtain ⟨ws, h5, h6⟩ := lst_stays h2 dv ev e2 rp2 hg
      exact ⟨ws, h5, by rw [h6.length, enumL_length]⟩
    · obtain ⟨hi, T, x, rfl, hT, rfl, hy⟩ := hy
      obtain ⟨ws, h5, h6⟩ := lst_stays h2 dv ev e2 rp2 hg
      obtain ⟨d2, h7, h8⟩ := h6.getV (hy ws h5)
      obtain ⟨F3, e3, rp3, dv3⟩ := pair_new (d := .int (i : Nat)) rp2 hT rfl h8
      have h9 := enumL_at xs 0 i d2 h7
      rw [Int.zero_add] at h9
      exact ⟨F3, _, e3, rp3, h9, dv3⟩
  · exact h1.elim
def dIEnC (ta : DTA) : DTI := fun Γ B q x => ta Γ B (fun ds B1 => match ds with
  | [.tup xs, .int c] => (-(2 ^ 63) ≤ c ∧ c < 2 ^ 63) ∧ q (enumL c xs) none B1
  | _ => False) x
theorem di_enumC {e2 : Expr} {elts : List Expr} {kk : Nat} {p tpos : Pos} (hg : Gl X "enumerate") (hm : X.mg "enumerate" = none) (ha : DA X TS W [e, e2] ta)
    (hs : starEach [e, e2] X.env = [(false, eval e X.env), (false, eval e2 X.env)] := by rfl) (hs2 : starEach [e2] X.env = [(false, eval e2 X.env)] := by rfl) :
    DI X TS W (.Tuple elts kk tpos) (.Call (.Name "enumerate" p) [e, e2] [] pos) (dIEnC ta) := PI_imp (pi_enumC hg hm ha hs hs2) fun σ H R0 ⟨F, Γ, B, R, q, x, s, rp, hu, hq, hx⟩ => by
  refine ⟨F, Γ, B, R, _, x, s, rp, hu, fun ds B1 F1 H1 vs h1 e1 rp1 dv1 => ?_, hx⟩
  dsimp only at h1
  split at h1
  · obtain ⟨v, u, e2, h2, h3⟩ := dv1.two
    obtain ⟨a, vs, ev, h4, h5⟩ := tup_of rp1 (d := .tup _) rfl h2
    exact ⟨a, _, by rw [e2, ev, show u = _ from h3], h1.1, vs, h5, hq _ _ B1 F1 H1 _ h1.2 e1 rp1 (gives_enumT rfl h2 ev)⟩
  · exact h1.elim

/-! ### comprehensions -/
theorem wipe_set {v : Nat} {x : Option V} : ∀ {vs : List Nat} {σ : L2.St}, v ∈ vs → wipe (σ.set v x) vs = wipe σ vs
  | u :: vs, σ, h => by
    unfold wipe
    by_cases hv : v ∈ vs
    · rw [wipe_set hv]
    · have huv : u = v := by
        rcases List.mem_cons.mp h with e | e
        · exact e.symm
        · exact absurd e hv
      subst huv
      have comm : ∀ (ws : List Nat) (τ : L2.St), u ∉ ws → wipe (τ.set u x) ws = (wipe τ ws).set u x := by
        intro ws
        induction ws with
        | nil => intro τ _; rfl
        | cons w ws ih =>
          intro τ hn
          unfold wipe
          rw [ih τ (fun z => hn (List.mem_cons_of_mem _ z))]
          rw [List.set_comm]
          exact fun z => hn (by rw [z]; exact List.mem_cons_self)
      rw [comm vs σ hv, List.set_set]
theorem wipe_wipe : ∀ (vs ws : List Nat) (σ : L2.St), (∀ v ∈ ws, v ∈ vs) → wipe (wipe σ ws) vs = wipe σ vs
  | vs, [], σ, _ => rfl
  | vs, w :: ws, σ, h => by
    have e : wipe σ (w :: ws) = (wipe σ ws).set w none := rfl
    rw [e, wipe_set (h w List.mem_cons_self), wipe_wipe vs ws σ fun v hv => h v (List.mem_cons_of_mem _ hv)]
/-- the slots of a comprehension's names are forgotten within -/
def wipeD : Gm → List Nat → Gm
  | Γ, [] => Γ
  | Γ, v :: vs => (wipeD Γ vs).set v none
theorem wipeD_length (Γ : Gm) : ∀ vs : List Nat, (wipeD Γ vs).length = Γ.length
  | [] => rfl
  | v :: vs => by unfold wipeD; rw [List.length_set, wipeD_length Γ vs]
theorem slots_wipe {K : PySem.W.Frag} {F : Hp} {σ : L2.St} {Γ : Gm} (s : Slots K F σ Γ) : ∀ vs : List Nat, Slots K F (wipe σ vs) (wipeD Γ vs)
  | [] => s
  | v :: vs => by
    have ih := slots_wipe s vs
    refine ⟨by unfold wipeD wipe; rw [List.length_set, List.length_set]; exact ih.len, fun i d h => ?_⟩
    unfold wipeD at h
    unfold wipe
    by_cases hi : v = i
    · subst hi
      by_cases hv : v < (wipeD Γ vs).length
      · rw [List.getElem?_set_self hv] at h; cases h
      · rw [List.getElem?_eq_none (by simpa using hv)] at h; cases h
    · rw [List.getElem?_set_ne hi] at h
      obtain ⟨u, h1, h2⟩ := ih.at_ i d h
      exact ⟨u, by rw [List.getElem?_set_ne hi]; exact h1, h2⟩
/-- a target of a comprehension: the slots that it stores are the comprehension's own -/
structure OwnG (g : DTG) (gv : TG) (vs : List Nat) (K : PySem.W.Frag) (TS : List Addr) : Prop where
  go : ∀ d v σ Γ F H B R q (Q : L2.St → Hp → Prop), Slots K F (wipe σ vs) Γ → RepH K TS F H B R → Dv K F d v → g d Γ B q →
    (∀ Γ' B' F' σ' H', q Γ' B' → Same F F' → Slots K F' σ' Γ' → RepH K TS F' H' B' R → wipe σ' vs = wipe σ vs → Q σ' H') → gv v (wipe σ vs) H Q
theorem own_name {K : PySem.W.Frag} {i : Nat} : OwnG (hName i) (gName i) [i] K TS := ⟨fun d v σ Γ F H B R q Q s rp dv h hq => by
  have h : q (setS Γ i d) B := h
  rw [setS_eq] at h
  exact hq _ B F _ H h (Same.refl F) (s.set i dv) rp (by rw [wipe_set List.mem_cons_self, wipe_wipe _ _ _ (fun v hv => hv)])⟩
/-- a pair of names -/
def hPair (i j : Nat) : DTG := hTup (hCons (hName i) (hCons (hName j) fun ds Γ B q => match ds with | [] => q Γ B | _ => False))
def gPair (K : PySem.W.Frag) (i j : Nat) : TG := gTup K 2 (gCons (gName i) (gCons (gName j) gNil))
theorem own_pair {K : PySem.W.Frag} {i j : Nat} : OwnG (hPair i j) (gPair K i j) [i, j] K TS := ⟨fun d v σ Γ F H B R q Q s rp dv h hq => by
  have h' : ∃ xs, tupOf d = some xs ∧ (hCons (hName i) (hCons (hName j) fun ds Γ B q => match ds with | [] => q Γ B | _ => False)) xs Γ B q := by
    unfold hPair hTup at h
    split at h
    · exact ⟨_, rfl, h⟩
    · exact h
  obtain ⟨xs, h1, h2⟩ := h'
  obtain ⟨a, vs, ev, h3, h4⟩ := tup_of rp h1 dv
  match xs, h2, h3 with
  | [d1, d2], h2, h3 =>
    obtain ⟨v1, v2, e1, dv1, dv2⟩ := h3.two
    subst e1
    have h2 : q (setS (setS Γ i d1) j d2) B := h2
    rw [setS_eq, setS_eq] at h2
    refine ⟨a, [v1, v2], ev, h4, rfl, v1, [v2], rfl, v2, [], rfl, rfl, ?_⟩
    refine hq _ B F _ H h2 (Same.refl F) ((s.set i dv1).set j dv2) rp ?_
    rw [wipe_set (List.mem_cons_of_mem _ List.mem_cons_self), wipe_set List.mem_cons_self, wipe_wipe _ _ _ (fun v hv => hv)]
  | [], h2, _ => exact h2.elim
  | [_], h2, _ => exact h2.elim
  | _ :: _ :: _ :: _, h2, _ => exact h2.elim⟩

def lcK (gd : Gd) (g : DTG) (tt : DTT) (te : DTE) (Γ : Gm) (q : List D → Bx → Prop) : List D → List D → Bx → Prop
  | [], acc, B => guard gd B (q acc B)
  | d :: ds, acc, B => guard gd B (g d Γ B fun Γ1 B1 => tt Γ1 B1 (fun b B2 =>
      if b = true then te Γ1 B2 (fun y B3 => lcK gd g tt te Γ q ds (acc ++ [y]) B3) noX else lcK gd g tt te Γ q ds acc B2) noX)
def dYes : DTT := fun _ B q _ => q true B
theorem dts_nil {ifs : List Expr} {t : TT} (h : PTs X ifs t) (hh : ∀ σ H Q, LT X.K TS W dYes σ H Q → t σ H Q) : PTs X ifs (LT X.K TS W dYes) := ⟨fun pins s σ H Q I hw => h.run pins s σ H Q I (hh σ H Q hw)⟩
def DTs (X : Cx) (TS : List Addr) (ifs : List Expr) (t : DTT) : Prop := PTs X ifs (LT X.K TS (fun _ _ _ _ => False) t)
theorem dts_no : DTs X TS [] dYes := ⟨fun pins s σ H Q I ⟨F, Γ, B, R, q, x, s1, rp, hu, hq, hx⟩ => pts_nil.run pins s σ H Q I (hq true B F H hu (Same.refl F) rp)⟩
theorem dts_one {c : Expr} {t : DTT} (h : DT X TS (fun _ _ _ _ => False) c t) : DTs X TS [c] t := pts_one h
abbrev W0 : WX := fun _ _ _ _ => False
/-- .. as a datum; as a box -/
def dLc (vs : List Nat) (wi : DTI) (g : DTG) (tt : DTT) (te : DTE) : DTE := fun Γ B q x => wi Γ B (fun ds gd B1 => sizeOk ds ∧ lcK gd g tt te (wipeD Γ vs) (fun acc B2 => q (.lst acc) B2) ds [] B1) x
def dLcB (vs : List Nat) (wi : DTI) (g : DTG) (tt : DTT) (te : DTE) : DTE := fun Γ B q x => wi Γ B (fun ds gd B1 => sizeOk ds ∧ lcK gd g tt te (wipeD Γ vs) (fun acc B2 => ∀ p, B2 p = none → q (.ref p) (put B2 p (.lst acc))) ds [] B1) x
theorem lc_lift {K : PySem.W.Frag} {vs : List Nat} {wi : DTI} {g : DTG} {gv : TG} {tt : DTT} {te : DTE} (hg : OwnG g gv vs K TS) {σ : L2.St} {H : Hp} {Q : VK} {F : Hp} {Γ : Gm} {B R : Bx} {x : XD} {fin : List D → Bx → Prop}
    (s : Slots K F σ Γ) (rp : RepH K TS F H B R) (hu : wi Γ B (fun ds gd B1 => sizeOk ds ∧ lcK gd g tt te (wipeD Γ vs) fin ds [] B1) x) (hx : XL K TS W F R σ x)
    (hq : ∀ acc B' F' H' D R', fin acc B' → Same F F' → RepH K TS F' H' B' R' → R' D = some (.lst acc) → B' D = none → D ∉ TS → era R' D = R → Q (.ref D) H') :
    tLc (LI K TS W wi) gv (LT K TS W0 tt) (LE K TS W0 te) vs σ H Q := by
  refine ⟨F, Γ, B, R, _, x, s, rp, hu, fun ds gd B1 F1 H1 J h1 e1 rp1 gvs => ?_, hx⟩
  obtain ⟨hz, h1⟩ := h1
  have hz := sizeOk_le hz
  obtain ⟨G, Y, wk, hG, hY⟩ := gvs
  intro D hD
  have hR1 : R D = none := rp1.freeR hD
  have hnT : D ∉ TS := fun hT => by rw [rp1.tb D hT] at hR1; cases hR1
  refine lc_it wk (fun i H => ∃ F2 B acc, Same F1 F2 ∧ RepH K TS F2 H B (put R D (.lst acc)) ∧ acc.length ≤ i ∧ lcK gd g tt te (wipeD Γ vs) fin (ds.drop i) acc B)
    ⟨F1, B1, [], Same.refl F1, rp1.boxR hD ⟨[], upd_same, rfl⟩, Nat.le_refl _, h1⟩ ?_ ?_ ?_
  · rintro i H hi ⟨F2, B, acc, e2, rp2, ha, h2⟩
    refine hG F2 H B _ e2 rp2 ?_
    cases hd : ds.drop i with
    | nil => rw [hd] at h2; exact (guard_at h2).1
    | cons d r => rw [hd] at h2; exact (guard_at h2).1
  · rintro i v H H2 hi ⟨F2, B, acc, e2, rp2, ha, h2⟩ hy
    rw [List.drop_eq_getElem_cons hi] at h2
    obtain ⟨hgd, h2⟩ := guard_at h2
    obtain ⟨F3, d, e3, rp3, hd, dv⟩ := hY i H v H2 F2 B _ e2 rp2 hgd hy
    have ed : d = ds[i] := by rw [List.getElem?_eq_getElem hi] at hd; exact (Option.some.inj hd).symm
    subst ed
    refine hg.go _ v σ (wipeD Γ vs) F3 H2 B _ _ _ ((slots_wipe s vs).mono (e1.trans (e2.trans e3))) rp3 dv h2 fun Γ4 B4 F4 σ4 H4 h4 e4 s4 rp4 hw => ⟨hw, ?_⟩
    refine ⟨F4, Γ4, B4, _, _, noX, s4, rp4, h4, fun b B5 F5 H5 h5 e5 rp5 => ?_, XL.noX⟩
    cases b with
    | true =>
      refine iteT ⟨F5, Γ4, B5, _, _, noX, s4.mono e5, rp5, h5, fun y B6 F6 H6 u h6 e6 rp6 dv6 => ?_, XL.noX⟩
      obtain ⟨_, us, h7, h8⟩ := rp6.rx D _ put_same
      refine ⟨us, h7, by rw [h8.length]; omega, F6, B6, acc ++ [y], e2.trans (e3.trans (e4.trans (e5.trans e6))), ?_, by rw [List.length_append]; show acc.length + 1 ≤ i + 1; omega, h6⟩
      have rp7 := rp6.writeR (b := .lst (acc ++ [y])) (o := .lst (us ++ [u])) put_same (.inl (fun z => by cases z)) ⟨_, upd_same, h8.append ⟨u, [], rfl, dv6, rfl⟩⟩
      rw [put_put] at rp7
      exact rp7
    | false => exact iteF ⟨F5, B5, acc, e2.trans (e3.trans (e4.trans e5)), rp5, by omega, h5⟩
  · rintro H ⟨F2, B, acc, e2, rp2, ha, h2⟩
    rw [List.drop_length] at h2
    obtain ⟨_, h2⟩ := guard_at h2
    refine hq acc B F2 H D _ h2 (e1.trans e2) rp2 put_same ?_ hnT (era_put hR1)
    rcases rp2.dj D with z | z
    · exact z
    · rw [put_same] at z; cases z
variable {elt tg iter : Expr} {ifs : List Expr} {scope : Scope} {own : List (Str × Nat)} {wi : DTI} {g : DTG} {gv : TG} {tt : DTT}
/-- [elt for tg in iter if ..] as a datum -/
theorem de_lc (hc : X.calm = true) (hN : X.N.Nodup) (hi : DI X TS W tg iter wi) (ok : BlkOk X.N X.env.scope scope own) (hog : OwnG g gv (own.map (·.2)) X.K TS)
    (hg : ∀ (s : Shared) (H : Hp) (C : Addr) (cl : List (Str × Addr)) (fp : List Addr), PG (X.blk s H scope (compEnvC scope cl C X.env) fp) tg gv) (ht : ∀ (s : Shared) (H : Hp) (C : Addr) (cl : List (Str × Addr)) (fp : List Addr), DTs (X.blk s H scope (compEnvC scope cl C X.env) fp) TS ifs tt)
    (he : ∀ (s : Shared) (H : Hp) (C : Addr) (cl : List (Str × Addr)) (fp : List Addr), DE (X.blk s H scope (compEnvC scope cl C X.env) fp) TS W0 elt te) (hs : ∀ x, foldedSetIterable iter X.env x = pure x := by intro _; rfl) :
    DE X TS W (.ListComp elt [⟨tg, iter, ifs, 0⟩] scope pos) (dLc (own.map (·.2)) wi g tt te) := PE_imp (pe_lc (tt := LT X.K TS W0 tt) (te := LE X.K TS W0 te) hc hN hi ok hg ht he hs) fun σ H Q ⟨F, Γ, B, R, q, x, s, rp, hu, hq, hx⟩ =>
  lc_lift hog s rp hu hx fun acc B' F' H' D R' h e rp' hD hB hT hR => by
    obtain ⟨F2, e2, rp2, dv⟩ := rp'.freezeR hD hT
    rw [hR] at rp2
    exact hq _ B' F2 H' _ h (e.trans e2) rp2 dv
/-- .. as a box -/
theorem de_lcB (hc : X.calm = true) (hN : X.N.Nodup) (hi : DI X TS W tg iter wi) (ok : BlkOk X.N X.env.scope scope own) (hog : OwnG g gv (own.map (·.2)) X.K TS)
    (hg : ∀ (s : Shared) (H : Hp) (C : Addr) (cl : List (Str × Addr)) (fp : List Addr), PG (X.blk s H scope (compEnvC scope cl C X.env) fp) tg gv) (ht : ∀ (s : Shared) (H : Hp) (C : Addr) (cl : List (Str × Addr)) (fp : List Addr), DTs (X.blk s H scope (compEnvC scope cl C X.env) fp) TS ifs tt)
    (he : ∀ (s : Shared) (H : Hp) (C : Addr) (cl : List (Str × Addr)) (fp : List Addr), DE (X.blk s H scope (compEnvC scope cl C X.env) fp) TS W0 elt te) (hs : ∀ x, foldedSetIterable iter X.env x = pure x := by intro _; rfl) :
    DE X TS W (.ListComp elt [⟨tg, iter, ifs, 0⟩] scope pos) (dLcB (own.map (·.2)) wi g tt te) := PE_imp (pe_lc (tt := LT X.K TS W0 tt) (te := LE X.K TS W0 te) hc hN hi ok hg ht he hs) fun σ H Q ⟨F, Γ, B, R, q, x, s, rp, hu, hq, hx⟩ =>
  lc_lift hog s rp hu hx fun acc B' F' H' D R' h e rp' hD hB hT hR => by
    have rp2 := rp'.show hD hT
    rw [hR] at rp2
    exact hq _ _ F' H' _ (h D hB) e rp2 rfl
/-- name = [..] on one line, the name a local -/
theorem ds_setLc (i : Nat) {y : Str} {py : Pos} {spos : Pos} (hc : X.calm = true) (hN : X.N.Nodup) (hsw : swapsWith (.ListComp elt [⟨tg, iter, ifs, 0⟩] scope pos) (some (.Name y py)) spos.line X.env = pure true) (hi : DI X TS W tg iter wi) (ok : BlkOk X.N X.env.scope scope own) (hog : OwnG g gv (own.map (·.2)) X.K TS)
    (hg : ∀ (s : Shared) (H : Hp) (C : Addr) (cl : List (Str × Addr)) (fp : List Addr), PG (X.blk s H scope (compEnvC scope cl C X.env) fp) tg gv) (ht : ∀ (s : Shared) (H : Hp) (C : Addr) (cl : List (Str × Addr)) (fp : List Addr), DTs (X.blk s H scope (compEnvC scope cl C X.env) fp) TS ifs tt)
    (he : ∀ (s : Shared) (H : Hp) (C : Addr) (cl : List (Str × Addr)) (fp : List Addr), DE (X.blk s H scope (compEnvC scope cl C X.env) fp) TS W0 elt te)
    (hy : X.N[i]? = some y := by rfl) (hyl : X.env.scope.names.lookup y = some .local := by rfl) (hs : ∀ x, foldedSetIterable iter X.env x = pure x := by intro _; rfl) :
    DS X TS W (.Assign [.Name y py] (.ListComp elt [⟨tg, iter, ifs, 0⟩] scope pos) spos) (dAsg (dLc (own.map (·.2)) wi g tt te) (hName i)) := PS_imp (ps_setLc (tt := LT X.K TS W0 tt) (te := LE X.K TS W0 te) hc hN hy hyl hsw hi ok hg ht he hs) fun D σ H ⟨F, Γ, B, R, E, s, rp, hu, hE⟩ =>
  lc_lift (x := E.ex Γ) hog s rp hu (hE.ex σ Γ F (Same.refl F) s) fun acc B' F' H' D' R' h e rp' hD hB hT hR => by
    obtain ⟨F2, e2, rp2, dv⟩ := rp'.freezeR hD hT
    rw [hR] at rp2
    have h : E.nx (setS Γ i (.lst acc)) B' := h
    rw [setS_eq] at h
    exact hE.nx _ B' F2 _ H' h (e.trans e2) ((s.mono (e.trans e2)).set i dv) rp2
theorem pg_own1 {X : Cx} {i : Nat} {x : Str} {px : Pos} (hN : X.N.Nodup) (hi : X.N[i]? = some x) (hx : Loc X.env.scope x) (hf : X.fn x = true ∨ X.env.scope.names.lookup x = some .local) : PG X (.Name x px) (gName i) := pg_name hN hi hx hf
end
end DL
set_option Elab.async false
set_option linter.all false
set_option maxRecDepth 100000
set_option maxHeartbeats 1000000
/-! DL6: defs, calls, raise. -/
namespace DL
open PySem PySem.Spec PyProof.Rows L2

/-- a def's promise at the level of data: arguments, boxes, what is wanted of the answer and of an error (its class) -/
abbrev SpD := List D → Bx → DK → XD → Prop
def LSp (K : PySem.W.Frag) (TS : List Addr) (sp : SpD) : Sp := fun vs H Q E => ∃ F ds B R q x, Dvs K F ds vs ∧ RepH K TS F H B R ∧ sp ds B q x ∧ QL K TS F R q Q ∧ (∀ C B' F' H', x C B' → Same F F' → RepH K TS F' H' B' R → E (.ref C) none H')
abbrev FnD (P : Program) (w : World) (K : PySem.W.Frag) (mg : Str → Option Value) (base : Heap) (TS : List Addr) (k : Nat) (f : Addr) (fd : FuncData) (ps : List Str) (sp : SpD) : Prop := FnOk P w K mg base (L2.CX P w) k f fd ps (LSp K TS sp)
theorem FnD.imp {P : Program} {w : World} {K : PySem.W.Frag} {mg : Str → Option Value} {base : Heap} {TS : List Addr} {k : Nat} {f : Addr} {fd : FuncData} {ps : List Str} {sp sp' : SpD} (G : FnD P w K mg base TS k f fd ps sp) (h : ∀ ds B q x, sp' ds B q x → sp ds B q x) :
    FnD P w K mg base TS k f fd ps sp' := FnOk.imp G fun vs H Q E ⟨F, ds, B, R, q, x, h1, h2, h3, h4, h5⟩ => ⟨F, ds, B, R, q, x, h1, h2, h ds B q x h3, h4, h5⟩

/-- the names' data at the entry -/
def startD : List Str → List D → Gm
  | [], _ => []
  | _ :: N, [] => none :: startD N []
  | _ :: N, d :: ds => some d :: startD N ds
theorem startD_length : ∀ (N : List Str) (ds : List D), (startD N ds).length = N.length
  | [], _ => rfl
  | _ :: N, [] => by show (startD N []).length + 1 = _; rw [startD_length N []]; rfl
  | _ :: N, _ :: ds => by show (startD N ds).length + 1 = _; rw [startD_length N ds]; rfl
theorem startD_at : ∀ (N : List Str) (ds : List D) (i : Nat) (d : D), (startD N ds)[i]? = some (some d) → ds[i]? = some d
  | [], _, _, _, h => by simp [startD] at h
  | _ :: N, [], 0, _, h => by
    have h : some (Option.none : Option D) = some (some _) := h
    cases h
  | _ :: N, [], i + 1, d, h => by
    have := startD_at N [] i d (by simpa [startD] using h)
    simp at this
  | _ :: N, e :: ds, 0, d, h => by
    have h : some (some e) = some (some d) := h
    cases h; rfl
  | _ :: N, e :: ds, i + 1, d, h => by simpa using startD_at N ds i d (by simpa [startD] using h)
theorem slots_start {K : PySem.W.Frag} {F : Hp} {N : List Str} {ds : List D} {vs : List V} (h : Dvs K F ds vs) (hl : vs.length ≤ N.length) : Slots K F (L2.start N vs) (startD N ds) := by
  refine ⟨?_, fun i d hd => ?_⟩
  · rw [startD_length]
    unfold L2.start
    rw [List.length_append, List.length_map, List.length_replicate]
    omega
  · obtain ⟨v, h1, h2⟩ := h.get (startD_at N ds i d hd)
    refine ⟨v, ?_, h2⟩
    unfold L2.start
    have hi : i < vs.length := (List.getElem?_eq_some_iff.mp h1).1
    rw [List.getElem?_append_left (by simpa using hi), List.getElem?_map, h1]
    rfl
abbrev wE (E : XK) : WX := fun cls d _ H => E cls d H
section
variable {P : Program} {w : World} {K : PySem.W.Frag} {mg : Str → Option Value} {base : Heap} {TS : List Addr}
/-- THE RULE: a def by its body; boxes that are its own may be forgotten at its end -/
theorem okD {x qual : Str} {st : Stmt} {f : Addr} {fd : FuncData} {N ps : List Str} {k : Nat} {sp : SpD} (F : Fun K x qual st f fd) (S : FnScope N ps (defScope st)) (len : ∀ ds B q x, sp ds B q x → ds.length = ps.length)
    (hbody : ∀ (cdv : Value) (A : Around) (outer : List Env) (s : Shared) (H : Hp) (E : XK), Room k (A.deeper (envOfC qual (defScope st) s.heap.objs.size f cdv)) → PySem.W.codeIn K cdv qual = true → (∃ (kV doc pm : Value) (an : Option Addr) (ct : Value), fd = PySem.W.fnOf x qual (defArgs st) (defBody st) (defScope st) .none kV doc pm an cdv ct) →
      Takes (cxOf (L2.CX P w) P w K mg base N qual (defScope st) f cdv A outer s H E) (wE E) → PassesOwn (model P w) (A.deeper (envOfC qual (defScope st) s.heap.objs.size f cdv)) (envOfC qual (defScope st) s.heap.objs.size f cdv) (cxOf (L2.CX P w) P w K mg base N qual (defScope st) f cdv A outer s H E).xe →
      ∃ t, DSs (cxOf (L2.CX P w) P w K mg base N qual (defScope st) f cdv A outer s H E) TS (wE E) (defBody st) t ∧
        ∀ ds B q x, sp ds B q x → t { nx := fun _ B' => ∃ B'', Few B'' B' ∧ q .non B'', rt := fun d B' => ∃ B'', Few B'' B' ∧ q d B'', ex := fun _ C B' => ∃ B'', Few B'' B' ∧ x C B'' } (startD N ds) B) :
    FnD P w K mg base TS (k + 1) f fd ps sp := by
  obtain ⟨oc, od, kV, doc, pm, an, cdv, ct, osl, rfl, lk, hcd⟩ := F.ex
  have hpl : ps.length ≤ N.length := by have := congrArg List.length S.pre; rw [List.length_take] at this; omega
  refine fn_of lk hcd S (fun vs H Q E ⟨F, ds, B, R, q, x, h1, h2, h3, h4, h5⟩ => by rw [h1.length]; exact len ds B q x h3) fun A outer s H vs Q E hr hsp => ?_
  obtain ⟨F, ds, B, R, q, x, h1, h2, h3, h4, h5⟩ := hsp
  obtain ⟨t, ht, hq⟩ := hbody cdv A outer s H E hr hcd ⟨kV, doc, pm, an, ct, rfl⟩ (takes_of rfl rfl rfl rfl) (passes_of rfl)
  refine ⟨_, ht, F, startD N ds, B, R, _, slots_start h1 (by rw [h1.length, len ds B q x h3]; exact hpl), h2, hq ds B q x h3, ?_⟩
  refine ⟨fun Γ' B' F' σ' H' hn e s' rp => ?_, fun d B' F' H' v hn e rp dv => ?_, fun _ _ _ _ _ z => z.elim, fun _ _ _ _ _ z => z.elim, fun σ' Γ' F' e s' C B' F2 H2 hn e2 rp => ?_⟩
  · obtain ⟨B'', hf, hn⟩ := hn
    exact h4 _ _ _ _ _ hn e (rp.few hf) rfl
  · obtain ⟨B'', hf, hn⟩ := hn
    exact h4 _ _ _ _ _ hn e (rp.few hf) dv
  · obtain ⟨B'', hf, hn⟩ := hn
    exact h5 _ _ _ _ hn (e.trans e2) (rp.few hf)
end
section
variable {X : Cx} {TS : List Addr} {W : WX} {pos p apos : Pos} {e o : Expr} {es : List Expr} {tl : DTA} {te to : DTE} {k : Nat} {f C : Addr} {fd : FuncData} {ps : List Str} {sp : SpD} {x m : Str}
/-! ### calls -/
def dCall (sp : SpD) (tl : DTA) : DTE := fun Γ B q x => tl Γ B (fun ds B1 => sp ds B1 q x) x
/-- what a call leaves, by its promise -/
theorem call_lift {K : PySem.W.Frag} {F H : Hp} {B R : Bx} {σ : L2.St} {Γ : Gm} {ds : List D} {vs : List V} {q : DK} {Q : VK} {x : XD} (s : Slots K F σ Γ) (rp : RepH K TS F H B R) (dv : Dvs K F ds vs) (h : sp ds B q x) (hq : QL K TS F R q Q) (hx : XL K TS W F R σ x) :
    LSp K TS sp vs H Q (WE W σ) := ⟨F, ds, B, R, q, x, dv, rp, h, hq, fun C B' F' H' h e rp' => hx C B' F' H' h e rp'⟩
theorem de_call (G : FnD X.prog X.w X.K X.mg X.base TS k f fd ps sp) (hr : Room k X.A) (hg : Gl X x) (hm : X.mg x = some (.ref f)) (hk : PySem.W.keepIn X.K (.ref f) = true) (hb : Binds X.K fd ps []) (tk : Takes X W)
    (ha : DA X TS W (e :: es) tl) (hdb : (x == ("__debug__" : Str)) = false := by decide) (he : starEach (e :: es) X.env = (false, eval e X.env) :: starEach es X.env := by rfl) (hpl : (backTo pos (starEach es X.env)).any (·.1) = false := by rfl) :
    DE X TS W (.Call (.Name x p) (e :: es) [] pos) (dCall sp tl) := PE_imp (pe_callS (E := WE W) G hr hg hm hk hb (fun σ => passAt tk σ) ha hdb he hpl) fun σ H Q ⟨F, Γ, B, R, q, x, s, rp, hu, hq, hx⟩ =>
  ⟨F, Γ, B, R, _, x, s, rp, hu, fun ds B1 F1 H1 vs h1 e1 rp1 dv1 => call_lift (s.mono e1) rp1 dv1 h1 (hq.mono e1) (hx.mono e1), hx⟩
theorem pe_callS0 {CX : CXT} {sp : Sp} {E : L2.St → XK} (G : FnOk X.prog X.w X.K X.mg X.base CX k f fd ps sp) (hr : Room k X.A) (hg : Gl X x) (hm : X.mg x = some (.ref f)) (hk : PySem.W.keepIn X.K (.ref f) = true) (hb : Binds X.K fd ps []) (hx : ∀ σ, PassesAt CX X σ (E σ))
    (hdb : (x == ("__debug__" : Str)) = false := by decide) : PE X (.Call (.Name x p) [] [] pos) (fun σ H Q => sp [] H Q (E σ)) := by
  refine ⟨fun pins s σ H Q I h => ?_⟩
  refine wpAny_Call_Name_kw (ld_glob I hg hm ?_ hdb)
  exact PySem.W.callWith_K0 I.kIn hk (run_fnS (us := []) G hr hb (hx σ) I .nil h)
theorem de_call0 (G : FnD X.prog X.w X.K X.mg X.base TS k f fd ps sp) (hr : Room k X.A) (hg : Gl X x) (hm : X.mg x = some (.ref f)) (hk : PySem.W.keepIn X.K (.ref f) = true) (hb : Binds X.K fd ps []) (tk : Takes X W)
    (hdb : (x == ("__debug__" : Str)) = false := by decide) : DE X TS W (.Call (.Name x p) [] [] pos) (dCall sp dNil) := PE_imp (pe_callS0 (E := WE W) G hr hg hm hk hb (fun σ => passAt tk σ) hdb) fun σ H Q ⟨F, Γ, B, R, q, x, s, rp, hu, hq, hx⟩ =>
  call_lift s rp (Dvs.nil) hu hq hx

/-! ### raise X('m') -/
/-- an own error class over ValueError -/
structure ExcC (X : Cx) (x : Str) (C : Addr) : Prop where
  q : PySem.W.excIn X.K C [.type "ValueError", .type "Exception", .type "BaseException", .type "object"] "ValueError.__new__" = true
  g : X.mg x = some (.ref C)
  k : PySem.W.keepIn X.K (.ref C) = true
  b : PySem.W.subIn X.K (.ref C) (.type "BaseException") = some true
  t : PySem.W.typeIn X.K (.ref C) = some (.type "type")
def dRaise (C : Addr) : DTS := fun E Γ B => E.ex Γ C B
theorem ds_raise {msg : Str} {j : Nat} {p2 : Pos} (hc : X.calm = true) (tk : Takes X W) (EX : ExcC X x C) (hg : Gl X x := by rfl) (hdb : (x == ("__debug__" : Str)) = false := by decide) : DS X TS W (.Raise (some (.Call (.Name x p) [.Constant (.str msg) j p2] [] apos)) none pos) (dRaise C) :=
  PS_imp (ps_raise hc tk (pmk_own PySem.F.excBase_ValueError EX.q EX.g EX.k (raises_own EX.b EX.t) hg hdb)) fun D σ H ⟨F, Γ, B, R, E, s, rp, hu, hE⟩ => hE.ex σ Γ F (Same.refl F) s C B F H hu (Same.refl F) rp
end
end DL
set_option Elab.async false
set_option linter.all false
set_option maxRecDepth 100000
set_option maxHeartbeats 2000000
/-! DL7: generator expressions within any, all. -/
namespace DL
open PySem PySem.Spec PyProof.Rows L2

/-! ### data over the bare heap -/
mutual
/-- the value u bears the datum in the heap h -/
def Dr (h : Heap) : D → Value → Prop
  | .non, u => u = .none
  | .bl b, u => u = .bool b
  | .int i, u => ∃ t, u = .int i t
  | .str x, u => ∃ t, u = .str x t
  | .ty n, u => u = .type n
  | .obj _, u => ∃ a, u = .ref a
  | .ref a, u => u = .ref a
  | .lst ds, u => ∃ a its, u = .ref a ∧ PlainL h a its.toArray ∧ Drs h ds its
  | .tup ds, u => ∃ a its, u = .ref a ∧ IsTup h a its.toArray ∧ its.length ≤ sizeLine ∧ Drs h ds its
  | .rol ds, u => ∃ a its, u = .ref a ∧ PlainL h a its.toArray ∧ Drs h ds its
  | .rot ds, u => ∃ a its, u = .ref a ∧ IsTup h a its.toArray ∧ its.length ≤ sizeLine ∧ Drs h ds its
def Drs (h : Heap) : List D → List Value → Prop
  | [], us => us = []
  | d :: ds, us => ∃ u us', us = u :: us' ∧ Dr h d u ∧ Drs h ds us'
end
def Kp (h h' : Heap) : Prop := ∀ b o, h.get? b = some o → h'.get? b = some o
theorem plainL_kp {h h' : Heap} {a : Addr} {its : Array Value} (p : PlainL h a its) (k : Kp h h') : PlainL h' a its := by
  obtain ⟨o, n, e, r⟩ := p
  exact ⟨o, n, k a o e, r⟩
theorem isTup_kp {h h' : Heap} {a : Addr} {its : Array Value} (p : IsTup h a its) (k : Kp h h') : IsTup h' a its := by
  obtain ⟨o, e, r⟩ := p
  exact ⟨o, k a o e, r⟩
mutual
theorem Dr.kp {h h' : Heap} (k : Kp h h') : ∀ (d : D) {u : Value}, Dr h d u → Dr h' d u
  | .non, _, e => e
  | .bl _, _, e => e
  | .int _, _, e => e
  | .str _, _, e => e
  | .ty _, _, e => e
  | .obj _, _, e => e
  | .ref _, _, e => e
  | .lst ds, _, ⟨a, its, e, p, r⟩ => ⟨a, its, e, plainL_kp p k, Drs.kp k ds r⟩
  | .tup ds, _, ⟨a, its, e, p, l, r⟩ => ⟨a, its, e, isTup_kp p k, l, Drs.kp k ds r⟩
  | .rol ds, _, ⟨a, its, e, p, r⟩ => ⟨a, its, e, plainL_kp p k, Drs.kp k ds r⟩
  | .rot ds, _, ⟨a, its, e, p, l, r⟩ => ⟨a, its, e, isTup_kp p k, l, Drs.kp k ds r⟩
theorem Drs.kp {h h' : Heap} (k : Kp h h') : ∀ (ds : List D) {us : List Value}, Drs h ds us → Drs h' ds us
  | [], _, e => e
  | d :: ds, _, ⟨u, us, e, h1, h2⟩ => ⟨u, us, e, Dr.kp k d h1, Drs.kp k ds h2⟩
end
theorem Drs.length {h : Heap} : ∀ {ds : List D} {us : List Value}, Drs h ds us → us.length = ds.length
  | [], _, e => by cases e; rfl
  | _ :: ds, _, ⟨u, us, e, _, t⟩ => by subst e; simp [Drs.length t]
theorem Drs.get {h : Heap} : ∀ {ds : List D} {us : List Value} {i : Nat} {u : Value}, Drs h ds us → us[i]? = some u → ∃ d, ds[i]? = some d ∧ Dr h d u
  | [], _, _, _, e, hu => by cases e; simp at hu
  | d :: ds, _, 0, u, ⟨u', us, e, h1, _⟩, hu => by subst e; simp at hu; subst hu; exact ⟨d, rfl, h1⟩
  | d :: ds, _, i + 1, u, ⟨u', us, e, _, h2⟩, hu => by
    subst e
    obtain ⟨d', h3, h4⟩ := Drs.get (i := i) h2 (by simpa using hu)
    exact ⟨d', by simpa using h3, h4⟩
section
variable {X : Cx} {TS : List Addr} {pins : List (Addr × Obj)} {σ : L2.St} {H F : Hp} {s : Shared} {B R : Bx}
mutual
theorem dr_of (I : Inv X pins σ H s) (le : Same F H) : ∀ (d : D) {v : V} {u : Value}, Dv X.K F d v → RelV v u → Dr s.heap d u
  | .non, _, _, h, r => by cases h; exact r
  | .bl _, _, _, h, r => by cases h; exact r
  | .int _, _, _, h, r => by cases h; exact r
  | .str _, _, _, h, r => by cases h; exact r
  | .ty _, _, _, h, r => by cases h; exact r
  | .obj _, _, _, ⟨a, e, _⟩, r => by subst e; exact ⟨a, r⟩
  | .ref _, _, _, h, r => by cases h; exact r
  | .lst ds, _, _, ⟨a, vs, e, h1, h2⟩, r => by
    subst e
    obtain ⟨its, rv, p, _⟩ := I.list (SqL.of (le _ _ h1))
    exact ⟨a, its, r, p, drs_of I le ds h2 rv⟩
  | .tup ds, _, _, ⟨a, vs, e, h1, h2⟩, r => by
    subst e
    obtain ⟨its, rv, p, z⟩ := I.tuple (SqT.of (le _ _ h1))
    exact ⟨a, its, r, p, by rw [← rv.length]; exact z, drs_of I le ds h2 rv⟩
  | .rol ds, _, _, ⟨a, vs, e, h1, h2⟩, r => by
    subst e
    obtain ⟨its, rv, p, _⟩ := I.list (le.seq h1)
    exact ⟨a, its, r, p, drs_of I le ds h2 rv⟩
  | .rot ds, _, _, ⟨a, vs, e, h1, h2⟩, r => by
    subst e
    obtain ⟨its, rv, p, z⟩ := I.tuple (SqT_mono le h1)
    exact ⟨a, its, r, p, by rw [← rv.length]; exact z, drs_of I le ds h2 rv⟩
theorem drs_of (I : Inv X pins σ H s) (le : Same F H) : ∀ (ds : List D) {vs : List V} {us : List Value}, Dvs X.K F ds vs → Vals vs us → Drs s.heap ds us
  | [], _, _, h, r => by cases h; cases r; rfl
  | d :: ds, _, _, ⟨v, vs, e, h1, h2⟩, r => by
    subst e
    cases r with
    | cons r1 r2 => exact ⟨_, _, rfl, dr_of I le d h1 r1, drs_of I le ds h2 r2⟩
end
end
/-- boxes over the bare heap (as far as an element reads them): dicts by numbers and texts, instances -/
def BoxR (P : Program) (w : World) (h : Heap) : Box → Addr → Prop
  | .dK kvs, a => (a == sysModules) = false ∧ ∃ vs : List (Key × Value), Paired (fun p q => p.1 = q.1 ∧ Dr h p.2 q.2) kvs vs ∧ h.DictOf (mixKind P w) a vs
  | .lk _ _ kvs, a => (a == sysModules) = false ∧ ∃ vs : List (Key × Value), Paired (fun p q => p.1 = q.1 ∧ Dr h p.2 q.2) kvs vs ∧ h.DictOf (mixKind P w) a vs
  | .ins C fs, a => ∃ (dx : Addr) (mA : Str → Option Value), ObjM h a dx C mA ∧ ∀ f d, fs.lookup f = some d → ∃ u, mA f = some u ∧ Dr h d u
  | .lst ds, a => ∃ its, PlainL h a its.toArray ∧ Drs h ds its
  | _, _ => True

/-- what stands still while the elements are reckoned: the generator's frame cenv, its names by the def's slots N -/
structure RInv (P : Program) (w : World) (K : PySem.W.Frag) (mg : Str → Option Value) (base : Heap) (N : List Str) (scope : Scope) (cenv : Env) (Γ : Gm) (B : Bx) (s : Shared) (m : Str → Option Value) : Prop where
  sc : cenv.scope = scope
  kd : scope.kind = .function
  gl : cenv.globals = mainGlobals
  bt : cenv.builtins = builtinsNs
  md : L2.Mod K mg base
  bk : Kp base s.heap
  ns : s.heap.Ns cenv.locals m
  loc : ∀ (i : Nat) (y : Str) (d : D), N[i]? = some y → Γ[i]? = some (some d) → (scope.names.lookup y = some .local ∨ scope.names.lookup y = some .free) →
    ∃ u, Dr s.heap d u ∧ ((scope.names.lookup y = some .local ∧ m y = some u) ∨ (scope.names.lookup y = some .free ∧ ∃ c, cenv.cells.lookup y = some c ∧ s.heap.IsCell c (some u)))
  bx : ∀ a b, B a = some b → BoxR P w s.heap b a
theorem paired_kp {h h' : Heap} {κ : Type} (k : Kp h h') : ∀ {kvs : List (κ × D)} {vs : List (κ × Value)}, Paired (fun p q => p.1 = q.1 ∧ Dr h p.2 q.2) kvs vs → Paired (fun p q => p.1 = q.1 ∧ Dr h' p.2 q.2) kvs vs
  | _, _, .nil => .nil
  | _, _, .cons r t => .cons ⟨r.1, r.2.kp k⟩ (paired_kp k t)
theorem dictOf_kp {P : Program} {w : World} {h h' : Heap} {a : Addr} {vs : List (Key × Value)} (k : Kp h h') (d : h.DictOf (mixKind P w) a vs) : h'.DictOf (mixKind P w) a vs := by
  obtain ⟨o, es, ep, e, r⟩ := d
  exact ⟨o, es, ep, k a o e, r⟩
theorem BoxR.kp {P : Program} {w : World} {h h' : Heap} (k : Kp h h') : ∀ {b : Box} {a : Addr}, BoxR P w h b a → BoxR P w h' b a
  | .dK kvs, _, ⟨z, vs, r, d⟩ => ⟨z, vs, paired_kp k r, dictOf_kp k d⟩
  | .lk _ _ kvs, _, ⟨z, vs, r, d⟩ => ⟨z, vs, paired_kp k r, dictOf_kp k d⟩
  | .ins C fs, _, ⟨dx, mA, o, r⟩ => ⟨dx, mA, ⟨k _ _ o.1, by
      obtain ⟨od, es, ep, e, q⟩ := o.2
      exact ⟨od, es, ep, k _ _ e, q⟩, o.3⟩, fun f d hf => let ⟨u, h1, h2⟩ := r f d hf; ⟨u, h1, h2.kp k⟩⟩
  | .lst ds, _, ⟨its, p, r⟩ => ⟨its, plainL_kp p k, Drs.kp k ds r⟩
  | .dT _, _, _ => trivial
  | .tab, _, _ => trivial
  | .ext _, _, _ => trivial
  | .tabQ _, _, _ => trivial
section
variable {P : Program} {w : World} {K : PySem.W.Frag} {mg : Str → Option Value} {base : Heap} {N : List Str} {scope : Scope} {cenv : Env} {Γ : Gm} {B : Bx} {s s' : Shared} {m : Str → Option Value}
theorem kpk (k : Keeps s s') : Kp s.heap s'.heap := by
  obtain ⟨h, t, rfl, k⟩ := k
  exact k
theorem keeps_refl (s : Shared) : Keeps s s := ⟨s.heap, s.toks, rfl, fun _ _ e => e⟩
theorem keeps_tok (s : Shared) (t : Nat) : Keeps s { s with toks := t } := ⟨s.heap, t, rfl, fun _ _ e => e⟩
theorem ktr {s s' s'' : Shared} (a : Keeps s s') (b : Keeps s' s'') : Keeps s s'' := by
  obtain ⟨h, t, rfl, k⟩ := a
  obtain ⟨h', t', rfl, k'⟩ := b
  exact ⟨h', t', rfl, fun b o e => k' b o (k b o e)⟩
theorem RInv.next (I : RInv P w K mg base N scope cenv Γ B s m) (k : Kp s.heap s'.heap) : RInv P w K mg base N scope cenv Γ B s' m := by
  refine ⟨I.sc, I.kd, I.gl, I.bt, I.md, fun b o e => k b o (I.bk b o e), I.ns.keeps k, fun i y d h1 h2 h3 => ?_, fun a b h => (I.bx a b h).kp k⟩
  obtain ⟨u, h4, h5⟩ := I.loc i y d h1 h2 h3
  refine ⟨u, h4.kp k, h5.imp id fun ⟨h6, c, h7, h8⟩ => ⟨h6, c, h7, h8.keeps k⟩⟩
end

/-! ### elements -/
abbrev RTE := Gm → Bx → (D → Prop) → Prop
/-- an element's reading: it changes nothing that stands, and raises nothing -/
structure RE (P : Program) (w : World) (K : PySem.W.Frag) (mg : Str → Option Value) (base : Heap) (N : List Str) (scope : Scope) (e : Expr) (t : RTE) : Prop where
  run : ∀ (A : Around) (E : Value → Shared → Prop) (cenv : Env) (Γ : Gm) (B : Bx) (s : Shared) (m : Str → Option Value) (q : D → Prop), A.handled = none → A.units + 64 < cLine → RInv P w K mg base N scope cenv Γ B s m → t Γ B q →
    wpAny (model P w) A (eval e cenv) (fun u s' => (∃ d, Dr s'.heap d u ∧ q d) ∧ Keeps s s') E s
section
variable {P : Program} {w : World} {K : PySem.W.Frag} {mg : Str → Option Value} {base : Heap} {N : List Str} {scope : Scope} {a b c e : Expr} {ta tb tc : RTE} {pos : Pos}
def rVar (i : Nat) : RTE := fun Γ _ q => match getS Γ i with
  | some d => q d
  | none => False
theorem re_var (i : Nat) {x : Str} (hN : N[i]? = some x := by rfl) (hx : scope.names.lookup x = some .local ∨ scope.names.lookup x = some .free := by first | exact Or.inl rfl | exact Or.inr rfl)
    (hd : (x == ("__debug__" : Str)) = false := by decide) (hcd : (x == ("__classdict__" : Str)) = false := by decide) : RE P w K mg base N scope (.Name x pos) (rVar i) := ⟨fun A E cenv Γ B s m q hh hu I h => by
  unfold rVar at h
  cases hg : getS Γ i with
  | none => rw [hg] at h; exact h.elim
  | some d =>
    rw [hg] at h
    obtain ⟨u, h1, h2⟩ := I.loc i x d hN (getS_at hg) hx
    have fin : (∃ d, Dr s.heap d u ∧ q d) ∧ Keeps s s := ⟨⟨d, h1, h⟩, keeps_refl s⟩
    have kd : cenv.scope.kind = .function := by rw [I.sc]; exact I.kd
    rcases h2 with ⟨k, e⟩ | ⟨k, c, e, z⟩
    · exact wpAny_Name (wpAny_loadName_local kd (show cenv.scope.names.lookup x = some .local by rw [I.sc]; exact k) I.ns e fin) hd
    · exact wpAny_Name (wpAny_loadName_free kd (show cenv.scope.names.lookup x = some .free by rw [I.sc]; exact k) e z fin hcd) hd⟩
def rC (d : D) : RTE := fun _ _ q => q d
theorem re_int {i j} : RE P w K mg base N scope (.Constant (.int i) j pos) (rC (.int i)) := ⟨fun A E cenv Γ B s m q hh hu I h => wpAny_Constant_int ⟨⟨.int i, ⟨_, rfl⟩, h⟩, keeps_tok _ _⟩⟩
theorem re_str {x j} : RE P w K mg base N scope (.Constant (.str x) j pos) (rC (.str x)) := ⟨fun A E cenv Γ B s m q hh hu I h => Calls.Constant_str ⟨⟨.str x, ⟨_, rfl⟩, h⟩, keeps_tok _ _⟩⟩
theorem re_non {j} : RE P w K mg base N scope (.Constant .none j pos) (rC .non) := ⟨fun A E cenv Γ B s m q hh hu I h => Constant_none ⟨⟨.non, rfl, h⟩, keeps_refl _⟩⟩
/-- a module's whole number -/
theorem re_gint {x : Str} {i : Int} (hm : ∃ t, mg x = some (.int i t)) (hg : scope.names.lookup x = some .globalImplicit := by rfl) (hd : (x == ("__debug__" : Str)) = false := by decide) : RE P w K mg base N scope (.Name x pos) (rC (.int i)) := ⟨fun A E cenv Γ B s m q hh hu I h => by
  obtain ⟨t, hm⟩ := hm
  have kd : cenv.scope.kind = .function := by rw [I.sc]; exact I.kd
  exact Calls.Name_function_global kd (show cenv.scope.names.lookup x = some .globalImplicit by rw [I.sc]; exact hg) (Calls.loadGlobal_global (by rw [I.gl]; exact I.md.glob.keeps I.bk) hm ⟨⟨.int i, ⟨t, rfl⟩, h⟩, keeps_refl _⟩) hd⟩
/-- an operation upon two values that changes nothing -/
def OpRr (P : Program) (w : World) (f : Value → Value → Sem Value) (g : D → D → Bx → (D → Prop) → Prop) : Prop :=
  ∀ (A : Around) (E : Value → Shared → Prop) (s : Shared) (d e : D) (u v : Value) (B : Bx) (q : D → Prop), A.handled = none → A.units + 64 < cLine → (∀ a b, B a = some b → BoxR P w s.heap b a) → Dr s.heap d u → Dr s.heap e v → g d e B q →
    wpAny (model P w) A (f u v) (fun r s' => (∃ d, Dr s'.heap d r ∧ q d) ∧ Keeps s s') E s
abbrev H2 := D → D → Bx → (D → Prop) → Prop
def rOp (g : H2) (ta tb : RTE) : RTE := fun Γ B q => ta Γ B fun d => tb Γ B fun e => g d e B q
theorem two_r {f : Value → Value → Sem Value} {g : H2} (ho : OpRr P w f g) (ha : RE P w K mg base N scope a ta) (hb : RE P w K mg base N scope b tb) {A : Around} {E : Value → Shared → Prop} {cenv : Env} {Γ : Gm} {B : Bx} {s : Shared} {m : Str → Option Value} {q : D → Prop} (hh : A.handled = none) (hu : A.units + 64 < cLine)
    (I : RInv P w K mg base N scope cenv Γ B s m) (h : rOp g ta tb Γ B q) : wpAny (model P w) A (eval a cenv) (fun v s1 => wpAny (model P w) A (eval b cenv) (fun u s2 => wpAny (model P w) A (f v u) (fun u s' => (∃ d, Dr s'.heap d u ∧ q d) ∧ Keeps s s') E s2) E s1) E s := by
  refine wpAny_mono (ha.run A E cenv Γ B s m _ hh hu I h) (fun v s1 h1 => ?_) fun _ _ z => z
  obtain ⟨⟨d, hd, h1⟩, k1⟩ := h1
  have I1 := I.next (kpk k1)
  refine wpAny_mono (hb.run A E cenv Γ B s1 m _ hh hu I1 h1) (fun u s2 h2 => ?_) fun _ _ z => z
  obtain ⟨⟨e, he, h2⟩, k2⟩ := h2
  have I2 := I1.next (kpk k2)
  exact wpAny_mono (ho A E s2 d e v u B q hh hu I2.bx (hd.kp (kpk k2)) he h2) (fun r s3 h3 => ⟨h3.1, ktr (ktr k1 k2) h3.2⟩) fun _ _ z => z
theorem re_cmp {op : CmpOp} {g : H2} (ho : OpRr P w (compareOp op) g) (ha : RE P w K mg base N scope a ta) (hb : RE P w K mg base N scope b tb) (hm : behindInMarks op b = false := by first | exact nomark _ | rfl) : RE P w K mg base N scope (.Compare a [op] [b] pos) (rOp g ta tb) :=
  ⟨fun A E cenv Γ B s m q hh hu I h => wpAny_Compare1 (two_r ho ha hb hh hu I h) hm⟩
def rChain (g g' : H2) (ta tb tc : RTE) : RTE := fun Γ B q => ta Γ B fun d => tb Γ B fun e => g d e B fun z => match z with
  | .bl k => if k = true then tc Γ B fun f => g' e f B q else q (.bl false)
  | _ => False
theorem re_chain {op op' : CmpOp} {g g' : H2} (ho : OpRr P w (compareOp op) g) (ho' : OpRr P w (compareOp op') g') (ha : RE P w K mg base N scope a ta) (hb : RE P w K mg base N scope b tb) (hc : RE P w K mg base N scope c tc)
    (hm : lastMarks [op, op'] [b, c] = false := by with_unfolding_all rfl) : RE P w K mg base N scope (.Compare a [op, op'] [b, c] pos) (rChain g g' ta tb tc) := ⟨fun A E cenv Γ B s m q hh hu I h => by
  refine Compare_chain (wpAny_mono (ha.run A E cenv Γ B s m _ hh hu I h) (fun v s1 h1 => chain_link ?_) fun _ _ z => z) hm
  obtain ⟨⟨d, hd, h1⟩, k1⟩ := h1
  have I1 := I.next (kpk k1)
  refine wpAny_mono (hb.run A E cenv Γ B s1 m _ hh hu I1 h1) (fun u s2 h2 => ?_) fun _ _ z => z
  obtain ⟨⟨e, he, h2⟩, k2⟩ := h2
  have I2 := I1.next (kpk k2)
  refine wpAny_mono (ho A E s2 d e v u B _ hh hu I2.bx (hd.kp (kpk k2)) he h2) (fun r s3 h3 => ?_) fun _ _ z => z
  obtain ⟨⟨z, hz, h3⟩, k3⟩ := h3
  have I3 := I2.next (kpk k3)
  split at h3
  · rename_i k
    have hz : r = .bool k := hz
    subst hz
    refine wpAny_truthy_bool ?_
    cases k with
    | false => exact ite_ff ⟨⟨.bl false, rfl, (show q (.bl false) from h3)⟩, ktr (ktr k1 k2) k3⟩
    | true =>
      refine ite_tt (chain_last (wpAny_mono (hc.run A E cenv Γ B s3 m _ hh hu I3 (show tc Γ B _ from h3)) (fun w' s4 h4 => ?_) fun _ _ z => z))
      obtain ⟨⟨f, hf, h4⟩, k4⟩ := h4
      have I4 := I3.next (kpk k4)
      exact wpAny_mono (ho' A E s4 e f u w' B q hh hu I4.bx ((he.kp (kpk k3)).kp (kpk k4)) hf h4) (fun r s5 h5 => ⟨h5.1, ktr (ktr (ktr (ktr k1 k2) k3) k4) h5.2⟩) fun _ _ z => z
  · exact h3.elim⟩
def rNot (ta : RTE) : RTE := fun Γ B q => ta Γ B fun d => match d with
  | .bl c => q (.bl (!c))
  | _ => False
theorem re_not (ha : RE P w K mg base N scope a ta) : RE P w K mg base N scope (.UnaryOp .Not a pos) (rNot ta) := ⟨fun A E cenv Γ B s m q hh hu I h => by
  refine UnaryOp_ (wpAny_mono (ha.run A E cenv Γ B s m _ hh hu I h) (fun v s1 h1 => ?_) fun _ _ z => z)
  obtain ⟨⟨d, hd, h1⟩, k1⟩ := h1
  split at h1
  · rename_i c
    have hd : v = .bool c := hd
    subst hd
    exact not_of (wpAny_truthy_bool ⟨⟨.bl (!c), rfl, h1⟩, k1⟩)
  · exact h1.elim⟩
def rAnd (ta tb : RTE) : RTE := fun Γ B q => ta Γ B fun d => match d with
  | .bl c => if c = true then tb Γ B q else q (.bl false)
  | _ => False
theorem re_one {op} (h : RE P w K mg base N scope a ta) : RE P w K mg base N scope (.BoolOp op [a] pos) ta := ⟨fun A E cenv Γ B s m q hh hu I hw => BoolOp_one (h.run A E cenv Γ B s m q hh hu I hw)⟩
theorem re_and {rest : List Expr} (ha : RE P w K mg base N scope a ta) (hb : RE P w K mg base N scope (.BoolOp .And (b :: rest) pos) tb) : RE P w K mg base N scope (.BoolOp .And (a :: b :: rest) pos) (rAnd ta tb) := ⟨fun A E cenv Γ B s m q hh hu I h => by
  refine BoolOp_and (wpAny_mono (ha.run A E cenv Γ B s m _ hh hu I h) (fun v s1 h1 => ?_) fun _ _ z => z)
  obtain ⟨⟨d, hd, h1⟩, k1⟩ := h1
  split at h1
  · rename_i c
    have hd : v = .bool c := hd
    subst hd
    refine wpAny_truthy_bool ?_
    cases c with
    | true => exact wpAny_mono (hb.run A E cenv Γ B s1 m q hh hu (I.next (kpk k1)) (show tb Γ B q from h1)) (fun u s2 h2 => ⟨h2.1, ktr k1 h2.2⟩) fun _ _ z => z
    | false => exact ⟨⟨.bl false, rfl, (show q (.bl false) from h1)⟩, k1⟩
  · exact h1.elim⟩
/-! comparisons of whole numbers -/
def rI (f : Int → Int → Bool) : H2 := fun d e _ q => match d, e with
  | .int i, .int j => q (.bl (f i j))
  | _, _ => False
theorem or_of {f : Value → Value → Sem Value} {g : Int → Int → Bool} (rule : ∀ (A : Around) (E : Value → Shared → Prop) (i j : Int) (t u : Tok) (s : Shared) (Q : Value → Shared → Prop), Q (.bool (g i j)) s → wpAny (model P w) A (f (.int i t) (.int j u)) Q E s) : OpRr P w f (rI g) :=
  fun A E s d e u v B q hh hu hb hd he h => by
    unfold rI at h
    split at h
    · obtain ⟨t, rfl⟩ := hd
      obtain ⟨t', rfl⟩ := he
      exact rule A E _ _ _ _ s _ ⟨⟨.bl _, rfl, h⟩, keeps_refl s⟩
    · exact h.elim
theorem or_lt : OpRr P w (compareOp .Lt) (rI fun i j => decide (i < j)) := or_of fun _ _ _ _ _ _ _ _ q => lt_int q
theorem or_le : OpRr P w (compareOp .LtE) (rI fun i j => decide (i ≤ j)) := or_of fun _ _ _ _ _ _ _ _ q => le_int q
theorem or_gt : OpRr P w (compareOp .Gt) (rI fun i j => decide (j < i)) := or_of fun _ _ _ _ _ _ _ _ q => gt_int q
theorem or_ge : OpRr P w (compareOp .GtE) (rI fun i j => decide (j ≤ i)) := or_of fun _ _ _ _ _ _ _ _ q => ge_int q
theorem or_eqI : OpRr P w (compareOp .Eq) (rI fun i j => decide (i = j)) := or_of fun _ _ _ _ _ _ _ _ q => eq_int (by rw [Bool.beq_eq_decide_eq]; exact q)
end

/-! ### the walk over a generator expression -/
/-- a def's table at Pt, its code object at c -/
abbrev TabB := LamX.TabB
section
variable {X : Cx} {TS : List Addr} {W : WX} {pos gpos : Pos} {elt iter : Expr} {x : Str} {px : Pos} {scope : Scope} {te : DTE} {tr : RTE} {k : Nat} {c Pt : Addr}
theorem tab_of {K : PySem.W.Frag} {F H : Hp} {B R : Bx} {Pt : Addr} (rp : RepH K TS F H B R) (hP : Pt ∈ TS) : ∃ ps : Array Value, H Pt = some (.tbl ps) ∧ TriplesOk ps.toList := (rp.rx Pt _ (rp.tb Pt hP)).2
theorem same_but {K : PySem.W.Frag} {F H H' : Hp} {B R : Bx} {Pt : Addr} {ps : Array Value} (rp : RepH K TS F H B R) (hP : Pt ∈ TS) (h : H' Pt = some (.tbl ps)) (ht : TriplesOk ps.toList) (k : ∀ b, b ≠ Pt → H' b = H b) : RepH K TS F H' B R := by
  obtain ⟨qs, h1, _⟩ := tab_of rp hP
  have nF : F Pt = none := (rp.rx Pt _ (rp.tb Pt hP)).1
  refine ⟨fun c u e => ?_, fun c u e => ?_, fun c u e => ?_, rp.dj, rp.tb⟩
  · have hc : c ≠ Pt := ne_of_none e nF
    rw [k c hc]; exact rp.le _ _ e
  · obtain ⟨h2, h3⟩ := rp.bx c u e
    have hc : c ≠ Pt := fun z => by
      rcases rp.dj Pt with q | q
      · rw [z, q] at e; cases e
      · rw [rp.tb Pt hP] at q; cases q
    exact ⟨h2, h3.mono (Same.refl F) (k c hc)⟩
  · obtain ⟨h2, h3⟩ := rp.rx c u e
    by_cases hc : c = Pt
    · have e' := rp.tb Pt hP
      rw [hc] at e
      rw [e] at e'; cases e'
      rw [hc]
      exact ⟨nF, ps, h, ht⟩
    · exact ⟨h2, h3.mono (Same.refl F) (k c hc)⟩
theorem boxR_of {P : Program} {w : World} {pins : List (Addr × Obj)} {σ : L2.St} {H F : Hp} {s : Shared} {B R : Bx} (hP : X.prog = P) (hw : X.w = w) (I : Inv X pins σ H s) (rp : RepH X.K TS F H B R) : ∀ a b, B a = some b → BoxR P w s.heap b a := fun a b h => by
  subst hP hw
  have dct : ∀ {kvs : List (Key × D)} {ws : List (Key × V)} {vs : List (Key × Value)}, DKv X.K F kvs ws → KV ws vs → Paired (fun p q => p.1 = q.1 ∧ Dr s.heap p.2 q.2) kvs vs := by
    intro kvs
    induction kvs with
    | nil => intro ws vs h1 h2; cases h1; cases h2; exact .nil
    | cons p r ih =>
      intro ws vs h1 h2
      obtain ⟨k', d⟩ := p
      obtain ⟨v, ws', e, h3, h4⟩ := h1
      subst e
      cases h2 with
      | cons r1 r2 => exact .cons ⟨r1.1, dr_of I rp.le d h3 r1.2⟩ (ih h4 r2)
  have bx := (rp.bx a b h).2
  cases b with
  | lst ds =>
    obtain ⟨vs, h1, h2⟩ := bx
    obtain ⟨its, rv, p, _⟩ := I.list (SqL.of h1)
    exact ⟨its, p, drs_of I rp.le ds h2 rv⟩
  | dK kvs =>
    obtain ⟨ws, h1, h2⟩ := bx
    obtain ⟨z, hd, vs, rel, dd⟩ := dk_of I.hok h1
    exact ⟨hd, vs, dct h2 rel, dd⟩
  | lk o ws kvs =>
    obtain ⟨h1, h2⟩ := bx
    obtain ⟨z, hd, vs, rel, dd⟩ := dk_rd I.hok (.inr ⟨_, h1⟩)
    exact ⟨hd, vs, dct h2 rel, dd⟩
  | ins C fs =>
    obtain ⟨dx, ws, h1, h2⟩ := bx
    obtain ⟨mA, om, rel, _, _, _⟩ := ins_get I.hok h1
    refine ⟨dx, mA, om, fun f d hf => ?_⟩
    have look : ∀ {fs : List (Str × D)} {ws : List (Str × V)}, DKv X.K F fs ws → fs.lookup f = some d → ∃ v, ws.lookup f = some v ∧ Dv X.K F d v := by
      intro fs
      induction fs with
      | nil => intro ws _ h; simp at h
      | cons p r ih =>
        intro ws h1 h
        obtain ⟨k', d'⟩ := p
        obtain ⟨v, ws', e, h3, h4⟩ := h1
        subst e
        rw [List.lookup_cons] at h ⊢
        cases hb : f == k' with
        | true => rw [hb] at h; cases h; exact ⟨v, rfl, h3⟩
        | false => rw [hb] at h; exact ih h4 h
    obtain ⟨v, h3, h4⟩ := look h2 hf
    have h5 := rel f
    rw [h3] at h5
    obtain ⟨u, h6, h7⟩ := RelO.some_of h5
    exact ⟨u, h6, dr_of I rp.le d h4 h7⟩
  | dT kvs => exact trivial
  | tab => exact trivial
  | ext φ => exact trivial
  | tabQ q => exact trivial
/-- the generator expression's own scope: one name of its own, beside the captured ones -/
structure GenS (env : Env) (scope : Scope) (x : Str) : Prop where
  kind : scope.kind = .function
  co : scope.isCoroutine = false
  cell : ∀ y ∈ scope.names, y.2 ≠ .cell
  dot : scope.names.lookup (".0" : Str) = some NameKind.local
  loc : scope.names.lookup x = some .local
  own : ∀ y, scope.names.lookup y = some .local → y ≠ x → y ≠ ".0" → False
  free : ∀ y ∈ scope.names, y.2 = .free → ∃ c, env.cells.lookup y.1 = some c
  vis : ∀ y, scope.names.lookup y = some .free → Vis env.scope y
  notloc : ∀ y, scope.names.lookup y = some .free → env.kindOf y = some .local → False
structure GenB (sc scope : Scope) (x : Str) : Prop where
  kind : scope.kind = .function
  co : scope.isCoroutine = false
  cell : ∀ y ∈ scope.names, y.2 ≠ .cell
  dot : scope.names.lookup (".0" : Str) = some NameKind.local
  loc : scope.names.lookup x = some .local
  own : ∀ y ∈ scope.names, y.2 = .local → y.1 = x ∨ y.1 = ".0"
  vis : ∀ y ∈ scope.names, y.2 = .free → sc.names.lookup y.1 = some .cell ∨ sc.names.lookup y.1 = some .free
def genBB (sc scope : Scope) (x : Str) : Bool :=
  decide (scope.kind = .function) && !scope.isCoroutine && (scope.names.all fun y => !decide (y.2 = .cell)) && decide (scope.names.lookup (".0" : Str) = some NameKind.local) && decide (scope.names.lookup x = some .local) &&
    (scope.names.all fun y => !decide (y.2 = .local) || decide (y.1 = x) || decide (y.1 = ".0")) && (scope.names.all fun y => !decide (y.2 = .free) || decide (sc.names.lookup y.1 = some .cell) || decide (sc.names.lookup y.1 = some .free))
theorem genB_by {sc scope : Scope} {x : Str} (h : genBB sc scope x = true) : GenB sc scope x := by
  unfold genBB at h
  simp only [Bool.and_eq_true, Bool.or_eq_true, Bool.not_eq_true', decide_eq_true_eq, decide_eq_false_iff_not, List.all_eq_true] at h
  obtain ⟨⟨⟨⟨⟨⟨h1, h2⟩, h3⟩, h4⟩, h5⟩, h6⟩, h7⟩ := h
  refine ⟨h1, h2, h3, h4, h5, fun y hy e => ?_, fun y hy e => ?_⟩
  · rcases h6 y hy with (z | z) | z
    · exact absurd e z
    · exact .inl z
    · exact .inr z
  · rcases h7 y hy with (z | z) | z
    · exact absurd e z
    · exact .inl z
    · exact .inr z
theorem GenB.at {X : Cx} {scope : Scope} {x : Str} (G : GenB X.env.scope scope x) (ok : X.Ok) : GenS X.env scope x :=
  ⟨G.kind, G.co, G.cell, G.dot, G.loc, fun y h n1 n2 => (G.own _ (PySem.mem_of_lookup h) rfl).elim n1 n2, fun y hy e => by
    rcases G.vis y hy e with k | k
    · exact ok.has _ (.inl k)
    · exact ok.has _ (.inr k), fun y h => by
    rcases G.vis _ (PySem.mem_of_lookup h) rfl with k | k
    · exact .inr (.inl k)
    · exact .inr (.inr k), fun y h e => by
    have e : X.env.scope.names.lookup y = some .local := e
    rcases G.vis _ (PySem.mem_of_lookup h) rfl with k | k
    · rw [show X.env.scope.names.lookup y = _ from k] at e; cases e
    · rw [show X.env.scope.names.lookup y = _ from k] at e; cases e⟩
/-- the generator g over the items ds, ready to be walked: its elements are bools, told by pb -/
def ReadyB (X : Cx) (TS : List Addr) (pins : List (Addr × Obj)) (σ : L2.St) (F : Hp) (B R : Bx) (ds : List D) (pb : D → Bool) (g : Addr) (s5 : Shared) : Prop :=
  ∃ (fp wr : List Addr) (G : Array GenState → Array GenState → Prop) (Fv : Nat → Value → Prop) (St : Nat → Shared → Prop),
    WalksS X.prog X.w X.A.in1 g fp wr G ds.length Fv St ∧ St 0 s5 ∧ TruthOf X.prog X.w X.A.in1 Fv (fun j => match ds[j]? with | some d => pb d | none => false) ∧
    ∀ s', Moved wr G s5 s' → ∃ H2, RepH X.K TS F H2 B R ∧ Inv X pins σ H2 s'
/-- the generator expression over a list or a tuple is made -/
theorem gen_seq {pins : List (Addr × Obj)} {σ : L2.St} {H : Hp} {s : Shared} {i : Nat} {Q' : Value → Shared → Prop} {F : Hp} {Γ : Gm} {B R : Bx} {q : D → Bx → Prop} {q2 : List D → (D → Bool) → Bx → Prop} {xd : XD}
    (hr : Room k X.A) (TB : TabB X.base X.mg c Pt) (hP : Pt ∈ TS) (hcode : X.env.code = .ref c) (S0 : GenB X.env.scope scope x) (hi : DE X TS W iter te) (hel : RE X.prog X.w X.K X.mg X.base X.N scope elt tr) (hN : X.N[i]? = some x) (hnd : X.N.Nodup) (hdot : ∀ l : Nat, X.N[l]? ≠ some (".0" : Str))
    (hs : ∀ v, genFold iter X.env v = pure v) (I : Inv X pins σ H s) (sl : Slots X.K F σ Γ) (rp : RepH X.K TS F H B R) (h : te Γ B (fun d B1 => q d B1) xd) (hx : XL X.K TS W F R σ xd)
    (hq : ∀ d B1, q d B1 → ∃ ds pb, seqOf B1 d = some ds ∧ (∀ e ∈ ds, tr (setS Γ i e) B1 (fun z => z = .bl (pb e))) ∧ q2 ds pb B1)
    (hQ : ∀ B1 F1 H1 ds pb g s5, q2 ds pb B1 → Same F F1 → RepH X.K TS F1 H1 B1 R → ReadyB X TS pins σ F1 B1 R ds pb g s5 → Q' (.ref g) s5) :
    wpAny (model X.prog X.w) X.A (eval (.GeneratorExp elt [⟨.Name x px, iter, [], 0⟩] scope gpos) X.env) Q' X.xe s := by
  have S := S0.at I.ok
  refine wpAny_GeneratorExp_walksQD hr.hd S.co (closure_ok S.free) S.cell S.dot S.loc S.kind (by have := hr.dp; omega) ?_ hs
  refine thn (hi.run pins s σ H (fun v H1 => ∃ d B1 F1, q d B1 ∧ Same F F1 ∧ RepH X.K TS F1 H1 B1 R ∧ Dv X.K F1 d v) I ⟨F, Γ, B, R, _, xd, sl, rp, h, fun d B1 F1 H1 v h1 e1 rp1 dv1 => ⟨d, B1, F1, h1, e1, rp1, dv1⟩, hx⟩) fun xv s1 hv => ?_
  obtain ⟨v, H1, I1, r1, d, B1, F1, hq1, e1, rp1, dv1⟩ := hv
  obtain ⟨ds, pb, hds, htr, hq2⟩ := hq d B1 hq1
  obtain ⟨a, vs, ev, dvs, hsq⟩ := seq_of rp1 hds dv1
  subst ev
  obtain rfl : xv = Value.ref a := r1
  obtain ⟨ps, hPh, ht⟩ := tab_of rp1 hP
  have hPs : s1.heap.get? Pt = some { cls := .none, data := .fields ps } := I1.hok Pt _ hPh
  have hPlt : Pt < s1.heap.objs.size := Heap.lt_size hPs
  -- the iterator
  have core : ∀ (o : Obj) (its : List Value) (St : Nat → Heap → Prop), o.isFreed = false → Vals vs its → (∀ A' : Around, A'.handled = none → Walks X.prog X.w A' s1.heap.objs.size [s1.heap.objs.size, a] [s1.heap.objs.size] its.toArray.size (fun i v => its.toArray[i]? = some v) St) → St 0 (s1.heap.push o) → a < s1.heap.objs.size →
      (s1.heap.push o).NoLimit ∧ wpAny (model X.prog X.w) X.A (genexprCode X.env gpos (X.env.qual ++ "<genexpr>") scope) (fun code s₃ => wpAny (model X.prog X.w) X.A (builtinsFor X.env.globals X.env.builtins) (fun bi s₄ =>
        ∃ Ia fp wr n₀ Pf St₀ pz Fv, Value.ref s1.heap.objs.size = .ref Ia ∧ (∀ A' : Around, A'.handled = none → Walks X.prog X.w A' Ia fp wr n₀ Pf St₀) ∧ St₀ 0 s₄.heap ∧ (∀ b ∈ fp, b < s₄.heap.objs.size) ∧ s₄.heap.NoLimit ∧ cStatics ∉ wr ∧
          (∀ href : Heap, (∀ b o, s₄.heap.get? b = some o → href.get? b = some o) →
            QuietGenD X.prog X.w (genEnv scope (cloFrom X.env.cells scope.names []) s₄.heap.objs.size code bi X.env) x [] elt (List.range s₄.heap.objs.size) wr Pf pz Fv href (X.A.depth + 1) (X.A.units + 8)) ∧
          (∀ a h₅ tk gs, gs.bare = true → s₄.heap.objs.size < a → h₅.objs.size = a + 1 → (∀ b o, s₄.heap.get? b = some o → h₅.get? b = some o) →
            WalksS X.prog X.w X.A.in4 a (a :: s₄.heap.objs.size :: List.range s₄.heap.objs.size) (s₄.heap.objs.size :: wr) (GenOnlyQ s₄.gens.size) (passing pz n₀ 0).length
              (fun j y => ∃ i, (passing pz n₀ 0)[j]? = some i ∧ Fv i y) (GenAt X.prog X.w X.A.in4 a s₄.gens.size s₄.heap.objs.size (List.range s₄.heap.objs.size) wr pz n₀ Fv) →
            GenAt X.prog X.w X.A.in4 a s₄.gens.size s₄.heap.objs.size (List.range s₄.heap.objs.size) wr pz n₀ Fv 0 { s₄ with gens := s₄.gens.push gs, toks := tk, heap := h₅ } →
            Q' (.ref a) { s₄ with gens := s₄.gens.push gs, toks := tk, heap := h₅ })) X.xe s₃) X.xe { s1 with heap := s1.heap.push o } := by
    intro o its St hof rv W0' hst halt
    have lim2 : (s1.heap.push o).NoLimit := I1.nolimit.push o
    have hP2 : (s1.heap.push o).get? Pt = some { cls := .none, data := .fields ps } := Heap.get?_push_of_some _ hPs
    have cd : PySem.W.CodeHd (s1.heap.push o) c Pt := TB.code.keeps fun b u e => Heap.get?_push_of_some _ (I1.bk b u e)
    have hlen : its.toArray.size = ds.length := by rw [List.size_toArray, ← rv.length, dvs.length]
    have dri : Drs s1.heap ds its := drs_of I1 rp1.le ds dvs rv
    have cont : ∀ (code : Value) (h3 : Heap) (tk : Nat) (ps' : Array Value), Heap.ExtBut Pt (s1.heap.push o) h3 → (s1.heap.push o).objs.size ≤ h3.objs.size → h3.get? Pt = some { cls := .none, data := .fields ps' } → (∃ more, ps' = ps ++ more) → TriplesOk ps'.toList →
        wpAny (model X.prog X.w) X.A (builtinsFor X.env.globals X.env.builtins) (fun bi s₄ =>
          ∃ Ia fp wr n₀ Pf St₀ pz Fv, Value.ref s1.heap.objs.size = .ref Ia ∧ (∀ A' : Around, A'.handled = none → Walks X.prog X.w A' Ia fp wr n₀ Pf St₀) ∧ St₀ 0 s₄.heap ∧ (∀ b ∈ fp, b < s₄.heap.objs.size) ∧ s₄.heap.NoLimit ∧ cStatics ∉ wr ∧
            (∀ href : Heap, (∀ b o, s₄.heap.get? b = some o → href.get? b = some o) →
              QuietGenD X.prog X.w (genEnv scope (cloFrom X.env.cells scope.names []) s₄.heap.objs.size code bi X.env) x [] elt (List.range s₄.heap.objs.size) wr Pf pz Fv href (X.A.depth + 1) (X.A.units + 8)) ∧
            (∀ a h₅ tk gs, gs.bare = true → s₄.heap.objs.size < a → h₅.objs.size = a + 1 → (∀ b o, s₄.heap.get? b = some o → h₅.get? b = some o) →
              WalksS X.prog X.w X.A.in4 a (a :: s₄.heap.objs.size :: List.range s₄.heap.objs.size) (s₄.heap.objs.size :: wr) (GenOnlyQ s₄.gens.size) (passing pz n₀ 0).length
                (fun j y => ∃ i, (passing pz n₀ 0)[j]? = some i ∧ Fv i y) (GenAt X.prog X.w X.A.in4 a s₄.gens.size s₄.heap.objs.size (List.range s₄.heap.objs.size) wr pz n₀ Fv) →
              GenAt X.prog X.w X.A.in4 a s₄.gens.size s₄.heap.objs.size (List.range s₄.heap.objs.size) wr pz n₀ Fv 0 { s₄ with gens := s₄.gens.push gs, toks := tk, heap := h₅ } →
              Q' (.ref a) { s₄ with gens := s₄.gens.push gs, toks := tk, heap := h₅ })) X.xe { s1 with heap := h3, toks := tk } := by
      intro code h3 tk ps' hxb hsz hP3 hmore ht3
      obtain ⟨bm, ob, e1', e2, e3, e4, e5, e6, e7, e8⟩ := TB.bm
      have hcP : cStatics ≠ Pt := fun e => by
        obtain ⟨_, hns, _⟩ := I1.nolimit
        obtain ⟨o', es, ep, ho, hd, _⟩ := hns
        rw [e, hPs] at ho
        cases ho
        cases hd
      have hcl : cStatics < s1.heap.objs.size := let ⟨_, hns, _⟩ := I1.nolimit; hns.lt
      have sz2 : (s1.heap.push o).objs.size = s1.heap.objs.size + 1 := Heap.size_push ..
      have keep3 : ∀ b u, b ≠ Pt → s1.heap.get? b = some u → h3.get? b = some u := fun b u hb e => hxb b u hb (Heap.get?_push_of_some _ e)
      have aP : a ≠ Pt := fun z => by
        rcases hsq with q | q
        · obtain ⟨_, _, ⟨o', n', ho, _, _, hd⟩, _⟩ := I1.list q
          rw [z, hPs] at ho; cases ho; cases hd
        · obtain ⟨_, _, ⟨o', ho, _, n', hd⟩, _⟩ := I1.tuple q
          rw [z, hPs] at ho; cases ho; cases hd
      refine wpAny_builtinsFor (m := X.mg) (by rw [I1.ok.glob]; exact ((I1.mod.glob.keeps I1.bk).push o).extBut hxb TB.gP) e1' e2 (keep3 _ _ e4 (I1.bk _ _ e5)) e6 e7 e8 ?_
      refine ⟨s1.heap.objs.size, [s1.heap.objs.size, a], [s1.heap.objs.size], its.toArray.size, fun i v => its.toArray[i]? = some v, St, (fun _ => true), (fun i y => ∃ e, ds[i]? = some e ∧ y = .bool (pb e)), rfl, W0', ?_, ?_, lim2.extBut hxb hcP, ?_, ?_, ?_⟩
      · refine (W0' X.A hr.hd).frame _ _ _ hst fun b hb u e => hxb b u (fun z => ?_) e
        rcases List.mem_cons.mp hb with z2 | z2
        · exact Nat.ne_of_lt hPlt (z.symm.trans z2)
        · rcases List.mem_cons.mp z2 with z2 | z2
          · exact aP (z2.symm.trans z)
          · cases z2
      · intro b hb
        have h4 : s1.heap.objs.size < h3.objs.size := by omega
        rcases List.mem_cons.mp hb with z | z
        · rw [z]; exact h4
        · rcases List.mem_cons.mp z with z | z
          · rw [z]; exact Nat.lt_trans halt h4
          · cases z
      · intro z
        rcases List.mem_cons.mp z with z | z
        · exact Nat.ne_of_lt hcl z
        · cases z
      · intro href hhref
        refine ⟨fun A' E' j v s₂ m₂ hA _ _ hPv hn hm hk => ?_, fun A' E' j v s₂ m₂ hA hdp hun hPv hp hn hm hk => ?_⟩
        · simp only [List.forIn_nil]
          exact wpAny_pure ⟨rfl, keeps_refl _⟩
        · have hPv' : its[j]? = some v := by simpa using hPv
          obtain ⟨e, he, hde⟩ := dri.get hPv'
          have sz3 : s1.heap.objs.size < h3.objs.size := by omega
          -- what stood at the making stands
          have kp2 : ∀ b u, b ≠ Pt → s1.heap.get? b = some u → s₂.heap.get? b = some u := fun b u hb e => by
            have hl := Heap.lt_size e
            refine hk b (List.mem_range.mpr (Nat.lt_trans hl sz3)) (fun z => ?_) u (hhref b u (keep3 b u hb e))
            rcases List.mem_cons.mp z with z | z
            · rw [z] at hl; exact Nat.lt_irrefl _ hl
            · cases z
          have hP4 : s₂.heap.get? Pt = some { cls := .none, data := .fields ps' } := by
            refine hk Pt (List.mem_range.mpr (Nat.lt_trans hPlt sz3)) (fun z => ?_) _ (hhref Pt _ hP3)
            rcases List.mem_cons.mp z with z | z
            · rw [z] at hPlt; exact Nat.lt_irrefl _ hPlt
            · cases z
          obtain ⟨more, em⟩ := hmore
          -- the state as the def's own, over s₂'s heap
          have J := GxR.inv_tab (more := more) (h' := s₂.heap) (g' := s1.gens) (d' := s1.drawn) (t' := s1.toks) I1 hPh (fun b u hb e => kp2 b u hb e) (by rw [← em]; exact hP4) I1.bare
          have rpJ : RepH X.K TS F1 (upd H1 Pt (.tbl (ps ++ more))) B1 R := same_but rp1 hP upd_same (by rw [← em]; exact ht3) fun b hb => upd_ne hb
          have slJ : Slots X.K F1 σ Γ := sl.mono e1
          have dJ : Dr s₂.heap e v := by
            have q := drs_of J rpJ.le ds dvs rv
            obtain ⟨e', he', hde'⟩ := q.get hPv'
            rw [he] at he'; cases he'
            exact hde'
          have RI : RInv X.prog X.w X.K X.mg X.base X.N scope (genEnv scope (cloFrom X.env.cells scope.names []) h3.objs.size code builtinsNs X.env) (setS Γ i e) B1 s₂ m₂ := by
            refine ⟨rfl, S.kind, I1.ok.glob, rfl, I1.mod, J.bk, hn, fun l y z h1 h2 h3' => ?_, boxR_of (s := { heap := s₂.heap, gens := s1.gens, drawn := s1.drawn, toks := s1.toks, os := s1.os }) rfl rfl J rpJ⟩
            rw [setS_eq] at h2
            rcases h3' with h3' | h3'
            · -- a local name: the target alone
              by_cases hli : l = i
              · subst hli
                rw [hN] at h1; cases h1
                have hlt : l < Γ.length := by
                  by_cases hlt : l < Γ.length
                  · exact hlt
                  · rw [List.getElem?_eq_none (by rw [List.length_set]; omega)] at h2; cases h2
                rw [List.getElem?_set_self hlt] at h2
                cases h2
                exact ⟨v, dJ, .inl ⟨h3', hm⟩⟩
              · exact (S.own y h3' (fun z => hli (nodup_ix hnd h1 (z ▸ hN))) (fun z => hdot l (z ▸ h1))).elim
            · -- a captured one
              have hli : l ≠ i := fun z => by
                subst z
                rw [hN] at h1; cases h1
                rw [S.loc] at h3'; cases h3'
              rw [List.getElem?_set_ne (Ne.symm hli)] at h2
              obtain ⟨vv, h4, h5⟩ := slJ.at_ l z h2
              obtain ⟨m', hn', hl'⟩ := J.loc
              have hmem : (y, NameKind.free) ∈ scope.names := PySem.mem_of_lookup h3'
              obtain ⟨cc, hcc⟩ := S.free _ hmem rfl
              have hvis : Vis X.env.scope y := S.vis y h3'
              obtain ⟨u, h6, h7⟩ := hl' l y vv h1 h4 hvis
              refine ⟨u, dr_of J rpJ.le z h5 h6, .inr ⟨h3', cc, ?_, ?_⟩⟩
              · show (cloFrom X.env.cells scope.names []).lookup y = some cc
                obtain ⟨c', e'⟩ := mem_lookup (cloFrom_has (cells := X.env.cells) (acc := []) hmem)
                rcases cloFrom_mem (PySem.mem_of_lookup e') with hm' | ⟨_, h9⟩
                · cases hm'
                · rw [e', h9, hcc]; rfl
              · rcases h7 with ⟨h8, _⟩ | ⟨_, c2, h8, h9⟩
                · exact (S.notloc y h3' h8).elim
                · rw [hcc] at h8; cases h8
                  exact h9
          have hu' : A'.units + 64 < cLine := by have := hr.un; omega
          refine wpAny_mono (hel.run A' E' _ (setS Γ i e) B1 s₂ m₂ _ hA hu' RI (htr e (List.mem_of_getElem? he))) (fun y s3 r => ?_) fun _ _ e => e
          obtain ⟨⟨z, hz, ez⟩, kk⟩ := r
          subst ez
          exact ⟨⟨e, he, hz⟩, kk⟩
      · intro g h5 tk5 gs hgb hag hsz5 hk5 W5 hat
        simp only [GxR.passing_true, List.length_range] at W5
        rw [hlen] at W5 hat
        refine hQ B1 F1 H1 ds pb g _ hq2 e1 rp1 ⟨_, _, _, _, _, W5.in4_1, hat, ?_, fun s' hm => ?_⟩
        · intro j y sj Qj Ej hy hQj
          obtain ⟨i', hij, e, he, rfl⟩ := hy
          obtain ⟨hj, ej⟩ := List.getElem?_eq_some_iff.mp hij
          rw [List.getElem_range] at ej
          subst ej
          have hQ2 : Qj (pb e) sj := by
            have z := hQj
            simp only [he] at z
            exact z
          exact wpAny_truthy_bool hQ2
        · obtain ⟨more, em⟩ := hmore
          have nwr : ∀ b u, s1.heap.get? b = some u → b ∉ h3.objs.size :: [s1.heap.objs.size] := fun b u e hb => by
            have hl := Heap.lt_size e
            rcases List.mem_cons.mp hb with z | z
            · rw [z] at hl
              have h9 : (h3.objs.size : Nat) < s1.heap.objs.size := hl
              omega
            · rcases List.mem_cons.mp z with z | z
              · rw [z] at hl
                exact Nat.lt_irrefl _ hl
              · cases z
          have J := GxR.inv_tab (more := more) (h' := s'.heap) (g' := s'.gens) (d' := s'.drawn) (t' := s'.toks) I1 hPh (fun b u hb e => hm.heap b u (nwr b u e) (hk5 b u (keep3 b u hb e)))
            (by rw [← em]; exact hm.heap Pt _ (nwr Pt _ hPs) (hk5 Pt _ hP3)) (AllBare.movedS (I1.bare.push hgb) hm)
          rw [GxR.sh_eta s1 s' hm.os] at J
          exact ⟨_, same_but rp1 hP upd_same (by rw [← em]; exact ht3) fun b hb => upd_ne hb, J⟩
    refine ⟨lim2, ?_⟩
    cases hf : codeAmong gpos ps.toList with
    | none =>
      refine wpAny_genexprCodeX hcode (cd.code hP2 ht) (cd.tab hP2) hf fun c' h' tk hx hge hlt hco' _ htab' _ => ?_
      obtain ⟨o1, vs, f1, tf, fl, tg, inF, tx, tt, op, _, _, _, _, _, _, _, _, _, htr, _⟩ := hco'
      exact cont _ h' tk _ hx (Nat.le_trans hge (Nat.le_of_lt hlt)) htab'.2 ⟨_, rfl⟩ htr
    | some cv =>
      refine wpAny_genexprCode_hit hcode (cd.code hP2 ht) hf ?_
      exact cont cv (s1.heap.push o) s1.toks ps (Heap.ExtBut.refl _ _) (Nat.le_refl _) hP2 ⟨#[], by simp⟩ ht
  rcases hsq with hsq | hsq
  · obtain ⟨its, rv, pl, _⟩ := I1.list hsq
    have halt : a < s1.heap.objs.size := by obtain ⟨o', _, ho, _⟩ := pl; exact Heap.lt_size ho
    refine wpAny_pyIter_list pl.isList ?_
    exact core _ its _ rfl rv (fun A' hA => Walks.list hA s1.heap.objs.size a (Nat.ne_of_lt halt) its.toArray) ⟨⟨_, Heap.get?_push_size _ rfl, rfl, rfl⟩, pl.isList.push _⟩ halt
  · obtain ⟨its, rv, pl, _⟩ := I1.tuple hsq
    have halt : a < s1.heap.objs.size := by obtain ⟨o', ho, _⟩ := pl; exact Heap.lt_size ho
    refine wpAny_pyIter_tuple (show s1.heap.IsTuple a its.toArray from pl) ?_
    exact core _ its _ rfl rv (fun A' hA => Walks.tuple hA s1.heap.objs.size a (Nat.ne_of_lt halt) its.toArray) ⟨⟨_, Heap.get?_push_size _ rfl, rfl, rfl⟩, (show s1.heap.IsTuple a its.toArray from pl).push _⟩ halt

/-- any(elt for x in iter), all(..): the items are tried by pb -/
def dQuant (all : Bool) (i : Nat) (te : DTE) (tr : RTE) : DTE := fun Γ B q x => te Γ B (fun d B1 => ∃ (ds : List D) (pb : D → Bool), seqOf B1 d = some ds ∧ (∀ e ∈ ds, tr (setS Γ i e) B1 (fun z => z = .bl (pb e))) ∧ q (.bl (if all then ds.all pb else ds.any pb)) B1) x
theorem any_at (pb : D → Bool) (ds : List D) : (List.range ds.length).any (fun j => match ds[j]? with | some d => pb d | none => false) = ds.any pb := by
  rw [Bool.eq_iff_iff, List.any_eq_true, List.any_eq_true]
  constructor
  · rintro ⟨j, hj, h⟩
    have hj' := List.mem_range.mp hj
    simp only [List.getElem?_eq_getElem hj'] at h
    exact ⟨ds[j], List.getElem_mem hj', h⟩
  · rintro ⟨b, hb, h⟩
    obtain ⟨j, hj, e⟩ := List.getElem_of_mem hb
    refine ⟨j, List.mem_range.mpr hj, ?_⟩
    simp only [List.getElem?_eq_getElem hj, e]
    exact h
theorem all_at (pb : D → Bool) (ds : List D) : (List.range ds.length).all (fun j => match ds[j]? with | some d => pb d | none => false) = ds.all pb := by
  rw [Bool.eq_iff_iff, List.all_eq_true, List.all_eq_true]
  constructor
  · intro h b hb
    obtain ⟨j, hj, e⟩ := List.getElem_of_mem hb
    have q := h j (List.mem_range.mpr hj)
    simp only [List.getElem?_eq_getElem hj, e] at q
    exact q
  · intro h j hj
    have hj' := List.mem_range.mp hj
    simp only [List.getElem?_eq_getElem hj']
    exact h _ (List.getElem_mem hj')
variable {p : Pos}
theorem de_any (i : Nat) (hr : Room k X.A) (hm : X.mg "any" = none) (TB : TabB X.base X.mg c Pt) (hP : Pt ∈ TS) (S : GenB X.env.scope scope x) (hi : DE X TS W iter te) (hel : RE X.prog X.w X.K X.mg X.base X.N scope elt tr) (hnd : X.N.Nodup) (hdot : ∀ l : Nat, X.N[l]? ≠ some (".0" : Str))
    (hcode : X.env.code = .ref c := by rfl) (hN : X.N[i]? = some x := by rfl) (hg : Gl X "any" := by rfl) (hs : ∀ v, genFold iter X.env v = pure v := by intro _; rfl)
    (he : starEach [.GeneratorExp elt [⟨.Name x px, iter, [], 0⟩] scope gpos] X.env = (false, eval (.GeneratorExp elt [⟨.Name x px, iter, [], 0⟩] scope gpos) X.env) :: starEach [] X.env := by rfl) :
    DE X TS W (.Call (.Name "any" p) [.GeneratorExp elt [⟨.Name x px, iter, [], 0⟩] scope gpos] [] pos) (dQuant false i te tr) := by
  refine ⟨fun pins s σ H Q I ⟨F, Γ, B, R, q, xd, sl, rp, h, hq, hx⟩ => ?_⟩
  refine wpAny_Call_Name_kw (ld_blt I hg hm boot_any ?_)
  refine PyProof.Rows.callWith_builtin1 ?_ he (by rfl)
  rw [he]
  show wpAny _ _ (spliced ((false, eval (.GeneratorExp elt [⟨.Name x px, iter, [], 0⟩] scope gpos) X.env) :: backTo pos (starEach [] X.env))) _ _ s
  refine Calls.spliced_cons (gen_seq (q2 := fun ds pb B1 => q (.bl (ds.any pb)) B1) hr TB hP hcode S hi hel hN hnd hdot hs I sl rp h hx (fun d B1 ⟨ds, pb, h1, h2, h3⟩ => ⟨ds, pb, h1, h2, h3⟩) fun B1 F1 H1 ds pb g s5 hq2 e1 rp1 hG => ?_)
  obtain ⟨fp, wr, G, Fv, St, Wk, hst, htr, hI⟩ := hG
  refine Calls.spliced_nil ?_
  refine call_any_walkS (Wk.self 0 _ _ _ hst ⟨g, fp, wr, G, _, Fv, St, _, rfl, Wk, hst, htr, fun s' hmv => ?_⟩)
  obtain ⟨H2, rp2, J⟩ := hI s' hmv
  rw [any_at]
  exact ⟨.bl _, H2, J, rfl, hq _ B1 F1 H2 _ hq2 e1 rp2 rfl⟩
theorem de_all (i : Nat) (hr : Room k X.A) (hm : X.mg "all" = none) (TB : TabB X.base X.mg c Pt) (hP : Pt ∈ TS) (S : GenB X.env.scope scope x) (hi : DE X TS W iter te) (hel : RE X.prog X.w X.K X.mg X.base X.N scope elt tr) (hnd : X.N.Nodup) (hdot : ∀ l : Nat, X.N[l]? ≠ some (".0" : Str))
    (hcode : X.env.code = .ref c := by rfl) (hN : X.N[i]? = some x := by rfl) (hg : Gl X "all" := by rfl) (hv : bootBuiltins "all" = some (.builtin "all") := by decide +kernel) (hs : ∀ v, genFold iter X.env v = pure v := by intro _; rfl)
    (he : starEach [.GeneratorExp elt [⟨.Name x px, iter, [], 0⟩] scope gpos] X.env = (false, eval (.GeneratorExp elt [⟨.Name x px, iter, [], 0⟩] scope gpos) X.env) :: starEach [] X.env := by rfl) :
    DE X TS W (.Call (.Name "all" p) [.GeneratorExp elt [⟨.Name x px, iter, [], 0⟩] scope gpos] [] pos) (dQuant true i te tr) := by
  refine ⟨fun pins s σ H Q I ⟨F, Γ, B, R, q, xd, sl, rp, h, hq, hx⟩ => ?_⟩
  refine wpAny_Call_Name_kw (ld_blt I hg hm hv ?_)
  refine PyProof.Rows.callWith_builtin1 ?_ he (by rfl)
  rw [he]
  show wpAny _ _ (spliced ((false, eval (.GeneratorExp elt [⟨.Name x px, iter, [], 0⟩] scope gpos) X.env) :: backTo pos (starEach [] X.env))) _ _ s
  refine Calls.spliced_cons (gen_seq (q2 := fun ds pb B1 => q (.bl (ds.all pb)) B1) hr TB hP hcode S hi hel hN hnd hdot hs I sl rp h hx (fun d B1 ⟨ds, pb, h1, h2, h3⟩ => ⟨ds, pb, h1, h2, h3⟩) fun B1 F1 H1 ds pb g s5 hq2 e1 rp1 hG => ?_)
  obtain ⟨fp, wr, G, Fv, St, Wk, hst, htr, hI⟩ := hG
  refine Calls.spliced_nil ?_
  refine call_all_walkS (Wk.self 0 _ _ _ hst ⟨g, fp, wr, G, _, Fv, St, _, rfl, Wk, hst, htr, fun s' hmv => ?_⟩)
  obtain ⟨H2, rp2, J⟩ := hI s' hmv
  rw [all_at]
  exact ⟨.bl _, H2, J, rfl, hq _ B1 F1 H2 _ hq2 e1 rp2 rfl⟩
end
end DL
set_option Elab.async false
set_option linter.all false
set_option maxRecDepth 100000
set_option maxHeartbeats 2000000
/-! DL8: walks over lists or tuples, a module's numbers, defs by the head's facts, sorted, t[::2]. -/
namespace DL
open PySem PySem.Spec PyProof.Rows L2

section
variable {X : Cx} {TS : List Addr} {W : WX} {pos p apos : Pos} {e o tg : Expr} {es : List Expr} {tl : DTA} {te to : DTE} {x : Str}
/-! ### for x in (a list or a tuple) -/
def iSeq (K : PySem.W.Frag) (tl : TE) : TI := fun σ H R => tl σ H fun x H1 => ∃ a, x = .ref a ∧ ((∃ xs, SqL K H1 a xs ∧ R (Itl K a) H1) ∨ ∃ xs, SqT K H1 a xs ∧ R (Itt K a) H1)
theorem pi_seq {l : Expr} {tl : TE} (hl : PE X l tl) : PI X tg l (iSeq X.K tl) := by
  refine ⟨fun pins s σ H R I h => ?_⟩
  refine thn (hl.run pins s σ H _ I h) fun v s1 ⟨x, H1, I1, r1, q1⟩ => ?_
  obtain ⟨a, e, q⟩ := q1
  subst e
  cases r1
  rcases q with ⟨xs, hq, q⟩ | ⟨xs, hq, q⟩
  · obtain ⟨its, rv, p, hz⟩ := I1.list hq
    refine wpAny_pyIter_list p.isList ?_
    refine ⟨s1.heap.objs.size, [s1.heap.objs.size], _, _, H1, rfl, I1.kept (t' := s1.toks) fun b o e => Heap.get?_push_of_some _ e, turn_list a _, ⟨_, Heap.get?_push_size _ rfl, rfl, rfl⟩, fun b hb => ?_, q⟩
    have e : b = s1.heap.objs.size := by simpa using hb
    subst e
    exact I1.fpOk (Nat.le_refl _) (I1.hok.fresh (Nat.le_refl _))
  · obtain ⟨its, rv, p, hz⟩ := I1.tuple hq
    refine wpAny_pyIter_tuple (show s1.heap.IsTuple a its.toArray from p) ?_
    refine ⟨s1.heap.objs.size, [s1.heap.objs.size], _, _, H1, rfl, I1.kept (t' := s1.toks) fun b o e => Heap.get?_push_of_some _ e, turn_tuple a _, ⟨_, Heap.get?_push_size _ rfl, rfl, rfl⟩, fun b hb => ?_, q⟩
    have e : b = s1.heap.objs.size := by simpa using hb
    subst e
    exact I1.fpOk (Nat.le_refl _) (I1.hok.fresh (Nat.le_refl _))
def iSq (d : D) (B1 : Bx) (q : List D → Gd → Bx → Prop) : Prop := match d with
  | .tup xs => q xs none B1
  | .rot xs => q xs none B1
  | d => ∃ xs, lstOf B1 d = some xs ∧ q xs (lstGd d xs) B1
def dISeq (te : DTE) : DTI := fun Γ B q x => te Γ B (fun d B1 => iSq d B1 q) x
theorem di_seq (he : DE X TS W e te) : DI X TS W tg e (dISeq te) := PI_imp (pi_seq he) fun σ H R0 ⟨F, Γ, B, R, q, x, s, rp, hu, hq, hx⟩ => by
  refine ⟨F, Γ, B, R, _, x, s, rp, hu, fun d B1 F1 H1 v h1 e1 rp1 dv1 => ?_, hx⟩
  have tupCase : ∀ {xs : List D}, tupOf d = some xs → q xs none B1 → ∃ a, v = .ref a ∧ ((∃ xs, SqL X.K H1 a xs ∧ R0 (Itl X.K a) H1) ∨ ∃ xs, SqT X.K H1 a xs ∧ R0 (Itt X.K a) H1) := fun {xs} h2 h1 => by
    obtain ⟨a, vs, ev, h3, h4⟩ := tup_of rp1 h2 dv1
    refine ⟨a, ev, .inr ⟨vs, h4, hq _ _ B1 F1 H1 _ h1 e1 rp1 ⟨_, _, walk_tupD (n := xs.length), fun F2 H2 B2 R2 e2 rp2 hg => ?_, fun i Ha u Hb F2 B2 R2 e2 rp2 hg hy => ?_⟩⟩⟩
    · obtain ⟨ws, h5, h6⟩ := tup_stays h2 dv1 ev e2 rp2
      exact ⟨ws, h5, h6.length⟩
    · obtain ⟨rfl, hi, hy⟩ := hy
      obtain ⟨ws, h5, h6⟩ := tup_stays h2 dv1 ev e2 rp2
      obtain ⟨d2, h7, h8⟩ := h6.getV (hy ws h5)
      exact ⟨F2, d2, Same.refl _, rp2, h7, h8⟩
  dsimp only [iSq] at h1
  split at h1
  · exact tupCase rfl h1
  · exact tupCase rfl h1
  · obtain ⟨xs, h2, h1⟩ := h1
    obtain ⟨a, vs, ev, h3, h4⟩ := lst_of rp1 h2 dv1
    refine ⟨a, ev, .inl ⟨vs, h4, hq _ _ B1 F1 H1 _ h1 e1 rp1 ⟨_, _, walk_listD (n := xs.length), fun F2 H2 B2 R2 e2 rp2 hg => ?_, fun i Ha u Hb F2 B2 R2 e2 rp2 hg hy => ?_⟩⟩⟩
    · obtain ⟨ws, h5, h6⟩ := lst_stays h2 dv1 ev e2 rp2 hg
      exact ⟨ws, h5, h6.length⟩
    · obtain ⟨rfl, hi, hy⟩ := hy
      obtain ⟨ws, h5, h6⟩ := lst_stays h2 dv1 ev e2 rp2 hg
      obtain ⟨d2, h7, h8⟩ := h6.getV (hy ws h5)
      exact ⟨F2, d2, Same.refl _, rp2, h7, h8⟩
/-- a module's whole number -/
theorem de_gint {i : Int} (hm : ∃ t, X.mg x = some (.int i t)) (hg : Gl X x := by rfl) (hdb : (x == ("__debug__" : Str)) = false := by decide) : DE X TS W (.Name x pos) (dC (.int i)) := by
  obtain ⟨t, h⟩ := hm
  exact de_glob (v := .int i) hg h ⟨t, rfl⟩ (fun _ => rfl) hdb

/-! ### sorted(whole numbers) -/
def insI (n : Int) : List Int → List Int
  | [] => [n]
  | m :: r => if n ≤ m then n :: m :: r else m :: insI n r
def sortI : List Int → List Int
  | [] => []
  | n :: r => insI n (sortI r)
theorem insI_perm (n : Int) : ∀ l : List Int, (insI n l).Perm (n :: l)
  | [] => .refl _
  | m :: r => by
    unfold insI
    split
    · exact .refl _
    · exact ((insI_perm n r).cons m).trans (.swap n m r)
theorem sortI_perm : ∀ l : List Int, (sortI l).Perm l
  | [] => .refl _
  | n :: r => (insI_perm n _).trans ((sortI_perm r).cons n)
theorem insI_sorted (n : Int) : ∀ {l : List Int}, l.Pairwise (· ≤ ·) → (insI n l).Pairwise (· ≤ ·)
  | [], _ => List.pairwise_singleton _ _
  | m :: r, h => by
    unfold insI
    obtain ⟨h1, h2⟩ := List.pairwise_cons.mp h
    split
    · rename_i hn
      exact List.pairwise_cons.mpr ⟨fun a ha => (List.mem_cons.mp ha).elim (fun e => e ▸ hn) fun q => Int.le_trans hn (h1 a q), h⟩
    · rename_i hn
      refine List.pairwise_cons.mpr ⟨fun a ha => ?_, insI_sorted n h2⟩
      rcases List.mem_cons.mp ((insI_perm n r).mem_iff.mp ha) with e | q
      · rw [e]; omega
      · exact h1 a q
theorem sortI_sorted : ∀ l : List Int, (sortI l).Pairwise (· ≤ ·)
  | [] => .nil
  | n :: r => insI_sorted n (sortI_sorted r)
theorem sorted_eq {l m : List Int} (h : l.Perm m) (a : l.Pairwise (· ≤ ·)) : l = sortI m :=
  (h.trans (sortI_perm m).symm).eq_of_pairwise (le := (· ≤ ·)) (fun _ _ _ _ h1 h2 => Int.le_antisymm h1 h2) a (sortI_sorted m)
def gSorted : GA := fun ds B q => match ds with
  | [d] => ∃ ns : List Int, lstOf B d = some (ns.map .int) ∧ q (.lst ((sortI ns).map .int)) B
  | _ => False
theorem bd_sorted : BltD X TS (.builtin "sorted") gSorted := ⟨_, cr_sortedI, fun F H B R ds vs q Q rp dv h hq => by
  unfold gSorted at h
  split at h
  · obtain ⟨v, e, h1⟩ := dv.one
    subst e
    obtain ⟨ns, hb, h⟩ := h
    obtain ⟨a, vs, rfl, h2, h3⟩ := lst_of rp hb h1
    rw [h2.ints] at h3
    exact ⟨a, ns, rfl, h3, fun ns' p hp hs hH => by
      rw [sorted_eq hp hs]
      exact new_lst rp hq h (Dvs.ofInts _) hH⟩
  · exact h.elim⟩
end
end DL
set_option Elab.async false
set_option linter.all false
set_option maxRecDepth 100000
set_option maxHeartbeats 2000000
/-! DL9: the head's facts in one bundle; defs by them; calls of them. -/
namespace DL
open PySem PySem.Spec PyProof.Rows L2

/-- where the tables stand -/
def tsOf (tf : List He.Defn) (K : PySem.W.Frag) : List Addr := tf.map fun p => (He.cT K p).2
/-- what is known of the module -/
structure Mo (fa : List He.Fa) (fn : List He.DefD) (tf tl : List He.Defn) (K : PySem.W.Frag) (mg : Str → Option Value) (base : Heap) : Prop where
  c : He.SaysD fa fn K
  X : K.In base
  G : base.Ns mainGlobals mg
  T : ∀ p ∈ tf, LamX.TabB base mg (He.cT K p).1 (He.cT K p).2
  /-- the tables of the defs with lambdas -/
  L : ∀ p ∈ tl, LamX.TabB base mg (He.cT K p).1 (He.cT K p).2
section
variable {fa : List He.Fa} {fn : List He.DefD} {tf tl : List He.Defn} {P : Program} {w : World} {K : PySem.W.Frag} {mg : Str → Option Value} {base : Heap}
theorem Mo.fr (E : Mo fa fn tf tl K mg base) (x : Str) (h : He.Fa.free x ∈ fa) : mg x = none := He.free_ok E.X E.G (E.c.facts h)
theorem Mo.int (E : Mo fa fn tf tl K mg base) (x : Str) (i : Int) (h : He.Fa.int x i ∈ fa) : ∃ t, mg x = some (.int i t) := He.int_ok E.X E.G (E.c.facts h)
theorem Mo.tab (E : Mo fa fn tf tl K mg base) {p : He.Defn} (h : p ∈ tf) : LamX.TabB base mg (He.codeOf K p) (He.tabOf K (He.codeOf K p)) := E.T p h
theorem Mo.mem {p : He.Defn} (h : p ∈ tf) : He.tabOf K (He.codeOf K p) ∈ tsOf tf K := List.mem_map.mpr ⟨p, h, rfl⟩
/-- an own error class -/
theorem Mo.exc (E : Mo fa fn tf tl K mg base) {X : Cx} (x : Str) (h : He.Fa.exc x ∈ fa) (h2 : He.Fa.glo x ∈ fa) (eK : X.K = K := by rfl) (em : X.mg = mg := by rfl) : ExcC X x (He.ga K x) := by
  obtain ⟨a, b, c, d⟩ := He.exc_ok (E.c.facts h)
  subst eK em
  exact ⟨a, He.glo_ok E.X E.G (E.c.facts h2), b, c, d⟩

/-- a def that keeps its promise, under its name -/
structure FnA (P : Program) (w : World) (K : PySem.W.Frag) (mg : Str → Option Value) (base : Heap) (TS : List Addr) (x : Str) (ps : List Str) (k : Nat) (sp : SpD) : Prop where
  ok : ∃ (f : Addr) (fd : FuncData), FnD P w K mg base TS k f fd ps sp ∧ mg x = some (.ref f) ∧ PySem.W.keepIn K (.ref f) = true ∧ Binds K fd ps []
theorem FnA.imp {TS : List Addr} {x : Str} {ps : List Str} {k : Nat} {sp sp' : SpD} (G : FnA P w K mg base TS x ps k sp) (h : ∀ ds B q x, sp' ds B q x → sp ds B q x) : FnA P w K mg base TS x ps k sp' := by
  obtain ⟨f, fd, h1, h2⟩ := G.ok
  exact ⟨f, fd, h1.imp h, h2⟩
/-- the body's surroundings -/
abbrev bodyX (P : Program) (w : World) (K : PySem.W.Frag) (mg : Str → Option Value) (base : Heap) (N : List Str) (qual : Str) (scope : Scope) (f c : Addr) (A : Around) (outer : List Env) (s : Shared) (H : Hp) (E : XK) : Cx :=
  cxOf (L2.CX P w) P w K mg base N qual scope f (.ref c) A outer s H E
/-- what is known within a def's body -/
structure InBody (X : Cx) (W : WX) (k : Nat) : Prop where
  room : Room k X.A
  tk : Takes X W
  po : PassesOwn (model X.prog X.w) X.A X.env X.xe
/-- THE RULE for a def of the module, without defaults -/
theorem okA (E : Mo fa fn tf tl K mg base) {d : He.DefD} {x : Str} {N ps : List Str} {k : Nat} {sp : SpD} (hd : d ∈ fn) (hat : d.at_ = (x, none)) (hdf : d.dfl = []) (hg : He.Fa.glo x ∈ fa) (S : FnScope N ps d.scope)
    (hbn : ∀ (kV doc pm : Value) (an : Option Addr) (cdv ct : Value) (us : List Value), us.length = ps.length → bindArgs (PySem.W.fnOf d.name d.qual d.params d.body d.scope .none kV doc pm an cdv ct) ⟨us, []⟩ = pure (ps.zip us))
    (len : ∀ ds B q x, sp ds B q x → ds.length = ps.length)
    (hbody : ∀ (f : Addr) (A : Around) (outer : List Env) (s : Shared) (H : Hp) (Ex : XK), InBody (bodyX P w K mg base N d.qual d.scope f (He.codeOf K (x, none)) A outer s H Ex) (wE Ex) k →
      ∃ t, DSs (bodyX P w K mg base N d.qual d.scope f (He.codeOf K (x, none)) A outer s H Ex) (tsOf tf K) (wE Ex) d.body t ∧
        ∀ ds B q x, sp ds B q x → t { nx := fun _ B' => ∃ B'', Few B'' B' ∧ q .non B'', rt := fun d B' => ∃ B'', Few B'' B' ∧ q d B'', ex := fun _ C B' => ∃ B'', Few B'' B' ∧ x C B'' } (startD N ds) B) :
    FnA P w K mg base (tsOf tf K) x ps (k + 1) sp := by
  obtain ⟨fd, F⟩ := E.c.defs hd
  have hD : d.dvs K = [] := by unfold He.DefD.dvs; rw [hdf]; rfl
  rw [hD] at F
  have eA : He.fAd K d.at_ = He.ga K x := by rw [hat]; rfl
  refine ⟨He.fAd K d.at_, fd, ?_, by rw [eA]; exact He.glo_ok E.X E.G (E.c.facts hg), F.kp, F.bindsN hbn⟩
  obtain ⟨oc, od, dV, kV, doc, pm, an, cdv, ct, osl, rfl, lk, hcd, _, _⟩ := F.ex
  obtain ⟨c, ec⟩ := He.codeIn_ref hcd
  subst ec
  have e1 : He.codeOf K (x, none) = c := by
    rw [← hat]
    exact He.codeOf_eq lk rfl
  subst e1
  have hpl : ps.length ≤ N.length := by have := congrArg List.length S.pre; rw [List.length_take] at this; omega
  refine fn_of lk hcd S (fun vs H Q E ⟨F, ds, B, R, q, x, h1, h2, h3, h4, h5⟩ => by rw [h1.length]; exact len ds B q x h3) fun A outer s H vs Q Ex hr hsp => ?_
  obtain ⟨F', ds, B, R, q, xx, h1, h2, h3, h4, h5⟩ := hsp
  obtain ⟨t, ht, hq⟩ := hbody _ A outer s H Ex ⟨hr, takes_of rfl rfl rfl rfl, passes_of rfl⟩
  refine ⟨_, ht, F', startD N ds, B, R, _, slots_start h1 (by rw [h1.length, len ds B q xx h3]; exact hpl), h2, hq ds B q xx h3, ?_⟩
  refine ⟨fun Γ' B' F' σ' H' hn e s' rp => ?_, fun d B' F' H' v hn e rp dv => ?_, fun _ _ _ _ _ z => z.elim, fun _ _ _ _ _ z => z.elim, fun σ' Γ' F' e s' C B' F2 H2 hn e2 rp => ?_⟩
  · obtain ⟨B'', hf, hn⟩ := hn
    exact h4 _ _ _ _ _ hn e (rp.few hf) rfl
  · obtain ⟨B'', hf, hn⟩ := hn
    exact h4 _ _ _ _ _ hn e (rp.few hf) dv
  · obtain ⟨B'', hf, hn⟩ := hn
    exact h5 _ _ _ _ hn (e.trans e2) (rp.few hf)
end
section
variable {X : Cx} {TS : List Addr} {W : WX} {pos p apos : Pos} {e : Expr} {es : List Expr} {tl : DTA} {k : Nat} {ps : List Str} {sp : SpD} {x : Str}
theorem de_callA (G : FnA X.prog X.w X.K X.mg X.base TS x ps k sp) (hr : Room k X.A) (tk : Takes X W) (ha : DA X TS W (e :: es) tl) (hg : Gl X x := by rfl) (hdb : (x == ("__debug__" : Str)) = false := by decide)
    (he : starEach (e :: es) X.env = (false, eval e X.env) :: starEach es X.env := by rfl) (hpl : (backTo pos (starEach es X.env)).any (·.1) = false := by rfl) :
    DE X TS W (.Call (.Name x p) (e :: es) [] pos) (dCall sp tl) :=
  let ⟨_, _, h1, h2, h3, h4⟩ := G.ok; de_call h1 hr hg h2 h3 h4 tk ha hdb he hpl
theorem de_callA0 (G : FnA X.prog X.w X.K X.mg X.base TS x ps k sp) (hr : Room k X.A) (tk : Takes X W) (hg : Gl X x := by rfl) (hdb : (x == ("__debug__" : Str)) = false := by decide) :
    DE X TS W (.Call (.Name x p) [] [] pos) (dCall sp dNil) :=
  let ⟨_, _, h1, h2, h3, h4⟩ := G.ok; de_call0 h1 hr hg h2 h3 h4 tk hdb
end
end DL
set_option Elab.async false
set_option linter.all false
set_option maxRecDepth 100000
set_option maxHeartbeats 2000000
/-! DL10: short names for printed terms; answers. -/
namespace DL
open PySem PySem.Spec PyProof.Rows L2
abbrev gSub : G2 := gI fun i j => .int (i - j)
abbrev gDiv : G2 := gIC CDiv fun i j => .int (i / j)
abbrev gMod : G2 := gIC (fun _ j => 0 < j) fun i j => .int (i % j)
abbrev gPow : G2 := gIC CPow fun i j => .int (i ^ j.toNat)
abbrev gShl : G2 := gIC CPow fun i j => .int (i * 2 ^ j.toNat)
abbrev gXor : G2 := gI fun i j => .int (Builtin.bitXor i j)
abbrev gAddI : G2 := gI fun i j => .int (i + j)
abbrev gLt : G2 := gI fun i j => .bl (decide (i < j))
abbrev gLe : G2 := gI fun i j => .bl (decide (i ≤ j))
abbrev gGt : G2 := gI fun i j => .bl (decide (j < i))
abbrev gGe : G2 := gI fun i j => .bl (decide (j ≤ i))
abbrev gNegU : G1 := gU fun i => .int (-i)
abbrev hLt : H2 := DL.rI fun i j => decide (i < j)
abbrev hLe : H2 := DL.rI fun i j => decide (i ≤ j)
abbrev hGt : H2 := DL.rI fun i j => decide (j < i)
abbrev hGe : H2 := DL.rI fun i j => decide (j ≤ i)
abbrev hEq : H2 := DL.rI fun i j => decide (i = j)
abbrev gMax2 : GA := gMM fun i j => if j > i then j else i
abbrev gMin2 : GA := gMM fun i j => if j < i then j else i
def hEnd : DTGs := fun ds Γ B q => match ds with | [] => q Γ B | _ => False
theorem dgs_end {X : Cx} {TS : List Addr} : DGs X TS [] hEnd := dgs_nil
theorem lenIs_end : lenIs hEnd 0 := lenIs_nil
theorem mem_ix {α : Type} {l : List α} {a : α} (i : Nat) (h : l[i]? = some a) : a ∈ l := List.mem_of_getElem? h
theorem nodot {N : List Str} (h : (".0" : Str) ∉ N) : ∀ l : Nat, N[l]? ≠ some (".0" : Str) := fun l e => h (List.mem_of_getElem? e)
def blkB (N : List Str) (sc scope : Scope) (own : List (Str × Nat)) : Bool :=
  decide (scope.kind = .function) && (scope.names.all fun y => decide (scope.names.lookup y.1 = some y.2)) && (own.all fun p => decide (N[p.2]? = some p.1)) &&
    (scope.names.all fun y => !decide (y.2 = .free) || (decide (sc.names.lookup y.1 = some .cell) || decide (sc.names.lookup y.1 = some .free))) &&
    (scope.names.all fun y => !(decide (y.2 = .local) || decide (y.2 = .cell)) || (decide (y.1 ∈ own.map (·.1)) || !decide (y.1 ∈ N)))
theorem blk_by {N : List Str} {sc scope : Scope} {own : List (Str × Nat)} (h : blkB N sc scope own = true) : BlkOk N sc scope own := by
  unfold blkB at h
  simp only [Bool.and_eq_true, Bool.or_eq_true, Bool.not_eq_true', decide_eq_true_eq, decide_eq_false_iff_not, List.all_eq_true] at h
  obtain ⟨⟨⟨⟨h1, h2⟩, h3⟩, h4⟩, h5⟩ := h
  refine ⟨h1, h2, h3, fun y hy e => ?_, fun y hy e => ?_⟩
  · rcases h4 y hy with z | z
    · exact absurd e z
    · exact z
  · rcases h5 y hy with z | z
    · simp only [Bool.or_eq_false_iff, decide_eq_false_iff_not] at z
      rcases e with e | e
      · exact absurd e z.1
      · exact absurd e z.2
    · exact z
section
variable {X : Cx} {W : WX} {k : Nat}
theorem InBody.u1 (I : InBody X W k) : X.A.units + 1 < cLine := by have := I.room.un; omega
theorem InBody.u64 (I : InBody X W k) : X.A.units + 64 < cLine := by have := I.room.un; omega
theorem InBody.rm (I : InBody X W k) {j : Nat} (h : j ≤ k) : Room j X.A := I.room.mono h
end
/-! ### answers -/
theorem ite_of {b : Bool} {p q : Prop} (h1 : b = true → p) (h2 : b = false → q) : if b = true then p else q := by
  cases b with
  | true => exact iteT (h1 rfl)
  | false => exact iteF (h2 rfl)
/-- by a comparison -/
theorem ite_dec {c p q : Prop} [Decidable c] (h1 : c → p) (h2 : ¬ c → q) : if decide c = true then p else q :=
  ite_of (fun h => h1 (of_decide_eq_true h)) fun h => h2 (of_decide_eq_false h)

/-! ### t[::2] -/
def evens {α : Type} : List α → List α
  | [] => []
  | [a] => [a]
  | a :: _ :: r => a :: evens r
theorem evens_length {α : Type} : ∀ xs : List α, (evens xs).length ≤ xs.length
  | [] => Nat.le_refl _
  | [_] => Nat.le_refl _
  | _ :: _ :: r => by show (evens r).length + 1 ≤ r.length + 1 + 1; have := evens_length r; omega
theorem evens_pick {α : Type} : ∀ xs : List α, (List.range ((xs.length + 1) / 2)).filterMap (fun m => xs[2 * m]?) = evens xs
  | [] => by simp [evens]
  | [a] => by simp [evens, List.range_succ]
  | a :: b :: r => by
    have e : ((a :: b :: r).length + 1) / 2 = (r.length + 1) / 2 + 1 := by simp; omega
    rw [e, List.range_succ_eq_map, List.filterMap_cons]
    show a :: List.filterMap _ (List.map Nat.succ _) = a :: evens r
    rw [List.filterMap_map, ← evens_pick r]
    congr 1
theorem Dvs.evens {K : PySem.W.Frag} {F : Hp} : ∀ {ds : List D} {vs : List V}, Dvs K F ds vs → Dvs K F (DL.evens ds) (DL.evens vs)
  | [], _, h => by cases h; rfl
  | [_], _, ⟨v, vs, e, h1, h2⟩ => by cases h2; subst e; exact ⟨v, [], rfl, h1, rfl⟩
  | _ :: _ :: r, _, ⟨v, vs, e, h1, u, us, e2, h2, h3⟩ => by subst e2; subst e; exact ⟨v, _, rfl, h1, h3.evens⟩
theorem vals_evens : ∀ {vs : List V} {us : List Value}, Vals vs us → Vals (evens vs) (evens us)
  | _, _, .nil => .nil
  | _, _, .cons h .nil => .cons h .nil
  | _, _, .cons h (.cons _ t) => .cons h (vals_evens t)
section
variable {prog : Program} {w : World} {A : Around} {E : Value → Shared → Prop} {s : Shared}
theorem getItem_tuple_step2 {t sl : Addr} {items : Array Value} {tk : Tok} {Q : Value → Shared → Prop} (ht : IsTup s.heap t items) (hs : s.heap.IsSliceOf sl .none .none (.int 2 tk))
    (h : Q (.ref s.heap.objs.size) { s with heap := s.heap.push { cls := .type "tuple", data := .seq (evens items.toList).toArray } })
    (hsz : items.size ≤ sizeLine) : wpAny (model prog w) A (getItem (.ref t) (.ref sl)) Q E s := by
  have htake : PySem.sizeOk (.seq (evens items.toList).toArray) := by
    show (evens items.toList).toArray.size ≤ sizeLine
    rw [List.size_toArray]
    exact Nat.le_trans (evens_length _) (by rw [Array.length_toList]; exact hsz)
  obtain ⟨os, hos, hcs, hds⟩ := id hs
  have hTs : s.TypeIs (.ref sl) "slice" := ⟨os, hos, hcs⟩
  unfold getItem
  try with_reducible refine wpAny_holding ?_
  first | refine wpAny_bind (wpAny_pure ?_) | skip
  refine wpAny_bind (wpAny_sequenceKey ht.typeIs (by decide) ?_)
  refine wpAny_bind (wpAny_callSpecial?_slot (name := Str.ofString "__getitem__") ht.typeIs PyProof.Rows.slot_tuple_getitem
    (wpAny_call_entry PyProof.Rows.slot_tuple_getitem ht.typeIs PyProof.Rows.entry_tuple_getitem ?_ (PyProof.Rows.args_tuple_getitem _ _)))
  show wpAny _ _ (Builtin.Tuple.tupleItemsOf (.ref t) >>= _) _ _ s
  refine wpAny_bind (tupleItemsOf_ ht ?_)
  refine wpAny_bind (wpAny_typeOf hTs ?_)
  rw [if_pos (by decide)]
  have ap : ∀ {A : Around} {E : Value → Shared → Prop} {Q : Int × Int × Nat → Shared → Prop}, Q (0, 2, (items.size + 1) / 2) s → wpAny (model prog w) A (Builtin.Slice.sliceApplied (.ref sl) (pure (items.size : Int))) Q E s := fun {A E Q} h => by
    unfold Builtin.Slice.sliceApplied Builtin.Slice.sliceFields
    refine wpAny_bind (wpAny_bind (wpAny_field hos hds (x := .none) rfl (wpAny_bind (wpAny_field hos hds (x := .none) rfl (wpAny_bind (wpAny_field hos hds (x := .int 2 tk) rfl (wpAny_pure ?_)))))))
    refine wpAny_bind (HT.slicePart_ (.int 2 tk) ?_)
    show wpAny _ _ (if ((2 : Int) == 0) = true then _ else _) _ _ s
    rw [if_neg (by decide)]
    refine wpAny_bind (HT.slicePart_ .none (wpAny_bind (HT.slicePart_ .none (wpAny_bind (wpAny_pure ?_)))))
    show wpAny _ _ (pure ((0 : Int), (2 : Int), Builtin.Slice.slicePlaces 0 (items.size : Int) 2)) _ _ s
    have e : Builtin.Slice.slicePlaces 0 (items.size : Int) 2 = (items.size + 1) / 2 := by
      unfold Builtin.Slice.slicePlaces
      rw [if_pos (by decide)]
      split
      · omega
      · have : items.size = 0 := by omega
        rw [this]; rfl
    rw [e]
    exact wpAny_pure h
  refine wpAny_bind (ap ?_)
  show wpAny _ _ (if (((0 : Int)) == 0 && (2 : Int) == 1 && ((items.size + 1) / 2) == items.size) = true then _ else _) _ _ s
  rw [if_neg (by simp)]
  have e : ((List.range ((items.size + 1) / 2)).filterMap fun (m : Nat) => items[((0 : Int) + (m : Int) * 2).toNat]?).toArray = (evens items.toList).toArray := by
    rw [← evens_pick items.toList, Array.length_toList]
    congr 1
    congr 1
    funext m
    have : ((0 : Int) + (m : Int) * 2).toNat = 2 * m := by omega
    rw [this, Array.getElem?_toList]
  rw [e]
  first
    | exact wpAny_bind (m := Builtin.Tuple.tupleExact _) (wpAny_newObj_type (wpAny_pure ⟨_, rfl, wpAny_pure h⟩) htake)
    | exact wpAny_bind (m := Builtin.Tuple.tupleExact _) (wpAny_newObj_type (wpAny_bind (wpAny_pure (wpAny_pure ⟨_, rfl, wpAny_pure h⟩))) htake)
    | exact wpAny_bind (wpAny_bind (m := Builtin.Tuple.tupleExact _) (wpAny_newObj_type (wpAny_pure (wpAny_pure ⟨_, rfl, wpAny_pure h⟩)) htake))
    | exact wpAny_bind (wpAny_bind (m := Builtin.Tuple.tupleExact _) (wpAny_newObj_type (wpAny_pure ⟨_, rfl, wpAny_pure h⟩) htake))
end
section
variable {X : Cx} {TS : List Addr} {W : WX} {e : Expr} {te : DTE}
def tStep2 (K : PySem.W.Frag) (te : TE) : TE := fun σ H Q => te σ H fun x H1 => ∃ a xs, x = .ref a ∧ SqT K H1 a xs ∧ ∀ p, H1 p = none → Q (.ref p) (upd H1 p (.tup (evens xs)))
theorem pe_step2 {te : TE} {k : Nat} {p1 p3 pos : Pos} (he : PE X e te) : PE X (.Subscript e (.Slice none none (some (.Constant (.int 2) k p1)) p3) pos) (tStep2 X.K te) := by
  refine ⟨fun pins s σ H Q I h => ?_⟩
  refine Subscript_ (thn (he.run pins s σ H _ I h) fun v s1 ⟨x, H1, I1, r1, q1⟩ => ?_)
  obtain ⟨a, xs, ex, hx, q⟩ := q1
  subst ex
  cases r1
  have hst : PO X (some (.Constant (.int 2) k p1)) (tPart (tC (.int 2))) := po_some pe_int
  refine wpAny_Slice (thn (po_none.run pins s1 σ H1 (fun o H2 => o = none ∧ H2 = H1) I1 ⟨rfl, rfl⟩) fun vl s2 ⟨l, H2, I2, pl, el, e2⟩ => ?_)
  subst el e2
  refine thn (po_none.run pins s2 σ H2 (fun o H3 => o = none ∧ H3 = H2) I2 ⟨rfl, rfl⟩) fun vu s3 ⟨u, H3, I3, pu, eu, e3⟩ => ?_
  subst eu e3
  refine thn (hst.run pins s3 σ H3 (fun o H4 => o = some 2 ∧ H4 = H3) I3 ⟨2, rfl, rfl, rfl⟩) fun vs s4 ⟨o, H4, I4, ps, eo, e4⟩ => ?_
  subst eo e4
  have I5 : Inv X pins σ H4 { s4 with heap := s4.heap.push { cls := .type "slice", data := .fields #[vl, vu, vs] } } := I4.kept (t' := s4.toks) fun b ob q => Heap.get?_push_of_some _ q
  obtain ⟨its, r, ht, hz⟩ := I5.tuple hx
  have hlen := r.length
  cases pl
  cases pu
  cases ps
  show wpAny (model X.prog X.w) X.A (subscriptTail e (.Slice none none (some (.Constant (.int 2) k p1)) p3) (.ref a) (.ref s4.heap.objs.size)) (EP X pins σ Q) X.xe _
  refine tail_any (ops := [.ref a, .ref s4.heap.objs.size]) ht.typeIs (PyProof.Rows.slot_tuple_getitem.lookup) ?_ (by with_unfolding_all rfl)
  refine getItem_tuple_step2 ht (Heap.IsSliceOf.new _ .none .none _) ?_ (by rw [List.size_toArray]; omega)
  refine ⟨.ref _, _, I5.laid (t' := s4.toks) (o := .tup (evens xs)) (fun b ob q => Heap.get?_push_of_some _ q) (Nat.le_refl _) ?_, rfl, q _ (I5.hok.fresh (Nat.le_refl _))⟩
  exact ⟨Nat.le_trans (evens_length xs) hz, _, vals_evens r, IsTup.new _ _⟩
def dStep2 (te : DTE) : DTE := fun Γ B q x => te Γ B (fun d B1 => ∃ xs, tupOf d = some xs ∧ q (.tup (evens xs)) B1) x
theorem de_step2 {k : Nat} {p1 p3 pos : Pos} (he : DE X TS W e te) : DE X TS W (.Subscript e (.Slice none none (some (.Constant (.int 2) k p1)) p3) pos) (dStep2 te) := PE_imp (pe_step2 he) fun σ H Q ⟨F, Γ, B, R, q, x, s, rp, hu, hq, hx⟩ =>
  ⟨F, Γ, B, R, _, x, s, rp, hu, fun d B1 F1 H1 v h1 e1 rp1 dv1 => by
    obtain ⟨xs, h2, h3⟩ := h1
    obtain ⟨a, vs, ev, h4, h5⟩ := tup_of rp1 h2 dv1
    exact ⟨a, vs, ev, h5, fun p hp => new_tup rp1 (hq.mono e1) h3 h4.evens hp⟩, hx⟩
end
theorem pg_own2 {X : Cx} {i j : Nat} {x y : Str} {px py p : Pos} {kt : Nat} (hc : X.calm = true) (hN : X.N.Nodup) (hi : X.N[i]? = some x) (hj : X.N[j]? = some y) (hx : Loc X.env.scope x) (hy : Loc X.env.scope y) (hf : X.fn x = true ∨ X.env.scope.names.lookup x = some .local) (hf' : X.fn y = true ∨ X.env.scope.names.lookup y = some .local)
    (hn : (assignEach [.Name x px, .Name y py] X.env).length = 2 := by rfl) (hst : (assignEach [.Name x px, .Name y py] X.env).findIdx? (·.1) = none := by rfl)
    (h1 : (assignEach (Expr.Name x px :: [.Name y py]) X.env).map (·.2) = assign (.Name x px) X.env :: (assignEach [.Name y py] X.env).map (·.2) := by rfl) (h2 : (assignEach (Expr.Name y py :: []) X.env).map (·.2) = assign (.Name y py) X.env :: (assignEach [] X.env).map (·.2) := by rfl) :
    PG X (.Tuple [.Name x px, .Name y py] kt p) (gPair X.K i j) := pg_tup hc (pgs_cons (pg_name hN hi hx hf) (pgs_cons (pg_name hN hj hy hf') pgs_nil h2) h1) hn hst
end DL
set_option Elab.async false
set_option linter.all false
set_option maxRecDepth 100000
set_option maxHeartbeats 2000000
/-! DL11: to answer readings. -/
namespace DL
open PySem PySem.Spec PyProof.Rows L2

/-- a def's end -/
def endsD (q : DK) (x : XD) : DEnds := { nx := fun _ B' => ∃ B'', Few B'' B' ∧ q .non B'', rt := fun d B' => ∃ B'', Few B'' B' ∧ q d B'', ex := fun _ C B' => ∃ B'', Few B'' B' ∧ x C B'' }
theorem endsD_nx {q : DK} {x : XD} {Γ : Gm} {B B' : Bx} (f : Few B' B) (h : q .non B') : (endsD q x).nx Γ B := ⟨B', f, h⟩
theorem endsD_rt {q : DK} {x : XD} {d : D} {B B' : Bx} (f : Few B' B) (h : q d B') : (endsD q x).rt d B := ⟨B', f, h⟩
theorem endsD_ex {q : DK} {x : XD} {Γ : Gm} {C : Addr} {B B' : Bx} (f : Few B' B) (h : x C B') : (endsD q x).ex Γ C B := ⟨B', f, h⟩
section
variable {gd : Gd} {g : DTG} {tb : DTS} {E : DEnds} {tt : DTT} {te : DTE} {Γ : Gm} {B : Bx} {q : List D → Bx → Prop}
theorem guard_of {P : Prop} (h1 : ∀ f, gd = some f → f B) (h2 : P) : guard gd B P := by
  cases gd with
  | none => exact h2
  | some f => exact ⟨h1 f rfl, h2⟩
/-- a loop by an invariant on what is left, the names, the boxes -/
theorem for_by (Iv : List D → Gm → Bx → Prop) {ds : List D} (h0 : Iv ds Γ B) (hg : ∀ r Γ B, Iv r Γ B → ∀ f, gd = some f → f B) (hn : ∀ Γ B, Iv [] Γ B → E.nx Γ B)
    (hs : ∀ d r Γ B (K : Gm → Bx → Prop), Iv (d :: r) Γ B → (∀ Γ B, Iv r Γ B → K Γ B) → g d Γ B fun Γ1 B1 => tb { E with nx := K, ct := K, bk := E.nx } Γ1 B1) : forK gd g tb E ds Γ B := by
  induction ds generalizing Γ B with
  | nil => exact guard_of (hg _ _ _ h0) (hn _ _ h0)
  | cons d r ih => exact guard_of (hg _ _ _ h0) (hs d r Γ B _ h0 fun Γ B h => ih h)
/-- .. a comprehension -/
theorem lc_by (Iv : List D → List D → Bx → Prop) {ds acc : List D} (h0 : Iv ds acc B) (hg : ∀ r acc B, Iv r acc B → ∀ f, gd = some f → f B) (hn : ∀ acc B, Iv [] acc B → q acc B)
    (hs : ∀ d r acc B (K : List D → Bx → Prop), Iv (d :: r) acc B → (∀ acc B, Iv r acc B → K acc B) → g d Γ B fun Γ1 B1 => tt Γ1 B1 (fun b B2 => if b = true then te Γ1 B2 (fun y B3 => K (acc ++ [y]) B3) noX else K acc B2) noX) :
    lcK gd g tt te Γ q ds acc B := by
  induction ds generalizing acc B with
  | nil => exact guard_of (hg _ _ _ h0) (hn _ _ h0)
  | cons d r ih =>
    unfold lcK
    exact guard_of (hg _ _ _ h0) (hs d r acc B (fun acc B => lcK gd g tt te Γ q r acc B) h0 fun acc B h => ih h)
end
/-- a list's guard holds while the box stands -/
theorem lstGd_at {B : Bx} {d : D} {xs : List D} (h : lstOf B d = some xs) : ∀ f, lstGd d xs = some f → f B := fun f e => by
  unfold lstGd at e
  split at e
  · cases e
    unfold lstOf at h
    dsimp only at h
    split at h
    · cases h; assumption
    · cases h
  · cases e
theorem lstGd_few {B : Bx} {d : D} {xs : List D} (h : lstOf B d = some xs) : ∀ B', Few B B' → ∀ f, lstGd d xs = some f → f B' := fun B' hf f e => by
  have h0 := lstGd_at h f e
  unfold lstGd at e
  split at e
  · cases e
    exact hf _ _ h0
  · cases e
theorem gLen_seq {B : Bx} {d : D} {xs : List D} {q : DK} (h : seqOf B d = some xs) (hq : q (.int xs.length) B) : gLen [d] B q := by
  unfold gLen
  cases d with
  | ref a =>
    unfold seqOf at h
    dsimp only at h
    split at h
    · rename_i ys hb
      cases h
      exact .inl ⟨_, hb, hq⟩
    · cases h
  | str x => cases h
  | non => cases h
  | bl b => cases h
  | int i => cases h
  | ty n => cases h
  | obj φ => cases h
  | lst ys => exact ⟨_, h, hq⟩
  | tup ys => exact ⟨_, h, hq⟩
  | rol ys => exact ⟨_, h, hq⟩
  | rot ys => exact ⟨_, h, hq⟩
theorem seqOf_few {B0 B : Bx} {d : D} {xs : List D} (h : seqOf B0 d = some xs) (hf : Few B0 B) : seqOf B d = some xs := by
  cases d with
  | ref a =>
    unfold seqOf at h ⊢
    dsimp only at h ⊢
    split at h
    · rename_i ys hb
      rw [hf _ _ hb]
      exact h
    · cases h
  | _ => exact h
/-- a walk over what has the items xs -/
theorem iSq_of {B0 B : Bx} {d : D} {xs : List D} {q : List D → Gd → Bx → Prop} (h : seqOf B0 d = some xs) (hf : Few B0 B) (hq : ∀ gd, (∀ B', Few B0 B' → ∀ f, gd = some f → f B') → q xs gd B) : iSq d B q := by
  have none_ok : q xs none B := hq none (fun _ _ f e => by cases e)
  have h1 := seqOf_few h hf
  unfold iSq
  cases d with
  | tup ys => cases h; exact none_ok
  | rot ys => cases h; exact none_ok
  | lst ys => cases h; exact ⟨_, rfl, none_ok⟩
  | rol ys => cases h; exact ⟨_, rfl, none_ok⟩
  | ref a => exact ⟨xs, h1, hq _ (lstGd_few h)⟩
  | non => cases h
  | bl b => cases h
  | int i => cases h
  | str x => cases h
  | ty n => cases h
  | obj φ => cases h
theorem iEn_of {B0 B : Bx} {d : D} {xs : List D} {q : List D → Gd → Bx → Prop} (h : seqOf B0 d = some xs) (hf : Few B0 B) (hq : ∀ gd, (∀ B', Few B0 B' → ∀ f, gd = some f → f B') → q (enumL 0 xs) gd B) : iEn [d] B q := by
  have none_ok : q (enumL 0 xs) none B := hq none (fun _ _ f e => by cases e)
  have h1 := seqOf_few h hf
  unfold iEn
  cases d with
  | tup ys => cases h; exact none_ok
  | rot ys => cases h; exact none_ok
  | lst ys => cases h; exact ⟨_, rfl, none_ok⟩
  | rol ys => cases h; exact ⟨_, rfl, none_ok⟩
  | ref a => exact ⟨xs, h1, hq _ (lstGd_few h)⟩
  | non => cases h
  | bl b => cases h
  | int i => cases h
  | str x => cases h
  | ty n => cases h
  | obj φ => cases h

theorem seqOf_put {B : Bx} {d : D} {xs : List D} {p : Addr} {b : Box} (h : seqOf B d = some xs) (hp : B p = none) : seqOf (put B p b) d = some xs := by
  cases d with
  | ref a =>
    unfold seqOf at h ⊢
    dsimp only at h ⊢
    split at h
    · rename_i ys hb
      rw [put_ne (ne_box hb hp), hb]
      exact h
    · cases h
  | _ => exact h
theorem lstOf_at {B : Bx} {p : Addr} {xs : List D} (h : B p = some (.lst xs)) : lstOf B (.ref p) = some xs := by
  unfold lstOf
  dsimp only
  rw [h]
theorem seqOf_at {B : Bx} {p : Addr} {xs : List D} (h : B p = some (.lst xs)) : seqOf B (.ref p) = some xs := by
  unfold seqOf
  dsimp only
  rw [h]
theorem le_size {n : Nat} (h : n ≤ 1000000) : n ≤ sizeLine := Nat.le_trans h (by rw [sizeLine_eq]; decide)
theorem lt_size {n : Nat} (h : n < 1000000) : n < sizeLine := Nat.lt_of_lt_of_le h (by rw [sizeLine_eq]; decide)
theorem gTuple_ref {B : Bx} {p : Addr} {xs : List D} {q : DK} (h : B p = some (.lst xs)) (hq : q (.tup xs) B) : gTuple [.ref p] B q := ⟨xs, lstOf_at h, hq⟩
theorem gTuple_seq {B : Bx} {d : D} {xs : List D} {q : DK} (h : seqOf B d = some xs) (hn : ∀ ys, d ≠ .rot ys) (hq : q (.tup xs) B) : gTuple [d] B q := by
  unfold gTuple
  cases d with
  | tup ys => cases h; exact hq
  | lst ys => cases h; exact ⟨_, rfl, hq⟩
  | rol ys => cases h; exact ⟨_, rfl, hq⟩
  | rot ys => exact absurd rfl (hn ys)
  | ref a => exact ⟨xs, h, hq⟩
  | non => cases h
  | bl b => cases h
  | int i => cases h
  | str x => cases h
  | ty n => cases h
  | obj φ => cases h
theorem gSl_seq {B : Bx} {d : D} {xs : List D} {lo hi : Option Int} {q : DK} (h : seqOf B d = some xs) (hn : ∀ ys, d ≠ .rot ys) (hq : ∀ e, e = .tup (cutD xs lo hi) ∨ e = .lst (cutD xs lo hi) → q e B) : gSl d lo hi B q := by
  unfold gSl
  cases d with
  | tup ys => cases h; exact hq _ (.inl rfl)
  | lst ys => cases h; exact ⟨_, rfl, hq _ (.inr rfl)⟩
  | rol ys => cases h; exact ⟨_, rfl, hq _ (.inr rfl)⟩
  | rot ys => exact absurd rfl (hn ys)
  | ref a => exact ⟨xs, h, hq _ (.inr rfl)⟩
  | non => cases h
  | bl b => cases h
  | int i => cases h
  | str x => cases h
  | ty n => cases h
  | obj φ => cases h
/-- tuple(d[lo:hi]) -/
theorem gSlT {B : Bx} {d : D} {xs : List D} {lo hi : Option Int} {q : DK} (h : seqOf B d = some xs) (hn : ∀ ys, d ≠ .rot ys) (hq : q (.tup (cutD xs lo hi)) B) : gSl d lo hi B fun d B1 => gTuple [d] B1 q :=
  gSl_seq h hn fun e he => by
    rcases he with rfl | rfl
    · exact hq
    · exact ⟨_, rfl, hq⟩
theorem cutD_take (xs : List D) (i : Nat) : cutD xs none (some (i : Int)) = xs.take i := by
  unfold cutD
  rw [HT.sIx_none, HT.sIx_nat, List.drop_zero, Nat.sub_zero]
  by_cases h : i ≤ xs.length
  · rw [Nat.min_eq_left h]
  · rw [Nat.min_eq_right (by omega), List.take_length, List.take_of_length_le (by omega)]
theorem cutD_drop (xs : List D) (i : Nat) : cutD xs (some (i : Int)) none = xs.drop i := by
  unfold cutD
  rw [HT.sIx_none, HT.sIx_nat]
  by_cases h : i ≤ xs.length
  · rw [Nat.min_eq_left h, List.take_of_length_le (by simp)]
  · rw [Nat.min_eq_right (by omega), List.drop_length, List.drop_of_length_le (by omega), List.take_nil]
theorem here {B : Bx} {p : Bx → Prop} (h : p B) : ∃ B'', Few B'' B ∧ p B'' := ⟨B, Few.refl B, h⟩
theorem ite_ndec {c p q : Prop} [Decidable c] (h1 : ¬ c → p) (h2 : c → q) : if (!decide c) = true then p else q :=
  ite_of (fun h => h1 (of_decide_eq_false (by simpa using h))) fun h => h2 (of_decide_eq_true (by simpa using h))
end DL
set_option Elab.async false
set_option linter.all false
set_option maxRecDepth 100000
set_option maxHeartbeats 2000000
/-! DL12: == upon plain data. -/
namespace DL
open PySem PySem.Spec PyProof.Rows L2

/-- plain: numbers, texts, None, lists and tuples of such, n deep -/
def plD : Nat → D → Bool
  | _, .non => true
  | _, .int _ => true
  | _, .str x => PySem.PyData.canLay0 (.str x)
  | n + 1, .lst xs => xs.all (plD n)
  | n + 1, .tup xs => xs.all (plD n)
  | _, _ => false
theorem toPys_of {P : PyData → Prop} : ∀ {ds : List D}, (∀ d ∈ ds, ∃ p, toPy d = some p ∧ P p) → ∃ ps, toPys ds = some ps ∧ ∀ p ∈ ps, P p
  | [], _ => ⟨[], rfl, fun _ h => by cases h⟩
  | d :: ds, h => by
    obtain ⟨p, h1, h2⟩ := h d List.mem_cons_self
    obtain ⟨ps, h3, h4⟩ := toPys_of (ds := ds) fun e he => h e (List.mem_cons_of_mem _ he)
    refine ⟨p :: ps, ?_, fun r hr => ?_⟩
    · unfold toPys
      rw [h1, h3]
    · rcases List.mem_cons.mp hr with e | hr
      · rw [e]; exact h2
      · exact h4 r hr
theorem lay_all : ∀ {ps : List PyData}, (∀ p ∈ ps, p.canLay0 = true) → PyData.canLayAll0 ps = true
  | [], _ => by simp [PyData.canLayAll0]
  | p :: ps, h => by
    simp only [PyData.canLayAll0, Bool.and_eq_true]
    exact ⟨h p List.mem_cons_self, lay_all fun r hr => h r (List.mem_cons_of_mem _ hr)⟩
theorem depth_all {n : Nat} : ∀ {ps : List PyData}, (∀ p ∈ ps, p.depth ≤ n) → PyData.depthAll ps ≤ n
  | [], _ => by simp [PyData.depthAll]
  | p :: ps, h => by
    simp only [PyData.depthAll]
    have h1 := h p List.mem_cons_self
    have h2 := depth_all (ps := ps) fun r hr => h r (List.mem_cons_of_mem _ hr)
    omega
theorem plD_py : ∀ (n : Nat) (d : D), plD n d = true → ∃ p, toPy d = some p ∧ p.canLay0 = true ∧ p.depth ≤ n := by
  intro n
  induction n with
  | zero =>
    intro d h
    cases d with
    | non => exact ⟨_, rfl, by simp [PyData.canLay0], by simp [PyData.depth]⟩
    | int i => exact ⟨_, rfl, by simp [PyData.canLay0], by simp [PyData.depth]⟩
    | str x => exact ⟨_, rfl, h, by simp [PyData.depth]⟩
    | _ => cases h
  | succ n ih =>
    intro d h
    cases d with
    | non => exact ⟨_, rfl, by simp [PyData.canLay0], by simp [PyData.depth]⟩
    | int i => exact ⟨_, rfl, by simp [PyData.canLay0], by simp [PyData.depth]⟩
    | str x => exact ⟨_, rfl, h, by simp [PyData.depth]⟩
    | lst xs =>
      have h1 : xs.all (plD n) = true := h
      obtain ⟨ps, h2, h3⟩ := toPys_of (P := fun p => p.canLay0 = true ∧ p.depth ≤ n) fun d hd => ih d (List.all_eq_true.mp h1 d hd)
      refine ⟨.list ps, by show (toPys xs).map _ = _; rw [h2]; rfl, ?_, ?_⟩
      · simp only [PyData.canLay0]; exact lay_all fun p hp => (h3 p hp).1
      · simp only [PyData.depth]; have := depth_all fun p hp => (h3 p hp).2; omega
    | tup xs =>
      have h1 : xs.all (plD n) = true := h
      obtain ⟨ps, h2, h3⟩ := toPys_of (P := fun p => p.canLay0 = true ∧ p.depth ≤ n) fun d hd => ih d (List.all_eq_true.mp h1 d hd)
      refine ⟨.tuple ps, by show (toPys xs).map _ = _; rw [h2]; rfl, ?_, ?_⟩
      · simp only [PyData.canLay0]; exact lay_all fun p hp => (h3 p hp).1
      · simp only [PyData.depth]; have := depth_all fun p hp => (h3 p hp).2; omega
    | _ => cases h
theorem eqv_all {n : Nat} (ih : ∀ (d e : D) (p r : PyData), plD n d = true → plD n e = true → toPy d = some p → toPy e = some r → (PyData.eqv p r = true ↔ d = e)) :
    ∀ (ds es : List D) (ps rs : List PyData), (∀ d ∈ ds, plD n d = true) → (∀ d ∈ es, plD n d = true) → toPys ds = some ps → toPys es = some rs → (PyData.eqvAll ps rs = true ↔ ds = es)
  | [], [], _, _, _, _, h1, h2 => by cases h1; cases h2; simp [PyData.eqvAll]
  | [], e :: es, _, _, _, _, h1, h2 => by
    cases h1
    unfold toPys at h2
    split at h2
    · cases h2; simp [PyData.eqvAll]
    · cases h2
  | d :: ds, [], _, _, _, _, h1, h2 => by
    cases h2
    unfold toPys at h1
    split at h1
    · cases h1; simp [PyData.eqvAll]
    · cases h1
  | d :: ds, e :: es, _, _, hd, he, h1, h2 => by
    unfold toPys at h1 h2
    split at h1
    · split at h2
      · cases h1; cases h2
        rename_i _ _ p ps h3 h4 _ _ r rs h5 h6
        have k1 := ih d e _ _ (hd d List.mem_cons_self) (he e List.mem_cons_self) h3 h5
        have k2 := eqv_all ih ds es _ _ (fun d h => hd d (List.mem_cons_of_mem _ h)) (fun d h => he d (List.mem_cons_of_mem _ h)) h4 h6
        simp only [PyData.eqvAll, Bool.and_eq_true, List.cons.injEq]
        rw [k1, k2]
      · cases h2
    · cases h1
theorem plD_eq : ∀ (n : Nat) (d e : D) (p r : PyData), plD n d = true → plD n e = true → toPy d = some p → toPy e = some r → (PyData.eqv p r = true ↔ d = e) := by
  intro n
  induction n with
  | zero =>
    intro d e p r hd he h1 h2
    cases d <;> (first | (cases hd; done) | skip) <;> cases e <;> (first | (cases he; done) | skip) <;> cases h1 <;> cases h2 <;> simp [PyData.eqv]
  | succ n ih =>
    intro d e p r hd he h1 h2
    have L : ∀ {xs ys : List D}, xs.all (plD n) = true → ys.all (plD n) = true → ∀ ps rs, toPys xs = some ps → toPys ys = some rs → (PyData.eqvAll ps rs = true ↔ xs = ys) := fun {xs ys} k1 k2 ps rs k3 k4 =>
      eqv_all ih xs ys ps rs (List.all_eq_true.mp k1) (List.all_eq_true.mp k2) k3 k4
    cases d <;> (first | (cases hd; done) | skip) <;> cases e <;> (first | (cases he; done) | skip) <;>
      (try (obtain ⟨ps, h3, rfl⟩ := Option.map_eq_some_iff.mp h1)) <;> (try (obtain ⟨rs, h4, rfl⟩ := Option.map_eq_some_iff.mp h2)) <;> (try cases h1) <;> (try cases h2) <;>
      first
        | (simp [PyData.eqv]; done)
        | (simp only [PyData.eqv, D.lst.injEq]; exact L hd he _ _ h3 h4)
        | (simp only [PyData.eqv, D.tup.injEq]; exact L hd he _ _ h3 h4)
theorem eqD_pl {n : Nat} (hn : n ≤ 64) {d e : D} (hd : plD n d = true) (he : plD n e = true) : ∃ b, eqD d e = some b ∧ (b = true ↔ d = e) := by
  obtain ⟨p, h1, h2, h3⟩ := plD_py n d hd
  obtain ⟨r, h4, h5, h6⟩ := plD_py n e he
  refine ⟨PyData.eqv p r, ?_, plD_eq n d e p r hd he h1 h4⟩
  unfold eqD
  rw [h1, h4]
  dsimp only
  rw [if_pos]
  unfold SeqAt.shaped
  simp only [Bool.and_eq_true, decide_eq_true_eq]
  exact ⟨⟨h2, by omega⟩, h5, by omega⟩
/-- .. as it is asked -/
theorem eq_pl (n : Nat) {d e : D} {neg : Bool} {B : Bx} {q : DK} (hd : plD n d = true) (he : plD n e = true) (h : ∀ b, (b = true ↔ d = e) → q (.bl (neg ^^ b)) B) (hn : n ≤ 64 := by decide) : ∃ b, eqD d e = some b ∧ q (.bl (neg ^^ b)) B := by
  obtain ⟨b, h1, h2⟩ := eqD_pl hn hd he
  exact ⟨b, h1, h b h2⟩
theorem gIx_at {B : Bx} {a : Addr} {xs : List D} {i : Int} {v : D} {q : DK} (h : B a = some (.lst xs)) (e : atI xs i = some v) (hq : q v B) : gIx (.ref a) (.int i) B q := .inl ⟨xs, h, i, v, rfl, e, hq⟩
theorem gSet_at {B : Bx} {a : Addr} {xs : List D} {i : Int} {j : Nat} {v : D} {q : Bx → Prop} (h : B a = some (.lst xs)) (e : ixN xs.length i = some j) (hq : q (put B a (.lst (xs.set j v)))) : gSet (.ref a) (.int i) v B q := ⟨_, h, i, j, rfl, e, hq⟩
theorem dGet_K {B : Bx} {p : Addr} {kvs : List (Key × D)} {e : D} {k : Key} (h : B p = some (.dK kvs)) (hk : keyD e = some k) : dGet B p e = some (valD kvs k) := by
  unfold dGet
  rw [h]
  show (keyD e).map (valD kvs) = _
  rw [hk]
  rfl
theorem dGet_T {B : Bx} {p : Addr} {kvs : List (List Key × D)} {xs : List D} {k : List Key} (h : B p = some (.dT kvs)) (hk : keysD xs = some k) : dGet B p (.tup xs) = some (valD kvs k) := by
  unfold dGet
  rw [h]
  show (keysD xs).map (valD kvs) = _
  rw [hk]
  rfl
end DL
set_option Elab.async false
set_option linter.all false
set_option maxRecDepth 100000
set_option maxHeartbeats 2000000
/-! DL13: dicts that remember what a function gives; recursion by levels. -/
namespace DL
open PySem PySem.Spec PyProof.Rows L2
def memo (f : List Int → D) (ks : List (List Int)) : List (List Key × D) := ks.map fun k => (k.map Sum.inl, f k)
theorem inl_inj : ∀ {a b : List Int}, a.map (Sum.inl : Int → Key) = b.map Sum.inl → a = b
  | [], [], _ => rfl
  | [], _ :: _, h => by cases h
  | _ :: _, [], h => by cases h
  | a :: as, b :: bs, h => by
    injection h with h1 h2
    injection h1 with h1
    rw [h1, inl_inj h2]
theorem memo_val (f : List Int → D) (k : List Int) : ∀ ks : List (List Int), valD (memo f ks) (k.map Sum.inl) = if k ∈ ks then some (f k) else none
  | [] => rfl
  | j :: ks => by
    show valD ((j.map Sum.inl, f j) :: memo f ks) (k.map Sum.inl) = _
    rw [valD_cons]
    by_cases h : j = k
    · subst h; simp
    · have h2 : ¬ (j.map (Sum.inl : Int → Key) = k.map Sum.inl) := fun e => h (inl_inj e)
      rw [if_neg h2, memo_val f k ks]
      simp [Ne.symm h]
theorem memo_put (f : List Int → D) (ks : List (List Int)) (k : List Int) : putD (memo f ks) (k.map Sum.inl) (f k) = memo f (if k ∈ ks then ks else ks ++ [k]) := by
  by_cases h : k ∈ ks
  · rw [if_pos h]
    unfold putD
    have e : ((memo f ks).any fun kv => decide (kv.1 = k.map Sum.inl)) = true := by
      rw [valD_any, memo_val, if_pos h]; rfl
    rw [if_pos e]
    unfold memo
    rw [List.map_map]
    refine List.map_congr_left fun a _ => ?_
    show (if a.map (Sum.inl : Int → Key) = k.map Sum.inl then (a.map Sum.inl, f k) else (a.map Sum.inl, f a)) = _
    by_cases h2 : a = k
    · rw [h2]; simp
    · rw [if_neg fun e => h2 (inl_inj e)]
  · rw [if_neg h]
    rw [putD_new _ (by rw [memo_val, if_neg h])]
    unfold memo
    rw [List.map_append]
    rfl
theorem nodup_len {α : Type} [DecidableEq α] : ∀ {l m : List α}, l.Nodup → (∀ x ∈ l, x ∈ m) → l.length ≤ m.length
  | [], _, _, _ => Nat.zero_le _
  | a :: l, m, h, k => by
    have ha := k a List.mem_cons_self
    obtain ⟨h1, h2⟩ := List.nodup_cons.mp h
    have ih := nodup_len (l := l) (m := m.erase a) h2 fun x hx => (List.mem_erase_of_ne (fun e => h1 (by rw [← e]; exact hx))).mpr (k x (List.mem_cons_of_mem _ hx))
    rw [List.length_erase_of_mem ha] at ih
    have : 0 < m.length := List.length_pos_of_mem ha
    show l.length + 1 ≤ _
    omega
/-- what is remembered stays within dom -/
structure Mem (dom ks : List (List Int)) : Prop where
  nd : ks.Nodup
  sub : ∀ k ∈ ks, k ∈ dom
theorem Mem.nil (dom : List (List Int)) : Mem dom [] := ⟨List.nodup_nil, fun _ h => by cases h⟩
theorem Mem.add {dom ks : List (List Int)} {k : List Int} (h : Mem dom ks) (hk : k ∈ dom) : Mem dom (if k ∈ ks then ks else ks ++ [k]) := by
  by_cases e : k ∈ ks
  · rw [if_pos e]; exact h
  · rw [if_neg e]
    refine ⟨List.nodup_append.mpr ⟨h.nd, by simp, fun a ha b hb => ?_⟩, fun j hj => ?_⟩
    · have : b = k := by simpa using hb
      subst this
      exact fun z => e (by rw [← z]; exact ha)
    · rcases List.mem_append.mp hj with hj | hj
      · exact h.sub j hj
      · have : j = k := by simpa using hj
        rw [this]; exact hk
theorem Mem.len {dom ks : List (List Int)} (h : Mem dom ks) (f : List Int → D) (hd : dom.length < 1000000) : (memo f ks).length < sizeLine := by
  unfold memo
  rw [List.length_map]
  exact lt_size (Nat.lt_of_le_of_lt (nodup_len h.nd h.sub) hd)
theorem mem_put_self {ks : List (List Int)} {k : List Int} : k ∈ (if k ∈ ks then ks else ks ++ [k]) := by
  by_cases e : k ∈ ks
  · rw [if_pos e]; exact e
  · rw [if_neg e]; simp
/-- k in seen -/
theorem gIn_mk {B : Bx} {a : Addr} {f : List Int → D} {ks : List (List Int)} {k : List Int} {neg : Bool} {q : DK} (h : B a = some (.dT (memo f ks))) (hq : q (.bl (neg ^^ decide (k ∈ ks))) B) : gIn neg (.tup (k.map .int)) (.ref a) B q := by
  refine .inl ⟨_, dGet_T h (keysD_ints k), ?_⟩
  have e : (valD (memo f ks) (k.map Sum.inl)).isSome = decide (k ∈ ks) := by
    rw [memo_val]
    by_cases hk : k ∈ ks
    · rw [if_pos hk, decide_eq_true hk]; rfl
    · rw [if_neg hk, decide_eq_false hk]; rfl
  rw [e]
  exact hq
/-- seen[k] = f k -/
theorem gSet_mk {B : Bx} {a : Addr} {f : List Int → D} {ks dom : List (List Int)} {k : List Int} {v : D} {q : Bx → Prop} (h : B a = some (.dT (memo f ks))) (g : Mem dom ks) (hd : dom.length < 1000000) (hk : k ∈ dom) (hv : v = f k)
    (hq : ∀ ks', Mem dom ks' → k ∈ ks' → q (put B a (.dT (memo f ks')))) : gSet (.ref a) (.tup (k.map .int)) v B q := by
  subst hv
  refine ⟨_, h, _, _, rfl, keysD_ints k, g.len f hd, ?_⟩
  rw [memo_put]
  exact hq _ (g.add hk) mem_put_self
/-- seen[k] -/
theorem gIx_mk {B : Bx} {a : Addr} {f : List Int → D} {ks : List (List Int)} {k : List Int} {q : DK} (h : B a = some (.dT (memo f ks))) (hk : k ∈ ks) (hq : q (f k) B) : gIx (.ref a) (.tup (k.map .int)) B q := by
  refine .inr ⟨f k, ?_, hq⟩
  rw [dGet_T h (keysD_ints k), memo_val, if_pos hk]

section
variable {fa : List He.Fa} {fn : List He.DefD} {tf tl : List He.Defn} {P : Program} {w : World} {K : PySem.W.Frag} {mg : Str → Option Value} {base : Heap}
/-- a promise that nobody can ask for -/
theorem fnA_zero (E : Mo fa fn tf tl K mg base) {d : He.DefD} {x : Str} {ps : List Str} {sp : SpD} (hd : d ∈ fn) (hat : d.at_ = (x, none)) (hdf : d.dfl = []) (hg : He.Fa.glo x ∈ fa)
    (hbn : ∀ (kV doc pm : Value) (an : Option Addr) (cdv ct : Value) (us : List Value), us.length = ps.length → bindArgs (PySem.W.fnOf d.name d.qual d.params d.body d.scope .none kV doc pm an cdv ct) ⟨us, []⟩ = pure (ps.zip us))
    (h : ∀ ds B q x, ¬ sp ds B q x) : FnA P w K mg base (tsOf tf K) x ps 0 sp := by
  obtain ⟨fd, F⟩ := E.c.defs hd
  have hD : d.dvs K = [] := by unfold He.DefD.dvs; rw [hdf]; rfl
  rw [hD] at F
  have eA : He.fAd K d.at_ = He.ga K x := by rw [hat]; rfl
  refine ⟨He.fAd K d.at_, fd, ?_, by rw [eA]; exact He.glo_ok E.X E.G (E.c.facts hg), F.kp, F.bindsN hbn⟩
  exact ⟨fun vs H Q E ⟨F, ds, B, R, q, x, h1, h2, h3, h4, h5⟩ => (h ds B q x h3).elim, fun A outer s H args us vs Q E hr e0 hb r ⟨F, ds, B, R, q, x, h1, h2, h3, h4, h5⟩ => (h ds B q x h3).elim⟩
/-- .. at any level -/
theorem fnA_none (E : Mo fa fn tf tl K mg base) {d : He.DefD} {x : Str} {ps : List Str} {k : Nat} {sp : SpD} (hd : d ∈ fn) (hat : d.at_ = (x, none)) (hdf : d.dfl = []) (hg : He.Fa.glo x ∈ fa)
    (hbn : ∀ (kV doc pm : Value) (an : Option Addr) (cdv ct : Value) (us : List Value), us.length = ps.length → bindArgs (PySem.W.fnOf d.name d.qual d.params d.body d.scope .none kV doc pm an cdv ct) ⟨us, []⟩ = pure (ps.zip us))
    (h : ∀ ds B q x, ¬ sp ds B q x) : FnA P w K mg base (tsOf tf K) x ps k sp := by
  obtain ⟨fd, F⟩ := E.c.defs hd
  have hD : d.dvs K = [] := by unfold He.DefD.dvs; rw [hdf]; rfl
  rw [hD] at F
  have eA : He.fAd K d.at_ = He.ga K x := by rw [hat]; rfl
  refine ⟨He.fAd K d.at_, fd, ?_, by rw [eA]; exact He.glo_ok E.X E.G (E.c.facts hg), F.kp, F.bindsN hbn⟩
  exact ⟨fun vs H Q E ⟨F, ds, B, R, q, x, h1, h2, h3, h4, h5⟩ => (h ds B q x h3).elim, fun A outer s H args us vs Q E hr e0 hb r ⟨F, ds, B, R, q, x, h1, h2, h3, h4, h5⟩ => (h ds B q x h3).elim⟩
end
theorem sizeOk_of {ds : List D} (h : ds.length ≤ 1000000) : sizeOk ds := by
  unfold DL.sizeOk
  split
  · trivial
  · exact le_size h
theorem put_eq {B : Bx} {a : Addr} {b : Box} (h : B a = some b) : put B a b = B := by
  funext c
  unfold put
  split
  · rename_i e; rw [e, h]
  · rfl
theorem plD_ints (n : Nat) (ns : List Int) : (ns.map D.int).all (plD n) = true := by
  rw [List.all_map, List.all_eq_true]
  intro i _
  cases n <;> rfl
theorem few_upd {B B' : Bx} {a : Addr} {b c : Box} (h : Few (put B a b) B') : Few (put B a c) (put B' a c) := fun x z e => by
  by_cases hx : x = a
  · subst hx
    rw [put_same] at e ⊢
    exact e
  · rw [put_ne hx] at e ⊢
    exact h x z (by rw [put_ne hx]; exact e)
theorem few_at {B B' : Bx} {a : Addr} {b : Box} (h : Few (put B a b) B') : B' a = some b := h a b put_same
theorem ixN_at {n j : Nat} (hj : j < n) : ixN n (j : Int) = some j := by
  unfold ixN
  rw [if_pos (by omega), if_pos (by omega)]
  rfl
theorem atI_ints {ns : List Int} {k : Nat} (h : k < ns.length) : atI (ns.map D.int) (k : Int) = some (.int ns[k]) := L2.atI_nat (by rw [List.getElem?_map, List.getElem?_eq_getElem h]; rfl)
end DL
set_option Elab.async false
set_option linter.all false
set_option maxRecDepth 100000
set_option maxHeartbeats 2000000
/-! DL14: lambdas without parameters and captured names; calls of what a name holds. -/
namespace DL
open PySem PySem.Spec PyProof.Rows L2

/-- what can be called without arguments, with its promise, wherever F still stands -/
structure Cal (P : Program) (w : World) (K : PySem.W.Frag) (mg : Str → Option Value) (base : Heap) (TS : List Addr) (k : Nat) (sp : Bx → DK → XD → Prop) (f : Addr) (F : Hp) : Prop where
  fn : ∀ H h, Same F H → HOk P w H h → PySem.W.FnAt f h
  run : ∀ (A : Around) (outer : List Env) (s : Shared) (H : Hp) (Q : VK) (E : XK), Room k A → Env0 P w K mg base A outer s H → Same F H → LSp K TS (fun _ B q x => sp B q x) [] H Q E → codeAny (model P w) A (.call (.ref f) ⟨[], []⟩) (CR (L2.CX P w) outer P w H s Q E) s
theorem Cal.mono {P : Program} {w : World} {K : PySem.W.Frag} {mg : Str → Option Value} {base : Heap} {TS : List Addr} {k : Nat} {sp : Bx → DK → XD → Prop} {f : Addr} {F F' : Hp} (c : Cal P w K mg base TS k sp f F) (e : Same F F') : Cal P w K mg base TS k sp f F' :=
  ⟨fun H h e2 => c.fn H h (e.trans e2), fun A outer s H Q E hr e0 e2 => c.run A outer s H Q E hr e0 (e.trans e2)⟩
abbrev CalP := (Bx → DK → XD → Prop) → Addr → Hp → Prop
/-- x(), x a name that holds such a thing -/
def dCallV (cal : CalP) (i : Nat) : DTE := fun Γ B q x => ∃ φ sp, getS Γ i = some (.obj φ) ∧ (∀ f F, φ f F → cal sp f F) ∧ sp B q x
section
variable {X : Cx} {TS : List Addr} {W : WX} {k : Nat} {a : Str} {p1 p2 : Pos}
theorem de_callV (i : Nat) (hr : Room k X.A) (tk : Takes X W) (hN : X.N[i]? = some a := by rfl) (hv : Vis X.env.scope a := by first | exact Or.inl rfl | exact Or.inr (Or.inl rfl) | exact Or.inr (Or.inr rfl)) (hd : (a == ("__debug__" : Str)) = false := by decide) (hcd : (a == ("__classdict__" : Str)) = false := by decide) :
    DE X TS W (.Call (.Name a p1) [] [] p2) (dCallV (fun sp f F => Cal X.prog X.w X.K X.mg X.base TS k sp f F) i) := by
  refine ⟨fun pins s σ H Q I ⟨F, Γ, B, R, q, x, sl, rp, h, hq, hx⟩ => ?_⟩
  obtain ⟨φ, sp, h1, h2, h3⟩ := h
  obtain ⟨v, hv1, b, ev, hφ⟩ := sl.at_ i _ (getS_at h1)
  subst ev
  refine wpAny_Call_Name_kw (thn ((pe_var (pos := p1) (i := i) hN hv hd hcd).run pins s σ H (fun v' H1 => v' = .ref b ∧ H1 = H) I ⟨.ref b, hv1, rfl, rfl⟩) fun u s1 ⟨v', H1, I1, r1, q1⟩ => ?_)
  obtain ⟨e1, e2⟩ := q1
  subst e1
  rw [e2] at I1
  obtain rfl : u = Value.ref b := r1
  have C := h2 b F (hφ F (Same.refl F))
  refine PySem.W.callWith_F0 (C.fn H s1.heap rp.le I1.hok) ?_
  refine wpAny_call (codeAny_mono (C.run X.A X.stack s1 H Q (WE W σ) hr I1.env0 rp.le ⟨F, [], B, R, q, x, Dvs.nil, rp, h3, hq, fun C' B' F' H' h e rp' => hx C' B' F' H' h e rp'⟩) fun r s' hq2 => ?_)
  cases r with
  | error e => exact passAt tk σ pins H s1 e s' I1 hq2
  | ok fl =>
    cases fl with
    | ret u => exact I1.after hq2
    | next => exact False.elim hq2
    | brk => exact False.elim hq2
    | cont => exact False.elim hq2
end
/-! ### the making -/
/-- the function object at f of a lambda -/
def LamO (f : Addr) (q : Str) (params : Arguments) (body : Expr) (scope : Scope) (pm ctv : Value) (c' : Addr) : HO := .ext fun h => h.get? f = some (PySem.W.kla_obj "<lambda>" q params body scope [] pm c' ctv)
/-- no parameter, no name of its own, none captured -/
structure LamC (scope : Scope) : Prop where
  kind : scope.kind = .function
  co : scope.isCoroutine = false
  gen : scope.isGenerator = false
  own : ∀ y ∈ scope.names, y.2 ≠ .local ∧ y.2 ≠ .cell ∧ y.2 ≠ .free
def lamCB (scope : Scope) : Bool := decide (scope.kind = .function) && !scope.isCoroutine && !scope.isGenerator && scope.names.all fun y => !decide (y.2 = .local) && !decide (y.2 = .cell) && !decide (y.2 = .free)
theorem lamC_by {scope : Scope} (h : lamCB scope = true) : LamC scope := by
  unfold lamCB at h
  simp only [Bool.and_eq_true, Bool.not_eq_true', decide_eq_true_eq, decide_eq_false_iff_not, List.all_eq_true] at h
  obtain ⟨⟨⟨h1, h2⟩, h3⟩, h4⟩ := h
  exact ⟨h1, h2, h3, fun y hy => ⟨(h4 y hy).1.1, (h4 y hy).1.2, (h4 y hy).2⟩⟩
theorem clo_none (cells : List (Str × Addr)) : ∀ (names : List (Str × NameKind)), (∀ y ∈ names, y.2 ≠ .free) → cloFrom cells names [] = []
  | [], _ => rfl
  | (n, k) :: r, h => by
    unfold cloFrom
    have hk : ¬ ((k == NameKind.free) = true) := fun e => h (n, k) List.mem_cons_self (by simpa using e)
    rw [if_neg hk]
    exact clo_none cells r fun y hy => h y (List.mem_cons_of_mem _ hy)
abbrev lamE (qual : Str) (scope : Scope) (L f c' : Addr) : Env := PySem.W.envX qual scope L f (.ref c') []
/-- the surroundings of a lambda's body -/
def lamX (P : Program) (w : World) (K : PySem.W.Frag) (mg : Str → Option Value) (base : Heap) (qual : Str) (scope : Scope) (f c' : Addr) (A : Around) (outer : List Env) (s : Shared) (H : Hp) (E : XK) : Cx where
  prog := P
  w := w
  K := K
  mg := mg
  base := base
  A := A.deeper (lamE qual scope s.heap.objs.size f c')
  N := []
  s_0 := s
  H_0 := H
  env := lamE qual scope s.heap.objs.size f c'
  outer := outer
  stack := lamE qual scope s.heap.objs.size f c' :: outer
  ex := []
  fn := fun _ => false
  calm := true
  pn := []
  xe := fun e s' => wpAny (model P w) (A.deeper (lamE qual scope s.heap.objs.size f c')) (leaving (lamE qual scope s.heap.objs.size f c') e) (fun _ s'' => L2.CX P w outer H s E e s'') (fun e' s'' => L2.CX P w outer H s E e' s'') s'
section
variable {P : Program} {w : World} {K : PySem.W.Frag} {mg : Str → Option Value} {base : Heap} {TS : List Addr} {H : Hp} {s : Shared}
theorem lam_enter {A : Around} {outer : List Env} {E : XK} {qual : Str} {scope : Scope} {f c' : Addr} {h₁ : Heap} {tk : Nat} (L : LamC scope) (e0 : Env0 P w K mg base A outer s H) (hd : A.handled = none)
    (hns : h₁.Ns s.heap.objs.size fun y => ([] : List (Str × Value)).reverse.lookup y) (kp : ∀ b o, s.heap.get? b = some o → h₁.get? b = some o) :
    Inv (lamX P w K mg base qual scope f c' A outer s H E) [] [] H { s with heap := h₁, toks := tk } := by
  have noA : ∀ b : Addr, b ∉ (lamX P w K mg base qual scope f c' A outer s H E).ex := fun b z => absurd (show b ∈ ([] : List Addr) from z) (by simp)
  refine ⟨⟨e0.mod, L.kind, rfl, rfl, Nat.le_refl _, fun y z c e1 e2 => ?_, fun y hy => ?_, fun y c z _ => ?_, fun _ => hd, Around.frames_deeper e0.frames, .inr ⟨rfl, rfl⟩, fun b z => absurd z (noA b), e0.bs, e0.bsz, fun b _ _ => noA b,
      fun b z => absurd z (noA b), e0.funs, e0.frf⟩,
    rfl, e0.bare, Un.kept kp, ⟨_, hns, fun i y v e1 e2 e3 => ?_⟩, fun y c e => ?_, e0.hok.fresh (Nat.le_refl _), fun y c e => ?_, fun q hq => absurd (show q ∈ ([] : List (Addr × Obj)) ++ [] from hq) (by simp), e0.hok.kept kp, rfl⟩
  · have e1 : ([] : List (Str × Addr)).lookup y = some c := e1
    cases e1
  · have hy : scope.names.lookup y = some .cell ∨ scope.names.lookup y = some .free := hy
    rcases hy with hy | hy
    · exact absurd rfl (L.own _ (PySem.mem_of_lookup hy)).2.1
    · exact absurd rfl (L.own _ (PySem.mem_of_lookup hy)).2.2
  · have z : false = true := z
    cases z
  · have e1 : ([] : List Str)[i]? = some y := e1
    simp at e1
  · have e : ([] : List (Str × Addr)).lookup y = some c := e
    cases e
  · have e : ([] : List (Str × Addr)).lookup y = some c := e
    cases e
/-- a lambda keeps its promise by its body -/
theorem cal_of {k : Nat} {sp : Bx → DK → XD → Prop} {f c' : Addr} {F : Hp} {q : Str} {params : Arguments} {body : Expr} {scope : Scope} {pm ctv : Value} (hF : F f = some (LamO f q params body scope pm ctv c')) (hC : F c' = some (LamX.CodeO c' q)) (L : LamC scope)
    (hbind : ∀ (pm cv ctv : Value), bindArgs (PySem.W.kla_fn "<lambda>" q params body scope [] pm cv ctv) ⟨[], []⟩ = pure [])
    (hbody : ∀ (A : Around) (outer : List Env) (s : Shared) (H : Hp) (E : XK), InBody (lamX P w K mg base q scope f c' A outer s H E) (wE E) k → ∃ t, DE (lamX P w K mg base q scope f c' A outer s H E) TS (wE E) body t ∧ ∀ B q x, sp B q x → t [] B q x) :
    Cal P w K mg base TS (k + 1) sp f F := by
  have obj : ∀ H h, Same F H → HOk P w H h → h.get? f = some (PySem.W.kla_obj "<lambda>" q params body scope [] pm c' ctv) := fun H h e hok => (hok f _ (e _ _ hF)).1
  refine ⟨fun H h e hok => ⟨_, _, _, _, obj H h e hok⟩, fun A outer s H Q E hr e0 e hsp => ?_⟩
  obtain ⟨F1, ds, B, R, q1, x, h1, h2, h3, h4, h5⟩ := hsp
  have of1 := obj H s.heap e e0.hok
  obtain ⟨⟨oc, vs, t, hoc, hdc, hvc⟩, _, _⟩ := e0.hok c' _ (e _ _ hC)
  refine PySem.W.kla_callFunE hr.depth of1 rfl L.co L.gen rfl ⟨c', oc, vs, t, rfl, hoc, hdc, hvc⟩ ?_
  have lim : s.heap.NoLimit := e0.mod.nolimit.keeps fun b o e => (e0.bs b o e).1
  rw [hbind]
  refine wpAny_pure (wpAny_newFunctionEnv (fun y hy => (L.own y hy).2.1) (fun y hy => absurd hy (by simp)) (fun h₁ hns hsb => ⟨lim.fresh _ hsb, ?_⟩) L.kind)
  show codeAny _ _ (.expr body (lamE q scope s.heap.objs.size f c')) _ _
  have kp : ∀ b o, s.heap.get? b = some o → h₁.get? b = some o := fun b o e => hsb.extBut b o (Nat.ne_of_lt (Heap.lt_size e)) (Heap.get?_push_of_some _ e)
  have J : Inv (lamX P w K mg base q scope f c' A outer s H E) [] [] H { s with heap := h₁, toks := s.toks + ([] : List (Str × Value)).length } := lam_enter L e0 hr.hd hns kp
  obtain ⟨t', ht, hq⟩ := hbody A outer s H E ⟨hr.deeper _, takes_of rfl rfl rfl rfl, passes_of rfl⟩
  refine PySem.W.kla_codeExpr (wpAny_mono (ht.run [] _ _ H Q J ⟨F1, [], B, R, q1, x, ⟨rfl, fun i d e => by simp at e⟩, h2, hq B q1 x h3, h4, fun C B' F' H' h e rp' => h5 C B' F' H' h e rp'⟩) (fun v s' hq2 => ?_) fun e s' hq2 => hq2)
  obtain ⟨w', H', J', rv, q2⟩ := hq2
  exact ⟨w', H', J'.os, J'.bare, J'.base, J'.hok, rv, q2⟩
end
/-- lambda: body -/
def dLam (Pt : Addr) (q : Str) (φ : Addr → Hp → Prop) : DTE := fun _ B k _ => B Pt = some (.tabQ q) ∧ k (.obj φ) B
section
variable {X : Cx} {TS : List Addr} {W : WX} {c Pt : Addr} {params : Arguments} {body : Expr} {scope : Scope} {pos : Pos} {φ : Addr → Hp → Prop} {nm : Str}
theorem de_lam (TB : LamX.TabB X.base X.mg c Pt) (L : LamC scope) (hφ : ∀ (f c' : Addr) (pm ctv : Value) (F : Hp), F f = some (LamO f nm params body scope pm ctv c') → F c' = some (LamX.CodeO c' nm) → φ f F)
    (hcode : X.env.code = .ref c := by rfl) (hnm : nm = X.env.qual ++ "<lambda>" := by rfl) (hdef : defaultsOf params X.env = ([], []) := by rfl) : DE X TS W (.Lambda params body scope pos) (dLam Pt nm φ) := by
  refine ⟨fun pins s σ H Q I ⟨F, Γ, B, R, q, x, sl, rp, h, hq, hx⟩ => ?_⟩
  obtain ⟨hPt, h⟩ := h
  subst hnm
  have nof : ∀ y ∈ scope.names, y.2 ≠ .free := fun y hy => (L.own y hy).2.2
  have hcl : closureFor scope X.env = pure [] := by
    rw [closure_ok (fun y hy e => absurd e (nof y hy)), clo_none _ _ nof]
  obtain ⟨nFP, ps, hP, ht, ha⟩ := rp.bx Pt _ hPt
  refine PySem.W.kla_eval hdef ?_
  have bP : s.heap.BuiltinsAt X.mg Pt := TB.bm.keeps I.bk
  have hP' : s.heap.get? Pt = some { cls := .none, data := .fields ps } := I.hok Pt _ hP
  -- the last step: the function object
  have fin : ∀ (c' : Addr) (pm ctv : Value) (H1 F1 : Hp) (s1 : Shared), Inv X pins σ H1 s1 → Same F F1 → RepH X.K TS F1 H1 B R → F1 c' = some (LamX.CodeO c' (X.env.qual ++ "<lambda>")) →
      EP X pins σ Q (.ref s1.heap.objs.size) { s1 with heap := s1.heap.push (PySem.W.kla_obj "<lambda>" (X.env.qual ++ "<lambda>") params body scope [] pm c' ctv) } := fun c' pm ctv H1 F1 s1 I1 e1 rp1 hc' => by
    have hn : H1 s1.heap.objs.size = none := I1.hok.fresh (Nat.le_refl _)
    have ob : ObjOk X.prog X.w (upd H1 s1.heap.objs.size (LamO s1.heap.objs.size (X.env.qual ++ "<lambda>") params body scope pm ctv c')) (s1.heap.push (PySem.W.kla_obj "<lambda>" (X.env.qual ++ "<lambda>") params body scope [] pm c' ctv)) s1.heap.objs.size (LamO s1.heap.objs.size (X.env.qual ++ "<lambda>") params body scope pm ctv c') :=
      ⟨Heap.get?_push_size _ rfl, ⟨_, Heap.get?_push_size _ rfl⟩, fun h1 h2 z st => st _ z⟩
    have I2 := I1.laid (t' := s1.toks) (fun b o e => Heap.get?_push_of_some _ e) (Nat.le_refl _) ob
    have rp2 := rp1.datum (o := LamO s1.heap.objs.size (X.env.qual ++ "<lambda>") params body scope pm ctv c') hn
    have sm : Same F1 (upd F1 s1.heap.objs.size (LamO s1.heap.objs.size (X.env.qual ++ "<lambda>") params body scope pm ctv c')) := same_upd (rp1.freeF hn)
    refine ⟨.ref _, _, I2, rfl, hq _ B _ _ _ h (e1.trans sm) rp2 ⟨_, rfl, fun F2 e2 => ?_⟩⟩
    exact hφ _ c' pm ctv F2 (e2 _ _ upd_same) (e2 _ _ (sm _ _ hc'))
  cases hc : codeAmong pos ps.toList with
  | none =>
    refine PySem.W.kla_makeFunction (mg := X.mg) (c := c) (P := Pt) (ps := ps) hcl I.ok.glob (I.mod.glob.keeps I.bk) hcode (TB.code.keeps I.bk) hP' ht hc TB.gP bP fun c' ctv h' tk hx2 hge hlt hrec htb => ?_
    obtain ⟨c2, oc, vs, t, e2, hoc, hd, hv⟩ := hrec
    cases e2
    have nC : H c' = none := I.hok.fresh hge
    have nPc : Pt ≠ c' := ne_of_none hP nC
    have I1 := LamX.inv_table (t' := tk) (q := X.env.qual ++ "<lambda>") (more := #[rawInt pos.line, rawInt pos.col, .ref c']) (h' := h') I hP (fun b o hb e => hx2 b o hb e) htb hge ⟨oc, vs, t, hoc, hd, hv⟩
    have rp1 := rp.datum (o := LamX.CodeO c' (X.env.qual ++ "<lambda>")) nC
    have sm : Same F (upd F c' (LamX.CodeO c' (X.env.qual ++ "<lambda>"))) := same_upd (rp.freeF nC)
    have eL : (ps ++ #[rawInt pos.line, rawInt pos.col, .ref c']).toList = ps.toList ++ [rawInt pos.line, rawInt pos.col, .ref c'] := by simp
    have rp2 := rp1.write (b := .tabQ (X.env.qual ++ "<lambda>")) (o := .tbl (ps ++ #[rawInt pos.line, rawInt pos.col, .ref c'])) hPt ⟨_, upd_same, by rw [eL]; exact PySem.TriplesOk_snoc _ _ _ _ ht, fun p' cv hcv => by
      rw [eL] at hcv
      rcases LamX.among_app _ ht hcv with z | z
      · obtain ⟨c0, e1, e2⟩ := ha p' cv z
        exact ⟨c0, e1, sm _ _ e2⟩
      · exact ⟨c', z, upd_same⟩⟩
    rw [put_eq hPt] at rp2
    have eH : upd (upd H c' (LamX.CodeO c' (X.env.qual ++ "<lambda>"))) Pt (.tbl (ps ++ #[rawInt pos.line, rawInt pos.col, .ref c'])) = upd (upd H Pt (.tbl (ps ++ #[rawInt pos.line, rawInt pos.col, .ref c']))) c' (LamX.CodeO c' (X.env.qual ++ "<lambda>")) := by
      funext b
      by_cases h1 : b = c'
      · subst h1; rw [upd_ne (Ne.symm nPc), upd_same, upd_same]
      · rw [upd_ne h1]
        by_cases h2 : b = Pt
        · subst h2; rw [upd_same, upd_same]
        · rw [upd_ne h2, upd_ne h2, upd_ne h1]
    rw [eH] at rp2
    exact fin c' _ ctv _ _ { s with heap := h', toks := tk } I1 sm rp2 upd_same
  | some cv =>
    obtain ⟨c', e, hco⟩ := ha pos cv hc
    subst e
    refine PySem.W.kla_makeFunctionHit (mg := X.mg) (c := c) (P := Pt) (ps := ps) hcl I.ok.glob (I.mod.glob.keeps I.bk) hcode (TB.code.keeps I.bk) hP' ht hc bP fun ctv h' tk hx2 hsz => ?_
    have I1 : Inv X pins σ H { s with heap := h', toks := tk } := I.kept fun b o e => hx2 b o e
    exact fin c' _ ctv H F { s with heap := h', toks := tk } I1 (Same.refl F) rp hco
end
end DL
set_option Elab.async false
set_option linter.all false
set_option maxRecDepth 100000
set_option maxHeartbeats 2000000
/-! DL15: try: .. except X: .. -/
namespace DL
open PySem PySem.Spec PyProof.Rows L2
/-- yes: whether the clause takes an error of that class -/
def dTry (yes : Addr → Option Bool) (t u : DTS) : DTS := fun E Γ B => t { E with ex := fun Γ' C B' => ∃ b, yes C = some b ∧ (b = true → u { E with ex := fun _ => noX } Γ' B') ∧ (b = false → E.ex Γ' C B') } Γ B
section
variable {X : Cx} {TS : List Addr} {W : WX} {x : Str} {c : Value} {body suite : List Stmt} {b₀ : Stmt} {np pos pos' : Pos} {t u : DTS}
theorem ds_try (hs : X.stack = X.env :: X.outer) (hf : X.env.frame = some X.env.locals) (hc : Names X x c) (tk : Takes X W)
    (hb : ∀ (W : WX) (pn : List (Addr × Obj)) (xe : Value → Shared → Prop), Takes (X.tr pn xe) W → PassesOwn (model X.prog X.w) X.A X.env xe → DSs (X.tr pn xe) TS W body t)
    (hsu : ∀ (a : Addr) (oe : Obj) (cls : Value) (d : Option Addr) (pn : List (Addr × Obj)), DSs (X.suite a ((a, oe) :: pn)) TS W0 (b₀ :: suite) u) :
    DS X TS W (.Try body [.ExceptHandler (some (.Name x np)) none (b₀ :: suite) pos'] [] [] pos) (dTry (fun C => PySem.W.exmOne X.K (.ref C) c) t u) :=
  PS_imp (ps_try_only (tb := fun W => LS X.K TS W t) (ts := fun _ _ _ => LS X.K TS W0 u) (Wout := W) hs hf hc tk (fun W pn xe tk po => hb W pn xe tk po) (fun a oe cls d pn _ _ => hsu a oe cls d pn)) fun D σ H ⟨F, Γ, B, R, E, s, rp, hu, hE⟩ => by
    refine ⟨F, Γ, B, R, _, s, rp, hu, ⟨hE.nx, hE.rt, hE.bk, hE.ct, fun σ' Γ' F' e s' C B' F2 H2 hn e2 rp2 => ?_⟩⟩
    obtain ⟨b, h1, h2, h3⟩ := hn
    have hE2 := hE.mono (e.trans e2)
    refine ⟨b, h1, fun hb a _ => ?_, fun hb => hE.ex σ' Γ' F' e s' C B' F2 H2 (h3 hb) e2 rp2⟩
    exact ⟨F2, Γ', B', R, { E with ex := fun _ => noX }, s'.mono e2, rp2, h2 hb, ⟨hE2.nx, hE2.rt, hE2.bk, hE2.ct, fun _ _ _ _ _ => XL.noX⟩⟩
end
section
variable {fa : List He.Fa} {fn : List He.DefD} {tf tl : List He.Defn} {K : PySem.W.Frag} {mg : Str → Option Value} {base : Heap}
theorem Mo.glo (E : Mo fa fn tf tl K mg base) (x : Str) (h : He.Fa.glo x ∈ fa) : mg x = some (.ref (He.ga K x)) := He.glo_ok E.X E.G (E.c.facts h)
theorem Mo.exm (E : Mo fa fn tf tl K mg base) (x y : Str) (b : Bool) (h : He.Fa.exm x y b ∈ fa) : PySem.W.exmOne K (.ref (He.ga K x)) (.ref (He.ga K y)) = some b := He.exm_ok (E.c.facts h)
end
theorem InBody.tr {X : Cx} {W W' : WX} {k : Nat} {pn : List (Addr × Obj)} {xe : Value → Shared → Prop} (I : InBody X W k) (tk : Takes (X.tr pn xe) W') (po : PassesOwn (model X.prog X.w) X.A X.env xe) : InBody (X.tr pn xe) W' k := ⟨I.room, tk, po⟩
end DL
set_option Elab.async false
set_option linter.all false
set_option maxRecDepth 100000
set_option maxHeartbeats 2000000
/-! DL16: the end of a law. -/
namespace DL
open PySem PySem.Spec PyProof.Rows L2
section
variable {fa : List He.Fa} {fn : List He.DefD} {tf tl : List He.Defn} {P : Program} {w : World} {K : PySem.W.Frag} {mg : Str → Option Value} {base : Heap}
/-- THE RULE for a def, of the very function object -/
theorem okF {d : He.DefD} {x : Str} {N ps : List Str} {k : Nat} {sp : SpD} {fd : FuncData} (F : FunD K d.name d.qual d.params d.body d.scope (d.dvs K) (d.kws K) (He.fAd K d.at_) fd) (hat : d.at_ = (x, none)) (S : FnScope N ps d.scope)
    (len : ∀ ds B q x, sp ds B q x → ds.length = ps.length)
    (hbody : ∀ (f : Addr) (A : Around) (outer : List Env) (s : Shared) (H : Hp) (Ex : XK), InBody (bodyX P w K mg base N d.qual d.scope f (He.codeOf K (x, none)) A outer s H Ex) (wE Ex) k →
      ∃ t, DSs (bodyX P w K mg base N d.qual d.scope f (He.codeOf K (x, none)) A outer s H Ex) (tsOf tf K) (wE Ex) d.body t ∧ ∀ ds B q x, sp ds B q x → t (endsD q x) (startD N ds) B) :
    FnD P w K mg base (tsOf tf K) (k + 1) (He.fAd K d.at_) fd ps sp := by
  obtain ⟨oc, od, dV, kV, doc, pm, an, cdv, ct, osl, rfl, lk, hcd, _, _⟩ := F.ex
  obtain ⟨c, ec⟩ := He.codeIn_ref hcd
  subst ec
  have e1 : He.codeOf K (x, none) = c := by
    rw [← hat]
    exact He.codeOf_eq lk rfl
  subst e1
  have hpl : ps.length ≤ N.length := by have := congrArg List.length S.pre; rw [List.length_take] at this; omega
  refine fn_of lk hcd S (fun vs H Q E ⟨F, ds, B, R, q, x, h1, h2, h3, h4, h5⟩ => by rw [h1.length]; exact len ds B q x h3) fun A outer s H vs Q Ex hr hsp => ?_
  obtain ⟨F', ds, B, R, q, xx, h1, h2, h3, h4, h5⟩ := hsp
  obtain ⟨t, ht, hq⟩ := hbody _ A outer s H Ex ⟨hr, takes_of rfl rfl rfl rfl, passes_of rfl⟩
  refine ⟨_, ht, F', startD N ds, B, R, _, slots_start h1 (by rw [h1.length, len ds B q xx h3]; exact hpl), h2, hq ds B q xx h3, ?_⟩
  refine ⟨fun Γ' B' F' σ' H' hn e s' rp => ?_, fun d B' F' H' v hn e rp dv => ?_, fun _ _ _ _ _ z => z.elim, fun _ _ _ _ _ z => z.elim, fun σ' Γ' F' e s' C B' F2 H2 hn e2 rp => ?_⟩
  · obtain ⟨B'', hf, hn⟩ := hn
    exact h4 _ _ _ _ _ hn e (rp.few hf) rfl
  · obtain ⟨B'', hf, hn⟩ := hn
    exact h4 _ _ _ _ _ hn e (rp.few hf) dv
  · obtain ⟨B'', hf, hn⟩ := hn
    exact h5 _ _ _ _ hn (e.trans e2) (rp.few hf)
/-- the boxes at the start: the tables of the defs with lambdas -/
def startB (tl : List He.Defn) (nm : He.Defn → Str) (K : PySem.W.Frag) : Bx := fun b => (tl.find? fun p => decide ((He.cT K p).2 = b)).map fun p => .tabQ (nm p)
theorem startB_some {nm : He.Defn → Str} {b : Addr} {x : Box} (h : startB tl nm K b = some x) : ∃ p ∈ tl, (He.cT K p).2 = b ∧ x = .tabQ (nm p) := by
  unfold startB at h
  obtain ⟨p, h1, h2⟩ := Option.map_eq_some_iff.mp h
  exact ⟨p, List.mem_of_find?_eq_some h1, by simpa using List.find?_some h1, h2.symm⟩
theorem startB_at {nm : He.Defn → Str} (hinj : ∀ p ∈ tl, ∀ r ∈ tl, (He.cT K p).2 = (He.cT K r).2 → nm p = nm r) {p : He.Defn} (hp : p ∈ tl) : startB tl nm K (He.cT K p).2 = some (.tabQ (nm p)) := by
  cases h : tl.find? fun r => decide ((He.cT K r).2 = (He.cT K p).2) with
  | none => exact absurd (List.find?_eq_none.mp h p hp) (by simp)
  | some r =>
    unfold startB
    rw [h]
    have h1 := List.mem_of_find?_eq_some h
    have h2 : (He.cT K r).2 = (He.cT K p).2 := by simpa using List.find?_some h
    show some (Box.tabQ (nm r)) = _
    rw [hinj r h1 p hp h2]
theorem law_at {l : PySem.W.OpenLaw} {h : Heap} {fA : Addr} {ex : PySem.W.Frag → Bool} {d : He.DefD} {k : Nat} {spL : SpD} {nm : He.Defn → Str} (KX : K.In h) (G : h.Ns mainGlobals mg) (c : He.SaysX fa fn [] (tf ++ tl) ex w h K) (hd : d ∈ fn) (hat : d.at_ = (("law" : Str), none)) (hdf : d.dfl = [])
    (hg : He.Fa.glo "law" ∈ fa) (hfa : mg "law" = some (.ref fA))
    (hbn : ∀ (kV doc pm : Value) (an : Option Addr) (cdv ct : Value) (us : List Value), us.length = (["script"] : List Str).length → bindArgs (PySem.W.fnOf d.name d.qual d.params d.body d.scope .none kV doc pm an cdv ct) ⟨us, []⟩ = pure ((["script"] : List Str).zip us))
    (hdis : ∀ p ∈ tl, (He.cT K p).2 ∉ tsOf tf K) (hinj : ∀ p ∈ tl, ∀ r ∈ tl, (He.cT K p).2 = (He.cT K r).2 → nm p = nm r)
    (okL : ∀ (base : Heap) (fd : FuncData), Mo fa fn tf tl K mg base → FunD K d.name d.qual d.params d.body d.scope (d.dvs K) (d.kws K) (He.fAd K d.at_) fd → FnD l.prog w K mg base (tsOf tf K) k (He.fAd K d.at_) fd ["script"] spL)
    (hsp : ∀ (ns : List Int) (B : Bx) (q : DK) (x : XD), ns.length ≤ 63 → (∀ z ∈ ns, Builtin.Int.intBits z ≤ 1048576) → (∀ p ∈ tl, B (He.cT K p).2 = some (.tabQ (nm p))) → (∀ B', q (.bl true) B') → spL [.rol (ns.map .int)] B q x) :
    LamX.LawAtS l w K (L2.CX l.prog w) k 63 "script" mg fA h := by
  obtain ⟨fd, F⟩ := c.t.d.defs hd
  have hD : d.dvs K = [] := by unfold He.DefD.dvs; rw [hdf]; rfl
  have eA : He.fAd K d.at_ = fA := by
    have e1 := He.glo_ok KX G (c.t.d.facts hg)
    rw [hfa] at e1
    injection e1 with e1
    injection e1 with e1
    rw [e1, hat]
    rfl
  refine ⟨fd, (tf ++ tl).map (He.cT K), LSp K (tsOf tf K) spL, fun p hp => ?_, fun p hp => ?_, fun p hp => ?_, fun s u => ?_, fun H a ns hl hbits hT hS => ?_, fun base hK hns hTB => ?_⟩
  · obtain ⟨r, hr, rfl⟩ := List.mem_map.mp hp
    exact c.empty r hr
  · obtain ⟨r, hr, rfl⟩ := List.mem_map.mp hp
    exact c.out r hr
  · obtain ⟨r, hr, rfl⟩ := List.mem_map.mp hp
    exact PySem.W.codeHd_of_K KX (c.hd r hr)
  · rw [hD] at F
    exact F.bindsA hbn s [u] rfl
  · -- the start
    have tab : ∀ b, b ∈ tsOf tf K ∨ (∃ p ∈ tl, (He.cT K p).2 = b) → H b = some (.tbl #[]) := fun b hb => by
      rcases hb with hb | ⟨p, hp, rfl⟩
      · obtain ⟨p, hp, rfl⟩ := List.mem_map.mp hb
        exact hT _ (List.mem_map.mpr ⟨p, List.mem_append_left _ hp, rfl⟩)
      · exact hT _ (List.mem_map.mpr ⟨p, List.mem_append_right _ hp, rfl⟩)
    refine ⟨fun b => match H b with | some (.tbl _) => none | o => o, [.rol (ns.map .int)], startB tl nm K, fun b => if b ∈ tsOf tf K then some .tab else none, fun d _ => d = .bl true, fun _ _ => False, ?_, ⟨fun b o e => ?_, fun b x e => ?_, fun b x e => ?_, fun b => ?_, fun b hb => if_pos hb⟩, ?_, fun d B' F' H' v hq e rp dv => ?_, fun C B' F' H' hx => hx.elim⟩
    · refine ⟨.ref a, [], rfl, ⟨a, ns.map V.int, rfl, ?_, Dvs.ofInts ns⟩, rfl⟩
      rcases hS with (h1 | ⟨o, h1⟩) | h1
      · exact .inl (.inl (by show (match H a with | some (.tbl _) => none | o => o) = _; rw [h1]))
      · exact .inl (.inr ⟨o, by show (match H a with | some (.tbl _) => none | o => o) = _; rw [h1]⟩)
      · exact .inr h1
    · have e : (match H b with | some (.tbl _) => none | o => o) = some o := e
      split at e
      · cases e
      · exact e
    · obtain ⟨p, hp, rfl, rfl⟩ := startB_some e
      have ht := tab _ (.inr ⟨p, hp, rfl⟩)
      refine ⟨by show (match H _ with | some (.tbl _) => none | o => o) = none; rw [ht], #[], ht, True.intro, fun pos cv hc => ?_⟩
      have hc : codeAmong pos [] = some cv := hc
      simp [codeAmong] at hc
    · have e : (if b ∈ tsOf tf K then some Box.tab else none) = some x := e
      by_cases hb : b ∈ tsOf tf K
      · rw [if_pos hb] at e
        cases e
        have ht := tab b (.inl hb)
        exact ⟨by show (match H b with | some (.tbl _) => none | o => o) = none; rw [ht], #[], ht, True.intro⟩
      · rw [if_neg hb] at e
        cases e
    · by_cases hb : b ∈ tsOf tf K
      · cases e : startB tl nm K b with
        | none => exact .inl rfl
        | some x =>
          obtain ⟨p, hp, rfl, _⟩ := startB_some e
          exact absurd hb (hdis p hp)
      · exact .inr (if_neg hb)
    · exact hsp ns _ _ _ hl hbits (fun p hp => startB_at hinj hp) fun _ => rfl
    · subst hq
      exact dv
  · rw [← eA]
    exact okL base fd ⟨c.t.d, hK, hns, fun p hp => hTB _ (List.mem_map.mpr ⟨p, List.mem_append_left _ hp, rfl⟩), fun p hp => hTB _ (List.mem_map.mpr ⟨p, List.mem_append_right _ hp, rfl⟩)⟩ F
end
end DL
set_option Elab.async false
set_option linter.all false
set_option maxRecDepth 100000
set_option maxHeartbeats 2000000
/-! PL1: plain laws: xor, nim products. -/
namespace PL
open PySem
theorem xor_and_sum : ∀ (n a b : Nat), a ≤ n → (a ^^^ b) + 2 * (a &&& b) = a + b
  | 0, a, b, h => by
    have : a = 0 := by omega
    subst this
    simp
  | n + 1, a, b, h => by
    by_cases ha : a = 0
    · subst ha; simp
    · have ih := xor_and_sum n (a / 2) (b / 2) (by omega)
      have h1 : (a ^^^ b) / 2 = a / 2 ^^^ b / 2 := Nat.xor_div_two
      have h2 : (a &&& b) / 2 = a / 2 &&& b / 2 := Nat.and_div_two
      have h3 : (a ^^^ b) % 2 = (a % 2) ^^^ (b % 2) := Nat.xor_mod_two_pow (n := 1)
      have h4 : (a &&& b) % 2 = (a % 2) &&& (b % 2) := Nat.and_mod_two_pow (n := 1)
      have e1 := Nat.div_add_mod (a ^^^ b) 2
      have e2 := Nat.div_add_mod (a &&& b) 2
      have e3 := Nat.div_add_mod a 2
      have e4 := Nat.div_add_mod b 2
      rw [h1, h3] at e1
      rw [h2, h4] at e2
      rcases Nat.mod_two_eq_zero_or_one a with e | e <;> rcases Nat.mod_two_eq_zero_or_one b with f | f <;> rw [e, f] at e1 e2 <;> simp at e1 e2 <;> omega
theorem bxN (a b : Nat) : Builtin.bitXor (a : Int) (b : Int) = ((a ^^^ b : Nat) : Int) := by
  rw [PyProof.Rows.bitXor_and]
  have h := xor_and_sum a a b (Nat.le_refl _)
  have e : Builtin.bitAnd (a : Int) (b : Int) = ((a &&& b : Nat) : Int) := by
    unfold Builtin.bitAnd
    have h1 : decide (0 ≤ (a : Int)) = true := decide_eq_true (by omega)
    have h2 : decide (0 ≤ (b : Int)) = true := decide_eq_true (by omega)
    rw [h1, h2]
    rfl
  rw [e]
  omega

/-! ### nim products -/
def lim : Nat → Nat
  | 0 => 0
  | 1 => 2
  | 2 => 4
  | 3 => 16
  | _ + 4 => 256
def half (m : Nat) : Nat := if 16 ≤ m then 16 else if 4 ≤ m then 4 else 2
def npN : Nat → Nat → Nat → Nat
  | 0, _, _ => 0
  | n + 1, a, b => if a < 2 ∨ b < 2 then a * b else
    (npN n (a / half (max a b)) (b % half (max a b)) ^^^ npN n (a % half (max a b)) (b / half (max a b)) ^^^ npN n (a / half (max a b)) (b / half (max a b))) * half (max a b) ^^^
      npN n (a % half (max a b)) (b % half (max a b)) ^^^ npN n (npN n (a / half (max a b)) (b / half (max a b))) (half (max a b) / 2)
theorem half_cases (m : Nat) : (16 ≤ m ∧ half m = 16) ∨ (4 ≤ m ∧ m < 16 ∧ half m = 4) ∨ (m < 4 ∧ half m = 2) := by
  unfold half
  by_cases h : 16 ≤ m
  · exact .inl ⟨h, if_pos h⟩
  · rw [if_neg h]
    by_cases h4 : 4 ≤ m
    · exact .inr (.inl ⟨h4, by omega, if_pos h4⟩)
    · exact .inr (.inr ⟨by omega, if_neg h4⟩)
theorem lim_div {n a m : Nat} (hn : n ≤ 3) (ha : a ≤ m) (h2 : 2 ≤ m) (hm : m < lim (n + 1)) : a / half m < lim n ∧ a % half m < lim n ∧ half m / 2 < lim n := by
  rcases half_cases m with ⟨h1, e⟩ | ⟨h1, h3, e⟩ | ⟨h1, e⟩ <;> rw [e] <;> (match n, hn with
    | 0, _ => (simp [lim] at hm; omega)
    | 1, _ => (simp [lim] at hm ⊢; omega)
    | 2, _ => (simp [lim] at hm ⊢; omega)
    | 3, _ => (simp [lim] at hm ⊢; omega))
theorem np_closed3 : ∀ n, n ≤ 3 → ∀ a, a < lim n → ∀ b, b < lim n → npN n a b < lim n := by decide +kernel
def invT : List Nat := [0, 1, 3, 2, 15, 12, 9, 11, 10, 6, 8, 7, 5, 14, 13, 4, 170, 160, 109, 107, 131, 139, 116, 115, 228, 234, 92, 89, 73, 77, 220, 209, 85, 214, 80, 219, 199, 179, 203, 184, 66, 226, 70, 236, 156, 247, 149, 248, 255, 182, 189, 240, 120, 164, 174, 127, 142, 100, 98, 134, 193, 152, 145, 205, 119, 207, 40, 227, 112, 195, 42, 237, 76, 28, 186, 97, 72, 29, 177, 103, 34, 218, 104, 253, 215, 32, 242, 110, 93, 27, 151, 123, 26, 88, 124, 158, 187, 75, 58, 135, 57, 143, 176, 79, 82, 252, 108, 19, 106, 18, 87, 243, 68, 194, 117, 23, 22, 114, 206, 64, 52, 165, 150, 91, 94, 159, 175, 55, 238, 146, 138, 20, 196, 222, 59, 99, 224, 155, 130, 21, 200, 211, 56, 101, 204, 62, 129, 239, 249, 46, 122, 90, 61, 192, 225, 137, 44, 246, 95, 125, 17, 171, 181, 212, 53, 121, 244, 232, 190, 217, 16, 161, 251, 230, 54, 126, 102, 78, 198, 37, 213, 162, 49, 254, 39, 202, 74, 96, 241, 50, 168, 216, 153, 60, 113, 69, 132, 223, 178, 36, 140, 210, 185, 38, 144, 63, 118, 65, 221, 31, 201, 141, 163, 180, 33, 84, 191, 169, 81, 35, 30, 208, 133, 197, 136, 154, 41, 67, 24, 235, 173, 250, 167, 245, 25, 229, 43, 71, 128, 147, 51, 188, 86, 111, 166, 233, 157, 45, 47, 148, 231, 172, 105, 83, 183, 48]
theorem inv_ok : ∀ a, a < 256 → 1 ≤ a → 1 ≤ invT.getD a 0 ∧ invT.getD a 0 < 256 ∧ npN 4 a (invT.getD a 0) = 1 := by decide +kernel

/-! ### cold pairs -/
def nx : Nat → List Int → Int → Option Int
  | 0, _, _ => none
  | f + 1, ms, l => if l ∈ ms then nx f ms (l + 1) else some l
def addK (ms : List Int) (m : Int) : List Int := if m ∈ ms then ms else ms ++ [m]
theorem addK_len (ms : List Int) (m : Int) : (addK ms m).length ≤ ms.length + 1 := by
  unfold addK
  split
  · omega
  · simp
/-- seen, least, the last pair, after n turns -/
def coldS : Nat → Option (List Int × Int × Int × Int)
  | 0 => some ([], 0, 0, 0)
  | n + 1 => match coldS n with
    | some (ms, l, _, _) => (nx 200 ms l).map fun l' => (addK (addK ms l') (l' + (n : Int)), l', l', l' + (n : Int))
    | none => none
theorem cold_ok : ∀ n, n < 61 → (coldS n).isSome = true := by decide +kernel
def coldP (k : Nat) : Int × Int := match coldS (k + 1) with
  | some (_, _, a, b) => (a, b)
  | none => (0, 0)
end PL
namespace DL
open PySem PySem.Spec PyProof.Rows L2
/-- a dict of marks -/
def kd (ms : List Int) : List (Key × D) := ms.map fun m => (.inl m, .bl true)
theorem kd_val (ms : List Int) (l : Int) : (valD (kd ms) (.inl l)).isSome = decide (l ∈ ms) := by
  induction ms with
  | nil => rfl
  | cons m ms ih =>
    show (valD ((.inl m, .bl true) :: kd ms) (.inl l)).isSome = _
    rw [valD_cons]
    by_cases h : m = l
    · subst h; simp
    · have h2 : ¬ ((Sum.inl m : Key) = Sum.inl l) := fun e => h (Sum.inl.inj e)
      rw [if_neg h2, ih]
      simp [Ne.symm h]
theorem kd_put (ms : List Int) (m : Int) : putD (kd ms) (.inl m) (.bl true) = kd (PL.addK ms m) := by
  unfold PL.addK
  by_cases h : m ∈ ms
  · rw [if_pos h]
    unfold putD
    have e : ((kd ms).any fun kv => decide (kv.1 = Sum.inl m)) = true := by
      rw [valD_any, kd_val]; exact decide_eq_true h
    rw [if_pos e]
    unfold kd
    rw [List.map_map]
    refine List.map_congr_left fun a _ => ?_
    show (if (Sum.inl a : Key) = Sum.inl m then (Sum.inl a, D.bl true) else (Sum.inl a, D.bl true)) = _
    split <;> rfl
  · rw [if_neg h]
    rw [putD_new _ (by
      have := kd_val ms m
      rw [decide_eq_false h] at this
      cases e : valD (kd ms) (Sum.inl m) with
      | none => rfl
      | some d => rw [e] at this; cases this)]
    unfold kd
    rw [List.map_append]
    rfl
end DL
set_option Elab.async false
set_option linter.all false
set_option maxRecDepth 100000
set_option maxHeartbeats 4000000
/-! PL2: nim products below 256: closed, commutative, associative, distributive over xor. -/
namespace PL
/-- the product with fixed halves: levels 1, 2, 4, 8 bits -/
def q1 (a b : Nat) : Nat := a * b
def ext (h : Nat) (f : Nat → Nat → Nat) (a b : Nat) : Nat :=
  (f (a / h) (b % h) ^^^ f (a % h) (b / h) ^^^ f (a / h) (b / h)) * h ^^^ f (a % h) (b % h) ^^^ f (f (a / h) (b / h)) (h / 2)
def q2 : Nat → Nat → Nat := ext 2 q1
def q4 : Nat → Nat → Nat := ext 4 q2
def q8 : Nat → Nat → Nat := ext 16 q4
theorem np1 : ∀ a, a < 2 → ∀ b, b < 2 → npN 1 a b = q1 a b := by decide +kernel
theorem np2 : ∀ a, a < 4 → ∀ b, b < 4 → npN 2 a b = q2 a b := by decide +kernel
theorem np3 : ∀ a, a < 16 → ∀ b, b < 16 → npN 3 a b = q4 a b := by decide +kernel
/-- bilinear below 2^n, with values below 2^n -/
structure Bil (n : Nat) (f : Nat → Nat → Nat) : Prop where
  cl : ∀ a b, a < 2 ^ n → b < 2 ^ n → f a b < 2 ^ n
  l : ∀ a b c, a < 2 ^ n → b < 2 ^ n → c < 2 ^ n → f (a ^^^ b) c = f a c ^^^ f b c
  r : ∀ a b c, a < 2 ^ n → b < 2 ^ n → c < 2 ^ n → f a (b ^^^ c) = f a b ^^^ f a c
theorem bil2 : Bil 2 q2 := ⟨by
    have h : ∀ a, a < 4 → ∀ b, b < 4 → q2 a b < 4 := by decide +kernel
    exact fun a b ha hb => h a ha b hb, by
    have h : ∀ a, a < 4 → ∀ b, b < 4 → ∀ c, c < 4 → q2 (a ^^^ b) c = q2 a c ^^^ q2 b c := by decide +kernel
    exact fun a b c ha hb hc => h a ha b hb c hc, by
    have h : ∀ a, a < 4 → ∀ b, b < 4 → ∀ c, c < 4 → q2 a (b ^^^ c) = q2 a b ^^^ q2 a c := by decide +kernel
    exact fun a b c ha hb hc => h a ha b hb c hc⟩
theorem bil4 : Bil 4 q4 := ⟨by
    have h : ∀ a, a < 16 → ∀ b, b < 16 → q4 a b < 16 := by decide +kernel
    exact fun a b ha hb => h a ha b hb, by
    have h : ∀ a, a < 16 → ∀ b, b < 16 → ∀ c, c < 16 → q4 (a ^^^ b) c = q4 a c ^^^ q4 b c := by decide +kernel
    exact fun a b c ha hb hc => h a ha b hb c hc, by
    have h : ∀ a, a < 16 → ∀ b, b < 16 → ∀ c, c < 16 → q4 a (b ^^^ c) = q4 a b ^^^ q4 a c := by decide +kernel
    exact fun a b c ha hb hc => h a ha b hb c hc⟩
theorem xdiv (a b : Nat) : (a ^^^ b) / 16 = a / 16 ^^^ b / 16 := Nat.xor_div_two_pow (n := 4)
theorem xmod (a b : Nat) : (a ^^^ b) % 16 = a % 16 ^^^ b % 16 := Nat.xor_mod_two_pow (n := 4)
theorem xmul (a b : Nat) : (a ^^^ b) * 16 = a * 16 ^^^ b * 16 := by
  have h := Nat.shiftLeft_xor_distrib (a := a) (b := b) (i := 4)
  rw [Nat.shiftLeft_eq, Nat.shiftLeft_eq, Nat.shiftLeft_eq] at h
  exact h
theorem xlt {a b : Nat} (ha : a < 256) (hb : b < 256) : a ^^^ b < 256 := Nat.xor_lt_two_pow (n := 8) ha hb
theorem xlt4 {a b : Nat} (ha : a < 16) (hb : b < 16) : a ^^^ b < 16 := Nat.xor_lt_two_pow (n := 4) ha hb
theorem bil8 : Bil 8 q8 := by
  have B := bil4
  refine ⟨fun a b ha hb => ?_, fun a b c ha hb hc => ?_, fun a b c ha hb hc => ?_⟩
  · have h1 : a / 16 < 2 ^ 4 := by omega
    have h2 : a % 16 < 2 ^ 4 := by omega
    have h3 : b / 16 < 2 ^ 4 := by omega
    have h4 : b % 16 < 2 ^ 4 := by omega
    have k : q4 (a / 16) (b % 16) ^^^ q4 (a % 16) (b / 16) ^^^ q4 (a / 16) (b / 16) < 16 := xlt4 (xlt4 (B.cl _ _ h1 h4) (B.cl _ _ h2 h3)) (B.cl _ _ h1 h3)
    have k2 := B.cl _ _ h2 h4
    have k3 : q4 (q4 (a / 16) (b / 16)) (16 / 2) < 2 ^ 4 := B.cl _ (16 / 2) (B.cl _ _ h1 h3) (by decide)
    exact xlt (xlt (by omega) (by omega)) (by omega)
  · have h1 : a / 16 < 2 ^ 4 := by omega
    have h2 : a % 16 < 2 ^ 4 := by omega
    have h3 : b / 16 < 2 ^ 4 := by omega
    have h4 : b % 16 < 2 ^ 4 := by omega
    have h5 : c / 16 < 2 ^ 4 := by omega
    have h6 : c % 16 < 2 ^ 4 := by omega
    show ext 16 q4 _ _ = ext 16 q4 _ _ ^^^ ext 16 q4 _ _
    unfold ext
    rw [xdiv, xmod, B.l _ _ _ h1 h3 h6, B.l _ _ _ h2 h4 h5, B.l _ _ _ h1 h3 h5, B.l _ _ _ h2 h4 h6, B.l _ _ _ (B.cl _ _ h1 h5) (B.cl _ _ h3 h5) (show 16 / 2 < 2 ^ 4 by decide)]
    rw [xmul, xmul, xmul, xmul, xmul, xmul, xmul, xmul, xmul]
    ac_rfl
  · have h1 : a / 16 < 2 ^ 4 := by omega
    have h2 : a % 16 < 2 ^ 4 := by omega
    have h3 : b / 16 < 2 ^ 4 := by omega
    have h4 : b % 16 < 2 ^ 4 := by omega
    have h5 : c / 16 < 2 ^ 4 := by omega
    have h6 : c % 16 < 2 ^ 4 := by omega
    show ext 16 q4 _ _ = ext 16 q4 _ _ ^^^ ext 16 q4 _ _
    unfold ext
    rw [xdiv, xmod, B.r _ _ _ h1 h4 h6, B.r _ _ _ h2 h3 h5, B.r _ _ _ h1 h3 h5, B.r _ _ _ h2 h4 h6, B.l _ _ _ (B.cl _ _ h1 h3) (B.cl _ _ h1 h5) (show 16 / 2 < 2 ^ 4 by decide)]
    rw [xmul, xmul, xmul, xmul, xmul, xmul, xmul, xmul, xmul]
    ac_rfl
theorem comm4 : ∀ a, a < 16 → ∀ b, b < 16 → q4 a b = q4 b a := by decide +kernel
theorem comm8 {a b : Nat} (ha : a < 256) (hb : b < 256) : q8 a b = q8 b a := by
  show ext 16 q4 _ _ = ext 16 q4 _ _
  unfold ext
  rw [comm4 (a / 16) (by omega) (b % 16) (by omega), comm4 (a % 16) (by omega) (b / 16) (by omega), comm4 (a / 16) (by omega) (b / 16) (by omega), comm4 (a % 16) (by omega) (b % 16) (by omega)]
  congr 3
  ac_rfl
def bits (a : Nat) : List Nat := [a / 128 % 2 * 128, a / 64 % 2 * 64, a / 32 % 2 * 32, a / 16 % 2 * 16, a / 8 % 2 * 8, a / 4 % 2 * 4, a / 2 % 2 * 2, a % 2]
theorem bits_ok : ∀ a, a < 256 → (bits a).foldr (· ^^^ ·) 0 = a ∧ ∀ x ∈ bits a, x = 0 ∨ x ∈ [1, 2, 4, 8, 16, 32, 64, 128] := by decide +kernel
/-- what is linear is known by its values at the powers of two -/
theorem lin_ext {F G : Nat → Nat} (hF : ∀ a b, a < 256 → b < 256 → F (a ^^^ b) = F a ^^^ F b) (hG : ∀ a b, a < 256 → b < 256 → G (a ^^^ b) = G a ^^^ G b) (h : ∀ x ∈ [1, 2, 4, 8, 16, 32, 64, 128], F x = G x) {a : Nat} (ha : a < 256) : F a = G a := by
  have z : ∀ {F : Nat → Nat}, (∀ a b, a < 256 → b < 256 → F (a ^^^ b) = F a ^^^ F b) → F 0 = 0 := fun {F} k => by
    have e := k 0 0 (by decide) (by decide)
    rw [Nat.xor_self, Nat.xor_self] at e
    exact e
  obtain ⟨e, hb⟩ := bits_ok a ha
  have key : ∀ l : List Nat, (∀ x ∈ l, x = 0 ∨ x ∈ [1, 2, 4, 8, 16, 32, 64, 128]) → F (l.foldr (· ^^^ ·) 0) = G (l.foldr (· ^^^ ·) 0) ∧ l.foldr (· ^^^ ·) 0 < 256 := by
    intro l
    induction l with
    | nil => intro _; exact ⟨(z hF).trans (z hG).symm, by decide⟩
    | cons x l ih =>
      intro hl
      obtain ⟨h1, h2⟩ := ih fun y hy => hl y (List.mem_cons_of_mem _ hy)
      have hx : F x = G x ∧ x < 256 := by
        rcases hl x List.mem_cons_self with e | e
        · subst e; exact ⟨(z hF).trans (z hG).symm, by decide⟩
        · refine ⟨h x e, ?_⟩
          have : ∀ y ∈ [1, 2, 4, 8, 16, 32, 64, 128], y < 256 := by decide
          exact this x e
      rw [List.foldr_cons, hF _ _ hx.2 h2, hG _ _ hx.2 h2, hx.1, h1]
      exact ⟨rfl, xlt hx.2 h2⟩
  have := (key (bits a) hb).1
  rw [e] at this
  exact this
theorem assoc_basis : ∀ x ∈ [1, 2, 4, 8, 16, 32, 64, 128], ∀ y ∈ [1, 2, 4, 8, 16, 32, 64, 128], ∀ z ∈ [1, 2, 4, 8, 16, 32, 64, 128], q8 x (q8 y z) = q8 (q8 x y) z := by decide +kernel
theorem pow_lt : ∀ y ∈ [1, 2, 4, 8, 16, 32, 64, 128], y < 256 := by decide
theorem assoc8 {a b c : Nat} (ha : a < 256) (hb : b < 256) (hc : c < 256) : q8 a (q8 b c) = q8 (q8 a b) c := by
  have B := bil8
  have l : ∀ {a b c : Nat}, a < 256 → b < 256 → c < 256 → q8 (a ^^^ b) c = q8 a c ^^^ q8 b c := fun h1 h2 h3 => B.l _ _ _ h1 h2 h3
  have r : ∀ {a b c : Nat}, a < 256 → b < 256 → c < 256 → q8 a (b ^^^ c) = q8 a b ^^^ q8 a c := fun h1 h2 h3 => B.r _ _ _ h1 h2 h3
  have cl : ∀ {a b : Nat}, a < 256 → b < 256 → q8 a b < 256 := fun h1 h2 => B.cl _ _ h1 h2
  refine lin_ext (F := fun a => q8 a (q8 b c)) (G := fun a => q8 (q8 a b) c) (fun x y hx hy => l hx hy (cl hb hc)) (fun x y hx hy => by show q8 (q8 (x ^^^ y) b) c = _; rw [l hx hy hb, l (cl hx hb) (cl hy hb) hc]) (fun x hx => ?_) ha
  have hx2 := pow_lt x hx
  refine lin_ext (F := fun b => q8 x (q8 b c)) (G := fun b => q8 (q8 x b) c) (fun u v hu hv => by show q8 x (q8 (u ^^^ v) c) = _; rw [l hu hv hc, r hx2 (cl hu hc) (cl hv hc)]) (fun u v hu hv => by show q8 (q8 x (u ^^^ v)) c = _; rw [r hx2 hu hv, l (cl hx2 hu) (cl hx2 hv) hc]) (fun y hy => ?_) hb
  have hy2 := pow_lt y hy
  refine lin_ext (F := fun c => q8 x (q8 y c)) (G := fun c => q8 (q8 x y) c) (fun u v hu hv => by show q8 x (q8 y (u ^^^ v)) = _; rw [r hy2 hu hv, r hx2 (cl hy2 hu) (cl hy2 hv)]) (fun u v hu hv => r (cl hx2 hy2) hu hv) (fun z hz => ?_) hc
  exact assoc_basis x hx y hy z hz
theorem np4_small : ∀ a, a < 2 → ∀ b, b < 256 → npN 4 a b = q8 a b ∧ npN 4 b a = q8 b a := by decide +kernel
theorem np4_mid : ∀ a, a < 16 → ∀ b, b < 16 → npN 4 a b = q8 a b := by decide +kernel
theorem np4 {a b : Nat} (ha : a < 256) (hb : b < 256) : npN 4 a b = q8 a b := by
  by_cases h1 : a < 2
  · exact (np4_small a h1 b hb).1
  · by_cases h2 : b < 2
    · exact (np4_small b h2 a ha).2
    · by_cases h3 : max a b < 16
      · exact np4_mid a (by omega) b (by omega)
      · have hh : half (max a b) = 16 := by unfold half; rw [if_pos (by omega)]
        unfold npN
        rw [if_neg (by omega), hh]
        have c := np_closed3 3 (by decide)
        have e : ∀ x, x < 16 → ∀ y, y < 16 → npN 3 x y = q4 x y := np3
        rw [e (npN 3 (a / 16) (b / 16)) (c _ (by show _ < 16; omega) _ (by show _ < 16; omega)) (16 / 2) (by decide), e (a / 16) (by omega) (b % 16) (by omega), e (a % 16) (by omega) (b / 16) (by omega), e (a / 16) (by omega) (b / 16) (by omega), e (a % 16) (by omega) (b % 16) (by omega)]
        rfl
theorem np_lt {a b : Nat} (ha : a < 256) (hb : b < 256) : npN 4 a b < 256 := by rw [np4 ha hb]; exact bil8.cl _ _ ha hb
theorem np_comm {a b : Nat} (ha : a < 256) (hb : b < 256) : npN 4 a b = npN 4 b a := by rw [np4 ha hb, np4 hb ha, comm8 ha hb]
theorem np_assoc {a b c : Nat} (ha : a < 256) (hb : b < 256) (hc : c < 256) : npN 4 a (npN 4 b c) = npN 4 (npN 4 a b) c := by
  rw [np4 ha (np_lt hb hc), np4 hb hc, np4 (np_lt ha hb) hc, np4 ha hb, assoc8 ha hb hc]
theorem np_dist {a b c : Nat} (ha : a < 256) (hb : b < 256) (hc : c < 256) : npN 4 a (b ^^^ c) = npN 4 a b ^^^ npN 4 a c := by
  rw [np4 ha (xlt hb hc), np4 ha hb, np4 ha hc, bil8.r _ _ _ ha hb hc]
end PL
set_option Elab.async false
set_option linter.all false
set_option maxRecDepth 100000
set_option maxHeartbeats 4000000
namespace K01
open PySem PySem.Spec PyProof.Rows L2 DL
def top (i : Nat) : Stmt := PySem.Challenge.pw_nimstack_k01_heaps_and_products.main.body.getD i (.Pass ⟨0, 0, 0, 0⟩)
def fa : List He.Fa := [.free "len", .int "MOST_HEAPS" 12, .int "MOST_SIZE" 4095, .free "any", .exc "HeapError", .glo "HeapError", .free "tuple", .free "enumerate", .free "all", .free "range", .free "max", .free "min", .free "abs", .free "int", .free "sorted", .free "list", .glo "check_heaps", .glo "nim_sum", .glo "winning_moves", .glo "wins_last_loses", .glo "misere_moves", .glo "nim_product", .glo "nim_inverse", .glo "cold_pair", .glo "is_cold", .glo "staircase", .glo "_law_dice", .glo "_law_roll", .glo "_law_rounds", .glo "_law_told", .glo "_law_wins", .glo "_law_stairs", .glo "_law_product", .glo "_law_cold", .glo "law", .exm "HeapError" "HeapError" true]
theorem m_free_len : He.Fa.free "len" ∈ fa := mem_ix 0 rfl
theorem m_int_MOST_HEAPS : He.Fa.int "MOST_HEAPS" 12 ∈ fa := mem_ix 1 rfl
theorem m_int_MOST_SIZE : He.Fa.int "MOST_SIZE" 4095 ∈ fa := mem_ix 2 rfl
theorem m_free_any : He.Fa.free "any" ∈ fa := mem_ix 3 rfl
theorem m_exc_HeapError : He.Fa.exc "HeapError" ∈ fa := mem_ix 4 rfl
theorem m_glo_HeapError : He.Fa.glo "HeapError" ∈ fa := mem_ix 5 rfl
theorem m_free_tuple : He.Fa.free "tuple" ∈ fa := mem_ix 6 rfl
theorem m_free_enumerate : He.Fa.free "enumerate" ∈ fa := mem_ix 7 rfl
theorem m_free_all : He.Fa.free "all" ∈ fa := mem_ix 8 rfl
theorem m_free_range : He.Fa.free "range" ∈ fa := mem_ix 9 rfl
theorem m_free_max : He.Fa.free "max" ∈ fa := mem_ix 10 rfl
theorem m_free_min : He.Fa.free "min" ∈ fa := mem_ix 11 rfl
theorem m_free_abs : He.Fa.free "abs" ∈ fa := mem_ix 12 rfl
theorem m_free_int : He.Fa.free "int" ∈ fa := mem_ix 13 rfl
theorem m_free_sorted : He.Fa.free "sorted" ∈ fa := mem_ix 14 rfl
theorem m_free_list : He.Fa.free "list" ∈ fa := mem_ix 15 rfl
theorem m_glo_check_heaps : He.Fa.glo "check_heaps" ∈ fa := mem_ix 16 rfl
theorem m_glo_nim_sum : He.Fa.glo "nim_sum" ∈ fa := mem_ix 17 rfl
theorem m_glo_winning_moves : He.Fa.glo "winning_moves" ∈ fa := mem_ix 18 rfl
theorem m_glo_wins_last_loses : He.Fa.glo "wins_last_loses" ∈ fa := mem_ix 19 rfl
theorem m_glo_misere_moves : He.Fa.glo "misere_moves" ∈ fa := mem_ix 20 rfl
theorem m_glo_nim_product : He.Fa.glo "nim_product" ∈ fa := mem_ix 21 rfl
theorem m_glo_nim_inverse : He.Fa.glo "nim_inverse" ∈ fa := mem_ix 22 rfl
theorem m_glo_cold_pair : He.Fa.glo "cold_pair" ∈ fa := mem_ix 23 rfl
theorem m_glo_is_cold : He.Fa.glo "is_cold" ∈ fa := mem_ix 24 rfl
theorem m_glo_staircase : He.Fa.glo "staircase" ∈ fa := mem_ix 25 rfl
theorem m_glo__law_dice : He.Fa.glo "_law_dice" ∈ fa := mem_ix 26 rfl
theorem m_glo__law_roll : He.Fa.glo "_law_roll" ∈ fa := mem_ix 27 rfl
theorem m_glo__law_rounds : He.Fa.glo "_law_rounds" ∈ fa := mem_ix 28 rfl
theorem m_glo__law_told : He.Fa.glo "_law_told" ∈ fa := mem_ix 29 rfl
theorem m_glo__law_wins : He.Fa.glo "_law_wins" ∈ fa := mem_ix 30 rfl
theorem m_glo__law_stairs : He.Fa.glo "_law_stairs" ∈ fa := mem_ix 31 rfl
theorem m_glo__law_product : He.Fa.glo "_law_product" ∈ fa := mem_ix 32 rfl
theorem m_glo__law_cold : He.Fa.glo "_law_cold" ∈ fa := mem_ix 33 rfl
theorem m_glo_law : He.Fa.glo "law" ∈ fa := mem_ix 34 rfl
theorem m_exm_HeapError : He.Fa.exm "HeapError" "HeapError" true ∈ fa := mem_ix 35 rfl
def tf : List He.Defn := [("check_heaps", none), ("wins_last_loses", none)]
theorem mt_check : (("check_heaps", none) : He.Defn) ∈ tf := mem_ix 0 rfl
theorem mt_wll : (("wins_last_loses", none) : He.Defn) ∈ tf := mem_ix 1 rfl
def tl : List He.Defn := [("law", none)]
theorem ml_law : (("law", none) : He.Defn) ∈ tl := mem_ix 0 rfl
/-! ### check_heaps -/
abbrev s_check : Stmt := top 6
def d_check : He.DefD := ⟨("check_heaps", none), "check_heaps", "check_heaps", defArgs s_check, defBody s_check, defScope s_check, [], []⟩
abbrev N_check : List Str := ["heaps", "heap"]
theorem sc_check : FnScope N_check ["heaps"] (defScope s_check) := ⟨rfl, rfl, rfl, by decide +kernel, rfl, by decide +kernel, by decide +kernel⟩
theorem nd_check : ∀ l : Nat, N_check[l]? ≠ some (".0" : Str) := nodot (by decide +kernel)
def t_check (C_HeapError : Addr) : DTS :=
    (dIfS (dOr (dTest (dOp gGt (dCB gLen (dCons (dVar 0) dNil)) (dC (.int 12)))) (dTest (dQuant false 1 (dVar 0) (rNot (rChain hLe hLe (rC (.int 0)) (rVar 1) (rC (.int 4095)))))))
    (dRaise C_HeapError) dNext)
/-! ### nim_sum -/
abbrev s_sum : Stmt := top 7
def d_sum : He.DefD := ⟨("nim_sum", none), "nim_sum", "nim_sum", defArgs s_sum, defBody s_sum, defScope s_sum, [], []⟩
abbrev N_sum : List Str := ["heaps", "found", "heap"]
theorem sc_sum : FnScope N_sum ["heaps"] (defScope s_sum) := ⟨rfl, rfl, rfl, by decide +kernel, rfl, by decide +kernel, by decide +kernel⟩
def B1_sum : DTS := (dAug 1 (dVar 2) gXor)
def t_sum (sp_check : SpD) : DTS :=
    (dSeq (dDrop (dCall sp_check (dCons (dVar 0) dNil)))
    (dSeq (dAsg (dC (.int 0)) (hName 1))
    (dSeq (dFor (dISeq (dVar 0)) (hName 2)
    (B1_sum))
    (dRet (dVar 1)))))
/-! ### winning_moves -/
abbrev s_win : Stmt := top 8
def d_win : He.DefD := ⟨("winning_moves", none), "winning_moves", "winning_moves", defArgs s_win, defBody s_win, defScope s_win, [], []⟩
abbrev N_win : List Str := ["heaps", "whole", "found", "place", "heap"]
theorem sc_win : FnScope N_win ["heaps"] (defScope s_win) := ⟨rfl, rfl, rfl, by decide +kernel, rfl, by decide +kernel, by decide +kernel⟩
def B1_win : DTS := (dIfS (dTest (dOp gLt (dOp gXor (dVar 4) (dVar 1)) (dVar 4)))
    (dDrop (dAppend (dVar 2) (dTup (dCons (dVar 3) (dCons (dOp gXor (dVar 4) (dVar 1)) dNil))))) dNext)
def t_win (sp_sum : SpD) : DTS :=
    (dSeq (dPar [1, 2] (dCons (dCall sp_sum (dCons (dVar 0) dNil)) (dCons (dLstB dNil) dNil)))
    (dSeq (dFor (dIEn (dCons (dVar 0) dNil)) (hTup (hCons (hName 3) (hCons (hName 4) hEnd)))
    (B1_win))
    (dRet (dCB gTuple (dCons (dVar 2) dNil)))))
/-! ### wins_last_loses -/
abbrev s_wll : Stmt := top 9
def d_wll : He.DefD := ⟨("wins_last_loses", none), "wins_last_loses", "wins_last_loses", defArgs s_wll, defBody s_wll, defScope s_wll, [], []⟩
abbrev N_wll : List Str := ["heaps", "whole", "heap"]
theorem sc_wll : FnScope N_wll ["heaps"] (defScope s_wll) := ⟨rfl, rfl, rfl, by decide +kernel, rfl, by decide +kernel, by decide +kernel⟩
theorem nd_wll : ∀ l : Nat, N_wll[l]? ≠ some (".0" : Str) := nodot (by decide +kernel)
def t_wll (sp_sum : SpD) : DTS :=
    (dSeq (dAsg (dCall sp_sum (dCons (dVar 0) dNil)) (hName 1))
    (dSeq (dIfS (dTest (dQuant true 2 (dVar 0) (rOp hLt (rVar 2) (rC (.int 2)))))
    (dRet (dOp (gEq false) (dVar 1) (dC (.int 0)))) dNext)
    (dRet (dOp (gEq true) (dVar 1) (dC (.int 0))))))
/-! ### misere_moves -/
abbrev s_mis : Stmt := top 10
def d_mis : He.DefD := ⟨("misere_moves", none), "misere_moves", "misere_moves", defArgs s_mis, defBody s_mis, defScope s_mis, [], []⟩
abbrev N_mis : List Str := ["heaps", "found", "place", "heap", "size", "behind"]
theorem sc_mis : FnScope N_mis ["heaps"] (defScope s_mis) := ⟨rfl, rfl, rfl, by decide +kernel, rfl, by decide +kernel, by decide +kernel⟩
def B1_mis (sp_wll : SpD) : DTS := (dSeq (dAsg (dOp gAdd (dOp gAdd (dCB gTuple (dCons (dSl (dVar 0) dNoPart (dPart (dVar 2))) dNil)) (dTup (dCons (dVar 4) dNil))) (dCB gTuple (dCons (dSl (dVar 0) (dPart (dOp gAdd (dVar 2) (dC (.int 1)))) dNoPart) dNil))) (hName 5))
    (dIfS (dNot (dTest (dCall sp_wll (dCons (dVar 5) dNil))))
    (dDrop (dAppend (dVar 1) (dTup (dCons (dVar 2) (dCons (dVar 4) dNil))))) dNext))
def B2_mis (sp_wll : SpD) : DTS := (dFor (dIR1 (dCons (dVar 3) dNil)) (hName 4)
    (B1_mis sp_wll))
def t_mis (sp_wll : SpD) (sp_check : SpD) : DTS :=
    (dSeq (dDrop (dCall sp_check (dCons (dVar 0) dNil)))
    (dSeq (dAsg (dLstB dNil) (hName 1))
    (dSeq (dFor (dIEn (dCons (dVar 0) dNil)) (hTup (hCons (hName 2) (hCons (hName 3) hEnd)))
    (B2_mis sp_wll))
    (dRet (dCB gTuple (dCons (dVar 1) dNil))))))
/-! ### nim_product -/
abbrev s_prod : Stmt := top 11
def d_prod : He.DefD := ⟨("nim_product", none), "nim_product", "nim_product", defArgs s_prod, defBody s_prod, defScope s_prod, [], []⟩
abbrev N_prod : List Str := ["one", "other", "half", "bits", "a", "b", "c", "d", "high"]
theorem sc_prod : FnScope N_prod ["one", "other"] (defScope s_prod) := ⟨rfl, rfl, rfl, by decide +kernel, rfl, by decide +kernel, by decide +kernel⟩
def t_prod (sp_prod : SpD) (C_HeapError : Addr) : DTS :=
    (dSeq (dIfS (dOr (dNot (dTest (dChain gLe gLe (dC (.int 0)) (dVar 0) (dC (.int 255))))) (dNot (dTest (dChain gLe gLe (dC (.int 0)) (dVar 1) (dC (.int 255))))))
    (dRaise C_HeapError) dNext)
    (dSeq (dIfS (dOr (dTest (dOp gLt (dVar 0) (dC (.int 2)))) (dTest (dOp gLt (dVar 1) (dC (.int 2)))))
    (dRet (dOp gMul (dVar 0) (dVar 1))) dNext)
    (dSeq (dAsg (dTup (dCons (dC (.int 16)) (dCons (dC (.int 4)) dNil))) (hTup (hCons (hName 2) (hCons (hName 3) hEnd))))
    (dSeq (dWhile (dTest (dOp gGt (dVar 2) (dCB gMax2 (dCons (dVar 0) (dCons (dVar 1) dNil)))))
    (dSeq (dAug 3 (dC (.int 2)) gDiv)
    (dAsg (dOp gShl (dC (.int 1)) (dVar 3)) (hName 2))))
    (dSeq (dAsg (dTup (dCons (dOp gDiv (dVar 0) (dVar 2)) (dCons (dOp gMod (dVar 0) (dVar 2)) (dCons (dOp gDiv (dVar 1) (dVar 2)) (dCons (dOp gMod (dVar 1) (dVar 2)) dNil))))) (hTup (hCons (hName 4) (hCons (hName 5) (hCons (hName 6) (hCons (hName 7) hEnd))))))
    (dSeq (dAsg (dCall sp_prod (dCons (dVar 4) (dCons (dVar 6) dNil))) (hName 8))
    (dRet (dOp gXor (dOp gXor (dOp gMul (dOp gXor (dOp gXor (dCall sp_prod (dCons (dVar 4) (dCons (dVar 7) dNil))) (dCall sp_prod (dCons (dVar 5) (dCons (dVar 6) dNil)))) (dVar 8)) (dVar 2)) (dCall sp_prod (dCons (dVar 5) (dCons (dVar 7) dNil)))) (dCall sp_prod (dCons (dVar 8) (dCons (dOp gDiv (dVar 2) (dC (.int 2))) dNil)))))))))))
/-! ### nim_inverse -/
abbrev s_inv : Stmt := top 12
def d_inv : He.DefD := ⟨("nim_inverse", none), "nim_inverse", "nim_inverse", defArgs s_inv, defBody s_inv, defScope s_inv, [], []⟩
abbrev N_inv : List Str := ["heap", "other"]
theorem sc_inv : FnScope N_inv ["heap"] (defScope s_inv) := ⟨rfl, rfl, rfl, by decide +kernel, rfl, by decide +kernel, by decide +kernel⟩
def B1_inv (sp_prod : SpD) : DTS := (dIfS (dTest (dOp (gEq false) (dCall sp_prod (dCons (dVar 0) (dCons (dVar 1) dNil))) (dC (.int 1))))
    (dRet (dVar 1)) dNext)
def t_inv (sp_prod : SpD) (C_HeapError : Addr) : DTS :=
    (dSeq (dIfS (dNot (dTest (dChain gLe gLe (dC (.int 1)) (dVar 0) (dC (.int 255)))))
    (dRaise C_HeapError) dNext)
    (dSeq (dFor (dIR2 (dCons (dC (.int 1)) (dCons (dC (.int 256)) dNil))) (hName 1)
    (B1_inv sp_prod))
    (dRaise C_HeapError)))
/-! ### cold_pair -/
abbrev s_cold : Stmt := top 13
def d_cold : He.DefD := ⟨("cold_pair", none), "cold_pair", "cold_pair", defArgs s_cold, defBody s_cold, defScope s_cold, [], []⟩
abbrev N_cold : List Str := ["number", "seen", "least", "place", "pair"]
theorem sc_cold : FnScope N_cold ["number"] (defScope s_cold) := ⟨rfl, rfl, rfl, by decide +kernel, rfl, by decide +kernel, by decide +kernel⟩
def B1_cold : DTS := (dSeq (dWhile (dTest (dOp (gIn false) (dVar 2) (dVar 1)))
    (dAug 2 (dC (.int 1)) gAddI))
    (dSeq (dAsg (dTup (dCons (dVar 2) (dCons (dOp gAdd (dVar 2) (dVar 3)) dNil))) (hName 4))
    (dSeq (dAsg (dC (.bl true)) (hSub (dVar 1) (dOp gIx (dVar 4) (dC (.int 0)))))
    (dAsg (dC (.bl true)) (hSub (dVar 1) (dOp gIx (dVar 4) (dC (.int 1))))))))
def t_cold (C_HeapError : Addr) : DTS :=
    (dSeq (dIfS (dNot (dTest (dChain gLe gLe (dC (.int 0)) (dVar 0) (dC (.int 300)))))
    (dRaise C_HeapError) dNext)
    (dSeq (dPar [1, 2] (dCons dNewK (dCons (dC (.int 0)) dNil)))
    (dSeq (dFor (dIR1 (dCons (dOp gAdd (dVar 0) (dC (.int 1))) dNil)) (hName 3)
    (B1_cold))
    (dRet (dVar 4)))))
/-! ### is_cold -/
abbrev s_iscold : Stmt := top 14
def d_iscold : He.DefD := ⟨("is_cold", none), "is_cold", "is_cold", defArgs s_iscold, defBody s_iscold, defScope s_iscold, [], []⟩
abbrev N_iscold : List Str := ["one", "other", "far"]
theorem sc_iscold : FnScope N_iscold ["one", "other"] (defScope s_iscold) := ⟨rfl, rfl, rfl, by decide +kernel, rfl, by decide +kernel, by decide +kernel⟩
def t_iscold (sp_cold : SpD) (C_HeapError : Addr) : DTS :=
    (dSeq (dIfS (dOr (dNot (dTest (dChain gLe gLe (dC (.int 0)) (dVar 0) (dC (.int 480))))) (dNot (dTest (dChain gLe gLe (dC (.int 0)) (dVar 1) (dC (.int 480))))))
    (dRaise C_HeapError) dNext)
    (dSeq (dAsg (dCB gAbs (dCons (dOp gSub (dVar 0) (dVar 1)) dNil)) (hName 2))
    (dRet (dAndV (dOp gLe (dVar 2) (dC (.int 300))) (dOp (gEq false) (dCall sp_cold (dCons (dVar 2) dNil)) (dTup (dCons (dCB gMin2 (dCons (dVar 0) (dCons (dVar 1) dNil))) (dCons (dCB gMax2 (dCons (dVar 0) (dCons (dVar 1) dNil))) dNil))))))))
/-! ### staircase -/
abbrev s_stair : Stmt := top 15
def d_stair : He.DefD := ⟨("staircase", none), "staircase", "staircase", defArgs s_stair, defBody s_stair, defScope s_stair, [], []⟩
abbrev N_stair : List Str := ["heaps"]
theorem sc_stair : FnScope N_stair ["heaps"] (defScope s_stair) := ⟨rfl, rfl, rfl, by decide +kernel, rfl, by decide +kernel, by decide +kernel⟩
def t_stair (sp_sum : SpD) (sp_check : SpD) : DTS :=
    (dSeq (dDrop (dCall sp_check (dCons (dVar 0) dNil)))
    (dRet (dOp (gEq true) (dCall sp_sum (dCons (dStep2 (dVar 0)) dNil)) (dC (.int 0)))))
/-! ### _law_dice -/
abbrev s_ldice : Stmt := top 17
def d_ldice : He.DefD := ⟨("_law_dice", none), "_law_dice", "_law_dice", defArgs s_ldice, defBody s_ldice, defScope s_ldice, [], []⟩
abbrev N_ldice : List Str := ["cell"]
theorem sc_ldice : FnScope N_ldice ["cell"] (defScope s_ldice) := ⟨rfl, rfl, rfl, by decide +kernel, rfl, by decide +kernel, by decide +kernel⟩
def t_ldice : DTS :=
    (dSeq (dIfS (dTest (dChain gLt gLt (dOp gSub (dC (.int 0)) (dC (.int 10))) (dVar 0) (dC (.int 10))))
    (dRet (dLstB (dCons (dCB gAbs (dCons (dVar 0) dNil)) (dCons (dC (.int 0)) (dCons (dC (.int 2)) dNil))))) dNext)
    (dRet (dLstB (dCons (dVar 0) (dCons (dOp gAdd (dC (.int 1)) (dOp gMod (dCB gIntC (dCons (dVar 0) dNil)) (dC (.int 1009)))) (dCons (dCB gIntC (dCons (dOp gGe (dVar 0) (dOp gPow (dC (.int 10)) (dC (.int 18)))) dNil)) dNil))))))
/-! ### _law_roll -/
abbrev s_lroll : Stmt := top 18
def d_lroll : He.DefD := ⟨("_law_roll", none), "_law_roll", "_law_roll", defArgs s_lroll, defBody s_lroll, defScope s_lroll, [], []⟩
abbrev N_lroll : List Str := ["dice", "many", "found"]
theorem sc_lroll : FnScope N_lroll ["dice", "many"] (defScope s_lroll) := ⟨rfl, rfl, rfl, by decide +kernel, rfl, by decide +kernel, by decide +kernel⟩
def t_lroll : DTS :=
    (dSeq (dIfS (dOr (dTest (dOp (gEq false) (dOp gIx (dVar 0) (dC (.int 2))) (dC (.int 2)))) (dAnd (dTest (dOp (gEq false) (dOp gIx (dVar 0) (dC (.int 2))) (dC (.int 1)))) (dTest (dOp gGt (dOp gIx (dVar 0) (dC (.int 0))) (dC (.int 0))))))
    (dSeq (dAsg (dOp gMod (dCB gIntC (dCons (dOp gIx (dVar 0) (dC (.int 0))) dNil)) (dVar 1)) (hName 2))
    (dSeq (dAsg (dOp gDiv (dOp gIx (dVar 0) (dC (.int 0))) (dVar 1)) (hSub (dVar 0) (dC (.int 0))))
    (dRet (dVar 2)))) dNext)
    (dSeq (dAsg (dC (.int 0)) (hSub (dVar 0) (dC (.int 2))))
    (dSeq (dIfS (dTest (dOp gGt (dVar 1) (dC (.int 100000000))))
    dNever dNext)
    (dSeq (dAsg (dOp gMod (dCB gIntC (dCons (dOp gAdd (dOp gAdd (dOp gMul (dOp gIx (dVar 0) (dC (.int 0))) (dC (.int 48271))) (dOp gMul (dOp gIx (dVar 0) (dC (.int 1))) (dC (.int 69621)))) (dC (.int 11))) dNil)) (dC (.int 2147483647))) (hSub (dVar 0) (dC (.int 0))))
    (dSeq (dAsg (dOp gAdd (dOp gIx (dVar 0) (dC (.int 1))) (dC (.int 1))) (hSub (dVar 0) (dC (.int 1))))
    (dRet (dOp gMod (dCB gIntC (dCons (dOp gDiv (dOp gIx (dVar 0) (dC (.int 0))) (dC (.int 7))) dNil)) (dVar 1))))))))
/-! ### _law_rounds -/
abbrev s_lrounds : Stmt := top 19
def d_lrounds : He.DefD := ⟨("_law_rounds", none), "_law_rounds", "_law_rounds", defArgs s_lrounds, defBody s_lrounds, defScope s_lrounds, [], []⟩
abbrev N_lrounds : List Str := ["script", "most", "cells", "cell"]
theorem sc_lrounds : FnScope N_lrounds ["script", "most"] (defScope s_lrounds) := ⟨rfl, rfl, rfl, by decide +kernel, rfl, by decide +kernel, by decide +kernel⟩
def t_lrounds (sp_ldice : SpD) : DTS :=
    (dSeq (dAsg (dSl (dVar 0) dNoPart (dPart (dVar 1))) (hName 2))
    (dSeq (dIfS (dTest (dOp (gEq false) (dVar 2) (dLst dNil)))
    (dAsg (dLst (dCons (dC (.int 0)) dNil)) (hName 2)) dNext)
    (dRet (dLc [3] (dISeq (dVar 2)) (hName 3) dYes (dCall sp_ldice (dCons (dVar 3) dNil))))))
/-! ### _law_told -/
abbrev s_ltold : Stmt := top 20
def d_ltold : He.DefD := ⟨("_law_told", none), "_law_told", "_law_told", defArgs s_ltold, defBody s_ltold, defScope s_ltold, [], []⟩
abbrev N_ltold : List Str := ["what"]
theorem sc_ltold : FnScope N_ltold ["what"] (defScope s_ltold) := ⟨rfl, rfl, rfl, by decide +kernel, rfl, by decide +kernel, by decide +kernel⟩
def t_ltold (yes_HeapError : Addr → Option Bool) (cal : CalP) : DTS :=
    (dTry yes_HeapError (dRet (dCallV cal 0)) (dRet (dC (.str "HeapError"))))
/-! ### _law_wins -/
abbrev s_lwins : Stmt := top 21
def d_lwins : He.DefD := ⟨("_law_wins", none), "_law_wins", "_law_wins", defArgs s_lwins, defBody s_lwins, defScope s_lwins, [], []⟩
abbrev N_lwins : List Str := ["heaps", "last", "seen", "found", "k", "heap", "size"]
theorem sc_lwins : FnScope N_lwins ["heaps", "last", "seen"] (defScope s_lwins) := ⟨rfl, rfl, rfl, by decide +kernel, rfl, by decide +kernel, by decide +kernel⟩
def B1_lwins (sp_lwins : SpD) : DTS := (dAsg (dOrV (dVar 3) (dNotV (dCall sp_lwins (dCons (dOp gAdd (dOp gAdd (dSl (dVar 0) dNoPart (dPart (dVar 4))) (dTup (dCons (dVar 6) dNil))) (dSl (dVar 0) (dPart (dOp gAdd (dVar 4) (dC (.int 1)))) dNoPart)) (dCons (dVar 1) (dCons (dVar 2) dNil)))))) (hName 3))
def B2_lwins (sp_lwins : SpD) : DTS := (dFor (dIR1 (dCons (dVar 5) dNil)) (hName 6)
    (B1_lwins sp_lwins))
def t_lwins (sp_lwins : SpD) : DTS :=
    (dSeq (dAsg (dCB gTuple (dCons (dCB gSorted (dCons (dLc [5] (dISeq (dVar 0)) (hName 5) (dTest (dOp gGt (dVar 5) (dC (.int 0)))) (dVar 5)) dNil)) dNil)) (hName 0))
    (dSeq (dIfS (dTest (dOp (gEq false) (dVar 0) (dTup dNil)))
    (dRet (dNotV (dVar 1))) dNext)
    (dSeq (dIfS (dTest (dOp (gIn true) (dVar 0) (dVar 2)))
    (dSeq (dAsg (dC (.bl false)) (hName 3))
    (dSeq (dFor (dIEn (dCons (dVar 0) dNil)) (hTup (hCons (hName 4) (hCons (hName 5) hEnd)))
    (B2_lwins sp_lwins))
    (dAsg (dVar 3) (hSub (dVar 2) (dVar 0))))) dNext)
    (dRet (dOp gIx (dVar 2) (dVar 0))))))
/-! ### _law_stairs -/
abbrev s_lstairs : Stmt := top 22
def d_lstairs : He.DefD := ⟨("_law_stairs", none), "_law_stairs", "_law_stairs", defArgs s_lstairs, defBody s_lstairs, defScope s_lstairs, [], []⟩
abbrev N_lstairs : List Str := ["heaps", "seen", "found", "k", "heap", "many", "rest"]
theorem sc_lstairs : FnScope N_lstairs ["heaps", "seen"] (defScope s_lstairs) := ⟨rfl, rfl, rfl, by decide +kernel, rfl, by decide +kernel, by decide +kernel⟩
def B1_lstairs (sp_lstairs : SpD) : DTS := (dSeq (dAsg (dCB gListB (dCons (dVar 0) dNil)) (hName 6))
    (dSeq (dAsg (dOp gSub (dOp gIx (dVar 6) (dVar 3)) (dVar 5)) (hSub (dVar 6) (dVar 3)))
    (dSeq (dIfS (dTest (dOp gGt (dVar 3) (dC (.int 0))))
    (dAsg (dOp gAdd (dOp gIx (dVar 6) (dOp gSub (dVar 3) (dC (.int 1)))) (dVar 5)) (hSub (dVar 6) (dOp gSub (dVar 3) (dC (.int 1))))) dNext)
    (dAsg (dOrV (dVar 2) (dNotV (dCall sp_lstairs (dCons (dCB gTuple (dCons (dVar 6) dNil)) (dCons (dVar 1) dNil))))) (hName 2)))))
def B2_lstairs (sp_lstairs : SpD) : DTS := (dFor (dIR2 (dCons (dC (.int 1)) (dCons (dOp gAdd (dVar 4) (dC (.int 1))) dNil))) (hName 5)
    (B1_lstairs sp_lstairs))
def t_lstairs (sp_lstairs : SpD) : DTS :=
    (dSeq (dIfS (dTest (dOp (gIn true) (dVar 0) (dVar 1)))
    (dSeq (dAsg (dC (.bl false)) (hName 2))
    (dSeq (dFor (dIEn (dCons (dVar 0) dNil)) (hTup (hCons (hName 3) (hCons (hName 4) hEnd)))
    (B2_lstairs sp_lstairs))
    (dAsg (dVar 2) (hSub (dVar 1) (dVar 0))))) dNext)
    (dRet (dOp gIx (dVar 1) (dVar 0))))
/-! ### _law_product -/
abbrev s_lprod : Stmt := top 23
def d_lprod : He.DefD := ⟨("_law_product", none), "_law_product", "_law_product", defArgs s_lprod, defBody s_lprod, defScope s_lprod, [], []⟩
abbrev N_lprod : List Str := ["one", "other", "seen", "taken", "a", "b", "number"]
theorem sc_lprod : FnScope N_lprod ["one", "other", "seen"] (defScope s_lprod) := ⟨rfl, rfl, rfl, by decide +kernel, rfl, by decide +kernel, by decide +kernel⟩
def B1_lprod (sp_lprod : SpD) : DTS := (dAsg (dOp gAdd (dVar 3) (dLc [5] (dIR1 (dCons (dVar 1) dNil)) (hName 5) dYes (dOp gXor (dOp gXor (dCall sp_lprod (dCons (dVar 4) (dCons (dVar 1) (dCons (dVar 2) dNil)))) (dCall sp_lprod (dCons (dVar 0) (dCons (dVar 5) (dCons (dVar 2) dNil))))) (dCall sp_lprod (dCons (dVar 4) (dCons (dVar 5) (dCons (dVar 2) dNil))))))) (hName 3))
def t_lprod (sp_lprod : SpD) : DTS :=
    (dSeq (dIfS (dTest (dOp (gIn true) (dTup (dCons (dVar 0) (dCons (dVar 1) dNil))) (dVar 2)))
    (dSeq (dAsg (dLst dNil) (hName 3))
    (dSeq (dFor (dIR1 (dCons (dVar 0) dNil)) (hName 4)
    (B1_lprod sp_lprod))
    (dAsg (dOp gIx (dLc [6] (dIR1 (dCons (dOp gAdd (dCB gLen (dCons (dVar 3) dNil)) (dC (.int 1))) dNil)) (hName 6) (dTest (dOp (gIn true) (dVar 6) (dVar 3))) (dVar 6)) (dC (.int 0))) (hSub (dVar 2) (dTup (dCons (dVar 0) (dCons (dVar 1) dNil))))))) dNext)
    (dRet (dOp gIx (dVar 2) (dTup (dCons (dVar 0) (dCons (dVar 1) dNil))))))
/-! ### _law_cold -/
abbrev s_lcold : Stmt := top 24
def d_lcold : He.DefD := ⟨("_law_cold", none), "_law_cold", "_law_cold", defArgs s_lcold, defBody s_lcold, defScope s_lcold, [], []⟩
abbrev N_lcold : List Str := ["one", "other", "seen", "found", "many"]
theorem sc_lcold : FnScope N_lcold ["one", "other", "seen"] (defScope s_lcold) := ⟨rfl, rfl, rfl, by decide +kernel, rfl, by decide +kernel, by decide +kernel⟩
def B1_lcold (sp_lcold : SpD) : DTS := (dSeq (dAsg (dAndV (dVar 3) (dAndV (dNotV (dAndV (dOp gLe (dVar 4) (dVar 0)) (dCall sp_lcold (dCons (dOp gSub (dVar 0) (dVar 4)) (dCons (dVar 1) (dCons (dVar 2) dNil)))))) (dNotV (dCall sp_lcold (dCons (dVar 0) (dCons (dOp gSub (dVar 1) (dVar 4)) (dCons (dVar 2) dNil))))))) (hName 3))
    (dAsg (dAndV (dVar 3) (dNotV (dAndV (dOp gLe (dVar 4) (dVar 0)) (dCall sp_lcold (dCons (dOp gSub (dVar 0) (dVar 4)) (dCons (dOp gSub (dVar 1) (dVar 4)) (dCons (dVar 2) dNil))))))) (hName 3)))
def t_lcold (sp_lcold : SpD) : DTS :=
    (dSeq (dPar [0, 1] (dCons (dCB gMin2 (dCons (dVar 0) (dCons (dVar 1) dNil))) (dCons (dCB gMax2 (dCons (dVar 0) (dCons (dVar 1) dNil))) dNil)))
    (dSeq (dIfS (dTest (dOp (gIn true) (dTup (dCons (dVar 0) (dCons (dVar 1) dNil))) (dVar 2)))
    (dSeq (dAsg (dC (.bl true)) (hName 3))
    (dSeq (dFor (dIR2 (dCons (dC (.int 1)) (dCons (dOp gAdd (dVar 1) (dC (.int 1))) dNil))) (hName 4)
    (B1_lcold sp_lcold))
    (dAsg (dVar 3) (hSub (dVar 2) (dTup (dCons (dVar 0) (dCons (dVar 1) dNil))))))) dNext)
    (dRet (dOp gIx (dVar 2) (dTup (dCons (dVar 0) (dCons (dVar 1) dNil)))))))
/-! ### law -/
abbrev s_law : Stmt := top 25
def d_law : He.DefD := ⟨("law", none), "law", "law", defArgs s_law, defBody s_law, defScope s_law, [], []⟩
abbrev N_law : List Str := ["script", "dice", "heaps", "seen", "lost", "moves", "other", "whole", "k", "heap", "size", "rest", "steps", "one", "two", "a", "b", "c", "place", "taken", "pair", "low", "bad", "number", "f"]
theorem sc_law : FnScope N_law ["script"] (defScope s_law) := ⟨rfl, rfl, rfl, by decide +kernel, rfl, by decide +kernel, by decide +kernel⟩
def nm_law : Str := (("law" : Str) ++ ".<locals>.") ++ "<lambda>"
def tl1_law (sp_stair : SpD) : DTE := (dCall sp_stair (dCons (dOp gMul (dLst (dCons (dC (.int 0)) dNil)) (dC (.int 13))) dNil))
def tl2_law (sp_stair : SpD) : DTE := (dCall sp_stair (dCons (dLst (dCons (dC (.int 1)) (dCons (dC (.int 5000)) dNil))) dNil))
def tl3_law (sp_stair : SpD) : DTE := (dCall sp_stair (dCons (dLst (dCons (dUn gNegU (dC (.int 1))) dNil)) dNil))
def tl4_law (sp_iscold : SpD) : DTE := (dCall sp_iscold (dCons (dC (.int 0)) (dCons (dUn gNegU (dC (.int 1))) dNil)))
def tl5_law (sp_iscold : SpD) : DTE := (dCall sp_iscold (dCons (dC (.int 481)) (dCons (dC (.int 0)) dNil)))
def tl6_law (sp_cold : SpD) : DTE := (dCall sp_cold (dCons (dC (.int 301)) dNil))
def tl7_law (sp_cold : SpD) : DTE := (dCall sp_cold (dCons (dUn gNegU (dC (.int 1))) dNil))
def tl8_law (sp_inv : SpD) : DTE := (dCall sp_inv (dCons (dC (.int 256)) dNil))
def tl9_law (sp_inv : SpD) : DTE := (dCall sp_inv (dCons (dC (.int 0)) dNil))
def tl10_law (sp_prod : SpD) : DTE := (dCall sp_prod (dCons (dC (.int 1)) (dCons (dUn gNegU (dC (.int 1))) dNil)))
def tl11_law (sp_prod : SpD) : DTE := (dCall sp_prod (dCons (dC (.int 256)) (dCons (dC (.int 1)) dNil)))
def tl12_law (sp_mis : SpD) : DTE := (dCall sp_mis (dCons (dLst (dCons (dUn gNegU (dC (.int 1))) dNil)) dNil))
def tl13_law (sp_wll : SpD) : DTE := (dCall sp_wll (dCons (dLst (dCons (dUn gNegU (dC (.int 1))) dNil)) dNil))
def tl14_law (sp_win : SpD) : DTE := (dCall sp_win (dCons (dLst (dCons (dC (.int 4096)) dNil)) dNil))
def tl15_law (sp_sum : SpD) : DTE := (dCall sp_sum (dCons (dLst (dCons (dUn gNegU (dC (.int 1))) dNil)) dNil))
def tl16_law (sp_check : SpD) : DTE := (dCall sp_check (dCons (dLst (dCons (dUn gNegU (dC (.int 1))) dNil)) dNil))
def tl17_law (sp_check : SpD) : DTE := (dCall sp_check (dCons (dLst (dCons (dC (.int 4096)) dNil)) dNil))
def tl18_law (sp_check : SpD) : DTE := (dCall sp_check (dCons (dOp gMul (dLst (dCons (dC (.int 1)) dNil)) (dC (.int 13))) dNil))
def S1_law (sp_lroll : SpD) : DTS := (dPar [2, 3, 4] (dCons (dLc [8] (dIR1 (dCons (dCall sp_lroll (dCons (dVar 1) (dCons (dC (.int 5)) dNil))) dNil)) (hName 8) dYes (dCall sp_lroll (dCons (dVar 1) (dCons (dC (.int 6)) dNil)))) (dCons dNewT (dCons dNewT dNil))))
def S2_law : DTS := (dPar [5, 6, 7] (dCons (dLst dNil) (dCons (dLst dNil) (dCons (dC (.int 0)) dNil))))
def S3_law : DTS := (dAsg (dOp gXor (dVar 7) (dVar 9)) (hName 7))
def S4_law : DTS := (dAsg (dOp gAdd (dOp gAdd (dSl (dVar 2) dNoPart (dPart (dVar 8))) (dLst (dCons (dVar 10) dNil))) (dSl (dVar 2) (dPart (dOp gAdd (dVar 8) (dC (.int 1)))) dNoPart)) (hName 11))
def S5_law (sp_lwins : SpD) : DTS := (dAsg (dOp gAdd (dVar 5) (dOp gMul (dLst (dCons (dTup (dCons (dVar 8) (dCons (dVar 10) dNil))) dNil)) (dCB gIntC (dCons (dNotV (dCall sp_lwins (dCons (dVar 11) (dCons (dC (.bl true)) (dCons (dVar 3) dNil))))) dNil)))) (hName 5))
def S6_law (sp_lwins : SpD) : DTS := (dAsg (dOp gAdd (dVar 6) (dOp gMul (dLst (dCons (dTup (dCons (dVar 8) (dCons (dVar 10) dNil))) dNil)) (dCB gIntC (dCons (dNotV (dCall sp_lwins (dCons (dVar 11) (dCons (dC (.bl false)) (dCons (dVar 4) dNil))))) dNil)))) (hName 6))
def S9_law (sp_lwins : SpD) (sp_win : SpD) (sp_mis : SpD) (sp_sum : SpD) : DTS := (dIfS (dOr (dTest (dOp (gEq true) (dCB gList (dCons (dCall sp_win (dCons (dVar 2) dNil)) dNil)) (dVar 5))) (dOr (dTest (dOp (gEq true) (dCB gList (dCons (dCall sp_mis (dCons (dVar 2) dNil)) dNil)) (dVar 6))) (dOr (dTest (dOp (gEq true) (dCall sp_sum (dCons (dVar 2) dNil)) (dVar 7))) (dTest (dOp (gEq true) (dOp (gEq true) (dVar 7) (dC (.int 0))) (dCall sp_lwins (dCons (dVar 2) (dCons (dC (.bl true)) (dCons (dVar 3) dNil)))))))))
    (dRet (dC (.bl false))) dNext)
def S10_law (sp_lwins : SpD) (sp_wll : SpD) (sp_check : SpD) : DTS := (dIfS (dOr (dTest (dOp (gEq true) (dCall sp_wll (dCons (dVar 2) dNil)) (dCall sp_lwins (dCons (dVar 2) (dCons (dC (.bl false)) (dCons (dVar 4) dNil)))))) (dTest (dOp (gIsN true) (dCall sp_check (dCons (dVar 2) dNil)) (dC .non))))
    (dRet (dC (.bl false))) dNext)
def S11_law (sp_lroll : SpD) : DTS := (dAsg (dCB gTuple (dCons (dLc [8] (dIR1 (dCons (dCall sp_lroll (dCons (dVar 1) (dCons (dC (.int 4)) dNil))) dNil)) (hName 8) dYes (dCall sp_lroll (dCons (dVar 1) (dCons (dC (.int 4)) dNil)))) dNil)) (hName 12))
def S12_law (sp_stair : SpD) (sp_lstairs : SpD) : DTS := (dIfS (dTest (dOp (gEq true) (dCall sp_stair (dCons (dVar 12) dNil)) (dCall sp_lstairs (dCons (dVar 12) (dCons dNewT dNil)))))
    (dRet (dC (.bl false))) dNext)
def S13_law (sp_lroll : SpD) : DTS := (dPar [13, 14] (dCons (dCall sp_lroll (dCons (dVar 1) (dCons (dC (.int 10)) dNil))) (dCons (dCall sp_lroll (dCons (dVar 1) (dCons (dC (.int 10)) dNil))) dNil)))
def S14_law (sp_prod : SpD) (sp_lprod : SpD) : DTS := (dIfS (dTest (dOp (gEq true) (dCall sp_prod (dCons (dVar 13) (dCons (dVar 14) dNil))) (dCall sp_lprod (dCons (dVar 13) (dCons (dVar 14) (dCons dNewT dNil))))))
    (dRet (dC (.bl false))) dNext)
def S15_law (sp_lroll : SpD) : DTS := (dAsg (dLc [8] (dIR1 (dCons (dC (.int 3)) dNil)) (hName 8) dYes (dCall sp_lroll (dCons (dVar 1) (dCons (dC (.int 256)) dNil)))) (hLst (hCons (hName 15) (hCons (hName 16) (hCons (hName 17) hEnd)))))
def S16_law (sp_prod : SpD) : DTS := (dIfS (dOr (dTest (dOp (gEq true) (dCall sp_prod (dCons (dVar 15) (dCons (dVar 16) dNil))) (dCall sp_prod (dCons (dVar 16) (dCons (dVar 15) dNil))))) (dOr (dTest (dOp (gEq true) (dCall sp_prod (dCons (dVar 15) (dCons (dCall sp_prod (dCons (dVar 16) (dCons (dVar 17) dNil))) dNil))) (dCall sp_prod (dCons (dCall sp_prod (dCons (dVar 15) (dCons (dVar 16) dNil))) (dCons (dVar 17) dNil))))) (dTest (dOp (gEq true) (dCall sp_prod (dCons (dVar 15) (dCons (dOp gXor (dVar 16) (dVar 17)) dNil))) (dOp gXor (dCall sp_prod (dCons (dVar 15) (dCons (dVar 16) dNil))) (dCall sp_prod (dCons (dVar 15) (dCons (dVar 17) dNil))))))))
    (dRet (dC (.bl false))) dNext)
def S17_law (sp_prod : SpD) (sp_inv : SpD) : DTS := (dIfS (dAnd (dTest (dOp gGt (dVar 15) (dC (.int 0)))) (dOr (dTest (dOp (gEq true) (dCall sp_prod (dCons (dVar 15) (dCons (dCall sp_inv (dCons (dVar 15) dNil)) dNil))) (dC (.int 1)))) (dNot (dTest (dChain gLt gLt (dC (.int 0)) (dCall sp_inv (dCons (dVar 15) dNil)) (dC (.int 256)))))))
    (dRet (dC (.bl false))) dNext)
def S18_law (sp_lroll : SpD) : DTS := (dPar [13, 14] (dCons (dCall sp_lroll (dCons (dVar 1) (dCons (dC (.int 14)) dNil))) (dCons (dCall sp_lroll (dCons (dVar 1) (dCons (dC (.int 14)) dNil))) dNil)))
def S19_law (sp_iscold : SpD) (sp_lcold : SpD) : DTS := (dIfS (dTest (dOp (gEq true) (dCall sp_iscold (dCons (dVar 13) (dCons (dVar 14) dNil))) (dCall sp_lcold (dCons (dVar 13) (dCons (dVar 14) (dCons dNewT dNil))))))
    (dRet (dC (.bl false))) dNext)
def S20_law (sp_lroll : SpD) : DTS := (dAsg (dTup (dCons (dCall sp_lroll (dCons (dVar 1) (dCons (dC (.int 40)) dNil))) (dCons (dLst dNil) (dCons (dC .non) dNil)))) (hTup (hCons (hName 18) (hCons (hName 19) (hCons (hName 20) hEnd)))))
def S21_law : DTS := (dAsg (dOp gIx (dLc [23] (dIR1 (dCons (dOp gAdd (dCB gLen (dCons (dVar 19) dNil)) (dC (.int 1))) dNil)) (hName 23) (dTest (dOp (gIn true) (dVar 23) (dVar 19))) (dVar 23)) (dC (.int 0))) (hName 21))
def S22_law : DTS := (dAsg (dTup (dCons (dTup (dCons (dVar 21) (dCons (dOp gAdd (dVar 21) (dVar 8)) dNil))) (dCons (dOp gAdd (dVar 19) (dLst (dCons (dVar 21) (dCons (dOp gAdd (dVar 21) (dVar 8)) dNil)))) dNil))) (hTup (hCons (hName 20) (hCons (hName 19) hEnd))))
def S24_law (sp_iscold : SpD) (sp_cold : SpD) : DTS := (dIfS (dOr (dTest (dOp (gEq true) (dCall sp_cold (dCons (dVar 18) dNil)) (dVar 20))) (dNot (dTest (dCall sp_iscold (dCons (dOp gIx (dVar 20) (dC (.int 1))) (dCons (dOp gIx (dVar 20) (dC (.int 0))) dNil))))))
    (dRet (dC (.bl false))) dNext)
def S26_law (Pt : Addr) (nm : Str) (f1 : Addr → Hp → Prop) (f2 : Addr → Hp → Prop) (f3 : Addr → Hp → Prop) (f4 : Addr → Hp → Prop) (f5 : Addr → Hp → Prop) (f6 : Addr → Hp → Prop) (f7 : Addr → Hp → Prop) (f8 : Addr → Hp → Prop) (f9 : Addr → Hp → Prop) (f10 : Addr → Hp → Prop) (f11 : Addr → Hp → Prop) (f12 : Addr → Hp → Prop) (f13 : Addr → Hp → Prop) (f14 : Addr → Hp → Prop) (f15 : Addr → Hp → Prop) (f16 : Addr → Hp → Prop) (f17 : Addr → Hp → Prop) (f18 : Addr → Hp → Prop) : DTS := (dAsg (dLst (dCons (dLam Pt nm f18) (dCons (dLam Pt nm f17) (dCons (dLam Pt nm f16) (dCons (dLam Pt nm f15) (dCons (dLam Pt nm f14) (dCons (dLam Pt nm f13) (dCons (dLam Pt nm f12) (dCons (dLam Pt nm f11) (dCons (dLam Pt nm f10) (dCons (dLam Pt nm f9) (dCons (dLam Pt nm f8) (dCons (dLam Pt nm f7) (dCons (dLam Pt nm f6) (dCons (dLam Pt nm f5) (dCons (dLam Pt nm f4) (dCons (dLam Pt nm f3) (dCons (dLam Pt nm f2) (dCons (dLam Pt nm f1) dNil))))))))))))))))))) (hName 22))
def S27_law (sp_win : SpD) (sp_wll : SpD) (sp_prod : SpD) (sp_iscold : SpD) (sp_cold : SpD) (sp_ltold : SpD) : DTS := (dRet (dAndV (dOp (gEq false) (dLc [24] (dISeq (dVar 22)) (hName 24) (dTest (dOp (gEq true) (dCall sp_ltold (dCons (dVar 24) dNil)) (dC (.str "HeapError")))) (dC (.int 1))) (dLst dNil)) (dAndV (dOp (gEq false) (dTup (dCons (dC (.int 12)) (dCons (dC (.int 4095)) dNil))) (dTup (dCons (dC (.int 12)) (dCons (dC (.int 4095)) dNil)))) (dAndV (dOp (gEq false) (dCall sp_prod (dCons (dC (.int 2)) (dCons (dC (.int 2)) dNil))) (dC (.int 3))) (dAndV (dOp (gEq false) (dCall sp_prod (dCons (dC (.int 4)) (dCons (dC (.int 4)) dNil))) (dC (.int 6))) (dAndV (dOp (gEq false) (dCall sp_prod (dCons (dC (.int 16)) (dCons (dC (.int 16)) dNil))) (dC (.int 24))) (dAndV (dOp (gEq false) (dCall sp_win (dCons (dLst (dCons (dC (.int 3)) (dCons (dC (.int 4)) (dCons (dC (.int 5)) dNil)))) dNil)) (dTup (dCons (dTup (dCons (dC (.int 0)) (dCons (dC (.int 1)) dNil))) dNil))) (dAndV (dCall sp_wll (dCons (dLst dNil) dNil)) (dAndV (dNotV (dCall sp_wll (dCons (dLst (dCons (dC (.int 1)) dNil)) dNil))) (dAndV (dOp (gEq false) (dCall sp_cold (dCons (dC (.int 3)) dNil)) (dTup (dCons (dC (.int 4)) (dCons (dC (.int 7)) dNil)))) (dCall sp_iscold (dCons (dC (.int 0)) (dCons (dC (.int 0)) dNil)))))))))))))
def B1_law (sp_lwins : SpD) : DTS := (dSeq (S4_law)
    (dSeq (S5_law sp_lwins)
    (S6_law sp_lwins)))
def B3_law : DTS := (dSeq (S21_law)
    (S22_law))
def S7_law (sp_lwins : SpD) : DTS := (dFor (dIR1 (dCons (dVar 9) dNil)) (hName 10)
    (B1_law sp_lwins))
def S23_law : DTS := (dFor (dIR1 (dCons (dOp gAdd (dVar 18) (dC (.int 1))) dNil)) (hName 8)
    (B3_law))
def B2_law (sp_lwins : SpD) : DTS := (dSeq (S3_law)
    (S7_law sp_lwins))
def S8_law (sp_lwins : SpD) : DTS := (dFor (dIEn (dCons (dVar 2) dNil)) (hTup (hCons (hName 8) (hCons (hName 9) hEnd)))
    (B2_law sp_lwins))
def B4_law (sp_lroll : SpD) (sp_lwins : SpD) (sp_win : SpD) (sp_mis : SpD) (sp_sum : SpD) (sp_wll : SpD) (sp_check : SpD) (sp_stair : SpD) (sp_lstairs : SpD) (sp_prod : SpD) (sp_lprod : SpD) (sp_inv : SpD) (sp_iscold : SpD) (sp_lcold : SpD) (sp_cold : SpD) : DTS := (dSeq (S1_law sp_lroll)
    (dSeq (S2_law)
    (dSeq (S8_law sp_lwins)
    (dSeq (S9_law sp_lwins sp_win sp_mis sp_sum)
    (dSeq (S10_law sp_lwins sp_wll sp_check)
    (dSeq (S11_law sp_lroll)
    (dSeq (S12_law sp_stair sp_lstairs)
    (dSeq (S13_law sp_lroll)
    (dSeq (S14_law sp_prod sp_lprod)
    (dSeq (S15_law sp_lroll)
    (dSeq (S16_law sp_prod)
    (dSeq (S17_law sp_prod sp_inv)
    (dSeq (S18_law sp_lroll)
    (dSeq (S19_law sp_iscold sp_lcold)
    (dSeq (S20_law sp_lroll)
    (dSeq (S23_law)
    (S24_law sp_iscold sp_cold)))))))))))))))))
def S25_law (sp_lrounds : SpD) (sp_lroll : SpD) (sp_lwins : SpD) (sp_win : SpD) (sp_mis : SpD) (sp_sum : SpD) (sp_wll : SpD) (sp_check : SpD) (sp_stair : SpD) (sp_lstairs : SpD) (sp_prod : SpD) (sp_lprod : SpD) (sp_inv : SpD) (sp_iscold : SpD) (sp_lcold : SpD) (sp_cold : SpD) : DTS := (dFor (dISeq (dCall sp_lrounds (dCons (dVar 0) (dCons (dC (.int 1)) dNil)))) (hName 1)
    (B4_law sp_lroll sp_lwins sp_win sp_mis sp_sum sp_wll sp_check sp_stair sp_lstairs sp_prod sp_lprod sp_inv sp_iscold sp_lcold sp_cold))
def t_law (sp_lrounds : SpD) (sp_lroll : SpD) (sp_lwins : SpD) (sp_win : SpD) (sp_mis : SpD) (sp_sum : SpD) (sp_wll : SpD) (sp_check : SpD) (sp_stair : SpD) (sp_lstairs : SpD) (sp_prod : SpD) (sp_lprod : SpD) (sp_inv : SpD) (sp_iscold : SpD) (sp_lcold : SpD) (sp_cold : SpD) (sp_ltold : SpD) (Pt : Addr) (nm : Str) (f1 : Addr → Hp → Prop) (f2 : Addr → Hp → Prop) (f3 : Addr → Hp → Prop) (f4 : Addr → Hp → Prop) (f5 : Addr → Hp → Prop) (f6 : Addr → Hp → Prop) (f7 : Addr → Hp → Prop) (f8 : Addr → Hp → Prop) (f9 : Addr → Hp → Prop) (f10 : Addr → Hp → Prop) (f11 : Addr → Hp → Prop) (f12 : Addr → Hp → Prop) (f13 : Addr → Hp → Prop) (f14 : Addr → Hp → Prop) (f15 : Addr → Hp → Prop) (f16 : Addr → Hp → Prop) (f17 : Addr → Hp → Prop) (f18 : Addr → Hp → Prop) : DTS :=
    (dSeq (S25_law sp_lrounds sp_lroll sp_lwins sp_win sp_mis sp_sum sp_wll sp_check sp_stair sp_lstairs sp_prod sp_lprod sp_inv sp_iscold sp_lcold sp_cold)
    (dSeq (S26_law Pt nm f1 f2 f3 f4 f5 f6 f7 f8 f9 f10 f11 f12 f13 f14 f15 f16 f17 f18)
    (S27_law sp_win sp_wll sp_prod sp_iscold sp_cold sp_ltold)))
end K01
set_option Elab.async false
set_option linter.all false
set_option maxRecDepth 100000
set_option maxHeartbeats 4000000
namespace K01
open PySem PySem.Spec PyProof.Rows L2 DL
def fn : List He.DefD := [d_check, d_sum, d_win, d_wll, d_mis, d_prod, d_inv, d_cold, d_iscold, d_stair, d_ldice, d_lroll, d_lrounds, d_ltold, d_lwins, d_lstairs, d_lprod, d_lcold, d_law]
theorem mf_check : d_check ∈ fn := mem_ix 0 rfl
theorem mf_sum : d_sum ∈ fn := mem_ix 1 rfl
theorem mf_win : d_win ∈ fn := mem_ix 2 rfl
theorem mf_wll : d_wll ∈ fn := mem_ix 3 rfl
theorem mf_mis : d_mis ∈ fn := mem_ix 4 rfl
theorem mf_prod : d_prod ∈ fn := mem_ix 5 rfl
theorem mf_inv : d_inv ∈ fn := mem_ix 6 rfl
theorem mf_cold : d_cold ∈ fn := mem_ix 7 rfl
theorem mf_iscold : d_iscold ∈ fn := mem_ix 8 rfl
theorem mf_stair : d_stair ∈ fn := mem_ix 9 rfl
theorem mf_ldice : d_ldice ∈ fn := mem_ix 10 rfl
theorem mf_lroll : d_lroll ∈ fn := mem_ix 11 rfl
theorem mf_lrounds : d_lrounds ∈ fn := mem_ix 12 rfl
theorem mf_ltold : d_ltold ∈ fn := mem_ix 13 rfl
theorem mf_lwins : d_lwins ∈ fn := mem_ix 14 rfl
theorem mf_lstairs : d_lstairs ∈ fn := mem_ix 15 rfl
theorem mf_lprod : d_lprod ∈ fn := mem_ix 16 rfl
theorem mf_lcold : d_lcold ∈ fn := mem_ix 17 rfl
theorem mf_law : d_law ∈ fn := mem_ix 18 rfl
abbrev M (K : PySem.W.Frag) (mg : Str → Option Value) (base : Heap) : Prop := Mo fa fn tf tl K mg base
section
variable {P : Program} {w : World} {K : PySem.W.Frag} {mg : Str → Option Value} {base : Heap}
theorem tm_check (E : M K mg base) {k : Nat} {f : Addr} {A : Around} {outer : List Env} {s : Shared} {H : Hp} {Ex : XK} (I : InBody (bodyX P w K mg base N_check "check_heaps" (defScope s_check) f (He.codeOf K ("check_heaps", none)) A outer s H Ex) (wE Ex) k) :
    DSs (bodyX P w K mg base N_check "check_heaps" (defScope s_check) f (He.codeOf K ("check_heaps", none)) A outer s H Ex) (tsOf tf K) (wE Ex) (defBody s_check) (t_check (He.ga K "HeapError")) :=
    have S := sc_check
    (dss_one (ds_if (dt_w (dw_or (dt_cp cd_gt (de_blt bd_len (by rfl) (E.fr "len" m_free_len) boot_len (da_cons (dv 0) da_nil)) (de_gint (E.int "MOST_HEAPS" 12 m_int_MOST_HEAPS))) (dw_or1 (dt_val (de_any 1 I.room (E.fr "any" m_free_any) (E.tab mt_check) (Mo.mem mt_check) (genB_by (sc := defScope s_check) (by decide +kernel)) (dv 0) (re_not (re_chain or_le or_le re_int (re_var 1) (re_gint (E.int "MOST_SIZE" 4095 m_int_MOST_SIZE)))) S.nd nd_check)))))
      (dss_one (ds_raise (by rfl) I.tk (E.exc "HeapError" m_exc_HeapError m_glo_HeapError))) dss_nil))
theorem bn_check (kV doc pm : Value) (an : Option Addr) (cdv ct : Value) (us : List Value) (h : us.length = (["heaps"] : List Str).length) : bindArgs (PySem.W.fnOf d_check.name d_check.qual d_check.params d_check.body d_check.scope .none kV doc pm an cdv ct) ⟨us, []⟩ = pure ((["heaps"] : List Str).zip us) := match us, h with | [_], _ => rfl
theorem tm_sum (E : M K mg base) {k : Nat} {l_check : Nat} {sp_check : SpD} (G_check : FnA P w K mg base (tsOf tf K) "check_heaps" ["heaps"] l_check sp_check) (h_check : l_check ≤ k) {f : Addr} {A : Around} {outer : List Env} {s : Shared} {H : Hp} {Ex : XK} (I : InBody (bodyX P w K mg base N_sum "nim_sum" (defScope s_sum) f (He.codeOf K ("nim_sum", none)) A outer s H Ex) (wE Ex) k) :
    DSs (bodyX P w K mg base N_sum "nim_sum" (defScope s_sum) f (He.codeOf K ("nim_sum", none)) A outer s H Ex) (tsOf tf K) (wE Ex) (defBody s_sum) (t_sum sp_check) :=
    have S := sc_sum
    (dss_cons (ds_expr (de_callA G_check (I.rm h_check) I.tk (da_cons (dv 0) da_nil)))
      (dss_cons (ds_set 1 S.nd de_int)
      (dss_cons (ds_for I.po (by rfl) (di_seq (dv 0)) (dg_name 2 S.nd)
      (dss_one (ds_aug_xor 1 S.nd (dv 2))))
      (dss_one (ds_ret (dv 1))))))
theorem bn_sum (kV doc pm : Value) (an : Option Addr) (cdv ct : Value) (us : List Value) (h : us.length = (["heaps"] : List Str).length) : bindArgs (PySem.W.fnOf d_sum.name d_sum.qual d_sum.params d_sum.body d_sum.scope .none kV doc pm an cdv ct) ⟨us, []⟩ = pure ((["heaps"] : List Str).zip us) := match us, h with | [_], _ => rfl
theorem tm_win (E : M K mg base) {k : Nat} {l_sum : Nat} {sp_sum : SpD} (G_sum : FnA P w K mg base (tsOf tf K) "nim_sum" ["heaps"] l_sum sp_sum) (h_sum : l_sum ≤ k) {f : Addr} {A : Around} {outer : List Env} {s : Shared} {H : Hp} {Ex : XK} (I : InBody (bodyX P w K mg base N_win "winning_moves" (defScope s_win) f (He.codeOf K ("winning_moves", none)) A outer s H Ex) (wE Ex) k) :
    DSs (bodyX P w K mg base N_win "winning_moves" (defScope s_win) f (He.codeOf K ("winning_moves", none)) A outer s H Ex) (tsOf tf K) (wE Ex) (defBody s_win) (t_win sp_sum) :=
    have S := sc_win
    (dss_cons (ds_par 1 2 (by rfl) S.nd (da_cons (de_callA G_sum (I.rm h_sum) I.tk (da_cons (dv 0) da_nil)) (da_cons (de_lstB da_nil) da_nil)))
      (dss_cons (ds_for I.po (by rfl) (di_enum (by rfl) (E.fr "enumerate" m_free_enumerate) (da_cons (dv 0) da_nil)) (dg_tup (by rfl) (dgs_cons (dg_name 3 S.nd) (dgs_cons (dg_name 4 S.nd) dgs_end)) (lenIs_cons hm_name (lenIs_cons hm_name lenIs_end)))
      (dss_one (ds_if (dt_cp cd_lt (de_xor (dv 4) (dv 1)) (dv 4))
      (dss_one (ds_expr (de_append (dv 2) (de_tup (da_cons (dv 3) (da_cons (de_xor (dv 4) (dv 1)) da_nil)))))) dss_nil)))
      (dss_one (ds_ret (de_bty bd_tuple (by rfl) (E.fr "tuple" m_free_tuple) boot_tuple (da_cons (dv 2) da_nil))))))
theorem bn_win (kV doc pm : Value) (an : Option Addr) (cdv ct : Value) (us : List Value) (h : us.length = (["heaps"] : List Str).length) : bindArgs (PySem.W.fnOf d_win.name d_win.qual d_win.params d_win.body d_win.scope .none kV doc pm an cdv ct) ⟨us, []⟩ = pure ((["heaps"] : List Str).zip us) := match us, h with | [_], _ => rfl
theorem tm_wll (E : M K mg base) {k : Nat} {l_sum : Nat} {sp_sum : SpD} (G_sum : FnA P w K mg base (tsOf tf K) "nim_sum" ["heaps"] l_sum sp_sum) (h_sum : l_sum ≤ k) {f : Addr} {A : Around} {outer : List Env} {s : Shared} {H : Hp} {Ex : XK} (I : InBody (bodyX P w K mg base N_wll "wins_last_loses" (defScope s_wll) f (He.codeOf K ("wins_last_loses", none)) A outer s H Ex) (wE Ex) k) :
    DSs (bodyX P w K mg base N_wll "wins_last_loses" (defScope s_wll) f (He.codeOf K ("wins_last_loses", none)) A outer s H Ex) (tsOf tf K) (wE Ex) (defBody s_wll) (t_wll sp_sum) :=
    have S := sc_wll
    (dss_cons (ds_set 1 S.nd (de_callA G_sum (I.rm h_sum) I.tk (da_cons (dv 0) da_nil)))
      (dss_cons (ds_if (dt_val (de_all 2 I.room (E.fr "all" m_free_all) (E.tab mt_wll) (Mo.mem mt_wll) (genB_by (sc := defScope s_wll) (by decide +kernel)) (dv 0) (re_cmp or_lt (re_var 2) re_int) S.nd nd_wll))
      (dss_one (ds_ret (de_cp (cd_eq I.u64) (dv 1) de_int))) dss_nil)
      (dss_one (ds_ret (de_cp (cd_ne I.u64) (dv 1) de_int)))))
theorem bn_wll (kV doc pm : Value) (an : Option Addr) (cdv ct : Value) (us : List Value) (h : us.length = (["heaps"] : List Str).length) : bindArgs (PySem.W.fnOf d_wll.name d_wll.qual d_wll.params d_wll.body d_wll.scope .none kV doc pm an cdv ct) ⟨us, []⟩ = pure ((["heaps"] : List Str).zip us) := match us, h with | [_], _ => rfl
theorem tm_mis (E : M K mg base) {k : Nat} {l_wll : Nat} {l_check : Nat} {sp_wll : SpD} {sp_check : SpD} (G_wll : FnA P w K mg base (tsOf tf K) "wins_last_loses" ["heaps"] l_wll sp_wll) (h_wll : l_wll ≤ k) (G_check : FnA P w K mg base (tsOf tf K) "check_heaps" ["heaps"] l_check sp_check) (h_check : l_check ≤ k) {f : Addr} {A : Around} {outer : List Env} {s : Shared} {H : Hp} {Ex : XK} (I : InBody (bodyX P w K mg base N_mis "misere_moves" (defScope s_mis) f (He.codeOf K ("misere_moves", none)) A outer s H Ex) (wE Ex) k) :
    DSs (bodyX P w K mg base N_mis "misere_moves" (defScope s_mis) f (He.codeOf K ("misere_moves", none)) A outer s H Ex) (tsOf tf K) (wE Ex) (defBody s_mis) (t_mis sp_wll sp_check) :=
    have S := sc_mis
    (dss_cons (ds_expr (de_callA G_check (I.rm h_check) I.tk (da_cons (dv 0) da_nil)))
      (dss_cons (ds_set 1 S.nd (de_lstB da_nil))
      (dss_cons (ds_for I.po (by rfl) (di_enum (by rfl) (E.fr "enumerate" m_free_enumerate) (da_cons (dv 0) da_nil)) (dg_tup (by rfl) (dgs_cons (dg_name 2 S.nd) (dgs_cons (dg_name 3 S.nd) dgs_end)) (lenIs_cons hm_name (lenIs_cons hm_name lenIs_end)))
      (dss_one (ds_for I.po (by rfl) (di_range1 (by rfl) (E.fr "range" m_free_range) (da_cons (dv 3) da_nil)) (dg_name 4 S.nd)
      (dss_cons (ds_set 5 S.nd (de_add (de_add (de_bty bd_tuple (by rfl) (E.fr "tuple" m_free_tuple) boot_tuple (da_cons (de_slice (dv 0) do_none (do_some (dv 2))) da_nil)) (de_tup (da_cons (dv 4) da_nil))) (de_bty bd_tuple (by rfl) (E.fr "tuple" m_free_tuple) boot_tuple (da_cons (de_slice (dv 0) (do_some (de_add (dv 2) de_int)) do_none) da_nil))))
      (dss_one (ds_if (dt_not (dt_val (de_callA G_wll (I.rm h_wll) I.tk (da_cons (dv 5) da_nil))))
      (dss_one (ds_expr (de_append (dv 1) (de_tup (da_cons (dv 2) (da_cons (dv 4) da_nil)))))) dss_nil))))))
      (dss_one (ds_ret (de_bty bd_tuple (by rfl) (E.fr "tuple" m_free_tuple) boot_tuple (da_cons (dv 1) da_nil)))))))
theorem bn_mis (kV doc pm : Value) (an : Option Addr) (cdv ct : Value) (us : List Value) (h : us.length = (["heaps"] : List Str).length) : bindArgs (PySem.W.fnOf d_mis.name d_mis.qual d_mis.params d_mis.body d_mis.scope .none kV doc pm an cdv ct) ⟨us, []⟩ = pure ((["heaps"] : List Str).zip us) := match us, h with | [_], _ => rfl
theorem tm_prod (E : M K mg base) {k : Nat} {l_prod : Nat} {sp_prod : SpD} (G_prod : FnA P w K mg base (tsOf tf K) "nim_product" ["one", "other"] l_prod sp_prod) (h_prod : l_prod ≤ k) {f : Addr} {A : Around} {outer : List Env} {s : Shared} {H : Hp} {Ex : XK} (I : InBody (bodyX P w K mg base N_prod "nim_product" (defScope s_prod) f (He.codeOf K ("nim_product", none)) A outer s H Ex) (wE Ex) k) :
    DSs (bodyX P w K mg base N_prod "nim_product" (defScope s_prod) f (He.codeOf K ("nim_product", none)) A outer s H Ex) (tsOf tf K) (wE Ex) (defBody s_prod) (t_prod sp_prod (He.ga K "HeapError")) :=
    have S := sc_prod
    (dss_cons (ds_if (dt_w (dw_or (dt_not (dt_ch cd_le cd_le de_int (dv 0) de_int)) (dw_or1 (dt_not (dt_ch cd_le cd_le de_int (dv 1) de_int)))))
      (dss_one (ds_raise (by rfl) I.tk (E.exc "HeapError" m_exc_HeapError m_glo_HeapError))) dss_nil)
      (dss_cons (ds_if (dt_w (dw_or (dt_cp cd_lt (dv 0) de_int) (dw_or1 (dt_cp cd_lt (dv 1) de_int))))
      (dss_one (ds_ret (de_mul (dv 0) (dv 1)))) dss_nil)
      (dss_cons (ds_asg (de_tup (da_cons de_int (da_cons de_int da_nil))) (dg_tup (by rfl) (dgs_cons (dg_name 2 S.nd) (dgs_cons (dg_name 3 S.nd) dgs_end)) (lenIs_cons hm_name (lenIs_cons hm_name lenIs_end))))
      (dss_cons (ds_while I.po (dt_cp cd_gt (dv 2) (de_blt (bd_max2 (by rfl)) (by rfl) (E.fr "max" m_free_max) boot_max (da_cons (dv 0) (da_cons (dv 1) da_nil))))
      (dss_cons (ds_aug_fdiv 3 S.nd de_int)
      (dss_one (ds_set 2 S.nd (de_shl de_int (dv 3))))))
      (dss_cons (ds_asg (de_tup (da_cons (de_fdiv (dv 0) (dv 2)) (da_cons (de_mod (dv 0) (dv 2)) (da_cons (de_fdiv (dv 1) (dv 2)) (da_cons (de_mod (dv 1) (dv 2)) da_nil))))) (dg_tup (by rfl) (dgs_cons (dg_name 4 S.nd) (dgs_cons (dg_name 5 S.nd) (dgs_cons (dg_name 6 S.nd) (dgs_cons (dg_name 7 S.nd) dgs_end)))) (lenIs_cons hm_name (lenIs_cons hm_name (lenIs_cons hm_name (lenIs_cons hm_name lenIs_end))))))
      (dss_cons (ds_set 8 S.nd (de_callA G_prod (I.rm h_prod) I.tk (da_cons (dv 4) (da_cons (dv 6) da_nil))))
      (dss_one (ds_ret (de_xor (de_xor (de_mul (de_xor (de_xor (de_callA G_prod (I.rm h_prod) I.tk (da_cons (dv 4) (da_cons (dv 7) da_nil))) (de_callA G_prod (I.rm h_prod) I.tk (da_cons (dv 5) (da_cons (dv 6) da_nil)))) (dv 8)) (dv 2)) (de_callA G_prod (I.rm h_prod) I.tk (da_cons (dv 5) (da_cons (dv 7) da_nil)))) (de_callA G_prod (I.rm h_prod) I.tk (da_cons (dv 8) (da_cons (de_fdiv (dv 2) de_int) da_nil))))))))))))
theorem bn_prod (kV doc pm : Value) (an : Option Addr) (cdv ct : Value) (us : List Value) (h : us.length = (["one", "other"] : List Str).length) : bindArgs (PySem.W.fnOf d_prod.name d_prod.qual d_prod.params d_prod.body d_prod.scope .none kV doc pm an cdv ct) ⟨us, []⟩ = pure ((["one", "other"] : List Str).zip us) := match us, h with | [_, _], _ => rfl
theorem tm_inv (E : M K mg base) {k : Nat} {l_prod : Nat} {sp_prod : SpD} (G_prod : FnA P w K mg base (tsOf tf K) "nim_product" ["one", "other"] l_prod sp_prod) (h_prod : l_prod ≤ k) {f : Addr} {A : Around} {outer : List Env} {s : Shared} {H : Hp} {Ex : XK} (I : InBody (bodyX P w K mg base N_inv "nim_inverse" (defScope s_inv) f (He.codeOf K ("nim_inverse", none)) A outer s H Ex) (wE Ex) k) :
    DSs (bodyX P w K mg base N_inv "nim_inverse" (defScope s_inv) f (He.codeOf K ("nim_inverse", none)) A outer s H Ex) (tsOf tf K) (wE Ex) (defBody s_inv) (t_inv sp_prod (He.ga K "HeapError")) :=
    have S := sc_inv
    (dss_cons (ds_if (dt_not (dt_ch cd_le cd_le de_int (dv 0) de_int))
      (dss_one (ds_raise (by rfl) I.tk (E.exc "HeapError" m_exc_HeapError m_glo_HeapError))) dss_nil)
      (dss_cons (ds_for I.po (by rfl) (di_range2 (by rfl) (E.fr "range" m_free_range) (da_cons de_int (da_cons de_int da_nil))) (dg_name 1 S.nd)
      (dss_one (ds_if (dt_cp (cd_eq I.u64) (de_callA G_prod (I.rm h_prod) I.tk (da_cons (dv 0) (da_cons (dv 1) da_nil))) de_int)
      (dss_one (ds_ret (dv 1))) dss_nil)))
      (dss_one (ds_raise (by rfl) I.tk (E.exc "HeapError" m_exc_HeapError m_glo_HeapError)))))
theorem bn_inv (kV doc pm : Value) (an : Option Addr) (cdv ct : Value) (us : List Value) (h : us.length = (["heap"] : List Str).length) : bindArgs (PySem.W.fnOf d_inv.name d_inv.qual d_inv.params d_inv.body d_inv.scope .none kV doc pm an cdv ct) ⟨us, []⟩ = pure ((["heap"] : List Str).zip us) := match us, h with | [_], _ => rfl
theorem tm_cold (E : M K mg base) {k : Nat} {f : Addr} {A : Around} {outer : List Env} {s : Shared} {H : Hp} {Ex : XK} (I : InBody (bodyX P w K mg base N_cold "cold_pair" (defScope s_cold) f (He.codeOf K ("cold_pair", none)) A outer s H Ex) (wE Ex) k) :
    DSs (bodyX P w K mg base N_cold "cold_pair" (defScope s_cold) f (He.codeOf K ("cold_pair", none)) A outer s H Ex) (tsOf tf K) (wE Ex) (defBody s_cold) (t_cold (He.ga K "HeapError")) :=
    have S := sc_cold
    (dss_cons (ds_if (dt_not (dt_ch cd_le cd_le de_int (dv 0) de_int))
      (dss_one (ds_raise (by rfl) I.tk (E.exc "HeapError" m_exc_HeapError m_glo_HeapError))) dss_nil)
      (dss_cons (ds_par 1 2 (by rfl) S.nd (da_cons de_newK (da_cons de_int da_nil)))
      (dss_cons (ds_for I.po (by rfl) (di_range1 (by rfl) (E.fr "range" m_free_range) (da_cons (de_add (dv 0) de_int) da_nil)) (dg_name 3 S.nd)
      (dss_cons (ds_while I.po (dt_cp (cd_in I.u1) (dv 2) (dv 1))
      (dss_one (ds_aug_add 2 S.nd de_int)))
      (dss_cons (ds_set 4 S.nd (de_tup (da_cons (dv 2) (da_cons (de_add (dv 2) (dv 3)) da_nil))))
      (dss_cons (ds_asg de_bl (dg_sub (W := W0) I.u1 (dv 1) (de_ix I.u1 (dv 4) de_int)))
      (dss_one (ds_asg de_bl (dg_sub (W := W0) I.u1 (dv 1) (de_ix I.u1 (dv 4) de_int))))))))
      (dss_one (ds_ret (dv 4))))))
theorem bn_cold (kV doc pm : Value) (an : Option Addr) (cdv ct : Value) (us : List Value) (h : us.length = (["number"] : List Str).length) : bindArgs (PySem.W.fnOf d_cold.name d_cold.qual d_cold.params d_cold.body d_cold.scope .none kV doc pm an cdv ct) ⟨us, []⟩ = pure ((["number"] : List Str).zip us) := match us, h with | [_], _ => rfl
theorem tm_iscold (E : M K mg base) {k : Nat} {l_cold : Nat} {sp_cold : SpD} (G_cold : FnA P w K mg base (tsOf tf K) "cold_pair" ["number"] l_cold sp_cold) (h_cold : l_cold ≤ k) {f : Addr} {A : Around} {outer : List Env} {s : Shared} {H : Hp} {Ex : XK} (I : InBody (bodyX P w K mg base N_iscold "is_cold" (defScope s_iscold) f (He.codeOf K ("is_cold", none)) A outer s H Ex) (wE Ex) k) :
    DSs (bodyX P w K mg base N_iscold "is_cold" (defScope s_iscold) f (He.codeOf K ("is_cold", none)) A outer s H Ex) (tsOf tf K) (wE Ex) (defBody s_iscold) (t_iscold sp_cold (He.ga K "HeapError")) :=
    have S := sc_iscold
    (dss_cons (ds_if (dt_w (dw_or (dt_not (dt_ch cd_le cd_le de_int (dv 0) de_int)) (dw_or1 (dt_not (dt_ch cd_le cd_le de_int (dv 1) de_int)))))
      (dss_one (ds_raise (by rfl) I.tk (E.exc "HeapError" m_exc_HeapError m_glo_HeapError))) dss_nil)
      (dss_cons (ds_set 2 S.nd (de_blt bd_abs (by rfl) (E.fr "abs" m_free_abs) boot_abs (da_cons (de_sub (dv 0) (dv 1)) da_nil)))
      (dss_one (ds_ret (de_and (de_cp cd_le (dv 2) de_int) (de_one (de_cp (cd_eq I.u64) (de_callA G_cold (I.rm h_cold) I.tk (da_cons (dv 2) da_nil)) (de_tup (da_cons (de_blt (bd_min2 (by rfl)) (by rfl) (E.fr "min" m_free_min) boot_min (da_cons (dv 0) (da_cons (dv 1) da_nil))) (da_cons (de_blt (bd_max2 (by rfl)) (by rfl) (E.fr "max" m_free_max) boot_max (da_cons (dv 0) (da_cons (dv 1) da_nil))) da_nil))))))))))
theorem bn_iscold (kV doc pm : Value) (an : Option Addr) (cdv ct : Value) (us : List Value) (h : us.length = (["one", "other"] : List Str).length) : bindArgs (PySem.W.fnOf d_iscold.name d_iscold.qual d_iscold.params d_iscold.body d_iscold.scope .none kV doc pm an cdv ct) ⟨us, []⟩ = pure ((["one", "other"] : List Str).zip us) := match us, h with | [_, _], _ => rfl
theorem tm_stair (E : M K mg base) {k : Nat} {l_sum : Nat} {l_check : Nat} {sp_sum : SpD} {sp_check : SpD} (G_sum : FnA P w K mg base (tsOf tf K) "nim_sum" ["heaps"] l_sum sp_sum) (h_sum : l_sum ≤ k) (G_check : FnA P w K mg base (tsOf tf K) "check_heaps" ["heaps"] l_check sp_check) (h_check : l_check ≤ k) {f : Addr} {A : Around} {outer : List Env} {s : Shared} {H : Hp} {Ex : XK} (I : InBody (bodyX P w K mg base N_stair "staircase" (defScope s_stair) f (He.codeOf K ("staircase", none)) A outer s H Ex) (wE Ex) k) :
    DSs (bodyX P w K mg base N_stair "staircase" (defScope s_stair) f (He.codeOf K ("staircase", none)) A outer s H Ex) (tsOf tf K) (wE Ex) (defBody s_stair) (t_stair sp_sum sp_check) :=
    have S := sc_stair
    (dss_cons (ds_expr (de_callA G_check (I.rm h_check) I.tk (da_cons (dv 0) da_nil)))
      (dss_one (ds_ret (de_cp (cd_ne I.u64) (de_callA G_sum (I.rm h_sum) I.tk (da_cons (de_step2 (dv 0)) da_nil)) de_int))))
theorem bn_stair (kV doc pm : Value) (an : Option Addr) (cdv ct : Value) (us : List Value) (h : us.length = (["heaps"] : List Str).length) : bindArgs (PySem.W.fnOf d_stair.name d_stair.qual d_stair.params d_stair.body d_stair.scope .none kV doc pm an cdv ct) ⟨us, []⟩ = pure ((["heaps"] : List Str).zip us) := match us, h with | [_], _ => rfl
theorem tm_ldice (E : M K mg base) {k : Nat} {f : Addr} {A : Around} {outer : List Env} {s : Shared} {H : Hp} {Ex : XK} (I : InBody (bodyX P w K mg base N_ldice "_law_dice" (defScope s_ldice) f (He.codeOf K ("_law_dice", none)) A outer s H Ex) (wE Ex) k) :
    DSs (bodyX P w K mg base N_ldice "_law_dice" (defScope s_ldice) f (He.codeOf K ("_law_dice", none)) A outer s H Ex) (tsOf tf K) (wE Ex) (defBody s_ldice) (t_ldice) :=
    have S := sc_ldice
    (dss_cons (ds_if (dt_ch cd_lt cd_lt (de_sub de_int de_int) (dv 0) de_int)
      (dss_one (ds_ret (de_lstB (da_cons (de_blt bd_abs (by rfl) (E.fr "abs" m_free_abs) boot_abs (da_cons (dv 0) da_nil)) (da_cons de_int (da_cons de_int da_nil)))))) dss_nil)
      (dss_one (ds_ret (de_lstB (da_cons (dv 0) (da_cons (de_add de_int (de_mod (de_bty bd_int (by rfl) (E.fr "int" m_free_int) boot_int (da_cons (dv 0) da_nil)) de_int)) (da_cons (de_bty bd_int (by rfl) (E.fr "int" m_free_int) boot_int (da_cons (de_cp cd_ge (dv 0) (de_pow de_int de_int)) da_nil)) da_nil)))))))
theorem bn_ldice (kV doc pm : Value) (an : Option Addr) (cdv ct : Value) (us : List Value) (h : us.length = (["cell"] : List Str).length) : bindArgs (PySem.W.fnOf d_ldice.name d_ldice.qual d_ldice.params d_ldice.body d_ldice.scope .none kV doc pm an cdv ct) ⟨us, []⟩ = pure ((["cell"] : List Str).zip us) := match us, h with | [_], _ => rfl
theorem tm_lroll (E : M K mg base) {k : Nat} {f : Addr} {A : Around} {outer : List Env} {s : Shared} {H : Hp} {Ex : XK} (I : InBody (bodyX P w K mg base N_lroll "_law_roll" (defScope s_lroll) f (He.codeOf K ("_law_roll", none)) A outer s H Ex) (wE Ex) k) :
    DSs (bodyX P w K mg base N_lroll "_law_roll" (defScope s_lroll) f (He.codeOf K ("_law_roll", none)) A outer s H Ex) (tsOf tf K) (wE Ex) (defBody s_lroll) (t_lroll) :=
    have S := sc_lroll
    (dss_cons (ds_if (dt_w (dw_or (dt_cp (cd_eq I.u64) (de_ix I.u1 (dv 0) de_int) de_int) (dw_or1 (dt_w (dw_and (dt_cp (cd_eq I.u64) (de_ix I.u1 (dv 0) de_int) de_int) (dw_and1 (dt_cp cd_gt (de_ix I.u1 (dv 0) de_int) de_int)))))))
      (dss_cons (ds_set 2 S.nd (de_mod (de_bty bd_int (by rfl) (E.fr "int" m_free_int) boot_int (da_cons (de_ix I.u1 (dv 0) de_int) da_nil)) (dv 1)))
      (dss_cons (ds_asg (de_fdiv (de_ix I.u1 (dv 0) de_int) (dv 1)) (dg_sub (W := W0) I.u1 (dv 0) de_int))
      (dss_one (ds_ret (dv 2))))) dss_nil)
      (dss_cons (ds_asg de_int (dg_sub (W := W0) I.u1 (dv 0) de_int))
      (dss_cons (ds_if (dt_cp cd_gt (dv 1) de_int)
      (dss_one ds_never) dss_nil)
      (dss_cons (ds_asg (de_mod (de_bty bd_int (by rfl) (E.fr "int" m_free_int) boot_int (da_cons (de_add (de_add (de_mul (de_ix I.u1 (dv 0) de_int) de_int) (de_mul (de_ix I.u1 (dv 0) de_int) de_int)) de_int) da_nil)) de_int) (dg_sub (W := W0) I.u1 (dv 0) de_int))
      (dss_cons (ds_asg (de_add (de_ix I.u1 (dv 0) de_int) de_int) (dg_sub (W := W0) I.u1 (dv 0) de_int))
      (dss_one (ds_ret (de_mod (de_bty bd_int (by rfl) (E.fr "int" m_free_int) boot_int (da_cons (de_fdiv (de_ix I.u1 (dv 0) de_int) de_int) da_nil)) (dv 1)))))))))
theorem bn_lroll (kV doc pm : Value) (an : Option Addr) (cdv ct : Value) (us : List Value) (h : us.length = (["dice", "many"] : List Str).length) : bindArgs (PySem.W.fnOf d_lroll.name d_lroll.qual d_lroll.params d_lroll.body d_lroll.scope .none kV doc pm an cdv ct) ⟨us, []⟩ = pure ((["dice", "many"] : List Str).zip us) := match us, h with | [_, _], _ => rfl
theorem tm_lrounds (E : M K mg base) {k : Nat} {l_ldice : Nat} {sp_ldice : SpD} (G_ldice : FnA P w K mg base (tsOf tf K) "_law_dice" ["cell"] l_ldice sp_ldice) (h_ldice : l_ldice ≤ k) {f : Addr} {A : Around} {outer : List Env} {s : Shared} {H : Hp} {Ex : XK} (I : InBody (bodyX P w K mg base N_lrounds "_law_rounds" (defScope s_lrounds) f (He.codeOf K ("_law_rounds", none)) A outer s H Ex) (wE Ex) k) :
    DSs (bodyX P w K mg base N_lrounds "_law_rounds" (defScope s_lrounds) f (He.codeOf K ("_law_rounds", none)) A outer s H Ex) (tsOf tf K) (wE Ex) (defBody s_lrounds) (t_lrounds sp_ldice) :=
    have S := sc_lrounds
    (dss_cons (ds_set 2 S.nd (de_slice (dv 0) do_none (do_some (dv 1))))
      (dss_cons (ds_if (dt_cp (cd_eq I.u64) (dv 2) (de_lst da_nil))
      (dss_one (ds_set 2 S.nd (de_lst (da_cons de_int da_nil)))) dss_nil)
      (dss_one (ds_ret (de_lc (own := [("cell", 3)]) (by rfl) S.nd (di_seq (dv 2)) (blk_by (N := N_lrounds) (sc := defScope s_lrounds) (own := [("cell", 3)]) (by decide +kernel)) own_name (fun _ _ _ _ _ => pg_own1 S.nd rfl (Or.inl rfl) (Or.inr rfl)) (fun _ _ _ _ _ => dts_no) (fun _ _ _ _ _ => (de_callA G_ldice (I.rm h_ldice) takes0 (da_cons (dv 3) da_nil))))))))
theorem bn_lrounds (kV doc pm : Value) (an : Option Addr) (cdv ct : Value) (us : List Value) (h : us.length = (["script", "most"] : List Str).length) : bindArgs (PySem.W.fnOf d_lrounds.name d_lrounds.qual d_lrounds.params d_lrounds.body d_lrounds.scope .none kV doc pm an cdv ct) ⟨us, []⟩ = pure ((["script", "most"] : List Str).zip us) := match us, h with | [_, _], _ => rfl
theorem tm_ltold (E : M K mg base) {k : Nat} {l_cal : Nat} (h_cal : l_cal ≤ k) {f : Addr} {A : Around} {outer : List Env} {s : Shared} {H : Hp} {Ex : XK} (I : InBody (bodyX P w K mg base N_ltold "_law_told" (defScope s_ltold) f (He.codeOf K ("_law_told", none)) A outer s H Ex) (wE Ex) k) :
    DSs (bodyX P w K mg base N_ltold "_law_told" (defScope s_ltold) f (He.codeOf K ("_law_told", none)) A outer s H Ex) (tsOf tf K) (wE Ex) (defBody s_ltold) (t_ltold (fun C => PySem.W.exmOne K (.ref C) (.ref (He.ga K "HeapError"))) (fun sp f F => Cal P w K mg base (tsOf tf K) l_cal sp f F)) :=
    have S := sc_ltold
    (dss_one (ds_try rfl rfl ⟨by rfl, by decide, .inl (E.glo "HeapError" m_glo_HeapError)⟩ I.tk (fun W pn xe tk po => have I := I.tr tk po; (dss_one (ds_ret (de_callV 0 (I.rm h_cal) I.tk)))) (fun a oe cls d pn => (dss_one (ds_ret de_str)))))
theorem bn_ltold (kV doc pm : Value) (an : Option Addr) (cdv ct : Value) (us : List Value) (h : us.length = (["what"] : List Str).length) : bindArgs (PySem.W.fnOf d_ltold.name d_ltold.qual d_ltold.params d_ltold.body d_ltold.scope .none kV doc pm an cdv ct) ⟨us, []⟩ = pure ((["what"] : List Str).zip us) := match us, h with | [_], _ => rfl
theorem tm_lwins (E : M K mg base) {k : Nat} {l_lwins : Nat} {sp_lwins : SpD} (G_lwins : FnA P w K mg base (tsOf tf K) "_law_wins" ["heaps", "last", "seen"] l_lwins sp_lwins) (h_lwins : l_lwins ≤ k) {f : Addr} {A : Around} {outer : List Env} {s : Shared} {H : Hp} {Ex : XK} (I : InBody (bodyX P w K mg base N_lwins "_law_wins" (defScope s_lwins) f (He.codeOf K ("_law_wins", none)) A outer s H Ex) (wE Ex) k) :
    DSs (bodyX P w K mg base N_lwins "_law_wins" (defScope s_lwins) f (He.codeOf K ("_law_wins", none)) A outer s H Ex) (tsOf tf K) (wE Ex) (defBody s_lwins) (t_lwins sp_lwins) :=
    have S := sc_lwins
    (dss_cons (ds_set 0 S.nd (de_bty bd_tuple (by rfl) (E.fr "tuple" m_free_tuple) boot_tuple (da_cons (de_blt bd_sorted (by rfl) (E.fr "sorted" m_free_sorted) boot_sorted (da_cons (de_lc (own := [("heap", 5)]) (by rfl) S.nd (di_seq (dv 0)) (blk_by (N := N_lwins) (sc := defScope s_lwins) (own := [("heap", 5)]) (by decide +kernel)) own_name (fun _ _ _ _ _ => pg_own1 S.nd rfl (Or.inl rfl) (Or.inr rfl)) (fun _ _ _ _ _ => dts_one (dt_cp cd_gt (dv 5) de_int)) (fun _ _ _ _ _ => (dv 5))) da_nil)) da_nil)))
      (dss_cons (ds_if (dt_cp (cd_eq I.u64) (dv 0) (de_tup da_nil))
      (dss_one (ds_ret (de_not (dv 1)))) dss_nil)
      (dss_cons (ds_if (dt_cp (cd_notIn I.u1) (dv 0) (dv 2))
      (dss_cons (ds_set 3 S.nd de_bl)
      (dss_cons (ds_for I.po (by rfl) (di_enum (by rfl) (E.fr "enumerate" m_free_enumerate) (da_cons (dv 0) da_nil)) (dg_tup (by rfl) (dgs_cons (dg_name 4 S.nd) (dgs_cons (dg_name 5 S.nd) dgs_end)) (lenIs_cons hm_name (lenIs_cons hm_name lenIs_end)))
      (dss_one (ds_for I.po (by rfl) (di_range1 (by rfl) (E.fr "range" m_free_range) (da_cons (dv 5) da_nil)) (dg_name 6 S.nd)
      (dss_one (ds_set 3 S.nd (de_or (dv 3) (de_one (de_not (de_callA G_lwins (I.rm h_lwins) I.tk (da_cons (de_add (de_add (de_slice (dv 0) do_none (do_some (dv 4))) (de_tup (da_cons (dv 6) da_nil))) (de_slice (dv 0) (do_some (de_add (dv 4) de_int)) do_none)) (da_cons (dv 1) (da_cons (dv 2) da_nil))))))))))))
      (dss_one (ds_asg (dv 3) (dg_sub (W := W0) I.u1 (dv 2) (dv 0)))))) dss_nil)
      (dss_one (ds_ret (de_ix I.u1 (dv 2) (dv 0)))))))
theorem bn_lwins (kV doc pm : Value) (an : Option Addr) (cdv ct : Value) (us : List Value) (h : us.length = (["heaps", "last", "seen"] : List Str).length) : bindArgs (PySem.W.fnOf d_lwins.name d_lwins.qual d_lwins.params d_lwins.body d_lwins.scope .none kV doc pm an cdv ct) ⟨us, []⟩ = pure ((["heaps", "last", "seen"] : List Str).zip us) := match us, h with | [_, _, _], _ => rfl
theorem tm_lstairs (E : M K mg base) {k : Nat} {l_lstairs : Nat} {sp_lstairs : SpD} (G_lstairs : FnA P w K mg base (tsOf tf K) "_law_stairs" ["heaps", "seen"] l_lstairs sp_lstairs) (h_lstairs : l_lstairs ≤ k) {f : Addr} {A : Around} {outer : List Env} {s : Shared} {H : Hp} {Ex : XK} (I : InBody (bodyX P w K mg base N_lstairs "_law_stairs" (defScope s_lstairs) f (He.codeOf K ("_law_stairs", none)) A outer s H Ex) (wE Ex) k) :
    DSs (bodyX P w K mg base N_lstairs "_law_stairs" (defScope s_lstairs) f (He.codeOf K ("_law_stairs", none)) A outer s H Ex) (tsOf tf K) (wE Ex) (defBody s_lstairs) (t_lstairs sp_lstairs) :=
    have S := sc_lstairs
    (dss_cons (ds_if (dt_cp (cd_notIn I.u1) (dv 0) (dv 1))
      (dss_cons (ds_set 2 S.nd de_bl)
      (dss_cons (ds_for I.po (by rfl) (di_enum (by rfl) (E.fr "enumerate" m_free_enumerate) (da_cons (dv 0) da_nil)) (dg_tup (by rfl) (dgs_cons (dg_name 3 S.nd) (dgs_cons (dg_name 4 S.nd) dgs_end)) (lenIs_cons hm_name (lenIs_cons hm_name lenIs_end)))
      (dss_one (ds_for I.po (by rfl) (di_range2 (by rfl) (E.fr "range" m_free_range) (da_cons de_int (da_cons (de_add (dv 4) de_int) da_nil))) (dg_name 5 S.nd)
      (dss_cons (ds_set 6 S.nd (de_bty bd_listB (by rfl) (E.fr "list" m_free_list) boot_list (da_cons (dv 0) da_nil)))
      (dss_cons (ds_asg (de_sub (de_ix I.u1 (dv 6) (dv 3)) (dv 5)) (dg_sub (W := W0) I.u1 (dv 6) (dv 3)))
      (dss_cons (ds_if (dt_cp cd_gt (dv 3) de_int)
      (dss_one (ds_asg (de_add (de_ix I.u1 (dv 6) (de_sub (dv 3) de_int)) (dv 5)) (dg_sub (W := W0) I.u1 (dv 6) (de_sub (dv 3) de_int)))) dss_nil)
      (dss_one (ds_set 2 S.nd (de_or (dv 2) (de_one (de_not (de_callA G_lstairs (I.rm h_lstairs) I.tk (da_cons (de_bty bd_tuple (by rfl) (E.fr "tuple" m_free_tuple) boot_tuple (da_cons (dv 6) da_nil)) (da_cons (dv 1) da_nil))))))))))))))
      (dss_one (ds_asg (dv 2) (dg_sub (W := W0) I.u1 (dv 1) (dv 0)))))) dss_nil)
      (dss_one (ds_ret (de_ix I.u1 (dv 1) (dv 0)))))
theorem bn_lstairs (kV doc pm : Value) (an : Option Addr) (cdv ct : Value) (us : List Value) (h : us.length = (["heaps", "seen"] : List Str).length) : bindArgs (PySem.W.fnOf d_lstairs.name d_lstairs.qual d_lstairs.params d_lstairs.body d_lstairs.scope .none kV doc pm an cdv ct) ⟨us, []⟩ = pure ((["heaps", "seen"] : List Str).zip us) := match us, h with | [_, _], _ => rfl
theorem tm_lprod (E : M K mg base) {k : Nat} {l_lprod : Nat} {sp_lprod : SpD} (G_lprod : FnA P w K mg base (tsOf tf K) "_law_product" ["one", "other", "seen"] l_lprod sp_lprod) (h_lprod : l_lprod ≤ k) {f : Addr} {A : Around} {outer : List Env} {s : Shared} {H : Hp} {Ex : XK} (I : InBody (bodyX P w K mg base N_lprod "_law_product" (defScope s_lprod) f (He.codeOf K ("_law_product", none)) A outer s H Ex) (wE Ex) k) :
    DSs (bodyX P w K mg base N_lprod "_law_product" (defScope s_lprod) f (He.codeOf K ("_law_product", none)) A outer s H Ex) (tsOf tf K) (wE Ex) (defBody s_lprod) (t_lprod sp_lprod) :=
    have S := sc_lprod
    (dss_cons (ds_if (dt_cp (cd_notIn I.u1) (de_tup (da_cons (dv 0) (da_cons (dv 1) da_nil))) (dv 2))
      (dss_cons (ds_set 3 S.nd (de_lst da_nil))
      (dss_cons (ds_for I.po (by rfl) (di_range1 (by rfl) (E.fr "range" m_free_range) (da_cons (dv 0) da_nil)) (dg_name 4 S.nd)
      (dss_one (ds_set 3 S.nd (de_add (dv 3) (de_lc (own := [("b", 5)]) (by rfl) S.nd (di_range1 (by rfl) (E.fr "range" m_free_range) (da_cons (dv 1) da_nil)) (blk_by (N := N_lprod) (sc := defScope s_lprod) (own := [("b", 5)]) (by decide +kernel)) own_name (fun _ _ _ _ _ => pg_own1 S.nd rfl (Or.inl rfl) (Or.inr rfl)) (fun _ _ _ _ _ => dts_no) (fun _ _ _ _ _ => (de_xor (de_xor (de_callA G_lprod (I.rm h_lprod) takes0 (da_cons (dv 4) (da_cons (dv 1) (da_cons (dv 2) da_nil)))) (de_callA G_lprod (I.rm h_lprod) takes0 (da_cons (dv 0) (da_cons (dv 5) (da_cons (dv 2) da_nil))))) (de_callA G_lprod (I.rm h_lprod) takes0 (da_cons (dv 4) (da_cons (dv 5) (da_cons (dv 2) da_nil)))))))))))
      (dss_one (ds_asg (de_ix I.u1 (de_lc (own := [("number", 6)]) (by rfl) S.nd (di_range1 (by rfl) (E.fr "range" m_free_range) (da_cons (de_add (de_blt bd_len (by rfl) (E.fr "len" m_free_len) boot_len (da_cons (dv 3) da_nil)) de_int) da_nil)) (blk_by (N := N_lprod) (sc := defScope s_lprod) (own := [("number", 6)]) (by decide +kernel)) own_name (fun _ _ _ _ _ => pg_own1 S.nd rfl (Or.inl rfl) (Or.inr rfl)) (fun _ _ _ _ _ => dts_one (dt_cp (cd_notIn I.u1) (dv 6) (dv 3))) (fun _ _ _ _ _ => (dv 6))) de_int) (dg_sub (W := W0) I.u1 (dv 2) (de_tup (da_cons (dv 0) (da_cons (dv 1) da_nil)))))))) dss_nil)
      (dss_one (ds_ret (de_ix I.u1 (dv 2) (de_tup (da_cons (dv 0) (da_cons (dv 1) da_nil)))))))
theorem bn_lprod (kV doc pm : Value) (an : Option Addr) (cdv ct : Value) (us : List Value) (h : us.length = (["one", "other", "seen"] : List Str).length) : bindArgs (PySem.W.fnOf d_lprod.name d_lprod.qual d_lprod.params d_lprod.body d_lprod.scope .none kV doc pm an cdv ct) ⟨us, []⟩ = pure ((["one", "other", "seen"] : List Str).zip us) := match us, h with | [_, _, _], _ => rfl
theorem tm_lcold (E : M K mg base) {k : Nat} {l_lcold : Nat} {sp_lcold : SpD} (G_lcold : FnA P w K mg base (tsOf tf K) "_law_cold" ["one", "other", "seen"] l_lcold sp_lcold) (h_lcold : l_lcold ≤ k) {f : Addr} {A : Around} {outer : List Env} {s : Shared} {H : Hp} {Ex : XK} (I : InBody (bodyX P w K mg base N_lcold "_law_cold" (defScope s_lcold) f (He.codeOf K ("_law_cold", none)) A outer s H Ex) (wE Ex) k) :
    DSs (bodyX P w K mg base N_lcold "_law_cold" (defScope s_lcold) f (He.codeOf K ("_law_cold", none)) A outer s H Ex) (tsOf tf K) (wE Ex) (defBody s_lcold) (t_lcold sp_lcold) :=
    have S := sc_lcold
    (dss_cons (ds_par 0 1 (by rfl) S.nd (da_cons (de_blt (bd_min2 (by rfl)) (by rfl) (E.fr "min" m_free_min) boot_min (da_cons (dv 0) (da_cons (dv 1) da_nil))) (da_cons (de_blt (bd_max2 (by rfl)) (by rfl) (E.fr "max" m_free_max) boot_max (da_cons (dv 0) (da_cons (dv 1) da_nil))) da_nil)))
      (dss_cons (ds_if (dt_cp (cd_notIn I.u1) (de_tup (da_cons (dv 0) (da_cons (dv 1) da_nil))) (dv 2))
      (dss_cons (ds_set 3 S.nd de_bl)
      (dss_cons (ds_for I.po (by rfl) (di_range2 (by rfl) (E.fr "range" m_free_range) (da_cons de_int (da_cons (de_add (dv 1) de_int) da_nil))) (dg_name 4 S.nd)
      (dss_cons (ds_set 3 S.nd (de_and (dv 3) (de_and (de_not (de_and (de_cp cd_le (dv 4) (dv 0)) (de_one (de_callA G_lcold (I.rm h_lcold) I.tk (da_cons (de_sub (dv 0) (dv 4)) (da_cons (dv 1) (da_cons (dv 2) da_nil))))))) (de_one (de_not (de_callA G_lcold (I.rm h_lcold) I.tk (da_cons (dv 0) (da_cons (de_sub (dv 1) (dv 4)) (da_cons (dv 2) da_nil)))))))))
      (dss_one (ds_set 3 S.nd (de_and (dv 3) (de_one (de_not (de_and (de_cp cd_le (dv 4) (dv 0)) (de_one (de_callA G_lcold (I.rm h_lcold) I.tk (da_cons (de_sub (dv 0) (dv 4)) (da_cons (de_sub (dv 1) (dv 4)) (da_cons (dv 2) da_nil)))))))))))))
      (dss_one (ds_asg (dv 3) (dg_sub (W := W0) I.u1 (dv 2) (de_tup (da_cons (dv 0) (da_cons (dv 1) da_nil)))))))) dss_nil)
      (dss_one (ds_ret (de_ix I.u1 (dv 2) (de_tup (da_cons (dv 0) (da_cons (dv 1) da_nil))))))))
theorem bn_lcold (kV doc pm : Value) (an : Option Addr) (cdv ct : Value) (us : List Value) (h : us.length = (["one", "other", "seen"] : List Str).length) : bindArgs (PySem.W.fnOf d_lcold.name d_lcold.qual d_lcold.params d_lcold.body d_lcold.scope .none kV doc pm an cdv ct) ⟨us, []⟩ = pure ((["one", "other", "seen"] : List Str).zip us) := match us, h with | [_, _, _], _ => rfl
theorem tm_law (E : M K mg base) {k : Nat} {l_lrounds : Nat} {l_lroll : Nat} {l_lwins : Nat} {l_win : Nat} {l_mis : Nat} {l_sum : Nat} {l_wll : Nat} {l_check : Nat} {l_stair : Nat} {l_lstairs : Nat} {l_prod : Nat} {l_lprod : Nat} {l_inv : Nat} {l_iscold : Nat} {l_lcold : Nat} {l_cold : Nat} {l_ltold : Nat} {sp_lrounds : SpD} {sp_lroll : SpD} {sp_lwins : SpD} {sp_win : SpD} {sp_mis : SpD} {sp_sum : SpD} {sp_wll : SpD} {sp_check : SpD} {sp_stair : SpD} {sp_lstairs : SpD} {sp_prod : SpD} {sp_lprod : SpD} {sp_inv : SpD} {sp_iscold : SpD} {sp_lcold : SpD} {sp_cold : SpD} {sp_ltold : SpD} {k_lam : Nat} {sl1 : Bx → DK → XD → Prop} {sl2 : Bx → DK → XD → Prop} {sl3 : Bx → DK → XD → Prop} {sl4 : Bx → DK → XD → Prop} {sl5 : Bx → DK → XD → Prop} {sl6 : Bx → DK → XD → Prop} {sl7 : Bx → DK → XD → Prop} {sl8 : Bx → DK → XD → Prop} {sl9 : Bx → DK → XD → Prop} {sl10 : Bx → DK → XD → Prop} {sl11 : Bx → DK → XD → Prop} {sl12 : Bx → DK → XD → Prop} {sl13 : Bx → DK → XD → Prop} {sl14 : Bx → DK → XD → Prop} {sl15 : Bx → DK → XD → Prop} {sl16 : Bx → DK → XD → Prop} {sl17 : Bx → DK → XD → Prop} {sl18 : Bx → DK → XD → Prop} (G_lrounds : FnA P w K mg base (tsOf tf K) "_law_rounds" ["script", "most"] l_lrounds sp_lrounds) (h_lrounds : l_lrounds ≤ k) (G_lroll : FnA P w K mg base (tsOf tf K) "_law_roll" ["dice", "many"] l_lroll sp_lroll) (h_lroll : l_lroll ≤ k) (G_lwins : FnA P w K mg base (tsOf tf K) "_law_wins" ["heaps", "last", "seen"] l_lwins sp_lwins) (h_lwins : l_lwins ≤ k) (G_win : FnA P w K mg base (tsOf tf K) "winning_moves" ["heaps"] l_win sp_win) (h_win : l_win ≤ k) (hk_win : l_win ≤ k_lam) (G_mis : FnA P w K mg base (tsOf tf K) "misere_moves" ["heaps"] l_mis sp_mis) (h_mis : l_mis ≤ k) (hk_mis : l_mis ≤ k_lam) (G_sum : FnA P w K mg base (tsOf tf K) "nim_sum" ["heaps"] l_sum sp_sum) (h_sum : l_sum ≤ k) (hk_sum : l_sum ≤ k_lam) (G_wll : FnA P w K mg base (tsOf tf K) "wins_last_loses" ["heaps"] l_wll sp_wll) (h_wll : l_wll ≤ k) (hk_wll : l_wll ≤ k_lam) (G_check : FnA P w K mg base (tsOf tf K) "check_heaps" ["heaps"] l_check sp_check) (h_check : l_check ≤ k) (hk_check : l_check ≤ k_lam) (G_stair : FnA P w K mg base (tsOf tf K) "staircase" ["heaps"] l_stair sp_stair) (h_stair : l_stair ≤ k) (hk_stair : l_stair ≤ k_lam) (G_lstairs : FnA P w K mg base (tsOf tf K) "_law_stairs" ["heaps", "seen"] l_lstairs sp_lstairs) (h_lstairs : l_lstairs ≤ k) (G_prod : FnA P w K mg base (tsOf tf K) "nim_product" ["one", "other"] l_prod sp_prod) (h_prod : l_prod ≤ k) (hk_prod : l_prod ≤ k_lam) (G_lprod : FnA P w K mg base (tsOf tf K) "_law_product" ["one", "other", "seen"] l_lprod sp_lprod) (h_lprod : l_lprod ≤ k) (G_inv : FnA P w K mg base (tsOf tf K) "nim_inverse" ["heap"] l_inv sp_inv) (h_inv : l_inv ≤ k) (hk_inv : l_inv ≤ k_lam) (G_iscold : FnA P w K mg base (tsOf tf K) "is_cold" ["one", "other"] l_iscold sp_iscold) (h_iscold : l_iscold ≤ k) (hk_iscold : l_iscold ≤ k_lam) (G_lcold : FnA P w K mg base (tsOf tf K) "_law_cold" ["one", "other", "seen"] l_lcold sp_lcold) (h_lcold : l_lcold ≤ k) (G_cold : FnA P w K mg base (tsOf tf K) "cold_pair" ["number"] l_cold sp_cold) (h_cold : l_cold ≤ k) (hk_cold : l_cold ≤ k_lam) (G_ltold : FnA P w K mg base (tsOf tf K) "_law_told" ["what"] l_ltold sp_ltold) (h_ltold : l_ltold ≤ k) (hl1 : ∀ B q x, sl1 B q x → tl1_law sp_stair [] B q x) (hl2 : ∀ B q x, sl2 B q x → tl2_law sp_stair [] B q x) (hl3 : ∀ B q x, sl3 B q x → tl3_law sp_stair [] B q x) (hl4 : ∀ B q x, sl4 B q x → tl4_law sp_iscold [] B q x) (hl5 : ∀ B q x, sl5 B q x → tl5_law sp_iscold [] B q x) (hl6 : ∀ B q x, sl6 B q x → tl6_law sp_cold [] B q x) (hl7 : ∀ B q x, sl7 B q x → tl7_law sp_cold [] B q x) (hl8 : ∀ B q x, sl8 B q x → tl8_law sp_inv [] B q x) (hl9 : ∀ B q x, sl9 B q x → tl9_law sp_inv [] B q x) (hl10 : ∀ B q x, sl10 B q x → tl10_law sp_prod [] B q x) (hl11 : ∀ B q x, sl11 B q x → tl11_law sp_prod [] B q x) (hl12 : ∀ B q x, sl12 B q x → tl12_law sp_mis [] B q x) (hl13 : ∀ B q x, sl13 B q x → tl13_law sp_wll [] B q x) (hl14 : ∀ B q x, sl14 B q x → tl14_law sp_win [] B q x) (hl15 : ∀ B q x, sl15 B q x → tl15_law sp_sum [] B q x) (hl16 : ∀ B q x, sl16 B q x → tl16_law sp_check [] B q x) (hl17 : ∀ B q x, sl17 B q x → tl17_law sp_check [] B q x) (hl18 : ∀ B q x, sl18 B q x → tl18_law sp_check [] B q x) {f : Addr} {A : Around} {outer : List Env} {s : Shared} {H : Hp} {Ex : XK} (I : InBody (bodyX P w K mg base N_law "law" (defScope s_law) f (He.codeOf K ("law", none)) A outer s H Ex) (wE Ex) k) :
    DSs (bodyX P w K mg base N_law "law" (defScope s_law) f (He.codeOf K ("law", none)) A outer s H Ex) (tsOf tf K) (wE Ex) (defBody s_law) (t_law sp_lrounds sp_lroll sp_lwins sp_win sp_mis sp_sum sp_wll sp_check sp_stair sp_lstairs sp_prod sp_lprod sp_inv sp_iscold sp_lcold sp_cold sp_ltold (He.tabOf K (He.codeOf K ("law", none))) nm_law (fun f F => Cal P w K mg base (tsOf tf K) (k_lam + 1) sl1 f F) (fun f F => Cal P w K mg base (tsOf tf K) (k_lam + 1) sl2 f F) (fun f F => Cal P w K mg base (tsOf tf K) (k_lam + 1) sl3 f F) (fun f F => Cal P w K mg base (tsOf tf K) (k_lam + 1) sl4 f F) (fun f F => Cal P w K mg base (tsOf tf K) (k_lam + 1) sl5 f F) (fun f F => Cal P w K mg base (tsOf tf K) (k_lam + 1) sl6 f F) (fun f F => Cal P w K mg base (tsOf tf K) (k_lam + 1) sl7 f F) (fun f F => Cal P w K mg base (tsOf tf K) (k_lam + 1) sl8 f F) (fun f F => Cal P w K mg base (tsOf tf K) (k_lam + 1) sl9 f F) (fun f F => Cal P w K mg base (tsOf tf K) (k_lam + 1) sl10 f F) (fun f F => Cal P w K mg base (tsOf tf K) (k_lam + 1) sl11 f F) (fun f F => Cal P w K mg base (tsOf tf K) (k_lam + 1) sl12 f F) (fun f F => Cal P w K mg base (tsOf tf K) (k_lam + 1) sl13 f F) (fun f F => Cal P w K mg base (tsOf tf K) (k_lam + 1) sl14 f F) (fun f F => Cal P w K mg base (tsOf tf K) (k_lam + 1) sl15 f F) (fun f F => Cal P w K mg base (tsOf tf K) (k_lam + 1) sl16 f F) (fun f F => Cal P w K mg base (tsOf tf K) (k_lam + 1) sl17 f F) (fun f F => Cal P w K mg base (tsOf tf K) (k_lam + 1) sl18 f F)) :=
    have S := sc_law
    (dss_cons (ds_for I.po (by rfl) (di_seq (de_callA G_lrounds (I.rm h_lrounds) I.tk (da_cons (dv 0) (da_cons de_int da_nil)))) (dg_name 1 S.nd)
      (dss_cons (ds_par3 2 3 4 (by rfl) S.nd (da_cons (de_lc (own := [("k", 8)]) (by rfl) S.nd (di_range1 (by rfl) (E.fr "range" m_free_range) (da_cons (de_callA G_lroll (I.rm h_lroll) I.tk (da_cons (dv 1) (da_cons de_int da_nil))) da_nil)) (blk_by (N := N_law) (sc := defScope s_law) (own := [("k", 8)]) (by decide +kernel)) own_name (fun _ _ _ _ _ => pg_own1 S.nd rfl (Or.inl rfl) (Or.inr rfl)) (fun _ _ _ _ _ => dts_no) (fun _ _ _ _ _ => (de_callA G_lroll (I.rm h_lroll) takes0 (da_cons (dv 1) (da_cons de_int da_nil))))) (da_cons de_newT (da_cons de_newT da_nil))))
      (dss_cons (ds_par3 5 6 7 (by rfl) S.nd (da_cons (de_lst da_nil) (da_cons (de_lst da_nil) (da_cons de_int da_nil))))
      (dss_cons (ds_for I.po (by rfl) (di_enum (by rfl) (E.fr "enumerate" m_free_enumerate) (da_cons (dv 2) da_nil)) (dg_tup (by rfl) (dgs_cons (dg_name 8 S.nd) (dgs_cons (dg_name 9 S.nd) dgs_end)) (lenIs_cons hm_name (lenIs_cons hm_name lenIs_end)))
      (dss_cons (ds_set 7 S.nd (de_xor (dv 7) (dv 9)))
      (dss_one (ds_for I.po (by rfl) (di_range1 (by rfl) (E.fr "range" m_free_range) (da_cons (dv 9) da_nil)) (dg_name 10 S.nd)
      (dss_cons (ds_set 11 S.nd (de_add (de_add (de_slice (dv 2) do_none (do_some (dv 8))) (de_lst (da_cons (dv 10) da_nil))) (de_slice (dv 2) (do_some (de_add (dv 8) de_int)) do_none)))
      (dss_cons (ds_set 5 S.nd (de_add (dv 5) (de_mul (de_lst (da_cons (de_tup (da_cons (dv 8) (da_cons (dv 10) da_nil))) da_nil)) (de_bty bd_int (by rfl) (E.fr "int" m_free_int) boot_int (da_cons (de_not (de_callA G_lwins (I.rm h_lwins) I.tk (da_cons (dv 11) (da_cons de_bl (da_cons (dv 3) da_nil))))) da_nil)))))
      (dss_one (ds_set 6 S.nd (de_add (dv 6) (de_mul (de_lst (da_cons (de_tup (da_cons (dv 8) (da_cons (dv 10) da_nil))) da_nil)) (de_bty bd_int (by rfl) (E.fr "int" m_free_int) boot_int (da_cons (de_not (de_callA G_lwins (I.rm h_lwins) I.tk (da_cons (dv 11) (da_cons de_bl (da_cons (dv 4) da_nil))))) da_nil))))))))))))
      (dss_cons (ds_if (dt_w (dw_or (dt_cp (cd_ne I.u64) (de_bty bd_list (by rfl) (E.fr "list" m_free_list) boot_list (da_cons (de_callA G_win (I.rm h_win) I.tk (da_cons (dv 2) da_nil)) da_nil)) (dv 5)) (dw_or (dt_cp (cd_ne I.u64) (de_bty bd_list (by rfl) (E.fr "list" m_free_list) boot_list (da_cons (de_callA G_mis (I.rm h_mis) I.tk (da_cons (dv 2) da_nil)) da_nil)) (dv 6)) (dw_or (dt_cp (cd_ne I.u64) (de_callA G_sum (I.rm h_sum) I.tk (da_cons (dv 2) da_nil)) (dv 7)) (dw_or1 (dt_cp (cd_ne I.u64) (de_cp (cd_ne I.u64) (dv 7) de_int) (de_callA G_lwins (I.rm h_lwins) I.tk (da_cons (dv 2) (da_cons de_bl (da_cons (dv 3) da_nil))))))))))
      (dss_one (ds_ret de_bl)) dss_nil)
      (dss_cons (ds_if (dt_w (dw_or (dt_cp (cd_ne I.u64) (de_callA G_wll (I.rm h_wll) I.tk (da_cons (dv 2) da_nil)) (de_callA G_lwins (I.rm h_lwins) I.tk (da_cons (dv 2) (da_cons de_bl (da_cons (dv 4) da_nil))))) (dw_or1 (dt_cp cd_notN (de_callA G_check (I.rm h_check) I.tk (da_cons (dv 2) da_nil)) de_non))))
      (dss_one (ds_ret de_bl)) dss_nil)
      (dss_cons (ds_set 12 S.nd (de_bty bd_tuple (by rfl) (E.fr "tuple" m_free_tuple) boot_tuple (da_cons (de_lc (own := [("k", 8)]) (by rfl) S.nd (di_range1 (by rfl) (E.fr "range" m_free_range) (da_cons (de_callA G_lroll (I.rm h_lroll) I.tk (da_cons (dv 1) (da_cons de_int da_nil))) da_nil)) (blk_by (N := N_law) (sc := defScope s_law) (own := [("k", 8)]) (by decide +kernel)) own_name (fun _ _ _ _ _ => pg_own1 S.nd rfl (Or.inl rfl) (Or.inr rfl)) (fun _ _ _ _ _ => dts_no) (fun _ _ _ _ _ => (de_callA G_lroll (I.rm h_lroll) takes0 (da_cons (dv 1) (da_cons de_int da_nil))))) da_nil)))
      (dss_cons (ds_if (dt_cp (cd_ne I.u64) (de_callA G_stair (I.rm h_stair) I.tk (da_cons (dv 12) da_nil)) (de_callA G_lstairs (I.rm h_lstairs) I.tk (da_cons (dv 12) (da_cons de_newT da_nil))))
      (dss_one (ds_ret de_bl)) dss_nil)
      (dss_cons (ds_par 13 14 (by rfl) S.nd (da_cons (de_callA G_lroll (I.rm h_lroll) I.tk (da_cons (dv 1) (da_cons de_int da_nil))) (da_cons (de_callA G_lroll (I.rm h_lroll) I.tk (da_cons (dv 1) (da_cons de_int da_nil))) da_nil)))
      (dss_cons (ds_if (dt_cp (cd_ne I.u64) (de_callA G_prod (I.rm h_prod) I.tk (da_cons (dv 13) (da_cons (dv 14) da_nil))) (de_callA G_lprod (I.rm h_lprod) I.tk (da_cons (dv 13) (da_cons (dv 14) (da_cons de_newT da_nil)))))
      (dss_one (ds_ret de_bl)) dss_nil)
      (dss_cons (ds_asg (de_lc (own := [("k", 8)]) (by rfl) S.nd (di_range1 (by rfl) (E.fr "range" m_free_range) (da_cons de_int da_nil)) (blk_by (N := N_law) (sc := defScope s_law) (own := [("k", 8)]) (by decide +kernel)) own_name (fun _ _ _ _ _ => pg_own1 S.nd rfl (Or.inl rfl) (Or.inr rfl)) (fun _ _ _ _ _ => dts_no) (fun _ _ _ _ _ => (de_callA G_lroll (I.rm h_lroll) takes0 (da_cons (dv 1) (da_cons de_int da_nil))))) (dg_lst (by rfl) (dgs_cons (dg_name 15 S.nd) (dgs_cons (dg_name 16 S.nd) (dgs_cons (dg_name 17 S.nd) dgs_end))) (lenIs_cons hm_name (lenIs_cons hm_name (lenIs_cons hm_name lenIs_end)))))
      (dss_cons (ds_if (dt_w (dw_or (dt_cp (cd_ne I.u64) (de_callA G_prod (I.rm h_prod) I.tk (da_cons (dv 15) (da_cons (dv 16) da_nil))) (de_callA G_prod (I.rm h_prod) I.tk (da_cons (dv 16) (da_cons (dv 15) da_nil)))) (dw_or (dt_cp (cd_ne I.u64) (de_callA G_prod (I.rm h_prod) I.tk (da_cons (dv 15) (da_cons (de_callA G_prod (I.rm h_prod) I.tk (da_cons (dv 16) (da_cons (dv 17) da_nil))) da_nil))) (de_callA G_prod (I.rm h_prod) I.tk (da_cons (de_callA G_prod (I.rm h_prod) I.tk (da_cons (dv 15) (da_cons (dv 16) da_nil))) (da_cons (dv 17) da_nil)))) (dw_or1 (dt_cp (cd_ne I.u64) (de_callA G_prod (I.rm h_prod) I.tk (da_cons (dv 15) (da_cons (de_xor (dv 16) (dv 17)) da_nil))) (de_xor (de_callA G_prod (I.rm h_prod) I.tk (da_cons (dv 15) (da_cons (dv 16) da_nil))) (de_callA G_prod (I.rm h_prod) I.tk (da_cons (dv 15) (da_cons (dv 17) da_nil)))))))))
      (dss_one (ds_ret de_bl)) dss_nil)
      (dss_cons (ds_if (dt_w (dw_and (dt_cp cd_gt (dv 15) de_int) (dw_and1 (dt_w (dw_or (dt_cp (cd_ne I.u64) (de_callA G_prod (I.rm h_prod) I.tk (da_cons (dv 15) (da_cons (de_callA G_inv (I.rm h_inv) I.tk (da_cons (dv 15) da_nil)) da_nil))) de_int) (dw_or1 (dt_not (dt_ch cd_lt cd_lt de_int (de_callA G_inv (I.rm h_inv) I.tk (da_cons (dv 15) da_nil)) de_int))))))))
      (dss_one (ds_ret de_bl)) dss_nil)
      (dss_cons (ds_par 13 14 (by rfl) S.nd (da_cons (de_callA G_lroll (I.rm h_lroll) I.tk (da_cons (dv 1) (da_cons de_int da_nil))) (da_cons (de_callA G_lroll (I.rm h_lroll) I.tk (da_cons (dv 1) (da_cons de_int da_nil))) da_nil)))
      (dss_cons (ds_if (dt_cp (cd_ne I.u64) (de_callA G_iscold (I.rm h_iscold) I.tk (da_cons (dv 13) (da_cons (dv 14) da_nil))) (de_callA G_lcold (I.rm h_lcold) I.tk (da_cons (dv 13) (da_cons (dv 14) (da_cons de_newT da_nil)))))
      (dss_one (ds_ret de_bl)) dss_nil)
      (dss_cons (ds_asg (de_tup (da_cons (de_callA G_lroll (I.rm h_lroll) I.tk (da_cons (dv 1) (da_cons de_int da_nil))) (da_cons (de_lst da_nil) (da_cons de_non da_nil)))) (dg_tup (by rfl) (dgs_cons (dg_name 18 S.nd) (dgs_cons (dg_name 19 S.nd) (dgs_cons (dg_name 20 S.nd) dgs_end))) (lenIs_cons hm_name (lenIs_cons hm_name (lenIs_cons hm_name lenIs_end)))))
      (dss_cons (ds_for I.po (by rfl) (di_range1 (by rfl) (E.fr "range" m_free_range) (da_cons (de_add (dv 18) de_int) da_nil)) (dg_name 8 S.nd)
      (dss_cons (ds_set 21 S.nd (de_ix I.u1 (de_lc (own := [("number", 23)]) (by rfl) S.nd (di_range1 (by rfl) (E.fr "range" m_free_range) (da_cons (de_add (de_blt bd_len (by rfl) (E.fr "len" m_free_len) boot_len (da_cons (dv 19) da_nil)) de_int) da_nil)) (blk_by (N := N_law) (sc := defScope s_law) (own := [("number", 23)]) (by decide +kernel)) own_name (fun _ _ _ _ _ => pg_own1 S.nd rfl (Or.inl rfl) (Or.inr rfl)) (fun _ _ _ _ _ => dts_one (dt_cp (cd_notIn I.u1) (dv 23) (dv 19))) (fun _ _ _ _ _ => (dv 23))) de_int))
      (dss_one (ds_asg (de_tup (da_cons (de_tup (da_cons (dv 21) (da_cons (de_add (dv 21) (dv 8)) da_nil))) (da_cons (de_add (dv 19) (de_lst (da_cons (dv 21) (da_cons (de_add (dv 21) (dv 8)) da_nil)))) da_nil))) (dg_tup (by rfl) (dgs_cons (dg_name 20 S.nd) (dgs_cons (dg_name 19 S.nd) dgs_end)) (lenIs_cons hm_name (lenIs_cons hm_name lenIs_end)))))))
      (dss_one (ds_if (dt_w (dw_or (dt_cp (cd_ne I.u64) (de_callA G_cold (I.rm h_cold) I.tk (da_cons (dv 18) da_nil)) (dv 20)) (dw_or1 (dt_not (dt_val (de_callA G_iscold (I.rm h_iscold) I.tk (da_cons (de_ix I.u1 (dv 20) de_int) (da_cons (de_ix I.u1 (dv 20) de_int) da_nil))))))))
      (dss_one (ds_ret de_bl)) dss_nil)))))))))))))))))))
      (dss_cons (ds_set 22 S.nd (de_lst (da_cons (de_lam (E.L _ ml_law) (lamC_by (by decide +kernel)) (fun f c2 pm ctv F hF hC => cal_of (k := k_lam) (sp := sl18) hF hC (lamC_by (by decide +kernel)) (fun _ _ _ => rfl) (fun A outer s H Ex I => ⟨(tl18_law sp_check), (de_callA G_check (I.rm hk_check) I.tk (da_cons (de_mul (de_lst (da_cons de_int da_nil)) de_int) da_nil)), hl18⟩))) (da_cons (de_lam (E.L _ ml_law) (lamC_by (by decide +kernel)) (fun f c2 pm ctv F hF hC => cal_of (k := k_lam) (sp := sl17) hF hC (lamC_by (by decide +kernel)) (fun _ _ _ => rfl) (fun A outer s H Ex I => ⟨(tl17_law sp_check), (de_callA G_check (I.rm hk_check) I.tk (da_cons (de_lst (da_cons de_int da_nil)) da_nil)), hl17⟩))) (da_cons (de_lam (E.L _ ml_law) (lamC_by (by decide +kernel)) (fun f c2 pm ctv F hF hC => cal_of (k := k_lam) (sp := sl16) hF hC (lamC_by (by decide +kernel)) (fun _ _ _ => rfl) (fun A outer s H Ex I => ⟨(tl16_law sp_check), (de_callA G_check (I.rm hk_check) I.tk (da_cons (de_lst (da_cons (de_neg de_int) da_nil)) da_nil)), hl16⟩))) (da_cons (de_lam (E.L _ ml_law) (lamC_by (by decide +kernel)) (fun f c2 pm ctv F hF hC => cal_of (k := k_lam) (sp := sl15) hF hC (lamC_by (by decide +kernel)) (fun _ _ _ => rfl) (fun A outer s H Ex I => ⟨(tl15_law sp_sum), (de_callA G_sum (I.rm hk_sum) I.tk (da_cons (de_lst (da_cons (de_neg de_int) da_nil)) da_nil)), hl15⟩))) (da_cons (de_lam (E.L _ ml_law) (lamC_by (by decide +kernel)) (fun f c2 pm ctv F hF hC => cal_of (k := k_lam) (sp := sl14) hF hC (lamC_by (by decide +kernel)) (fun _ _ _ => rfl) (fun A outer s H Ex I => ⟨(tl14_law sp_win), (de_callA G_win (I.rm hk_win) I.tk (da_cons (de_lst (da_cons de_int da_nil)) da_nil)), hl14⟩))) (da_cons (de_lam (E.L _ ml_law) (lamC_by (by decide +kernel)) (fun f c2 pm ctv F hF hC => cal_of (k := k_lam) (sp := sl13) hF hC (lamC_by (by decide +kernel)) (fun _ _ _ => rfl) (fun A outer s H Ex I => ⟨(tl13_law sp_wll), (de_callA G_wll (I.rm hk_wll) I.tk (da_cons (de_lst (da_cons (de_neg de_int) da_nil)) da_nil)), hl13⟩))) (da_cons (de_lam (E.L _ ml_law) (lamC_by (by decide +kernel)) (fun f c2 pm ctv F hF hC => cal_of (k := k_lam) (sp := sl12) hF hC (lamC_by (by decide +kernel)) (fun _ _ _ => rfl) (fun A outer s H Ex I => ⟨(tl12_law sp_mis), (de_callA G_mis (I.rm hk_mis) I.tk (da_cons (de_lst (da_cons (de_neg de_int) da_nil)) da_nil)), hl12⟩))) (da_cons (de_lam (E.L _ ml_law) (lamC_by (by decide +kernel)) (fun f c2 pm ctv F hF hC => cal_of (k := k_lam) (sp := sl11) hF hC (lamC_by (by decide +kernel)) (fun _ _ _ => rfl) (fun A outer s H Ex I => ⟨(tl11_law sp_prod), (de_callA G_prod (I.rm hk_prod) I.tk (da_cons de_int (da_cons de_int da_nil))), hl11⟩))) (da_cons (de_lam (E.L _ ml_law) (lamC_by (by decide +kernel)) (fun f c2 pm ctv F hF hC => cal_of (k := k_lam) (sp := sl10) hF hC (lamC_by (by decide +kernel)) (fun _ _ _ => rfl) (fun A outer s H Ex I => ⟨(tl10_law sp_prod), (de_callA G_prod (I.rm hk_prod) I.tk (da_cons de_int (da_cons (de_neg de_int) da_nil))), hl10⟩))) (da_cons (de_lam (E.L _ ml_law) (lamC_by (by decide +kernel)) (fun f c2 pm ctv F hF hC => cal_of (k := k_lam) (sp := sl9) hF hC (lamC_by (by decide +kernel)) (fun _ _ _ => rfl) (fun A outer s H Ex I => ⟨(tl9_law sp_inv), (de_callA G_inv (I.rm hk_inv) I.tk (da_cons de_int da_nil)), hl9⟩))) (da_cons (de_lam (E.L _ ml_law) (lamC_by (by decide +kernel)) (fun f c2 pm ctv F hF hC => cal_of (k := k_lam) (sp := sl8) hF hC (lamC_by (by decide +kernel)) (fun _ _ _ => rfl) (fun A outer s H Ex I => ⟨(tl8_law sp_inv), (de_callA G_inv (I.rm hk_inv) I.tk (da_cons de_int da_nil)), hl8⟩))) (da_cons (de_lam (E.L _ ml_law) (lamC_by (by decide +kernel)) (fun f c2 pm ctv F hF hC => cal_of (k := k_lam) (sp := sl7) hF hC (lamC_by (by decide +kernel)) (fun _ _ _ => rfl) (fun A outer s H Ex I => ⟨(tl7_law sp_cold), (de_callA G_cold (I.rm hk_cold) I.tk (da_cons (de_neg de_int) da_nil)), hl7⟩))) (da_cons (de_lam (E.L _ ml_law) (lamC_by (by decide +kernel)) (fun f c2 pm ctv F hF hC => cal_of (k := k_lam) (sp := sl6) hF hC (lamC_by (by decide +kernel)) (fun _ _ _ => rfl) (fun A outer s H Ex I => ⟨(tl6_law sp_cold), (de_callA G_cold (I.rm hk_cold) I.tk (da_cons de_int da_nil)), hl6⟩))) (da_cons (de_lam (E.L _ ml_law) (lamC_by (by decide +kernel)) (fun f c2 pm ctv F hF hC => cal_of (k := k_lam) (sp := sl5) hF hC (lamC_by (by decide +kernel)) (fun _ _ _ => rfl) (fun A outer s H Ex I => ⟨(tl5_law sp_iscold), (de_callA G_iscold (I.rm hk_iscold) I.tk (da_cons de_int (da_cons de_int da_nil))), hl5⟩))) (da_cons (de_lam (E.L _ ml_law) (lamC_by (by decide +kernel)) (fun f c2 pm ctv F hF hC => cal_of (k := k_lam) (sp := sl4) hF hC (lamC_by (by decide +kernel)) (fun _ _ _ => rfl) (fun A outer s H Ex I => ⟨(tl4_law sp_iscold), (de_callA G_iscold (I.rm hk_iscold) I.tk (da_cons de_int (da_cons (de_neg de_int) da_nil))), hl4⟩))) (da_cons (de_lam (E.L _ ml_law) (lamC_by (by decide +kernel)) (fun f c2 pm ctv F hF hC => cal_of (k := k_lam) (sp := sl3) hF hC (lamC_by (by decide +kernel)) (fun _ _ _ => rfl) (fun A outer s H Ex I => ⟨(tl3_law sp_stair), (de_callA G_stair (I.rm hk_stair) I.tk (da_cons (de_lst (da_cons (de_neg de_int) da_nil)) da_nil)), hl3⟩))) (da_cons (de_lam (E.L _ ml_law) (lamC_by (by decide +kernel)) (fun f c2 pm ctv F hF hC => cal_of (k := k_lam) (sp := sl2) hF hC (lamC_by (by decide +kernel)) (fun _ _ _ => rfl) (fun A outer s H Ex I => ⟨(tl2_law sp_stair), (de_callA G_stair (I.rm hk_stair) I.tk (da_cons (de_lst (da_cons de_int (da_cons de_int da_nil))) da_nil)), hl2⟩))) (da_cons (de_lam (E.L _ ml_law) (lamC_by (by decide +kernel)) (fun f c2 pm ctv F hF hC => cal_of (k := k_lam) (sp := sl1) hF hC (lamC_by (by decide +kernel)) (fun _ _ _ => rfl) (fun A outer s H Ex I => ⟨(tl1_law sp_stair), (de_callA G_stair (I.rm hk_stair) I.tk (da_cons (de_mul (de_lst (da_cons de_int da_nil)) de_int) da_nil)), hl1⟩))) da_nil))))))))))))))))))))
      (dss_one (ds_ret (de_and (de_cp (cd_eq I.u64) (de_lc (own := [("f", 24)]) (by rfl) S.nd (di_seq (dv 22)) (blk_by (N := N_law) (sc := defScope s_law) (own := [("f", 24)]) (by decide +kernel)) own_name (fun _ _ _ _ _ => pg_own1 S.nd rfl (Or.inl rfl) (Or.inr rfl)) (fun _ _ _ _ _ => dts_one (dt_cp (cd_ne I.u64) (de_callA G_ltold (I.rm h_ltold) takes0 (da_cons (dv 24) da_nil)) de_str)) (fun _ _ _ _ _ => de_int)) (de_lst da_nil)) (de_and (de_cp (cd_eq I.u64) (de_tup (da_cons (de_gint (E.int "MOST_HEAPS" 12 m_int_MOST_HEAPS)) (da_cons (de_gint (E.int "MOST_SIZE" 4095 m_int_MOST_SIZE)) da_nil))) (de_tup (da_cons de_int (da_cons de_int da_nil)))) (de_and (de_cp (cd_eq I.u64) (de_callA G_prod (I.rm h_prod) I.tk (da_cons de_int (da_cons de_int da_nil))) de_int) (de_and (de_cp (cd_eq I.u64) (de_callA G_prod (I.rm h_prod) I.tk (da_cons de_int (da_cons de_int da_nil))) de_int) (de_and (de_cp (cd_eq I.u64) (de_callA G_prod (I.rm h_prod) I.tk (da_cons de_int (da_cons de_int da_nil))) de_int) (de_and (de_cp (cd_eq I.u64) (de_callA G_win (I.rm h_win) I.tk (da_cons (de_lst (da_cons de_int (da_cons de_int (da_cons de_int da_nil)))) da_nil)) (de_tup (da_cons (de_tup (da_cons de_int (da_cons de_int da_nil))) da_nil))) (de_and (de_callA G_wll (I.rm h_wll) I.tk (da_cons (de_lst da_nil) da_nil)) (de_and (de_not (de_callA G_wll (I.rm h_wll) I.tk (da_cons (de_lst (da_cons de_int da_nil)) da_nil))) (de_and (de_cp (cd_eq I.u64) (de_callA G_cold (I.rm h_cold) I.tk (da_cons de_int da_nil)) (de_tup (da_cons de_int (da_cons de_int da_nil)))) (de_one (de_callA G_iscold (I.rm h_iscold) I.tk (da_cons de_int (da_cons de_int da_nil)))))))))))))))))
theorem bn_law (kV doc pm : Value) (an : Option Addr) (cdv ct : Value) (us : List Value) (h : us.length = (["script"] : List Str).length) : bindArgs (PySem.W.fnOf d_law.name d_law.qual d_law.params d_law.body d_law.scope .none kV doc pm an cdv ct) ⟨us, []⟩ = pure ((["script"] : List Str).zip us) := match us, h with | [_], _ => rfl
end
end K01
set_option Elab.async false
set_option linter.all false
set_option pp.maxSteps 600
set_option maxRecDepth 100000
set_option maxHeartbeats 2000000
namespace K01
open PySem PySem.Spec PyProof.Rows L2 DL
/-! ### check_heaps -/
def okH (ns : List Int) : Bool := decide (ns.length ≤ 12) && ns.all fun n => decide (0 ≤ n) && decide (n ≤ 4095)
def iL (ns : List Int) : List D := ns.map .int
/-- d holds the whole numbers ns -/
def Hs (B : Bx) (d : D) (ns : List Int) : Prop := seqOf B d = some (iL ns)
def sp_check (C : Addr) : SpD := fun ds B q x => ∃ d ns, ds = [d] ∧ Hs B d ns ∧ (okH ns = true → q .non B) ∧ (okH ns = false → x C B)
theorem rd_check {C : Addr} {ds : List D} {B : Bx} {q : DK} {x : XD} (h : sp_check C ds B q x) : t_check C (endsD q x) (startD N_check ds) B := by
  obtain ⟨d, ns, rfl, hd, h1, h2⟩ := h
  dsimp only [t_check, N_check, dIfS, dOr, dAnd, dNot, dTest, dOp, dUn, dCB, dCons, dNil, dVar, dC, dSeq, dAsg, hName, dRet, dRetF, dRetN, dRaise, dNext, dDrop, dAppend, dCall, gI, gIC, gU, gMM, dChain, dAndV, dOrV, dNotV, dTup, dLst, dLstB, dNewK, dNewT, dPar, dAug, hTup, hCons, hEnd, hSub, dISeq, dIEn, dIR1, dIR2, dFor, dLc, dLcB, hPair, dYes, dBreak, dCont, dIf, dQuant, getS, setS, startD, DL.gSub, gDiv, gMod, gPow, gShl, gXor, gAddI, gLt, gLe, gGt, gGe, gNegU, gMax2, gMin2, gAbs, gIntC, gEq, gIsN, gAdd, gMul, dSl, dNoPart, dPart, wipeD, List.set, rNot, rChain, rOp, rVar, rC, rAnd, hLt, hLe, hGt, hGe, hEq, DL.rI]
  refine gLen_seq hd ?_
  have el : (iL ns).length = ns.length := List.length_map ..
  dsimp only
  refine ite_dec (fun hl => ?_) (fun hl => ?_)
  · rw [if_pos rfl]
    exact here (h2 (by unfold okH; rw [el] at hl; simp; omega))
  · refine ⟨iL ns, fun e => match e with | .int n => !(decide (0 ≤ n) && decide (n ≤ 4095)) | _ => false, hd, fun e he => ?_, ?_⟩
    · obtain ⟨n, hn, rfl⟩ := List.mem_map.mp he
      dsimp only
      by_cases h0 : 0 ≤ n <;> simp [h0]
    · have e2 : (iL ns).any (fun e => match e with | .int n => !(decide (0 ≤ n) && decide (n ≤ 4095)) | _ => false) = !(ns.all fun n => decide (0 ≤ n) && decide (n ≤ 4095)) := by
        unfold iL
        rw [List.any_map, List.all_eq_not_any_not, Bool.not_not]
        rfl
      rw [if_neg (by decide : ¬ (false = true)), e2]
      rw [el] at hl
      refine ite_of (fun h => here (h2 ?_)) (fun h => here (h1 ?_))
      · unfold okH
        rw [Bool.not_eq_true'] at h
        rw [h, Bool.and_false]
      · unfold okH
        rw [Bool.not_eq_false'] at h
        rw [h]
        simp; omega
/-! ### nim_sum -/
def xorL (ns : List Int) : Int := ns.foldl Builtin.bitXor 0
def sp_sum (C : Addr) : SpD := fun ds B q x => ∃ d ns, ds = [d] ∧ Hs B d ns ∧ (okH ns = true → q (.int (xorL ns)) B) ∧ (okH ns = false → x C B)
theorem rd_sum {C : Addr} {ds : List D} {B : Bx} {q : DK} {x : XD} (h : sp_sum C ds B q x) : t_sum (sp_check C) (endsD q x) (startD N_sum ds) B := by
  obtain ⟨d, ns, rfl, hd, h1, h2⟩ := h
  dsimp only [t_sum, N_sum, dIfS, dOr, dAnd, dNot, dTest, dOp, dUn, dCB, dCons, dNil, dVar, dC, dSeq, dAsg, hName, dRet, dRetF, dRetN, dRaise, dNext, dDrop, dAppend, dCall, gI, gIC, gU, gMM, dChain, dAndV, dOrV, dNotV, dTup, dLst, dLstB, dNewK, dNewT, dPar, dAug, hTup, hCons, hEnd, hSub, dISeq, dIEn, dIR1, dIR2, dFor, dLc, dLcB, hPair, dYes, dBreak, dCont, dIf, dQuant, getS, setS, startD, DL.gSub, gDiv, gMod, gPow, gShl, gXor, gAddI, gLt, gLe, gGt, gGe, gNegU, gMax2, gMin2, gAbs, gIntC, gEq, gIsN, gAdd, gMul, dSl, dNoPart, dPart, wipeD, List.set, rNot, rChain, rOp, rVar, rC, rAnd, hLt, hLe, hGt, hGe, hEq, DL.rI]
  refine ⟨d, ns, rfl, hd, fun ok => ?_, fun no => here (h2 no)⟩
  refine iSq_of hd (Few.refl _) fun gd hg => ?_
  refine for_by (fun r Γ B' => B' = B ∧ ∃ (ms : List Int) (acc : Int) (z : Option D), r = iL ms ∧ Γ = [some d, some (.int acc), z] ∧ ms.foldl Builtin.bitXor acc = xorL ns) ⟨rfl, ns, 0, none, rfl, rfl, rfl⟩ (fun r Γ B' h => by rw [h.1]; exact hg _ (Few.refl _)) (fun Γ B' h => ?_) (fun e r Γ B' K h hk => ?_)
  · obtain ⟨rfl, ms, acc, z, h3, rfl, h4⟩ := h
    cases ms with
    | nil =>
      have h4 : acc = _ := h4
      subst h4
      exact here (h1 ok)
    | cons m ms => cases h3
  · obtain ⟨rfl, ms, acc, z, h3, rfl, h4⟩ := h
    cases ms with
    | nil => cases h3
    | cons m ms =>
      cases h3
      dsimp only [B1_sum, dIfS, dOr, dAnd, dNot, dTest, dOp, dUn, dCB, dCons, dNil, dVar, dC, dSeq, dAsg, hName, dRet, dRetF, dRetN, dRaise, dNext, dDrop, dAppend, dCall, gI, gIC, gU, gMM, dChain, dAndV, dOrV, dNotV, dTup, dLst, dLstB, dNewK, dNewT, dPar, dAug, hTup, hCons, hEnd, hSub, dISeq, dIEn, dIR1, dIR2, dFor, dLc, dLcB, hPair, dYes, dBreak, dCont, dIf, dQuant, getS, setS, startD, DL.gSub, gDiv, gMod, gPow, gShl, gXor, gAddI, gLt, gLe, gGt, gGe, gNegU, gMax2, gMin2, gAbs, gIntC, gEq, gIsN, gAdd, gMul, dSl, dNoPart, dPart, wipeD, List.set, rNot, rChain, rOp, rVar, rC, rAnd, hLt, hLe, hGt, hGe, hEq, DL.rI]
      exact hk _ _ ⟨rfl, ms, Builtin.bitXor acc m, some (.int m), rfl, rfl, h4⟩
/-! ### winning_moves -/
def pairs (l : List (Int × Int)) : List D := l.map fun p => .tup [.int p.1, .int p.2]
def winG (whole : Int) : Int → List Int → List (Int × Int)
  | _, [] => []
  | i, h :: r => if Builtin.bitXor h whole < h then (i, Builtin.bitXor h whole) :: winG whole (i + 1) r else winG whole (i + 1) r
def sp_win (C : Addr) : SpD := fun ds B q x => ∃ d ns, ds = [d] ∧ Hs B d ns ∧ ns.length ≤ 60 ∧ (okH ns = true → q (.tup (pairs (winG (xorL ns) 0 ns))) B) ∧ (okH ns = false → x C B)
theorem rd_win {C : Addr} {ds : List D} {B : Bx} {q : DK} {x : XD} (h : sp_win C ds B q x) : t_win (sp_sum C) (endsD q x) (startD N_win ds) B := by
  obtain ⟨d, ns, rfl, hd, hl, h1, h2⟩ := h
  dsimp only [t_win, N_win, dIfS, dOr, dAnd, dNot, dTest, dOp, dUn, dCB, dCons, dNil, dVar, dC, dSeq, dAsg, hName, dRet, dRetF, dRetN, dRaise, dNext, dDrop, dAppend, dCall, gI, gIC, gU, gMM, dChain, dAndV, dOrV, dNotV, dTup, dLst, dLstB, dNewK, dNewT, dPar, dAug, hTup, hCons, hEnd, hSub, dISeq, dIEn, dIR1, dIR2, dFor, dLc, dLcB, hPair, dYes, dBreak, dCont, dIf, dQuant, getS, setS, startD, DL.gSub, gDiv, gMod, gPow, gShl, gXor, gAddI, gLt, gLe, gGt, gGe, gNegU, gMax2, gMin2, gAbs, gIntC, gEq, gIsN, gAdd, gMul, dSl, dNoPart, dPart, wipeD, List.set, rNot, rChain, rOp, rVar, rC, rAnd, hLt, hLe, hGt, hGe, hEq, DL.rI]
  refine ⟨d, ns, rfl, hd, fun ok => ⟨trivial, fun p hp => ?_⟩, fun no => here (h2 no)⟩
  refine iEn_of hd (Few.put hp) fun gd hg => ?_
  refine for_by (fun r Γ B' => ∃ (done : List (Int × Int)) (i : Int) (ms : List Int) (y z : Option D), B' = put B p (.lst (pairs done)) ∧ r = enumL i (iL ms) ∧ Γ = [some d, some (.int (xorL ns)), some (.ref p), y, z] ∧ done ++ winG (xorL ns) i ms = winG (xorL ns) 0 ns ∧ done.length + ms.length ≤ 60)
    ⟨[], 0, ns, none, none, rfl, rfl, rfl, rfl, by simpa using hl⟩ (fun r Γ B' h => by obtain ⟨done, _, _, _, _, rfl, _⟩ := h; exact hg _ (Few.put hp)) (fun Γ B' h => ?_) (fun e r Γ B' K h hk => ?_)
  · obtain ⟨done, i, ms, y, z, rfl, h3, rfl, h4, h5⟩ := h
    cases ms with
    | nil =>
      rw [show winG (xorL ns) i [] = [] from rfl, List.append_nil] at h4
      subst h4
      exact gTuple_ref put_same ⟨B, Few.put hp, h1 ok⟩
    | cons m ms => cases h3
  · obtain ⟨done, i, ms, y, z, rfl, h3, rfl, h4, h5⟩ := h
    cases ms with
    | nil => cases h3
    | cons m ms =>
      cases h3
      dsimp only [B1_win, dIfS, dOr, dAnd, dNot, dTest, dOp, dUn, dCB, dCons, dNil, dVar, dC, dSeq, dAsg, hName, dRet, dRetF, dRetN, dRaise, dNext, dDrop, dAppend, dCall, gI, gIC, gU, gMM, dChain, dAndV, dOrV, dNotV, dTup, dLst, dLstB, dNewK, dNewT, dPar, dAug, hTup, hCons, hEnd, hSub, dISeq, dIEn, dIR1, dIR2, dFor, dLc, dLcB, hPair, dYes, dBreak, dCont, dIf, dQuant, getS, setS, startD, DL.gSub, gDiv, gMod, gPow, gShl, gXor, gAddI, gLt, gLe, gGt, gGe, gNegU, gMax2, gMin2, gAbs, gIntC, gEq, gIsN, gAdd, gMul, dSl, dNoPart, dPart, wipeD, List.set, rNot, rChain, rOp, rVar, rC, rAnd, hLt, hLe, hGt, hGe, hEq, DL.rI]
      refine ite_dec (fun hlt => ⟨⟨_, put_same⟩, trivial, _, put_same, ?_, hk _ _ ⟨done ++ [(i, Builtin.bitXor m (xorL ns))], i + 1, ms, _, _, ?_, rfl, rfl, ?_, ?_⟩⟩) (fun hlt => hk _ _ ⟨done, i + 1, ms, _, _, rfl, rfl, rfl, ?_, ?_⟩)
      · exact lt_size (by rw [pairs, List.length_map]; simp at h5; omega)
      · rw [put_put]; unfold pairs; rw [List.map_append]; rfl
      · rw [← h4, List.append_assoc]
        show _ ++ _ = done ++ (if _ then _ else _)
        rw [if_pos hlt]; rfl
      · simp at h5 ⊢; omega
      · rw [← h4]
        show _ ++ _ = done ++ (if _ then _ else _)
        rw [if_neg hlt]
      · simp at h5; omega
/-! ### wins_last_loses -/
def wllB (ns : List Int) : Bool := if ns.all (fun n => decide (n < 2)) = true then decide (xorL ns = 0) else !decide (xorL ns = 0)
def sp_wll (C : Addr) : SpD := fun ds B q x => ∃ d ns, ds = [d] ∧ Hs B d ns ∧ (okH ns = true → q (.bl (wllB ns)) B) ∧ (okH ns = false → x C B)
theorem rd_wll {C : Addr} {ds : List D} {B : Bx} {q : DK} {x : XD} (h : sp_wll C ds B q x) : t_wll (sp_sum C) (endsD q x) (startD N_wll ds) B := by
  obtain ⟨d, ns, rfl, hd, h1, h2⟩ := h
  dsimp only [t_wll, N_wll, dIfS, dOr, dAnd, dNot, dTest, dOp, dUn, dCB, dCons, dNil, dVar, dC, dSeq, dAsg, hName, dRet, dRetF, dRetN, dRaise, dNext, dDrop, dAppend, dCall, gI, gIC, gU, gMM, dChain, dAndV, dOrV, dNotV, dTup, dLst, dLstB, dNewK, dNewT, dPar, dAug, hTup, hCons, hEnd, hSub, dISeq, dIEn, dIR1, dIR2, dFor, dLc, dLcB, hPair, dYes, dBreak, dCont, dIf, dQuant, getS, setS, startD, DL.gSub, gDiv, gMod, gPow, gShl, gXor, gAddI, gLt, gLe, gGt, gGe, gNegU, gMax2, gMin2, gAbs, gIntC, gEq, gIsN, gAdd, gMul, dSl, dNoPart, dPart, wipeD, List.set, rNot, rChain, rOp, rVar, rC, rAnd, hLt, hLe, hGt, hGe, hEq, DL.rI]
  refine ⟨d, ns, rfl, hd, fun ok => ?_, fun no => here (h2 no)⟩
  refine ⟨iL ns, fun e => match e with | .int n => decide (n < 2) | _ => false, hd, fun e he => ?_, ?_⟩
  · obtain ⟨n, hn, rfl⟩ := List.mem_map.mp he
    rfl
  · have e2 : (iL ns).all (fun e => match e with | .int n => decide (n < 2) | _ => false) = ns.all fun n => decide (n < 2) := by
      unfold iL
      rw [List.all_map]
      rfl
    rw [if_pos rfl, e2]
    have h1 := h1 ok
    unfold wllB at h1
    refine ite_of (fun h => ?_) (fun h => ?_)
    · rw [if_pos h] at h1
      exact here (by rw [Bool.false_xor]; exact h1)
    · rw [if_neg (by rw [h]; decide)] at h1
      exact here (by rw [Bool.true_xor]; exact h1)
/-! ### misere_moves -/
def misS (ns : List Int) (i : Nat) : Int → Nat → List (Int × Int)
  | _, 0 => []
  | s, n + 1 => if wllB (ns.take i ++ [s] ++ ns.drop (i + 1)) = true then misS ns i (s + 1) n else ((i : Int), s) :: misS ns i (s + 1) n
def misG (ns : List Int) : Nat → List Int → List (Int × Int)
  | _, [] => []
  | i, h :: r => misS ns i 0 h.toNat ++ misG ns (i + 1) r
theorem misS_len (ns : List Int) (i : Nat) : ∀ (n : Nat) (s : Int), (misS ns i s n).length ≤ n
  | 0, _ => Nat.le_refl _
  | n + 1, s => by
    unfold misS
    split
    · exact Nat.le_succ_of_le (misS_len ns i n (s + 1))
    · exact Nat.succ_le_succ (misS_len ns i n (s + 1))
theorem okH_at {ns : List Int} (h : okH ns = true) {n : Int} (hn : n ∈ ns) : 0 ≤ n ∧ n ≤ 4095 := by
  unfold okH at h
  rw [Bool.and_eq_true, List.all_eq_true] at h
  simpa using h.2 n hn
theorem okH_len {ns : List Int} (h : okH ns = true) : ns.length ≤ 12 := by
  unfold okH at h
  rw [Bool.and_eq_true] at h
  exact of_decide_eq_true h.1
theorem okH_of {ns : List Int} (h : ns.length ≤ 12) (k : ∀ n ∈ ns, 0 ≤ n ∧ n ≤ 4095) : okH ns = true := by
  unfold okH
  rw [Bool.and_eq_true, List.all_eq_true]
  exact ⟨decide_eq_true h, fun n hn => by simpa using k n hn⟩
theorem okH_set {ns : List Int} (h : okH ns = true) {i : Nat} (hi : i < ns.length) {s : Int} (h0 : 0 ≤ s) (h1 : s ≤ ns[i]) : okH (ns.take i ++ [s] ++ ns.drop (i + 1)) = true := by
  refine okH_of ?_ fun n hn => ?_
  · have := okH_len h
    simp; omega
  · have hb := okH_at h (List.getElem_mem hi)
    rcases List.mem_append.mp hn with hn | hn
    · rcases List.mem_append.mp hn with hn | hn
      · exact okH_at h (List.mem_of_mem_take hn)
      · have e : n = s := by simpa using hn
        subst e
        omega
    · exact okH_at h (List.mem_of_mem_drop hn)
def sp_mis (C : Addr) : SpD := fun ds B q x => ∃ d ns, ds = [d] ∧ Hs B d ns ∧ (∀ ys, d ≠ .rot ys) ∧ (okH ns = true → q (.tup (pairs (misG ns 0 ns))) B) ∧ (okH ns = false → x C B)
theorem cut_iL (ns : List Int) (i : Nat) : cutD (iL ns) none (some (i : Int)) ++ [.int s] ++ cutD (iL ns) (some ((i + 1 : Nat) : Int)) none = iL (ns.take i ++ [s] ++ ns.drop (i + 1)) := by
  rw [cutD_take, cutD_drop]
  unfold iL
  rw [List.map_append, List.map_append, List.map_take, List.map_drop]
  rfl
theorem rd_mis {C : Addr} {ds : List D} {B : Bx} {q : DK} {x : XD} (h : sp_mis C ds B q x) : t_mis (sp_wll C) (sp_check C) (endsD q x) (startD N_mis ds) B := by
  obtain ⟨d, ns, rfl, hd, hrot, h1, h2⟩ := h
  dsimp only [t_mis, N_mis, dIfS, dOr, dAnd, dNot, dTest, dOp, dUn, dCB, dCons, dNil, dVar, dC, dSeq, dAsg, hName, dRet, dRetF, dRetN, dRaise, dNext, dDrop, dAppend, dCall, gI, gIC, gU, gMM, dChain, dAndV, dOrV, dNotV, dTup, dLst, dLstB, dNewK, dNewT, dPar, dAug, hTup, hCons, hEnd, hSub, dISeq, dIEn, dIR1, dIR2, dFor, dLc, dLcB, hPair, dYes, dBreak, dCont, dIf, dQuant, getS, setS, startD, DL.gSub, gDiv, gMod, gPow, gShl, gXor, gAddI, gLt, gLe, gGt, gGe, gNegU, gMax2, gMin2, gAbs, gIntC, gEq, gIsN, gAdd, gMul, dSl, dNoPart, dPart, wipeD, List.set, rNot, rChain, rOp, rVar, rC, rAnd, hLt, hLe, hGt, hGe, hEq, DL.rI]
  refine ⟨d, ns, rfl, hd, fun ok => ⟨trivial, fun p hp => ?_⟩, fun no => here (h2 no)⟩
  refine iEn_of hd (Few.put hp) fun gd hg => ?_
  have hlen := okH_len ok
  refine for_by (fun r Γ B' => ∃ (done : List (Int × Int)) (i : Nat) (ms : List Int) (y z u v : Option D), B' = put B p (.lst (pairs done)) ∧ r = enumL i (iL ms) ∧ Γ = [some d, some (.ref p), y, z, u, v] ∧ done ++ misG ns i ms = misG ns 0 ns ∧ ms = ns.drop i ∧ done.length ≤ 4096 * i)
    ⟨[], 0, ns, none, none, none, none, rfl, rfl, rfl, rfl, rfl, Nat.zero_le _⟩ (fun r Γ B' h => by obtain ⟨done, _, _, _, _, _, _, rfl, _⟩ := h; exact hg _ (Few.put hp)) (fun Γ B' h => ?_) (fun e r Γ B' K h hk => ?_)
  · obtain ⟨done, i, ms, y, z, u, v, rfl, h3, rfl, h4, h5, h6⟩ := h
    cases ms with
    | nil =>
      rw [show misG ns i [] = [] from rfl, List.append_nil] at h4
      subst h4
      exact gTuple_ref put_same ⟨B, Few.put hp, h1 ok⟩
    | cons m ms => cases h3
  · obtain ⟨done, i, ms, y, z, u, v, rfl, h3, rfl, h4, h5, h6⟩ := h
    cases ms with
    | nil => cases h3
    | cons m ms =>
      cases h3
      have hi : i < ns.length := by
        rcases Nat.lt_or_ge i ns.length with h | h
        · exact h
        · rw [List.drop_of_length_le h] at h5; cases h5
      rw [List.drop_eq_getElem_cons hi] at h5
      injection h5 with h5 h7
      subst h5
      have hm := okH_at ok (List.getElem_mem hi)
      have hd2 := seqOf_put (b := Box.lst (pairs done)) hd hp
      dsimp only [B2_mis, dIfS, dOr, dAnd, dNot, dTest, dOp, dUn, dCB, dCons, dNil, dVar, dC, dSeq, dAsg, hName, dRet, dRetF, dRetN, dRaise, dNext, dDrop, dAppend, dCall, gI, gIC, gU, gMM, dChain, dAndV, dOrV, dNotV, dTup, dLst, dLstB, dNewK, dNewT, dPar, dAug, hTup, hCons, hEnd, hSub, dISeq, dIEn, dIR1, dIR2, dFor, dLc, dLcB, hPair, dYes, dBreak, dCont, dIf, dQuant, getS, setS, startD, DL.gSub, gDiv, gMod, gPow, gShl, gXor, gAddI, gLt, gLe, gGt, gGe, gNegU, gMax2, gMin2, gAbs, gIntC, gEq, gIsN, gAdd, gMul, dSl, dNoPart, dPart, wipeD, List.set, rNot, rChain, rOp, rVar, rC, rAnd, hLt, hLe, hGt, hGe, hEq, DL.rI]
      refine ⟨by omega, ?_⟩
      refine for_by (fun r Γ B' => ∃ (dn : List (Int × Int)) (s : Int) (n : Nat) (u v : Option D), B' = put B p (.lst (pairs dn)) ∧ r = upto s n ∧ Γ = [some d, some (.ref p), some (.int i), some (.int ns[i]), u, v] ∧ dn ++ misS ns i s n = done ++ misS ns i 0 ns[i].toNat ∧ 0 ≤ s ∧ s + n = ns[i] ∧ dn.length + n ≤ 4096 * i + 4096)
        ⟨done, 0, ns[i].toNat, u, v, rfl, rfl, rfl, rfl, Int.le_refl 0, by omega, by omega⟩ (fun r Γ B' h f e => by cases e) (fun Γ B' h => ?_) (fun e r Γ B' K' h hk' => ?_)
      · obtain ⟨dn, s, n, u, v, rfl, h8, rfl, h9, h10, h11, h12⟩ := h
        cases n with
        | zero =>
          rw [show misS ns i s 0 = [] from rfl, List.append_nil] at h9
          refine hk _ _ ⟨dn, i + 1, ms, _, _, _, _, rfl, rfl, rfl, ?_, h7, by omega⟩
          rw [h9, ← h4, List.append_assoc]
          rfl
        | succ n => cases h8
      · obtain ⟨dn, s, n, u, v, rfl, h8, rfl, h9, h10, h11, h12⟩ := h
        cases n with
        | zero => cases h8
        | succ n =>
          cases h8
          have hd3 := seqOf_put (b := Box.lst (pairs dn)) hd hp
          have hcut : ∀ (lo hi : Option Int), (cutD (iL ns) lo hi).length ≤ 12 := fun lo hi => by
            unfold DL.cutD
            rw [List.length_take, List.length_drop]
            have : (iL ns).length = ns.length := List.length_map ..
            omega
          dsimp only [B1_mis, dIfS, dOr, dAnd, dNot, dTest, dOp, dUn, dCB, dCons, dNil, dVar, dC, dSeq, dAsg, hName, dRet, dRetF, dRetN, dRaise, dNext, dDrop, dAppend, dCall, gI, gIC, gU, gMM, dChain, dAndV, dOrV, dNotV, dTup, dLst, dLstB, dNewK, dNewT, dPar, dAug, hTup, hCons, hEnd, hSub, dISeq, dIEn, dIR1, dIR2, dFor, dLc, dLcB, hPair, dYes, dBreak, dCont, dIf, dQuant, getS, setS, startD, DL.gSub, gDiv, gMod, gPow, gShl, gXor, gAddI, gLt, gLe, gGt, gGe, gNegU, gMax2, gMin2, gAbs, gIntC, gEq, gIsN, gAdd, gMul, dSl, dNoPart, dPart, wipeD, List.set, rNot, rChain, rOp, rVar, rC, rAnd, hLt, hLe, hGt, hGe, hEq, DL.rI]
          refine gSlT hd3 hrot ⟨trivial, ?_⟩
          refine ⟨le_size (by have := hcut none (some (i : Int)); simp; omega), ?_⟩
          refine gSlT hd3 hrot ?_
          have e1 : ((i : Int) + 1) = ((i + 1 : Nat) : Int) := by omega
          rw [e1]
          refine ⟨le_size ?_, ?_⟩
          · have h1 := hcut none (some (i : Int))
            have h2 := hcut (some ((i + 1 : Nat) : Int)) none
            simp at h1 h2 ⊢; omega
          rw [cut_iL]
          refine ⟨.tup (iL (ns.take i ++ [s] ++ ns.drop (i + 1))), ns.take i ++ [s] ++ ns.drop (i + 1), rfl, rfl, fun _ => ?_, fun no => ?_⟩
          · refine ite_of (fun hw => ⟨⟨_, put_same⟩, trivial, _, put_same, ?_, hk' _ _ ⟨dn ++ [((i : Int), s)], s + 1, n, _, _, ?_, rfl, rfl, ?_, by omega, by omega, by simp; omega⟩⟩) (fun hw => hk' _ _ ⟨dn, s + 1, n, _, _, rfl, rfl, rfl, ?_, by omega, by omega, by omega⟩)
            · exact lt_size (by rw [pairs, List.length_map]; omega)
            · rw [put_put]; unfold pairs; rw [List.map_append]; rfl
            · rw [← h9, List.append_assoc]
              show _ = dn ++ (if _ then _ else _)
              rw [if_neg (by rw [Bool.not_eq_true'] at hw; rw [hw]; decide)]
              rfl
            · rw [← h9]
              show _ = dn ++ (if _ then _ else _)
              rw [if_pos (by rw [Bool.not_eq_false'] at hw; exact hw)]
          · rw [okH_set ok hi h10 (by omega)] at no
            cases no
/-! ### nim_product -/
open PL
def inB (a b : Int) : Prop := 0 ≤ a ∧ a ≤ 255 ∧ 0 ≤ b ∧ b ≤ 255
def sp_prod (C : Addr) (n : Nat) : SpD := fun ds B q x => (∃ a b : Nat, ds = [.int a, .int b] ∧ a < lim n ∧ b < lim n ∧ q (.int (npN n a b : Nat)) B) ∨ (1 ≤ n ∧ ∃ a b : Int, ds = [.int a, .int b] ∧ ¬ inB a b ∧ x C B)
theorem lim_le {n : Nat} (hn : n ≤ 4) : lim n ≤ 256 := match n, hn with
  | 0, _ => by decide
  | 1, _ => by decide
  | 2, _ => by decide
  | 3, _ => by decide
  | 4, _ => by decide
theorem rd_prod {C : Addr} {n : Nat} (hn : n ≤ 3) {ds : List D} {B : Bx} {q : DK} {x : XD} (h : sp_prod C (n + 1) ds B q x) : t_prod (sp_prod C n) C (endsD q x) (startD N_prod ds) B := by
  rcases h with ⟨a, b, rfl, ha, hb, h1⟩ | ⟨_, a, b, rfl, hno, h1⟩
  · have hl := lim_le (n := n + 1) (by omega)
    dsimp only [t_prod, N_prod, dIfS, dOr, dAnd, dNot, dTest, dOp, dUn, dCB, dCons, dNil, dVar, dC, dSeq, dAsg, hName, dRet, dRetF, dRetN, dRaise, dNext, dDrop, dAppend, dCall, gI, gIC, gU, gMM, dChain, dAndV, dOrV, dNotV, dTup, dLst, dLstB, dNewK, dNewT, dPar, dAug, hTup, hCons, hEnd, hSub, dISeq, dIEn, dIR1, dIR2, dFor, dLc, dLcB, hPair, dYes, dBreak, dCont, dIf, dQuant, getS, setS, startD, DL.gSub, gDiv, gMod, gPow, gShl, gXor, gAddI, gLt, gLe, gGt, gGe, gNegU, gMax2, gMin2, gAbs, gIntC, gEq, gIsN, gAdd, gMul, dSl, dNoPart, dPart, wipeD, List.set, rNot, rChain, rOp, rVar, rC, rAnd, hLt, hLe, hGt, hGe, hEq, DL.rI]
    refine ite_dec (fun _ => ?_) (fun h => absurd (by omega) h)
    refine ite_ndec (fun h => absurd (by omega) h) (fun _ => ?_)
    refine ite_dec (fun _ => ?_) (fun h => absurd (by omega) h)
    refine ite_ndec (fun h => absurd (by omega) h) (fun _ => ?_)
    unfold npN at h1
    refine ite_dec (fun h2 => ?_) (fun h2 => ?_)
    · rw [if_pos rfl]
      rw [if_pos (.inl (by omega))] at h1
      exact ⟨.inl ⟨by omega, by omega⟩, here (by rw [← Int.natCast_mul]; exact h1)⟩
    refine ite_dec (fun h3 => ?_) (fun h3 => ?_)
    · rw [if_pos (.inr (by omega))] at h1
      exact ⟨.inl ⟨by omega, by omega⟩, here (by rw [← Int.natCast_mul]; exact h1)⟩
    rw [if_neg (by omega)] at h1
    obtain ⟨m, hm⟩ : ∃ m, m = max a b := ⟨_, rfl⟩
    rw [← hm] at h1
    have ha2 : a ≤ m := by omega
    have hb2 : b ≤ m := by omega
    have hm2 : 2 ≤ m := by omega
    have hmm : m < lim (n + 1) := by omega
    have hmx : (if (b : Int) > (a : Int) then (b : Int) else (a : Int)) = (m : Int) := by split <;> omega
    refine ⟨trivial, ⟨fun k Γ B' => B' = B ∧ ∃ hf bt : Nat, ((k = 2 ∧ hf = 16 ∧ bt = 4) ∨ (k = 1 ∧ hf = 4 ∧ bt = 2 ∧ m < 16) ∨ (k = 0 ∧ hf = 2 ∧ bt = 1 ∧ m < 4)) ∧ Γ = [some (.int a), some (.int b), some (.int hf), some (.int bt), none, none, none, none, none],
      ⟨2, rfl, 16, 4, .inl ⟨rfl, rfl, rfl⟩, rfl⟩, fun k Γ B' h => ?_⟩⟩
    obtain ⟨rfl, hf, bt, hc, rfl⟩ := h
    dsimp only [dIfS, dOr, dAnd, dNot, dTest, dOp, dUn, dCB, dCons, dNil, dVar, dC, dSeq, dAsg, hName, dRet, dRetF, dRetN, dRaise, dNext, dDrop, dAppend, dCall, gI, gIC, gU, gMM, dChain, dAndV, dOrV, dNotV, dTup, dLst, dLstB, dNewK, dNewT, dPar, dAug, hTup, hCons, hEnd, hSub, dISeq, dIEn, dIR1, dIR2, dFor, dLc, dLcB, hPair, dYes, dBreak, dCont, dIf, dQuant, getS, setS, startD, DL.gSub, gDiv, gMod, gPow, gShl, gXor, gAddI, gLt, gLe, gGt, gGe, gNegU, gMax2, gMin2, gAbs, gIntC, gEq, gIsN, gAdd, gMul, dSl, dNoPart, dPart, wipeD, List.set, rNot, rChain, rOp, rVar, rC, rAnd, hLt, hLe, hGt, hGe, hEq, DL.rI]
    rw [hmx]
    refine ite_dec (fun hlt => ?_) (fun hge => ?_)
    · rcases hc with ⟨rfl, rfl, rfl⟩ | ⟨rfl, rfl, rfl, hm16⟩ | ⟨rfl, rfl, rfl, hm4⟩
      · exact ⟨⟨by decide, by decide⟩, ⟨by decide, by decide, by decide⟩, 1, by decide, rfl, 4, 2, .inr (.inl ⟨rfl, rfl, rfl, by omega⟩), rfl⟩
      · exact ⟨⟨by decide, by decide⟩, ⟨by decide, by decide, by decide⟩, 0, by decide, rfl, 2, 1, .inr (.inr ⟨rfl, rfl, rfl, by omega⟩), rfl⟩
      · omega
    · have hhf : hf = half m := by
        rcases half_cases m with ⟨k1, e⟩ | ⟨k1, k3, e⟩ | ⟨k1, e⟩ <;> rcases hc with ⟨rfl, rfl, rfl⟩ | ⟨rfl, rfl, rfl, hm16⟩ | ⟨rfl, rfl, rfl, hm4⟩ <;> omega
      rw [← hhf] at h1
      obtain ⟨l1, l2, l3⟩ := lim_div hn ha2 hm2 hmm
      obtain ⟨l4, l5, _⟩ := lim_div hn hb2 hm2 hmm
      rw [← hhf] at l1 l2 l3 l4 l5
      have hf0 : 2 ≤ hf ∧ hf ≤ 16 := by rcases hc with ⟨rfl, rfl, rfl⟩ | ⟨rfl, rfl, rfl, hm16⟩ | ⟨rfl, rfl, rfl, hm4⟩ <;> omega
      have cd : ∀ i : Int, CDiv i (hf : Int) := fun i => ⟨by omega, by omega⟩
      refine ⟨cd _, by omega, cd _, by omega, trivial, ?_⟩
      refine .inl ⟨a / hf, b / hf, rfl, l1, l4, ?_⟩
      dsimp only [dIfS, dOr, dAnd, dNot, dTest, dOp, dUn, dCB, dCons, dNil, dVar, dC, dSeq, dAsg, hName, dRet, dRetF, dRetN, dRaise, dNext, dDrop, dAppend, dCall, gI, gIC, gU, gMM, dChain, dAndV, dOrV, dNotV, dTup, dLst, dLstB, dNewK, dNewT, dPar, dAug, hTup, hCons, hEnd, hSub, dISeq, dIEn, dIR1, dIR2, dFor, dLc, dLcB, hPair, dYes, dBreak, dCont, dIf, dQuant, getS, setS, startD, DL.gSub, gDiv, gMod, gPow, gShl, gXor, gAddI, gLt, gLe, gGt, gGe, gNegU, gMax2, gMin2, gAbs, gIntC, gEq, gIsN, gAdd, gMul, dSl, dNoPart, dPart, wipeD, List.set, rNot, rChain, rOp, rVar, rC, rAnd, hLt, hLe, hGt, hGe, hEq, DL.rI]
      refine .inl ⟨a / hf, b % hf, rfl, l1, l5, ?_⟩
      refine .inl ⟨a % hf, b / hf, rfl, l2, l4, ?_⟩
      dsimp only [dIfS, dOr, dAnd, dNot, dTest, dOp, dUn, dCB, dCons, dNil, dVar, dC, dSeq, dAsg, hName, dRet, dRetF, dRetN, dRaise, dNext, dDrop, dAppend, dCall, gI, gIC, gU, gMM, dChain, dAndV, dOrV, dNotV, dTup, dLst, dLstB, dNewK, dNewT, dPar, dAug, hTup, hCons, hEnd, hSub, dISeq, dIEn, dIR1, dIR2, dFor, dLc, dLcB, hPair, dYes, dBreak, dCont, dIf, dQuant, getS, setS, startD, DL.gSub, gDiv, gMod, gPow, gShl, gXor, gAddI, gLt, gLe, gGt, gGe, gNegU, gMax2, gMin2, gAbs, gIntC, gEq, gIsN, gAdd, gMul, dSl, dNoPart, dPart, wipeD, List.set, rNot, rChain, rOp, rVar, rC, rAnd, hLt, hLe, hGt, hGe, hEq, DL.rI]
      refine ⟨.inr ⟨by omega, by omega⟩, ?_⟩
      refine .inl ⟨a % hf, b % hf, rfl, l2, l5, ?_⟩
      dsimp only [dIfS, dOr, dAnd, dNot, dTest, dOp, dUn, dCB, dCons, dNil, dVar, dC, dSeq, dAsg, hName, dRet, dRetF, dRetN, dRaise, dNext, dDrop, dAppend, dCall, gI, gIC, gU, gMM, dChain, dAndV, dOrV, dNotV, dTup, dLst, dLstB, dNewK, dNewT, dPar, dAug, hTup, hCons, hEnd, hSub, dISeq, dIEn, dIR1, dIR2, dFor, dLc, dLcB, hPair, dYes, dBreak, dCont, dIf, dQuant, getS, setS, startD, DL.gSub, gDiv, gMod, gPow, gShl, gXor, gAddI, gLt, gLe, gGt, gGe, gNegU, gMax2, gMin2, gAbs, gIntC, gEq, gIsN, gAdd, gMul, dSl, dNoPart, dPart, wipeD, List.set, rNot, rChain, rOp, rVar, rC, rAnd, hLt, hLe, hGt, hGe, hEq, DL.rI]
      refine ⟨⟨by decide, by decide⟩, ?_⟩
      refine .inl ⟨npN n (a / hf) (b / hf), hf / 2, rfl, np_closed3 n hn _ l1 _ l4, l3, ?_⟩
      dsimp only [dIfS, dOr, dAnd, dNot, dTest, dOp, dUn, dCB, dCons, dNil, dVar, dC, dSeq, dAsg, hName, dRet, dRetF, dRetN, dRaise, dNext, dDrop, dAppend, dCall, gI, gIC, gU, gMM, dChain, dAndV, dOrV, dNotV, dTup, dLst, dLstB, dNewK, dNewT, dPar, dAug, hTup, hCons, hEnd, hSub, dISeq, dIEn, dIR1, dIR2, dFor, dLc, dLcB, hPair, dYes, dBreak, dCont, dIf, dQuant, getS, setS, startD, DL.gSub, gDiv, gMod, gPow, gShl, gXor, gAddI, gLt, gLe, gGt, gGe, gNegU, gMax2, gMin2, gAbs, gIntC, gEq, gIsN, gAdd, gMul, dSl, dNoPart, dPart, wipeD, List.set, rNot, rChain, rOp, rVar, rC, rAnd, hLt, hLe, hGt, hGe, hEq, DL.rI]
      rw [bxN, bxN, ← Int.natCast_mul, bxN, bxN]
      exact here h1
  · dsimp only [t_prod, N_prod, dIfS, dOr, dAnd, dNot, dTest, dOp, dUn, dCB, dCons, dNil, dVar, dC, dSeq, dAsg, hName, dRet, dRetF, dRetN, dRaise, dNext, dDrop, dAppend, dCall, gI, gIC, gU, gMM, dChain, dAndV, dOrV, dNotV, dTup, dLst, dLstB, dNewK, dNewT, dPar, dAug, hTup, hCons, hEnd, hSub, dISeq, dIEn, dIR1, dIR2, dFor, dLc, dLcB, hPair, dYes, dBreak, dCont, dIf, dQuant, getS, setS, startD, DL.gSub, gDiv, gMod, gPow, gShl, gXor, gAddI, gLt, gLe, gGt, gGe, gNegU, gMax2, gMin2, gAbs, gIntC, gEq, gIsN, gAdd, gMul, dSl, dNoPart, dPart, wipeD, List.set, rNot, rChain, rOp, rVar, rC, rAnd, hLt, hLe, hGt, hGe, hEq, DL.rI]
    unfold inB at hno
    refine ite_dec (fun c1 => ite_ndec (fun h => here h1) (fun c2 => ite_dec (fun c3 => ite_ndec (fun h => here h1) (fun c4 => absurd ⟨c1, c2, c3, c4⟩ hno)) (fun h => here h1))) (fun h => here h1)
/-! ### nim_inverse -/
def sp_inv (C : Addr) : SpD := fun ds B q x => (∃ a : Nat, ds = [.int a] ∧ 1 ≤ a ∧ a ≤ 255 ∧ ∀ o : Nat, 1 ≤ o → o < 256 → npN 4 a o = 1 → q (.int o) B) ∨ (∃ a : Int, ds = [.int a] ∧ ¬ (1 ≤ a ∧ a ≤ 255) ∧ x C B)
theorem rd_inv {C : Addr} {ds : List D} {B : Bx} {q : DK} {x : XD} (h : sp_inv C ds B q x) : t_inv (sp_prod C 4) C (endsD q x) (startD N_inv ds) B := by
  rcases h with ⟨a, rfl, h1, h2, h3⟩ | ⟨a, rfl, hno, h1⟩
  · dsimp only [t_inv, N_inv, dIfS, dOr, dAnd, dNot, dTest, dOp, dUn, dCB, dCons, dNil, dVar, dC, dSeq, dAsg, hName, dRet, dRetF, dRetN, dRaise, dNext, dDrop, dAppend, dCall, gI, gIC, gU, gMM, dChain, dAndV, dOrV, dNotV, dTup, dLst, dLstB, dNewK, dNewT, dPar, dAug, hTup, hCons, hEnd, hSub, dISeq, dIEn, dIR1, dIR2, dFor, dLc, dLcB, hPair, dYes, dBreak, dCont, dIf, dQuant, getS, setS, startD, DL.gSub, gDiv, gMod, gPow, gShl, gXor, gAddI, gLt, gLe, gGt, gGe, gNegU, gMax2, gMin2, gAbs, gIntC, gEq, gIsN, gAdd, gMul, dSl, dNoPart, dPart, wipeD, List.set, rNot, rChain, rOp, rVar, rC, rAnd, hLt, hLe, hGt, hGe, hEq, DL.rI]
    refine ite_dec (fun _ => ?_) (fun h => absurd (by omega) h)
    refine ite_ndec (fun h => absurd (by omega) h) (fun _ => ?_)
    refine ⟨by omega, ?_⟩
    refine for_by (fun r Γ B' => B' = B ∧ ∃ (s n : Nat) (z : Option D), r = upto s n ∧ Γ = [some (.int a), z] ∧ 1 ≤ s ∧ s + n = 256 ∧ ∀ o, 1 ≤ o → o < s → npN 4 a o ≠ 1)
      ⟨rfl, 1, 255, none, rfl, rfl, by omega, by omega, fun o h4 h5 => by omega⟩ (fun r Γ B' h f e => by cases e) (fun Γ B' h => ?_) (fun e r Γ B' K h hk => ?_)
    · obtain ⟨rfl, s, n, z, h4, rfl, h5, h6, h7⟩ := h
      cases n with
      | zero =>
        obtain ⟨k1, k2, k3⟩ := inv_ok a (by omega) h1
        exact absurd k3 (h7 _ k1 (by omega))
      | succ n => cases h4
    · obtain ⟨rfl, s, n, z, h4, rfl, h5, h6, h7⟩ := h
      cases n with
      | zero => cases h4
      | succ n =>
        cases h4
        dsimp only [B1_inv, dIfS, dOr, dAnd, dNot, dTest, dOp, dUn, dCB, dCons, dNil, dVar, dC, dSeq, dAsg, hName, dRet, dRetF, dRetN, dRaise, dNext, dDrop, dAppend, dCall, gI, gIC, gU, gMM, dChain, dAndV, dOrV, dNotV, dTup, dLst, dLstB, dNewK, dNewT, dPar, dAug, hTup, hCons, hEnd, hSub, dISeq, dIEn, dIR1, dIR2, dFor, dLc, dLcB, hPair, dYes, dBreak, dCont, dIf, dQuant, getS, setS, startD, DL.gSub, gDiv, gMod, gPow, gShl, gXor, gAddI, gLt, gLe, gGt, gGe, gNegU, gMax2, gMin2, gAbs, gIntC, gEq, gIsN, gAdd, gMul, dSl, dNoPart, dPart, wipeD, List.set, rNot, rChain, rOp, rVar, rC, rAnd, hLt, hLe, hGt, hGe, hEq, DL.rI]
        refine .inl ⟨a, s, rfl, by simp [lim]; omega, by simp [lim]; omega, ?_⟩
        dsimp only [dIfS, dOr, dAnd, dNot, dTest, dOp, dUn, dCB, dCons, dNil, dVar, dC, dSeq, dAsg, hName, dRet, dRetF, dRetN, dRaise, dNext, dDrop, dAppend, dCall, gI, gIC, gU, gMM, dChain, dAndV, dOrV, dNotV, dTup, dLst, dLstB, dNewK, dNewT, dPar, dAug, hTup, hCons, hEnd, hSub, dISeq, dIEn, dIR1, dIR2, dFor, dLc, dLcB, hPair, dYes, dBreak, dCont, dIf, dQuant, getS, setS, startD, DL.gSub, gDiv, gMod, gPow, gShl, gXor, gAddI, gLt, gLe, gGt, gGe, gNegU, gMax2, gMin2, gAbs, gIntC, gEq, gIsN, gAdd, gMul, dSl, dNoPart, dPart, wipeD, List.set, rNot, rChain, rOp, rVar, rC, rAnd, hLt, hLe, hGt, hGe, hEq, DL.rI]
        rw [Bool.false_xor]
        refine ite_dec (fun he => here (h3 s h5 (by omega) (by omega))) (fun he => hk _ _ ⟨rfl, s + 1, n, _, rfl, rfl, by omega, by omega, fun o h8 h9 => ?_⟩)
        rcases Nat.lt_or_ge o s with h | h
        · exact h7 o h8 h
        · have : o = s := by omega
          subst this
          omega
  · dsimp only [t_inv, N_inv, dIfS, dOr, dAnd, dNot, dTest, dOp, dUn, dCB, dCons, dNil, dVar, dC, dSeq, dAsg, hName, dRet, dRetF, dRetN, dRaise, dNext, dDrop, dAppend, dCall, gI, gIC, gU, gMM, dChain, dAndV, dOrV, dNotV, dTup, dLst, dLstB, dNewK, dNewT, dPar, dAug, hTup, hCons, hEnd, hSub, dISeq, dIEn, dIR1, dIR2, dFor, dLc, dLcB, hPair, dYes, dBreak, dCont, dIf, dQuant, getS, setS, startD, DL.gSub, gDiv, gMod, gPow, gShl, gXor, gAddI, gLt, gLe, gGt, gGe, gNegU, gMax2, gMin2, gAbs, gIntC, gEq, gIsN, gAdd, gMul, dSl, dNoPart, dPart, wipeD, List.set, rNot, rChain, rOp, rVar, rC, rAnd, hLt, hLe, hGt, hGe, hEq, DL.rI]
    exact ite_dec (fun c1 => ite_ndec (fun h => here h1) (fun c2 => absurd ⟨c1, c2⟩ hno)) (fun h => here h1)
/-! ### cold_pair -/
def sp_cold (C : Addr) : SpD := fun ds B q x => (∃ n : Nat, ds = [.int n] ∧ n < 60 ∧ q (.tup [.int (coldP n).1, .int (coldP n).2]) B) ∨ (∃ a : Int, ds = [.int a] ∧ ¬ (0 ≤ a ∧ a ≤ 300) ∧ x C B)
theorem rd_cold {C : Addr} {ds : List D} {B : Bx} {q : DK} {x : XD} (h : sp_cold C ds B q x) : t_cold C (endsD q x) (startD N_cold ds) B := by
  rcases h with ⟨N, rfl, hN, h1⟩ | ⟨a, rfl, hno, h1⟩
  · dsimp only [t_cold, N_cold, dIfS, dOr, dAnd, dNot, dTest, dOp, dUn, dCB, dCons, dNil, dVar, dC, dSeq, dAsg, hName, dRet, dRetF, dRetN, dRaise, dNext, dDrop, dAppend, dCall, gI, gIC, gU, gMM, dChain, dAndV, dOrV, dNotV, dTup, dLst, dLstB, dNewK, dNewT, dPar, dAug, hTup, hCons, hEnd, hSub, dISeq, dIEn, dIR1, dIR2, dFor, dLc, dLcB, hPair, dYes, dBreak, dCont, dIf, dQuant, getS, setS, startD, DL.gSub, gDiv, gMod, gPow, gShl, gXor, gAddI, gLt, gLe, gGt, gGe, gNegU, gMax2, gMin2, gAbs, gIntC, gEq, gIsN, gAdd, gMul, dSl, dNoPart, dPart, wipeD, List.set, rNot, rChain, rOp, rVar, rC, rAnd, hLt, hLe, hGt, hGe, hEq, DL.rI]
    refine ite_dec (fun _ => ?_) (fun h => absurd (by omega) h)
    refine ite_ndec (fun h => absurd (by omega) h) (fun _ => ?_)
    intro p hp
    refine ⟨by omega, ?_⟩
    refine for_by (fun r Γ B' => ∃ (s n : Nat) (ms : List Int) (l p0 p1 : Int) (y z : Option D), B' = put B p (.dK (kd ms)) ∧ r = upto s n ∧ Γ = [some (.int N), some (.ref p), some (.int l), y, z] ∧ s + n = N + 1 ∧ coldS s = some (ms, l, p0, p1) ∧ (0 < s → z = some (.tup [.int p0, .int p1])) ∧ ms.length ≤ 2 * s)
      ⟨0, N + 1, [], 0, 0, 0, none, none, rfl, by show upto 0 _ = upto 0 _; congr 1, rfl, by omega, rfl, by omega, Nat.le_refl _⟩ (fun r Γ B' h f e => by cases e) (fun Γ B' h => ?_) (fun e r Γ B' K h hk => ?_)
    · obtain ⟨s, n, ms, l, p0, p1, y, z, rfl, h4, rfl, h5, h6, h7, h8⟩ := h
      cases n with
      | zero =>
        have hs : s = N + 1 := by omega
        subst hs
        rw [h7 (by omega)]
        refine ⟨B, Few.put hp, ?_⟩
        have e : coldP N = (p0, p1) := by unfold coldP; rw [h6]
        rw [e] at h1
        exact h1
      | succ n => cases h4
    · obtain ⟨s, n, ms, l, p0, p1, y, z, rfl, h4, rfl, h5, h6, h7, h8⟩ := h
      cases n with
      | zero => cases h4
      | succ n =>
        cases h4
        obtain ⟨⟨ms', l', q0, q1⟩, hs⟩ := Option.isSome_iff_exists.mp (cold_ok (s + 1) (by omega))
        have hs' := hs
        unfold coldS at hs
        rw [h6] at hs
        obtain ⟨l2, hnx, he⟩ := Option.map_eq_some_iff.mp (show (nx 200 ms l).map _ = _ from hs)
        injection he with he1 he2
        injection he2 with he2 he3
        injection he3 with he3 he4
        subst he1 he2 he3 he4
        dsimp only [B1_cold, dIfS, dOr, dAnd, dNot, dTest, dOp, dUn, dCB, dCons, dNil, dVar, dC, dSeq, dAsg, hName, dRet, dRetF, dRetN, dRaise, dNext, dDrop, dAppend, dCall, gI, gIC, gU, gMM, dChain, dAndV, dOrV, dNotV, dTup, dLst, dLstB, dNewK, dNewT, dPar, dAug, hTup, hCons, hEnd, hSub, dISeq, dIEn, dIR1, dIR2, dFor, dLc, dLcB, hPair, dYes, dBreak, dCont, dIf, dQuant, getS, setS, startD, DL.gSub, gDiv, gMod, gPow, gShl, gXor, gAddI, gLt, gLe, gGt, gGe, gNegU, gMax2, gMin2, gAbs, gIntC, gEq, gIsN, gAdd, gMul, dSl, dNoPart, dPart, wipeD, List.set, rNot, rChain, rOp, rVar, rC, rAnd, hLt, hLe, hGt, hGe, hEq, DL.rI]
        refine ⟨fun k Γ B' => B' = put B p (.dK (kd ms)) ∧ ∃ l0, Γ = [some (.int N), some (.ref p), some (.int l0), some (.int s), z] ∧ nx k ms l0 = some l2, ⟨200, rfl, l, rfl, hnx⟩, fun k Γ B' h => ?_⟩
        obtain ⟨rfl, l0, rfl, hk0⟩ := h
        cases k with
        | zero => cases hk0
        | succ k =>
          unfold nx at hk0
          dsimp only [dIfS, dOr, dAnd, dNot, dTest, dOp, dUn, dCB, dCons, dNil, dVar, dC, dSeq, dAsg, hName, dRet, dRetF, dRetN, dRaise, dNext, dDrop, dAppend, dCall, gI, gIC, gU, gMM, dChain, dAndV, dOrV, dNotV, dTup, dLst, dLstB, dNewK, dNewT, dPar, dAug, hTup, hCons, hEnd, hSub, dISeq, dIEn, dIR1, dIR2, dFor, dLc, dLcB, hPair, dYes, dBreak, dCont, dIf, dQuant, getS, setS, startD, DL.gSub, gDiv, gMod, gPow, gShl, gXor, gAddI, gLt, gLe, gGt, gGe, gNegU, gMax2, gMin2, gAbs, gIntC, gEq, gIsN, gAdd, gMul, dSl, dNoPart, dPart, wipeD, List.set, rNot, rChain, rOp, rVar, rC, rAnd, hLt, hLe, hGt, hGe, hEq, DL.rI]
          refine .inl ⟨_, dGet_K put_same rfl, ?_⟩
          rw [Bool.false_xor, kd_val]
          refine ite_dec (fun hin => ?_) (fun hin => ?_)
          · rw [if_pos hin] at hk0
            exact ⟨k, Nat.lt_succ_self k, rfl, l0 + 1, rfl, hk0⟩
          · rw [if_neg hin] at hk0
            cases hk0
            have hl1 := addK_len ms l2
            refine ⟨trivial, 0, _, rfl, rfl, ⟨_, put_same, .inl l2, rfl, lt_size (by unfold kd; rw [List.length_map]; omega), ?_⟩⟩
            refine ⟨1, _, rfl, rfl, ⟨_, put_same, .inl (l2 + (s : Int)), rfl, lt_size (by rw [kd_put]; unfold kd; rw [List.length_map]; omega), ?_⟩⟩
            rw [put_put, put_put, kd_put, kd_put]
            refine hk _ _ ⟨s + 1, n, _, _, _, _, _, _, rfl, by show upto _ _ = upto _ _; congr 1, rfl, by omega, hs', fun _ => rfl, ?_⟩
            have := addK_len (addK ms l2) (l2 + (s : Int))
            omega
  · dsimp only [t_cold, N_cold, dIfS, dOr, dAnd, dNot, dTest, dOp, dUn, dCB, dCons, dNil, dVar, dC, dSeq, dAsg, hName, dRet, dRetF, dRetN, dRaise, dNext, dDrop, dAppend, dCall, gI, gIC, gU, gMM, dChain, dAndV, dOrV, dNotV, dTup, dLst, dLstB, dNewK, dNewT, dPar, dAug, hTup, hCons, hEnd, hSub, dISeq, dIEn, dIR1, dIR2, dFor, dLc, dLcB, hPair, dYes, dBreak, dCont, dIf, dQuant, getS, setS, startD, DL.gSub, gDiv, gMod, gPow, gShl, gXor, gAddI, gLt, gLe, gGt, gGe, gNegU, gMax2, gMin2, gAbs, gIntC, gEq, gIsN, gAdd, gMul, dSl, dNoPart, dPart, wipeD, List.set, rNot, rChain, rOp, rVar, rC, rAnd, hLt, hLe, hGt, hGe, hEq, DL.rI]
    exact ite_dec (fun c1 => ite_ndec (fun h => here h1) (fun c2 => absurd ⟨c1, c2⟩ hno)) (fun h => here h1)
/-! ### is_cold -/
def coldB (a b : Nat) : Bool := decide (coldP (max a b - min a b) = (((min a b : Nat) : Int), ((max a b : Nat) : Int)))
def inC (a b : Int) : Prop := 0 ≤ a ∧ a ≤ 480 ∧ 0 ≤ b ∧ b ≤ 480
def sp_iscold (C : Addr) : SpD := fun ds B q x => (∃ a b : Nat, ds = [.int a, .int b] ∧ a ≤ 480 ∧ b ≤ 480 ∧ max a b - min a b < 60 ∧ q (.bl (coldB a b)) B) ∨ (∃ a b : Int, ds = [.int a, .int b] ∧ ¬ inC a b ∧ x C B)
theorem rd_iscold {C : Addr} {ds : List D} {B : Bx} {q : DK} {x : XD} (h : sp_iscold C ds B q x) : t_iscold (sp_cold C) C (endsD q x) (startD N_iscold ds) B := by
  rcases h with ⟨a, b, rfl, ha, hb, hf, h1⟩ | ⟨a, b, rfl, hno, h1⟩
  · dsimp only [t_iscold, N_iscold, dIfS, dOr, dAnd, dNot, dTest, dOp, dUn, dCB, dCons, dNil, dVar, dC, dSeq, dAsg, hName, dRet, dRetF, dRetN, dRaise, dNext, dDrop, dAppend, dCall, gI, gIC, gU, gMM, dChain, dAndV, dOrV, dNotV, dTup, dLst, dLstB, dNewK, dNewT, dPar, dAug, hTup, hCons, hEnd, hSub, dISeq, dIEn, dIR1, dIR2, dFor, dLc, dLcB, hPair, dYes, dBreak, dCont, dIf, dQuant, getS, setS, startD, DL.gSub, gDiv, gMod, gPow, gShl, gXor, gAddI, gLt, gLe, gGt, gGe, gNegU, gMax2, gMin2, gAbs, gIntC, gEq, gIsN, gAdd, gMul, dSl, dNoPart, dPart, wipeD, List.set, rNot, rChain, rOp, rVar, rC, rAnd, hLt, hLe, hGt, hGe, hEq, DL.rI]
    refine ite_dec (fun _ => ?_) (fun h => absurd (by omega) h)
    refine ite_ndec (fun h => absurd (by omega) h) (fun _ => ?_)
    refine ite_dec (fun _ => ?_) (fun h => absurd (by omega) h)
    refine ite_ndec (fun h => absurd (by omega) h) (fun _ => ?_)
    have e1 : (if (a : Int) - (b : Int) < 0 then -((a : Int) - (b : Int)) else (a : Int) - (b : Int)) = ((max a b - min a b : Nat) : Int) := by split <;> omega
    have e2 : (if (b : Int) > (a : Int) then (b : Int) else (a : Int)) = ((max a b : Nat) : Int) := by split <;> omega
    have e3 : (if (b : Int) < (a : Int) then (b : Int) else (a : Int)) = ((min a b : Nat) : Int) := by split <;> omega
    rw [e1, e2, e3]
    refine ite_dec (fun _ => ?_) (fun h => absurd (by omega) h)
    refine .inl ⟨_, rfl, hf, ⟨trivial, ?_⟩⟩
    refine eq_pl 2 rfl rfl fun k hk => ?_
    rw [Bool.false_xor]
    have e : k = coldB a b := by
      unfold coldB
      rw [Bool.eq_iff_iff, hk, decide_eq_true_eq]
      constructor
      · intro h
        injection h with h
        injection h with h1 h2
        injection h2 with h2 _
        injection h1 with h1
        injection h2 with h2
        exact Prod.ext h1 h2
      · intro h
        rw [h]
    rw [e]
    exact here h1
  · dsimp only [t_iscold, N_iscold, dIfS, dOr, dAnd, dNot, dTest, dOp, dUn, dCB, dCons, dNil, dVar, dC, dSeq, dAsg, hName, dRet, dRetF, dRetN, dRaise, dNext, dDrop, dAppend, dCall, gI, gIC, gU, gMM, dChain, dAndV, dOrV, dNotV, dTup, dLst, dLstB, dNewK, dNewT, dPar, dAug, hTup, hCons, hEnd, hSub, dISeq, dIEn, dIR1, dIR2, dFor, dLc, dLcB, hPair, dYes, dBreak, dCont, dIf, dQuant, getS, setS, startD, DL.gSub, gDiv, gMod, gPow, gShl, gXor, gAddI, gLt, gLe, gGt, gGe, gNegU, gMax2, gMin2, gAbs, gIntC, gEq, gIsN, gAdd, gMul, dSl, dNoPart, dPart, wipeD, List.set, rNot, rChain, rOp, rVar, rC, rAnd, hLt, hLe, hGt, hGe, hEq, DL.rI]
    unfold inC at hno
    exact ite_dec (fun c1 => ite_ndec (fun h => here h1) (fun c2 => ite_dec (fun c3 => ite_ndec (fun h => here h1) (fun c4 => absurd ⟨c1, c2, c3, c4⟩ hno)) (fun h => here h1))) (fun h => here h1)
/-! ### staircase -/
def stairB (ns : List Int) : Bool := !decide (xorL (evens ns) = 0)
def sp_stair (C : Addr) : SpD := fun ds B q x => ∃ d ns, ds = [d] ∧ Hs B d ns ∧ (okH ns = true → d = .tup (iL ns) ∧ q (.bl (stairB ns)) B) ∧ (okH ns = false → x C B)
theorem evens_map {α β : Type} (f : α → β) : ∀ xs : List α, evens (xs.map f) = (evens xs).map f
  | [] => rfl
  | [_] => rfl
  | a :: _ :: r => by show f a :: evens (r.map f) = f a :: (evens r).map f; rw [evens_map f r]
theorem evens_mem {α : Type} {x : α} : ∀ {xs : List α}, x ∈ evens xs → x ∈ xs
  | [], h => h
  | [_], h => h
  | a :: b :: r, h => by
    rcases List.mem_cons.mp (show x ∈ a :: evens r from h) with e | h
    · rw [e]; exact List.mem_cons_self
    · exact List.mem_cons_of_mem _ (List.mem_cons_of_mem _ (evens_mem h))
theorem rd_stair {C : Addr} {ds : List D} {B : Bx} {q : DK} {x : XD} (h : sp_stair C ds B q x) : t_stair (sp_sum C) (sp_check C) (endsD q x) (startD N_stair ds) B := by
  obtain ⟨d, ns, rfl, hd, h1, h2⟩ := h
  dsimp only [t_stair, N_stair, dStep2, dIfS, dOr, dAnd, dNot, dTest, dOp, dUn, dCB, dCons, dNil, dVar, dC, dSeq, dAsg, hName, dRet, dRetF, dRetN, dRaise, dNext, dDrop, dAppend, dCall, gI, gIC, gU, gMM, dChain, dAndV, dOrV, dNotV, dTup, dLst, dLstB, dNewK, dNewT, dPar, dAug, hTup, hCons, hEnd, hSub, dISeq, dIEn, dIR1, dIR2, dFor, dLc, dLcB, hPair, dYes, dBreak, dCont, dIf, dQuant, getS, setS, startD, DL.gSub, gDiv, gMod, gPow, gShl, gXor, gAddI, gLt, gLe, gGt, gGe, gNegU, gMax2, gMin2, gAbs, gIntC, gEq, gIsN, gAdd, gMul, dSl, dNoPart, dPart, wipeD, List.set, rNot, rChain, rOp, rVar, rC, rAnd, hLt, hLe, hGt, hGe, hEq, DL.rI]
  refine ⟨d, ns, rfl, hd, fun ok => ?_, fun no => here (h2 no)⟩
  obtain ⟨rfl, h3⟩ := h1 ok
  refine ⟨iL ns, rfl, .tup (evens (iL ns)), evens ns, rfl, ?_, fun _ => ?_, fun no => ?_⟩
  · show some _ = some _
    unfold iL
    rw [evens_map]
  · dsimp only [dIfS, dOr, dAnd, dNot, dTest, dOp, dUn, dCB, dCons, dNil, dVar, dC, dSeq, dAsg, hName, dRet, dRetF, dRetN, dRaise, dNext, dDrop, dAppend, dCall, gI, gIC, gU, gMM, dChain, dAndV, dOrV, dNotV, dTup, dLst, dLstB, dNewK, dNewT, dPar, dAug, hTup, hCons, hEnd, hSub, dISeq, dIEn, dIR1, dIR2, dFor, dLc, dLcB, hPair, dYes, dBreak, dCont, dIf, dQuant, getS, setS, startD, DL.gSub, gDiv, gMod, gPow, gShl, gXor, gAddI, gLt, gLe, gGt, gGe, gNegU, gMax2, gMin2, gAbs, gIntC, gEq, gIsN, gAdd, gMul, dSl, dNoPart, dPart, wipeD, List.set, rNot, rChain, rOp, rVar, rC, rAnd, hLt, hLe, hGt, hGe, hEq, DL.rI]
    rw [Bool.true_xor]
    exact here h3
  · have : okH (evens ns) = true := okH_of (Nat.le_trans (evens_length _) (okH_len ok)) fun n hn => okH_at ok (evens_mem hn)
    rw [this] at no
    cases no
/-! ### the law's dice -/
abbrev diceD (i j k : Int) : Box := .lst [.int i, .int j, .int k]
def sp_ldice : SpD := fun ds B q x => ∃ c : Int, ds = [.int c] ∧ ∀ p i j k, B p = none → q (.ref p) (put B p (diceD i j k))
theorem rd_ldice {ds : List D} {B : Bx} {q : DK} {x : XD} (h : sp_ldice ds B q x) : t_ldice (endsD q x) (startD N_ldice ds) B := by
  obtain ⟨c, rfl, h1⟩ := h
  dsimp only [t_ldice, N_ldice, dIfS, dOr, dAnd, dNot, dTest, dOp, dUn, dCB, dCons, dNil, dVar, dC, dSeq, dAsg, hName, dRet, dRetF, dRetN, dRaise, dNext, dDrop, dAppend, dCall, gI, gIC, gU, gMM, dChain, dAndV, dOrV, dNotV, dTup, dLst, dLstB, dNewK, dNewT, dPar, dAug, hTup, hCons, hEnd, hSub, dISeq, dIEn, dIR1, dIR2, dFor, dLc, dLcB, hPair, dYes, dBreak, dCont, dIf, dQuant, getS, setS, startD, DL.gSub, gDiv, gMod, gPow, gShl, gXor, gAddI, gLt, gLe, gGt, gGe, gNegU, gMax2, gMin2, gAbs, gIntC, gEq, gIsN, gAdd, gMul, dSl, dNoPart, dPart, wipeD, List.set, rNot, rChain, rOp, rVar, rC, rAnd, hLt, hLe, hGt, hGe, hEq, DL.rI]
  have fin : 0 < (1009 : Int) ∧ CPow 10 18 ∧ DL.sizeOk [D.int c, D.int (1 + c % 1009), D.int (if decide (10 ^ Int.toNat 18 ≤ c) = true then 1 else 0)] ∧ ∀ p, B p = none → (endsD q x).rt (.ref p) (put B p (.lst [D.int c, D.int (1 + c % 1009), D.int (if decide (10 ^ Int.toNat 18 ≤ c) = true then 1 else 0)])) :=
    ⟨by decide, ⟨by decide, by decide, by decide⟩, trivial, fun p hp => here (h1 p _ _ _ hp)⟩
  refine ite_dec (fun _ => ite_dec (fun _ => ?_) (fun _ => ?_)) (fun _ => ?_)
  · exact ⟨trivial, fun p hp => here (h1 p _ _ _ hp)⟩
  · exact fin
  · rw [if_neg (by decide)]
    exact fin
def sp_lroll : SpD := fun ds B q x => ∃ (a : Addr) (many i j k : Int), ds = [.ref a, .int many] ∧ B a = some (diceD i j k) ∧ 0 < many ∧ many ≤ 100000000 ∧ ∀ r i j k, 0 ≤ r → r < many → q (.int r) (put B a (diceD i j k))
theorem rd_lroll {ds : List D} {B : Bx} {q : DK} {x : XD} (h : sp_lroll ds B q x) : t_lroll (endsD q x) (startD N_lroll ds) B := by
  obtain ⟨a, many, i, j, k, rfl, hb, h0, hm, h1⟩ := h
  dsimp only [t_lroll, N_lroll, dIfS, dOr, dAnd, dNot, dTest, dOp, dUn, dCB, dCons, dNil, dVar, dC, dSeq, dAsg, hName, dRet, dRetF, dRetN, dRaise, dNext, dDrop, dAppend, dCall, gI, gIC, gU, gMM, dChain, dAndV, dOrV, dNotV, dTup, dLst, dLstB, dNewK, dNewT, dPar, dAug, hTup, hCons, hEnd, hSub, dISeq, dIEn, dIR1, dIR2, dFor, dLc, dLcB, hPair, dYes, dBreak, dCont, dIf, dQuant, getS, setS, startD, DL.gSub, gDiv, gMod, gPow, gShl, gXor, gAddI, gLt, gLe, gGt, gGe, gNegU, gMax2, gMin2, gAbs, gIntC, gEq, gIsN, gAdd, gMul, dSl, dNoPart, dPart, wipeD, List.set, rNot, rChain, rOp, rVar, rC, rAnd, hLt, hLe, hGt, hGe, hEq, DL.rI]
  have cd : ∀ z : Int, CDiv z many := fun z => ⟨h0, by omega⟩
  refine gIx_at hb rfl ?_
  dsimp only [dIfS, dOr, dAnd, dNot, dTest, dOp, dUn, dCB, dCons, dNil, dVar, dC, dSeq, dAsg, hName, dRet, dRetF, dRetN, dRaise, dNext, dDrop, dAppend, dCall, gI, gIC, gU, gMM, dChain, dAndV, dOrV, dNotV, dTup, dLst, dLstB, dNewK, dNewT, dPar, dAug, hTup, hCons, hEnd, hSub, dISeq, dIEn, dIR1, dIR2, dFor, dLc, dLcB, hPair, dYes, dBreak, dCont, dIf, dQuant, getS, setS, startD, DL.gSub, gDiv, gMod, gPow, gShl, gXor, gAddI, gLt, gLe, gGt, gGe, gNegU, gMax2, gMin2, gAbs, gIntC, gEq, gIsN, gAdd, gMul, dSl, dNoPart, dPart, wipeD, List.set, rNot, rChain, rOp, rVar, rC, rAnd, hLt, hLe, hGt, hGe, hEq, DL.rI]
  rw [Bool.false_xor]
  refine ite_dec (fun _ => ?_) (fun _ => ?_)
  · try rw [if_pos rfl]
    exact gIx_at hb rfl ⟨h0, gIx_at hb rfl ⟨cd _, gSet_at hb rfl (here (h1 _ _ _ _ (Int.emod_nonneg _ (by omega)) (Int.emod_lt_of_pos _ h0)))⟩⟩
  · refine gIx_at hb rfl ?_
    dsimp only [dIfS, dOr, dAnd, dNot, dTest, dOp, dUn, dCB, dCons, dNil, dVar, dC, dSeq, dAsg, hName, dRet, dRetF, dRetN, dRaise, dNext, dDrop, dAppend, dCall, gI, gIC, gU, gMM, dChain, dAndV, dOrV, dNotV, dTup, dLst, dLstB, dNewK, dNewT, dPar, dAug, hTup, hCons, hEnd, hSub, dISeq, dIEn, dIR1, dIR2, dFor, dLc, dLcB, hPair, dYes, dBreak, dCont, dIf, dQuant, getS, setS, startD, DL.gSub, gDiv, gMod, gPow, gShl, gXor, gAddI, gLt, gLe, gGt, gGe, gNegU, gMax2, gMin2, gAbs, gIntC, gEq, gIsN, gAdd, gMul, dSl, dNoPart, dPart, wipeD, List.set, rNot, rChain, rOp, rVar, rC, rAnd, hLt, hLe, hGt, hGe, hEq, DL.rI]
    rw [Bool.false_xor]
    refine ite_dec (fun _ => ?_) (fun _ => ?_)
    · refine gIx_at hb rfl ?_
      refine ite_dec (fun _ => ?_) (fun _ => ?_)
      · try rw [if_pos rfl]
        exact gIx_at hb rfl ⟨h0, gIx_at hb rfl ⟨cd _, gSet_at hb rfl (here (h1 _ _ _ _ (Int.emod_nonneg _ (by omega)) (Int.emod_lt_of_pos _ h0)))⟩⟩
      · try rw [if_neg (by decide)]
        refine gSet_at hb rfl (ite_dec (fun h => absurd hm (by omega)) (fun _ => gIx_at put_same rfl ?_))
        refine ⟨.inr ⟨by decide, by decide⟩, gIx_at put_same rfl ⟨.inr ⟨by decide, by decide⟩, by decide, gSet_at put_same rfl (gIx_at put_same rfl ?_)⟩⟩
        refine gSet_at put_same rfl (gIx_at put_same rfl ⟨⟨by decide, by decide⟩, h0, ?_⟩)
        rw [put_put, put_put]
        exact here (h1 _ _ _ _ (Int.emod_nonneg _ (by omega)) (Int.emod_lt_of_pos _ h0))
    · try rw [if_neg (by decide)]
      refine gSet_at hb rfl (ite_dec (fun h => absurd hm (by omega)) (fun _ => gIx_at put_same rfl ?_))
      refine ⟨.inr ⟨by decide, by decide⟩, gIx_at put_same rfl ⟨.inr ⟨by decide, by decide⟩, by decide, gSet_at put_same rfl (gIx_at put_same rfl ?_)⟩⟩
      refine gSet_at put_same rfl (gIx_at put_same rfl ⟨⟨by decide, by decide⟩, h0, ?_⟩)
      rw [put_put, put_put]
      exact here (h1 _ _ _ _ (Int.emod_nonneg _ (by omega)) (Int.emod_lt_of_pos _ h0))
def sp_lrounds : SpD := fun ds B q x => ∃ ns : List Int, ds = [.rol (iL ns), .int 1] ∧ ∀ p i j k, B p = none → q (.lst [.ref p]) (put B p (diceD i j k))
theorem rd_lrounds {ds : List D} {B : Bx} {q : DK} {x : XD} (h : sp_lrounds ds B q x) : t_lrounds sp_ldice (endsD q x) (startD N_lrounds ds) B := by
  obtain ⟨ns, rfl, h1⟩ := h
  dsimp only [t_lrounds, N_lrounds, dIfS, dOr, dAnd, dNot, dTest, dOp, dUn, dCB, dCons, dNil, dVar, dC, dSeq, dAsg, hName, dRet, dRetF, dRetN, dRaise, dNext, dDrop, dAppend, dCall, gI, gIC, gU, gMM, dChain, dAndV, dOrV, dNotV, dTup, dLst, dLstB, dNewK, dNewT, dPar, dAug, hTup, hCons, hEnd, hSub, dISeq, dIEn, dIR1, dIR2, dFor, dLc, dLcB, hPair, dYes, dBreak, dCont, dIf, dQuant, getS, setS, startD, DL.gSub, gDiv, gMod, gPow, gShl, gXor, gAddI, gLt, gLe, gGt, gGe, gNegU, gMax2, gMin2, gAbs, gIntC, gEq, gIsN, gAdd, gMul, dSl, dNoPart, dPart, wipeD, List.set, rNot, rChain, rOp, rVar, rC, rAnd, hLt, hLe, hGt, hGe, hEq, DL.rI]
  refine ⟨_, rfl, ?_⟩
  have e : cutD (iL ns) none (some 1) = (iL ns).take 1 := cutD_take _ 1
  rw [e]
  have fin : ∀ c : Int, iSq (.lst [.int c]) B fun ds gd B1 => DL.sizeOk ds ∧ lcK gd (hName 3) dYes (dCall sp_ldice (dCons (dVar 3) dNil)) [some (.rol (iL ns)), some (.int 1), some (.lst [.int c]), none] (fun acc B2 => (endsD q x).rt (.lst acc) B2) ds [] B1 := fun c => by
    refine ⟨_, rfl, trivial, ?_⟩
    refine ⟨c, rfl, fun p i j k hp => ?_⟩
    exact here (h1 p i j k hp)
  cases ns with
  | nil =>
    refine ⟨trivial, ?_⟩
    obtain ⟨b, e1, hb⟩ := eqD_pl (n := 2) (d := .lst []) (e := .lst []) (by decide) rfl rfl
    refine ⟨b, e1, ?_⟩
    have : b = true := hb.mpr rfl
    subst this
    exact ⟨trivial, fin 0⟩
  | cons c ns =>
    refine ⟨trivial, ?_⟩
    obtain ⟨b, e1, hb⟩ := eqD_pl (n := 2) (d := .lst [.int c]) (e := .lst []) (by decide) rfl rfl
    refine ⟨b, e1, ?_⟩
    have : b = false := by
      cases b with
      | false => rfl
      | true => cases hb.mp rfl
    subst this
    exact fin c
end K01
set_option Elab.async false
set_option linter.all false
set_option pp.maxSteps 900
set_option maxRecDepth 100000
set_option maxHeartbeats 4000000
namespace K01
open PySem PySem.Spec PyProof.Rows L2 DL PL
/-! ### all lists of at most n numbers below m -/
def listsOf (m : Nat) : Nat → List (List Int)
  | 0 => [[]]
  | n + 1 => [] :: (List.range m).flatMap fun (h : Nat) => (listsOf m n).map fun r => Int.ofNat h :: r
theorem mem_lists {m : Nat} : ∀ {n : Nat} {hs : List Int}, hs.length ≤ n → (∀ h ∈ hs, 0 ≤ h ∧ h < m) → hs ∈ listsOf m n
  | 0, [], _, _ => List.mem_singleton.mpr rfl
  | 0, _ :: _, h, _ => by simp at h
  | n + 1, [], _, _ => List.mem_cons_self
  | n + 1, a :: hs, h, k => by
    refine List.mem_cons_of_mem _ (List.mem_flatMap.mpr ⟨a.toNat, List.mem_range.mpr ?_, List.mem_map.mpr ⟨hs, mem_lists (by simpa using h) fun h hh => k h (List.mem_cons_of_mem _ hh), ?_⟩⟩)
    · have := k a List.mem_cons_self; omega
    · have := k a List.mem_cons_self
      show ((a.toNat : Nat) : Int) :: hs = _
      rw [Int.toNat_of_nonneg this.1]
/-! ### who wins -/
def wF (last : Bool) (hs : List Int) : Bool := if last = true then !decide (xorL hs = 0) else wllB hs
def norm (hs : List Int) : List Int := sortI (hs.filter fun h => decide (0 < h))
def sumI (hs : List Int) : Int := hs.foldr (· + ·) 0
/-- the moves' answers, in order: heap k at sizes s .. -/
def anyS (f : List Int → Bool) (N : List Int) (k : Nat) : Int → Nat → Bool
  | _, 0 => false
  | s, n + 1 => !f (N.take k ++ [s] ++ N.drop (k + 1)) || anyS f N k (s + 1) n
def anyG (f : List Int → Bool) (N : List Int) : Nat → List Int → Bool
  | _, [] => false
  | k, h :: r => anyS f N k 0 h.toNat || anyG f N (k + 1) r
def domW : List (List Int) := (listsOf 6 4).filter fun hs => decide (norm hs = hs)
theorem dom_small : domW.length < 1000000 := by decide +kernel
theorem norm_ok : (listsOf 6 4).all (fun hs => decide (norm (norm hs) = norm hs) && (wF true (norm hs) == wF true hs) && (wF false (norm hs) == wF false hs) && decide (sumI (norm hs) = sumI hs)) = true := by decide +kernel
theorem win_ok : domW.all (fun N => decide (N = []) || ((wF true N == anyG (wF true) N 0 N) && (wF false N == anyG (wF false) N 0 N))) = true := by decide +kernel
def inW (hs : List Int) : Prop := hs.length ≤ 4 ∧ ∀ h ∈ hs, 0 ≤ h ∧ h < 6
theorem norm_in {hs : List Int} (h : inW hs) : inW (norm hs) := by
  have p : (norm hs).Perm (hs.filter fun h => decide (0 < h)) := sortI_perm _
  refine ⟨?_, fun x hx => ?_⟩
  · rw [p.length_eq]
    exact Nat.le_trans (List.length_filter_le _ _) h.1
  · exact h.2 x (List.mem_filter.mp (p.mem_iff.mp hx)).1
theorem norm_dom {hs : List Int} (h : inW hs) (last : Bool) : norm hs ∈ domW ∧ wF last (norm hs) = wF last hs ∧ sumI (norm hs) = sumI hs := by
  have k := List.all_eq_true.mp norm_ok hs (mem_lists h.1 h.2)
  simp only [Bool.and_eq_true, decide_eq_true_eq, beq_iff_eq] at k
  obtain ⟨⟨⟨k1, k2⟩, k3⟩, k4⟩ := k
  refine ⟨List.mem_filter.mpr ⟨mem_lists (norm_in h).1 (norm_in h).2, decide_eq_true k1⟩, ?_, k4⟩
  cases last with
  | true => exact k2
  | false => exact k3
theorem win_rec {N : List Int} (hN : N ∈ domW) (hne : N ≠ []) (last : Bool) : wF last N = anyG (wF last) N 0 N := by
  have k := List.all_eq_true.mp win_ok N hN
  simp only [Bool.or_eq_true, Bool.and_eq_true, decide_eq_true_eq, beq_iff_eq] at k
  rcases k with k | k
  · exact absurd k hne
  · cases last with
    | true => exact k.1
    | false => exact k.2
theorem wF_nil (last : Bool) : wF last [] = !last := by cases last <;> decide
theorem sumI_nonneg : ∀ {hs : List Int}, (∀ h ∈ hs, 0 ≤ h) → 0 ≤ sumI hs
  | [], _ => Int.le_refl _
  | a :: hs, h => by
    have h1 := h a List.mem_cons_self
    have h2 := sumI_nonneg (hs := hs) fun x hx => h x (List.mem_cons_of_mem _ hx)
    show 0 ≤ a + sumI hs
    omega
theorem sumI_append : ∀ (a b : List Int), sumI (a ++ b) = sumI a + sumI b
  | [], b => by show sumI b = 0 + sumI b; omega
  | x :: a, b => by
    show x + sumI (a ++ b) = (x + sumI a) + sumI b
    rw [sumI_append a b]; omega
theorem sumI_move {N : List Int} {k : Nat} (hk : k < N.length) (s : Int) : sumI (N.take k ++ [s] ++ N.drop (k + 1)) = sumI N - N[k] + s := by
  have e : N = N.take k ++ (N[k] :: N.drop (k + 1)) := by rw [← List.drop_eq_getElem_cons hk, List.take_append_drop]
  have e2 : sumI N = sumI (N.take k) + (N[k] + sumI (N.drop (k + 1))) := by
    conv => lhs; rw [e]
    rw [sumI_append]; rfl
  rw [sumI_append, sumI_append, e2]
  show _ + (s + 0) + _ = _
  omega
theorem inW_move {N : List Int} (h : inW N) {k : Nat} (hk : k < N.length) {s : Int} (h0 : 0 ≤ s) (h1 : s < N[k]) : inW (N.take k ++ [s] ++ N.drop (k + 1)) := by
  have hb := h.2 _ (List.getElem_mem hk)
  have hl := h.1
  refine ⟨by simp; omega, fun n hn => ?_⟩
  rcases List.mem_append.mp hn with hn | hn
  · rcases List.mem_append.mp hn with hn | hn
    · exact h.2 n (List.mem_of_mem_take hn)
    · have e : n = s := by simpa using hn
      subst e
      omega
  · exact h.2 n (List.mem_of_mem_drop hn)
/-! ### _law_wins -/
abbrev fW (last : Bool) (k : List Int) : D := .bl (wF last k)
def sp_lwins (n : Nat) : SpD := fun ds B q x => ∃ (d : D) (hs : List Int) (last : Bool) (a : Addr) (ks : List (List Int)), ds = [d, .bl last, .ref a] ∧ Hs B d hs ∧ inW hs ∧ sumI hs < n ∧ B a = some (.dT (memo (fW last) ks)) ∧ Mem domW ks ∧
  ∀ ks', Mem domW ks' → q (.bl (wF last hs)) (put B a (.dT (memo (fW last) ks')))
theorem rd_lwins {n : Nat} {ds : List D} {B : Bx} {q : DK} {x : XD} (h : sp_lwins (n + 1) ds B q x) : t_lwins (sp_lwins n) (endsD q x) (startD N_lwins ds) B := by
  obtain ⟨d, hs, last, a, ks, rfl, hd, hin, hsum, hb, hm, h1⟩ := h
  obtain ⟨hdom, hw, hsm⟩ := norm_dom hin last
  have hinN := norm_in hin
  dsimp only [t_lwins, N_lwins, dIfS, dOr, dAnd, dNot, dTest, dOp, dUn, dCB, dCons, dNil, dVar, dC, dSeq, dAsg, hName, dRet, dRetF, dRetN, dRaise, dNext, dDrop, dAppend, dCall, gI, gIC, gU, gMM, dChain, dAndV, dOrV, dNotV, dTup, dLst, dLstB, dNewK, dNewT, dPar, dAug, hTup, hCons, hEnd, hSub, dISeq, dIEn, dIR1, dIR2, dFor, dLc, dLcB, hPair, dYes, dBreak, dCont, dIf, dQuant, getS, setS, startD, DL.gSub, gDiv, gMod, gPow, gShl, gXor, gAddI, gLt, gLe, gGt, gGe, gNegU, gMax2, gMin2, gAbs, gIntC, gEq, gIsN, gAdd, gMul, dSl, dNoPart, dPart, wipeD, List.set, rNot, rChain, rOp, rVar, rC, rAnd, hLt, hLe, hGt, hGe, hEq, DL.rI]
  refine iSq_of hd (Few.refl _) fun gd hg => ⟨sizeOk_of (by unfold iL; rw [List.length_map]; have := hin.1; omega), ?_⟩
  refine lc_by (fun r acc B' => B' = B ∧ ∃ ms : List Int, r = iL ms ∧ ∃ ac : List Int, acc = iL ac ∧ ac ++ ms.filter (fun h => decide (0 < h)) = hs.filter fun h => decide (0 < h)) ⟨rfl, hs, rfl, [], rfl, rfl⟩ (fun r acc B' h => by rw [h.1]; exact hg _ (Few.refl _)) (fun acc B' h => ?_) (fun e r acc B' K h hk => ?_)
  · obtain ⟨rfl, ms, h3, ac, rfl, h4⟩ := h
    cases ms with
    | cons m ms => cases h3
    | nil =>
      rw [List.filter_nil, List.append_nil] at h4
      subst h4
      refine ⟨_, rfl, ⟨_, rfl, trivial, ?_⟩⟩
      have hN : sortI (hs.filter fun h => decide (0 < h)) = norm hs := rfl
      rw [hN]
      obtain ⟨b, e1, hb2⟩ := eqD_pl (n := 2) (d := .tup ((norm hs).map .int)) (e := .tup []) (by decide) (plD_ints 1 _) rfl
      refine ⟨b, e1, ?_⟩
      rw [Bool.false_xor]
      refine ite_of (fun hbt => ?_) (fun hbf => ?_)
      · have hnil : norm hs = [] := by
          have := hb2.mp hbt
          injection this with this
          exact List.map_eq_nil_iff.mp this
        have e2 := h1 ks hm
        rw [put_eq hb, ← hw, hnil, wF_nil] at e2
        exact here e2
      · have hne : norm hs ≠ [] := fun e => by
          rw [hb2.mpr (by rw [e]; rfl)] at hbf
          cases hbf
        refine gIn_mk hb ?_
        dsimp only [dIfS, dOr, dAnd, dNot, dTest, dOp, dUn, dCB, dCons, dNil, dVar, dC, dSeq, dAsg, hName, dRet, dRetF, dRetN, dRaise, dNext, dDrop, dAppend, dCall, gI, gIC, gU, gMM, dChain, dAndV, dOrV, dNotV, dTup, dLst, dLstB, dNewK, dNewT, dPar, dAug, hTup, hCons, hEnd, hSub, dISeq, dIEn, dIR1, dIR2, dFor, dLc, dLcB, hPair, dYes, dBreak, dCont, dIf, dQuant, getS, setS, startD, DL.gSub, gDiv, gMod, gPow, gShl, gXor, gAddI, gLt, gLe, gGt, gGe, gNegU, gMax2, gMin2, gAbs, gIntC, gEq, gIsN, gAdd, gMul, dSl, dNoPart, dPart, wipeD, List.set, rNot, rChain, rOp, rVar, rC, rAnd, hLt, hLe, hGt, hGe, hEq, DL.rI]
        refine ite_of (fun hni => ?_) (fun hin2 => ?_)
        · have hrec := win_rec hdom hne last
          refine for_by (fun r Γ B2 => ∃ (ks' : List (List Int)) (k : Nat) (ms : List Int) (fnd : Bool) (y z u : Option D), Mem domW ks' ∧ B2 = put B' a (.dT (memo (fW last) ks')) ∧ r = enumL k (iL ms) ∧ Γ = [some (.tup (iL (norm hs))), some (.bl last), some (.ref a), some (.bl fnd), y, z, u] ∧ ms = (norm hs).drop k ∧ (fnd || anyG (wF last) (norm hs) k ms) = wF last (norm hs))
            ⟨ks, 0, norm hs, false, none, none, none, hm, (put_eq hb).symm, rfl, rfl, rfl, by rw [hrec]; rfl⟩ (fun r Γ B' h f e => by cases e) (fun Γ B2 h => ?_) (fun e r Γ B2 K h hk => ?_)
          · obtain ⟨ks', k, ms, fnd, y, z, u, hm', rfl, h3, rfl, h4, h5⟩ := h
            cases ms with
            | cons m ms => cases h3
            | nil =>
              have h5 : (fnd || false) = _ := h5
              rw [Bool.or_false] at h5
              dsimp only [dIfS, dOr, dAnd, dNot, dTest, dOp, dUn, dCB, dCons, dNil, dVar, dC, dSeq, dAsg, hName, dRet, dRetF, dRetN, dRaise, dNext, dDrop, dAppend, dCall, gI, gIC, gU, gMM, dChain, dAndV, dOrV, dNotV, dTup, dLst, dLstB, dNewK, dNewT, dPar, dAug, hTup, hCons, hEnd, hSub, dISeq, dIEn, dIR1, dIR2, dFor, dLc, dLcB, hPair, dYes, dBreak, dCont, dIf, dQuant, getS, setS, startD, DL.gSub, gDiv, gMod, gPow, gShl, gXor, gAddI, gLt, gLe, gGt, gGe, gNegU, gMax2, gMin2, gAbs, gIntC, gEq, gIsN, gAdd, gMul, dSl, dNoPart, dPart, wipeD, List.set, rNot, rChain, rOp, rVar, rC, rAnd, hLt, hLe, hGt, hGe, hEq, DL.rI]
              refine gSet_mk put_same hm' dom_small hdom (by rw [h5]) fun ks2 hm2 hin2 => ?_
              refine gIx_mk put_same hin2 ?_
              rw [put_put]
              refine here ?_
              show q (D.bl (wF last (norm hs))) _
              rw [hw]
              exact h1 ks2 hm2
          · obtain ⟨ks', k, ms, fnd, y, z, u, hm', rfl, h3, rfl, h4, h5⟩ := h
            cases ms with
            | nil => cases h3
            | cons m ms =>
              cases h3
              have hk2 : k < (norm hs).length := by
                rcases Nat.lt_or_ge k (norm hs).length with h | h
                · exact h
                · rw [List.drop_of_length_le h] at h4; cases h4
              rw [List.drop_eq_getElem_cons hk2] at h4
              injection h4 with h4 h7
              subst h4
              have hbd := hinN.2 _ (List.getElem_mem hk2)
              dsimp only [B2_lwins, dIfS, dOr, dAnd, dNot, dTest, dOp, dUn, dCB, dCons, dNil, dVar, dC, dSeq, dAsg, hName, dRet, dRetF, dRetN, dRaise, dNext, dDrop, dAppend, dCall, gI, gIC, gU, gMM, dChain, dAndV, dOrV, dNotV, dTup, dLst, dLstB, dNewK, dNewT, dPar, dAug, hTup, hCons, hEnd, hSub, dISeq, dIEn, dIR1, dIR2, dFor, dLc, dLcB, hPair, dYes, dBreak, dCont, dIf, dQuant, getS, setS, startD, DL.gSub, gDiv, gMod, gPow, gShl, gXor, gAddI, gLt, gLe, gGt, gGe, gNegU, gMax2, gMin2, gAbs, gIntC, gEq, gIsN, gAdd, gMul, dSl, dNoPart, dPart, wipeD, List.set, rNot, rChain, rOp, rVar, rC, rAnd, hLt, hLe, hGt, hGe, hEq, DL.rI]
              refine ⟨by omega, ?_⟩
              refine for_by (fun r Γ B2 => ∃ (ks' : List (List Int)) (s : Int) (n' : Nat) (fnd : Bool) (u : Option D), Mem domW ks' ∧ B2 = put B' a (.dT (memo (fW last) ks')) ∧ r = upto s n' ∧ Γ = [some (.tup (iL (norm hs))), some (.bl last), some (.ref a), some (.bl fnd), some (.int k), some (.int (norm hs)[k]), u] ∧ (fnd || (anyS (wF last) (norm hs) k s n' || anyG (wF last) (norm hs) (k + 1) ms)) = wF last (norm hs) ∧ 0 ≤ s ∧ s + n' = (norm hs)[k])
                ⟨ks', 0, (norm hs)[k].toNat, fnd, u, hm', rfl, rfl, rfl, h5, Int.le_refl 0, by omega⟩ (fun r Γ B' h f e => by cases e) (fun Γ B2 h => ?_) (fun e r Γ B2 K' h hk' => ?_)
              · obtain ⟨ks2, s, n', fnd, u, hm2, rfl, h8, rfl, h9, h10, h11⟩ := h
                cases n' with
                | zero =>
                  have h9 : (fnd || (false || _)) = _ := h9
                  rw [Bool.false_or] at h9
                  exact hk _ _ ⟨ks2, k + 1, ms, fnd, _, _, _, hm2, rfl, rfl, rfl, h7, h9⟩
                | succ n' => cases h8
              · obtain ⟨ks2, s, n', fnd, u, hm2, rfl, h8, rfl, h9, h10, h11⟩ := h
                cases n' with
                | zero => cases h8
                | succ n' =>
                  cases h8
                  have e1 : ((k : Int) + 1) = ((k + 1 : Nat) : Int) := by omega
                  dsimp only [B1_lwins, dIfS, dOr, dAnd, dNot, dTest, dOp, dUn, dCB, dCons, dNil, dVar, dC, dSeq, dAsg, hName, dRet, dRetF, dRetN, dRaise, dNext, dDrop, dAppend, dCall, gI, gIC, gU, gMM, dChain, dAndV, dOrV, dNotV, dTup, dLst, dLstB, dNewK, dNewT, dPar, dAug, hTup, hCons, hEnd, hSub, dISeq, dIEn, dIR1, dIR2, dFor, dLc, dLcB, hPair, dYes, dBreak, dCont, dIf, dQuant, getS, setS, startD, DL.gSub, gDiv, gMod, gPow, gShl, gXor, gAddI, gLt, gLe, gGt, gGe, gNegU, gMax2, gMin2, gAbs, gIntC, gEq, gIsN, gAdd, gMul, dSl, dNoPart, dPart, wipeD, List.set, rNot, rChain, rOp, rVar, rC, rAnd, hLt, hLe, hGt, hGe, hEq, DL.rI]
                  refine ite_of (fun hf => ?_) (fun hf => ?_)
                  · subst hf
                    exact hk' _ _ ⟨ks2, s + 1, n', true, _, hm2, rfl, rfl, rfl, by rw [Bool.true_or] at h9 ⊢; exact h9, by omega, by omega⟩
                  · subst hf
                    have hcut : ∀ (lo hi : Option Int), (cutD (iL (norm hs)) lo hi).length ≤ 4 := fun lo hi => by
                      unfold DL.cutD
                      rw [List.length_take, List.length_drop]
                      have : (iL (norm hs)).length = (norm hs).length := List.length_map ..
                      have := hinN.1
                      omega
                    have h12 := hcut none (some (k : Int))
                    have h13 := hcut (some ((k + 1 : Nat) : Int)) none
                    rw [e1]
                    refine ⟨trivial, le_size (by simp; omega), le_size (by simp at h12 h13 ⊢; omega), ?_⟩
                    rw [cut_iL]
                    refine ⟨_, (norm hs).take k ++ [s] ++ (norm hs).drop (k + 1), last, a, ks2, rfl, rfl, inW_move hinN hk2 h10 (by omega), ?_, put_same, hm2, fun ks3 hm3 => ?_⟩
                    · rw [sumI_move hk2, hsm]; omega
                    · rw [put_put]
                      refine hk' _ _ ⟨ks3, s + 1, n', _, _, hm3, rfl, rfl, rfl, ?_, by omega, by omega⟩
                      rw [← h9, Bool.false_or]
                      show _ = ((!wF last _ || anyS _ _ _ _ _) || _)
                      rw [Bool.or_assoc]
        · have hin3 : norm hs ∈ ks := by
            cases h : decide (norm hs ∈ ks) with
            | true => exact of_decide_eq_true h
            | false => rw [h] at hin2; cases hin2
          refine gIx_mk hb hin3 ?_
          have e2 := h1 ks hm
          rw [put_eq hb, ← hw] at e2
          exact here e2
  · obtain ⟨rfl, ms, h3, ac, rfl, h4⟩ := h
    cases ms with
    | nil => cases h3
    | cons m ms =>
      cases h3
      dsimp only [dIfS, dOr, dAnd, dNot, dTest, dOp, dUn, dCB, dCons, dNil, dVar, dC, dSeq, dAsg, hName, dRet, dRetF, dRetN, dRaise, dNext, dDrop, dAppend, dCall, gI, gIC, gU, gMM, dChain, dAndV, dOrV, dNotV, dTup, dLst, dLstB, dNewK, dNewT, dPar, dAug, hTup, hCons, hEnd, hSub, dISeq, dIEn, dIR1, dIR2, dFor, dLc, dLcB, hPair, dYes, dBreak, dCont, dIf, dQuant, getS, setS, startD, DL.gSub, gDiv, gMod, gPow, gShl, gXor, gAddI, gLt, gLe, gGt, gGe, gNegU, gMax2, gMin2, gAbs, gIntC, gEq, gIsN, gAdd, gMul, dSl, dNoPart, dPart, wipeD, List.set, rNot, rChain, rOp, rVar, rC, rAnd, hLt, hLe, hGt, hGe, hEq, DL.rI]
      refine ite_dec (fun hp => hk _ _ ⟨rfl, ms, rfl, ac ++ [m], ?_, ?_⟩) (fun hp => hk _ _ ⟨rfl, ms, rfl, ac, rfl, ?_⟩)
      · unfold iL; rw [List.map_append]; rfl
      · rw [← h4, List.filter_cons_of_pos (by simpa using hp), List.append_assoc]; rfl
      · rw [← h4, List.filter_cons_of_neg (by simpa using hp)]
end K01
set_option Elab.async false
set_option linter.all false
set_option pp.maxSteps 900
set_option maxRecDepth 100000
set_option maxHeartbeats 4000000
namespace K01
open PySem PySem.Spec PyProof.Rows L2 DL PL
/-! ### the stairs -/
def mvS (hs : List Int) (k : Nat) (m : Int) : List Int :=
  if 0 < k then (hs.set k (hs.getD k 0 - m)).set (k - 1) ((hs.set k (hs.getD k 0 - m)).getD (k - 1) 0 + m) else hs.set k (hs.getD k 0 - m)
def anyT (f : List Int → Bool) (hs : List Int) (k : Nat) : Int → Nat → Bool
  | _, 0 => false
  | m, n + 1 => !f (mvS hs k m) || anyT f hs k (m + 1) n
def anyU (f : List Int → Bool) (hs : List Int) : Nat → List Int → Bool
  | _, [] => false
  | k, h :: r => anyT f hs k 1 h.toNat || anyU f hs (k + 1) r
def phi : Nat → List Int → Int
  | _, [] => 0
  | k, h :: r => ((k : Int) + 1) * h + phi (k + 1) r
def inSb (hs : List Int) : Bool := decide (hs.length ≤ 3) && (hs.all fun h => decide (0 ≤ h)) && decide (sumI hs ≤ 9)
def domS : List (List Int) := (listsOf 10 3).filter inSb
theorem domS_small : domS.length < 1000000 := by decide +kernel
/-- every move stays within and goes down -/
def okT (hs : List Int) (k : Nat) : Int → Nat → Bool
  | _, 0 => true
  | m, n + 1 => inSb (mvS hs k m) && decide (phi 0 (mvS hs k m) < phi 0 hs) && okT hs k (m + 1) n
def okU (hs : List Int) : Nat → List Int → Bool
  | _, [] => true
  | k, h :: r => okT hs k 1 h.toNat && okU hs (k + 1) r
theorem stair_ok : domS.all (fun hs => okU hs 0 hs && (stairB hs == anyU stairB hs 0 hs)) = true := by decide +kernel
theorem sum_le : ∀ {hs : List Int}, (∀ h ∈ hs, 0 ≤ h) → ∀ h ∈ hs, h ≤ sumI hs
  | a :: hs, k, h, hh => by
    have h1 := k a List.mem_cons_self
    have h2 := sumI_nonneg (hs := hs) fun x hx => k x (List.mem_cons_of_mem _ hx)
    show h ≤ a + sumI hs
    rcases List.mem_cons.mp hh with e | hh
    · subst e; omega
    · have := sum_le (hs := hs) (fun x hx => k x (List.mem_cons_of_mem _ hx)) h hh
      omega
theorem inS_at {hs : List Int} (h : inSb hs = true) : hs.length ≤ 3 ∧ (∀ h ∈ hs, 0 ≤ h) ∧ sumI hs ≤ 9 := by
  unfold inSb at h
  simp only [Bool.and_eq_true, decide_eq_true_eq, List.all_eq_true] at h
  exact ⟨h.1.1, h.1.2, h.2⟩
theorem inS_dom {hs : List Int} (h : inSb hs = true) : hs ∈ domS := by
  obtain ⟨h1, h2, h3⟩ := inS_at h
  exact List.mem_filter.mpr ⟨mem_lists h1 fun n hn => ⟨h2 n hn, by have := sum_le h2 n hn; omega⟩, h⟩
abbrev fS (k : List Int) : D := .bl (stairB k)
def sp_lstairs (n : Nat) : SpD := fun ds B q x => ∃ (hs : List Int) (a : Addr) (ks : List (List Int)), ds = [.tup (iL hs), .ref a] ∧ inSb hs = true ∧ phi 0 hs < n ∧ B a = some (.dT (memo fS ks)) ∧ Mem domS ks ∧
  ∀ ks', Mem domS ks' → q (.bl (stairB hs)) (put B a (.dT (memo fS ks')))
theorem rd_lstairs {n : Nat} {ds : List D} {B : Bx} {q : DK} {x : XD} (h : sp_lstairs (n + 1) ds B q x) : t_lstairs (sp_lstairs n) (endsD q x) (startD N_lstairs ds) B := by
  obtain ⟨hs, a, ks, rfl, hin, hphi, hb, hm, h1⟩ := h
  have hdom := inS_dom hin
  obtain ⟨hl3, hnn, hs9⟩ := inS_at hin
  obtain ⟨hok, hrec⟩ : okU hs 0 hs = true ∧ stairB hs = anyU stairB hs 0 hs := by
    have := List.all_eq_true.mp stair_ok hs hdom
    rw [Bool.and_eq_true, beq_iff_eq] at this
    exact this
  dsimp only [t_lstairs, N_lstairs, dIfS, dOr, dAnd, dNot, dTest, dOp, dUn, dCB, dCons, dNil, dVar, dC, dSeq, dAsg, hName, dRet, dRetF, dRetN, dRaise, dNext, dDrop, dAppend, dCall, gI, gIC, gU, gMM, dChain, dAndV, dOrV, dNotV, dTup, dLst, dLstB, dNewK, dNewT, dPar, dAug, hTup, hCons, hEnd, hSub, dISeq, dIEn, dIR1, dIR2, dFor, dLc, dLcB, hPair, dYes, dBreak, dCont, dIf, dQuant, getS, setS, startD, DL.gSub, gDiv, gMod, gPow, gShl, gXor, gAddI, gLt, gLe, gGt, gGe, gNegU, gMax2, gMin2, gAbs, gIntC, gEq, gIsN, gAdd, gMul, dSl, dNoPart, dPart, wipeD, List.set, rNot, rChain, rOp, rVar, rC, rAnd, hLt, hLe, hGt, hGe, hEq, DL.rI]
  refine gIn_mk hb ?_
  dsimp only [dIfS, dOr, dAnd, dNot, dTest, dOp, dUn, dCB, dCons, dNil, dVar, dC, dSeq, dAsg, hName, dRet, dRetF, dRetN, dRaise, dNext, dDrop, dAppend, dCall, gI, gIC, gU, gMM, dChain, dAndV, dOrV, dNotV, dTup, dLst, dLstB, dNewK, dNewT, dPar, dAug, hTup, hCons, hEnd, hSub, dISeq, dIEn, dIR1, dIR2, dFor, dLc, dLcB, hPair, dYes, dBreak, dCont, dIf, dQuant, getS, setS, startD, DL.gSub, gDiv, gMod, gPow, gShl, gXor, gAddI, gLt, gLe, gGt, gGe, gNegU, gMax2, gMin2, gAbs, gIntC, gEq, gIsN, gAdd, gMul, dSl, dNoPart, dPart, wipeD, List.set, rNot, rChain, rOp, rVar, rC, rAnd, hLt, hLe, hGt, hGe, hEq, DL.rI]
  refine ite_of (fun hni => ?_) (fun hin2 => ?_)
  · refine for_by (fun r Γ B2 => ∃ (ks' : List (List Int)) (k : Nat) (ms : List Int) (fnd : Bool) (y z u v : Option D), Mem domS ks' ∧ Few (put B a (.dT (memo fS ks'))) B2 ∧ r = enumL k (iL ms) ∧ Γ = [some (.tup (iL hs)), some (.ref a), some (.bl fnd), y, z, u, v] ∧ ms = hs.drop k ∧ okU hs k ms = true ∧ (fnd || anyU stairB hs k ms) = stairB hs)
      ⟨ks, 0, hs, false, none, none, none, none, hm, by rw [put_eq hb]; exact Few.refl _, rfl, rfl, rfl, hok, by rw [hrec]; rfl⟩ (fun r Γ B' h f e => by cases e) (fun Γ B2 h => ?_) (fun e r Γ B2 K h hk => ?_)
    · obtain ⟨ks', k, ms, fnd, y, z, u, v, hm', hf, h3, rfl, h4, h6, h5⟩ := h
      cases ms with
      | cons m ms => cases h3
      | nil =>
        have h5 : (fnd || false) = _ := h5
        rw [Bool.or_false] at h5
        dsimp only [dIfS, dOr, dAnd, dNot, dTest, dOp, dUn, dCB, dCons, dNil, dVar, dC, dSeq, dAsg, hName, dRet, dRetF, dRetN, dRaise, dNext, dDrop, dAppend, dCall, gI, gIC, gU, gMM, dChain, dAndV, dOrV, dNotV, dTup, dLst, dLstB, dNewK, dNewT, dPar, dAug, hTup, hCons, hEnd, hSub, dISeq, dIEn, dIR1, dIR2, dFor, dLc, dLcB, hPair, dYes, dBreak, dCont, dIf, dQuant, getS, setS, startD, DL.gSub, gDiv, gMod, gPow, gShl, gXor, gAddI, gLt, gLe, gGt, gGe, gNegU, gMax2, gMin2, gAbs, gIntC, gEq, gIsN, gAdd, gMul, dSl, dNoPart, dPart, wipeD, List.set, rNot, rChain, rOp, rVar, rC, rAnd, hLt, hLe, hGt, hGe, hEq, DL.rI]
        refine gSet_mk (few_at hf) hm' domS_small hdom (by rw [h5]) fun ks2 hm2 hin2 => ?_
        refine gIx_mk put_same hin2 ?_
        exact ⟨_, few_upd hf, h1 ks2 hm2⟩
    · obtain ⟨ks', k, ms, fnd, y, z, u, v, hm', hf, h3, rfl, h4, h6, h5⟩ := h
      cases ms with
      | nil => cases h3
      | cons m ms =>
        cases h3
        have hk2 : k < hs.length := by
          rcases Nat.lt_or_ge k hs.length with h | h
          · exact h
          · rw [List.drop_of_length_le h] at h4; cases h4
        rw [List.drop_eq_getElem_cons hk2] at h4
        injection h4 with h4 h7
        subst h4
        have hbd := hnn _ (List.getElem_mem hk2)
        have hb9 := sum_le hnn _ (List.getElem_mem hk2)
        unfold okU at h6
        rw [Bool.and_eq_true] at h6
        dsimp only [B2_lstairs, dIfS, dOr, dAnd, dNot, dTest, dOp, dUn, dCB, dCons, dNil, dVar, dC, dSeq, dAsg, hName, dRet, dRetF, dRetN, dRaise, dNext, dDrop, dAppend, dCall, gI, gIC, gU, gMM, dChain, dAndV, dOrV, dNotV, dTup, dLst, dLstB, dNewK, dNewT, dPar, dAug, hTup, hCons, hEnd, hSub, dISeq, dIEn, dIR1, dIR2, dFor, dLc, dLcB, hPair, dYes, dBreak, dCont, dIf, dQuant, getS, setS, startD, DL.gSub, gDiv, gMod, gPow, gShl, gXor, gAddI, gLt, gLe, gGt, gGe, gNegU, gMax2, gMin2, gAbs, gIntC, gEq, gIsN, gAdd, gMul, dSl, dNoPart, dPart, wipeD, List.set, rNot, rChain, rOp, rVar, rC, rAnd, hLt, hLe, hGt, hGe, hEq, DL.rI]
        refine ⟨⟨by omega, by omega, by omega, by omega⟩, ?_⟩
        have ew : (hs[k] + 1 - 1).toNat = hs[k].toNat := by omega
        rw [ew]
        refine for_by (fun r Γ B2 => ∃ (ks' : List (List Int)) (s : Int) (n' : Nat) (fnd : Bool) (u v : Option D), Mem domS ks' ∧ Few (put B a (.dT (memo fS ks'))) B2 ∧ r = upto s n' ∧ Γ = [some (.tup (iL hs)), some (.ref a), some (.bl fnd), some (.int k), some (.int hs[k]), u, v] ∧ okT hs k s n' = true ∧ (fnd || (anyT stairB hs k s n' || anyU stairB hs (k + 1) ms)) = stairB hs ∧ 1 ≤ s ∧ s + n' = hs[k] + 1)
          ⟨ks', 1, hs[k].toNat, fnd, u, v, hm', hf, rfl, rfl, h6.1, h5, by omega, by omega⟩ (fun r Γ B' h f e => by cases e) (fun Γ B2 h => ?_) (fun e r Γ B2 K' h hk' => ?_)
        · obtain ⟨ks2, s, n', fnd, u, v, hm2, hf2, h8, rfl, hok2, h9, h10, h11⟩ := h
          cases n' with
          | zero =>
            have h9 : (fnd || (false || _)) = _ := h9
            rw [Bool.false_or] at h9
            exact hk _ _ ⟨ks2, k + 1, ms, fnd, _, _, _, _, hm2, hf2, rfl, rfl, h7, h6.2, h9⟩
          | succ n' => cases h8
        · obtain ⟨ks2, s, n', fnd, u, v, hm2, hf2, h8, rfl, hok2, h9, h10, h11⟩ := h
          cases n' with
          | zero => cases h8
          | succ n' =>
            cases h8
            unfold okT at hok2
            simp only [Bool.and_eq_true, decide_eq_true_eq] at hok2
            obtain ⟨⟨k1, k2⟩, k3⟩ := hok2
            dsimp only [B1_lstairs, dIfS, dOr, dAnd, dNot, dTest, dOp, dUn, dCB, dCons, dNil, dVar, dC, dSeq, dAsg, hName, dRet, dRetF, dRetN, dRaise, dNext, dDrop, dAppend, dCall, gI, gIC, gU, gMM, dChain, dAndV, dOrV, dNotV, dTup, dLst, dLstB, dNewK, dNewT, dPar, dAug, hTup, hCons, hEnd, hSub, dISeq, dIEn, dIR1, dIR2, dFor, dLc, dLcB, hPair, dYes, dBreak, dCont, dIf, dQuant, getS, setS, startD, DL.gSub, gDiv, gMod, gPow, gShl, gXor, gAddI, gLt, gLe, gGt, gGe, gNegU, gMax2, gMin2, gAbs, gIntC, gEq, gIsN, gAdd, gMul, dSl, dNoPart, dPart, wipeD, List.set, rNot, rChain, rOp, rVar, rC, rAnd, hLt, hLe, hGt, hGe, hEq, DL.rI]
            refine ⟨iL hs, rfl, fun p hp => ?_⟩
            have ge : hs.getD k 0 = hs[k] := by rw [List.getD_eq_getElem?_getD, List.getElem?_eq_getElem hk2]; rfl
            refine gIx_at put_same (atI_ints hk2) ?_
            refine gSet_at put_same (ixN_at (by unfold iL; rw [List.length_map]; exact hk2)) ?_
            rw [put_put]
            have eset : (iL hs).set k (.int (hs[k] - s)) = iL (hs.set k (hs[k] - s)) := by unfold iL; rw [List.map_set]
            have hpa : p ≠ a := fun z => by rw [z, (few_at hf2)] at hp; cases hp
            rw [eset]
            have hf3 : ∀ l, Few (put B a (.dT (memo fS ks2))) (put B2 p (.lst l)) := fun l => hf2.trans (Few.put hp)
            have fin : ∀ (hs' : List Int) (Y : XD), hs' = mvS hs k s → (if fnd = true then K' [some (.tup (iL hs)), some (.ref a), some (.bl true), some (.int k), some (.int hs[k]), some (.int s), some (.ref p)] (put B2 p (.lst (iL hs'))) else gTuple [.ref p] (put B2 p (.lst (iL hs'))) fun d B1 => sp_lstairs n [d, .ref a] B1 (fun d B1 => match d with | .bl c => K' [some (.tup (iL hs)), some (.ref a), some (.bl !c), some (.int k), some (.int hs[k]), some (.int s), some (.ref p)] B1 | _ => False) Y) := fun hs' Y e => by
              subst e
              refine ite_of (fun hfn => ?_) (fun hfn => ?_)
              · subst hfn
                exact hk' _ _ ⟨ks2, s + 1, n', true, _, _, hm2, hf3 _, rfl, rfl, k3, by rw [Bool.true_or] at h9 ⊢; exact h9, by omega, by omega⟩
              · subst hfn
                refine gTuple_ref put_same ⟨mvS hs k s, a, ks2, rfl, k1, by omega, few_at (hf3 _), hm2, fun ks3 hm3 => ?_⟩
                refine hk' _ _ ⟨ks3, s + 1, n', _, _, _, hm3, few_upd (hf3 _), rfl, rfl, k3, ?_, by omega, by omega⟩
                rw [← h9, Bool.false_or]
                show _ = ((!stairB _ || anyT _ _ _ _ _) || _)
                rw [Bool.or_assoc]
            refine ite_dec (fun hk0 => ?_) (fun hk0 => fin _ _ ?_)
            · have e1 : ((k : Int) - 1) = ((k - 1 : Nat) : Int) := by omega
              have hk1 : k - 1 < (hs.set k (hs[k] - s)).length := by rw [List.length_set]; omega
              rw [e1]
              refine gIx_at put_same (atI_ints hk1) (gSet_at put_same (ixN_at (by unfold iL; rw [List.length_map]; exact hk1)) ?_)
              rw [put_put]
              have e2 : (iL (hs.set k (hs[k] - s))).set (k - 1) (.int ((hs.set k (hs[k] - s))[k - 1] + s)) = iL (mvS hs k s) := by
                unfold iL mvS
                rw [if_pos (by omega), ge, List.getD_eq_getElem?_getD, List.getElem?_eq_getElem hk1]
                simp only [List.map_set, Option.getD_some]
              rw [e2]
              exact fin _ _ rfl
            · unfold mvS
              rw [if_neg (by omega), ge]
  · have hin3 : hs ∈ ks := by
      cases h : decide (hs ∈ ks) with
      | true => exact of_decide_eq_true h
      | false => rw [h] at hin2; cases hin2
    refine gIx_mk hb hin3 ?_
    have e2 := h1 ks hm
    rw [put_eq hb] at e2
    exact here e2
end K01
set_option Elab.async false
set_option linter.all false
set_option pp.maxSteps 900
set_option maxRecDepth 100000
set_option maxHeartbeats 4000000
namespace K01
open PySem PySem.Spec PyProof.Rows L2 DL PL
/-! ### products by trying -/
def vP (one other a b : Nat) : Int := ((npN 4 a other ^^^ npN 4 one b ^^^ npN 4 a b : Nat) : Int)
def rowR (one other a : Nat) : Nat → Nat → List Int
  | _, 0 => []
  | s, n + 1 => vP one other a s :: rowR one other a (s + 1) n
def tkR (one other : Nat) : Nat → Nat → List Int
  | _, 0 => []
  | a, n + 1 => rowR one other a 0 other ++ tkR one other (a + 1) n
def flt (T : List Int) : Int → Nat → List Int
  | _, 0 => []
  | s, n + 1 => if s ∈ T then flt T (s + 1) n else s :: flt T (s + 1) n
theorem rowR_len (one other a : Nat) : ∀ (n s : Nat), (rowR one other a s n).length = n
  | 0, _ => rfl
  | n + 1, s => by unfold rowR; rw [List.length_cons, rowR_len one other a n (s + 1)]
theorem tkR_len (one other : Nat) : ∀ (n a : Nat), (tkR one other a n).length = n * other
  | 0, _ => by simp [tkR]
  | n + 1, a => by unfold tkR; rw [List.length_append, rowR_len, tkR_len one other n (a + 1)]; rw [Nat.succ_mul, Nat.add_comm]
theorem prod_ok : ∀ one, one < 10 → ∀ other, other < 10 → (flt (tkR one other 0 one) 0 (one * other + 1)).head? = some ((npN 4 one other : Nat) : Int) := by decide +kernel
def domP : List (List Int) := listsOf 10 2
theorem domP_small : domP.length < 1000000 := by decide +kernel
def fP (k : List Int) : D := .int ((npN 4 (k.getD 0 0).toNat (k.getD 1 0).toNat : Nat) : Int)
theorem fP_at (a b : Nat) : fP [(a : Int), (b : Int)] = .int ((npN 4 a b : Nat) : Int) := rfl
theorem domP_at {a b : Nat} (ha : a < 10) (hb : b < 10) : [(a : Int), (b : Int)] ∈ domP := mem_lists (Nat.le_refl _) fun h hh => by
  rcases List.mem_cons.mp hh with e | hh
  · omega
  · have : h = (b : Int) := by simpa using hh
    omega
def sp_lprod (n : Nat) : SpD := fun ds B q x => ∃ (one other : Nat) (p : Addr) (ks : List (List Int)), ds = [.int one, .int other, .ref p] ∧ one < 10 ∧ other < 10 ∧ one + other < n ∧ B p = some (.dT (memo fP ks)) ∧ Mem domP ks ∧
  ∀ ks', Mem domP ks' → q (.int (npN 4 one other : Nat)) (put B p (.dT (memo fP ks')))
theorem rd_lprod {n : Nat} {ds : List D} {B : Bx} {q : DK} {x : XD} (h : sp_lprod (n + 1) ds B q x) : t_lprod (sp_lprod n) (endsD q x) (startD N_lprod ds) B := by
  obtain ⟨one, other, p, ks, rfl, ho, hoo, hsum, hb, hm, h1⟩ := h
  have hdom := domP_at ho hoo
  dsimp only [t_lprod, N_lprod, dIfS, dOr, dAnd, dNot, dTest, dOp, dUn, dCB, dCons, dNil, dVar, dC, dSeq, dAsg, hName, dRet, dRetF, dRetN, dRaise, dNext, dDrop, dAppend, dCall, gI, gIC, gU, gMM, dChain, dAndV, dOrV, dNotV, dTup, dLst, dLstB, dNewK, dNewT, dPar, dAug, hTup, hCons, hEnd, hSub, dISeq, dIEn, dIR1, dIR2, dFor, dLc, dLcB, hPair, dYes, dBreak, dCont, dIf, dQuant, getS, setS, startD, DL.gSub, gDiv, gMod, gPow, gShl, gXor, gAddI, gLt, gLe, gGt, gGe, gNegU, gMax2, gMin2, gAbs, gIntC, gEq, gIsN, gAdd, gMul, dSl, dNoPart, dPart, wipeD, List.set, rNot, rChain, rOp, rVar, rC, rAnd, hLt, hLe, hGt, hGe, hEq, DL.rI]
  refine ⟨trivial, gIn_mk (k := [(one : Int), (other : Int)]) hb ?_⟩
  dsimp only [dIfS, dOr, dAnd, dNot, dTest, dOp, dUn, dCB, dCons, dNil, dVar, dC, dSeq, dAsg, hName, dRet, dRetF, dRetN, dRaise, dNext, dDrop, dAppend, dCall, gI, gIC, gU, gMM, dChain, dAndV, dOrV, dNotV, dTup, dLst, dLstB, dNewK, dNewT, dPar, dAug, hTup, hCons, hEnd, hSub, dISeq, dIEn, dIR1, dIR2, dFor, dLc, dLcB, hPair, dYes, dBreak, dCont, dIf, dQuant, getS, setS, startD, DL.gSub, gDiv, gMod, gPow, gShl, gXor, gAddI, gLt, gLe, gGt, gGe, gNegU, gMax2, gMin2, gAbs, gIntC, gEq, gIsN, gAdd, gMul, dSl, dNoPart, dPart, wipeD, List.set, rNot, rChain, rOp, rVar, rC, rAnd, hLt, hLe, hGt, hGe, hEq, DL.rI]
  refine ite_of (fun hni => ?_) (fun hin2 => ?_)
  · refine ⟨trivial, by omega, ?_⟩
    refine for_by (fun r Γ B2 => ∃ (ks' : List (List Int)) (T : List Int) (a m : Nat) (y : Option D), Mem domP ks' ∧ B2 = put B p (.dT (memo fP ks')) ∧ r = upto a m ∧ Γ = [some (.int one), some (.int other), some (.ref p), some (.lst (iL T)), y, none, none] ∧ T ++ tkR one other a m = tkR one other 0 one ∧ a + m = one)
      ⟨ks, [], 0, one, none, hm, (put_eq hb).symm, by show upto 0 _ = upto 0 _; congr 1, rfl, rfl, by omega⟩ (fun r Γ B' h f e => by cases e) (fun Γ B2 h => ?_) (fun e r Γ B2 K h hk => ?_)
    · obtain ⟨ks', T, a, m, y, hm', rfl, h3, rfl, h4, h5⟩ := h
      cases m with
      | succ m => cases h3
      | zero =>
        rw [show tkR one other a 0 = [] from rfl, List.append_nil] at h4
        subst h4
        dsimp only [dIfS, dOr, dAnd, dNot, dTest, dOp, dUn, dCB, dCons, dNil, dVar, dC, dSeq, dAsg, hName, dRet, dRetF, dRetN, dRaise, dNext, dDrop, dAppend, dCall, gI, gIC, gU, gMM, dChain, dAndV, dOrV, dNotV, dTup, dLst, dLstB, dNewK, dNewT, dPar, dAug, hTup, hCons, hEnd, hSub, dISeq, dIEn, dIR1, dIR2, dFor, dLc, dLcB, hPair, dYes, dBreak, dCont, dIf, dQuant, getS, setS, startD, DL.gSub, gDiv, gMod, gPow, gShl, gXor, gAddI, gLt, gLe, gGt, gGe, gNegU, gMax2, gMin2, gAbs, gIntC, gEq, gIsN, gAdd, gMul, dSl, dNoPart, dPart, wipeD, List.set, rNot, rChain, rOp, rVar, rC, rAnd, hLt, hLe, hGt, hGe, hEq, DL.rI]
        have hlen : (iL (tkR one other 0 one)).length = one * other := by unfold iL; rw [List.length_map, tkR_len]
        have h81 : one * other ≤ 81 := Nat.mul_le_mul (show one ≤ 9 by omega) (show other ≤ 9 by omega)
        refine gLen_seq (xs := iL (tkR one other 0 one)) rfl ?_
        dsimp only [dIfS, dOr, dAnd, dNot, dTest, dOp, dUn, dCB, dCons, dNil, dVar, dC, dSeq, dAsg, hName, dRet, dRetF, dRetN, dRaise, dNext, dDrop, dAppend, dCall, gI, gIC, gU, gMM, dChain, dAndV, dOrV, dNotV, dTup, dLst, dLstB, dNewK, dNewT, dPar, dAug, hTup, hCons, hEnd, hSub, dISeq, dIEn, dIR1, dIR2, dFor, dLc, dLcB, hPair, dYes, dBreak, dCont, dIf, dQuant, getS, setS, startD, DL.gSub, gDiv, gMod, gPow, gShl, gXor, gAddI, gLt, gLe, gGt, gGe, gNegU, gMax2, gMin2, gAbs, gIntC, gEq, gIsN, gAdd, gMul, dSl, dNoPart, dPart, wipeD, List.set, rNot, rChain, rOp, rVar, rC, rAnd, hLt, hLe, hGt, hGe, hEq, DL.rI]
        have hn : (((iL (tkR one other 0 one)).length : Int) + 1).toNat = one * other + 1 := by rw [hlen]; omega
        rw [hn, hlen]
        refine ⟨⟨by omega, by omega⟩, sizeOk_of (by rw [upto_length]; omega), ?_⟩
        refine lc_by (fun r acc B2 => B2 = put B p (.dT (memo fP ks')) ∧ ∃ (s : Int) (n : Nat) (ac : List Int), r = upto s n ∧ acc = iL ac ∧ ac ++ flt (tkR one other 0 one) s n = flt (tkR one other 0 one) 0 (one * other + 1)) ⟨rfl, 0, _, [], rfl, rfl, rfl⟩ (fun r acc B' h f e => by cases e) (fun acc B2 h => ?_) (fun e r acc B2 K h hk => ?_)
        · obtain ⟨rfl, s, n, ac, h6, rfl, h7⟩ := h
          cases n with
          | succ n => cases h6
          | zero =>
            rw [show flt (tkR one other 0 one) s 0 = [] from rfl, List.append_nil] at h7
            have hh := prod_ok one ho other hoo
            rw [← h7] at hh
            cases ac with
            | nil => cases hh
            | cons v ac =>
              injection hh with hh
              subst hh
              refine ⟨0, .int ((npN 4 one other : Nat) : Int), rfl, L2.atI_nat (j := 0) rfl, trivial, ?_⟩
              refine gSet_mk (k := [(one : Int), (other : Int)]) put_same hm' domP_small hdom rfl fun ks2 hm2 hin2 => ⟨trivial, ?_⟩
              refine gIx_mk (k := [(one : Int), (other : Int)]) put_same hin2 ?_
              rw [put_put]
              exact here (h1 ks2 hm2)
        · obtain ⟨rfl, s, n, ac, h6, rfl, h7⟩ := h
          cases n with
          | zero => cases h6
          | succ n =>
            cases h6
            dsimp only [dIfS, dOr, dAnd, dNot, dTest, dOp, dUn, dCB, dCons, dNil, dVar, dC, dSeq, dAsg, hName, dRet, dRetF, dRetN, dRaise, dNext, dDrop, dAppend, dCall, gI, gIC, gU, gMM, dChain, dAndV, dOrV, dNotV, dTup, dLst, dLstB, dNewK, dNewT, dPar, dAug, hTup, hCons, hEnd, hSub, dISeq, dIEn, dIR1, dIR2, dFor, dLc, dLcB, hPair, dYes, dBreak, dCont, dIf, dQuant, getS, setS, startD, DL.gSub, gDiv, gMod, gPow, gShl, gXor, gAddI, gLt, gLe, gGt, gGe, gNegU, gMax2, gMin2, gAbs, gIntC, gEq, gIsN, gAdd, gMul, dSl, dNoPart, dPart, wipeD, List.set, rNot, rChain, rOp, rVar, rC, rAnd, hLt, hLe, hGt, hGe, hEq, DL.rI]
            refine ⟨_, rfl, rfl, flat_ints _, ?_⟩
            have ei : inD (.int s) (iL (tkR one other 0 one)) = decide (s ∈ tkR one other 0 one) := inD_int _ _
            rw [ei, Bool.true_xor]
            refine ite_ndec (fun hni => hk _ _ ⟨rfl, s + 1, n, ac ++ [s], rfl, ?_, ?_⟩) (fun hin => hk _ _ ⟨rfl, s + 1, n, ac, rfl, rfl, ?_⟩)
            · unfold iL; rw [List.map_append]; rfl
            · rw [← h7, List.append_assoc]
              show _ = ac ++ (if _ then _ else _)
              rw [if_neg hni]
              rfl
            · rw [← h7]
              show _ = ac ++ (if _ then _ else _)
              rw [if_pos hin]
    · obtain ⟨ks', T, a, m, y, hm', rfl, h3, rfl, h4, h5⟩ := h
      cases m with
      | zero => cases h3
      | succ m =>
        cases h3
        dsimp only [B1_lprod, dIfS, dOr, dAnd, dNot, dTest, dOp, dUn, dCB, dCons, dNil, dVar, dC, dSeq, dAsg, hName, dRet, dRetF, dRetN, dRaise, dNext, dDrop, dAppend, dCall, gI, gIC, gU, gMM, dChain, dAndV, dOrV, dNotV, dTup, dLst, dLstB, dNewK, dNewT, dPar, dAug, hTup, hCons, hEnd, hSub, dISeq, dIEn, dIR1, dIR2, dFor, dLc, dLcB, hPair, dYes, dBreak, dCont, dIf, dQuant, getS, setS, startD, DL.gSub, gDiv, gMod, gPow, gShl, gXor, gAddI, gLt, gLe, gGt, gGe, gNegU, gMax2, gMin2, gAbs, gIntC, gEq, gIsN, gAdd, gMul, dSl, dNoPart, dPart, wipeD, List.set, rNot, rChain, rOp, rVar, rC, rAnd, hLt, hLe, hGt, hGe, hEq, DL.rI]
        rw [Int.toNat_natCast]
        have hT : T.length ≤ 81 := by
          have e := congrArg List.length h4
          rw [List.length_append, tkR_len, tkR_len] at e
          have h81 : one * other ≤ 81 := Nat.mul_le_mul (show one ≤ 9 by omega) (show other ≤ 9 by omega)
          omega
        refine ⟨⟨by omega, by omega⟩, sizeOk_of (by rw [upto_length]; omega), ?_⟩
        refine lc_by (fun r acc B2 => ∃ (ks2 : List (List Int)) (s n' : Nat) (ac : List Int), Mem domP ks2 ∧ B2 = put B p (.dT (memo fP ks2)) ∧ r = upto s n' ∧ acc = iL ac ∧ ac ++ rowR one other a s n' = rowR one other a 0 other ∧ s + n' = other) ⟨ks', 0, other, [], hm', rfl, rfl, rfl, rfl, by omega⟩ (fun r acc B' h f e => by cases e) (fun acc B2 h => ?_) (fun e r acc B2 K' h hk' => ?_)
        · obtain ⟨ks2, s, n', ac, hm2, rfl, h6, rfl, h7, h8⟩ := h
          cases n' with
          | succ n' => cases h6
          | zero =>
            rw [show rowR one other a s 0 = [] from rfl, List.append_nil] at h7
            subst h7
            refine ⟨le_size (by unfold iL; rw [List.length_map, List.length_map, rowR_len]; omega), hk _ _ ⟨ks2, T ++ rowR one other a 0 other, a + 1, m, some (.int a), hm2, rfl, rfl, ?_, ?_, by omega⟩⟩
            · unfold iL; rw [List.map_append]
            · rw [← h4, List.append_assoc]; rfl
        · obtain ⟨ks2, s, n', ac, hm2, rfl, h6, rfl, h7, h8⟩ := h
          cases n' with
          | zero => cases h6
          | succ n' =>
            cases h6
            dsimp only [dIfS, dOr, dAnd, dNot, dTest, dOp, dUn, dCB, dCons, dNil, dVar, dC, dSeq, dAsg, hName, dRet, dRetF, dRetN, dRaise, dNext, dDrop, dAppend, dCall, gI, gIC, gU, gMM, dChain, dAndV, dOrV, dNotV, dTup, dLst, dLstB, dNewK, dNewT, dPar, dAug, hTup, hCons, hEnd, hSub, dISeq, dIEn, dIR1, dIR2, dFor, dLc, dLcB, hPair, dYes, dBreak, dCont, dIf, dQuant, getS, setS, startD, DL.gSub, gDiv, gMod, gPow, gShl, gXor, gAddI, gLt, gLe, gGt, gGe, gNegU, gMax2, gMin2, gAbs, gIntC, gEq, gIsN, gAdd, gMul, dSl, dNoPart, dPart, wipeD, List.set, rNot, rChain, rOp, rVar, rC, rAnd, hLt, hLe, hGt, hGe, hEq, DL.rI]
            refine ⟨a, other, p, ks2, rfl, by omega, hoo, by omega, put_same, hm2, fun ks3 hm3 => ?_⟩
            rw [put_put]
            refine ⟨one, s, p, ks3, rfl, ho, by omega, by omega, put_same, hm3, fun ks4 hm4 => ?_⟩
            rw [put_put]
            dsimp only [dIfS, dOr, dAnd, dNot, dTest, dOp, dUn, dCB, dCons, dNil, dVar, dC, dSeq, dAsg, hName, dRet, dRetF, dRetN, dRaise, dNext, dDrop, dAppend, dCall, gI, gIC, gU, gMM, dChain, dAndV, dOrV, dNotV, dTup, dLst, dLstB, dNewK, dNewT, dPar, dAug, hTup, hCons, hEnd, hSub, dISeq, dIEn, dIR1, dIR2, dFor, dLc, dLcB, hPair, dYes, dBreak, dCont, dIf, dQuant, getS, setS, startD, DL.gSub, gDiv, gMod, gPow, gShl, gXor, gAddI, gLt, gLe, gGt, gGe, gNegU, gMax2, gMin2, gAbs, gIntC, gEq, gIsN, gAdd, gMul, dSl, dNoPart, dPart, wipeD, List.set, rNot, rChain, rOp, rVar, rC, rAnd, hLt, hLe, hGt, hGe, hEq, DL.rI]
            refine ⟨a, s, p, ks4, rfl, by omega, by omega, by omega, put_same, hm4, fun ks5 hm5 => ?_⟩
            rw [put_put]
            dsimp only [dIfS, dOr, dAnd, dNot, dTest, dOp, dUn, dCB, dCons, dNil, dVar, dC, dSeq, dAsg, hName, dRet, dRetF, dRetN, dRaise, dNext, dDrop, dAppend, dCall, gI, gIC, gU, gMM, dChain, dAndV, dOrV, dNotV, dTup, dLst, dLstB, dNewK, dNewT, dPar, dAug, hTup, hCons, hEnd, hSub, dISeq, dIEn, dIR1, dIR2, dFor, dLc, dLcB, hPair, dYes, dBreak, dCont, dIf, dQuant, getS, setS, startD, DL.gSub, gDiv, gMod, gPow, gShl, gXor, gAddI, gLt, gLe, gGt, gGe, gNegU, gMax2, gMin2, gAbs, gIntC, gEq, gIsN, gAdd, gMul, dSl, dNoPart, dPart, wipeD, List.set, rNot, rChain, rOp, rVar, rC, rAnd, hLt, hLe, hGt, hGe, hEq, DL.rI]
            rw [bxN, bxN]
            refine hk' _ _ ⟨ks5, s + 1, n', ac ++ [vP one other a s], hm5, rfl, rfl, ?_, ?_, by omega⟩
            · unfold iL; rw [List.map_append]; rfl
            · rw [← h7, List.append_assoc]; rfl
  · have hin3 : [(one : Int), (other : Int)] ∈ ks := by
      cases h : decide ([(one : Int), (other : Int)] ∈ ks) with
      | true => exact of_decide_eq_true h
      | false => rw [h] at hin2; cases hin2
    refine ⟨trivial, gIx_mk (k := [(one : Int), (other : Int)]) hb hin3 ?_⟩
    have e2 := h1 ks hm
    rw [put_eq hb] at e2
    exact here e2
/-! ### cold pairs by trying -/
def coldV : List (Int × Int) := [(0, 0), (1, 2), (3, 5), (4, 7), (6, 10), (8, 13), (9, 15), (11, 18), (12, 20), (14, 23), (16, 26), (17, 28), (19, 31), (21, 34)]
theorem coldV_ok : ∀ k, k < 14 → coldP k = coldV.getD k (0, 0) := by decide +kernel
def coldC (a b : Nat) : Bool := decide (coldV.getD (max a b - min a b) (0, 0) = (((min a b : Nat) : Int), ((max a b : Nat) : Int)))
theorem coldC_eq {a b : Nat} (ha : a < 14) (hb : b < 14) : coldC a b = coldB a b := by
  unfold coldC coldB
  rw [coldV_ok _ (by omega)]
def stepC (one other m : Nat) : Bool := (!(decide (m ≤ one) && coldC (one - m) other) && !coldC one (other - m)) && !(decide (m ≤ one) && coldC (one - m) (other - m))
def allC (one other : Nat) : Nat → Nat → Bool
  | _, 0 => true
  | m, n + 1 => stepC one other m && allC one other (m + 1) n
theorem coldC_ok : ∀ other, other < 14 → ∀ one, one ≤ other → coldC one other = allC one other 1 other := by decide +kernel
def domC : List (List Int) := listsOf 14 2
theorem domC_small : domC.length < 1000000 := by decide +kernel
def fC (k : List Int) : D := .bl (coldC (k.getD 0 0).toNat (k.getD 1 0).toNat)
theorem domC_at {a b : Nat} (ha : a < 14) (hb : b < 14) : [(a : Int), (b : Int)] ∈ domC := mem_lists (Nat.le_refl _) fun h hh => by
  rcases List.mem_cons.mp hh with e | hh
  · omega
  · have : h = (b : Int) := by simpa using hh
    omega
theorem coldC_comm (a b : Nat) : coldC a b = coldC (min a b) (max a b) := by
  unfold coldC
  rw [show max (min a b) (max a b) = max a b by omega, show min (min a b) (max a b) = min a b by omega]
def sp_lcold (n : Nat) : SpD := fun ds B q x => ∃ (one other : Nat) (p : Addr) (ks : List (List Int)), ds = [.int one, .int other, .ref p] ∧ one < 14 ∧ other < 14 ∧ one + other < n ∧ B p = some (.dT (memo fC ks)) ∧ Mem domC ks ∧
  ∀ ks', Mem domC ks' → q (.bl (coldC one other)) (put B p (.dT (memo fC ks')))
theorem rd_lcold {n : Nat} {ds : List D} {B : Bx} {q : DK} {x : XD} (h : sp_lcold (n + 1) ds B q x) : t_lcold (sp_lcold n) (endsD q x) (startD N_lcold ds) B := by
  obtain ⟨one0, other0, p, ks, rfl, ho, hoo, hsum, hb, hm, h1⟩ := h
  rw [coldC_comm] at h1
  have e2 : (if (other0 : Int) > (one0 : Int) then (other0 : Int) else (one0 : Int)) = ((max one0 other0 : Nat) : Int) := by split <;> omega
  have e3 : (if (other0 : Int) < (one0 : Int) then (other0 : Int) else (one0 : Int)) = ((min one0 other0 : Nat) : Int) := by split <;> omega
  dsimp only [t_lcold, N_lcold, dIfS, dOr, dAnd, dNot, dTest, dOp, dUn, dCB, dCons, dNil, dVar, dC, dSeq, dAsg, hName, dRet, dRetF, dRetN, dRaise, dNext, dDrop, dAppend, dCall, gI, gIC, gU, gMM, dChain, dAndV, dOrV, dNotV, dTup, dLst, dLstB, dNewK, dNewT, dPar, dAug, hTup, hCons, hEnd, hSub, dISeq, dIEn, dIR1, dIR2, dFor, dLc, dLcB, hPair, dYes, dBreak, dCont, dIf, dQuant, getS, setS, startD, DL.gSub, gDiv, gMod, gPow, gShl, gXor, gAddI, gLt, gLe, gGt, gGe, gNegU, gMax2, gMin2, gAbs, gIntC, gEq, gIsN, gAdd, gMul, dSl, dNoPart, dPart, wipeD, List.set, rNot, rChain, rOp, rVar, rC, rAnd, hLt, hLe, hGt, hGe, hEq, DL.rI]
  rw [e2, e3]
  obtain ⟨one, hone⟩ : ∃ m, m = min one0 other0 := ⟨_, rfl⟩
  obtain ⟨other, hother⟩ : ∃ m, m = max one0 other0 := ⟨_, rfl⟩
  rw [← hone, ← hother] at h1
  rw [← hone, ← hother]
  have hle : one ≤ other := by omega
  have h14 : other < 14 := by omega
  have hs2 : one + other < n + 1 := by omega
  have hdom := domC_at (a := one) (b := other) (by omega) h14
  have hrec := coldC_ok other h14 one hle
  refine ⟨trivial, gIn_mk (k := [(one : Int), (other : Int)]) hb ?_⟩
  dsimp only [dIfS, dOr, dAnd, dNot, dTest, dOp, dUn, dCB, dCons, dNil, dVar, dC, dSeq, dAsg, hName, dRet, dRetF, dRetN, dRaise, dNext, dDrop, dAppend, dCall, gI, gIC, gU, gMM, dChain, dAndV, dOrV, dNotV, dTup, dLst, dLstB, dNewK, dNewT, dPar, dAug, hTup, hCons, hEnd, hSub, dISeq, dIEn, dIR1, dIR2, dFor, dLc, dLcB, hPair, dYes, dBreak, dCont, dIf, dQuant, getS, setS, startD, DL.gSub, gDiv, gMod, gPow, gShl, gXor, gAddI, gLt, gLe, gGt, gGe, gNegU, gMax2, gMin2, gAbs, gIntC, gEq, gIsN, gAdd, gMul, dSl, dNoPart, dPart, wipeD, List.set, rNot, rChain, rOp, rVar, rC, rAnd, hLt, hLe, hGt, hGe, hEq, DL.rI]
  refine ite_of (fun hni => ?_) (fun hin2 => ?_)
  · refine ⟨⟨by omega, by omega, by omega, by omega⟩, ?_⟩
    have ew : ((other : Int) + 1 - 1).toNat = other := by omega
    rw [ew]
    refine for_by (fun r Γ B2 => ∃ (ks' : List (List Int)) (m n' : Nat) (fnd : Bool) (y : Option D), Mem domC ks' ∧ B2 = put B p (.dT (memo fC ks')) ∧ r = upto m n' ∧ Γ = [some (.int one), some (.int other), some (.ref p), some (.bl fnd), y] ∧ (fnd && allC one other m n') = coldC one other ∧ 1 ≤ m ∧ m + n' = other + 1)
      ⟨ks, 1, other, true, none, hm, (put_eq hb).symm, rfl, rfl, by rw [hrec]; rfl, Nat.le_refl _, by omega⟩ (fun r Γ B' h f e => by cases e) (fun Γ B2 h => ?_) (fun e r Γ B2 K h hk => ?_)
    · obtain ⟨ks', m, n', fnd, y, hm', rfl, h3, rfl, h4, h5, h6⟩ := h
      cases n' with
      | succ m => cases h3
      | zero =>
        have h4 : (fnd && true) = _ := h4
        rw [Bool.and_true] at h4
        dsimp only [dIfS, dOr, dAnd, dNot, dTest, dOp, dUn, dCB, dCons, dNil, dVar, dC, dSeq, dAsg, hName, dRet, dRetF, dRetN, dRaise, dNext, dDrop, dAppend, dCall, gI, gIC, gU, gMM, dChain, dAndV, dOrV, dNotV, dTup, dLst, dLstB, dNewK, dNewT, dPar, dAug, hTup, hCons, hEnd, hSub, dISeq, dIEn, dIR1, dIR2, dFor, dLc, dLcB, hPair, dYes, dBreak, dCont, dIf, dQuant, getS, setS, startD, DL.gSub, gDiv, gMod, gPow, gShl, gXor, gAddI, gLt, gLe, gGt, gGe, gNegU, gMax2, gMin2, gAbs, gIntC, gEq, gIsN, gAdd, gMul, dSl, dNoPart, dPart, wipeD, List.set, rNot, rChain, rOp, rVar, rC, rAnd, hLt, hLe, hGt, hGe, hEq, DL.rI]
        refine ⟨trivial, gSet_mk (k := [(one : Int), (other : Int)]) put_same hm' domC_small hdom (by rw [h4]; rfl) fun ks2 hm2 hin2 => ⟨trivial, ?_⟩⟩
        refine gIx_mk (k := [(one : Int), (other : Int)]) put_same hin2 ?_
        rw [put_put]
        exact here (h1 ks2 hm2)
    · obtain ⟨ks', m, n', fnd, y, hm', rfl, h3, rfl, h4, h5, h6⟩ := h
      cases n' with
      | zero => cases h3
      | succ n' =>
        cases h3
        dsimp only [B1_lcold, dIfS, dOr, dAnd, dNot, dTest, dOp, dUn, dCB, dCons, dNil, dVar, dC, dSeq, dAsg, hName, dRet, dRetF, dRetN, dRaise, dNext, dDrop, dAppend, dCall, gI, gIC, gU, gMM, dChain, dAndV, dOrV, dNotV, dTup, dLst, dLstB, dNewK, dNewT, dPar, dAug, hTup, hCons, hEnd, hSub, dISeq, dIEn, dIR1, dIR2, dFor, dLc, dLcB, hPair, dYes, dBreak, dCont, dIf, dQuant, getS, setS, startD, DL.gSub, gDiv, gMod, gPow, gShl, gXor, gAddI, gLt, gLe, gGt, gGe, gNegU, gMax2, gMin2, gAbs, gIntC, gEq, gIsN, gAdd, gMul, dSl, dNoPart, dPart, wipeD, List.set, rNot, rChain, rOp, rVar, rC, rAnd, hLt, hLe, hGt, hGe, hEq, DL.rI]
        have callC : ∀ (u v : Nat) (z w : Int) (ks2 : List (List Int)) (Q : DK) (Y : XD), z = (u : Int) → w = (v : Int) → Mem domC ks2 → u < 14 → v < 14 → u + v < n → (∀ ks3, Mem domC ks3 → Q (.bl (coldC u v)) (put B p (.dT (memo fC ks3)))) → sp_lcold n [.int z, .int w, .ref p] (put B p (.dT (memo fC ks2))) Q Y := fun u v z w ks2 Q Y e1 e2 h1 h2 h3 h4 h5 => by
          subst e1 e2
          refine ⟨u, v, p, ks2, rfl, h2, h3, h4, put_same, h1, fun ks3 hm3 => ?_⟩
          rw [put_put]
          exact h5 ks3 hm3
        have h4' : (fnd && (stepC one other m && allC one other (m + 1) n')) = coldC one other := h4
        have done : ∀ (ks3 : List (List Int)) (c : Bool), Mem domC ks3 → (fnd && stepC one other m) = c → K [some (.int one), some (.int other), some (.ref p), some (.bl c), some (.int m)] (put B p (.dT (memo fC ks3))) := fun ks3 c hm3 hc => by
          refine hk _ _ ⟨ks3, m + 1, n', c, _, hm3, rfl, rfl, rfl, ?_, by omega, by omega⟩
          rw [← h4', ← hc, Bool.and_assoc]
        refine ite_of (fun hf => ?_) (fun hf => ?_)
        · subst hf
          refine ite_dec (fun hmo => ?_) (fun hmo => ?_)
          · have hmn : m ≤ one := by omega
            refine callC (one - m) other _ _ ks' _ _ (by omega) rfl hm' (by omega) h14 (by omega) fun ks3 hm3 => ?_
            dsimp only [dIfS, dOr, dAnd, dNot, dTest, dOp, dUn, dCB, dCons, dNil, dVar, dC, dSeq, dAsg, hName, dRet, dRetF, dRetN, dRaise, dNext, dDrop, dAppend, dCall, gI, gIC, gU, gMM, dChain, dAndV, dOrV, dNotV, dTup, dLst, dLstB, dNewK, dNewT, dPar, dAug, hTup, hCons, hEnd, hSub, dISeq, dIEn, dIR1, dIR2, dFor, dLc, dLcB, hPair, dYes, dBreak, dCont, dIf, dQuant, getS, setS, startD, DL.gSub, gDiv, gMod, gPow, gShl, gXor, gAddI, gLt, gLe, gGt, gGe, gNegU, gMax2, gMin2, gAbs, gIntC, gEq, gIsN, gAdd, gMul, dSl, dNoPart, dPart, wipeD, List.set, rNot, rChain, rOp, rVar, rC, rAnd, hLt, hLe, hGt, hGe, hEq, DL.rI]
            refine ite_of (fun ha => ?_) (fun ha => ?_)
            · refine callC one (other - m) _ _ ks3 _ _ rfl (by omega) hm3 (by omega) (by omega) (by omega) fun ks4 hm4 => ?_
              dsimp only [dIfS, dOr, dAnd, dNot, dTest, dOp, dUn, dCB, dCons, dNil, dVar, dC, dSeq, dAsg, hName, dRet, dRetF, dRetN, dRaise, dNext, dDrop, dAppend, dCall, gI, gIC, gU, gMM, dChain, dAndV, dOrV, dNotV, dTup, dLst, dLstB, dNewK, dNewT, dPar, dAug, hTup, hCons, hEnd, hSub, dISeq, dIEn, dIR1, dIR2, dFor, dLc, dLcB, hPair, dYes, dBreak, dCont, dIf, dQuant, getS, setS, startD, DL.gSub, gDiv, gMod, gPow, gShl, gXor, gAddI, gLt, gLe, gGt, gGe, gNegU, gMax2, gMin2, gAbs, gIntC, gEq, gIsN, gAdd, gMul, dSl, dNoPart, dPart, wipeD, List.set, rNot, rChain, rOp, rVar, rC, rAnd, hLt, hLe, hGt, hGe, hEq, DL.rI]
              refine ite_of (fun hb2 => ?_) (fun hb2 => ?_)
              · refine ite_dec (fun _ => ?_) (fun h => absurd hmo h)
                refine callC (one - m) (other - m) _ _ ks4 _ _ (by omega) (by omega) hm4 (by omega) (by omega) (by omega) fun ks5 hm5 => ?_
                exact done ks5 _ hm5 (by unfold stepC; simp at ha hb2; simp [hmn, ha, hb2])
              · exact done ks4 _ hm4 (by unfold stepC; simp at ha hb2; simp [hmn, ha, hb2])
            · rw [if_neg (by decide)]
              exact done ks3 _ hm3 (by unfold stepC; simp at ha; simp [hmn, ha])
          · have hmn : ¬ m ≤ one := by omega
            rw [if_pos (by decide)]
            refine callC one (other - m) _ _ ks' _ _ rfl (by omega) hm' (by omega) (by omega) (by omega) fun ks4 hm4 => ?_
            dsimp only [dIfS, dOr, dAnd, dNot, dTest, dOp, dUn, dCB, dCons, dNil, dVar, dC, dSeq, dAsg, hName, dRet, dRetF, dRetN, dRaise, dNext, dDrop, dAppend, dCall, gI, gIC, gU, gMM, dChain, dAndV, dOrV, dNotV, dTup, dLst, dLstB, dNewK, dNewT, dPar, dAug, hTup, hCons, hEnd, hSub, dISeq, dIEn, dIR1, dIR2, dFor, dLc, dLcB, hPair, dYes, dBreak, dCont, dIf, dQuant, getS, setS, startD, DL.gSub, gDiv, gMod, gPow, gShl, gXor, gAddI, gLt, gLe, gGt, gGe, gNegU, gMax2, gMin2, gAbs, gIntC, gEq, gIsN, gAdd, gMul, dSl, dNoPart, dPart, wipeD, List.set, rNot, rChain, rOp, rVar, rC, rAnd, hLt, hLe, hGt, hGe, hEq, DL.rI]
            refine ite_of (fun hb2 => ?_) (fun hb2 => ?_)
            · refine ite_dec (fun h => absurd h hmo) (fun _ => ?_)
              exact done ks4 _ hm4 (by unfold stepC; simp at hb2; simp [hmn, hb2])
            · exact done ks4 _ hm4 (by unfold stepC; simp at hb2; simp [hmn, hb2])
        · subst hf
          rw [if_neg (by decide)]
          exact done ks' _ hm' rfl
  · have hin3 : [(one : Int), (other : Int)] ∈ ks := by
      cases h : decide ([(one : Int), (other : Int)] ∈ ks) with
      | true => exact of_decide_eq_true h
      | false => rw [h] at hin2; cases hin2
    refine ⟨trivial, gIx_mk (k := [(one : Int), (other : Int)]) hb hin3 ?_⟩
    have e2 := h1 ks hm
    rw [put_eq hb] at e2
    exact here e2
end K01
set_option Elab.async false
set_option linter.all false
set_option maxRecDepth 100000
set_option maxHeartbeats 4000000
namespace K01
open PySem PySem.Spec PyProof.Rows L2 DL PL
/-! ### the moves by trying -/
def gS (f : List Int → Bool) (ns : List Int) (i : Nat) : Int → Nat → List (Int × Int)
  | _, 0 => []
  | s, n + 1 => (if f (ns.take i ++ [s] ++ ns.drop (i + 1)) = true then [] else [((i : Int), s)]) ++ gS f ns i (s + 1) n
def gG (f : List Int → Bool) (ns : List Int) : Nat → List Int → List (Int × Int)
  | _, [] => []
  | i, h :: r => gS f ns i 0 h.toNat ++ gG f ns (i + 1) r
theorem misS_eq (ns : List Int) (i : Nat) : ∀ (n : Nat) (s : Int), misS ns i s n = gS wllB ns i s n
  | 0, _ => rfl
  | n + 1, s => by
    unfold misS gS
    rw [misS_eq ns i n (s + 1)]
    split <;> rfl
theorem misG_eq (ns : List Int) : ∀ (ms : List Int) (i : Nat), misG ns i ms = gG wllB ns i ms
  | [], _ => rfl
  | m :: ms, i => by unfold misG gG; rw [misS_eq, misG_eq ns ms (i + 1)]
theorem wF_false : wF false = wllB := by funext hs; rfl
theorem winG_ok : (listsOf 6 4).all (fun hs => decide (winG (xorL hs) 0 hs = gG (wF true) hs 0 hs)) = true := by decide +kernel
/-! ### cold pairs by the law's own list -/
def lawS : Nat → List Int × Int × Int
  | 0 => ([], 0, 0)
  | n + 1 => ((lawS n).1 ++ [(flt (lawS n).1 0 ((lawS n).1.length + 1)).headD 0, (flt (lawS n).1 0 ((lawS n).1.length + 1)).headD 0 + (n : Int)], (flt (lawS n).1 0 ((lawS n).1.length + 1)).headD 0, (flt (lawS n).1 0 ((lawS n).1.length + 1)).headD 0 + (n : Int))
theorem lawS_len : ∀ n, (lawS n).1.length = 2 * n
  | 0 => rfl
  | n + 1 => by
    unfold lawS
    rw [List.length_append, lawS_len n]
    simp; omega
theorem lawS_ok : ∀ n, n < 41 → (flt (lawS n).1 0 ((lawS n).1.length + 1)).isEmpty = false := by decide +kernel
theorem lawS_cold : ∀ n, n < 40 → (lawS (n + 1)).2 = coldP n ∧ 0 ≤ (coldP n).1 ∧ (coldP n).2 = (coldP n).1 + (n : Int) ∧ (coldP n).2 ≤ 480 ∧ coldB (coldP n).2.toNat (coldP n).1.toNat = true := by decide +kernel
end K01
set_option Elab.async false
set_option linter.all false
set_option pp.maxSteps 900
set_option maxRecDepth 100000
set_option maxHeartbeats 4000000
--NS 25
namespace K01
open PySem PySem.Spec PyProof.Rows L2 DL PL
section
variable {z0 z1 z2 z3 z4 z5 z6 z7 z8 z9 z10 z11 z12 z13 z14 z15 z16 z17 z18 z19 z20 z21 z22 z23 z24 : Option D}
variable {a Pt : Addr} {B : Bx} {E : DEnds} {nm : Str}
/-- rolls: a list -/
theorem rolls {m n : Int} (hm : 0 < m ∧ m ≤ 1000) (hn : 0 < n ∧ n ≤ 1000) {i j k : Int} (hB : B a = some (diceD i j k)) {q : DK} {x : XD}
    (h : ∀ ns i j k, (ns.length : Int) < n → (∀ v ∈ ns, 0 ≤ v ∧ v < m) → q (.lst (iL ns)) (put B a (diceD i j k))) :
    (dLc [8] (dIR1 (dCons (dCall sp_lroll (dCons (dVar 1) (dCons (dC (.int n)) dNil))) dNil)) (hName 8) dYes (dCall sp_lroll (dCons (dVar 1) (dCons (dC (.int m)) dNil)))) [z0, some (.ref a), z2, z3, z4, z5, z6, z7, z8, z9, z10, z11, z12, z13, z14, z15, z16, z17, z18, z19, z20, z21, z22, z23, z24] B q x := by
  dsimp only [dIfS, dOr, dAnd, dNot, dTest, dOp, dUn, dCB, dCons, dNil, dVar, dC, dSeq, dAsg, hName, dRet, dRetF, dRetN, dRaise, dNext, dDrop, dAppend, dCall, gI, gIC, gU, gMM, dChain, dAndV, dOrV, dNotV, dTup, dLst, dLstB, dNewK, dNewT, dPar, dAug, hTup, hCons, hEnd, hSub, dISeq, dIEn, dIR1, dIR2, dFor, dLc, dLcB, hPair, dYes, dBreak, dCont, dIf, dQuant, getS, setS, startD, DL.gSub, gDiv, gMod, gPow, gShl, gXor, gAddI, gLt, gLe, gGt, gGe, gNegU, gMax2, gMin2, gAbs, gIntC, gEq, gIsN, gAdd, gMul, dSl, dNoPart, dPart, wipeD, List.set, rNot, rChain, rOp, rVar, rC, rAnd, hLt, hLe, hGt, hGe, hEq, DL.rI]
  refine ⟨a, n, i, j, k, rfl, hB, hn.1, by omega, fun r i j k h0 h1 => ?_⟩
  dsimp only [dIfS, dOr, dAnd, dNot, dTest, dOp, dUn, dCB, dCons, dNil, dVar, dC, dSeq, dAsg, hName, dRet, dRetF, dRetN, dRaise, dNext, dDrop, dAppend, dCall, gI, gIC, gU, gMM, dChain, dAndV, dOrV, dNotV, dTup, dLst, dLstB, dNewK, dNewT, dPar, dAug, hTup, hCons, hEnd, hSub, dISeq, dIEn, dIR1, dIR2, dFor, dLc, dLcB, hPair, dYes, dBreak, dCont, dIf, dQuant, getS, setS, startD, DL.gSub, gDiv, gMod, gPow, gShl, gXor, gAddI, gLt, gLe, gGt, gGe, gNegU, gMax2, gMin2, gAbs, gIntC, gEq, gIsN, gAdd, gMul, dSl, dNoPart, dPart, wipeD, List.set, rNot, rChain, rOp, rVar, rC, rAnd, hLt, hLe, hGt, hGe, hEq, DL.rI]
  refine ⟨⟨by omega, by omega⟩, sizeOk_of (by rw [upto_length]; omega), ?_⟩
  refine lc_by (fun w acc B2 => ∃ (s : Int) (t : Nat) (ac : List Int) (i j k : Int), B2 = put B a (diceD i j k) ∧ w = upto s t ∧ acc = iL ac ∧ (ac.length : Int) + t = r ∧ ∀ v ∈ ac, 0 ≤ v ∧ v < m) ⟨0, r.toNat, [], i, j, k, rfl, rfl, rfl, by simp; omega, by simp⟩ (fun r acc B' h f e => by cases e) (fun acc B2 h2 => ?_) (fun e w acc B2 K h2 hk => ?_)
  · obtain ⟨s, t, ac, i, j, k, rfl, h3, rfl, h4, h5⟩ := h2
    cases t with
    | succ t => cases h3
    | zero => exact h ac i j k (by omega) h5
  · obtain ⟨s, t, ac, i, j, k, rfl, h3, rfl, h4, h5⟩ := h2
    cases t with
    | zero => cases h3
    | succ t =>
      cases h3
      dsimp only [dIfS, dOr, dAnd, dNot, dTest, dOp, dUn, dCB, dCons, dNil, dVar, dC, dSeq, dAsg, hName, dRet, dRetF, dRetN, dRaise, dNext, dDrop, dAppend, dCall, gI, gIC, gU, gMM, dChain, dAndV, dOrV, dNotV, dTup, dLst, dLstB, dNewK, dNewT, dPar, dAug, hTup, hCons, hEnd, hSub, dISeq, dIEn, dIR1, dIR2, dFor, dLc, dLcB, hPair, dYes, dBreak, dCont, dIf, dQuant, getS, setS, startD, DL.gSub, gDiv, gMod, gPow, gShl, gXor, gAddI, gLt, gLe, gGt, gGe, gNegU, gMax2, gMin2, gAbs, gIntC, gEq, gIsN, gAdd, gMul, dSl, dNoPart, dPart, wipeD, List.set, rNot, rChain, rOp, rVar, rC, rAnd, hLt, hLe, hGt, hGe, hEq, DL.rI]
      refine ⟨a, m, i, j, k, rfl, put_same, hm.1, by omega, fun r2 i j k k0 k1 => ?_⟩
      rw [put_put]
      refine hk _ _ ⟨s + 1, t, ac ++ [r2], i, j, k, rfl, rfl, ?_, ?_, fun v hv => ?_⟩
      · unfold iL; rw [List.map_append]; rfl
      · simp; omega
      · rcases List.mem_append.mp hv with hv | hv
        · exact h5 v hv
        · have : v = r2 := by simpa using hv
          subst this; exact ⟨k0, k1⟩
/-- what stands throughout -/
structure LawB (a Pt : Addr) (nm : Str) (B : Bx) : Prop where
  dice : ∃ i j k, B a = some (diceD i j k)
  tab : B Pt = some (.tabQ nm)
theorem LawB.ne (h : LawB a Pt nm B) : a ≠ Pt := by
  obtain ⟨i, j, k, e⟩ := h.dice
  exact ne_boxes e h.tab (fun z => by cases z)
theorem LawB.roll (h : LawB a Pt nm B) (i j k : Int) : LawB a Pt nm (put B a (diceD i j k)) := ⟨⟨i, j, k, put_same⟩, by rw [put_ne (Ne.symm h.ne)]; exact h.tab⟩
theorem LawB.new (h : LawB a Pt nm B) {p : Addr} {b : Box} (hp : B p = none) : LawB a Pt nm (put B p b) := by
  obtain ⟨i, j, k, e⟩ := h.dice
  exact ⟨⟨i, j, k, by rw [put_ne (ne_box e hp)]; exact e⟩, by rw [put_ne (ne_box h.tab hp)]; exact h.tab⟩
theorem LawB.set (h : LawB a Pt nm B) {p : Addr} {kvs : List (List Key × D)} {b : Box} (hp : B p = some (.dT kvs)) : LawB a Pt nm (put B p b) := by
  obtain ⟨i, j, k, e⟩ := h.dice
  exact ⟨⟨i, j, k, by rw [put_ne (ne_boxes e hp (fun z => by cases z))]; exact e⟩, by rw [put_ne (ne_boxes h.tab hp (fun z => by cases z))]; exact h.tab⟩
/-- the heaps of the round, the two memories -/
structure LawW (a Pt : Addr) (nm : Str) (p1 p2 : Addr) (B : Bx) : Prop where
  b : LawB a Pt nm B
  m1 : ∃ ks, B p1 = some (.dT (memo (fW true) ks)) ∧ Mem domW ks
  m2 : ∃ ks, B p2 = some (.dT (memo (fW false) ks)) ∧ Mem domW ks
  ne : p1 ≠ p2
theorem s1 (hB : LawB a Pt nm B) (h : ∀ hs p1 p2 B', inW hs → LawW a Pt nm p1 p2 B' → E.nx [z0, some (.ref a), some (.lst (iL hs)), some (.ref p1), some (.ref p2), z5, z6, z7, z8, z9, z10, z11, z12, z13, z14, z15, z16, z17, z18, z19, z20, z21, z22, z23, z24] B') : S1_law sp_lroll E [z0, some (.ref a), z2, z3, z4, z5, z6, z7, z8, z9, z10, z11, z12, z13, z14, z15, z16, z17, z18, z19, z20, z21, z22, z23, z24] B := by
  obtain ⟨i, j, k, e⟩ := hB.dice
  dsimp only [S1_law, dPar]
  show dLc _ _ _ _ _ _ _ _ _
  refine rolls ⟨by decide, by decide⟩ ⟨by decide, by decide⟩ e fun ns i j k hl hb => ?_
  dsimp only [dIfS, dOr, dAnd, dNot, dTest, dOp, dUn, dCB, dCons, dNil, dVar, dC, dSeq, dAsg, hName, dRet, dRetF, dRetN, dRaise, dNext, dDrop, dAppend, dCall, gI, gIC, gU, gMM, dChain, dAndV, dOrV, dNotV, dTup, dLst, dLstB, dNewK, dNewT, dPar, dAug, hTup, hCons, hEnd, hSub, dISeq, dIEn, dIR1, dIR2, dFor, dLc, dLcB, hPair, dYes, dBreak, dCont, dIf, dQuant, getS, setS, startD, DL.gSub, gDiv, gMod, gPow, gShl, gXor, gAddI, gLt, gLe, gGt, gGe, gNegU, gMax2, gMin2, gAbs, gIntC, gEq, gIsN, gAdd, gMul, dSl, dNoPart, dPart, wipeD, List.set, rNot, rChain, rOp, rVar, rC, rAnd, hLt, hLe, hGt, hGe, hEq, DL.rI]
  intro p1 h1 p2 h2
  have n12 : p1 ≠ p2 := fun z => by rw [z, put_same] at h2; cases h2
  refine h ns p1 p2 _ ⟨by omega, hb⟩ ⟨((hB.roll i j k).new h1).new h2, ⟨[], by rw [put_ne n12]; exact put_same, Mem.nil _⟩, ⟨[], put_same, Mem.nil _⟩, n12⟩
theorem s2 (h : E.nx [z0, z1, z2, z3, z4, some (.lst []), some (.lst []), some (.int 0), z8, z9, z10, z11, z12, z13, z14, z15, z16, z17, z18, z19, z20, z21, z22, z23, z24] B) : S2_law E [z0, z1, z2, z3, z4, z5, z6, z7, z8, z9, z10, z11, z12, z13, z14, z15, z16, z17, z18, z19, z20, z21, z22, z23, z24] B := by
  dsimp only [S2_law, dIfS, dOr, dAnd, dNot, dTest, dOp, dUn, dCB, dCons, dNil, dVar, dC, dSeq, dAsg, hName, dRet, dRetF, dRetN, dRaise, dNext, dDrop, dAppend, dCall, gI, gIC, gU, gMM, dChain, dAndV, dOrV, dNotV, dTup, dLst, dLstB, dNewK, dNewT, dPar, dAug, hTup, hCons, hEnd, hSub, dISeq, dIEn, dIR1, dIR2, dFor, dLc, dLcB, hPair, dYes, dBreak, dCont, dIf, dQuant, getS, setS, startD, DL.gSub, gDiv, gMod, gPow, gShl, gXor, gAddI, gLt, gLe, gGt, gGe, gNegU, gMax2, gMin2, gAbs, gIntC, gEq, gIsN, gAdd, gMul, dSl, dNoPart, dPart, wipeD, List.set, rNot, rChain, rOp, rVar, rC, rAnd, hLt, hLe, hGt, hGe, hEq, DL.rI]
  exact ⟨trivial, trivial, h⟩
theorem LawW.w1 {p1 p2 : Addr} (h : LawW a Pt nm p1 p2 B) {ks : List (List Int)} (hm : Mem domW ks) : LawW a Pt nm p1 p2 (put B p1 (.dT (memo (fW true) ks))) := by
  obtain ⟨k1, e1, g1⟩ := h.m1
  obtain ⟨k2, e2, g2⟩ := h.m2
  exact ⟨h.b.set e1, ⟨ks, put_same, hm⟩, ⟨k2, by rw [put_ne (Ne.symm h.ne)]; exact e2, g2⟩, h.ne⟩
theorem LawW.w2 {p1 p2 : Addr} (h : LawW a Pt nm p1 p2 B) {ks : List (List Int)} (hm : Mem domW ks) : LawW a Pt nm p1 p2 (put B p2 (.dT (memo (fW false) ks))) := by
  obtain ⟨k1, e1, g1⟩ := h.m1
  obtain ⟨k2, e2, g2⟩ := h.m2
  exact ⟨h.b.set e2, ⟨k1, by rw [put_ne h.ne]; exact e1, g1⟩, ⟨ks, put_same, hm⟩, h.ne⟩
theorem sum_le20 {hs : List Int} (h : inW hs) : sumI hs ≤ 20 := by
  have key : ∀ {l : List Int}, (∀ v ∈ l, 0 ≤ v ∧ v < 6) → sumI l ≤ 5 * l.length := by
    intro l
    induction l with
    | nil => intro _; exact Int.le_refl _
    | cons v l ih =>
      intro k
      have h1 := k v List.mem_cons_self
      have h2 := ih fun x hx => k x (List.mem_cons_of_mem _ hx)
      show v + sumI l ≤ _
      rw [List.length_cons]
      omega
  have h1 := key h.2
  have h2 := h.1
  omega
/-- [y] * int(not c) -/
theorem rep_eq (c : Bool) (y : D) : (List.replicate (if (!c) = true then (1 : Int) else 0).toNat [y]).flatten = if c = true then [] else [y] := by cases c <;> rfl
theorem rep_ok (c : Bool) (y : D) : (-2 ^ 63 ≤ (if (!c) = true then (1 : Int) else 0)) ∧ (if (!c) = true then (1 : Int) else 0) < 2 ^ 63 ∧ [y].length * (if (!c) = true then (1 : Int) else 0).toNat ≤ sizeLine := by
  cases c with
  | true => exact ⟨by decide, by decide, le_size (by simp)⟩
  | false => exact ⟨by decide, by decide, le_size (by simp)⟩
theorem one_le (c : Bool) (y : D) : (if c = true then [] else [y] : List D).length ≤ 1 := by cases c <;> simp
theorem s8 {p1 p2 : Addr} {hs : List Int} (hW : LawW a Pt nm p1 p2 B) (hin : inW hs)
    (h : ∀ B' z8 z9 z10 z11, LawW a Pt nm p1 p2 B' → E.nx [z0, z1, some (.lst (iL hs)), some (.ref p1), some (.ref p2), some (.lst (pairs (gG (wF true) hs 0 hs))), some (.lst (pairs (gG (wF false) hs 0 hs))), some (.int (xorL hs)), z8, z9, z10, z11, z12, z13, z14, z15, z16, z17, z18, z19, z20, z21, z22, z23, z24] B') :
    S8_law (sp_lwins 21) E [z0, z1, some (.lst (iL hs)), some (.ref p1), some (.ref p2), some (.lst []), some (.lst []), some (.int 0), z8, z9, z10, z11, z12, z13, z14, z15, z16, z17, z18, z19, z20, z21, z22, z23, z24] B := by
  dsimp only [S8_law, dIfS, dOr, dAnd, dNot, dTest, dOp, dUn, dCB, dCons, dNil, dVar, dC, dSeq, dAsg, hName, dRet, dRetF, dRetN, dRaise, dNext, dDrop, dAppend, dCall, gI, gIC, gU, gMM, dChain, dAndV, dOrV, dNotV, dTup, dLst, dLstB, dNewK, dNewT, dPar, dAug, hTup, hCons, hEnd, hSub, dISeq, dIEn, dIR1, dIR2, dFor, dLc, dLcB, hPair, dYes, dBreak, dCont, dIf, dQuant, getS, setS, startD, DL.gSub, gDiv, gMod, gPow, gShl, gXor, gAddI, gLt, gLe, gGt, gGe, gNegU, gMax2, gMin2, gAbs, gIntC, gEq, gIsN, gAdd, gMul, dSl, dNoPart, dPart, wipeD, List.set, rNot, rChain, rOp, rVar, rC, rAnd, hLt, hLe, hGt, hGe, hEq, DL.rI]
  show ∃ xs, lstOf B (.lst (iL hs)) = some xs ∧ _
  refine ⟨_, rfl, ?_⟩
  refine for_by (fun r Γ B' => ∃ (i : Nat) (ms : List Int) (M O : List (Int × Int)) (w : Int) (z8 z9 z10 z11 : Option D), LawW a Pt nm p1 p2 B' ∧ r = enumL i (iL ms) ∧ Γ = [z0, z1, some (.lst (iL hs)), some (.ref p1), some (.ref p2), some (.lst (pairs M)), some (.lst (pairs O)), some (.int w), z8, z9, z10, z11, z12, z13, z14, z15, z16, z17, z18, z19, z20, z21, z22, z23, z24] ∧ ms = hs.drop i ∧
      M ++ gG (wF true) hs i ms = gG (wF true) hs 0 hs ∧ O ++ gG (wF false) hs i ms = gG (wF false) hs 0 hs ∧ ms.foldl Builtin.bitXor w = xorL hs ∧ M.length ≤ 6 * i ∧ O.length ≤ 6 * i)
    ⟨0, hs, [], [], 0, z8, z9, z10, z11, hW, rfl, rfl, rfl, rfl, rfl, rfl, Nat.le_refl _, Nat.le_refl _⟩ (fun r Γ B' h f e => by cases e) (fun Γ B' h2 => ?_) (fun e r Γ B' K h2 hk => ?_)
  · obtain ⟨i, ms, M, O, w, z8, z9, z10, z11, hW', h3, rfl, h4, h5, h6, h7, h8, h9⟩ := h2
    cases ms with
    | cons m ms => cases h3
    | nil =>
      rw [show gG (wF true) hs i [] = [] from rfl, List.append_nil] at h5
      rw [show gG (wF false) hs i [] = [] from rfl, List.append_nil] at h6
      have h7 : w = _ := h7
      subst h5 h6 h7
      exact h B' z8 z9 z10 z11 hW'
  · obtain ⟨i, ms, M, O, w, z8, z9, z10, z11, hW', h3, rfl, h4, h5, h6, h7, h8, h9⟩ := h2
    cases ms with
    | nil => cases h3
    | cons m ms =>
      cases h3
      have hi : i < hs.length := by
        rcases Nat.lt_or_ge i hs.length with h | h
        · exact h
        · rw [List.drop_of_length_le h] at h4; cases h4
      rw [List.drop_eq_getElem_cons hi] at h4
      injection h4 with h4 h10
      subst h4
      have hbd := hin.2 _ (List.getElem_mem hi)
      have hlen := hin.1
      dsimp only [B2_law, S3_law, S7_law, dIfS, dOr, dAnd, dNot, dTest, dOp, dUn, dCB, dCons, dNil, dVar, dC, dSeq, dAsg, hName, dRet, dRetF, dRetN, dRaise, dNext, dDrop, dAppend, dCall, gI, gIC, gU, gMM, dChain, dAndV, dOrV, dNotV, dTup, dLst, dLstB, dNewK, dNewT, dPar, dAug, hTup, hCons, hEnd, hSub, dISeq, dIEn, dIR1, dIR2, dFor, dLc, dLcB, hPair, dYes, dBreak, dCont, dIf, dQuant, getS, setS, startD, DL.gSub, gDiv, gMod, gPow, gShl, gXor, gAddI, gLt, gLe, gGt, gGe, gNegU, gMax2, gMin2, gAbs, gIntC, gEq, gIsN, gAdd, gMul, dSl, dNoPart, dPart, wipeD, List.set, rNot, rChain, rOp, rVar, rC, rAnd, hLt, hLe, hGt, hGe, hEq, DL.rI]
      refine ⟨by omega, ?_⟩
      refine for_by (fun r Γ B' => ∃ (s : Int) (n : Nat) (M' O' : List (Int × Int)) (z10 z11 : Option D), LawW a Pt nm p1 p2 B' ∧ r = upto s n ∧ Γ = [z0, z1, some (.lst (iL hs)), some (.ref p1), some (.ref p2), some (.lst (pairs M')), some (.lst (pairs O')), some (.int (Builtin.bitXor w hs[i])), some (.int i), some (.int hs[i]), z10, z11, z12, z13, z14, z15, z16, z17, z18, z19, z20, z21, z22, z23, z24] ∧
          M' ++ gS (wF true) hs i s n = M ++ gS (wF true) hs i 0 hs[i].toNat ∧ O' ++ gS (wF false) hs i s n = O ++ gS (wF false) hs i 0 hs[i].toNat ∧ 0 ≤ s ∧ s + n = hs[i] ∧ M'.length + n ≤ 6 * i + 6 ∧ O'.length + n ≤ 6 * i + 6)
        ⟨0, hs[i].toNat, M, O, z10, z11, hW', rfl, rfl, rfl, rfl, Int.le_refl 0, by omega, by omega, by omega⟩ (fun r Γ B' h f e => by cases e) (fun Γ B' h2 => ?_) (fun e r Γ B' K' h2 hk' => ?_)
      · obtain ⟨s, n, M', O', z10, z11, hW2, h11, rfl, h12, h13, h14, h15, h16, h17⟩ := h2
        cases n with
        | succ n => cases h11
        | zero =>
          rw [show gS (wF true) hs i s 0 = [] from rfl, List.append_nil] at h12
          rw [show gS (wF false) hs i s 0 = [] from rfl, List.append_nil] at h13
          refine hk _ _ ⟨i + 1, ms, M', O', _, _, _, _, _, hW2, rfl, rfl, h10, ?_, ?_, h7, by omega, by omega⟩
          · rw [h12, ← h5, List.append_assoc]; rfl
          · rw [h13, ← h6, List.append_assoc]; rfl
      · obtain ⟨s, n, M', O', z10, z11, hW2, h11, rfl, h12, h13, h14, h15, h16, h17⟩ := h2
        cases n with
        | zero => cases h11
        | succ n =>
          cases h11
          have e1 : ((i : Int) + 1) = ((i + 1 : Nat) : Int) := by omega
          have hcut : ∀ (lo hi : Option Int), (cutD (iL hs) lo hi).length ≤ 4 := fun lo hi => by
            unfold DL.cutD
            rw [List.length_take, List.length_drop]
            have : (iL hs).length = hs.length := List.length_map ..
            omega
          have c1 := hcut none (some (i : Int))
          have c2 := hcut (some ((i + 1 : Nat) : Int)) none
          have hmv := inW_move hin hi h14 (s := s) (by omega)
          have hsum : sumI (hs.take i ++ [s] ++ hs.drop (i + 1)) < ((21 : Nat) : Int) := by have := sum_le20 hmv; omega
          dsimp only [B1_law, S4_law, S5_law, S6_law, dIfS, dOr, dAnd, dNot, dTest, dOp, dUn, dCB, dCons, dNil, dVar, dC, dSeq, dAsg, hName, dRet, dRetF, dRetN, dRaise, dNext, dDrop, dAppend, dCall, gI, gIC, gU, gMM, dChain, dAndV, dOrV, dNotV, dTup, dLst, dLstB, dNewK, dNewT, dPar, dAug, hTup, hCons, hEnd, hSub, dISeq, dIEn, dIR1, dIR2, dFor, dLc, dLcB, hPair, dYes, dBreak, dCont, dIf, dQuant, getS, setS, startD, DL.gSub, gDiv, gMod, gPow, gShl, gXor, gAddI, gLt, gLe, gGt, gGe, gNegU, gMax2, gMin2, gAbs, gIntC, gEq, gIsN, gAdd, gMul, dSl, dNoPart, dPart, wipeD, List.set, rNot, rChain, rOp, rVar, rC, rAnd, hLt, hLe, hGt, hGe, hEq, DL.rI]
          refine ⟨_, rfl, trivial, le_size (by simp; omega), ?_⟩
          rw [e1]
          refine ⟨_, rfl, le_size (by simp at c1 c2 ⊢; omega), ?_⟩
          rw [cut_iL]
          obtain ⟨ks1, m1, g1⟩ := hW2.m1
          refine ⟨trivial, trivial, _, _, true, p1, ks1, rfl, rfl, hmv, hsum, m1, g1, fun ks1' g1' => ?_⟩
          dsimp only [dIfS, dOr, dAnd, dNot, dTest, dOp, dUn, dCB, dCons, dNil, dVar, dC, dSeq, dAsg, hName, dRet, dRetF, dRetN, dRaise, dNext, dDrop, dAppend, dCall, gI, gIC, gU, gMM, dChain, dAndV, dOrV, dNotV, dTup, dLst, dLstB, dNewK, dNewT, dPar, dAug, hTup, hCons, hEnd, hSub, dISeq, dIEn, dIR1, dIR2, dFor, dLc, dLcB, hPair, dYes, dBreak, dCont, dIf, dQuant, getS, setS, startD, DL.gSub, gDiv, gMod, gPow, gShl, gXor, gAddI, gLt, gLe, gGt, gGe, gNegU, gMax2, gMin2, gAbs, gIntC, gEq, gIsN, gAdd, gMul, dSl, dNoPart, dPart, wipeD, List.set, rNot, rChain, rOp, rVar, rC, rAnd, hLt, hLe, hGt, hGe, hEq, DL.rI]
          obtain ⟨rest, hrest⟩ : ∃ l, l = hs.take i ++ [s] ++ hs.drop (i + 1) := ⟨_, rfl⟩
          rw [← hrest] at hmv hsum ⊢
          have hpl : (pairs M').length = M'.length := List.length_map ..
          have hpo : (pairs O').length = O'.length := List.length_map ..
          have hW3 := hW2.w1 g1'
          obtain ⟨ks2, m2, g2⟩ := hW3.m2
          rw [rep_eq]
          have o1 := one_le (wF true rest) (.tup [.int i, .int s])
          refine ⟨rep_ok _ _, le_size (by omega), trivial, trivial, _, rest, false, p2, ks2, rfl, rfl, hmv, hsum, m2, g2, fun ks2' g2' => ?_⟩
          dsimp only [dIfS, dOr, dAnd, dNot, dTest, dOp, dUn, dCB, dCons, dNil, dVar, dC, dSeq, dAsg, hName, dRet, dRetF, dRetN, dRaise, dNext, dDrop, dAppend, dCall, gI, gIC, gU, gMM, dChain, dAndV, dOrV, dNotV, dTup, dLst, dLstB, dNewK, dNewT, dPar, dAug, hTup, hCons, hEnd, hSub, dISeq, dIEn, dIR1, dIR2, dFor, dLc, dLcB, hPair, dYes, dBreak, dCont, dIf, dQuant, getS, setS, startD, DL.gSub, gDiv, gMod, gPow, gShl, gXor, gAddI, gLt, gLe, gGt, gGe, gNegU, gMax2, gMin2, gAbs, gIntC, gEq, gIsN, gAdd, gMul, dSl, dNoPart, dPart, wipeD, List.set, rNot, rChain, rOp, rVar, rC, rAnd, hLt, hLe, hGt, hGe, hEq, DL.rI]
          rw [rep_eq]
          have o2 := one_le (wF false rest) (.tup [.int i, .int s])
          refine ⟨rep_ok _ _, le_size (by omega), hk' _ _ ⟨s + 1, n, M' ++ (if wF true rest = true then [] else [((i : Int), s)]), O' ++ (if wF false rest = true then [] else [((i : Int), s)]), some (.int s), some (.lst (iL rest)), hW3.w2 g2', rfl, ?_, ?_, ?_, by omega, by omega, ?_, ?_⟩⟩
          · unfold pairs
            rw [List.map_append, List.map_append]
            cases wF true rest <;> cases wF false rest <;> rfl
          · rw [← h12, List.append_assoc, hrest]; rfl
          · rw [← h13, List.append_assoc, hrest]; rfl
          · cases wF true rest <;> simp <;> omega
          · cases wF false rest <;> simp <;> omega
theorem eq_self {d : D} {n : Nat} (hd : plD n d = true) (hn : n ≤ 64 := by decide) : eqD d d = some true := by
  obtain ⟨b, e, h⟩ := eqD_pl hn hd hd
  rw [e, h.mpr rfl]
theorem pl_pairs (l : List (Int × Int)) : plD 2 (.lst (pairs l)) = true := by
  show (pairs l).all (plD 1) = true
  rw [List.all_eq_true]
  intro d hd
  obtain ⟨p, _, rfl⟩ := List.mem_map.mp hd
  rfl
theorem okH_inW {hs : List Int} (h : inW hs) : okH hs = true := okH_of (by have := h.1; omega) fun n hn => by have := h.2 n hn; omega
theorem s9 {p1 p2 : Addr} {hs : List Int} (hW : LawW a Pt nm p1 p2 B) (hin : inW hs) (C : Addr)
    (h : ∀ B', LawW a Pt nm p1 p2 B' → E.nx [z0, z1, some (.lst (iL hs)), some (.ref p1), some (.ref p2), z5, z6, z7, z8, z9, z10, z11, z12, z13, z14, z15, z16, z17, z18, z19, z20, z21, z22, z23, z24] B')
    (h5 : z5 = some (.lst (pairs (gG (wF true) hs 0 hs)))) (h6 : z6 = some (.lst (pairs (gG (wF false) hs 0 hs)))) (h7 : z7 = some (.int (xorL hs))) :
    S9_law (sp_lwins 21) (sp_win C) (sp_mis C) (sp_sum C) E [z0, z1, some (.lst (iL hs)), some (.ref p1), some (.ref p2), z5, z6, z7, z8, z9, z10, z11, z12, z13, z14, z15, z16, z17, z18, z19, z20, z21, z22, z23, z24] B := by
  subst h5 h6 h7
  have ok := okH_inW hin
  have no : ∀ {p : Prop}, okH hs = false → p := fun e => by rw [ok] at e; cases e
  have e1 : winG (xorL hs) 0 hs = gG (wF true) hs 0 hs := of_decide_eq_true (List.all_eq_true.mp winG_ok hs (mem_lists hin.1 hin.2))
  have e2 : misG hs 0 hs = gG (wF false) hs 0 hs := by rw [misG_eq, wF_false]
  dsimp only [S9_law, dIfS, dOr, dAnd, dNot, dTest, dOp, dUn, dCB, dCons, dNil, dVar, dC, dSeq, dAsg, hName, dRet, dRetF, dRetN, dRaise, dNext, dDrop, dAppend, dCall, gI, gIC, gU, gMM, dChain, dAndV, dOrV, dNotV, dTup, dLst, dLstB, dNewK, dNewT, dPar, dAug, hTup, hCons, hEnd, hSub, dISeq, dIEn, dIR1, dIR2, dFor, dLc, dLcB, hPair, dYes, dBreak, dCont, dIf, dQuant, getS, setS, startD, DL.gSub, gDiv, gMod, gPow, gShl, gXor, gAddI, gLt, gLe, gGt, gGe, gNegU, gMax2, gMin2, gAbs, gIntC, gEq, gIsN, gAdd, gMul, dSl, dNoPart, dPart, wipeD, List.set, rNot, rChain, rOp, rVar, rC, rAnd, hLt, hLe, hGt, hGe, hEq, DL.rI]
  refine ⟨.lst (iL hs), hs, rfl, rfl, by have := hin.1; omega, fun _ => ⟨_, rfl, ?_⟩, no⟩
  rw [e1]
  refine ⟨true, eq_self (pl_pairs _), ?_⟩
  rw [if_neg (by decide)]
  refine ⟨.lst (iL hs), hs, rfl, rfl, fun ys e => (by cases e), fun _ => ⟨_, rfl, ?_⟩, no⟩
  rw [e2]
  refine ⟨true, eq_self (pl_pairs _), ?_⟩
  rw [if_neg (by decide)]
  refine ⟨.lst (iL hs), hs, rfl, rfl, fun _ => ?_, no⟩
  dsimp only [dIfS, dOr, dAnd, dNot, dTest, dOp, dUn, dCB, dCons, dNil, dVar, dC, dSeq, dAsg, hName, dRet, dRetF, dRetN, dRaise, dNext, dDrop, dAppend, dCall, gI, gIC, gU, gMM, dChain, dAndV, dOrV, dNotV, dTup, dLst, dLstB, dNewK, dNewT, dPar, dAug, hTup, hCons, hEnd, hSub, dISeq, dIEn, dIR1, dIR2, dFor, dLc, dLcB, hPair, dYes, dBreak, dCont, dIf, dQuant, getS, setS, startD, DL.gSub, gDiv, gMod, gPow, gShl, gXor, gAddI, gLt, gLe, gGt, gGe, gNegU, gMax2, gMin2, gAbs, gIntC, gEq, gIsN, gAdd, gMul, dSl, dNoPart, dPart, wipeD, List.set, rNot, rChain, rOp, rVar, rC, rAnd, hLt, hLe, hGt, hGe, hEq, DL.rI]
  rw [if_neg (by rw [decide_eq_true rfl]; decide)]
  obtain ⟨ks1, m1, g1⟩ := hW.m1
  refine ⟨.lst (iL hs), hs, true, p1, ks1, rfl, rfl, hin, by have := sum_le20 hin; omega, m1, g1, fun ks1' g1' => ?_⟩
  dsimp only [dIfS, dOr, dAnd, dNot, dTest, dOp, dUn, dCB, dCons, dNil, dVar, dC, dSeq, dAsg, hName, dRet, dRetF, dRetN, dRaise, dNext, dDrop, dAppend, dCall, gI, gIC, gU, gMM, dChain, dAndV, dOrV, dNotV, dTup, dLst, dLstB, dNewK, dNewT, dPar, dAug, hTup, hCons, hEnd, hSub, dISeq, dIEn, dIR1, dIR2, dFor, dLc, dLcB, hPair, dYes, dBreak, dCont, dIf, dQuant, getS, setS, startD, DL.gSub, gDiv, gMod, gPow, gShl, gXor, gAddI, gLt, gLe, gGt, gGe, gNegU, gMax2, gMin2, gAbs, gIntC, gEq, gIsN, gAdd, gMul, dSl, dNoPart, dPart, wipeD, List.set, rNot, rChain, rOp, rVar, rC, rAnd, hLt, hLe, hGt, hGe, hEq, DL.rI]
  have e3 : (true ^^ decide ((true ^^ decide (xorL hs = 0)) = wF true hs)) = false := by
    have : wF true hs = !decide (xorL hs = 0) := rfl
    rw [this]
    cases decide (xorL hs = 0) <;> rfl
  rw [e3, if_neg (by decide)]
  exact h _ (hW.w1 g1')
theorem s10 {p1 p2 : Addr} {hs : List Int} (hW : LawW a Pt nm p1 p2 B) (hin : inW hs) (C : Addr)
    (h : ∀ B', LawW a Pt nm p1 p2 B' → E.nx [z0, z1, some (.lst (iL hs)), some (.ref p1), some (.ref p2), z5, z6, z7, z8, z9, z10, z11, z12, z13, z14, z15, z16, z17, z18, z19, z20, z21, z22, z23, z24] B') :
    S10_law (sp_lwins 21) (sp_wll C) (sp_check C) E [z0, z1, some (.lst (iL hs)), some (.ref p1), some (.ref p2), z5, z6, z7, z8, z9, z10, z11, z12, z13, z14, z15, z16, z17, z18, z19, z20, z21, z22, z23, z24] B := by
  have ok := okH_inW hin
  have no : ∀ {p : Prop}, okH hs = false → p := fun e => by rw [ok] at e; cases e
  dsimp only [S10_law, dIfS, dOr, dAnd, dNot, dTest, dOp, dUn, dCB, dCons, dNil, dVar, dC, dSeq, dAsg, hName, dRet, dRetF, dRetN, dRaise, dNext, dDrop, dAppend, dCall, gI, gIC, gU, gMM, dChain, dAndV, dOrV, dNotV, dTup, dLst, dLstB, dNewK, dNewT, dPar, dAug, hTup, hCons, hEnd, hSub, dISeq, dIEn, dIR1, dIR2, dFor, dLc, dLcB, hPair, dYes, dBreak, dCont, dIf, dQuant, getS, setS, startD, DL.gSub, gDiv, gMod, gPow, gShl, gXor, gAddI, gLt, gLe, gGt, gGe, gNegU, gMax2, gMin2, gAbs, gIntC, gEq, gIsN, gAdd, gMul, dSl, dNoPart, dPart, wipeD, List.set, rNot, rChain, rOp, rVar, rC, rAnd, hLt, hLe, hGt, hGe, hEq, DL.rI]
  refine ⟨.lst (iL hs), hs, rfl, rfl, fun _ => ?_, no⟩
  obtain ⟨ks2, m2, g2⟩ := hW.m2
  refine ⟨.lst (iL hs), hs, false, p2, ks2, rfl, rfl, hin, by have := sum_le20 hin; omega, m2, g2, fun ks2' g2' => ?_⟩
  dsimp only [dIfS, dOr, dAnd, dNot, dTest, dOp, dUn, dCB, dCons, dNil, dVar, dC, dSeq, dAsg, hName, dRet, dRetF, dRetN, dRaise, dNext, dDrop, dAppend, dCall, gI, gIC, gU, gMM, dChain, dAndV, dOrV, dNotV, dTup, dLst, dLstB, dNewK, dNewT, dPar, dAug, hTup, hCons, hEnd, hSub, dISeq, dIEn, dIR1, dIR2, dFor, dLc, dLcB, hPair, dYes, dBreak, dCont, dIf, dQuant, getS, setS, startD, DL.gSub, gDiv, gMod, gPow, gShl, gXor, gAddI, gLt, gLe, gGt, gGe, gNegU, gMax2, gMin2, gAbs, gIntC, gEq, gIsN, gAdd, gMul, dSl, dNoPart, dPart, wipeD, List.set, rNot, rChain, rOp, rVar, rC, rAnd, hLt, hLe, hGt, hGe, hEq, DL.rI]
  rw [wF_false, decide_eq_true rfl, if_neg (by decide)]
  refine ⟨.lst (iL hs), hs, rfl, rfl, fun _ => ?_, no⟩
  dsimp only [dIfS, dOr, dAnd, dNot, dTest, dOp, dUn, dCB, dCons, dNil, dVar, dC, dSeq, dAsg, hName, dRet, dRetF, dRetN, dRaise, dNext, dDrop, dAppend, dCall, gI, gIC, gU, gMM, dChain, dAndV, dOrV, dNotV, dTup, dLst, dLstB, dNewK, dNewT, dPar, dAug, hTup, hCons, hEnd, hSub, dISeq, dIEn, dIR1, dIR2, dFor, dLc, dLcB, hPair, dYes, dBreak, dCont, dIf, dQuant, getS, setS, startD, DL.gSub, gDiv, gMod, gPow, gShl, gXor, gAddI, gLt, gLe, gGt, gGe, gNegU, gMax2, gMin2, gAbs, gIntC, gEq, gIsN, gAdd, gMul, dSl, dNoPart, dPart, wipeD, List.set, rNot, rChain, rOp, rVar, rC, rAnd, hLt, hLe, hGt, hGe, hEq, DL.rI]
  rw [if_neg (by decide)]
  exact h _ (hW.w2 g2')
/-! ### the stairs, the products, .. -/
theorem s11 (hB : LawB a Pt nm B) (h : ∀ hs B', hs.length ≤ 3 → (∀ v ∈ hs, 0 ≤ v ∧ v < 4) → LawB a Pt nm B' → E.nx [z0, some (.ref a), z2, z3, z4, z5, z6, z7, z8, z9, z10, z11, some (.tup (iL hs)), z13, z14, z15, z16, z17, z18, z19, z20, z21, z22, z23, z24] B') : S11_law sp_lroll E [z0, some (.ref a), z2, z3, z4, z5, z6, z7, z8, z9, z10, z11, z12, z13, z14, z15, z16, z17, z18, z19, z20, z21, z22, z23, z24] B := by
  obtain ⟨i, j, k, e⟩ := hB.dice
  dsimp only [S11_law, dAsg, dCB, dCons, dNil]
  show dLc _ _ _ _ _ _ _ _ _
  refine rolls ⟨by decide, by decide⟩ ⟨by decide, by decide⟩ e fun ns i j k hl hb => ?_
  dsimp only [dIfS, dOr, dAnd, dNot, dTest, dOp, dUn, dCB, dCons, dNil, dVar, dC, dSeq, dAsg, hName, dRet, dRetF, dRetN, dRaise, dNext, dDrop, dAppend, dCall, gI, gIC, gU, gMM, dChain, dAndV, dOrV, dNotV, dTup, dLst, dLstB, dNewK, dNewT, dPar, dAug, hTup, hCons, hEnd, hSub, dISeq, dIEn, dIR1, dIR2, dFor, dLc, dLcB, hPair, dYes, dBreak, dCont, dIf, dQuant, getS, setS, startD, DL.gSub, gDiv, gMod, gPow, gShl, gXor, gAddI, gLt, gLe, gGt, gGe, gNegU, gMax2, gMin2, gAbs, gIntC, gEq, gIsN, gAdd, gMul, dSl, dNoPart, dPart, wipeD, List.set, rNot, rChain, rOp, rVar, rC, rAnd, hLt, hLe, hGt, hGe, hEq, DL.rI]
  exact ⟨_, rfl, h ns _ (by omega) hb (hB.roll i j k)⟩
theorem s12 {hs : List Int} (hB : LawB a Pt nm B) (hl : hs.length ≤ 3) (hb : ∀ v ∈ hs, 0 ≤ v ∧ v < 4) (C : Addr) (h : ∀ B', LawB a Pt nm B' → E.nx [z0, some (.ref a), z2, z3, z4, z5, z6, z7, z8, z9, z10, z11, some (.tup (iL hs)), z13, z14, z15, z16, z17, z18, z19, z20, z21, z22, z23, z24] B') :
    S12_law (sp_stair C) (sp_lstairs 28) E [z0, some (.ref a), z2, z3, z4, z5, z6, z7, z8, z9, z10, z11, some (.tup (iL hs)), z13, z14, z15, z16, z17, z18, z19, z20, z21, z22, z23, z24] B := by
  have ok : okH hs = true := okH_of (by omega) fun n hn => by have := hb n hn; omega
  have no : ∀ {p : Prop}, okH hs = false → p := fun e => by rw [ok] at e; cases e
  have hdom : inSb hs = true ∧ phi 0 hs < ((28 : Nat) : Int) := by
    match hs, hl, hb with
    | [], _, _ => exact ⟨by decide, by decide⟩
    | [x], _, hb =>
      have h1 := hb x (by simp)
      refine ⟨?_, ?_⟩
      · unfold inSb; simp [sumI]; omega
      · simp [phi]; omega
    | [x, y], _, hb =>
      have h1 := hb x (by simp)
      have h2 := hb y (by simp)
      refine ⟨?_, ?_⟩
      · unfold inSb; simp [sumI]; omega
      · simp [phi]; omega
    | [x, y, z], _, hb =>
      have h1 := hb x (by simp)
      have h2 := hb y (by simp)
      have h3 := hb z (by simp)
      refine ⟨?_, ?_⟩
      · unfold inSb; simp [sumI]; omega
      · simp [phi]; omega
  dsimp only [S12_law, dIfS, dOr, dAnd, dNot, dTest, dOp, dUn, dCB, dCons, dNil, dVar, dC, dSeq, dAsg, hName, dRet, dRetF, dRetN, dRaise, dNext, dDrop, dAppend, dCall, gI, gIC, gU, gMM, dChain, dAndV, dOrV, dNotV, dTup, dLst, dLstB, dNewK, dNewT, dPar, dAug, hTup, hCons, hEnd, hSub, dISeq, dIEn, dIR1, dIR2, dFor, dLc, dLcB, hPair, dYes, dBreak, dCont, dIf, dQuant, getS, setS, startD, DL.gSub, gDiv, gMod, gPow, gShl, gXor, gAddI, gLt, gLe, gGt, gGe, gNegU, gMax2, gMin2, gAbs, gIntC, gEq, gIsN, gAdd, gMul, dSl, dNoPart, dPart, wipeD, List.set, rNot, rChain, rOp, rVar, rC, rAnd, hLt, hLe, hGt, hGe, hEq, DL.rI]
  refine ⟨.tup (iL hs), hs, rfl, rfl, fun _ => ⟨rfl, ?_⟩, no⟩
  intro p hp
  refine ⟨hs, p, [], rfl, hdom.1, hdom.2, put_same, Mem.nil _, fun ks' hm => ?_⟩
  dsimp only [dIfS, dOr, dAnd, dNot, dTest, dOp, dUn, dCB, dCons, dNil, dVar, dC, dSeq, dAsg, hName, dRet, dRetF, dRetN, dRaise, dNext, dDrop, dAppend, dCall, gI, gIC, gU, gMM, dChain, dAndV, dOrV, dNotV, dTup, dLst, dLstB, dNewK, dNewT, dPar, dAug, hTup, hCons, hEnd, hSub, dISeq, dIEn, dIR1, dIR2, dFor, dLc, dLcB, hPair, dYes, dBreak, dCont, dIf, dQuant, getS, setS, startD, DL.gSub, gDiv, gMod, gPow, gShl, gXor, gAddI, gLt, gLe, gGt, gGe, gNegU, gMax2, gMin2, gAbs, gIntC, gEq, gIsN, gAdd, gMul, dSl, dNoPart, dPart, wipeD, List.set, rNot, rChain, rOp, rVar, rC, rAnd, hLt, hLe, hGt, hGe, hEq, DL.rI]
  rw [decide_eq_true rfl, if_neg (by decide), put_put]
  exact h _ (hB.new hp)
theorem s13 (hB : LawB a Pt nm B) (h : ∀ (u v : Nat) B', u < 10 → v < 10 → LawB a Pt nm B' → E.nx [z0, some (.ref a), z2, z3, z4, z5, z6, z7, z8, z9, z10, z11, z12, some (.int u), some (.int v), z15, z16, z17, z18, z19, z20, z21, z22, z23, z24] B') : S13_law sp_lroll E [z0, some (.ref a), z2, z3, z4, z5, z6, z7, z8, z9, z10, z11, z12, z13, z14, z15, z16, z17, z18, z19, z20, z21, z22, z23, z24] B := by
  obtain ⟨i, j, k, e⟩ := hB.dice
  dsimp only [S13_law, dIfS, dOr, dAnd, dNot, dTest, dOp, dUn, dCB, dCons, dNil, dVar, dC, dSeq, dAsg, hName, dRet, dRetF, dRetN, dRaise, dNext, dDrop, dAppend, dCall, gI, gIC, gU, gMM, dChain, dAndV, dOrV, dNotV, dTup, dLst, dLstB, dNewK, dNewT, dPar, dAug, hTup, hCons, hEnd, hSub, dISeq, dIEn, dIR1, dIR2, dFor, dLc, dLcB, hPair, dYes, dBreak, dCont, dIf, dQuant, getS, setS, startD, DL.gSub, gDiv, gMod, gPow, gShl, gXor, gAddI, gLt, gLe, gGt, gGe, gNegU, gMax2, gMin2, gAbs, gIntC, gEq, gIsN, gAdd, gMul, dSl, dNoPart, dPart, wipeD, List.set, rNot, rChain, rOp, rVar, rC, rAnd, hLt, hLe, hGt, hGe, hEq, DL.rI]
  refine ⟨a, 10, i, j, k, rfl, e, by decide, by decide, fun r i j k h0 h1 => ⟨a, 10, i, j, k, rfl, put_same, by decide, by decide, fun r2 i2 j2 k2 h2 h3 => ?_⟩⟩
  dsimp only [dIfS, dOr, dAnd, dNot, dTest, dOp, dUn, dCB, dCons, dNil, dVar, dC, dSeq, dAsg, hName, dRet, dRetF, dRetN, dRaise, dNext, dDrop, dAppend, dCall, gI, gIC, gU, gMM, dChain, dAndV, dOrV, dNotV, dTup, dLst, dLstB, dNewK, dNewT, dPar, dAug, hTup, hCons, hEnd, hSub, dISeq, dIEn, dIR1, dIR2, dFor, dLc, dLcB, hPair, dYes, dBreak, dCont, dIf, dQuant, getS, setS, startD, DL.gSub, gDiv, gMod, gPow, gShl, gXor, gAddI, gLt, gLe, gGt, gGe, gNegU, gMax2, gMin2, gAbs, gIntC, gEq, gIsN, gAdd, gMul, dSl, dNoPart, dPart, wipeD, List.set, rNot, rChain, rOp, rVar, rC, rAnd, hLt, hLe, hGt, hGe, hEq, DL.rI]
  rw [put_put]
  have := h r.toNat r2.toNat (put B a (diceD i2 j2 k2)) (by omega) (by omega) (hB.roll _ _ _)
  rw [Int.toNat_of_nonneg h0, Int.toNat_of_nonneg h2] at this
  exact this
theorem s14 {u v : Nat} (hB : LawB a Pt nm B) (hu : u < 10) (hv : v < 10) (C : Addr) (h : ∀ B', LawB a Pt nm B' → E.nx [z0, some (.ref a), z2, z3, z4, z5, z6, z7, z8, z9, z10, z11, z12, some (.int u), some (.int v), z15, z16, z17, z18, z19, z20, z21, z22, z23, z24] B') :
    S14_law (sp_prod C 4) (sp_lprod 20) E [z0, some (.ref a), z2, z3, z4, z5, z6, z7, z8, z9, z10, z11, z12, some (.int u), some (.int v), z15, z16, z17, z18, z19, z20, z21, z22, z23, z24] B := by
  dsimp only [S14_law, dIfS, dOr, dAnd, dNot, dTest, dOp, dUn, dCB, dCons, dNil, dVar, dC, dSeq, dAsg, hName, dRet, dRetF, dRetN, dRaise, dNext, dDrop, dAppend, dCall, gI, gIC, gU, gMM, dChain, dAndV, dOrV, dNotV, dTup, dLst, dLstB, dNewK, dNewT, dPar, dAug, hTup, hCons, hEnd, hSub, dISeq, dIEn, dIR1, dIR2, dFor, dLc, dLcB, hPair, dYes, dBreak, dCont, dIf, dQuant, getS, setS, startD, DL.gSub, gDiv, gMod, gPow, gShl, gXor, gAddI, gLt, gLe, gGt, gGe, gNegU, gMax2, gMin2, gAbs, gIntC, gEq, gIsN, gAdd, gMul, dSl, dNoPart, dPart, wipeD, List.set, rNot, rChain, rOp, rVar, rC, rAnd, hLt, hLe, hGt, hGe, hEq, DL.rI]
  refine .inl ⟨u, v, rfl, by simp [lim]; omega, by simp [lim]; omega, ?_⟩
  intro p hp
  refine ⟨u, v, p, [], rfl, hu, hv, by omega, put_same, Mem.nil _, fun ks' hm => ?_⟩
  dsimp only [dIfS, dOr, dAnd, dNot, dTest, dOp, dUn, dCB, dCons, dNil, dVar, dC, dSeq, dAsg, hName, dRet, dRetF, dRetN, dRaise, dNext, dDrop, dAppend, dCall, gI, gIC, gU, gMM, dChain, dAndV, dOrV, dNotV, dTup, dLst, dLstB, dNewK, dNewT, dPar, dAug, hTup, hCons, hEnd, hSub, dISeq, dIEn, dIR1, dIR2, dFor, dLc, dLcB, hPair, dYes, dBreak, dCont, dIf, dQuant, getS, setS, startD, DL.gSub, gDiv, gMod, gPow, gShl, gXor, gAddI, gLt, gLe, gGt, gGe, gNegU, gMax2, gMin2, gAbs, gIntC, gEq, gIsN, gAdd, gMul, dSl, dNoPart, dPart, wipeD, List.set, rNot, rChain, rOp, rVar, rC, rAnd, hLt, hLe, hGt, hGe, hEq, DL.rI]
  rw [decide_eq_true rfl, if_neg (by decide), put_put]
  exact h _ (hB.new hp)
end
end K01
set_option Elab.async false
set_option linter.all false
set_option pp.maxSteps 900
set_option maxRecDepth 100000
set_option maxHeartbeats 4000000
--NS 25
namespace K01
open PySem PySem.Spec PyProof.Rows L2 DL PL
section
variable {z0 z1 z2 z3 z4 z5 z6 z7 z8 z9 z10 z11 z12 z13 z14 z15 z16 z17 z18 z19 z20 z21 z22 z23 z24 : Option D}
variable {a Pt : Addr} {B : Bx} {E : DEnds} {nm : Str}
theorem s15 (hB : LawB a Pt nm B) (h : ∀ (u v w : Nat) B', u < 256 → v < 256 → w < 256 → LawB a Pt nm B' → E.nx [z0, some (.ref a), z2, z3, z4, z5, z6, z7, z8, z9, z10, z11, z12, z13, z14, some (.int u), some (.int v), some (.int w), z18, z19, z20, z21, z22, z23, z24] B') : S15_law sp_lroll E [z0, some (.ref a), z2, z3, z4, z5, z6, z7, z8, z9, z10, z11, z12, z13, z14, z15, z16, z17, z18, z19, z20, z21, z22, z23, z24] B := by
  obtain ⟨i, j, k, e⟩ := hB.dice
  dsimp only [S15_law, hLst, dIfS, dOr, dAnd, dNot, dTest, dOp, dUn, dCB, dCons, dNil, dVar, dC, dSeq, dAsg, hName, dRet, dRetF, dRetN, dRaise, dNext, dDrop, dAppend, dCall, gI, gIC, gU, gMM, dChain, dAndV, dOrV, dNotV, dTup, dLst, dLstB, dNewK, dNewT, dPar, dAug, hTup, hCons, hEnd, hSub, dISeq, dIEn, dIR1, dIR2, dFor, dLc, dLcB, hPair, dYes, dBreak, dCont, dIf, dQuant, getS, setS, startD, DL.gSub, gDiv, gMod, gPow, gShl, gXor, gAddI, gLt, gLe, gGt, gGe, gNegU, gMax2, gMin2, gAbs, gIntC, gEq, gIsN, gAdd, gMul, dSl, dNoPart, dPart, wipeD, List.set, rNot, rChain, rOp, rVar, rC, rAnd, hLt, hLe, hGt, hGe, hEq, DL.rI]
  refine ⟨by decide, trivial, ?_⟩
  refine lc_by (fun w acc B2 => ∃ (s : Int) (t : Nat) (ac : List Int) (i j k : Int), B2 = put B a (diceD i j k) ∧ w = upto s t ∧ acc = iL ac ∧ ac.length + t = 3 ∧ ∀ v ∈ ac, 0 ≤ v ∧ v < 256) ⟨0, 3, [], i, j, k, (put_eq e).symm, rfl, rfl, rfl, by simp⟩ (fun r acc B' h f e => by cases e) (fun acc B2 h2 => ?_) (fun e w acc B2 K h2 hk => ?_)
  · obtain ⟨s, t, ac, i, j, k, rfl, h3, rfl, h4, h5⟩ := h2
    cases t with
    | succ t => cases h3
    | zero =>
      match ac, h4, h5 with
      | [u, v, w], _, h5 =>
        have h6 := h5 u (by simp)
        have h7 := h5 v (by simp)
        have h8 := h5 w (by simp)
        refine ⟨_, rfl, ?_⟩
        dsimp only [iL, List.map, dIfS, dOr, dAnd, dNot, dTest, dOp, dUn, dCB, dCons, dNil, dVar, dC, dSeq, dAsg, hName, dRet, dRetF, dRetN, dRaise, dNext, dDrop, dAppend, dCall, gI, gIC, gU, gMM, dChain, dAndV, dOrV, dNotV, dTup, dLst, dLstB, dNewK, dNewT, dPar, dAug, hTup, hCons, hEnd, hSub, dISeq, dIEn, dIR1, dIR2, dFor, dLc, dLcB, hPair, dYes, dBreak, dCont, dIf, dQuant, getS, setS, startD, DL.gSub, gDiv, gMod, gPow, gShl, gXor, gAddI, gLt, gLe, gGt, gGe, gNegU, gMax2, gMin2, gAbs, gIntC, gEq, gIsN, gAdd, gMul, dSl, dNoPart, dPart, wipeD, List.set, rNot, rChain, rOp, rVar, rC, rAnd, hLt, hLe, hGt, hGe, hEq, DL.rI]
        have := h u.toNat v.toNat w.toNat (put B a (diceD i j k)) (by omega) (by omega) (by omega) (hB.roll _ _ _)
        rw [Int.toNat_of_nonneg h6.1, Int.toNat_of_nonneg h7.1, Int.toNat_of_nonneg h8.1] at this
        exact this
  · obtain ⟨s, t, ac, i, j, k, rfl, h3, rfl, h4, h5⟩ := h2
    cases t with
    | zero => cases h3
    | succ t =>
      cases h3
      dsimp only [dIfS, dOr, dAnd, dNot, dTest, dOp, dUn, dCB, dCons, dNil, dVar, dC, dSeq, dAsg, hName, dRet, dRetF, dRetN, dRaise, dNext, dDrop, dAppend, dCall, gI, gIC, gU, gMM, dChain, dAndV, dOrV, dNotV, dTup, dLst, dLstB, dNewK, dNewT, dPar, dAug, hTup, hCons, hEnd, hSub, dISeq, dIEn, dIR1, dIR2, dFor, dLc, dLcB, hPair, dYes, dBreak, dCont, dIf, dQuant, getS, setS, startD, DL.gSub, gDiv, gMod, gPow, gShl, gXor, gAddI, gLt, gLe, gGt, gGe, gNegU, gMax2, gMin2, gAbs, gIntC, gEq, gIsN, gAdd, gMul, dSl, dNoPart, dPart, wipeD, List.set, rNot, rChain, rOp, rVar, rC, rAnd, hLt, hLe, hGt, hGe, hEq, DL.rI]
      refine ⟨a, 256, i, j, k, rfl, put_same, by decide, by decide, fun r2 i j k k0 k1 => ?_⟩
      rw [put_put]
      refine hk _ _ ⟨s + 1, t, ac ++ [r2], i, j, k, rfl, rfl, ?_, ?_, fun v hv => ?_⟩
      · unfold iL; rw [List.map_append]; rfl
      · simp; omega
      · rcases List.mem_append.mp hv with hv | hv
        · exact h5 v hv
        · have : v = r2 := by simpa using hv
          subst this; exact ⟨k0, k1⟩
theorem prod_at {C : Addr} {u v : Nat} {q : DK} {x : XD} (hu : u < 256) (hv : v < 256) (h : q (.int (npN 4 u v : Nat)) B) : sp_prod C 4 [.int u, .int v] B q x := .inl ⟨u, v, rfl, hu, hv, h⟩
theorem s16 {u v w : Nat} (hu : u < 256) (hv : v < 256) (hw : w < 256) (C : Addr) (h : E.nx [z0, some (.ref a), z2, z3, z4, z5, z6, z7, z8, z9, z10, z11, z12, z13, z14, some (.int u), some (.int v), some (.int w), z18, z19, z20, z21, z22, z23, z24] B) :
    S16_law (sp_prod C 4) E [z0, some (.ref a), z2, z3, z4, z5, z6, z7, z8, z9, z10, z11, z12, z13, z14, some (.int u), some (.int v), some (.int w), z18, z19, z20, z21, z22, z23, z24] B := by
  dsimp only [S16_law, dIfS, dOr, dAnd, dNot, dTest, dOp, dUn, dCB, dCons, dNil, dVar, dC, dSeq, dAsg, hName, dRet, dRetF, dRetN, dRaise, dNext, dDrop, dAppend, dCall, gI, gIC, gU, gMM, dChain, dAndV, dOrV, dNotV, dTup, dLst, dLstB, dNewK, dNewT, dPar, dAug, hTup, hCons, hEnd, hSub, dISeq, dIEn, dIR1, dIR2, dFor, dLc, dLcB, hPair, dYes, dBreak, dCont, dIf, dQuant, getS, setS, startD, DL.gSub, gDiv, gMod, gPow, gShl, gXor, gAddI, gLt, gLe, gGt, gGe, gNegU, gMax2, gMin2, gAbs, gIntC, gEq, gIsN, gAdd, gMul, dSl, dNoPart, dPart, wipeD, List.set, rNot, rChain, rOp, rVar, rC, rAnd, hLt, hLe, hGt, hGe, hEq, DL.rI]
  refine prod_at hu hv (prod_at hv hu ?_)
  dsimp only [dIfS, dOr, dAnd, dNot, dTest, dOp, dUn, dCB, dCons, dNil, dVar, dC, dSeq, dAsg, hName, dRet, dRetF, dRetN, dRaise, dNext, dDrop, dAppend, dCall, gI, gIC, gU, gMM, dChain, dAndV, dOrV, dNotV, dTup, dLst, dLstB, dNewK, dNewT, dPar, dAug, hTup, hCons, hEnd, hSub, dISeq, dIEn, dIR1, dIR2, dFor, dLc, dLcB, hPair, dYes, dBreak, dCont, dIf, dQuant, getS, setS, startD, DL.gSub, gDiv, gMod, gPow, gShl, gXor, gAddI, gLt, gLe, gGt, gGe, gNegU, gMax2, gMin2, gAbs, gIntC, gEq, gIsN, gAdd, gMul, dSl, dNoPart, dPart, wipeD, List.set, rNot, rChain, rOp, rVar, rC, rAnd, hLt, hLe, hGt, hGe, hEq, DL.rI]
  rw [np_comm hv hu, decide_eq_true rfl, if_neg (by decide)]
  refine prod_at hv hw (prod_at hu (np_lt hv hw) (prod_at hu hv (prod_at (np_lt hu hv) hw ?_)))
  dsimp only [dIfS, dOr, dAnd, dNot, dTest, dOp, dUn, dCB, dCons, dNil, dVar, dC, dSeq, dAsg, hName, dRet, dRetF, dRetN, dRaise, dNext, dDrop, dAppend, dCall, gI, gIC, gU, gMM, dChain, dAndV, dOrV, dNotV, dTup, dLst, dLstB, dNewK, dNewT, dPar, dAug, hTup, hCons, hEnd, hSub, dISeq, dIEn, dIR1, dIR2, dFor, dLc, dLcB, hPair, dYes, dBreak, dCont, dIf, dQuant, getS, setS, startD, DL.gSub, gDiv, gMod, gPow, gShl, gXor, gAddI, gLt, gLe, gGt, gGe, gNegU, gMax2, gMin2, gAbs, gIntC, gEq, gIsN, gAdd, gMul, dSl, dNoPart, dPart, wipeD, List.set, rNot, rChain, rOp, rVar, rC, rAnd, hLt, hLe, hGt, hGe, hEq, DL.rI]
  rw [np_assoc hu hv hw, decide_eq_true rfl, if_neg (by decide), bxN]
  refine prod_at hu (xlt hv hw) (prod_at hu hv (prod_at hu hw ?_))
  dsimp only [dIfS, dOr, dAnd, dNot, dTest, dOp, dUn, dCB, dCons, dNil, dVar, dC, dSeq, dAsg, hName, dRet, dRetF, dRetN, dRaise, dNext, dDrop, dAppend, dCall, gI, gIC, gU, gMM, dChain, dAndV, dOrV, dNotV, dTup, dLst, dLstB, dNewK, dNewT, dPar, dAug, hTup, hCons, hEnd, hSub, dISeq, dIEn, dIR1, dIR2, dFor, dLc, dLcB, hPair, dYes, dBreak, dCont, dIf, dQuant, getS, setS, startD, DL.gSub, gDiv, gMod, gPow, gShl, gXor, gAddI, gLt, gLe, gGt, gGe, gNegU, gMax2, gMin2, gAbs, gIntC, gEq, gIsN, gAdd, gMul, dSl, dNoPart, dPart, wipeD, List.set, rNot, rChain, rOp, rVar, rC, rAnd, hLt, hLe, hGt, hGe, hEq, DL.rI]
  rw [bxN, np_dist hu hv hw, decide_eq_true rfl, if_neg (by decide)]
  exact h
theorem s17 {u v w : Nat} (hu : u < 256) (C : Addr) (h : E.nx [z0, some (.ref a), z2, z3, z4, z5, z6, z7, z8, z9, z10, z11, z12, z13, z14, some (.int u), some (.int v), some (.int w), z18, z19, z20, z21, z22, z23, z24] B) :
    S17_law (sp_prod C 4) (sp_inv C) E [z0, some (.ref a), z2, z3, z4, z5, z6, z7, z8, z9, z10, z11, z12, z13, z14, some (.int u), some (.int v), some (.int w), z18, z19, z20, z21, z22, z23, z24] B := by
  dsimp only [S17_law, dIfS, dOr, dAnd, dNot, dTest, dOp, dUn, dCB, dCons, dNil, dVar, dC, dSeq, dAsg, hName, dRet, dRetF, dRetN, dRaise, dNext, dDrop, dAppend, dCall, gI, gIC, gU, gMM, dChain, dAndV, dOrV, dNotV, dTup, dLst, dLstB, dNewK, dNewT, dPar, dAug, hTup, hCons, hEnd, hSub, dISeq, dIEn, dIR1, dIR2, dFor, dLc, dLcB, hPair, dYes, dBreak, dCont, dIf, dQuant, getS, setS, startD, DL.gSub, gDiv, gMod, gPow, gShl, gXor, gAddI, gLt, gLe, gGt, gGe, gNegU, gMax2, gMin2, gAbs, gIntC, gEq, gIsN, gAdd, gMul, dSl, dNoPart, dPart, wipeD, List.set, rNot, rChain, rOp, rVar, rC, rAnd, hLt, hLe, hGt, hGe, hEq, DL.rI]
  refine ite_dec (fun hp => ?_) (fun _ => ?_)
  · refine .inl ⟨u, rfl, by omega, by omega, fun o h1 h2 h3 => ?_⟩
    refine prod_at hu h2 ?_
    dsimp only [dIfS, dOr, dAnd, dNot, dTest, dOp, dUn, dCB, dCons, dNil, dVar, dC, dSeq, dAsg, hName, dRet, dRetF, dRetN, dRaise, dNext, dDrop, dAppend, dCall, gI, gIC, gU, gMM, dChain, dAndV, dOrV, dNotV, dTup, dLst, dLstB, dNewK, dNewT, dPar, dAug, hTup, hCons, hEnd, hSub, dISeq, dIEn, dIR1, dIR2, dFor, dLc, dLcB, hPair, dYes, dBreak, dCont, dIf, dQuant, getS, setS, startD, DL.gSub, gDiv, gMod, gPow, gShl, gXor, gAddI, gLt, gLe, gGt, gGe, gNegU, gMax2, gMin2, gAbs, gIntC, gEq, gIsN, gAdd, gMul, dSl, dNoPart, dPart, wipeD, List.set, rNot, rChain, rOp, rVar, rC, rAnd, hLt, hLe, hGt, hGe, hEq, DL.rI]
    rw [h3]
    rw [decide_eq_true (show ((1 : Nat) : Int) = 1 from rfl), if_neg (by decide)]
    refine .inl ⟨u, rfl, by omega, by omega, fun o2 k1 k2 k3 => ?_⟩
    dsimp only [dIfS, dOr, dAnd, dNot, dTest, dOp, dUn, dCB, dCons, dNil, dVar, dC, dSeq, dAsg, hName, dRet, dRetF, dRetN, dRaise, dNext, dDrop, dAppend, dCall, gI, gIC, gU, gMM, dChain, dAndV, dOrV, dNotV, dTup, dLst, dLstB, dNewK, dNewT, dPar, dAug, hTup, hCons, hEnd, hSub, dISeq, dIEn, dIR1, dIR2, dFor, dLc, dLcB, hPair, dYes, dBreak, dCont, dIf, dQuant, getS, setS, startD, DL.gSub, gDiv, gMod, gPow, gShl, gXor, gAddI, gLt, gLe, gGt, gGe, gNegU, gMax2, gMin2, gAbs, gIntC, gEq, gIsN, gAdd, gMul, dSl, dNoPart, dPart, wipeD, List.set, rNot, rChain, rOp, rVar, rC, rAnd, hLt, hLe, hGt, hGe, hEq, DL.rI]
    refine ite_dec (fun _ => ?_) (fun h => absurd (by omega) h)
    exact ite_ndec (fun h => absurd (by omega) h) (fun _ => h)
  · exact h
theorem s18 (hB : LawB a Pt nm B) (h : ∀ (u v : Nat) B', u < 14 → v < 14 → LawB a Pt nm B' → E.nx [z0, some (.ref a), z2, z3, z4, z5, z6, z7, z8, z9, z10, z11, z12, some (.int u), some (.int v), z15, z16, z17, z18, z19, z20, z21, z22, z23, z24] B') : S18_law sp_lroll E [z0, some (.ref a), z2, z3, z4, z5, z6, z7, z8, z9, z10, z11, z12, z13, z14, z15, z16, z17, z18, z19, z20, z21, z22, z23, z24] B := by
  obtain ⟨i, j, k, e⟩ := hB.dice
  dsimp only [S18_law, dIfS, dOr, dAnd, dNot, dTest, dOp, dUn, dCB, dCons, dNil, dVar, dC, dSeq, dAsg, hName, dRet, dRetF, dRetN, dRaise, dNext, dDrop, dAppend, dCall, gI, gIC, gU, gMM, dChain, dAndV, dOrV, dNotV, dTup, dLst, dLstB, dNewK, dNewT, dPar, dAug, hTup, hCons, hEnd, hSub, dISeq, dIEn, dIR1, dIR2, dFor, dLc, dLcB, hPair, dYes, dBreak, dCont, dIf, dQuant, getS, setS, startD, DL.gSub, gDiv, gMod, gPow, gShl, gXor, gAddI, gLt, gLe, gGt, gGe, gNegU, gMax2, gMin2, gAbs, gIntC, gEq, gIsN, gAdd, gMul, dSl, dNoPart, dPart, wipeD, List.set, rNot, rChain, rOp, rVar, rC, rAnd, hLt, hLe, hGt, hGe, hEq, DL.rI]
  refine ⟨a, 14, i, j, k, rfl, e, by decide, by decide, fun r i j k h0 h1 => ⟨a, 14, i, j, k, rfl, put_same, by decide, by decide, fun r2 i2 j2 k2 h2 h3 => ?_⟩⟩
  dsimp only [dIfS, dOr, dAnd, dNot, dTest, dOp, dUn, dCB, dCons, dNil, dVar, dC, dSeq, dAsg, hName, dRet, dRetF, dRetN, dRaise, dNext, dDrop, dAppend, dCall, gI, gIC, gU, gMM, dChain, dAndV, dOrV, dNotV, dTup, dLst, dLstB, dNewK, dNewT, dPar, dAug, hTup, hCons, hEnd, hSub, dISeq, dIEn, dIR1, dIR2, dFor, dLc, dLcB, hPair, dYes, dBreak, dCont, dIf, dQuant, getS, setS, startD, DL.gSub, gDiv, gMod, gPow, gShl, gXor, gAddI, gLt, gLe, gGt, gGe, gNegU, gMax2, gMin2, gAbs, gIntC, gEq, gIsN, gAdd, gMul, dSl, dNoPart, dPart, wipeD, List.set, rNot, rChain, rOp, rVar, rC, rAnd, hLt, hLe, hGt, hGe, hEq, DL.rI]
  rw [put_put]
  have := h r.toNat r2.toNat (put B a (diceD i2 j2 k2)) (by omega) (by omega) (hB.roll _ _ _)
  rw [Int.toNat_of_nonneg h0, Int.toNat_of_nonneg h2] at this
  exact this
theorem s19 {u v : Nat} (hB : LawB a Pt nm B) (hu : u < 14) (hv : v < 14) (C : Addr) (h : ∀ B', LawB a Pt nm B' → E.nx [z0, some (.ref a), z2, z3, z4, z5, z6, z7, z8, z9, z10, z11, z12, some (.int u), some (.int v), z15, z16, z17, z18, z19, z20, z21, z22, z23, z24] B') :
    S19_law (sp_iscold C) (sp_lcold 28) E [z0, some (.ref a), z2, z3, z4, z5, z6, z7, z8, z9, z10, z11, z12, some (.int u), some (.int v), z15, z16, z17, z18, z19, z20, z21, z22, z23, z24] B := by
  dsimp only [S19_law, dIfS, dOr, dAnd, dNot, dTest, dOp, dUn, dCB, dCons, dNil, dVar, dC, dSeq, dAsg, hName, dRet, dRetF, dRetN, dRaise, dNext, dDrop, dAppend, dCall, gI, gIC, gU, gMM, dChain, dAndV, dOrV, dNotV, dTup, dLst, dLstB, dNewK, dNewT, dPar, dAug, hTup, hCons, hEnd, hSub, dISeq, dIEn, dIR1, dIR2, dFor, dLc, dLcB, hPair, dYes, dBreak, dCont, dIf, dQuant, getS, setS, startD, DL.gSub, gDiv, gMod, gPow, gShl, gXor, gAddI, gLt, gLe, gGt, gGe, gNegU, gMax2, gMin2, gAbs, gIntC, gEq, gIsN, gAdd, gMul, dSl, dNoPart, dPart, wipeD, List.set, rNot, rChain, rOp, rVar, rC, rAnd, hLt, hLe, hGt, hGe, hEq, DL.rI]
  refine .inl ⟨u, v, rfl, by omega, by omega, by omega, ?_⟩
  intro p hp
  refine ⟨u, v, p, [], rfl, hu, hv, by omega, put_same, Mem.nil _, fun ks' hm => ?_⟩
  dsimp only [dIfS, dOr, dAnd, dNot, dTest, dOp, dUn, dCB, dCons, dNil, dVar, dC, dSeq, dAsg, hName, dRet, dRetF, dRetN, dRaise, dNext, dDrop, dAppend, dCall, gI, gIC, gU, gMM, dChain, dAndV, dOrV, dNotV, dTup, dLst, dLstB, dNewK, dNewT, dPar, dAug, hTup, hCons, hEnd, hSub, dISeq, dIEn, dIR1, dIR2, dFor, dLc, dLcB, hPair, dYes, dBreak, dCont, dIf, dQuant, getS, setS, startD, DL.gSub, gDiv, gMod, gPow, gShl, gXor, gAddI, gLt, gLe, gGt, gGe, gNegU, gMax2, gMin2, gAbs, gIntC, gEq, gIsN, gAdd, gMul, dSl, dNoPart, dPart, wipeD, List.set, rNot, rChain, rOp, rVar, rC, rAnd, hLt, hLe, hGt, hGe, hEq, DL.rI]
  rw [coldC_eq hu hv, decide_eq_true rfl, if_neg (by decide), put_put]
  exact h _ (hB.new hp)
theorem s20 (hB : LawB a Pt nm B) (h : ∀ (n : Nat) B', n < 40 → LawB a Pt nm B' → E.nx [z0, some (.ref a), z2, z3, z4, z5, z6, z7, z8, z9, z10, z11, z12, z13, z14, z15, z16, z17, some (.int n), some (.lst []), some .non, z21, z22, z23, z24] B') : S20_law sp_lroll E [z0, some (.ref a), z2, z3, z4, z5, z6, z7, z8, z9, z10, z11, z12, z13, z14, z15, z16, z17, z18, z19, z20, z21, z22, z23, z24] B := by
  obtain ⟨i, j, k, e⟩ := hB.dice
  dsimp only [S20_law, dIfS, dOr, dAnd, dNot, dTest, dOp, dUn, dCB, dCons, dNil, dVar, dC, dSeq, dAsg, hName, dRet, dRetF, dRetN, dRaise, dNext, dDrop, dAppend, dCall, gI, gIC, gU, gMM, dChain, dAndV, dOrV, dNotV, dTup, dLst, dLstB, dNewK, dNewT, dPar, dAug, hTup, hCons, hEnd, hSub, dISeq, dIEn, dIR1, dIR2, dFor, dLc, dLcB, hPair, dYes, dBreak, dCont, dIf, dQuant, getS, setS, startD, DL.gSub, gDiv, gMod, gPow, gShl, gXor, gAddI, gLt, gLe, gGt, gGe, gNegU, gMax2, gMin2, gAbs, gIntC, gEq, gIsN, gAdd, gMul, dSl, dNoPart, dPart, wipeD, List.set, rNot, rChain, rOp, rVar, rC, rAnd, hLt, hLe, hGt, hGe, hEq, DL.rI]
  refine ⟨a, 40, i, j, k, rfl, e, by decide, by decide, fun r i j k h0 h1 => ⟨trivial, trivial, ?_⟩⟩
  have := h r.toNat (put B a (diceD i j k)) (by omega) (hB.roll _ _ _)
  rw [Int.toNat_of_nonneg h0] at this
  exact this
theorem s23 {n : Nat} (hn : n < 40) (h : ∀ z8 z19 z21 z23, E.nx [z0, some (.ref a), z2, z3, z4, z5, z6, z7, z8, z9, z10, z11, z12, z13, z14, z15, z16, z17, some (.int n), z19, some (.tup [.int (coldP n).1, .int (coldP n).2]), z21, z22, z23, z24] B) : S23_law E [z0, some (.ref a), z2, z3, z4, z5, z6, z7, z8, z9, z10, z11, z12, z13, z14, z15, z16, z17, some (.int n), some (.lst []), some .non, z21, z22, z23, z24] B := by
  dsimp only [S23_law, dIfS, dOr, dAnd, dNot, dTest, dOp, dUn, dCB, dCons, dNil, dVar, dC, dSeq, dAsg, hName, dRet, dRetF, dRetN, dRaise, dNext, dDrop, dAppend, dCall, gI, gIC, gU, gMM, dChain, dAndV, dOrV, dNotV, dTup, dLst, dLstB, dNewK, dNewT, dPar, dAug, hTup, hCons, hEnd, hSub, dISeq, dIEn, dIR1, dIR2, dFor, dLc, dLcB, hPair, dYes, dBreak, dCont, dIf, dQuant, getS, setS, startD, DL.gSub, gDiv, gMod, gPow, gShl, gXor, gAddI, gLt, gLe, gGt, gGe, gNegU, gMax2, gMin2, gAbs, gIntC, gEq, gIsN, gAdd, gMul, dSl, dNoPart, dPart, wipeD, List.set, rNot, rChain, rOp, rVar, rC, rAnd, hLt, hLe, hGt, hGe, hEq, DL.rI]
  refine ⟨by omega, ?_⟩
  refine for_by (fun r Γ B' => B' = B ∧ ∃ (s m : Nat) (z8 z20 z21 z23 : Option D), r = upto s m ∧ Γ = [z0, some (.ref a), z2, z3, z4, z5, z6, z7, z8, z9, z10, z11, z12, z13, z14, z15, z16, z17, some (.int n), some (.lst (iL (lawS s).1)), z20, z21, z22, z23, z24] ∧ s + m = n + 1 ∧ (0 < s → z20 = some (.tup [.int (lawS s).2.1, .int (lawS s).2.2])))
    ⟨rfl, 0, n + 1, z8, some .non, z21, z23, by show upto 0 _ = upto 0 _; congr 1, rfl, by omega, by omega⟩ (fun r Γ B' h f e => by cases e) (fun Γ B' h2 => ?_) (fun e r Γ B' K h2 hk => ?_)
  · obtain ⟨rfl, s, m, z8, z20, z21, z23, h3, rfl, h4, h5⟩ := h2
    cases m with
    | succ m => cases h3
    | zero =>
      have hs : s = n + 1 := by omega
      subst hs
      rw [h5 (by omega), (lawS_cold n hn).1]
      exact h _ _ _ _
  · obtain ⟨rfl, s, m, z8, z20, z21, z23, h3, rfl, h4, h5⟩ := h2
    cases m with
    | zero => cases h3
    | succ m =>
      cases h3
      dsimp only [B3_law, S21_law, S22_law, dIfS, dOr, dAnd, dNot, dTest, dOp, dUn, dCB, dCons, dNil, dVar, dC, dSeq, dAsg, hName, dRet, dRetF, dRetN, dRaise, dNext, dDrop, dAppend, dCall, gI, gIC, gU, gMM, dChain, dAndV, dOrV, dNotV, dTup, dLst, dLstB, dNewK, dNewT, dPar, dAug, hTup, hCons, hEnd, hSub, dISeq, dIEn, dIR1, dIR2, dFor, dLc, dLcB, hPair, dYes, dBreak, dCont, dIf, dQuant, getS, setS, startD, DL.gSub, gDiv, gMod, gPow, gShl, gXor, gAddI, gLt, gLe, gGt, gGe, gNegU, gMax2, gMin2, gAbs, gIntC, gEq, gIsN, gAdd, gMul, dSl, dNoPart, dPart, wipeD, List.set, rNot, rChain, rOp, rVar, rC, rAnd, hLt, hLe, hGt, hGe, hEq, DL.rI]
      have hlen : (iL (lawS s).1).length = (lawS s).1.length := by unfold iL; rw [List.length_map]
      have h2s := lawS_len s
      refine gLen_seq (xs := iL (lawS s).1) rfl ?_
      dsimp only [dIfS, dOr, dAnd, dNot, dTest, dOp, dUn, dCB, dCons, dNil, dVar, dC, dSeq, dAsg, hName, dRet, dRetF, dRetN, dRaise, dNext, dDrop, dAppend, dCall, gI, gIC, gU, gMM, dChain, dAndV, dOrV, dNotV, dTup, dLst, dLstB, dNewK, dNewT, dPar, dAug, hTup, hCons, hEnd, hSub, dISeq, dIEn, dIR1, dIR2, dFor, dLc, dLcB, hPair, dYes, dBreak, dCont, dIf, dQuant, getS, setS, startD, DL.gSub, gDiv, gMod, gPow, gShl, gXor, gAddI, gLt, gLe, gGt, gGe, gNegU, gMax2, gMin2, gAbs, gIntC, gEq, gIsN, gAdd, gMul, dSl, dNoPart, dPart, wipeD, List.set, rNot, rChain, rOp, rVar, rC, rAnd, hLt, hLe, hGt, hGe, hEq, DL.rI]
      have hnn : (((iL (lawS s).1).length : Int) + 1).toNat = (lawS s).1.length + 1 := by rw [hlen]; omega
      rw [hnn, hlen]
      refine ⟨⟨by omega, by omega⟩, sizeOk_of (by rw [upto_length]; omega), ?_⟩
      refine lc_by (fun r acc B2 => B2 = B' ∧ ∃ (t : Int) (l : Nat) (ac : List Int), r = upto t l ∧ acc = iL ac ∧ ac ++ flt (lawS s).1 t l = flt (lawS s).1 0 ((lawS s).1.length + 1)) ⟨rfl, 0, _, [], rfl, rfl, rfl⟩ (fun r acc B' h f e => by cases e) (fun acc B2 h6 => ?_) (fun e r acc B2 K2 h6 hk2 => ?_)
      · obtain ⟨rfl, t, l, ac, h7, rfl, h8⟩ := h6
        cases l with
        | succ l => cases h7
        | zero =>
          rw [show flt (lawS s).1 t 0 = [] from rfl, List.append_nil] at h8
          have hne := lawS_ok s (by omega)
          have hS : lawS (s + 1) = ((lawS s).1 ++ [(flt (lawS s).1 0 ((lawS s).1.length + 1)).headD 0, (flt (lawS s).1 0 ((lawS s).1.length + 1)).headD 0 + (s : Int)], (flt (lawS s).1 0 ((lawS s).1.length + 1)).headD 0, (flt (lawS s).1 0 ((lawS s).1.length + 1)).headD 0 + (s : Int)) := rfl
          rw [← h8] at hne hS
          cases ac with
          | nil => cases hne
          | cons v ac =>
            refine ⟨0, .int v, rfl, L2.atI_nat (j := 0) rfl, ?_⟩
            dsimp only [dIfS, dOr, dAnd, dNot, dTest, dOp, dUn, dCB, dCons, dNil, dVar, dC, dSeq, dAsg, hName, dRet, dRetF, dRetN, dRaise, dNext, dDrop, dAppend, dCall, gI, gIC, gU, gMM, dChain, dAndV, dOrV, dNotV, dTup, dLst, dLstB, dNewK, dNewT, dPar, dAug, hTup, hCons, hEnd, hSub, dISeq, dIEn, dIR1, dIR2, dFor, dLc, dLcB, hPair, dYes, dBreak, dCont, dIf, dQuant, getS, setS, startD, DL.gSub, gDiv, gMod, gPow, gShl, gXor, gAddI, gLt, gLe, gGt, gGe, gNegU, gMax2, gMin2, gAbs, gIntC, gEq, gIsN, gAdd, gMul, dSl, dNoPart, dPart, wipeD, List.set, rNot, rChain, rOp, rVar, rC, rAnd, hLt, hLe, hGt, hGe, hEq, DL.rI]
            refine ⟨trivial, trivial, le_size (by simp <;> omega), trivial, ?_⟩
            refine hk _ _ ⟨rfl, s + 1, m, some (.int s), some (.tup [.int v, .int (v + (s : Int))]), some (.int v), z23, rfl, ?_, by omega, fun _ => by rw [hS]; rfl⟩
            rw [hS]
            unfold iL
            rw [List.map_append]
            rfl
      · obtain ⟨rfl, t, l, ac, h7, rfl, h8⟩ := h6
        cases l with
        | zero => cases h7
        | succ l =>
          cases h7
          dsimp only [dIfS, dOr, dAnd, dNot, dTest, dOp, dUn, dCB, dCons, dNil, dVar, dC, dSeq, dAsg, hName, dRet, dRetF, dRetN, dRaise, dNext, dDrop, dAppend, dCall, gI, gIC, gU, gMM, dChain, dAndV, dOrV, dNotV, dTup, dLst, dLstB, dNewK, dNewT, dPar, dAug, hTup, hCons, hEnd, hSub, dISeq, dIEn, dIR1, dIR2, dFor, dLc, dLcB, hPair, dYes, dBreak, dCont, dIf, dQuant, getS, setS, startD, DL.gSub, gDiv, gMod, gPow, gShl, gXor, gAddI, gLt, gLe, gGt, gGe, gNegU, gMax2, gMin2, gAbs, gIntC, gEq, gIsN, gAdd, gMul, dSl, dNoPart, dPart, wipeD, List.set, rNot, rChain, rOp, rVar, rC, rAnd, hLt, hLe, hGt, hGe, hEq, DL.rI]
          refine ⟨_, rfl, rfl, flat_ints _, ?_⟩
          have ei : inD (.int t) (iL (lawS s).1) = decide (t ∈ (lawS s).1) := inD_int _ _
          rw [ei, Bool.true_xor]
          refine ite_ndec (fun hni => hk2 _ _ ⟨rfl, t + 1, l, ac ++ [t], rfl, ?_, ?_⟩) (fun hin => hk2 _ _ ⟨rfl, t + 1, l, ac, rfl, rfl, ?_⟩)
          · unfold iL; rw [List.map_append]; rfl
          · rw [← h8, List.append_assoc]
            show _ = ac ++ (if _ then _ else _)
            rw [if_neg hni]
            rfl
          · rw [← h8]
            show _ = ac ++ (if _ then _ else _)
            rw [if_pos hin]
theorem s24 {n : Nat} (hn : n < 40) (C : Addr) (h : E.nx [z0, some (.ref a), z2, z3, z4, z5, z6, z7, z8, z9, z10, z11, z12, z13, z14, z15, z16, z17, some (.int n), z19, some (.tup [.int (coldP n).1, .int (coldP n).2]), z21, z22, z23, z24] B) :
    S24_law (sp_iscold C) (sp_cold C) E [z0, some (.ref a), z2, z3, z4, z5, z6, z7, z8, z9, z10, z11, z12, z13, z14, z15, z16, z17, some (.int n), z19, some (.tup [.int (coldP n).1, .int (coldP n).2]), z21, z22, z23, z24] B := by
  obtain ⟨_, c1, c2, c3, c4⟩ := lawS_cold n hn
  dsimp only [S24_law, dIfS, dOr, dAnd, dNot, dTest, dOp, dUn, dCB, dCons, dNil, dVar, dC, dSeq, dAsg, hName, dRet, dRetF, dRetN, dRaise, dNext, dDrop, dAppend, dCall, gI, gIC, gU, gMM, dChain, dAndV, dOrV, dNotV, dTup, dLst, dLstB, dNewK, dNewT, dPar, dAug, hTup, hCons, hEnd, hSub, dISeq, dIEn, dIR1, dIR2, dFor, dLc, dLcB, hPair, dYes, dBreak, dCont, dIf, dQuant, getS, setS, startD, DL.gSub, gDiv, gMod, gPow, gShl, gXor, gAddI, gLt, gLe, gGt, gGe, gNegU, gMax2, gMin2, gAbs, gIntC, gEq, gIsN, gAdd, gMul, dSl, dNoPart, dPart, wipeD, List.set, rNot, rChain, rOp, rVar, rC, rAnd, hLt, hLe, hGt, hGe, hEq, DL.rI]
  refine .inl ⟨n, rfl, by omega, ⟨true, eq_self (n := 2) rfl, ?_⟩⟩
  rw [if_neg (by decide)]
  refine ⟨1, _, rfl, rfl, 0, _, rfl, rfl, ?_⟩
  refine .inl ⟨(coldP n).2.toNat, (coldP n).1.toNat, by rw [Int.toNat_of_nonneg c1, Int.toNat_of_nonneg (by omega)], by omega, by omega, by omega, ?_⟩
  dsimp only [dIfS, dOr, dAnd, dNot, dTest, dOp, dUn, dCB, dCons, dNil, dVar, dC, dSeq, dAsg, hName, dRet, dRetF, dRetN, dRaise, dNext, dDrop, dAppend, dCall, gI, gIC, gU, gMM, dChain, dAndV, dOrV, dNotV, dTup, dLst, dLstB, dNewK, dNewT, dPar, dAug, hTup, hCons, hEnd, hSub, dISeq, dIEn, dIR1, dIR2, dFor, dLc, dLcB, hPair, dYes, dBreak, dCont, dIf, dQuant, getS, setS, startD, DL.gSub, gDiv, gMod, gPow, gShl, gXor, gAddI, gLt, gLe, gGt, gGe, gNegU, gMax2, gMin2, gAbs, gIntC, gEq, gIsN, gAdd, gMul, dSl, dNoPart, dPart, wipeD, List.set, rNot, rChain, rOp, rVar, rC, rAnd, hLt, hLe, hGt, hGe, hEq, DL.rI]
  rw [c4, if_neg (by decide)]
  exact h
end
end K01
set_option Elab.async false
set_option linter.all false
set_option pp.maxSteps 900
set_option maxRecDepth 100000
set_option maxHeartbeats 4000000
--NS 25
namespace K01
open PySem PySem.Spec PyProof.Rows L2 DL PL
/-! ### what is refused -/
theorem if_yes {b : Bool} {p q : Prop} (hb : b = true) (h : p) : if b = true then p else q := by rw [if_pos hb]; exact h
/-- it lets the error C out -/
abbrev slX (C : Addr) : Bx → DK → XD → Prop := fun B _ x => x C B
section
variable {C : Addr} {B : Bx} {q : DK} {x : XD}
theorem lst1 (ns : List Int) : Hs B (.lst (iL ns)) ns := rfl
theorem rl1 (h : slX C B q x) : tl1_law (sp_stair C) [] B q x := by
  dsimp only [tl1_law, dIfS, dOr, dAnd, dNot, dTest, dOp, dUn, dCB, dCons, dNil, dVar, dC, dSeq, dAsg, hName, dRet, dRetF, dRetN, dRaise, dNext, dDrop, dAppend, dCall, gI, gIC, gU, gMM, dChain, dAndV, dOrV, dNotV, dTup, dLst, dLstB, dNewK, dNewT, dPar, dAug, hTup, hCons, hEnd, hSub, dISeq, dIEn, dIR1, dIR2, dFor, dLc, dLcB, hPair, dYes, dBreak, dCont, dIf, dQuant, getS, setS, startD, DL.gSub, gDiv, gMod, gPow, gShl, gXor, gAddI, gLt, gLe, gGt, gGe, gNegU, gMax2, gMin2, gAbs, gIntC, gEq, gIsN, gAdd, gMul, dSl, dNoPart, dPart, wipeD, List.set, rNot, rChain, rOp, rVar, rC, rAnd, hLt, hLe, hGt, hGe, hEq, DL.rI]
  exact ⟨trivial, ⟨by decide, by decide, le_size (by decide)⟩, .lst (iL [0, 0, 0, 0, 0, 0, 0, 0, 0, 0, 0, 0, 0]), [0, 0, 0, 0, 0, 0, 0, 0, 0, 0, 0, 0, 0], rfl, lst1 _, fun e => absurd e (by decide), fun _ => h⟩
theorem rl2 (h : slX C B q x) : tl2_law (sp_stair C) [] B q x := by
  dsimp only [tl2_law, dIfS, dOr, dAnd, dNot, dTest, dOp, dUn, dCB, dCons, dNil, dVar, dC, dSeq, dAsg, hName, dRet, dRetF, dRetN, dRaise, dNext, dDrop, dAppend, dCall, gI, gIC, gU, gMM, dChain, dAndV, dOrV, dNotV, dTup, dLst, dLstB, dNewK, dNewT, dPar, dAug, hTup, hCons, hEnd, hSub, dISeq, dIEn, dIR1, dIR2, dFor, dLc, dLcB, hPair, dYes, dBreak, dCont, dIf, dQuant, getS, setS, startD, DL.gSub, gDiv, gMod, gPow, gShl, gXor, gAddI, gLt, gLe, gGt, gGe, gNegU, gMax2, gMin2, gAbs, gIntC, gEq, gIsN, gAdd, gMul, dSl, dNoPart, dPart, wipeD, List.set, rNot, rChain, rOp, rVar, rC, rAnd, hLt, hLe, hGt, hGe, hEq, DL.rI]
  exact ⟨trivial, .lst (iL [1, 5000]), [1, 5000], rfl, lst1 _, fun e => absurd e (by decide), fun _ => h⟩
theorem rl3 (h : slX C B q x) : tl3_law (sp_stair C) [] B q x := by
  dsimp only [tl3_law, dIfS, dOr, dAnd, dNot, dTest, dOp, dUn, dCB, dCons, dNil, dVar, dC, dSeq, dAsg, hName, dRet, dRetF, dRetN, dRaise, dNext, dDrop, dAppend, dCall, gI, gIC, gU, gMM, dChain, dAndV, dOrV, dNotV, dTup, dLst, dLstB, dNewK, dNewT, dPar, dAug, hTup, hCons, hEnd, hSub, dISeq, dIEn, dIR1, dIR2, dFor, dLc, dLcB, hPair, dYes, dBreak, dCont, dIf, dQuant, getS, setS, startD, DL.gSub, gDiv, gMod, gPow, gShl, gXor, gAddI, gLt, gLe, gGt, gGe, gNegU, gMax2, gMin2, gAbs, gIntC, gEq, gIsN, gAdd, gMul, dSl, dNoPart, dPart, wipeD, List.set, rNot, rChain, rOp, rVar, rC, rAnd, hLt, hLe, hGt, hGe, hEq, DL.rI]
  exact ⟨trivial, .lst (iL [-1]), [-1], rfl, lst1 _, fun e => absurd e (by decide), fun _ => h⟩
theorem rl4 (h : slX C B q x) : tl4_law (sp_iscold C) [] B q x := by
  dsimp only [tl4_law, dIfS, dOr, dAnd, dNot, dTest, dOp, dUn, dCB, dCons, dNil, dVar, dC, dSeq, dAsg, hName, dRet, dRetF, dRetN, dRaise, dNext, dDrop, dAppend, dCall, gI, gIC, gU, gMM, dChain, dAndV, dOrV, dNotV, dTup, dLst, dLstB, dNewK, dNewT, dPar, dAug, hTup, hCons, hEnd, hSub, dISeq, dIEn, dIR1, dIR2, dFor, dLc, dLcB, hPair, dYes, dBreak, dCont, dIf, dQuant, getS, setS, startD, DL.gSub, gDiv, gMod, gPow, gShl, gXor, gAddI, gLt, gLe, gGt, gGe, gNegU, gMax2, gMin2, gAbs, gIntC, gEq, gIsN, gAdd, gMul, dSl, dNoPart, dPart, wipeD, List.set, rNot, rChain, rOp, rVar, rC, rAnd, hLt, hLe, hGt, hGe, hEq, DL.rI]
  exact .inr ⟨0, -1, rfl, by unfold inC; decide, h⟩
theorem rl5 (h : slX C B q x) : tl5_law (sp_iscold C) [] B q x := by
  dsimp only [tl5_law, dIfS, dOr, dAnd, dNot, dTest, dOp, dUn, dCB, dCons, dNil, dVar, dC, dSeq, dAsg, hName, dRet, dRetF, dRetN, dRaise, dNext, dDrop, dAppend, dCall, gI, gIC, gU, gMM, dChain, dAndV, dOrV, dNotV, dTup, dLst, dLstB, dNewK, dNewT, dPar, dAug, hTup, hCons, hEnd, hSub, dISeq, dIEn, dIR1, dIR2, dFor, dLc, dLcB, hPair, dYes, dBreak, dCont, dIf, dQuant, getS, setS, startD, DL.gSub, gDiv, gMod, gPow, gShl, gXor, gAddI, gLt, gLe, gGt, gGe, gNegU, gMax2, gMin2, gAbs, gIntC, gEq, gIsN, gAdd, gMul, dSl, dNoPart, dPart, wipeD, List.set, rNot, rChain, rOp, rVar, rC, rAnd, hLt, hLe, hGt, hGe, hEq, DL.rI]
  exact .inr ⟨481, 0, rfl, by unfold inC; decide, h⟩
theorem rl6 (h : slX C B q x) : tl6_law (sp_cold C) [] B q x := by
  dsimp only [tl6_law, dIfS, dOr, dAnd, dNot, dTest, dOp, dUn, dCB, dCons, dNil, dVar, dC, dSeq, dAsg, hName, dRet, dRetF, dRetN, dRaise, dNext, dDrop, dAppend, dCall, gI, gIC, gU, gMM, dChain, dAndV, dOrV, dNotV, dTup, dLst, dLstB, dNewK, dNewT, dPar, dAug, hTup, hCons, hEnd, hSub, dISeq, dIEn, dIR1, dIR2, dFor, dLc, dLcB, hPair, dYes, dBreak, dCont, dIf, dQuant, getS, setS, startD, DL.gSub, gDiv, gMod, gPow, gShl, gXor, gAddI, gLt, gLe, gGt, gGe, gNegU, gMax2, gMin2, gAbs, gIntC, gEq, gIsN, gAdd, gMul, dSl, dNoPart, dPart, wipeD, List.set, rNot, rChain, rOp, rVar, rC, rAnd, hLt, hLe, hGt, hGe, hEq, DL.rI]
  exact .inr ⟨301, rfl, by decide, h⟩
theorem rl7 (h : slX C B q x) : tl7_law (sp_cold C) [] B q x := by
  dsimp only [tl7_law, dIfS, dOr, dAnd, dNot, dTest, dOp, dUn, dCB, dCons, dNil, dVar, dC, dSeq, dAsg, hName, dRet, dRetF, dRetN, dRaise, dNext, dDrop, dAppend, dCall, gI, gIC, gU, gMM, dChain, dAndV, dOrV, dNotV, dTup, dLst, dLstB, dNewK, dNewT, dPar, dAug, hTup, hCons, hEnd, hSub, dISeq, dIEn, dIR1, dIR2, dFor, dLc, dLcB, hPair, dYes, dBreak, dCont, dIf, dQuant, getS, setS, startD, DL.gSub, gDiv, gMod, gPow, gShl, gXor, gAddI, gLt, gLe, gGt, gGe, gNegU, gMax2, gMin2, gAbs, gIntC, gEq, gIsN, gAdd, gMul, dSl, dNoPart, dPart, wipeD, List.set, rNot, rChain, rOp, rVar, rC, rAnd, hLt, hLe, hGt, hGe, hEq, DL.rI]
  exact .inr ⟨-1, rfl, by decide, h⟩
theorem rl8 (h : slX C B q x) : tl8_law (sp_inv C) [] B q x := by
  dsimp only [tl8_law, dIfS, dOr, dAnd, dNot, dTest, dOp, dUn, dCB, dCons, dNil, dVar, dC, dSeq, dAsg, hName, dRet, dRetF, dRetN, dRaise, dNext, dDrop, dAppend, dCall, gI, gIC, gU, gMM, dChain, dAndV, dOrV, dNotV, dTup, dLst, dLstB, dNewK, dNewT, dPar, dAug, hTup, hCons, hEnd, hSub, dISeq, dIEn, dIR1, dIR2, dFor, dLc, dLcB, hPair, dYes, dBreak, dCont, dIf, dQuant, getS, setS, startD, DL.gSub, gDiv, gMod, gPow, gShl, gXor, gAddI, gLt, gLe, gGt, gGe, gNegU, gMax2, gMin2, gAbs, gIntC, gEq, gIsN, gAdd, gMul, dSl, dNoPart, dPart, wipeD, List.set, rNot, rChain, rOp, rVar, rC, rAnd, hLt, hLe, hGt, hGe, hEq, DL.rI]
  exact .inr ⟨256, rfl, by decide, h⟩
theorem rl9 (h : slX C B q x) : tl9_law (sp_inv C) [] B q x := by
  dsimp only [tl9_law, dIfS, dOr, dAnd, dNot, dTest, dOp, dUn, dCB, dCons, dNil, dVar, dC, dSeq, dAsg, hName, dRet, dRetF, dRetN, dRaise, dNext, dDrop, dAppend, dCall, gI, gIC, gU, gMM, dChain, dAndV, dOrV, dNotV, dTup, dLst, dLstB, dNewK, dNewT, dPar, dAug, hTup, hCons, hEnd, hSub, dISeq, dIEn, dIR1, dIR2, dFor, dLc, dLcB, hPair, dYes, dBreak, dCont, dIf, dQuant, getS, setS, startD, DL.gSub, gDiv, gMod, gPow, gShl, gXor, gAddI, gLt, gLe, gGt, gGe, gNegU, gMax2, gMin2, gAbs, gIntC, gEq, gIsN, gAdd, gMul, dSl, dNoPart, dPart, wipeD, List.set, rNot, rChain, rOp, rVar, rC, rAnd, hLt, hLe, hGt, hGe, hEq, DL.rI]
  exact .inr ⟨0, rfl, by decide, h⟩
theorem rl10 (h : slX C B q x) : tl10_law (sp_prod C 4) [] B q x := by
  dsimp only [tl10_law, dIfS, dOr, dAnd, dNot, dTest, dOp, dUn, dCB, dCons, dNil, dVar, dC, dSeq, dAsg, hName, dRet, dRetF, dRetN, dRaise, dNext, dDrop, dAppend, dCall, gI, gIC, gU, gMM, dChain, dAndV, dOrV, dNotV, dTup, dLst, dLstB, dNewK, dNewT, dPar, dAug, hTup, hCons, hEnd, hSub, dISeq, dIEn, dIR1, dIR2, dFor, dLc, dLcB, hPair, dYes, dBreak, dCont, dIf, dQuant, getS, setS, startD, DL.gSub, gDiv, gMod, gPow, gShl, gXor, gAddI, gLt, gLe, gGt, gGe, gNegU, gMax2, gMin2, gAbs, gIntC, gEq, gIsN, gAdd, gMul, dSl, dNoPart, dPart, wipeD, List.set, rNot, rChain, rOp, rVar, rC, rAnd, hLt, hLe, hGt, hGe, hEq, DL.rI]
  exact .inr ⟨by decide, 1, -1, rfl, by unfold inB; decide, h⟩
theorem rl11 (h : slX C B q x) : tl11_law (sp_prod C 4) [] B q x := by
  dsimp only [tl11_law, dIfS, dOr, dAnd, dNot, dTest, dOp, dUn, dCB, dCons, dNil, dVar, dC, dSeq, dAsg, hName, dRet, dRetF, dRetN, dRaise, dNext, dDrop, dAppend, dCall, gI, gIC, gU, gMM, dChain, dAndV, dOrV, dNotV, dTup, dLst, dLstB, dNewK, dNewT, dPar, dAug, hTup, hCons, hEnd, hSub, dISeq, dIEn, dIR1, dIR2, dFor, dLc, dLcB, hPair, dYes, dBreak, dCont, dIf, dQuant, getS, setS, startD, DL.gSub, gDiv, gMod, gPow, gShl, gXor, gAddI, gLt, gLe, gGt, gGe, gNegU, gMax2, gMin2, gAbs, gIntC, gEq, gIsN, gAdd, gMul, dSl, dNoPart, dPart, wipeD, List.set, rNot, rChain, rOp, rVar, rC, rAnd, hLt, hLe, hGt, hGe, hEq, DL.rI]
  exact .inr ⟨by decide, 256, 1, rfl, by unfold inB; decide, h⟩
theorem rl12 (h : slX C B q x) : tl12_law (sp_mis C) [] B q x := by
  dsimp only [tl12_law, dIfS, dOr, dAnd, dNot, dTest, dOp, dUn, dCB, dCons, dNil, dVar, dC, dSeq, dAsg, hName, dRet, dRetF, dRetN, dRaise, dNext, dDrop, dAppend, dCall, gI, gIC, gU, gMM, dChain, dAndV, dOrV, dNotV, dTup, dLst, dLstB, dNewK, dNewT, dPar, dAug, hTup, hCons, hEnd, hSub, dISeq, dIEn, dIR1, dIR2, dFor, dLc, dLcB, hPair, dYes, dBreak, dCont, dIf, dQuant, getS, setS, startD, DL.gSub, gDiv, gMod, gPow, gShl, gXor, gAddI, gLt, gLe, gGt, gGe, gNegU, gMax2, gMin2, gAbs, gIntC, gEq, gIsN, gAdd, gMul, dSl, dNoPart, dPart, wipeD, List.set, rNot, rChain, rOp, rVar, rC, rAnd, hLt, hLe, hGt, hGe, hEq, DL.rI]
  exact ⟨trivial, .lst (iL [-1]), [-1], rfl, lst1 _, fun ys e => (by cases e), fun e => absurd e (by decide), fun _ => h⟩
theorem rl13 (h : slX C B q x) : tl13_law (sp_wll C) [] B q x := by
  dsimp only [tl13_law, dIfS, dOr, dAnd, dNot, dTest, dOp, dUn, dCB, dCons, dNil, dVar, dC, dSeq, dAsg, hName, dRet, dRetF, dRetN, dRaise, dNext, dDrop, dAppend, dCall, gI, gIC, gU, gMM, dChain, dAndV, dOrV, dNotV, dTup, dLst, dLstB, dNewK, dNewT, dPar, dAug, hTup, hCons, hEnd, hSub, dISeq, dIEn, dIR1, dIR2, dFor, dLc, dLcB, hPair, dYes, dBreak, dCont, dIf, dQuant, getS, setS, startD, DL.gSub, gDiv, gMod, gPow, gShl, gXor, gAddI, gLt, gLe, gGt, gGe, gNegU, gMax2, gMin2, gAbs, gIntC, gEq, gIsN, gAdd, gMul, dSl, dNoPart, dPart, wipeD, List.set, rNot, rChain, rOp, rVar, rC, rAnd, hLt, hLe, hGt, hGe, hEq, DL.rI]
  exact ⟨trivial, .lst (iL [-1]), [-1], rfl, lst1 _, fun e => absurd e (by decide), fun _ => h⟩
theorem rl14 (h : slX C B q x) : tl14_law (sp_win C) [] B q x := by
  dsimp only [tl14_law, dIfS, dOr, dAnd, dNot, dTest, dOp, dUn, dCB, dCons, dNil, dVar, dC, dSeq, dAsg, hName, dRet, dRetF, dRetN, dRaise, dNext, dDrop, dAppend, dCall, gI, gIC, gU, gMM, dChain, dAndV, dOrV, dNotV, dTup, dLst, dLstB, dNewK, dNewT, dPar, dAug, hTup, hCons, hEnd, hSub, dISeq, dIEn, dIR1, dIR2, dFor, dLc, dLcB, hPair, dYes, dBreak, dCont, dIf, dQuant, getS, setS, startD, DL.gSub, gDiv, gMod, gPow, gShl, gXor, gAddI, gLt, gLe, gGt, gGe, gNegU, gMax2, gMin2, gAbs, gIntC, gEq, gIsN, gAdd, gMul, dSl, dNoPart, dPart, wipeD, List.set, rNot, rChain, rOp, rVar, rC, rAnd, hLt, hLe, hGt, hGe, hEq, DL.rI]
  exact ⟨trivial, .lst (iL [4096]), [4096], rfl, lst1 _, by decide, fun e => absurd e (by decide), fun _ => h⟩
theorem rl15 (h : slX C B q x) : tl15_law (sp_sum C) [] B q x := by
  dsimp only [tl15_law, dIfS, dOr, dAnd, dNot, dTest, dOp, dUn, dCB, dCons, dNil, dVar, dC, dSeq, dAsg, hName, dRet, dRetF, dRetN, dRaise, dNext, dDrop, dAppend, dCall, gI, gIC, gU, gMM, dChain, dAndV, dOrV, dNotV, dTup, dLst, dLstB, dNewK, dNewT, dPar, dAug, hTup, hCons, hEnd, hSub, dISeq, dIEn, dIR1, dIR2, dFor, dLc, dLcB, hPair, dYes, dBreak, dCont, dIf, dQuant, getS, setS, startD, DL.gSub, gDiv, gMod, gPow, gShl, gXor, gAddI, gLt, gLe, gGt, gGe, gNegU, gMax2, gMin2, gAbs, gIntC, gEq, gIsN, gAdd, gMul, dSl, dNoPart, dPart, wipeD, List.set, rNot, rChain, rOp, rVar, rC, rAnd, hLt, hLe, hGt, hGe, hEq, DL.rI]
  exact ⟨trivial, .lst (iL [-1]), [-1], rfl, lst1 _, fun e => absurd e (by decide), fun _ => h⟩
theorem rl16 (h : slX C B q x) : tl16_law (sp_check C) [] B q x := by
  dsimp only [tl16_law, dIfS, dOr, dAnd, dNot, dTest, dOp, dUn, dCB, dCons, dNil, dVar, dC, dSeq, dAsg, hName, dRet, dRetF, dRetN, dRaise, dNext, dDrop, dAppend, dCall, gI, gIC, gU, gMM, dChain, dAndV, dOrV, dNotV, dTup, dLst, dLstB, dNewK, dNewT, dPar, dAug, hTup, hCons, hEnd, hSub, dISeq, dIEn, dIR1, dIR2, dFor, dLc, dLcB, hPair, dYes, dBreak, dCont, dIf, dQuant, getS, setS, startD, DL.gSub, gDiv, gMod, gPow, gShl, gXor, gAddI, gLt, gLe, gGt, gGe, gNegU, gMax2, gMin2, gAbs, gIntC, gEq, gIsN, gAdd, gMul, dSl, dNoPart, dPart, wipeD, List.set, rNot, rChain, rOp, rVar, rC, rAnd, hLt, hLe, hGt, hGe, hEq, DL.rI]
  exact ⟨trivial, .lst (iL [-1]), [-1], rfl, lst1 _, fun e => absurd e (by decide), fun _ => h⟩
theorem rl17 (h : slX C B q x) : tl17_law (sp_check C) [] B q x := by
  dsimp only [tl17_law, dIfS, dOr, dAnd, dNot, dTest, dOp, dUn, dCB, dCons, dNil, dVar, dC, dSeq, dAsg, hName, dRet, dRetF, dRetN, dRaise, dNext, dDrop, dAppend, dCall, gI, gIC, gU, gMM, dChain, dAndV, dOrV, dNotV, dTup, dLst, dLstB, dNewK, dNewT, dPar, dAug, hTup, hCons, hEnd, hSub, dISeq, dIEn, dIR1, dIR2, dFor, dLc, dLcB, hPair, dYes, dBreak, dCont, dIf, dQuant, getS, setS, startD, DL.gSub, gDiv, gMod, gPow, gShl, gXor, gAddI, gLt, gLe, gGt, gGe, gNegU, gMax2, gMin2, gAbs, gIntC, gEq, gIsN, gAdd, gMul, dSl, dNoPart, dPart, wipeD, List.set, rNot, rChain, rOp, rVar, rC, rAnd, hLt, hLe, hGt, hGe, hEq, DL.rI]
  exact ⟨trivial, .lst (iL [4096]), [4096], rfl, lst1 _, fun e => absurd e (by decide), fun _ => h⟩
theorem rl18 (h : slX C B q x) : tl18_law (sp_check C) [] B q x := by
  dsimp only [tl18_law, dIfS, dOr, dAnd, dNot, dTest, dOp, dUn, dCB, dCons, dNil, dVar, dC, dSeq, dAsg, hName, dRet, dRetF, dRetN, dRaise, dNext, dDrop, dAppend, dCall, gI, gIC, gU, gMM, dChain, dAndV, dOrV, dNotV, dTup, dLst, dLstB, dNewK, dNewT, dPar, dAug, hTup, hCons, hEnd, hSub, dISeq, dIEn, dIR1, dIR2, dFor, dLc, dLcB, hPair, dYes, dBreak, dCont, dIf, dQuant, getS, setS, startD, DL.gSub, gDiv, gMod, gPow, gShl, gXor, gAddI, gLt, gLe, gGt, gGe, gNegU, gMax2, gMin2, gAbs, gIntC, gEq, gIsN, gAdd, gMul, dSl, dNoPart, dPart, wipeD, List.set, rNot, rChain, rOp, rVar, rC, rAnd, hLt, hLe, hGt, hGe, hEq, DL.rI]
  exact ⟨trivial, ⟨by decide, by decide, le_size (by decide)⟩, .lst (iL [1, 1, 1, 1, 1, 1, 1, 1, 1, 1, 1, 1, 1]), [1, 1, 1, 1, 1, 1, 1, 1, 1, 1, 1, 1, 1], rfl, lst1 _, fun e => absurd e (by decide), fun _ => h⟩
/-! ### _law_told -/
def sp_ltold (cal : CalP) (C : Addr) : SpD := fun ds B q x => ∃ φ, ds = [.obj φ] ∧ (∀ f F, φ f F → cal (slX C) f F) ∧ q (.str "HeapError") B
theorem rd_ltold {yes : Addr → Option Bool} {cal : CalP} (hy : yes C = some true) {ds : List D} (h : sp_ltold cal C ds B q x) : t_ltold yes cal (endsD q x) (startD N_ltold ds) B := by
  obtain ⟨φ, rfl, h1, h2⟩ := h
  dsimp only [t_ltold, dTry, dCallV, N_ltold, dIfS, dOr, dAnd, dNot, dTest, dOp, dUn, dCB, dCons, dNil, dVar, dC, dSeq, dAsg, hName, dRet, dRetF, dRetN, dRaise, dNext, dDrop, dAppend, dCall, gI, gIC, gU, gMM, dChain, dAndV, dOrV, dNotV, dTup, dLst, dLstB, dNewK, dNewT, dPar, dAug, hTup, hCons, hEnd, hSub, dISeq, dIEn, dIR1, dIR2, dFor, dLc, dLcB, hPair, dYes, dBreak, dCont, dIf, dQuant, getS, setS, startD, DL.gSub, gDiv, gMod, gPow, gShl, gXor, gAddI, gLt, gLe, gGt, gGe, gNegU, gMax2, gMin2, gAbs, gIntC, gEq, gIsN, gAdd, gMul, dSl, dNoPart, dPart, wipeD, List.set, rNot, rChain, rOp, rVar, rC, rAnd, hLt, hLe, hGt, hGe, hEq, DL.rI]
  exact ⟨φ, slX C, rfl, h1, true, hy, fun _ => here h2, fun e => by cases e⟩
end
section
variable {z0 z1 z2 z3 z4 z5 z6 z7 z8 z9 z10 z11 z12 z13 z14 z15 z16 z17 z18 z19 z20 z21 z22 z23 z24 : Option D}
variable {a Pt : Addr} {B : Bx} {E : DEnds} {nm : Str} {C : Addr} {cal : CalP}
theorem s26 {f1 f2 f3 f4 f5 f6 f7 f8 f9 f10 f11 f12 f13 f14 f15 f16 f17 f18 : Addr → Hp → Prop} (hB : B Pt = some (.tabQ nm)) (h : E.nx [z0, z1, z2, z3, z4, z5, z6, z7, z8, z9, z10, z11, z12, z13, z14, z15, z16, z17, z18, z19, z20, z21, some (.lst [.obj f18, .obj f17, .obj f16, .obj f15, .obj f14, .obj f13, .obj f12, .obj f11, .obj f10, .obj f9, .obj f8, .obj f7, .obj f6, .obj f5, .obj f4, .obj f3, .obj f2, .obj f1]), z23, z24] B) :
    S26_law Pt nm f1 f2 f3 f4 f5 f6 f7 f8 f9 f10 f11 f12 f13 f14 f15 f16 f17 f18 E [z0, z1, z2, z3, z4, z5, z6, z7, z8, z9, z10, z11, z12, z13, z14, z15, z16, z17, z18, z19, z20, z21, z22, z23, z24] B := by
  dsimp only [S26_law, dLam, dIfS, dOr, dAnd, dNot, dTest, dOp, dUn, dCB, dCons, dNil, dVar, dC, dSeq, dAsg, hName, dRet, dRetF, dRetN, dRaise, dNext, dDrop, dAppend, dCall, gI, gIC, gU, gMM, dChain, dAndV, dOrV, dNotV, dTup, dLst, dLstB, dNewK, dNewT, dPar, dAug, hTup, hCons, hEnd, hSub, dISeq, dIEn, dIR1, dIR2, dFor, dLc, dLcB, hPair, dYes, dBreak, dCont, dIf, dQuant, getS, setS, startD, DL.gSub, gDiv, gMod, gPow, gShl, gXor, gAddI, gLt, gLe, gGt, gGe, gNegU, gMax2, gMin2, gAbs, gIntC, gEq, gIsN, gAdd, gMul, dSl, dNoPart, dPart, wipeD, List.set, rNot, rChain, rOp, rVar, rC, rAnd, hLt, hLe, hGt, hGe, hEq, DL.rI]
  exact ⟨hB, hB, hB, hB, hB, hB, hB, hB, hB, hB, hB, hB, hB, hB, hB, hB, hB, hB, trivial, h⟩
/-- calling it lets the error C out -/
def Bad (cal : CalP) (C : Addr) (d : D) : Prop := ∃ φ, d = .obj φ ∧ ∀ f F, φ f F → cal (slX C) f F
theorem s27 {bad : List D} (hb : ∀ d ∈ bad, Bad cal C d) (hl : bad.length ≤ 1000) (h : ∀ B', Few B B' → E.rt (.bl true) B') :
    S27_law (sp_win C) (sp_wll C) (sp_prod C 4) (sp_iscold C) (sp_cold C) (sp_ltold cal C) E [z0, z1, z2, z3, z4, z5, z6, z7, z8, z9, z10, z11, z12, z13, z14, z15, z16, z17, z18, z19, z20, z21, some (.lst bad), z23, z24] B := by
  dsimp only [S27_law, dIfS, dOr, dAnd, dNot, dTest, dOp, dUn, dCB, dCons, dNil, dVar, dC, dSeq, dAsg, hName, dRet, dRetF, dRetN, dRaise, dNext, dDrop, dAppend, dCall, gI, gIC, gU, gMM, dChain, dAndV, dOrV, dNotV, dTup, dLst, dLstB, dNewK, dNewT, dPar, dAug, hTup, hCons, hEnd, hSub, dISeq, dIEn, dIR1, dIR2, dFor, dLc, dLcB, hPair, dYes, dBreak, dCont, dIf, dQuant, getS, setS, startD, DL.gSub, gDiv, gMod, gPow, gShl, gXor, gAddI, gLt, gLe, gGt, gGe, gNegU, gMax2, gMin2, gAbs, gIntC, gEq, gIsN, gAdd, gMul, dSl, dNoPart, dPart, wipeD, List.set, rNot, rChain, rOp, rVar, rC, rAnd, hLt, hLe, hGt, hGe, hEq, DL.rI]
  refine ⟨_, rfl, sizeOk_of (by omega), ?_⟩
  refine lc_by (fun r acc B' => B' = B ∧ acc = [] ∧ ∀ d ∈ r, Bad cal C d) ⟨rfl, rfl, hb⟩ (fun r acc B' h f e => by cases e) (fun acc B' h2 => ?_) (fun e r acc B' K h2 hk => ?_)
  · obtain ⟨rfl, rfl, _⟩ := h2
    refine ⟨trivial, true, eq_self (n := 1) rfl, if_yes rfl ⟨trivial, trivial, true, eq_self (n := 1) rfl, if_yes rfl ?_⟩⟩
    refine prod_at (u := 2) (v := 2) (by decide) (by decide) ?_
    refine if_yes (by decide +kernel) (prod_at (u := 4) (v := 4) (by decide) (by decide) ?_)
    refine if_yes (by decide +kernel) (prod_at (u := 16) (v := 16) (by decide) (by decide) ?_)
    refine if_yes (by decide +kernel) ⟨trivial, .lst (iL [3, 4, 5]), [3, 4, 5], rfl, rfl, by decide, fun _ => ⟨trivial, trivial, ?_⟩, fun e => absurd e (by decide +kernel)⟩
    have ew : winG (xorL [3, 4, 5]) 0 [3, 4, 5] = [(0, 1)] := by decide +kernel
    rw [ew]
    refine ⟨true, eq_self (n := 2) rfl, if_yes rfl ⟨trivial, .lst (iL []), [], rfl, rfl, fun _ => ?_, fun e => absurd e (by decide +kernel)⟩⟩
    refine if_yes (by decide +kernel) ⟨trivial, .lst (iL [1]), [1], rfl, rfl, fun _ => ?_, fun e => absurd e (by decide +kernel)⟩
    refine if_yes (by decide +kernel) (.inl ⟨3, rfl, by decide, ⟨trivial, ?_⟩⟩)
    have ec : coldP 3 = (4, 7) := by decide +kernel
    rw [ec]
    refine ⟨true, eq_self (n := 1) rfl, if_yes rfl (.inl ⟨0, 0, rfl, by decide, by decide, by decide, ?_⟩)⟩
    have e0 : coldB 0 0 = true := by decide +kernel
    rw [e0]
    exact h _ (Few.refl _)
  · obtain ⟨rfl, rfl, h3⟩ := h2
    obtain ⟨φ, rfl, h4⟩ := h3 e List.mem_cons_self
    dsimp only [dIfS, dOr, dAnd, dNot, dTest, dOp, dUn, dCB, dCons, dNil, dVar, dC, dSeq, dAsg, hName, dRet, dRetF, dRetN, dRaise, dNext, dDrop, dAppend, dCall, gI, gIC, gU, gMM, dChain, dAndV, dOrV, dNotV, dTup, dLst, dLstB, dNewK, dNewT, dPar, dAug, hTup, hCons, hEnd, hSub, dISeq, dIEn, dIR1, dIR2, dFor, dLc, dLcB, hPair, dYes, dBreak, dCont, dIf, dQuant, getS, setS, startD, DL.gSub, gDiv, gMod, gPow, gShl, gXor, gAddI, gLt, gLe, gGt, gGe, gNegU, gMax2, gMin2, gAbs, gIntC, gEq, gIsN, gAdd, gMul, dSl, dNoPart, dPart, wipeD, List.set, rNot, rChain, rOp, rVar, rC, rAnd, hLt, hLe, hGt, hGe, hEq, DL.rI]
    refine ⟨φ, rfl, h4, ?_⟩
    dsimp only [dIfS, dOr, dAnd, dNot, dTest, dOp, dUn, dCB, dCons, dNil, dVar, dC, dSeq, dAsg, hName, dRet, dRetF, dRetN, dRaise, dNext, dDrop, dAppend, dCall, gI, gIC, gU, gMM, dChain, dAndV, dOrV, dNotV, dTup, dLst, dLstB, dNewK, dNewT, dPar, dAug, hTup, hCons, hEnd, hSub, dISeq, dIEn, dIR1, dIR2, dFor, dLc, dLcB, hPair, dYes, dBreak, dCont, dIf, dQuant, getS, setS, startD, DL.gSub, gDiv, gMod, gPow, gShl, gXor, gAddI, gLt, gLe, gGt, gGe, gNegU, gMax2, gMin2, gAbs, gIntC, gEq, gIsN, gAdd, gMul, dSl, dNoPart, dPart, wipeD, List.set, rNot, rChain, rOp, rVar, rC, rAnd, hLt, hLe, hGt, hGe, hEq, DL.rI]
    rw [decide_eq_true rfl, if_neg (by decide)]
    exact hk _ _ ⟨rfl, rfl, fun d hd => h3 d (List.mem_cons_of_mem _ hd)⟩
end
end K01
set_option Elab.async false
set_option linter.all false
set_option pp.maxSteps 900
set_option maxRecDepth 100000
set_option maxHeartbeats 4000000
namespace K01
open PySem PySem.Spec PyProof.Rows L2 DL PL
section
variable {P : Program} {w : World} {K : PySem.W.Frag} {mg : Str → Option Value} {base : Heap}
abbrev CE (K : PySem.W.Frag) : Addr := He.ga K "HeapError"
theorem ok_check (E : M K mg base) : FnA P w K mg base (tsOf tf K) "check_heaps" ["heaps"] 1 (sp_check (CE K)) :=
  okA E mf_check rfl rfl m_glo_check_heaps sc_check bn_check (fun ds B q x h => by obtain ⟨_, _, rfl, _⟩ := h; rfl) fun f A outer s H Ex I => ⟨_, tm_check E I, fun ds B q x h => rd_check h⟩
theorem ok_sum (E : M K mg base) : FnA P w K mg base (tsOf tf K) "nim_sum" ["heaps"] 2 (sp_sum (CE K)) :=
  okA E mf_sum rfl rfl m_glo_nim_sum sc_sum bn_sum (fun ds B q x h => by obtain ⟨_, _, rfl, _⟩ := h; rfl) fun f A outer s H Ex I => ⟨_, tm_sum E (ok_check E) (Nat.le_refl _) I, fun ds B q x h => rd_sum h⟩
theorem ok_win (E : M K mg base) : FnA P w K mg base (tsOf tf K) "winning_moves" ["heaps"] 3 (sp_win (CE K)) :=
  okA E mf_win rfl rfl m_glo_winning_moves sc_win bn_win (fun ds B q x h => by obtain ⟨_, _, rfl, _⟩ := h; rfl) fun f A outer s H Ex I => ⟨_, tm_win E (ok_sum E) (Nat.le_refl _) I, fun ds B q x h => rd_win h⟩
theorem ok_wll (E : M K mg base) : FnA P w K mg base (tsOf tf K) "wins_last_loses" ["heaps"] 3 (sp_wll (CE K)) :=
  okA E mf_wll rfl rfl m_glo_wins_last_loses sc_wll bn_wll (fun ds B q x h => by obtain ⟨_, _, rfl, _⟩ := h; rfl) fun f A outer s H Ex I => ⟨_, tm_wll E (ok_sum E) (Nat.le_refl _) I, fun ds B q x h => rd_wll h⟩
theorem ok_mis (E : M K mg base) : FnA P w K mg base (tsOf tf K) "misere_moves" ["heaps"] 4 (sp_mis (CE K)) :=
  okA E mf_mis rfl rfl m_glo_misere_moves sc_mis bn_mis (fun ds B q x h => by obtain ⟨_, _, rfl, _⟩ := h; rfl) fun f A outer s H Ex I => ⟨_, tm_mis E (ok_wll E) (by decide) (ok_check E) (by decide) I, fun ds B q x h => rd_mis h⟩
theorem ok_prod (E : M K mg base) : ∀ n, n ≤ 4 → FnA P w K mg base (tsOf tf K) "nim_product" ["one", "other"] n (sp_prod (CE K) n)
  | 0, _ => fnA_zero E mf_prod rfl rfl m_glo_nim_product bn_prod fun ds B q x h => by
    rcases h with ⟨a, b, _, h, _⟩ | ⟨h, _⟩
    · exact absurd h (Nat.not_lt_zero a)
    · omega
  | n + 1, hn => okA E mf_prod rfl rfl m_glo_nim_product sc_prod bn_prod (fun ds B q x h => by rcases h with ⟨_, _, rfl, _⟩ | ⟨_, _, _, rfl, _⟩ <;> rfl) fun f A outer s H Ex I => ⟨_, tm_prod E (ok_prod E n (by omega)) (Nat.le_refl _) I, fun ds B q x h => rd_prod (by omega) h⟩
theorem ok_inv (E : M K mg base) : FnA P w K mg base (tsOf tf K) "nim_inverse" ["heap"] 5 (sp_inv (CE K)) :=
  okA E mf_inv rfl rfl m_glo_nim_inverse sc_inv bn_inv (fun ds B q x h => by rcases h with ⟨_, rfl, _⟩ | ⟨_, rfl, _⟩ <;> rfl) fun f A outer s H Ex I => ⟨_, tm_inv E (ok_prod E 4 (Nat.le_refl _)) (Nat.le_refl _) I, fun ds B q x h => rd_inv h⟩
theorem ok_cold (E : M K mg base) : FnA P w K mg base (tsOf tf K) "cold_pair" ["number"] 1 (sp_cold (CE K)) :=
  okA E mf_cold rfl rfl m_glo_cold_pair sc_cold bn_cold (fun ds B q x h => by rcases h with ⟨_, rfl, _⟩ | ⟨_, rfl, _⟩ <;> rfl) fun f A outer s H Ex I => ⟨_, tm_cold E I, fun ds B q x h => rd_cold h⟩
theorem ok_iscold (E : M K mg base) : FnA P w K mg base (tsOf tf K) "is_cold" ["one", "other"] 2 (sp_iscold (CE K)) :=
  okA E mf_iscold rfl rfl m_glo_is_cold sc_iscold bn_iscold (fun ds B q x h => by rcases h with ⟨_, _, rfl, _⟩ | ⟨_, _, rfl, _⟩ <;> rfl) fun f A outer s H Ex I => ⟨_, tm_iscold E (ok_cold E) (Nat.le_refl _) I, fun ds B q x h => rd_iscold h⟩
theorem ok_stair (E : M K mg base) : FnA P w K mg base (tsOf tf K) "staircase" ["heaps"] 3 (sp_stair (CE K)) :=
  okA E mf_stair rfl rfl m_glo_staircase sc_stair bn_stair (fun ds B q x h => by obtain ⟨_, _, rfl, _⟩ := h; rfl) fun f A outer s H Ex I => ⟨_, tm_stair E (ok_sum E) (by decide) (ok_check E) (by decide) I, fun ds B q x h => rd_stair h⟩
theorem ok_ldice (E : M K mg base) : FnA P w K mg base (tsOf tf K) "_law_dice" ["cell"] 1 sp_ldice :=
  okA E mf_ldice rfl rfl m_glo__law_dice sc_ldice bn_ldice (fun ds B q x h => by obtain ⟨_, rfl, _⟩ := h; rfl) fun f A outer s H Ex I => ⟨_, tm_ldice E I, fun ds B q x h => rd_ldice h⟩
theorem ok_lroll (E : M K mg base) : FnA P w K mg base (tsOf tf K) "_law_roll" ["dice", "many"] 1 sp_lroll :=
  okA E mf_lroll rfl rfl m_glo__law_roll sc_lroll bn_lroll (fun ds B q x h => by obtain ⟨_, _, _, _, _, rfl, _⟩ := h; rfl) fun f A outer s H Ex I => ⟨_, tm_lroll E I, fun ds B q x h => rd_lroll h⟩
theorem ok_lrounds (E : M K mg base) : FnA P w K mg base (tsOf tf K) "_law_rounds" ["script", "most"] 2 sp_lrounds :=
  okA E mf_lrounds rfl rfl m_glo__law_rounds sc_lrounds bn_lrounds (fun ds B q x h => by obtain ⟨_, rfl, _⟩ := h; rfl) fun f A outer s H Ex I => ⟨_, tm_lrounds E (ok_ldice E) (Nat.le_refl _) I, fun ds B q x h => rd_lrounds h⟩
theorem ok_lwins (E : M K mg base) : ∀ n, FnA P w K mg base (tsOf tf K) "_law_wins" ["heaps", "last", "seen"] n (sp_lwins n)
  | 0 => fnA_zero E mf_lwins rfl rfl m_glo__law_wins bn_lwins fun ds B q x h => by
    obtain ⟨d, hs, last, a, ks, _, _, hin, hsum, _⟩ := h
    have := sumI_nonneg fun h hh => (hin.2 h hh).1
    omega
  | n + 1 => okA E mf_lwins rfl rfl m_glo__law_wins sc_lwins bn_lwins (fun ds B q x h => by obtain ⟨_, _, _, _, _, rfl, _⟩ := h; rfl) fun f A outer s H Ex I => ⟨_, tm_lwins E (ok_lwins E n) (Nat.le_refl _) I, fun ds B q x h => rd_lwins h⟩
theorem phi_nonneg : ∀ {hs : List Int} {k : Nat}, (∀ h ∈ hs, 0 ≤ h) → 0 ≤ phi k hs
  | [], _, _ => Int.le_refl _
  | a :: hs, k, h => by
    have h1 := h a List.mem_cons_self
    have h2 := phi_nonneg (hs := hs) (k := k + 1) fun x hx => h x (List.mem_cons_of_mem _ hx)
    have h3 : 0 ≤ ((k : Int) + 1) * a := Int.mul_nonneg (by omega) h1
    show 0 ≤ ((k : Int) + 1) * a + phi (k + 1) hs
    omega
theorem ok_lstairs (E : M K mg base) : ∀ n, FnA P w K mg base (tsOf tf K) "_law_stairs" ["heaps", "seen"] n (sp_lstairs n)
  | 0 => fnA_zero E mf_lstairs rfl rfl m_glo__law_stairs bn_lstairs fun ds B q x h => by
    obtain ⟨hs, a, ks, _, hin, hphi, _⟩ := h
    have := phi_nonneg (k := 0) (inS_at hin).2.1
    omega
  | n + 1 => okA E mf_lstairs rfl rfl m_glo__law_stairs sc_lstairs bn_lstairs (fun ds B q x h => by obtain ⟨_, _, _, rfl, _⟩ := h; rfl) fun f A outer s H Ex I => ⟨_, tm_lstairs E (ok_lstairs E n) (Nat.le_refl _) I, fun ds B q x h => rd_lstairs h⟩
theorem ok_lprod (E : M K mg base) : ∀ n, FnA P w K mg base (tsOf tf K) "_law_product" ["one", "other", "seen"] n (sp_lprod n)
  | 0 => fnA_zero E mf_lprod rfl rfl m_glo__law_product bn_lprod fun ds B q x h => by
    obtain ⟨_, _, _, _, _, _, _, hsum, _⟩ := h
    omega
  | n + 1 => okA E mf_lprod rfl rfl m_glo__law_product sc_lprod bn_lprod (fun ds B q x h => by obtain ⟨_, _, _, _, rfl, _⟩ := h; rfl) fun f A outer s H Ex I => ⟨_, tm_lprod E (ok_lprod E n) (Nat.le_refl _) I, fun ds B q x h => rd_lprod h⟩
theorem ok_lcold (E : M K mg base) : ∀ n, FnA P w K mg base (tsOf tf K) "_law_cold" ["one", "other", "seen"] n (sp_lcold n)
  | 0 => fnA_zero E mf_lcold rfl rfl m_glo__law_cold bn_lcold fun ds B q x h => by
    obtain ⟨_, _, _, _, _, _, _, hsum, _⟩ := h
    omega
  | n + 1 => okA E mf_lcold rfl rfl m_glo__law_cold sc_lcold bn_lcold (fun ds B q x h => by obtain ⟨_, _, _, _, rfl, _⟩ := h; rfl) fun f A outer s H Ex I => ⟨_, tm_lcold E (ok_lcold E n) (Nat.le_refl _) I, fun ds B q x h => rd_lcold h⟩
end
end K01
set_option Elab.async false
set_option linter.all false
set_option pp.maxSteps 900
set_option maxRecDepth 100000
set_option maxHeartbeats 4000000
--NS 25
namespace K01
open PySem PySem.Spec PyProof.Rows L2 DL PL
/-! ### law -/
def sp_law (Pt : Addr) (nm : Str) : SpD := fun ds B q x => ∃ ns : List Int, ds = [.rol (iL ns)] ∧ B Pt = some (.tabQ nm) ∧ ∀ B', q (.bl true) B'
theorem rd_law {Pt : Addr} {nm : Str} {C : Addr} {cal : CalP} {f1 f2 f3 f4 f5 f6 f7 f8 f9 f10 f11 f12 f13 f14 f15 f16 f17 f18 : Addr → Hp → Prop}
    (hf : ∀ φ ∈ [f1, f2, f3, f4, f5, f6, f7, f8, f9, f10, f11, f12, f13, f14, f15, f16, f17, f18], ∀ f F, φ f F → cal (slX C) f F) {ds : List D} {B : Bx} {q : DK} {x : XD} (h : sp_law Pt nm ds B q x) :
    t_law sp_lrounds sp_lroll (sp_lwins 21) (sp_win C) (sp_mis C) (sp_sum C) (sp_wll C) (sp_check C) (sp_stair C) (sp_lstairs 28) (sp_prod C 4) (sp_lprod 20) (sp_inv C) (sp_iscold C) (sp_lcold 28) (sp_cold C) (sp_ltold cal C) Pt nm f1 f2 f3 f4 f5 f6 f7 f8 f9 f10 f11 f12 f13 f14 f15 f16 f17 f18 (endsD q x) (startD N_law ds) B := by
  obtain ⟨ns, rfl, hPt, h1⟩ := h
  have tail : ∀ {Γ : Gm} {B' : Bx} {z0 z1 z2 z3 z4 z5 z6 z7 z8 z9 z10 z11 z12 z13 z14 z15 z16 z17 z18 z19 z20 z21 z22 z23 z24 : Option D}, Γ = [z0, z1, z2, z3, z4, z5, z6, z7, z8, z9, z10, z11, z12, z13, z14, z15, z16, z17, z18, z19, z20, z21, z22, z23, z24] → B' Pt = some (.tabQ nm) → dSeq (S26_law Pt nm f1 f2 f3 f4 f5 f6 f7 f8 f9 f10 f11 f12 f13 f14 f15 f16 f17 f18) (S27_law (sp_win C) (sp_wll C) (sp_prod C 4) (sp_iscold C) (sp_cold C) (sp_ltold cal C)) (endsD q x) Γ B' := by
    intro Γ B' z0 z1 z2 z3 z4 z5 z6 z7 z8 z9 z10 z11 z12 z13 z14 z15 z16 z17 z18 z19 z20 z21 z22 z23 z24 e hB
    subst e
    dsimp only [dSeq]
    refine s26 hB (s27 (fun d hd => ?_) (by simp) fun B2 hf => ⟨B2, Few.refl _, h1 B2⟩)
    simp only [List.mem_cons, List.not_mem_nil, or_false] at hd
    rcases hd with rfl | rfl | rfl | rfl | rfl | rfl | rfl | rfl | rfl | rfl | rfl | rfl | rfl | rfl | rfl | rfl | rfl | rfl
    all_goals exact ⟨_, rfl, hf _ (by simp)⟩
  dsimp only [t_law, dSeq, S25_law, dFor, dISeq, dCall, dCons, dNil, dVar, dC, N_law, startD, getS]
  refine ⟨ns, rfl, fun p i j k hp => ⟨_, rfl, ?_⟩⟩
  have hB : LawB p Pt nm (put B p (diceD i j k)) := ⟨⟨i, j, k, put_same⟩, by rw [put_ne (ne_box hPt hp)]; exact hPt⟩
  dsimp only [forK, DL.guard, hName, setS, B4_law, dSeq]
  refine s1 hB fun hs p1 p2 B1 hin hW => ?_
  refine s2 ?_
  refine s8 hW hin fun B2 z8 z9 z10 z11 hW => ?_
  refine s9 hW hin C (fun B3 hW => ?_) rfl rfl rfl
  refine s10 hW hin C fun B4 hW => ?_
  refine s11 hW.b fun st B5 hl hb hB => ?_
  refine s12 hB hl hb C fun B6 hB => ?_
  refine s13 hB fun u v B7 hu hv hB => ?_
  refine s14 hB hu hv C fun B8 hB => ?_
  refine s15 hB fun a b c B9 ha hb hc hB => ?_
  refine s16 ha hb hc C (s17 ha C ?_)
  refine s18 hB fun u v B10 hu hv hB => ?_
  refine s19 hB hu hv C fun B11 hB => ?_
  refine s20 hB fun n B12 hn hB => ?_
  refine s23 hn fun z8 z19 z21 z23 => s24 hn C ?_
  exact tail rfl hB.tab
end K01
set_option Elab.async false
set_option linter.all false
set_option pp.maxSteps 900
set_option maxRecDepth 100000
set_option maxHeartbeats 4000000
namespace K01
open PySem PySem.Spec PyProof.Rows L2 DL PL
section
variable {P : Program} {w : World} {K : PySem.W.Frag} {mg : Str → Option Value} {base : Heap}
theorem ok_ltold (E : M K mg base) : FnA P w K mg base (tsOf tf K) "_law_told" ["what"] 7 (sp_ltold (fun sp f F => Cal P w K mg base (tsOf tf K) 6 sp f F) (CE K)) :=
  okA E mf_ltold rfl rfl m_glo__law_told sc_ltold bn_ltold (fun ds B q x h => by obtain ⟨_, rfl, _⟩ := h; rfl) fun f A outer s H Ex I => ⟨_, tm_ltold E (l_cal := 6) (Nat.le_refl _) I, fun ds B q x h => rd_ltold (E.exm "HeapError" "HeapError" true m_exm_HeapError) h⟩
theorem ok_law (E : M K mg base) {fd : FuncData} (F : FunD K d_law.name d_law.qual d_law.params d_law.body d_law.scope (d_law.dvs K) (d_law.kws K) (He.fAd K d_law.at_) fd) :
    FnD P w K mg base (tsOf tf K) 29 (He.fAd K d_law.at_) fd ["script"] (sp_law (He.tabOf K (He.codeOf K ("law", none))) nm_law) :=
  okF F rfl sc_law (fun ds B q x h => by obtain ⟨_, rfl, _⟩ := h; rfl) fun f A outer s H Ex I => ⟨_, tm_law E (k_lam := 5) (G_lrounds := ok_lrounds E) (h_lrounds := by decide) (G_lroll := ok_lroll E) (h_lroll := by decide) (G_lwins := ok_lwins E 21) (h_lwins := by decide) (G_win := ok_win E) (h_win := by decide) (hk_win := by decide) (G_mis := ok_mis E) (h_mis := by decide) (hk_mis := by decide)
    (G_sum := ok_sum E) (h_sum := by decide) (hk_sum := by decide) (G_wll := ok_wll E) (h_wll := by decide) (hk_wll := by decide) (G_check := ok_check E) (h_check := by decide) (hk_check := by decide) (G_stair := ok_stair E) (h_stair := by decide) (hk_stair := by decide) (G_lstairs := ok_lstairs E 28) (h_lstairs := by decide)
    (G_prod := ok_prod E 4 (Nat.le_refl _)) (h_prod := by decide) (hk_prod := by decide) (G_lprod := ok_lprod E 20) (h_lprod := by decide) (G_inv := ok_inv E) (h_inv := by decide) (hk_inv := by decide) (G_iscold := ok_iscold E) (h_iscold := by decide) (hk_iscold := by decide) (G_lcold := ok_lcold E 28) (h_lcold := by decide)
    (G_cold := ok_cold E) (h_cold := by decide) (hk_cold := by decide) (G_ltold := ok_ltold E) (h_ltold := by decide)
    (hl1 := fun B q x h => rl1 h) (hl2 := fun B q x h => rl2 h) (hl3 := fun B q x h => rl3 h) (hl4 := fun B q x h => rl4 h) (hl5 := fun B q x h => rl5 h) (hl6 := fun B q x h => rl6 h) (hl7 := fun B q x h => rl7 h) (hl8 := fun B q x h => rl8 h) (hl9 := fun B q x h => rl9 h) (hl10 := fun B q x h => rl10 h) (hl11 := fun B q x h => rl11 h) (hl12 := fun B q x h => rl12 h) (hl13 := fun B q x h => rl13 h) (hl14 := fun B q x h => rl14 h) (hl15 := fun B q x h => rl15 h) (hl16 := fun B q x h => rl16 h) (hl17 := fun B q x h => rl17 h) (hl18 := fun B q x h => rl18 h) I, fun ds B q x h => rd_law (cal := fun sp f F => Cal P w K mg base (tsOf tf K) 6 sp f F) (fun φ hφ => by
      simp only [List.mem_cons, List.not_mem_nil, or_false] at hφ
      rcases hφ with rfl | rfl | rfl | rfl | rfl | rfl | rfl | rfl | rfl | rfl | rfl | rfl | rfl | rfl | rfl | rfl | rfl | rfl
      all_goals exact fun f F z => z) h⟩
end
abbrev R : PySem.W.OpenRow := PySem.W.OpenLaw.row PySem.Challenge.rw_nimstack_k01_heaps_and_products
/-- the law's table is none of the others -/
def ex (K : PySem.W.Frag) : Bool := decide ((He.cT K ("law", none)).2 ∉ tsOf tf K)
abbrev hk : PySem.W.Hook := He.hookX 4 fa fn [] (tf ++ tl) ex
def ob (s : PySem.W.SharedT) : He.AlX := He.obsX 4 fa fn [] (tf ++ tl) ex (HandSHeadRun.getT s)
theorem ob_eq (s : PySem.W.SharedT) : ob s = hk.obs s.abs := He.obsX_eq (HandSHeadRun.getT_eq s)
def loose : List Str := ["NimError", "HeapError", "MOST_HEAPS", "MOST_SIZE", "check_heaps", "nim_sum", "winning_moves", "wins_last_loses", "misere_moves", "nim_product", "nim_inverse", "cold_pair", "is_cold", "staircase", "_law_dice", "_law_roll", "_law_rounds", "_law_told", "_law_wins", "_law_stairs", "_law_product", "_law_cold"]
theorem run (w : World) : HandSHeadRun.RunEq R (PySem.W.view R.prog [25]) hk ob 9000 loose w := by
  intro os
  kernel_rfl
end K01
set_option Elab.async false
set_option linter.all false
set_option pp.maxSteps 900
set_option maxRecDepth 100000
set_option maxHeartbeats 0
open PySem PySem.W PySem.Calls PyProof.Rows
theorem PySem.Challenge.cw_nimstack_k01_heaps_and_products_holds : PySem.Challenge.rw_nimstack_k01_heaps_and_products.Holds := by
  w_on; o_law
  refine HandSHeadRun.head_any (r := OpenLaw.row PySem.Challenge.rw_nimstack_k01_heaps_and_products) (q := view (OpenLaw.row PySem.Challenge.rw_nimstack_k01_heaps_and_products).prog [25]) (H := K01.hk) (ob := K01.ob) (M := 9000) (loose := K01.loose) (d := HandSHeadRun.topDef (OpenLaw.row PySem.Challenge.rw_nimstack_k01_heaps_and_products).prog 25) (kwd := []) K01.ob_eq
    (by kernel_rfl) (fun s => by kernel_rfl) K01.run (by kernel_rfl) (by kernel_rfl) (by kernel_rfl) (by rfl) (by first | assumption | decide +kernel) (by decide +kernel) ⟨rfl, rfl, rfl, rfl, rfl, by decide +kernel⟩ ?hw ?hc
  case hw => w_witness2
  case hc =>
    refine LamX.walk_ofTsE (l := PySem.Challenge.rw_nimstack_k01_heaps_and_products) (n := 63) (k := 29) (x := "script") (CX := fun w => L2.CX PySem.Challenge.rw_nimstack_k01_heaps_and_products.prog w) rfl (by decide) (by kernel_rfl) ⟨rfl, by decide, by decide⟩ ?F (fun w H s e s' z => by obtain ⟨_, _, _, _, _, _, _, _, _, _, _, _, z⟩ := z; exact z)
    intro w mg fa h Y G hmg0
    obtain ⟨K, KX, c⟩ := Y
    have hmg : mg ("law" : PySem.Str) = some (.ref fa) := by
      have e : (HandSHeadRun.topDef (OpenLaw.row PySem.Challenge.rw_nimstack_k01_heaps_and_products).prog 25).name = ("law" : PySem.Str) := by kernel_rfl
      rw [← e]
      exact hmg0
    refine ⟨K, KX, DL.law_at (d := K01.d_law) (tl := K01.tl) (tf := K01.tf) (nm := fun _ => K01.nm_law) KX G c K01.mf_law rfl rfl K01.m_glo_law hmg K01.bn_law (fun p hp => ?_) (fun _ _ _ _ _ => rfl) (fun base fd E F => K01.ok_law E F) (fun ns B q x hl hb hB hq => ⟨ns, rfl, hB _ K01.ml_law, hq⟩)⟩
    have e : p = (("law", none) : He.Defn) := by simpa [K01.tl] using hp
    subst e
    exact of_decide_eq_true c.more
#print axioms PySem.Challenge.cw_nimstack_k01_heaps_and_products_holds
