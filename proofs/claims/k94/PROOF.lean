import PyProof.Rows.All
import HandS.ForMost
import HandS.Zip
import HandS.Walk
import HandS.TupAny
import HandS.Deep
import HandS.IsInst
import HandS.Conv
import HandS.Strs
import HandS.SetFor
import HandS.Defaults
import HandS.HeadEnd
import HandS.Head2
import HandS.HeadHook2
import HandS.SetKeys
import KE.GoesEnum
import HandS.ExcInit
import HandS.TryOnly
import KE.KExcSuper
import HandS.ExcOwn
import PySem.Challenge.RW_samefault_k94_whole_notices_and_settled
import KE.SortData
import HandS.TupLe
set_option Elab.async false
set_option linter.all false
set_option maxRecDepth 100000
set_option maxHeartbeats 4000000
/-! Plain data D over the hand layer: what stands for what, and readings lifted to data. -/
namespace Dd
open PySem PySem.Spec PyProof.Rows L2

/-- plain data; lst: a list that nobody changes; seq: the same, known to the object (the script); loc: a thing that may change, kept in the store -/
inductive D where
  | non | bl (b : Bool) | int (i : Int) | str (x : Str) | tup (ds : List D) | lst (ds : List D) | seq (ds : List D) | loc (a : Addr)
/-- what the store holds; an instance's field: the data that it may be -/
inductive SO where
  | lst (ds : List D) | dK (kvs : List (Key × D)) | dT (kvs : List (List Key × D)) | obj (c : Str) (fs : List (Str × List D))
abbrev Sto := Addr → Option SO
def put (S : Sto) (a : Addr) (o : SO) : Sto := fun b => if b = a then some o else S b
theorem put_same {S : Sto} {a : Addr} {o : SO} : put S a o a = some o := by unfold put; rw [if_pos rfl]
theorem put_ne {S : Sto} {a b : Addr} {o : SO} (h : b ≠ a) : put S a o b = S b := by unfold put; rw [if_neg h]
theorem put_put {S : Sto} {a : Addr} {o u : SO} : put (put S a o) a u = put S a u := by
  funext b; unfold put; split <;> rfl
theorem put_self {S : Sto} {a : Addr} {o : SO} (h : S a = some o) : put S a o = S := by
  funext b; unfold put; split
  · rename_i e; rw [e, h]
  · rfl
theorem put_comm {S : Sto} {a b : Addr} {o u : SO} (h : a ≠ b) : put (put S a o) b u = put (put S b u) a o := by
  funext c; unfold put
  by_cases h1 : c = b
  · subst h1; rw [if_pos rfl, if_neg (fun e => h e.symm), if_pos rfl]
  · rw [if_neg h1, if_neg h1]

/-- a list of the written part -/
def KL (K : PySem.W.Frag) (a : Addr) (xs : List V) : Prop :=
  ∃ (o : Obj) (its : Array Value) (n : Nat), K.lookup a = some o ∧ o.cls = .type "list" ∧ o.dict = none ∧ o.data = .seq its n ∧ its.size ≤ sizeLine ∧ Vals xs its.toList
/-- a list that is not in the store -/
def SqI (K : PySem.W.Frag) (H : Hp) (S : Sto) (a : Addr) (xs : List V) : Prop :=
  H a = some (.lst xs) ∧ S a = none
theorem SqI.sq {K : PySem.W.Frag} {H : Hp} {S : Sto} {a : Addr} {xs : List V} (h : SqI K H S a xs) : SqL K H a xs := .inl (.inl h.1)
def SqF (K : PySem.W.Frag) (H : Hp) (a : Addr) (xs : List V) : Prop := (∃ o, H a = some (.frz o (.lst xs))) ∨ KL K a xs
theorem SqF.sq {K : PySem.W.Frag} {H : Hp} {a : Addr} {xs : List V} (h : SqF K H a xs) : SqL K H a xs := by
  rcases h with h | h
  · exact .inl (.inr h)
  · exact .inr h

mutual
inductive Rep (K : PySem.W.Frag) (H : Hp) (S : Sto) : D → V → Prop
  | non : Rep K H S .non .non
  | bl (b : Bool) : Rep K H S (.bl b) (.bl b)
  | int (i : Int) : Rep K H S (.int i) (.int i)
  | str (x : Str) : Rep K H S (.str x) (.str x)
  | tup {ds : List D} {a : Addr} {vs : List V} : H a = some (.tup vs) → Reps K H S ds vs → Rep K H S (.tup ds) (.ref a)
  | lst {ds : List D} {a : Addr} {vs : List V} : SqI K H S a vs → Reps K H S ds vs → Rep K H S (.lst ds) (.ref a)
  | seq {ds : List D} {a : Addr} {vs : List V} : SqF K H a vs → Reps K H S ds vs → Rep K H S (.seq ds) (.ref a)
  | loc (a : Addr) : Rep K H S (.loc a) (.ref a)
inductive Reps (K : PySem.W.Frag) (H : Hp) (S : Sto) : List D → List V → Prop
  | nil : Reps K H S [] []
  | cons {d : D} {v : V} {ds : List D} {vs : List V} : Rep K H S d v → Reps K H S ds vs → Reps K H S (d :: ds) (v :: vs)
end

/-- what stays: tuples, locked things, lists that are not in the store -/
structure Grow (H : Hp) (S : Sto) (H' : Hp) (S' : Sto) : Prop where
  tup : ∀ a xs, H a = some (.tup xs) → H' a = some (.tup xs)
  frz : ∀ a o u, H a = some (.frz o u) → H' a = some (.frz o u)
  lst : ∀ a xs, H a = some (.lst xs) → S a = none → H' a = some (.lst xs) ∧ S' a = none
section
variable {K : PySem.W.Frag} {H H' H'' : Hp} {S S' S'' : Sto} {a : Addr} {d : D} {v : V} {ds es : List D} {vs ws xs : List V}
theorem Grow.refl : Grow H S H S := ⟨fun _ _ h => h, fun _ _ _ h => h, fun _ _ h e => ⟨h, e⟩⟩
theorem Grow.trans (g : Grow H S H' S') (k : Grow H' S' H'' S'') : Grow H S H'' S'' :=
  ⟨fun a xs h => k.tup a xs (g.tup a xs h), fun a o u h => k.frz a o u (g.frz a o u h), fun a xs h e => k.lst a xs (g.lst a xs h e).1 (g.lst a xs h e).2⟩
theorem Grow.sqT (g : Grow H S H' S') (h : SqT K H a xs) : SqT K H' a xs := by
  rcases h with (h | ⟨o, h⟩) | h
  · exact .inl (.inl (g.tup _ _ h))
  · exact .inl (.inr ⟨o, g.frz _ _ _ h⟩)
  · exact .inr h
theorem Grow.sqI (g : Grow H S H' S') (h : SqI K H S a xs) : SqI K H' S' a xs := g.lst _ _ h.1 h.2
theorem Grow.sqF (g : Grow H S H' S') (h : SqF K H a xs) : SqF K H' a xs := by
  rcases h with ⟨o, h⟩ | h
  · exact .inl ⟨o, g.frz _ _ _ h⟩
  · exact .inr h
mutual
theorem Rep.grow {d : D} {v : V} (g : Grow H S H' S') : Rep K H S d v → Rep K H' S' d v
  | .non => .non
  | .bl b => .bl b
  | .int i => .int i
  | .str x => .str x
  | .tup h r => .tup (g.tup _ _ h) (Reps.grow g r)
  | .lst h r => .lst (g.sqI h) (Reps.grow g r)
  | .seq h r => .seq (g.sqF h) (Reps.grow g r)
  | .loc a => .loc a
theorem Reps.grow {ds : List D} {vs : List V} (g : Grow H S H' S') : Reps K H S ds vs → Reps K H' S' ds vs
  | .nil => .nil
  | .cons h r => .cons (Rep.grow g h) (Reps.grow g r)
end
theorem Reps.length (r : Reps K H S ds vs) : ds.length = vs.length := by
  induction ds generalizing vs with
  | nil => cases r; rfl
  | cons d ds ih => cases r with | cons h r => rw [List.length_cons, List.length_cons, ih r]
theorem Reps.get (r : Reps K H S ds vs) {i : Nat} {d : D} (h : ds[i]? = some d) : ∃ v, vs[i]? = some v ∧ Rep K H S d v := by
  induction ds generalizing vs i with
  | nil => simp at h
  | cons e ds ih =>
    cases r with
    | cons q r =>
      cases i with
      | zero => simp at h; subst h; exact ⟨_, rfl, q⟩
      | succ i => exact ih r (by simpa using h)
theorem Reps.getV (r : Reps K H S ds vs) {i : Nat} {v : V} (h : vs[i]? = some v) : ∃ d, ds[i]? = some d ∧ Rep K H S d v := by
  induction ds generalizing vs i with
  | nil => cases r; simp at h
  | cons e ds ih =>
    cases r with
    | cons q r =>
      cases i with
      | zero => simp at h; subst h; exact ⟨_, rfl, q⟩
      | succ i => exact ih r (by simpa using h)
theorem Reps.append (r : Reps K H S ds vs) (q : Reps K H S es ws) : Reps K H S (ds ++ es) (vs ++ ws) := by
  induction ds generalizing vs with
  | nil => cases r; exact q
  | cons d ds ih => cases r with | cons h r => exact .cons h (ih r)
theorem Reps.take (n : Nat) (r : Reps K H S ds vs) : Reps K H S (ds.take n) (vs.take n) := by
  induction n generalizing ds vs with
  | zero => exact .nil
  | succ n ih => cases r with
    | nil => exact .nil
    | cons h r => exact .cons h (ih r)
theorem Reps.drop (n : Nat) (r : Reps K H S ds vs) : Reps K H S (ds.drop n) (vs.drop n) := by
  induction n generalizing ds vs with
  | zero => exact r
  | succ n ih => cases r with
    | nil => exact .nil
    | cons h r => exact ih r
theorem Reps.set (i : Nat) (q : Rep K H S d v) (r : Reps K H S ds vs) : Reps K H S (ds.set i d) (vs.set i v) := by
  induction i generalizing ds vs with
  | zero => cases r with
    | nil => exact .nil
    | cons h r => exact .cons q r
  | succ i ih => cases r with
    | nil => exact .nil
    | cons h r => exact .cons h (ih r)
theorem Reps.one (h : Rep K H S d v) : Reps K H S [d] [v] := .cons h .nil
theorem Reps.ints : ∀ {ns : List Int}, Reps K H S (ns.map D.int) (ns.map V.int)
  | [] => .nil
  | n :: _ => .cons (.int n) Reps.ints
theorem Reps.ints_inv : ∀ {ns : List Int} {vs : List V}, Reps K H S (ns.map D.int) vs → vs = ns.map V.int
  | [], _, .nil => rfl
  | n :: ns, _, .cons h r => by cases h; rw [Reps.ints_inv r]; rfl
theorem Reps.bls_inv : ∀ {bs : List Bool} {vs : List V}, Reps K H S (bs.map D.bl) vs → vs = bs.map V.bl
  | [], _, .nil => rfl
  | n :: ns, _, .cons h r => by cases h; rw [Reps.bls_inv r]; rfl
end

/-- what the store holds stands in the heap -/
def ORep (K : PySem.W.Frag) (H : Hp) (S : Sto) (a : Addr) : SO → Prop
  | .lst ds => ∃ vs, H a = some (.lst vs) ∧ Reps K H S ds vs
  | .dK kvs => ∃ kws : List (Key × V), H a = some (.dK kws) ∧ kws.map (·.1) = kvs.map (·.1) ∧ Reps K H S (kvs.map (·.2)) (kws.map (·.2))
  | .dT kvs => ∃ kws : List (List Key × V), H a = some (.dT kws) ∧ kws.map (·.1) = kvs.map (·.1) ∧ Reps K H S (kvs.map (·.2)) (kws.map (·.2))
  | .obj c fs => ∃ (dx : Addr) (fws : List (Str × V)), H a = some (.ins (He.ga K c) dx fws) ∧ fws.map (·.1) = fs.map (·.1) ∧ ∀ f alts, fs.lookup f = some alts → ∃ v d, fws.lookup f = some v ∧ d ∈ alts ∧ Rep K H S d v
def SRep (K : PySem.W.Frag) (H : Hp) (S : Sto) : Prop := ∀ a o, S a = some o → ORep K H S a o
section
variable {K : PySem.W.Frag} {H H' : Hp} {S S' : Sto} {a b : Addr} {o : SO}
/-- an object's own place stays, what it names grows -/
theorem ORep.grow (r : ORep K H S a o) (g : Grow H S H' S') (h : H' a = H a) : ORep K H' S' a o := by
  cases o with
  | lst ds => obtain ⟨vs, e, q⟩ := r; exact ⟨vs, h.trans e, q.grow g⟩
  | dK kvs => obtain ⟨vs, e, k, q⟩ := r; exact ⟨vs, h.trans e, k, q.grow g⟩
  | dT kvs => obtain ⟨vs, e, k, q⟩ := r; exact ⟨vs, h.trans e, k, q.grow g⟩
  | obj c fs =>
    obtain ⟨dx, fws, e, k, q⟩ := r
    exact ⟨dx, fws, h.trans e, k, fun f alts hf => let ⟨v, d, h1, h2, h3⟩ := q f alts hf; ⟨v, d, h1, h2, h3.grow g⟩⟩
theorem ORep.there (r : ORep K H S a o) : ∃ u, H a = some u ∧ Mut (some u) := by
  cases o with
  | lst ds => obtain ⟨vs, e, q⟩ := r; exact ⟨_, e, trivial⟩
  | dK kvs => obtain ⟨vs, e, k, q⟩ := r; exact ⟨_, e, trivial⟩
  | dT kvs => obtain ⟨vs, e, k, q⟩ := r; exact ⟨_, e, trivial⟩
  | obj c fs => obtain ⟨dx, fws, e, k, q⟩ := r; exact ⟨_, e, trivial⟩
theorem SRep.free (r : SRep K H S) (h : H a = none) : S a = none := by
  cases e : S a with
  | none => rfl
  | some o =>
    obtain ⟨u, q, _⟩ := (r a o e).there
    rw [h] at q; cases q
/-- an untracked place is laid -/
theorem Grow.lay {u : HO} (h : H a = none) : Grow H S (upd H a u) S :=
  ⟨fun b xs e => by rw [upd_ne (ne_of_none e h)]; exact e, fun b o x e => by rw [upd_ne (ne_of_none e h)]; exact e, fun b xs e q => ⟨by rw [upd_ne (ne_of_none e h)]; exact e, q⟩⟩
theorem SRep.same (r : SRep K H S) (k : Same H H') (g : Grow H S H' S) : SRep K H' S := fun b o e => by
  obtain ⟨u, q, _⟩ := (r b o e).there
  exact (r b o e).grow g ((k b u q).trans q.symm)
theorem Same.lay {u : HO} (h : H a = none) : Same H (upd H a u) := fun b o e => by rw [upd_ne (ne_of_none e h)]; exact e
theorem Same.grow (k : Same H H') : Grow H S H' S := ⟨fun a xs h => k a _ h, fun a o u h => k a _ h, fun a xs h e => ⟨k a _ h, e⟩⟩
theorem SRep.lay {u : HO} (r : SRep K H S) (h : H a = none) : SRep K (upd H a u) S := r.same (Same.lay h) (Grow.lay h)
/-- a new place of the store -/
theorem Grow.new {u : HO} (h : H a = none) (r : SRep K H S) : Grow H S (upd H a u) (put S a o) :=
  ⟨fun b xs e => by rw [upd_ne (ne_of_none e h)]; exact e, fun b o x e => by rw [upd_ne (ne_of_none e h)]; exact e,
   fun b xs e q => ⟨by rw [upd_ne (ne_of_none e h)]; exact e, by rw [put_ne (ne_of_none e h)]; exact q⟩⟩
/-- a place of the store is written -/
theorem Grow.write {u : HO} {x : SO} (r : SRep K H S) (h : S a = some x) : Grow H S (upd H a u) (put S a o) := by
  obtain ⟨w, q, m⟩ := (r a x h).there
  refine ⟨fun b xs e => ?_, fun b o u e => ?_, fun b xs e n => ?_⟩
  · rw [upd_ne fun z => by subst z; rw [q] at e; cases e; exact m]; exact e
  · rw [upd_ne fun z => by subst z; rw [q] at e; cases e; exact m]; exact e
  · have nb : b ≠ a := fun z => by subst z; rw [h] at n; cases n
    exact ⟨by rw [upd_ne nb]; exact e, by rw [put_ne nb]; exact n⟩
theorem SRep.put {u : HO} (r : SRep K H S) (g : Grow H S (upd H a u) (put S a o)) (new : ORep K (upd H a u) (Dd.put S a o) a o) : SRep K (upd H a u) (Dd.put S a o) := fun b x e => by
  by_cases hb : b = a
  · subst hb; rw [put_same] at e; cases e; exact new
  · rw [put_ne hb] at e
    exact (r b x e).grow g (upd_ne hb)
end

/-! ### slots -/
abbrev Env := List (Option D)
structure Lk (K : PySem.W.Frag) (H : Hp) (S : Sto) (env : Env) (σ : L2.St) : Prop where
  len : env.length = σ.length
  at_ : ∀ (i : Nat) (d : D), env[i]? = some (some d) → ∃ v, σ[i]? = some (some v) ∧ Rep K H S d v
  sto : SRep K H S
section
variable {K : PySem.W.Frag} {H H' : Hp} {S S' : Sto} {env : Env} {σ : L2.St}
theorem Lk.grow (l : Lk K H S env σ) (g : Grow H S H' S') (r : SRep K H' S') : Lk K H' S' env σ :=
  ⟨l.len, fun i d h => let ⟨v, e, q⟩ := l.at_ i d h; ⟨v, e, q.grow g⟩, r⟩
theorem Lk.set (l : Lk K H S env σ) (i : Nat) {d : D} {v : V} (q : Rep K H S d v) : Lk K H S (env.set i (some d)) (σ.set i (some v)) := by
  refine ⟨by rw [List.length_set, List.length_set]; exact l.len, fun j e h => ?_, l.sto⟩
  by_cases hj : i = j
  · subst hj
    by_cases hl : i < env.length
    · rw [List.getElem?_set_self hl] at h
      cases h
      exact ⟨v, by rw [List.getElem?_set_self (l.len ▸ hl)], q⟩
    · rw [List.getElem?_eq_none (by simpa using hl)] at h; cases h
  · rw [List.getElem?_set_ne hj] at h
    rw [List.getElem?_set_ne hj]
    exact l.at_ j e h
theorem Lk.wipe (l : Lk K H S env σ) (vs : List Nat) : Lk K H S (vs.foldr (fun i e => e.set i none) env) (wipe σ vs) := by
  induction vs with
  | nil => exact l
  | cons i vs ih =>
    unfold L2.wipe
    refine ⟨by rw [List.foldr_cons, List.length_set, List.length_set]; exact ih.len, fun j e h => ?_, l.sto⟩
    rw [List.foldr_cons] at h
    by_cases hj : i = j
    · subst hj
      by_cases hl : i < (vs.foldr (fun i e => e.set i none) env).length
      · rw [List.getElem?_set_self hl] at h; cases h
      · rw [List.getElem?_eq_none (by simpa using hl)] at h; cases h
    · rw [List.getElem?_set_ne hj] at h
      rw [List.getElem?_set_ne hj]
      exact ih.at_ j e h
end

/-! ### readings over data -/
abbrev DQ := D → Sto → Prop
abbrev DE := Env → Sto → DQ → Prop
abbrev DT := Env → Sto → (Bool → Sto → Prop) → Prop
abbrev DA := Env → Sto → (List D → Sto → Prop) → Prop
/-- what may follow: data q, store S', for what was wanted R -/
def lift (K : PySem.W.Frag) (w : DE) : TE := fun σ H Q => ∃ env S R, Lk K H S env σ ∧ w env S R ∧ ∀ d S' v H', R d S' → SRep K H' S' → Grow H S H' S' → Rep K H' S' d v → Q v H'
def liftT (K : PySem.W.Frag) (w : DT) : TT := fun σ H Q => ∃ env S R, Lk K H S env σ ∧ w env S R ∧ ∀ b S' H', R b S' → SRep K H' S' → Grow H S H' S' → Q b H'
def liftA (K : PySem.W.Frag) (w : DA) : TA := fun σ H Q => ∃ env S R, Lk K H S env σ ∧ w env S R ∧ ∀ ds S' vs H', R ds S' → SRep K H' S' → Grow H S H' S' → Reps K H' S' ds vs → Q vs H'
structure DEnds where
  nx : Env → Sto → Prop
  rt : DQ
  bk : Env → Sto → Prop := fun _ _ => False
  ct : Env → Sto → Prop := fun _ _ => False
  ex : Str → List (Str × D) → Env → Sto → Prop := fun _ _ _ _ => False
/-- an exception: its class, its fields -/
def XRep (K : PySem.W.Frag) (H : Hp) (S : Sto) (c : Str) (fs : List (Str × D)) (cls : Value) (d : Option Addr) : Prop :=
  cls = .ref (He.ga K c) ∧ ((d = none ∧ fs = []) ∨ ∃ (dx : Addr) (fws : List (Str × V)), d = some dx ∧ H dx = some (.xd fws) ∧ fws.map (·.1) = fs.map (·.1) ∧ Reps K H S (fs.map (·.2)) (fws.map (·.2)))
abbrev DS := DEnds → Env → Sto → Prop
/-- what an exception that leaves is taken for -/
def ExOk (X : Cx) (H : Hp) (S : Sto) (ex : Str → List (Str × D) → Env → Sto → Prop) : Prop :=
  Takes X fun cls d σ' H' => ∃ c fs env' S', ex c fs env' S' ∧ Grow H S H' S' ∧ Lk X.K H' S' env' σ' ∧ XRep X.K H' S' c fs cls d
theorem ExOk.grow {X : Cx} {H H' : Hp} {S S' : Sto} {ex : Str → List (Str × D) → Env → Sto → Prop} (k : ExOk X H S ex) (g : Grow H S H' S') : ExOk X H' S' ex :=
  Takes.imp k fun _ _ _ _ ⟨c, fs, e, s, z, g', l, x⟩ => ⟨c, fs, e, s, z, g.trans g', l, x⟩
theorem ExOk.none {X : Cx} {H : Hp} {S : Sto} : ExOk X H S fun _ _ _ _ => False := fun _ _ ⟨_, _, _, _, _, _, _, _, _, _, _, _, _, _, _, _, _, _, _, _, z, _⟩ => z.elim
structure EndsOk (X : Cx) (H : Hp) (S : Sto) (F : DEnds) (E : Ends) : Prop where
  nx : ∀ env S' σ H', F.nx env S' → Grow H S H' S' → Lk X.K H' S' env σ → E.nx σ H'
  rt : ∀ d S' v H', F.rt d S' → SRep X.K H' S' → Grow H S H' S' → Rep X.K H' S' d v → E.rt v H'
  bk : ∀ env S' σ H', F.bk env S' → Grow H S H' S' → Lk X.K H' S' env σ → E.bk σ H'
  ct : ∀ env S' σ H', F.ct env S' → Grow H S H' S' → Lk X.K H' S' env σ → E.ct σ H'
  ex : ExOk X H S F.ex
def liftS (X : Cx) (w : DS) : TS := fun E σ H => ∃ env S F, Lk X.K H S env σ ∧ w F env S ∧ EndsOk X H S F E
theorem EndsOk.grow {X : Cx} {H H' : Hp} {S S' : Sto} {F : DEnds} {E : Ends} (k : EndsOk X H S F E) (g : Grow H S H' S') : EndsOk X H' S' F E :=
  ⟨fun e s σ h q g' l => k.nx e s σ h q (g.trans g') l, fun d s v h q r g' l => k.rt d s v h q r (g.trans g') l, fun e s σ h q g' l => k.bk e s σ h q (g.trans g') l, fun e s σ h q g' l => k.ct e s σ h q (g.trans g') l, k.ex.grow g⟩

theorem PE.mono {X : Cx} {e : Expr} {t t' : TE} (h : PE X e t) (m : ∀ σ H Q, t' σ H Q → t σ H Q) : PE X e t' := ⟨fun pins s σ H Q I q => h.run pins s σ H Q I (m σ H Q q)⟩
theorem PT.mono {X : Cx} {e : Expr} {t t' : TT} (h : PT X e t) (m : ∀ σ H Q, t' σ H Q → t σ H Q) : PT X e t' := ⟨fun pins s σ H Q I q => h.run pins s σ H Q I (m σ H Q q)⟩
theorem PA.mono {X : Cx} {e : List Expr} {t t' : TA} (h : PA X e t) (m : ∀ σ H Q, t' σ H Q → t σ H Q) : PA X e t' := ⟨fun pos pins s σ H Q I q => h.run pos pins s σ H Q I (m σ H Q q)⟩
theorem PS.mono {X : Cx} {e : Stmt} {t t' : TS} (h : PS X e t) (m : ∀ E σ H, t' E σ H → t E σ H) : PS X e t' := ⟨fun pins s σ H E I q => h.run pins s σ H E I (m E σ H q)⟩
theorem PSs.mono {X : Cx} {e : List Stmt} {t t' : TS} (h : PSs X e t) (m : ∀ E σ H, t' E σ H → t E σ H) : PSs X e t' := ⟨fun pins s σ H E I q => h.run pins s σ H E I (m E σ H q)⟩
/-- the judgements over data -/
abbrev E' (X : Cx) (e : Expr) (w : DE) : Prop := PE X e (lift X.K w)
abbrev T' (X : Cx) (e : Expr) (w : DT) : Prop := PT X e (liftT X.K w)
abbrev W' (X : Cx) (e : Expr) (w : DT) : Prop := PW X e (liftT X.K w)
abbrev A' (X : Cx) (e : List Expr) (w : DA) : Prop := PA X e (liftA X.K w)
abbrev S' (X : Cx) (e : Stmt) (w : DS) : Prop := PS X e (liftS X w)
abbrev Ss' (X : Cx) (e : List Stmt) (w : DS) : Prop := PSs X e (liftS X w)
end Dd
set_option Elab.async false
set_option linter.all false
set_option maxRecDepth 100000
set_option maxHeartbeats 4000000
/-! Expressions over data. -/
namespace Dd
open PySem PySem.Spec PyProof.Rows L2

/-- what a result is to do -/
abbrev Res (K : PySem.W.Frag) (H : Hp) (S : Sto) (R : DQ) (Q : VK) : Prop := ∀ d S' v H', R d S' → SRep K H' S' → Grow H S H' S' → Rep K H' S' d v → Q v H'
section
variable {K : PySem.W.Frag} {H : Hp} {S : Sto} {R : DQ} {Q : VK} {d : D} {v : V} {ds : List D} {vs : List V}
/-- the heap as it is -/
theorem Res.now (k : Res K H S R Q) (r : SRep K H S) (h : R d S) (q : Rep K H S d v) : Q v H := k d S v H h r Grow.refl q
/-- a new tuple -/
theorem Res.tup (k : Res K H S R Q) (r : SRep K H S) (h : R (.tup ds) S) (q : Reps K H S ds vs) {p : Addr} (hp : H p = none) : Q (.ref p) (upd H p (.tup vs)) :=
  k _ S _ _ h (r.lay hp) (Grow.lay hp) (.tup upd_same (q.grow (Grow.lay hp)))
/-- a new list that nobody changes -/
theorem Res.lst (k : Res K H S R Q) (r : SRep K H S) (h : R (.lst ds) S) (q : Reps K H S ds vs) {p : Addr} (hp : H p = none) : Q (.ref p) (upd H p (.lst vs)) :=
  k _ S _ _ h (r.lay hp) (Grow.lay hp) (.lst ⟨upd_same, r.free hp⟩ (q.grow (Grow.lay hp)))
end

/-! ### names, constants -/
def wVar (i : Nat) : DE := fun env S R => match env[i]? with
  | some (some d) => R d S
  | _ => False
def wC (d : D) : DE := fun _ S R => R d S
section
variable {X : Cx} {e : Expr} {K : PySem.W.Frag}
theorem e_var {i : Nat} (h : PE X e (tVar i)) : E' X e (wVar i) := PE.mono h fun σ H Q ⟨env, S, R, l, w, q⟩ => by
  unfold wVar at w
  cases h1 : env[i]? with
  | none => rw [h1] at w; exact w.elim
  | some o =>
    rw [h1] at w
    cases o with
    | none => exact w.elim
    | some d =>
      obtain ⟨v, e, r⟩ := l.at_ i d h1
      exact ⟨v, e, Res.now q l.sto w r⟩
theorem e_c {v : V} {d : D} (h : PE X e (tC v)) (r : ∀ K H S, Rep K H S d v) : E' X e (wC d) := PE.mono h fun σ H Q ⟨env, S, R, l, w, q⟩ => Res.now q l.sto w (r _ _ _)
theorem e_int {i : Int} {j pos} : E' X (.Constant (.int i) j pos) (wC (.int i)) := e_c pe_int fun _ _ _ => .int i
theorem e_bl {b : Bool} {j pos} : E' X (.Constant (.bool b) j pos) (wC (.bl b)) := e_c pe_bl fun _ _ _ => .bl b
theorem e_non {j pos} : E' X (.Constant .none j pos) (wC .non) := e_c pe_non fun _ _ _ => .non
theorem e_str {x : Str} {j pos} : E' X (.Constant (.str x) j pos) (wC (.str x)) := e_c pe_str fun _ _ _ => .str x
/-- a module's int -/
theorem e_gint {x : Str} {i : Int} {pos : Pos} (hm : ∃ t, X.mg x = some (.int i t)) (hg : Gl X x := by rfl) (hd : (x == ("__debug__" : Str)) = false := by decide) : E' X (.Name x pos) (wC (.int i)) := by
  obtain ⟨t, hm⟩ := hm
  exact e_c (v := .int i) (pe_glob hg hm ⟨t, rfl⟩ hd) fun _ _ _ => .int i
end

/-! ### two values, one value -/
def w2 (f : D → D → Sto → DQ → Prop) (wa wb : DE) : DE := fun env S R => wa env S fun d S1 => wb env S1 fun e S2 => f d e S2 R
def w1 (f : D → Sto → DQ → Prop) (wa : DE) : DE := fun env S R => wa env S fun d S1 => f d S1 R
/-- what a rule on values has to give -/
abbrev F2 (K : PySem.W.Frag) (r : R2) (f : D → D → Sto → DQ → Prop) : Prop := ∀ (d e : D) (v u : V) (H : Hp) (S : Sto) (R : DQ) (Q : VK), SRep K H S → Rep K H S d v → Rep K H S e u → f d e S R → Res K H S R Q → r v u H Q
theorem lift_op {K : PySem.W.Frag} {r : R2} {f : D → D → Sto → DQ → Prop} {wa wb : DE} (h : F2 K r f) : ∀ σ H Q, lift K (w2 f wa wb) σ H Q → tOp r (lift K wa) (lift K wb) σ H Q := by
  intro σ H Q ⟨env, S, R, l, w, q⟩
  refine ⟨env, S, _, l, w, fun d S1 v H1 w1 r1 g1 d1 => ?_⟩
  refine ⟨env, S1, _, l.grow g1 r1, w1, fun e S2 u H2 w2 r2 g2 d2 => ?_⟩
  exact h d e v u H2 S2 R Q r2 (d1.grow g2) d2 w2 fun d' S' v' H' a b c e => q d' S' v' H' a b ((g1.trans g2).trans c) e
/-- a test's answer -/
def asB (w : DE) : DT := fun env S R => w env S fun d S' => match d with
  | .bl b => R b S'
  | _ => False
theorem lift_test {K : PySem.W.Frag} {w : DE} : ∀ σ H Q, liftT K (asB w) σ H Q → tTest (lift K w) σ H Q := by
  intro σ H Q ⟨env, S, R, l, w1, q⟩
  refine ⟨env, S, _, l, w1, fun d S1 v H1 h r g e => ?_⟩
  cases e with
  | bl b => exact ⟨b, rfl, q b S1 H1 h r g⟩
  | _ => exact h.elim
section
variable {X : Cx} {a b c : Expr} {wa wb wc : DE} {pos : Pos} {op : Operator} {cop : CmpOp} {r r' : R2} {f f' : D → D → Sto → DQ → Prop}
theorem e_op (ho : OpR X (binaryOp op) r) (hf : F2 X.K r f) (ha : E' X a wa) (hb : E' X b wb) : E' X (.BinOp a op b pos) (w2 f wa wb) := PE.mono (pe_op ho ha hb) (lift_op hf)
theorem e_cmp (ho : OpR X (compareOp cop) r) (hf : F2 X.K r f) (ha : E' X a wa) (hb : E' X b wb) (hm : behindInMarks cop b = false) : E' X (.Compare a [cop] [b] pos) (w2 f wa wb) := PE.mono (pe_cmpR ho ha hb hm) (lift_op hf)
theorem t_cmp (ho : OpR X (compareOp cop) r) (hf : F2 X.K r f) (ha : E' X a wa) (hb : E' X b wb) (hm : behindInMarks cop b = false) : T' X (.Compare a [cop] [b] pos) (asB (w2 f wa wb)) :=
  PT.mono (pt_cmpR ho ha hb hm) fun σ H Q h => by
    obtain ⟨env, S, R, l, w, q⟩ := lift_test σ H Q h
    exact lift_op hf σ H _ ⟨env, S, R, l, w, q⟩
end

/-! ### numbers, sums of texts, tuples and lists -/
def dAdd (d e : D) (S : Sto) (R : DQ) : Prop := match d, e with
  | .int i, .int j => R (.int (i + j)) S
  | .tup xs, .tup ys => xs.length + ys.length ≤ sizeLine ∧ R (.tup (xs ++ ys)) S
  | .str x, .str y => x.length + y.length ≤ sizeLine ∧ R (.str (x ++ y)) S
  | .lst xs, .lst ys => xs.length + ys.length ≤ sizeLine ∧ R (.lst (xs ++ ys)) S
  | _, _ => False
def rAll4 (K : PySem.W.Frag) : R2 := fun x y H Q => rI0 (fun i j => .int (i + j)) x y H Q ∨ rCatA K x y H Q ∨ (∃ i j, x = .str i ∧ y = .str j ∧ i.length + j.length ≤ sizeLine ∧ Q (.str (i ++ j)) H) ∨ rCat x y H Q
theorem f_add {K : PySem.W.Frag} : F2 K (rAll4 K) dAdd := by
  intro d e v u H S R Q r hd he h k
  cases d with
  | int i => cases e with
    | int j => cases hd; cases he; exact .inl ⟨i, j, rfl, rfl, k.now r h (.int _)⟩
    | _ => exact h.elim
  | tup xs => cases e with
    | tup ys =>
      cases hd with | tup ha hx => cases he with | tup hb hy =>
      refine .inr (.inl ⟨_, _, _, _, rfl, rfl, SqT.of ha, SqT.of hb, by rw [← hx.length, ← hy.length]; exact h.1, fun z => ?_, fun z z' => ?_, fun z z' p hp => ?_⟩)
      · subst z; cases hx; exact k.now r h.2 (.tup hb hy)
      · subst z'; cases hy
        have h2 := h.2
        rw [List.append_nil] at h2
        exact k.now r h2 (.tup ha hx)
      · exact k.tup r h.2 (hx.append hy) hp
    | _ => exact h.elim
  | str x => cases e with
    | str y => cases hd; cases he; exact .inr (.inr (.inl ⟨_, _, rfl, rfl, h.1, k.now r h.2 (.str _)⟩))
    | _ => exact h.elim
  | lst xs => cases e with
    | lst ys =>
      cases hd with | lst ha hx => cases he with | lst hb hy =>
      exact .inr (.inr (.inr ⟨_, _, _, _, rfl, rfl, ha.1, hb.1, by rw [← hx.length, ← hy.length]; exact h.1, fun p hp => k.lst r h.2 (hx.append hy) hp⟩))
    | _ => exact h.elim
  | _ => exact h.elim
def dInt2 (C : Int → Int → Prop) (g : Int → Int → Int) (d e : D) (S : Sto) (R : DQ) : Prop := match d, e with
  | .int i, .int j => C i j ∧ R (.int (g i j)) S
  | _, _ => False
theorem f_int2 {K : PySem.W.Frag} {C : Int → Int → Prop} {g : Int → Int → Int} : F2 K (rI C fun i j => .int (g i j)) (dInt2 C g) := by
  intro d e v u H S R Q r hd he h k
  cases d with
  | int i => cases e with
    | int j => cases hd; cases he; exact ⟨i, j, rfl, rfl, h.1, k.now r h.2 (.int _)⟩
    | _ => exact h.elim
  | _ => exact h.elim
def dInt0 (g : Int → Int → Int) (d e : D) (S : Sto) (R : DQ) : Prop := match d, e with
  | .int i, .int j => R (.int (g i j)) S
  | _, _ => False
theorem f_int0 {K : PySem.W.Frag} {g : Int → Int → Int} : F2 K (rI0 fun i j => .int (g i j)) (dInt0 g) := by
  intro d e v u H S R Q r hd he h k
  cases d with
  | int i => cases e with
    | int j => cases hd; cases he; exact ⟨i, j, rfl, rfl, k.now r h (.int _)⟩
    | _ => exact h.elim
  | _ => exact h.elim
def dIntB (g : Int → Int → Bool) (d e : D) (S : Sto) (R : DQ) : Prop := match d, e with
  | .int i, .int j => R (.bl (g i j)) S
  | _, _ => False
theorem f_intB {K : PySem.W.Frag} {g : Int → Int → Bool} : F2 K (rI0 fun i j => .bl (g i j)) (dIntB g) := by
  intro d e v u H S R Q r hd he h k
  cases d with
  | int i => cases e with
    | int j => cases hd; cases he; exact ⟨i, j, rfl, rfl, k.now r h (.bl _)⟩
    | _ => exact h.elim
  | _ => exact h.elim
abbrev wAdd := w2 dAdd
abbrev wSub := w2 (dInt0 fun i j => i - j)
abbrev wMul := w2 (dInt2 CMul fun i j => i * j)
abbrev wDiv := w2 (dInt2 CDiv fun i j => i / j)
abbrev wMod := w2 (dInt2 (fun _ j => 0 < j) fun i j => i % j)
abbrev wPow := w2 (dInt2 CPow fun i j => i ^ j.toNat)
abbrev dLt := dIntB fun i j => decide (i < j)
abbrev dLe := dIntB fun i j => decide (i ≤ j)
abbrev dGt := dIntB fun i j => decide (j < i)
abbrev dGe := dIntB fun i j => decide (j ≤ i)
section
variable {X : Cx} {a b : Expr} {wa wb : DE} {pos : Pos}
theorem e_add (ha : E' X a wa) (hb : E' X b wb) : E' X (.BinOp a .Add b pos) (wAdd wa wb) := e_op (op_add.or (op_catA.or (op_add_str.or op_cat))) f_add ha hb
theorem e_sub (ha : E' X a wa) (hb : E' X b wb) : E' X (.BinOp a .Sub b pos) (wSub wa wb) := e_op op_sub f_int0 ha hb
theorem e_mul (ha : E' X a wa) (hb : E' X b wb) : E' X (.BinOp a .Mult b pos) (wMul wa wb) := e_op op_mul f_int2 ha hb
theorem e_div (ha : E' X a wa) (hb : E' X b wb) : E' X (.BinOp a .FloorDiv b pos) (wDiv wa wb) := e_op op_fdiv f_int2 ha hb
theorem e_mod (ha : E' X a wa) (hb : E' X b wb) : E' X (.BinOp a .Mod b pos) (wMod wa wb) := e_op op_mod f_int2 ha hb
theorem e_pow (ha : E' X a wa) (hb : E' X b wb) : E' X (.BinOp a .Pow b pos) (wPow wa wb) := e_op op_pow f_int2 ha hb
theorem e_lt (ha : E' X a wa) (hb : E' X b wb) : E' X (.Compare a [.Lt] [b] pos) (w2 dLt wa wb) := e_cmp op_lt f_intB ha hb (nomark _)
theorem e_le (ha : E' X a wa) (hb : E' X b wb) : E' X (.Compare a [.LtE] [b] pos) (w2 dLe wa wb) := e_cmp op_le f_intB ha hb (nomark _)
theorem e_gt (ha : E' X a wa) (hb : E' X b wb) : E' X (.Compare a [.Gt] [b] pos) (w2 dGt wa wb) := e_cmp op_gt f_intB ha hb (nomark _)
theorem e_ge (ha : E' X a wa) (hb : E' X b wb) : E' X (.Compare a [.GtE] [b] pos) (w2 dGe wa wb) := e_cmp op_ge f_intB ha hb (nomark _)
theorem t_lt (ha : E' X a wa) (hb : E' X b wb) : T' X (.Compare a [.Lt] [b] pos) (asB (w2 dLt wa wb)) := t_cmp op_lt f_intB ha hb (nomark _)
theorem t_le (ha : E' X a wa) (hb : E' X b wb) : T' X (.Compare a [.LtE] [b] pos) (asB (w2 dLe wa wb)) := t_cmp op_le f_intB ha hb (nomark _)
theorem t_gt (ha : E' X a wa) (hb : E' X b wb) : T' X (.Compare a [.Gt] [b] pos) (asB (w2 dGt wa wb)) := t_cmp op_gt f_intB ha hb (nomark _)
theorem t_ge (ha : E' X a wa) (hb : E' X b wb) : T' X (.Compare a [.GtE] [b] pos) (asB (w2 dGe wa wb)) := t_cmp op_ge f_intB ha hb (nomark _)
end

/-! ### is None -/
def isNon : D → Bool
  | .non => true
  | _ => false
def dIsN (d e : D) (S : Sto) (R : DQ) : Prop := match e with
  | .non => R (.bl (isNon d)) S
  | _ => False
def dNotN (d e : D) (S : Sto) (R : DQ) : Prop := match e with
  | .non => R (.bl (!isNon d)) S
  | _ => False
theorem isNon_rep {K : PySem.W.Frag} {H : Hp} {S : Sto} {d : D} {v : V} (h : Rep K H S d v) : decide (v = .non) = isNon d := by
  cases h with
  | non => rfl
  | _ => exact decide_eq_false (fun z => by cases z)
section
variable {X : Cx} {a b : Expr} {wa wb : DE} {pos : Pos}
theorem f_isN {K : PySem.W.Frag} : F2 K (fun x y H Q => y = .non ∧ Q (.bl (decide (x = .non))) H) dIsN := by
  intro d e v u H S R Q r hd he h k
  cases e with
  | non => cases he; refine ⟨rfl, ?_⟩; rw [isNon_rep hd]; exact k.now r h (.bl _)
  | _ => exact h.elim
theorem f_notN {K : PySem.W.Frag} : F2 K (fun x y H Q => y = .non ∧ Q (.bl (!decide (x = .non))) H) dNotN := by
  intro d e v u H S R Q r hd he h k
  cases e with
  | non => cases he; refine ⟨rfl, ?_⟩; rw [isNon_rep hd]; exact k.now r h (.bl _)
  | _ => exact h.elim
theorem e_isN (ha : E' X a wa) (hb : E' X b wb) : E' X (.Compare a [.Is] [b] pos) (w2 dIsN wa wb) := e_cmp op_isN f_isN ha hb (nomark _)
theorem t_isN (ha : E' X a wa) (hb : E' X b wb) : T' X (.Compare a [.Is] [b] pos) (asB (w2 dIsN wa wb)) := t_cmp op_isN f_isN ha hb (nomark _)
theorem e_notN (ha : E' X a wa) (hb : E' X b wb) : E' X (.Compare a [.IsNot] [b] pos) (w2 dNotN wa wb) := e_cmp op_notN f_notN ha hb (nomark _)
theorem t_notN (ha : E' X a wa) (hb : E' X b wb) : T' X (.Compare a [.IsNot] [b] pos) (asB (w2 dNotN wa wb)) := t_cmp op_notN f_notN ha hb (nomark _)
end

/-! ### == of data -/
mutual
def toP : D → PyData
  | .non => .none
  | .bl b => .bool b
  | .int i => .int i
  | .str x => .str x
  | .tup ds => .tuple (toPs ds)
  | .lst ds => .list (toPs ds)
  | .seq ds => .list (toPs ds)
  | .loc _ => .none
def toPs : List D → List PyData
  | [] => []
  | d :: ds => toP d :: toPs ds
end
mutual
/-- no loc within -/
def pure : D → Bool
  | .loc _ => false
  | .tup ds => pures ds
  | .lst ds => pures ds
  | .seq ds => pures ds
  | _ => true
def pures : List D → Bool
  | [] => true
  | d :: ds => pure d && pures ds
end
/-- data that == can look at: no loc, not deep -/
def okEq (d : D) : Bool := pure d && SeqAt.shaped (toP d)
/-- == of data -/
def eqD (d e : D) : Bool := PyData.eqv (toP d) (toP e)
mutual
theorem Rep.dp {K : PySem.W.Frag} {H : Hp} {S : Sto} : ∀ {d : D} {v : V}, Rep K H S d v → pure d = true → Dp K H v (toP d)
  | _, _, .non, _ => .non
  | _, _, .bl b, _ => .bl b
  | _, _, .int i, _ => .int i
  | _, _, .str x, _ => .str x
  | _, _, .tup h r, p => .tup (SqT.of h) (Reps.dp r p)
  | _, _, .lst h r, p => .lst h.sq (Reps.dp r p)
  | _, _, .seq h r, p => .lst h.sq (Reps.dp r p)
  | _, _, .loc a, p => nomatch p
theorem Reps.dp {K : PySem.W.Frag} {H : Hp} {S : Sto} : ∀ {ds : List D} {vs : List V}, Reps K H S ds vs → pures ds = true → DpAll K H vs (toPs ds)
  | _, _, .nil, _ => .nil
  | d :: ds, _, .cons h r, p => .cons (Rep.dp h (Bool.and_eq_true_iff.mp (show (pure d && pures ds) = true from p)).1) (Reps.dp r (Bool.and_eq_true_iff.mp (show (pure d && pures ds) = true from p)).2)
end
@[irreducible] def dEq (d e : D) (S : Sto) (R : DQ) : Prop := okEq d = true ∧ okEq e = true ∧ R (.bl (eqD d e)) S
@[irreducible] def dNe (d e : D) (S : Sto) (R : DQ) : Prop := okEq d = true ∧ okEq e = true ∧ R (.bl (!eqD d e)) S
theorem f_eq {K : PySem.W.Frag} : F2 K (rEqD K) dEq := by
  intro d e v u H S R Q r hd he hh k
  first | unfold dEq at hh | unfold dNe at hh
  obtain ⟨h1, h2, h⟩ := hh
  obtain ⟨p1, s1⟩ := Bool.and_eq_true_iff.mp h1
  obtain ⟨p2, s2⟩ := Bool.and_eq_true_iff.mp h2
  exact ⟨_, _, hd.dp p1, he.dp p2, s1, s2, k.now r h (.bl _)⟩
theorem f_ne {K : PySem.W.Frag} : F2 K (rNeD K) dNe := by
  intro d e v u H S R Q r hd he hh k
  first | unfold dEq at hh | unfold dNe at hh
  obtain ⟨h1, h2, h⟩ := hh
  obtain ⟨p1, s1⟩ := Bool.and_eq_true_iff.mp h1
  obtain ⟨p2, s2⟩ := Bool.and_eq_true_iff.mp h2
  exact ⟨_, _, hd.dp p1, he.dp p2, s1, s2, k.now r h (.bl _)⟩
section
variable {X : Cx} {a b : Expr} {wa wb : DE} {pos : Pos} {j : Nat}
theorem e_eq (hr : Room j X.A) (ha : E' X a wa) (hb : E' X b wb) : E' X (.Compare a [.Eq] [b] pos) (w2 dEq wa wb) := e_cmp (op_eqD hr.units) f_eq ha hb (nomark _)
theorem t_eq (hr : Room j X.A) (ha : E' X a wa) (hb : E' X b wb) : T' X (.Compare a [.Eq] [b] pos) (asB (w2 dEq wa wb)) := t_cmp (op_eqD hr.units) f_eq ha hb (nomark _)
theorem e_ne (hr : Room j X.A) (ha : E' X a wa) (hb : E' X b wb) : E' X (.Compare a [.NotEq] [b] pos) (w2 dNe wa wb) := e_cmp (op_neD hr.units) f_ne ha hb (nomark _)
theorem t_ne (hr : Room j X.A) (ha : E' X a wa) (hb : E' X b wb) : T' X (.Compare a [.NotEq] [b] pos) (asB (w2 dNe wa wb)) := t_cmp (op_neD hr.units) f_ne ha hb (nomark _)
end

/-! ### chains of comparisons -/
def wChain (f f' : D → D → Sto → DQ → Prop) (wa wb wc : DE) : DE := fun env S R => wa env S fun d S1 => wb env S1 fun e S2 => f d e S2 fun x S3 => match x with
  | .bl true => wc env S3 fun g S4 => f' e g S4 R
  | .bl false => R (.bl false) S3
  | _ => False
theorem lift_chain {K : PySem.W.Frag} {r r' : R2} {f f' : D → D → Sto → DQ → Prop} {wa wb wc : DE} (h : F2 K r f) (h' : F2 K r' f') : ∀ σ H Q, lift K (wChain f f' wa wb wc) σ H Q → tChain r r' (lift K wa) (lift K wb) (lift K wc) σ H Q := by
  intro σ H Q ⟨env, S, R, l, w, q⟩
  refine ⟨env, S, _, l, w, fun d S1 v H1 w1 r1 g1 d1 => ?_⟩
  refine ⟨env, S1, _, l.grow g1 r1, w1, fun e S2 u H2 w2 r2 g2 d2 => ?_⟩
  refine h d e v u H2 S2 _ _ r2 (d1.grow g2) d2 w2 fun x S3 v3 H3 w3 r3 g3 d3 => ?_
  cases d3 with
  | bl b =>
    refine ⟨b, rfl, ?_⟩
    cases b with
    | true =>
      rw [if_pos rfl]
      refine ⟨env, S3, _, ((l.grow g1 r1).grow g2 r2).grow g3 r3, w3, fun y S4 v4 H4 w4 r4 g4 d4 => ?_⟩
      exact h' e y u v4 H4 S4 R Q r4 ((d2.grow g3).grow g4) d4 w4 fun d' S' v' H' a b c e => q d' S' v' H' a b ((((g1.trans g2).trans g3).trans g4).trans c) e
    | false =>
      rw [if_neg Bool.false_ne_true]
      exact q _ S3 _ H3 w3 r3 ((g1.trans g2).trans g3) (.bl _)
  | _ => exact w3.elim
section
variable {X : Cx} {a b c : Expr} {wa wb wc : DE} {pos : Pos} {o o' : CmpOp} {r r' : R2} {f f' : D → D → Sto → DQ → Prop}
theorem e_chain (ho : OpR X (compareOp o) r) (hf : F2 X.K r f) (ho' : OpR X (compareOp o') r') (hf' : F2 X.K r' f') (ha : E' X a wa) (hb : E' X b wb) (hc : E' X c wc) (hm : lastMarks [o, o'] [b, c] = false := by with_unfolding_all rfl) :
    E' X (.Compare a [o, o'] [b, c] pos) (wChain f f' wa wb wc) := PE.mono (pe_chain ho ho' ha hb hc hm) (lift_chain hf hf')
theorem t_chain (ho : OpR X (compareOp o) r) (hf : F2 X.K r f) (ho' : OpR X (compareOp o') r') (hf' : F2 X.K r' f') (ha : E' X a wa) (hb : E' X b wb) (hc : E' X c wc) (hm : lastMarks [o, o'] [b, c] = false := by with_unfolding_all rfl) :
    T' X (.Compare a [o, o'] [b, c] pos) (asB (wChain f f' wa wb wc)) := PT.mono (pt_chain ho ho' ha hb hc hm) fun σ H Q h => by
    obtain ⟨env, S, R, l, w, q⟩ := lift_test σ H Q h
    exact lift_chain hf hf' σ H _ ⟨env, S, R, l, w, q⟩
end

/-! ### and, or, not, if -/
def wAnd (wa wb : DE) : DE := fun env S R => wa env S fun d S1 => match d with
  | .bl true => wb env S1 R
  | .bl false => R (.bl false) S1
  | _ => False
def wOr (wa wb : DE) : DE := fun env S R => wa env S fun d S1 => match d with
  | .bl true => R (.bl true) S1
  | .bl false => wb env S1 R
  | _ => False
def wNot (wa : DE) : DE := fun env S R => wa env S fun d S1 => match d with
  | .bl b => R (.bl (!b)) S1
  | _ => False
def tAnd' (a b : DT) : DT := fun env S R => a env S fun c S1 => match c with
  | true => b env S1 R
  | false => R false S1
def tOr' (a b : DT) : DT := fun env S R => a env S fun c S1 => match c with
  | true => R true S1
  | false => b env S1 R
def tNot' (a : DT) : DT := fun env S R => a env S fun c S1 => R (!c) S1
def wIf (t : DT) (a b : DE) : DE := fun env S R => t env S fun c S1 => match c with
  | true => a env S1 R
  | false => b env S1 R
section
variable {X : Cx} {a b c : Expr} {rest : List Expr} {wa wb : DE} {ta tb : DT} {pos : Pos}
theorem e_one {op : BoolOp} (h : E' X a wa) : E' X (.BoolOp op [a] pos) wa := pe_one h
theorem e_and (ha : E' X a wa) (hb : E' X (.BoolOp .And (b :: rest) pos) wb) : E' X (.BoolOp .And (a :: b :: rest) pos) (wAnd wa wb) := PE.mono (pe_and ha hb) fun σ H Q ⟨env, S, R, l, w, q⟩ => by
  refine ⟨env, S, _, l, w, fun d S1 v H1 w1 r1 g1 d1 => ?_⟩
  cases d1 with
  | bl b =>
    refine ⟨b, rfl, ?_⟩
    cases b with
    | true => rw [if_pos rfl]; exact ⟨env, S1, R, l.grow g1 r1, w1, fun d' S' v' H' a b c e => q d' S' v' H' a b (g1.trans c) e⟩
    | false => rw [if_neg Bool.false_ne_true]; exact q _ S1 _ H1 w1 r1 g1 (.bl _)
  | _ => exact w1.elim
theorem e_or (ha : E' X a wa) (hb : E' X (.BoolOp .Or (b :: rest) pos) wb) : E' X (.BoolOp .Or (a :: b :: rest) pos) (wOr wa wb) := PE.mono (pe_or ha hb) fun σ H Q ⟨env, S, R, l, w, q⟩ => by
  refine ⟨env, S, _, l, w, fun d S1 v H1 w1 r1 g1 d1 => ?_⟩
  cases d1 with
  | bl b =>
    refine ⟨b, rfl, ?_⟩
    cases b with
    | false => rw [if_neg Bool.false_ne_true]; exact ⟨env, S1, R, l.grow g1 r1, w1, fun d' S' v' H' a b c e => q d' S' v' H' a b (g1.trans c) e⟩
    | true => rw [if_pos rfl]; exact q _ S1 _ H1 w1 r1 g1 (.bl _)
  | _ => exact w1.elim
theorem e_not (ha : E' X a wa) : E' X (.UnaryOp .Not a pos) (wNot wa) := PE.mono (pe_not ha) fun σ H Q ⟨env, S, R, l, w, q⟩ => by
  refine ⟨env, S, _, l, w, fun d S1 v H1 w1 r1 g1 d1 => ?_⟩
  cases d1 with
  | bl b => exact ⟨b, rfl, q _ S1 _ H1 w1 r1 g1 (.bl _)⟩
  | _ => exact w1.elim
/-- a value's test, of an expression that is no comparison, and, or, not -/
theorem t_val (h : E' X a wa) (he : ∀ whole, isTrue a X.env whole = (do let v ← whole; standAt a.pos; holding [v] (truthy v)) := by intro _; rfl) : T' X a (asB wa) :=
  PT.mono (pt_val h he) fun σ H Q q => by
    obtain ⟨env, S, R, l, w, k⟩ := lift_test σ H Q q
    exact ⟨env, S, R, l, w, k⟩
theorem w_and1 (h : T' X a ta) : W' X (.BoolOp .And [a] pos) ta := pw_and1 h
theorem w_or1 (h : T' X a ta) : W' X (.BoolOp .Or [a] pos) ta := pw_or1 h
theorem PW.mono {X : Cx} {e : Expr} {t t' : TT} (h : PW X e t) (m : ∀ σ H Q, t' σ H Q → t σ H Q) : PW X e t' := ⟨fun wh pins s σ H Q I q => h.run wh pins s σ H Q I (m σ H Q q)⟩
theorem w_and (ha : T' X a ta) (hb : W' X (.BoolOp .And (b :: rest) pos) tb) : W' X (.BoolOp .And (a :: b :: rest) pos) (tAnd' ta tb) := PW.mono (pw_and ha hb) fun σ H Q ⟨env, S, R, l, w, q⟩ => by
  refine ⟨env, S, _, l, w, fun c S1 H1 w1 r1 g1 => ?_⟩
  cases c with
  | true => rw [if_pos rfl]; exact ⟨env, S1, R, l.grow g1 r1, w1, fun b S' H' a c d => q b S' H' a c (g1.trans d)⟩
  | false => rw [if_neg Bool.false_ne_true]; exact q _ S1 H1 w1 r1 g1
theorem w_or (ha : T' X a ta) (hb : W' X (.BoolOp .Or (b :: rest) pos) tb) : W' X (.BoolOp .Or (a :: b :: rest) pos) (tOr' ta tb) := PW.mono (pw_or ha hb) fun σ H Q ⟨env, S, R, l, w, q⟩ => by
  refine ⟨env, S, _, l, w, fun c S1 H1 w1 r1 g1 => ?_⟩
  cases c with
  | false => rw [if_neg Bool.false_ne_true]; exact ⟨env, S1, R, l.grow g1 r1, w1, fun b S' H' a c d => q b S' H' a c (g1.trans d)⟩
  | true => rw [if_pos rfl]; exact q _ S1 H1 w1 r1 g1
theorem t_bop (h : W' X a ta) : T' X a ta := h.pt
theorem t_not (ha : T' X a ta) : T' X (.UnaryOp .Not a pos) (tNot' ta) := PT.mono (pt_not ha) fun σ H Q ⟨env, S, R, l, w, q⟩ => ⟨env, S, _, l, w, fun c S1 H1 w1 r1 g1 => q _ S1 H1 w1 r1 g1⟩
theorem e_if (hc : T' X c ta) (ha : E' X a wa) (hb : E' X b wb) : E' X (.IfExp c a b pos) (wIf ta wa wb) := PE.mono (pe_ifExp hc ha hb) fun σ H Q ⟨env, S, R, l, w, q⟩ => by
  refine ⟨env, S, _, l, w, fun c S1 H1 w1 r1 g1 => ?_⟩
  cases c with
  | true => rw [if_pos rfl]; exact ⟨env, S1, R, l.grow g1 r1, w1, fun d' S' v' H' a b c e => q d' S' v' H' a b (g1.trans c) e⟩
  | false => rw [if_neg Bool.false_ne_true]; exact ⟨env, S1, R, l.grow g1 r1, w1, fun d' S' v' H' a b c e => q d' S' v' H' a b (g1.trans c) e⟩
end

/-! ### arguments, displays, calls -/
def aNil : DA := fun _ S R => R [] S
def aCons (wa : DE) (wr : DA) : DA := fun env S R => wa env S fun d S1 => wr env S1 fun ds S2 => R (d :: ds) S2
def wTup (wa : DA) : DE := fun env S R => wa env S fun ds S1 => ds.length ≤ sizeLine ∧ R (.tup ds) S1
def wLst (wa : DA) : DE := fun env S R => wa env S fun ds S1 => ds.length ≤ sizeLine ∧ R (.lst ds) S1
/-- a list that is to be changed -/
def wNew (wa : DA) : DE := fun env S R => wa env S fun ds S1 => ds.length ≤ sizeLine ∧ ∀ p, S1 p = none → R (.loc p) (put S1 p (.lst ds))
section
variable {X : Cx} {e : Expr} {es : List Expr} {wa : DE} {wr : DA} {pos : Pos}
theorem a_nil : A' X [] aNil := PA.mono pa_nil fun σ H Q ⟨env, S, R, l, w, q⟩ => q [] S [] H w l.sto Grow.refl .nil
theorem a_cons (ha : E' X e wa) (hr : A' X es wr) (hs : starEach (e :: es) X.env = (false, eval e X.env) :: starEach es X.env := by rfl) : A' X (e :: es) (aCons wa wr) := PA.mono (pa_cons ha hr hs) fun σ H Q ⟨env, S, R, l, w, q⟩ => by
  refine ⟨env, S, _, l, w, fun d S1 v H1 w1 r1 g1 d1 => ?_⟩
  exact ⟨env, S1, _, l.grow g1 r1, w1, fun ds S2 vs H2 w2 r2 g2 d2 => q _ S2 _ H2 w2 r2 (g1.trans g2) (.cons (d1.grow g2) d2)⟩
theorem e_tup {x1} (h : A' X es wr) : E' X (.Tuple es x1 pos) (wTup wr) := PE.mono (pe_tup h) fun σ H Q ⟨env, S, R, l, w, q⟩ => by
  refine ⟨env, S, _, l, w, fun ds S1 vs H1 w1 r1 g1 d1 => ⟨by rw [← d1.length]; exact w1.1, fun p hp => ?_⟩⟩
  exact Res.tup (fun d' S' v' H' a b c e => q d' S' v' H' a b (g1.trans c) e) r1 w1.2 d1 hp
theorem e_lst (h : A' X es wr) : E' X (.List es pos) (wLst wr) := PE.mono (pe_lst h) fun σ H Q ⟨env, S, R, l, w, q⟩ => by
  refine ⟨env, S, _, l, w, fun ds S1 vs H1 w1 r1 g1 d1 => ⟨by rw [← d1.length]; exact w1.1, fun p hp => ?_⟩⟩
  exact Res.lst (fun d' S' v' H' a b c e => q d' S' v' H' a b (g1.trans c) e) r1 w1.2 d1 hp
/-- the new list at p goes into the store -/
theorem new_lst {K : PySem.W.Frag} {H : Hp} {S : Sto} {ds : List D} {vs : List V} {p : Addr} (r : SRep K H S) (d : Reps K H S ds vs) (hp : H p = none) : SRep K (upd H p (.lst vs)) (put S p (.lst ds)) ∧ Grow H S (upd H p (.lst vs)) (put S p (.lst ds)) :=
  have g : Grow H S (upd H p (.lst vs)) (put S p (.lst ds)) := Grow.new hp r
  ⟨fun b x e => by
    by_cases hb : b = p
    · subst hb; rw [put_same] at e; cases e; exact ⟨vs, upd_same, d.grow g⟩
    · rw [put_ne hb] at e; exact (r b x e).grow g (upd_ne hb), g⟩
theorem e_new (h : A' X es wr) : E' X (.List es pos) (wNew wr) := PE.mono (pe_lst h) fun σ H Q ⟨env, S, R, l, w, q⟩ => by
  refine ⟨env, S, _, l, w, fun ds S1 vs H1 w1 r1 g1 d1 => ⟨by rw [← d1.length]; exact w1.1, fun p hp => ?_⟩⟩
  obtain ⟨r2, g2⟩ := new_lst r1 d1 hp
  exact q _ _ _ _ (w1.2 p (r1.free hp)) r2 (g1.trans g2) (.loc p)
end

/-- a def's promise over data -/
abbrev DC := List D → Sto → DQ → Prop
def spL (K : PySem.W.Frag) (c : DC) : Sp := fun vs H Q _ => ∃ ds S R, Reps K H S ds vs ∧ SRep K H S ∧ c ds S R ∧ Res K H S R Q
def wCall (c : DC) (wa : DA) : DE := fun env S R => wa env S fun ds S1 => c ds S1 R
/-- the def x (a global's, a class's method) keeps the promise c -/
structure FnAt (P : Program) (w : World) (K : PySem.W.Frag) (mg : Str → Option Value) (base : Heap) (k : Nat) (x : Str × Option Str) (ps : List Str) (c : DC) : Prop where
  ex : ∃ fd, FnOk P w K mg base CX0 k (He.fAd K x) fd ps (spL K c) ∧ Binds K fd ps [] ∧ PySem.W.keepIn K (.ref (He.fAd K x)) = true
theorem FnAt.mono {P : Program} {w : World} {K : PySem.W.Frag} {mg : Str → Option Value} {base : Heap} {j k : Nat} {x : Str × Option Str} {ps : List Str} {c : DC} (F : FnAt P w K mg base j x ps c) (h : j ≤ k) : FnAt P w K mg base k x ps c :=
  let ⟨fd, a, b, c⟩ := F.ex; ⟨fd, a.mono h, b, c⟩
theorem FnAt.imp {P : Program} {w : World} {K : PySem.W.Frag} {mg : Str → Option Value} {base : Heap} {k : Nat} {x : Str × Option Str} {ps : List Str} {c c' : DC} (F : FnAt P w K mg base k x ps c) (h : ∀ ds S R, c' ds S R → c ds S R) : FnAt P w K mg base k x ps c' :=
  let ⟨fd, a, b, d⟩ := F.ex; ⟨fd, a.imp fun vs H Q E ⟨ds, S, R, h1, h2, h3, h4⟩ => ⟨ds, S, R, h1, h2, h _ _ _ h3, h4⟩, b, d⟩
section
variable {X : Cx} {e : Expr} {es : List Expr} {wa : DE} {wr : DA} {pos p : Pos} {j k : Nat} {x : Str} {ps : List Str} {c : DC}
theorem lift_call {K : PySem.W.Frag} {E : XK} : ∀ σ H Q, lift K (wCall c wr) σ H Q → tCall (spL K c) [] E (liftA K wr) σ H Q := by
  intro σ H Q ⟨env, S, R, l, w, q⟩
  refine ⟨env, S, _, l, w, fun ds S1 vs H1 w1 r1 g1 d1 => ?_⟩
  show spL K c (vs ++ []) H1 Q E
  rw [List.append_nil]
  exact ⟨ds, S1, R, d1, r1, w1, fun d' S' v' H' a b c e => q d' S' v' H' a b (g1.trans c) e⟩
theorem e_call (G : FnAt X.prog X.w X.K X.mg X.base j (x, none) ps c) (hr : Room k X.A) (hm : X.mg x = some (.ref (He.ga X.K x))) (ha : A' X (e :: es) wr) (hj : j ≤ k := by decide) (hg : Gl X x := by rfl) (hdb : (x == ("__debug__" : Str)) = false := by decide)
    (he : starEach (e :: es) X.env = (false, eval e X.env) :: starEach es X.env := by rfl) (hpl : (backTo pos (starEach es X.env)).any (·.1) = false := by rfl) : E' X (.Call (.Name x p) (e :: es) [] pos) (wCall c wr) := by
  obtain ⟨fd, F, b, kp⟩ := G.ex
  exact PE.mono (pe_call F (hr.mono hj) hg hm kp b .nil pass0 ha hdb he hpl) lift_call
end
/-! ### built-ins -/
abbrev F1 (K : PySem.W.Frag) (r : List V → Hp → VK → Prop) (f : List D → Sto → DQ → Prop) : Prop := ∀ (ds : List D) (vs : List V) (H : Hp) (S : Sto) (R : DQ) (Q : VK), SRep K H S → Reps K H S ds vs → f ds S R → Res K H S R Q → r vs H Q
theorem lift_cb {K : PySem.W.Frag} {r : List V → Hp → VK → Prop} {f : List D → Sto → DQ → Prop} {wr : DA} (h : F1 K r f) : ∀ σ H Q, lift K (wCall f wr) σ H Q → tCB r (liftA K wr) σ H Q := by
  intro σ H Q ⟨env, S, R, l, w, q⟩
  refine ⟨env, S, _, l, w, fun ds S1 vs H1 w1 r1 g1 d1 => ?_⟩
  exact h ds vs H1 S1 R Q r1 d1 w1 fun d' S' v' H' a b c e => q d' S' v' H' a b (g1.trans c) e
section
variable {X : Cx} {e : Expr} {es : List Expr} {wr : DA} {pos p : Pos} {x : Str} {id T : String} {r : List V → Hp → VK → Prop} {f : List D → Sto → DQ → Prop}
theorem e_cb (hc : CallR X (.builtin id) r) (hf : F1 X.K r f) (hm : X.mg x = none) (ha : A' X (e :: es) wr) (hv : bootBuiltins x = some (.builtin id) := by decide +kernel) (hg : Gl X x := by rfl) (hn : x ≠ "__name__" := by decide) (hdb : (x == ("__debug__" : Str)) = false := by decide)
    (he : starEach (e :: es) X.env = (false, eval e X.env) :: starEach es X.env := by rfl) (hpl : (backTo pos (starEach es X.env)).any (·.1) = false := by rfl) : E' X (.Call (.Name x p) (e :: es) [] pos) (wCall f wr) :=
  PE.mono (pe_callB hc hg hm hv ha hn hdb he hpl) (lift_cb hf)
theorem e_ct (hc : CallR X (.type T) r) (hf : F1 X.K r f) (hm : X.mg x = none) (ha : A' X (e :: es) wr) (hv : bootBuiltins x = some (.type T) := by decide +kernel) (hg : Gl X x := by rfl) (hn : x ≠ "__name__" := by decide) (hdb : (x == ("__debug__" : Str)) = false := by decide)
    (he : starEach (e :: es) X.env = (false, eval e X.env) :: starEach es X.env := by rfl) (hpl : (backTo pos (starEach es X.env)).any (·.1) = false := by rfl) : E' X (.Call (.Name x p) (e :: es) [] pos) (wCall f wr) :=
  PE.mono (pe_callTy hc hg hm hv ha hn hdb he hpl) (lift_cb hf)
end
end Dd
set_option Elab.async false
set_option linter.all false
set_option maxRecDepth 100000
set_option maxHeartbeats 4000000
/-! Built-ins, subscripts, membership, kinds, methods of lists over data. -/
namespace Dd
open PySem PySem.Spec PyProof.Rows L2

/-- the items of a tuple, a list -/
def seqOf (d : D) (S : Sto) : Option (List D) := match d with
  | .tup xs => some xs
  | .lst xs => some xs
  | .seq xs => some xs
  | .loc a => match S a with
    | some (.lst xs) => some xs
    | _ => none
  | _ => none
theorem seqOf_rep {K : PySem.W.Frag} {H : Hp} {S : Sto} {d : D} {v : V} {xs : List D} (r : SRep K H S) (h : Rep K H S d v) (e : seqOf d S = some xs) : ∃ p vs, v = .ref p ∧ (SqL K H p vs ∨ SqT K H p vs) ∧ Reps K H S xs vs := by
  cases h with
  | tup h q => cases e; exact ⟨_, _, rfl, .inr (SqT.of h), q⟩
  | lst h q => cases e; exact ⟨_, _, rfl, .inl h.sq, q⟩
  | seq h q => cases e; exact ⟨_, _, rfl, .inl h.sq, q⟩
  | loc a =>
    unfold seqOf at e
    cases ha : S a with
    | none => simp [ha] at e
    | some o =>
      cases o with
      | lst ys =>
        simp [ha] at e; subst e
        obtain ⟨vs, e1, q⟩ := r a _ ha
        exact ⟨_, vs, rfl, .inl (.inl (.inl e1)), q⟩
      | _ => simp [ha] at e
  | _ => cases e

/-! ### len -/
def dLen (ds : List D) (S : Sto) (R : DQ) : Prop := match ds with
  | [d] => match seqOf d S with
    | some xs => R (.int xs.length) S
    | none => match d with
      | .str x => x.length ≤ sizeLine ∧ R (.int x.length) S
      | .loc a => match S a with
        | some (.dK kvs) => R (.int kvs.length) S
        | _ => False
      | _ => False
  | _ => False
theorem f_len {K : PySem.W.Frag} : F1 K (fun xs H Q => (∃ x n, xs = [x] ∧ LenV K x H n ∧ Q (.int n) H) ∨ (∃ a kvs, xs = [V.ref a] ∧ H a = some (.dK kvs) ∧ Q (.int kvs.length) H)) dLen := by
  intro ds vs H S R Q r hd h k
  unfold dLen at h
  cases hd with
  | nil => exact h.elim
  | cons h1 t =>
    cases t with
    | cons _ _ => exact h.elim
    | nil =>
      rename_i d v
      simp only at h
      cases e : seqOf d S with
      | some xs =>
        rw [e] at h
        obtain ⟨p, ws, rfl, hs, q⟩ := seqOf_rep r h1 e
        refine .inl ⟨_, ws.length, rfl, ?_, k.now r h (by rw [q.length]; exact .int _)⟩
        rcases hs with hs | hs
        · exact .inl ⟨_, hs, rfl⟩
        · exact .inr ⟨_, hs, rfl⟩
      | none =>
        rw [e] at h
        cases h1 with
        | str x => exact .inl ⟨_, x.length, rfl, ⟨h.1, rfl⟩, k.now r h.2 (.int _)⟩
        | loc a =>
          simp only at h
          cases ha : S a with
          | none => rw [ha] at h; exact h.elim
          | some o =>
            rw [ha] at h
            cases o with
            | dK kvs =>
              obtain ⟨kws, e1, e2, _⟩ := r a _ ha
              refine .inr ⟨a, kws, rfl, e1, ?_⟩
              have : kws.length = kvs.length := by simpa using congrArg List.length e2
              rw [this]
              exact k.now r h (.int _)
            | _ => exact h.elim
        | _ => exact h.elim

/-! ### tuple(xs), list(xs) -/
def dTuple (ds : List D) (S : Sto) (R : DQ) : Prop := match ds with
  | [d] => match seqOf d S with
    | some xs => R (.tup xs) S
    | none => False
  | _ => False
theorem f_tuple {K : PySem.W.Frag} : F1 K (fun xs H Q => ∃ p ys, xs = [.ref p] ∧ ((SqL K H p ys ∧ ∀ l, H l = none → Q (.ref l) (upd H l (.tup ys))) ∨ (SqT K H p ys ∧ Q (.ref p) H))) dTuple := by
  intro ds vs H S R Q r hd h k
  unfold dTuple at h
  cases hd with
  | nil => exact h.elim
  | cons h1 t =>
    cases t with
    | cons _ _ => exact h.elim
    | nil =>
      rename_i d v
      simp only at h
      cases e : seqOf d S with
      | some xs =>
        rw [e] at h
        have hl : ∀ p ws, v = .ref p → SqL K H p ws → Reps K H S xs ws → ∃ p ys, [v] = [.ref p] ∧ ((SqL K H p ys ∧ ∀ l, H l = none → Q (.ref l) (upd H l (.tup ys))) ∨ (SqT K H p ys ∧ Q (.ref p) H)) :=
          fun p ws e1 hs q => by subst e1; exact ⟨p, ws, rfl, .inl ⟨hs, fun l hl => k.tup r h q hl⟩⟩
        cases h1 with
        | tup h1 q1 => cases e; exact ⟨_, _, rfl, .inr ⟨SqT.of h1, k.now r h (.tup h1 q1)⟩⟩
        | lst h1 q1 => cases e; exact hl _ _ rfl h1.sq q1
        | seq h1 q1 => cases e; exact hl _ _ rfl h1.sq q1
        | loc a =>
          have ha : S a = some (.lst xs) := by
            cases q : S a with
            | none => simp [seqOf, q] at e
            | some o =>
              cases o with
              | lst ys => simp [seqOf, q] at e; rw [e]
              | _ => simp [seqOf, q] at e
          obtain ⟨ws, e1, q1⟩ := r a _ ha
          exact hl _ _ rfl (.inl (.inl e1)) q1
        | _ => cases e
      | none => rw [e] at h; exact h.elim
def dList (ds : List D) (S : Sto) (R : DQ) : Prop := match ds with
  | [d] => match seqOf d S with
    | some xs => R (.lst xs) S
    | none => False
  | _ => False
/-- list(xs), to be changed -/
def dListN (ds : List D) (S : Sto) (R : DQ) : Prop := match ds with
  | [d] => match seqOf d S with
    | some xs => ∀ p, S p = none → R (.loc p) (put S p (.lst xs))
    | none => False
  | _ => False
theorem f_list {K : PySem.W.Frag} : F1 K (fun xs H Q => ∃ p ys, xs = [.ref p] ∧ (SqL K H p ys ∨ SqT K H p ys) ∧ ∀ l, H l = none → Q (.ref l) (upd H l (.lst ys))) dList := by
  intro ds vs H S R Q r hd h k
  unfold dList at h
  cases hd with
  | nil => exact h.elim
  | cons h1 t =>
    cases t with
    | cons _ _ => exact h.elim
    | nil =>
      rename_i d v
      simp only at h
      cases e : seqOf d S with
      | some xs =>
        rw [e] at h
        obtain ⟨p, ws, rfl, hs, q⟩ := seqOf_rep r h1 e
        exact ⟨p, ws, rfl, hs, fun l hl => k.lst r h q hl⟩
      | none => rw [e] at h; exact h.elim
theorem f_listN {K : PySem.W.Frag} : F1 K (fun xs H Q => ∃ p ys, xs = [.ref p] ∧ (SqL K H p ys ∨ SqT K H p ys) ∧ ∀ l, H l = none → Q (.ref l) (upd H l (.lst ys))) dListN := by
  intro ds vs H S R Q r hd h k
  unfold dListN at h
  cases hd with
  | nil => exact h.elim
  | cons h1 t =>
    cases t with
    | cons _ _ => exact h.elim
    | nil =>
      rename_i d v
      simp only at h
      cases e : seqOf d S with
      | some xs =>
        rw [e] at h
        obtain ⟨p, ws, rfl, hs, q⟩ := seqOf_rep r h1 e
        refine ⟨p, ws, rfl, hs, fun l hl => ?_⟩
        obtain ⟨r2, g2⟩ := new_lst r q hl
        exact k _ _ _ _ (h l (r.free hl)) r2 g2 (.loc l)
      | none => rw [e] at h; exact h.elim

/-! ### all, any -/
def bools : List D → Option (List Bool)
  | [] => some []
  | .bl b :: ds => (bools ds).map (b :: ·)
  | _ :: _ => none
theorem bools_map : ∀ {ds : List D} {bs : List Bool}, bools ds = some bs → ds = bs.map D.bl
  | [], bs, h => by cases h; rfl
  | .bl b :: ds, bs, h => by
    unfold bools at h
    cases e : bools ds with
    | none => rw [e] at h; cases h
    | some cs => rw [e] at h; cases h; rw [bools_map e]; rfl
  | .non :: _, _, h | .int _ :: _, _, h | .str _ :: _, _, h | .tup _ :: _, _, h | .lst _ :: _, _, h | .seq _ :: _, _, h | .loc _ :: _, _, h => by cases h
theorem bools_of : ∀ bs : List Bool, bools (bs.map D.bl) = some bs
  | [] => rfl
  | b :: bs => by show (bools (bs.map D.bl)).map (b :: ·) = _; rw [bools_of bs]; rfl
@[irreducible] def dFold (f : List Bool → Bool) (ds : List D) (S : Sto) (R : DQ) : Prop := match ds with
  | [.lst xs] => match bools xs with
    | some bs => R (.bl (f bs)) S
    | none => False
  | _ => False
abbrev dAll := dFold fun bs => bs.all id
abbrev dAny := dFold fun bs => bs.any id
theorem f_fold {K : PySem.W.Frag} {f : List Bool → Bool} : F1 K (fun vs H Q => ∃ (a : Addr) (bs : List Bool), vs = [V.ref a] ∧ SqL K H a (bs.map V.bl) ∧ Q (.bl (f bs)) H) (dFold f) := by
  intro ds vs H S R Q r hd h k
  unfold dFold at h
  cases hd with
  | nil => exact h.elim
  | cons h1 t =>
    cases t with
    | cons _ _ => split at h <;> first | exact h.elim | (rename_i e; cases e)
    | nil =>
      cases h1 with
      | lst hs q =>
        rename_i xs a ws
        simp only at h
        cases e : bools xs with
        | none => rw [e] at h; exact h.elim
        | some bs =>
          rw [e] at h
          rw [bools_map e] at q
          rw [Reps.bls_inv q] at hs
          exact ⟨a, bs, rfl, hs.sq, k.now r h (.bl _)⟩
      | _ => exact h.elim

/-! ### abs, int -/
def dAbs (ds : List D) (S : Sto) (R : DQ) : Prop := match ds with
  | [.int i] => R (.int (if i < 0 then -i else i)) S
  | _ => False
theorem f_abs {K : PySem.W.Frag} : F1 K (fun xs H Q => ∃ i, xs = [.int i] ∧ Q (.int (if i < 0 then -i else i)) H) dAbs := by
  intro ds vs H S R Q r hd h k
  cases hd with
  | nil => exact h.elim
  | cons h1 t =>
    cases t with
    | cons _ _ => unfold dAbs at h; split at h <;> first | exact h.elim | (rename_i e; cases e)
    | nil =>
      cases h1 with
      | int i => exact ⟨i, rfl, k.now r h (.int _)⟩
      | _ => exact h.elim
def dInt (ds : List D) (S : Sto) (R : DQ) : Prop := match ds with
  | [.int i] => R (.int i) S
  | _ => False
theorem f_int {K : PySem.W.Frag} : F1 K (fun xs H Q => (∃ i, xs = [.int i] ∧ Q (.int i) H) ∨ ∃ k, xs = [.bl k] ∧ Q (.int (if k then 1 else 0)) H) dInt := by
  intro ds vs H S R Q r hd h k
  cases hd with
  | nil => exact h.elim
  | cons h1 t =>
    cases t with
    | cons _ _ => unfold dInt at h; split at h <;> first | exact h.elim | (rename_i e; cases e)
    | nil =>
      cases h1 with
      | int i => exact .inl ⟨i, rfl, k.now r h (.int _)⟩
      | _ => exact h.elim
section
variable {X : Cx} {e : Expr} {es : List Expr} {wr : DA} {pos p : Pos}
theorem e_len (hm : X.mg "len" = none) (ha : A' X [e] wr) (hg : Gl X "len" := by rfl) (he : starEach [e] X.env = (false, eval e X.env) :: starEach [] X.env := by rfl) : E' X (.Call (.Name "len" p) [e] [] pos) (wCall dLen wr) := e_cb (call_len.or call_lenD) f_len hm ha boot_len hg (he := he)
theorem e_tuple (hm : X.mg "tuple" = none) (ha : A' X [e] wr) (hg : Gl X "tuple" := by rfl) (he : starEach [e] X.env = (false, eval e X.env) :: starEach [] X.env := by rfl) : E' X (.Call (.Name "tuple" p) [e] [] pos) (wCall dTuple wr) := e_ct call_tuple_of f_tuple hm ha (hg := hg) (he := he)
theorem e_list (hm : X.mg "list" = none) (ha : A' X [e] wr) (hg : Gl X "list" := by rfl) (he : starEach [e] X.env = (false, eval e X.env) :: starEach [] X.env := by rfl) : E' X (.Call (.Name "list" p) [e] [] pos) (wCall dList wr) := e_ct call_list_of f_list hm ha (hg := hg) (he := he)
theorem e_listN (hm : X.mg "list" = none) (ha : A' X [e] wr) (hg : Gl X "list" := by rfl) (he : starEach [e] X.env = (false, eval e X.env) :: starEach [] X.env := by rfl) : E' X (.Call (.Name "list" p) [e] [] pos) (wCall dListN wr) := e_ct call_list_of f_listN hm ha (hg := hg) (he := he)
theorem e_all (hm : X.mg "all" = none) (ha : A' X [e] wr) (hc : X.calm = true := by rfl) (hg : Gl X "all" := by rfl) (he : starEach [e] X.env = (false, eval e X.env) :: starEach [] X.env := by rfl) : E' X (.Call (.Name "all" p) [e] [] pos) (wCall dAll wr) := e_cb (cr_all hc) f_fold hm ha (hg := hg) (he := he)
theorem e_any (hm : X.mg "any" = none) (ha : A' X [e] wr) (hc : X.calm = true := by rfl) (hg : Gl X "any" := by rfl) (he : starEach [e] X.env = (false, eval e X.env) :: starEach [] X.env := by rfl) : E' X (.Call (.Name "any" p) [e] [] pos) (wCall dAny wr) := e_cb (cr_any hc) f_fold hm ha (hg := hg) (he := he)
theorem e_abs (hm : X.mg "abs" = none) (ha : A' X [e] wr) (hg : Gl X "abs" := by rfl) (he : starEach [e] X.env = (false, eval e X.env) :: starEach [] X.env := by rfl) : E' X (.Call (.Name "abs" p) [e] [] pos) (wCall dAbs wr) := e_cb call_abs f_abs hm ha (hg := hg) (he := he)
theorem e_int' (hm : X.mg "int" = none) (ha : A' X [e] wr) (hg : Gl X "int" := by rfl) (he : starEach [e] X.env = (false, eval e X.env) :: starEach [] X.env := by rfl) : E' X (.Call (.Name "int" p) [e] [] pos) (wCall dInt wr) := e_ct call_int1 f_int hm ha (hg := hg) (he := he)
end

/-! ### subscripts, slices -/
@[irreducible] def dIx (d e : D) (S : Sto) (R : DQ) : Prop := match seqOf d S, e with
  | some xs, .int i => match atI xs i with
    | some x => R x S
    | none => False
  | _, _ => False
theorem Reps.atI {K : PySem.W.Frag} {H : Hp} {S : Sto} {xs : List D} {vs : List V} (q : Reps K H S xs vs) {i : Int} {x : D} (e : L2.atI xs i = some x) : ∃ v, L2.atI vs i = some v ∧ Rep K H S x v := by
  unfold L2.atI at e ⊢
  rw [← q.length]
  cases h : ixN xs.length i with
  | none => rw [h] at e; cases e
  | some j => rw [h] at e; exact q.get e
theorem f_ix {K : PySem.W.Frag} : F2 K (fun x y H Q => rIxL K x y H Q ∨ rIxT K x y H Q) dIx := by
  intro d e v u H S R Q r hd he h k
  unfold dIx at h
  cases es : seqOf d S with
  | none => rw [es] at h; exact h.elim
  | some xs =>
    rw [es] at h
    cases he with
    | int i =>
      simp only at h
      obtain ⟨p, ws, rfl, hs, q⟩ := seqOf_rep r hd es
      cases ea : atI xs i with
      | none => rw [ea] at h; exact h.elim
      | some x =>
        rw [ea] at h
        obtain ⟨w, ew, rw'⟩ := q.atI ea
        rcases hs with hs | hs
        · exact .inl ⟨p, ws, i, w, rfl, rfl, hs, ew, k.now r h rw'⟩
        · exact .inr ⟨p, ws, i, w, rfl, rfl, hs, ew, k.now r h rw'⟩
    | _ => exact h.elim
/-- a slice's part -/
abbrev DO := Env → Sto → (Option Int → Sto → Prop) → Prop
def oNone : DO := fun _ S R => R none S
def oSome (w : DE) : DO := fun env S R => w env S fun d S1 => match d with
  | .int i => R (some i) S1
  | _ => False
def liftO (K : PySem.W.Frag) (w : DO) : TO := fun σ H Q => ∃ env S R, Lk K H S env σ ∧ w env S R ∧ ∀ o S' H', R o S' → SRep K H' S' → Grow H S H' S' → Q o H'
theorem PO.mono {X : Cx} {e : Option Expr} {t t' : TO} (h : PO X e t) (m : ∀ σ H Q, t' σ H Q → t σ H Q) : PO X e t' := ⟨fun pins s σ H Q I q => h.run pins s σ H Q I (m σ H Q q)⟩
abbrev O' (X : Cx) (e : Option Expr) (w : DO) : Prop := PO X e (liftO X.K w)
/-- the part of a list between two places -/
def cutL {α : Type} (xs : List α) (lo hi : Option Int) : List α := (xs.drop (HT.sIx xs.length 0 lo)).take (HT.sIx xs.length xs.length hi - HT.sIx xs.length 0 lo)
theorem cutL_V (xs : List V) (lo hi : Option Int) : cutL xs lo hi = cutV xs lo hi := rfl
theorem cutL_whole {α : Type} {xs : List α} {lo hi : Option Int} (h1 : HT.sIx xs.length 0 lo = 0) (h2 : HT.sIx xs.length xs.length hi = xs.length) : cutL xs lo hi = xs := by
  unfold cutL; rw [h1, h2, List.drop_zero, Nat.sub_zero, List.take_length]
theorem Reps.cut {K : PySem.W.Frag} {H : Hp} {S : Sto} {xs : List D} {vs : List V} (q : Reps K H S xs vs) (lo hi : Option Int) : Reps K H S (cutL xs lo hi) (cutV vs lo hi) := by
  unfold cutL cutV; rw [q.length]; exact (q.drop _).take _
def wSl (wa : DE) (wl wh : DO) : DE := fun env S R => wa env S fun d S1 => wl env S1 fun lo S2 => wh env S2 fun hi S3 => match d with
  | .tup xs => R (.tup (cutL xs lo hi)) S3
  | .lst xs => R (.lst (cutL xs lo hi)) S3
  | .seq xs => R (.lst (cutL xs lo hi)) S3
  | .loc a => match S3 a with
    | some (.lst xs) => R (.lst (cutL xs lo hi)) S3
    | _ => False
  | _ => False
section
variable {X : Cx} {a b : Expr} {wa wb : DE} {lo hi : Option Expr} {wl wh : DO} {pos p2 : Pos}
theorem e_ix (ha : E' X a wa) (hb : E' X b wb) (hs : PlainIx b := by intro _ _; rfl) : E' X (.Subscript a b pos) (w2 dIx wa wb) := PE.mono (pe_ix (ix_list.or ix_tup) ha hb hs) (lift_op f_ix)
theorem o_none : O' X none oNone := PO.mono po_none fun σ H Q ⟨env, S, R, l, w, q⟩ => q none S H w l.sto Grow.refl
theorem o_some (h : E' X a wa) : O' X (some a) (oSome wa) := PO.mono (po_some h) fun σ H Q ⟨env, S, R, l, w, q⟩ => by
  refine ⟨env, S, _, l, w, fun d S1 v H1 w1 r1 g1 d1 => ?_⟩
  cases d1 with
  | int i => exact ⟨i, rfl, q _ S1 H1 w1 r1 g1⟩
  | _ => exact w1.elim
theorem e_sl (ha : E' X a wa) (hl : O' X lo wl) (hh : O' X hi wh) : E' X (.Subscript a (.Slice lo hi none p2) pos) (wSl wa wl wh) := PE.mono (pe_slice (sl_tupA.or sl_list) ha hl hh) fun σ H Q ⟨env, S, R, l, w, q⟩ => by
  refine ⟨env, S, _, l, w, fun d S1 v H1 w1 r1 g1 d1 => ?_⟩
  refine ⟨env, S1, _, l.grow g1 r1, w1, fun o S2 H2 w2 r2 g2 => ?_⟩
  refine ⟨env, S2, _, (l.grow g1 r1).grow g2 r2, w2, fun o' S3 H3 w3 r3 g3 => ?_⟩
  have k : Res X.K H3 S3 R Q := fun d' S' v' H' a b c e => q d' S' v' H' a b (((g1.trans g2).trans g3).trans c) e
  have d3 := (d1.grow g2).grow g3
  cases d3 with
  | tup ht hq =>
    simp only at w3
    refine .inl ⟨_, _, rfl, SqT.of ht, fun ⟨z1, z2⟩ => ?_, fun z p hp => ?_⟩
    · have := cutL_whole (xs := _) (lo := o) (hi := o') (by rw [hq.length]; exact z1) (by rw [hq.length]; exact z2)
      rw [this] at w3
      exact k.now r3 w3 (.tup ht hq)
    · exact k.tup r3 w3 (hq.cut o o') hp
  | lst hs hq => exact .inr ⟨_, _, rfl, hs.sq, fun p hp => k.lst r3 w3 (hq.cut o o') hp⟩
  | seq hs hq => exact .inr ⟨_, _, rfl, hs.sq, fun p hp => k.lst r3 w3 (hq.cut o o') hp⟩
  | loc a =>
    simp only at w3
    cases ha : S3 a with
    | none => rw [ha] at w3; exact w3.elim
    | some ob =>
      rw [ha] at w3
      cases ob with
      | lst xs =>
        obtain ⟨vs, e1, hq⟩ := r3 a _ ha
        exact .inr ⟨_, _, rfl, .inl (.inl e1), fun p hp => k.lst r3 w3 (hq.cut o o') hp⟩
      | _ => exact w3.elim
  | _ => exact w3.elim
end

/-! ### in -/
def okEqs (xs : List D) : Bool := pures xs && SeqAt.shaped (.list (toPs xs))
@[irreducible] def dInB (neg : Bool) (d e : D) (S : Sto) (R : DQ) : Prop := match seqOf e S with
  | some xs => okEq d = true ∧ okEqs xs = true ∧ R (.bl (xor neg (xs.any fun x => eqD x d))) S
  | none => False
abbrev dIn := dInB false
abbrev dNotIn := dInB true
def rInDT (K : PySem.W.Frag) (neg : Bool) : R2 := fun x y H Q => ∃ d ds, Dp K H x d ∧ (Dp K H y (.list ds) ∨ Dp K H y (.tuple ds)) ∧ SeqAt.shaped d = true ∧ SeqAt.shaped (.list ds) = true ∧ Q (.bl (xor neg (ds.any fun z => PyData.eqv z d))) H
theorem op_inDT {X : Cx} (hu : X.A.units + 65 < cLine) : OpR X (compareOp .In) (rInDT X.K false) := by
  intro pins s σ H x y v u Q I rx ry h
  obtain ⟨d, ds, hd, he, sd, se, q⟩ := h
  rw [Bool.false_xor] at q
  obtain ⟨as, r1⟩ := Dp.reads I d x v hd rx
  have hdep : X.A.units + 1 + min (PyData.depthAll ds) d.depth < cLine := by
    have h1 := SeqAt.depth_of_shaped sd
    have h2 : min (PyData.depthAll ds) d.depth ≤ d.depth := Nat.min_le_right _ _
    omega
  have hcl : PyData.canLayAll0 ds = true := by
    have := SeqAt.canLay_of_shaped se
    simpa only [PyData.canLay0] using this
  rcases he with he | he
  · obtain ⟨bs, r2⟩ := Dp.reads I (.list ds) y u he ry
    exact SeqAt.in_list_reads r2 r1 hcl (SeqAt.canLay_of_shaped sd) hdep ⟨.bl _, H, I, rfl, q⟩
  · obtain ⟨bs, r2⟩ := Dp.reads I (.tuple ds) y u he ry
    exact SeqAt.in_tuple_reads r2 r1 hcl (SeqAt.canLay_of_shaped sd) hdep ⟨.bl _, H, I, rfl, q⟩
theorem op_notInDT {X : Cx} (hu : X.A.units + 65 < cLine) : OpR X (compareOp .NotIn) (rInDT X.K true) := by
  intro pins s σ H x y v u Q I rx ry h
  obtain ⟨d, ds, hd, he, sd, se, q⟩ := h
  rw [Bool.true_xor] at q
  obtain ⟨as, r1⟩ := Dp.reads I d x v hd rx
  have hdep : X.A.units + 1 + min (PyData.depthAll ds) d.depth < cLine := by
    have h1 := SeqAt.depth_of_shaped sd
    have h2 : min (PyData.depthAll ds) d.depth ≤ d.depth := Nat.min_le_right _ _
    omega
  have hcl : PyData.canLayAll0 ds = true := by
    have := SeqAt.canLay_of_shaped se
    simpa only [PyData.canLay0] using this
  rcases he with he | he
  · obtain ⟨bs, r2⟩ := Dp.reads I (.list ds) y u he ry
    exact SeqAt.notIn_list_reads r2 r1 hcl (SeqAt.canLay_of_shaped sd) hdep ⟨.bl _, H, I, rfl, q⟩
  · obtain ⟨bs, r2⟩ := Dp.reads I (.tuple ds) y u he ry
    exact SeqAt.notIn_tuple_reads r2 r1 hcl (SeqAt.canLay_of_shaped sd) hdep ⟨.bl _, H, I, rfl, q⟩
theorem toPs_any (d : D) : ∀ xs : List D, (toPs xs).any (fun z => PyData.eqv z (toP d)) = xs.any fun x => eqD x d
  | [] => by simp [toPs]
  | x :: xs => by simp only [toPs, List.any_cons, toPs_any d xs]; rfl
theorem f_in {K : PySem.W.Frag} {neg : Bool} : F2 K (rInDT K neg) (dInB neg) := by
  intro d e v u H S R Q r hd he h k
  unfold dInB at h
  cases es : seqOf e S with
  | none => rw [es] at h; exact h.elim
  | some xs =>
    rw [es] at h
    obtain ⟨h1, h2, h3⟩ := h
    obtain ⟨p1, s1⟩ := Bool.and_eq_true_iff.mp h1
    obtain ⟨p2, s2⟩ := Bool.and_eq_true_iff.mp h2
    obtain ⟨p, ws, rfl, hs, q⟩ := seqOf_rep r he es
    refine ⟨toP d, toPs xs, hd.dp p1, ?_, s1, s2, ?_⟩
    · rcases hs with hs | hs
      · exact .inl (.lst hs (q.dp p2))
      · exact .inr (.tup hs (q.dp p2))
    · rw [toPs_any]; exact k.now r h3 (.bl _)
theorem room65 {A : Around} {j : Nat} (hr : Room j A) : A.units + 65 < cLine := by have := hr.un; omega
section
variable {X : Cx} {a b : Expr} {wa wb : DE} {pos : Pos} {j : Nat}
theorem e_in (hr : Room j X.A) (ha : E' X a wa) (hb : E' X b wb) (hm : behindInMarks .In b = false := by rfl) : E' X (.Compare a [.In] [b] pos) (w2 dIn wa wb) := e_cmp (op_inDT (room65 hr)) f_in ha hb hm
theorem t_in (hr : Room j X.A) (ha : E' X a wa) (hb : E' X b wb) (hm : behindInMarks .In b = false := by rfl) : T' X (.Compare a [.In] [b] pos) (asB (w2 dIn wa wb)) := t_cmp (op_inDT (room65 hr)) f_in ha hb hm
theorem e_notIn (hr : Room j X.A) (ha : E' X a wa) (hb : E' X b wb) (hm : behindInMarks .NotIn b = false := by rfl) : E' X (.Compare a [.NotIn] [b] pos) (w2 dNotIn wa wb) := e_cmp (op_notInDT (room65 hr)) f_in ha hb hm
theorem t_notIn (hr : Room j X.A) (ha : E' X a wa) (hb : E' X b wb) (hm : behindInMarks .NotIn b = false := by rfl) : T' X (.Compare a [.NotIn] [b] pos) (asB (w2 dNotIn wa wb)) := t_cmp (op_notInDT (room65 hr)) f_in ha hb hm
end

/-! ### isinstance -/
inductive Ty where
  | non | bl | int | str | tup | lst | dic
  deriving DecidableEq
def Ty.nm : Ty → String
  | .non => "NoneType" | .bl => "bool" | .int => "int" | .str => "str" | .tup => "tuple" | .lst => "list" | .dic => "dict"
def tyD (d : D) (S : Sto) : Option Ty := match d with
  | .non => some .non | .bl _ => some .bl | .int _ => some .int | .str _ => some .str | .tup _ => some .tup | .lst _ => some .lst | .seq _ => some .lst
  | .loc a => match S a with
    | some (.lst _) => some .lst
    | some (.dK _) => some .dic
    | some (.dT _) => some .dic
    | _ => none
/-- an object of the one is one of the other -/
def Ty.sub (a b : Ty) : Bool := decide (a = b) || (decide (a = .bl) && decide (b = .int))
theorem kit_sub : ∀ a b : Ty, kitB a.nm b.nm = some (a.sub b) := by
  intro a b
  cases a <;> cases b <;> decide +kernel
theorem tyX_rep {K : PySem.W.Frag} {H : Hp} {S : Sto} {d : D} {v : V} {t : Ty} (r : SRep K H S) (h : Rep K H S d v) (e : tyD d S = some t) : TyX K H v (.type t.nm) := by
  cases h with
  | non => cases e; exact .base .non
  | bl b => cases e; exact .base (.bl b)
  | int i => cases e; exact .base (.int i)
  | str x => cases e; exact .base (.str x)
  | tup h q =>
    cases e
    exact .base (.tup h)
  | lst h q => cases e; exact .base (.lst h.1)
  | seq h q =>
    cases e
    rcases h with ⟨o, h⟩ | ⟨o, its, n, h1, h2, _⟩
    · exact .base (.frz h)
    · exact .kList h1 h2
  | loc a =>
    unfold tyD at e
    cases ha : S a with
    | none => simp [ha] at e
    | some o =>
      cases o with
      | lst xs => simp [ha] at e; subst e; obtain ⟨vs, e1, _⟩ := r a _ ha; exact .base (.lst e1)
      | dK xs => simp [ha] at e; subst e; obtain ⟨vs, e1, _⟩ := r a _ ha; exact .base (.dK e1)
      | dT xs => simp [ha] at e; subst e; obtain ⟨vs, e1, _⟩ := r a _ ha; exact .base (.dT e1)
      | obj c fs => simp [ha] at e
def wIsi (T : Ty) (wa : DE) : DE := fun env S R => wa env S fun d S1 => match tyD d S1 with
  | some t => R (.bl (t.sub T)) S1
  | none => False
def wIsi2 (T U : Ty) (wa : DE) : DE := fun env S R => wa env S fun d S1 => match tyD d S1 with
  | some t => R (.bl (t.sub T || t.sub U)) S1
  | none => False
section
variable {X : Cx} {a : Expr} {wa : DE} {pos p p2 p3 : Pos} {n n2 : Str}
theorem ty_name {n : Str} {T : Ty} {p : Pos} (hm : X.mg n = none) (hv : bootBuiltins n = some (.type T.nm)) (hg : Gl X n) (hn : n ≠ "__name__") (hdb : (n == ("__debug__" : Str)) = false) : PE X (.Name n p) (tC (.ty T.nm)) := pe_bltn hg hm hv rfl hn hdb
theorem e_isi (T : Ty) (hm : X.mg "isinstance" = none) (hmT : X.mg n = none) (ha : E' X a wa) (hg : Gl X "isinstance" := by rfl) (hv : bootBuiltins n = some (.type T.nm) := by decide +kernel) (hgT : Gl X n := by rfl) (hn : n ≠ "__name__" := by decide) (hdb : (n == ("__debug__" : Str)) = false := by decide)
    (he : starEach [a, .Name n p2] X.env = (false, eval a X.env) :: starEach [.Name n p2] X.env := by rfl) (hpl : (backTo pos (starEach [.Name n p2] X.env)).any (·.1) = false := by rfl) : E' X (.Call (.Name "isinstance" p) [a, .Name n p2] [] pos) (wIsi T wa) :=
  PE.mono (pe_callB call_isi hg hm (by decide +kernel) (pa_cons ha (pa_cons (ty_name hmT hv hgT hn hdb) pa_nil) he) (he := he) (hpl := hpl)) fun σ H Q ⟨env, S, R, l, w, q⟩ => by
    refine ⟨env, S, _, l, w, fun d S1 v H1 w1 r1 g1 d1 => ?_⟩
    cases e : tyD d S1 with
    | none => rw [e] at w1; exact w1.elim
    | some t =>
      rw [e] at w1
      exact ⟨v, .ty T.nm, .type t.nm, .type T.nm, t.sub T, rfl, .ty _, tyX_rep r1 d1 e, kit_ty (kit_sub t T), q _ S1 _ H1 w1 r1 g1 (.bl _)⟩
theorem e_isi2 (T U : Ty) {k : Nat} (hm : X.mg "isinstance" = none) (hmT : X.mg n = none) (hmU : X.mg n2 = none) (ha : E' X a wa) (hg : Gl X "isinstance" := by rfl) (hv : bootBuiltins n = some (.type T.nm) := by decide +kernel) (hgT : Gl X n := by rfl) (hn : n ≠ "__name__" := by decide) (hdb : (n == ("__debug__" : Str)) = false := by decide)
    (hv2 : bootBuiltins n2 = some (.type U.nm) := by decide +kernel) (hgU : Gl X n2 := by rfl) (hn2 : n2 ≠ "__name__" := by decide) (hdb2 : (n2 == ("__debug__" : Str)) = false := by decide)
    (he : starEach [a, .Tuple [.Name n p2, .Name n2 p3] k p3] X.env = (false, eval a X.env) :: starEach [.Tuple [.Name n p2, .Name n2 p3] k p3] X.env := by rfl) {pt : Pos}
    (he' : starEach [a, .Tuple [.Name n p2, .Name n2 p3] k pt] X.env = (false, eval a X.env) :: starEach [.Tuple [.Name n p2, .Name n2 p3] k pt] X.env := by rfl)
    (hpl : (backTo pos (starEach [.Tuple [.Name n p2, .Name n2 p3] k pt] X.env)).any (·.1) = false := by rfl) : E' X (.Call (.Name "isinstance" p) [a, .Tuple [.Name n p2, .Name n2 p3] k pt] [] pos) (wIsi2 T U wa) :=
  PE.mono (pe_callB call_isiT hg hm (by decide +kernel) (pa_cons ha (pa_cons (pe_tup (pa_cons (ty_name hmT hv hgT hn hdb) (pa_cons (ty_name hmU hv2 hgU hn2 hdb2) pa_nil))) pa_nil) he') (he := he') (hpl := hpl)) fun σ H Q ⟨env, S, R, l, w, q⟩ => by
    refine ⟨env, S, _, l, w, fun d S1 v H1 w1 r1 g1 d1 => ⟨by show 2 ≤ sizeLine; decide, fun t ht => ?_⟩⟩
    cases e : tyD d S1 with
    | none => rw [e] at w1; exact w1.elim
    | some ty =>
      rw [e] at w1
      have gl : Grow H1 S1 (upd H1 t (.tup [.ty T.nm, .ty U.nm])) S1 := Grow.lay ht
      refine ⟨v, t, [.ty T.nm, .ty U.nm], .type ty.nm, [.type T.nm, .type U.nm], ty.sub T || ty.sub U, rfl, upd_same, .cons (.ty _) (.cons (.ty _) .nil), tyX_rep (r1.lay ht) (d1.grow gl) e, ?_, q _ S1 _ _ w1 (r1.lay ht) (g1.trans gl) (.bl _)⟩
      refine kitAny_cons (kit_ty (kit_sub ty T)) (fun h => ?_) fun h => by rw [h]; rfl
      rw [h, Bool.false_or]
      exact kitAny_cons (kit_ty (kit_sub ty U)) (fun h => by rw [h]; exact kitAny_nil) fun h => h
end

/-! ### lists changed -/
def wMt (f : D → List D → Sto → DQ → Prop) (wo : DE) (wa : DA) : DE := fun env S R => wo env S fun d S1 => (∃ a xs, d = .loc a ∧ S1 a = some (.lst xs)) ∧ wa env S1 fun ds S2 => f d ds S2 R
abbrev FM (K : PySem.W.Frag) (r : V → List V → Hp → VK → Prop) (f : D → List D → Sto → DQ → Prop) : Prop := ∀ (d : D) (ds : List D) (v : V) (vs : List V) (H : Hp) (S : Sto) (R : DQ) (Q : VK), SRep K H S → Rep K H S d v → Reps K H S ds vs → f d ds S R → Res K H S R Q → r v vs H Q
theorem lift_mt {K : PySem.W.Frag} {r : V → List V → Hp → VK → Prop} {f : D → List D → Sto → DQ → Prop} {wo : DE} {wa : DA} (h : FM K r f) : ∀ σ H Q, lift K (wMt f wo wa) σ H Q → tBM K "list" r (lift K wo) (liftA K wa) σ H Q := by
  intro σ H Q ⟨env, S, R, l, w, q⟩
  refine ⟨env, S, _, l, w, fun d S1 v H1 w1 r1 g1 d1 => ?_⟩
  obtain ⟨⟨a, xs, rfl, ha⟩, w1⟩ := w1
  refine ⟨?_, env, S1, _, l.grow g1 r1, w1, fun ds S2 vs H2 w2 r2 g2 d2 => h _ ds v vs H2 S2 R Q r2 (d1.grow g2) d2 w2 fun d' S' v' H' a b c e => q d' S' v' H' a b ((g1.trans g2).trans c) e⟩
  cases d1
  obtain ⟨ws, e1, _⟩ := r1 a _ ha
  exact .inl ⟨rfl, ws, .inl (.inl e1)⟩
def dApp (d : D) (ds : List D) (S : Sto) (R : DQ) : Prop := ∃ a xs y, d = .loc a ∧ ds = [y] ∧ S a = some (.lst xs) ∧ xs.length < sizeLine ∧ R .non (put S a (.lst (xs ++ [y])))
theorem wr_lst {K : PySem.W.Frag} {H : Hp} {S : Sto} {a : Addr} {o : SO} {ds : List D} {vs : List V} (r : SRep K H S) (h : S a = some o) (q : Reps K H S ds vs) : SRep K (upd H a (.lst vs)) (put S a (.lst ds)) ∧ Grow H S (upd H a (.lst vs)) (put S a (.lst ds)) :=
  have g : Grow H S (upd H a (.lst vs)) (put S a (.lst ds)) := Grow.write r h
  ⟨fun b x e => by
    by_cases hb : b = a
    · subst hb; rw [put_same] at e; cases e; exact ⟨vs, upd_same, q.grow g⟩
    · rw [put_ne hb] at e; exact (r b x e).grow g (upd_ne hb), g⟩
theorem f_app {K : PySem.W.Frag} : FM K rAppend dApp := by
  intro d ds v vs H S R Q r hd hds h k
  obtain ⟨a, xs, y, rfl, rfl, ha, hz, h⟩ := h
  cases hd
  cases hds with | cons hy t =>
  cases t
  obtain ⟨ws, e1, q⟩ := r a _ ha
  obtain ⟨r2, g2⟩ := wr_lst r ha (q.append (Reps.one hy))
  exact ⟨a, ws, _, rfl, rfl, e1, by rw [← q.length]; exact hz, k _ _ _ _ h r2 g2 .non⟩
def dExt (d : D) (ds : List D) (S : Sto) (R : DQ) : Prop := ∃ a xs ys, d = .loc a ∧ ds = [.lst ys] ∧ S a = some (.lst xs) ∧ xs.length + ys.length ≤ sizeLine ∧ R .non (put S a (.lst (xs ++ ys)))
theorem f_ext {K : PySem.W.Frag} : FM K rExtend dExt := by
  intro d ds v vs H S R Q r hd hds h k
  obtain ⟨a, xs, ys, rfl, rfl, ha, hz, h⟩ := h
  cases hd
  cases hds with | cons hy t =>
  cases t
  cases hy with | lst hs hq =>
  obtain ⟨ws, e1, q⟩ := r a _ ha
  obtain ⟨r2, g2⟩ := wr_lst r ha (q.append hq)
  exact ⟨a, _, ws, _, rfl, rfl, e1, hs.1, by rw [← q.length, ← hq.length]; exact hz, k _ _ _ _ h r2 g2 .non⟩
def dPop (d : D) (ds : List D) (S : Sto) (R : DQ) : Prop := ∃ a xs y, d = .loc a ∧ S a = some (.lst (xs ++ [y])) ∧ R y (put S a (.lst xs))
end Dd
set_option Elab.async false
set_option linter.all false
set_option maxRecDepth 100000
set_option maxHeartbeats 4000000
/-! Statements, targets, what is walked, loops, comprehensions, defs over data. -/
namespace Dd
open PySem PySem.Spec PyProof.Rows L2

/-! ### statements -/
def sNil : DS := fun F env S => F.nx env S
def sSeq (a b : DS) : DS := fun F env S => a { F with nx := fun e s => b F e s } env S
def sNever : DS := fun _ _ _ => False
def sDrop (w : DE) : DS := fun F env S => w env S fun _ S1 => F.nx env S1
def sRet (w : DE) : DS := fun F env S => w env S F.rt
def sRetN : DS := fun F _ S => F.rt .non S
def sIf (t : DT) (a b : DS) : DS := fun F env S => t env S fun c S1 => match c with
  | true => a F env S1
  | false => b F env S1
def sBreak : DS := fun F env S => F.bk env S
def sCont : DS := fun F env S => F.ct env S
section
variable {X : Cx} {st : Stmt} {rest : List Stmt} {a b : DS} {e : Expr} {w : DE} {pos : Pos}
theorem ss_nil : Ss' X [] sNil := PSs.mono pss_nil fun E σ H ⟨env, S, F, l, h, k⟩ => k.nx env S σ H h Grow.refl l
theorem ss_cons (h1 : S' X st a) (h2 : Ss' X rest b) : Ss' X (st :: rest) (sSeq a b) := PSs.mono (pss_cons h1 h2) fun E σ H ⟨env, S, F, l, h, k⟩ =>
  ⟨env, S, _, l, h, ⟨fun env' S' σ' H' q g l' => ⟨env', S', F, l', q, k.grow g⟩, k.rt, k.bk, k.ct, k.ex⟩⟩
theorem ss_one (h : S' X st a) : Ss' X [st] a := pss_one h
theorem s_pass : S' X (.Pass pos) sNil := PS.mono ps_pass fun E σ H ⟨env, S, F, l, h, k⟩ => k.nx env S σ H h Grow.refl l
theorem s_break : S' X (.Break pos) sBreak := PS.mono ps_break fun E σ H ⟨env, S, F, l, h, k⟩ => k.bk env S σ H h Grow.refl l
theorem s_cont : S' X (.Continue pos) sCont := PS.mono ps_continue fun E σ H ⟨env, S, F, l, h, k⟩ => k.ct env S σ H h Grow.refl l
theorem s_never : S' X st sNever := PS.mono ps_never fun E σ H ⟨env, S, F, l, h, k⟩ => h
theorem ss_never {sts : List Stmt} : Ss' X sts sNever := PSs.mono pss_never fun E σ H ⟨env, S, F, l, h, k⟩ => h
theorem s_expr (he : E' X e w) (hs : swapsWith e none pos.line X.env = Pure.pure false := by rfl) : S' X (.Expr e pos) (sDrop w) := PS.mono (ps_expr he hs) fun E σ H ⟨env, S, F, l, h, k⟩ =>
  ⟨env, S, _, l, h, fun d S1 v H1 q r g _ => k.nx env S1 σ H1 q g (l.grow g r)⟩
theorem s_ret (he : E' X e w) : S' X (.Return (some e) pos) (sRet w) := PS.mono (ps_ret he) fun E σ H ⟨env, S, F, l, h, k⟩ => ⟨env, S, _, l, h, fun d S1 v H1 q r g rd => k.rt d S1 v H1 q r g rd⟩
theorem s_retN : S' X (.Return none pos) sRetN := PS.mono ps_retN fun E σ H ⟨env, S, F, l, h, k⟩ => k.rt _ S _ H h l.sto Grow.refl .non
theorem s_if {c : Expr} {sa sb : List Stmt} {t : DT} (hc : T' X c t) (ha : Ss' X sa a) (hb : Ss' X sb b) : S' X (.If c sa sb pos) (sIf t a b) := PS.mono (ps_if hc ha hb) fun E σ H ⟨env, S, F, l, h, k⟩ => by
  refine ⟨env, S, _, l, h, fun c S1 H1 q r g => ?_⟩
  cases c with
  | true => rw [if_pos rfl]; exact ⟨env, S1, F, l.grow g r, q, k.grow g⟩
  | false => rw [if_neg Bool.false_ne_true]; exact ⟨env, S1, F, l.grow g r, q, k.grow g⟩
end

/-! ### targets; is: the slots that are stored -/
abbrev DG := D → Env → Sto → (Env → Sto → Prop) → Prop
abbrev DGs := List D → Env → Sto → (Env → Sto → Prop) → Prop
/-- the slots but is are as they were -/
def Slots (is : List Nat) (σ σ' : L2.St) : Prop := σ'.length = σ.length ∧ ∀ i, i ∉ is → σ'[i]? = σ[i]?
theorem Slots.refl {is : List Nat} {σ : L2.St} : Slots is σ σ := ⟨rfl, fun _ _ => rfl⟩
theorem Slots.trans {is js : List Nat} {σ σ' σ'' : L2.St} (a : Slots is σ σ') (b : Slots js σ' σ'') : Slots (is ++ js) σ σ'' := ⟨b.1.trans a.1, fun i h => by
  rw [List.mem_append, not_or] at h
  exact (b.2 i h.2).trans (a.2 i h.1)⟩
theorem Slots.set {σ : L2.St} {i : Nat} {o : Option V} : Slots [i] σ (σ.set i o) := ⟨List.length_set, fun j h => List.getElem?_set_ne fun e => h (by rw [e]; exact List.mem_singleton.mpr rfl)⟩
theorem wipe_at (σ : L2.St) (i : Nat) : ∀ vs : List Nat, (wipe σ vs)[i]? = if i ∈ vs ∧ i < σ.length then some none else σ[i]?
  | [] => by simp [wipe]
  | v :: vs => by
    unfold wipe
    by_cases h : v = i
    · subst h
      by_cases hl : v < σ.length
      · rw [List.getElem?_set_self (by rw [wipe_length]; exact hl), if_pos ⟨List.mem_cons_self, hl⟩]
      · rw [if_neg fun z => hl z.2, List.getElem?_eq_none (by rw [List.length_set, wipe_length]; omega), List.getElem?_eq_none (by omega)]
    · rw [List.getElem?_set_ne h, wipe_at σ i vs]
      have : (i ∈ v :: vs) ↔ i ∈ vs := by rw [List.mem_cons]; exact ⟨fun z => z.resolve_left fun e => h e.symm, .inr⟩
      simp only [this]
theorem Slots.wipe {is vs : List Nat} {σ σ' : L2.St} (h : Slots is (L2.wipe σ vs) σ') (sub : ∀ i ∈ is, i ∈ vs) : L2.wipe σ' vs = L2.wipe σ vs := by
  apply List.ext_getElem?
  intro i
  have hlen : σ'.length = σ.length := by rw [h.1, wipe_length]
  rw [wipe_at, wipe_at, hlen]
  by_cases hi : i ∈ vs ∧ i < σ.length
  · rw [if_pos hi, if_pos hi]
  · rw [if_neg hi, if_neg hi]
    by_cases hm : i ∈ is
    · have hv := sub i hm
      have hn : ¬ i < σ.length := fun z => hi ⟨hv, z⟩
      rw [List.getElem?_eq_none (by omega), List.getElem?_eq_none (by omega)]
    · rw [h.2 i hm, wipe_at, if_neg hi]
def liftG (K : PySem.W.Frag) (is : List Nat) (g : DG) : TG := fun v σ H Q => ∃ d env S R, Rep K H S d v ∧ Lk K H S env σ ∧ g d env S R ∧ ∀ env' S' σ' H', R env' S' → Grow H S H' S' → Lk K H' S' env' σ' → Slots is σ σ' → Q σ' H'
def liftGs (K : PySem.W.Frag) (is : List Nat) (g : DGs) : TGs := fun vs σ H Q => ∃ ds env S R, Reps K H S ds vs ∧ Lk K H S env σ ∧ g ds env S R ∧ ∀ env' S' σ' H', R env' S' → Grow H S H' S' → Lk K H' S' env' σ' → Slots is σ σ' → Q σ' H'
theorem PG.mono {X : Cx} {e : Expr} {t t' : TG} (h : PG X e t) (m : ∀ v σ H Q, t' v σ H Q → t v σ H Q) : PG X e t' := ⟨fun pins s σ H v u Q I r q => h.run pins s σ H v u Q I r (m v σ H Q q)⟩
theorem PGs.mono {X : Cx} {e : List Expr} {t t' : TGs} (h : PGs X e t) (m : ∀ v σ H Q, t' v σ H Q → t v σ H Q) : PGs X e t' := ⟨fun pins s σ H v u Q I r q => h.run pins s σ H v u Q I r (m v σ H Q q)⟩
abbrev G' (X : Cx) (e : Expr) (is : List Nat) (g : DG) : Prop := PG X e (liftG X.K is g)
abbrev Gs' (X : Cx) (e : List Expr) (is : List Nat) (g : DGs) : Prop := PGs X e (liftGs X.K is g)
def gN (i : Nat) : DG := fun d env S R => R (env.set i (some d)) S
def gNil' : DGs := fun ds env S R => match ds with
  | [] => R env S
  | _ => False
def gCons' (g : DG) (k : DGs) : DGs := fun ds env S R => match ds with
  | d :: r => g d env S fun env1 S1 => k r env1 S1 R
  | [] => False
def gT (n : Nat) (g : DGs) : DG := fun d env S R => match d with
  | .tup ds => ds.length = n ∧ g ds env S R
  | _ => False
section
variable {X : Cx} {e : Expr} {es : List Expr} {g : DG} {k : DGs} {is js : List Nat} {pos : Pos}
theorem g_name (i : Nat) {x : Str} (hN : X.N.Nodup) (hi : X.N[i]? = some x := by rfl) (hx : Loc X.env.scope x := by first | exact .inl rfl | exact .inr rfl) (hf : X.fn x = true ∨ X.env.scope.names.lookup x = some .local := by first | exact .inl rfl | exact .inr rfl) : G' X (.Name x pos) [i] (gN i) :=
  PG.mono (pg_name hN hi hx hf) fun v σ H Q ⟨d, env, S, R, rd, l, h, q⟩ => q _ _ _ _ h Grow.refl (l.set i rd) Slots.set
theorem gs_nil : Gs' X [] [] gNil' := PGs.mono pgs_nil fun vs σ H Q ⟨ds, env, S, R, rd, l, h, q⟩ => by
  cases rd with
  | nil => exact ⟨rfl, q _ _ _ _ h Grow.refl l Slots.refl⟩
  | cons _ _ => exact h.elim
theorem gs_cons (h1 : G' X e is g) (h2 : Gs' X es js k) (hs : (assignEach (e :: es) X.env).map (·.2) = assign e X.env :: (assignEach es X.env).map (·.2) := by rfl) : Gs' X (e :: es) (is ++ js) (gCons' g k) :=
  PGs.mono (pgs_cons h1 h2 hs) fun vs σ H Q ⟨ds, env, S, R, rd, l, h, q⟩ => by
    cases rd with
    | nil => exact h.elim
    | cons r1 rr =>
      refine ⟨_, _, rfl, _, env, S, _, r1, l, h, fun env1 S1 σ1 H1 h1 g1 l1 s1 => ?_⟩
      exact ⟨_, env1, S1, _, rr.grow g1, l1, h1, fun env2 S2 σ2 H2 h2 g2 l2 s2 => q _ _ _ _ h2 (g1.trans g2) l2 (s1.trans s2)⟩
theorem g_tup {kk : Nat} {n : Nat} (hc : X.calm = true) (h : Gs' X es js k) (hn : (assignEach es X.env).length = n := by rfl) (hst : (assignEach es X.env).findIdx? (·.1) = none := by rfl) : G' X (.Tuple es kk pos) js (gT n k) :=
  PG.mono (pg_tup hc h hn hst) fun v σ H Q ⟨d, env, S, R, rd, l, h, q⟩ => by
    cases rd with
    | tup ht hq => exact ⟨_, _, rfl, SqT.of ht, by rw [← hq.length]; exact h.1, _, env, S, R, hq, l, h.2, q⟩
    | _ => exact h.elim
end
/-- target = value -/
def sAsg (w : DE) (g : DG) : DS := fun F env S => w env S fun d S1 => g d env S1 F.nx
section
variable {X : Cx} {tg e : Expr} {w : DE} {g : DG} {is : List Nat} {pos : Pos}
theorem s_asg (he : E' X e w) (hg : G' X tg is g) (hs : swapsWithSole [tg] e pos.line X.env = Pure.pure false := by rfl) (hw : swappedStores [tg] e X.env = Pure.pure none := by rfl)
    (h1 : (assignEach [tg] X.env).map (·.2) = [assign tg X.env] := by rfl) : S' X (.Assign [tg] e pos) (sAsg w g) :=
  PS.mono (ps_asg he hg hs hw h1) fun E σ H ⟨env, S, F, l, h, k⟩ => ⟨env, S, _, l, h, fun d S1 v H1 q r g1 rd => ⟨d, env, S1, _, rd, l.grow g1 r, q, fun env' S' σ' H' a b c _ => k.nx _ _ _ _ a (g1.trans b) c⟩⟩
end
section
variable {X : Cx} {e : Expr} {w : DE} {pos pos' : Pos} {x : Str}
/-- name = value -/
theorem s_set (i : Nat) (hN : X.N.Nodup) (he : E' X e w) (hi : X.N[i]? = some x := by rfl) (hx : Loc X.env.scope x := by first | exact .inl rfl | exact .inr rfl) (hs : swapsWith e (some (.Name x pos')) pos.line X.env = Pure.pure false := by rfl) (hf : X.fn x = true ∨ X.env.scope.names.lookup x = some .local := by first | exact .inl rfl | exact .inr rfl) :
    S' X (.Assign [.Name x pos'] e pos) (sAsg w (gN i)) := PS.mono (ps_set hN hi hx he hs hf) fun E σ H ⟨env, S, F, l, h, k⟩ =>
  ⟨env, S, _, l, h, fun d S1 v H1 q r g1 rd => k.nx _ _ _ _ q g1 ((l.grow g1 r).set i rd)⟩
/-- a, b = x, y of plain locals -/
def sPar (i j : Nat) (wa : DA) : DS := fun F env S => wa env S fun ds S1 => match ds with
  | [d, e] => F.nx ((env.set i (some d)).set j (some e)) S1
  | _ => False
theorem s_par (i j : Nat) {y : Str} {a b : Expr} {wa : DA} {px py pt : Pos} {kt k2 pt2} (hc : X.calm = true) (hN : X.N.Nodup) (ha : A' X [a, b] wa) (hi : X.N[i]? = some x := by rfl) (hj : X.N[j]? = some y := by rfl) (hij : i ≠ j := by decide)
    (hx : X.env.scope.names.lookup x = some .local := by rfl) (hy : X.env.scope.names.lookup y = some .local := by rfl) (hw : swappedStores [.Tuple [.Name x px, .Name y py] kt pt] (.Tuple [a, b] k2 pt2) X.env = Pure.pure (some [x, y]) := by rfl)
    (hs : swapsWithSole [.Tuple [.Name x px, .Name y py] kt pt] (.Tuple [a, b] k2 pt2) pos.line X.env = Pure.pure false := by rfl) :
    S' X (.Assign [.Tuple [.Name x px, .Name y py] kt pt] (.Tuple [a, b] k2 pt2) pos) (sPar i j wa) := PS.mono (ps_par hc hN hi hj hij hx hy ha hw hs) fun E σ H ⟨env, S, F, l, h, k⟩ =>
  ⟨env, S, _, l, h, fun ds S1 vs H1 q r g1 rd => by
    cases rd with
    | nil => exact q.elim
    | cons r1 t =>
      cases t with
      | nil => exact q.elim
      | cons r2 t =>
        cases t with
        | nil => exact ⟨_, _, rfl, k.nx _ _ _ _ q g1 (((l.grow g1 r).set i r1).set j r2)⟩
        | cons _ _ => exact q.elim⟩
end

/-! ### what is walked -/
/-- the items; gd: what the store must keep meanwhile -/
abbrev DI := Env → Sto → (List D → (Sto → Prop) → Sto → Prop) → Prop
structure Its (K : PySem.W.Frag) (its : List D) (gd : Sto → Prop) (J : It) (H : Hp) (S : Sto) : Prop where
  go : ∀ H' S' i d, Grow H S H' S' → SRep K H' S' → gd S' → its[i]? = some d → J.go i H'
  yld : ∀ H' S' i d, Grow H S H' S' → SRep K H' S' → gd S' → its[i]? = some d → ∀ x H'', J.yld i H' x H'' → SRep K H'' S' ∧ Grow H' S' H'' S' ∧ Rep K H'' S' d x
  stop : ∀ H' S', Grow H S H' S' → SRep K H' S' → gd S' → J.stop its.length H'
def liftI (K : PySem.W.Frag) (wi : DI) : TI := fun σ H R => ∃ env S Ri, Lk K H S env σ ∧ wi env S Ri ∧ ∀ its gd S1 J H1, Ri its gd S1 → SRep K H1 S1 → Grow H S H1 S1 → Its K its gd J H1 S1 → R J H1
theorem PI.mono {X : Cx} {tg e : Expr} {t t' : TI} (h : PI X tg e t) (m : ∀ σ H R, t' σ H R → t σ H R) : PI X tg e t' := ⟨fun pins s σ H R I q => h.run pins s σ H R I (m σ H R q)⟩
theorem PI.or {X : Cx} {tg e : Expr} {t t' : TI} (h : PI X tg e t) (h' : PI X tg e t') : PI X tg e (fun σ H R => t σ H R ∨ t' σ H R) := ⟨fun pins s σ H R I q => q.elim (h.run pins s σ H R I) (h'.run pins s σ H R I)⟩
abbrev I' (X : Cx) (tg e : Expr) (wi : DI) : Prop := PI X tg e (liftI X.K wi)
/-- a list of the store must stand as it was -/
def gdOf (d : D) (xs : List D) : Sto → Prop := match d with
  | .loc a => fun S => S a = some (.lst xs)
  | _ => fun _ => True
def iSeq (w : DE) : DI := fun env S R => w env S fun d S1 => match seqOf d S1 with
  | some xs => R xs (gdOf d xs) S1
  | none => False
section
variable {K : PySem.W.Frag} {H : Hp} {S : Sto} {a : Addr} {xs : List D} {vs : List V}
theorem its_tup (h : SqT K H a vs) (q : Reps K H S xs vs) : Its K xs (fun _ => True) (Itt K a) H S where
  go := fun H' S' i d g r _ e => let ⟨v, ev, _⟩ := (q.grow g).get e; ⟨vs, v, g.sqT h, ev⟩
  yld := fun H' S' i d g r _ e x H'' ⟨e1, k⟩ => by
    subst e1
    obtain ⟨v, ev, rv⟩ := (q.grow g).get e
    have := k vs (g.sqT h)
    rw [ev] at this; cases this
    exact ⟨r, Grow.refl, rv⟩
  stop := fun H' S' g r _ => ⟨vs, g.sqT h, Nat.le_of_eq (by rw [q.length])⟩
theorem its_lst (h : ∀ H' S', Grow H S H' S' → SRep K H' S' → gd S' → ∃ ws, SqL K H' a ws ∧ Reps K H' S' xs ws) : Its K xs gd (Itl K a) H S where
  go := fun H' S' i d g r hg e => let ⟨ws, hs, q⟩ := h H' S' g r hg; let ⟨v, ev, _⟩ := q.get e; ⟨ws, v, hs, ev⟩
  yld := fun H' S' i d g r hg e x H'' ⟨e1, k⟩ => by
    subst e1
    obtain ⟨ws, hs, q⟩ := h _ S' g r hg
    obtain ⟨v, ev, rv⟩ := q.get e
    have := k ws hs
    rw [ev] at this; cases this
    exact ⟨r, Grow.refl, rv⟩
  stop := fun H' S' g r hg => let ⟨ws, hs, q⟩ := h H' S' g r hg; ⟨ws, hs, Nat.le_of_eq (by rw [q.length])⟩
end
/-- a list or a tuple at a -/
def iBoth (K : PySem.W.Frag) (tl : TE) : TI := fun σ H R => tl σ H fun x H1 => ∃ a, x = .ref a ∧ (((∃ xs, SqL K H1 a xs) ∧ R (Itl K a) H1) ∨ ((∃ xs, SqT K H1 a xs) ∧ R (Itt K a) H1))
theorem pi_both {X : Cx} {tg l : Expr} {tl : TE} (hl : PE X l tl) : PI X tg l (iBoth X.K tl) := by
  refine ⟨fun pins s σ H R I h => thn (hl.run pins s σ H _ I h) fun v s1 ⟨x, H1, I1, r1, a, e, q⟩ => ?_⟩
  subst e
  cases r1
  have fresh : ∀ b ∈ [s1.heap.objs.size], FpOk X pins H1 b := fun b hb => by
    rw [List.mem_singleton.mp hb]
    exact I1.fpOk (Nat.le_refl _) (I1.hok.fresh (Nat.le_refl _))
  rcases q with ⟨⟨xs, hq⟩, q⟩ | ⟨⟨xs, hq⟩, q⟩
  · obtain ⟨its, rv, p, hz⟩ := I1.list hq
    exact wpAny_pyIter_list p.isList ⟨s1.heap.objs.size, [s1.heap.objs.size], _, _, H1, rfl, I1.kept (t' := s1.toks) (fun b o e => Heap.get?_push_of_some _ e), turn_list a _, ⟨_, Heap.get?_push_size _ rfl, rfl, rfl⟩, fresh, q⟩
  · obtain ⟨its, rv, p, hz⟩ := I1.tuple hq
    exact wpAny_pyIter_tuple (items := its.toArray) p ⟨s1.heap.objs.size, [s1.heap.objs.size], _, _, H1, rfl, I1.kept (t' := s1.toks) (fun b o e => Heap.get?_push_of_some _ e), turn_tuple a _, ⟨_, Heap.get?_push_size _ rfl, rfl, rfl⟩, fresh, q⟩
theorem seqOf_loc {S : Sto} {a : Addr} {xs : List D} (h : seqOf (.loc a) S = some xs) : S a = some (.lst xs) := by
  cases e : S a with
  | none => simp [seqOf, e] at h
  | some o =>
    cases o with
    | lst ys => simp [seqOf, e] at h; rw [h]
    | _ => simp [seqOf, e] at h
theorem i_seq {X : Cx} {tg e : Expr} {w : DE} (he : E' X e w) : I' X tg e (iSeq w) := PI.mono (pi_both he) fun σ H R ⟨env, S, Ri, l, h, q⟩ => by
  refine ⟨env, S, _, l, h, fun d S1 v H1 h1 r1 g1 d1 => ?_⟩
  cases e1 : seqOf d S1 with
  | none => rw [e1] at h1; exact h1.elim
  | some xs =>
    rw [e1] at h1
    cases d1 with
    | tup ht hq => cases e1; exact ⟨_, rfl, .inr ⟨⟨_, SqT.of ht⟩, q _ _ S1 _ H1 h1 r1 g1 (its_tup (SqT.of ht) hq)⟩⟩
    | lst hs hq => cases e1; exact ⟨_, rfl, .inl ⟨⟨_, hs.sq⟩, q _ _ S1 _ H1 h1 r1 g1 (its_lst fun H' S' g r _ => ⟨_, (g.sqI hs).sq, hq.grow g⟩)⟩⟩
    | seq hs hq => cases e1; exact ⟨_, rfl, .inl ⟨⟨_, hs.sq⟩, q _ _ S1 _ H1 h1 r1 g1 (its_lst fun H' S' g r _ => ⟨_, (g.sqF hs).sq, hq.grow g⟩)⟩⟩
    | loc a =>
      obtain ⟨p, vs, e2, hs, hq⟩ := seqOf_rep r1 (.loc a) e1
      cases e2
      have ha : S1 a = some (.lst xs) := seqOf_loc e1
      obtain ⟨ws, e3, _⟩ := r1 a _ ha
      refine ⟨_, rfl, .inl ⟨⟨ws, .inl (.inl e3)⟩, q _ _ S1 _ H1 h1 r1 g1 (its_lst fun H' S' g r hg => ?_)⟩⟩
      obtain ⟨us, e4, q4⟩ := r a _ hg
      exact ⟨us, .inl (.inl e4), q4⟩
    | _ => cases e1
/-! ranges -/
def rngD (lo : Int) (n : Nat) : List D := (List.range n).map fun (i : Nat) => D.int (lo + (i : Int))
theorem rngD_len (lo : Int) (n : Nat) : (rngD lo n).length = n := by unfold rngD; rw [List.length_map, List.length_range]
theorem rngD_get {lo : Int} {n i : Nat} {d : D} (h : (rngD lo n)[i]? = some d) : i < n ∧ d = .int (lo + (i : Int)) := by
  have hl : i < n := by rw [← rngD_len lo n]; exact (List.getElem?_eq_some_iff.mp h).1
  unfold rngD at h
  rw [List.getElem?_map, List.getElem?_range hl] at h
  exact ⟨hl, (Option.some.inj h).symm⟩
theorem its_rng {K : PySem.W.Frag} {H : Hp} {S : Sto} {lo : Int} {n : Nat} : Its K (rngD lo n) (fun _ => True) (Itr lo n) H S where
  go := fun H' S' i d g r _ e => (rngD_get e).1
  yld := fun H' S' i d g r _ e x H'' ⟨e1, e2⟩ => by
    subst e1 e2
    rw [(rngD_get e).2]
    exact ⟨r, Grow.refl, .int _⟩
  stop := fun H' S' g r _ => Nat.le_of_eq (rngD_len lo n).symm
def sm62 (i : Int) : Prop := -(2 ^ 62) ≤ i ∧ i < 2 ^ 62
def iR1 (wa : DA) : DI := fun env S R => wa env S fun ds S1 => match ds with
  | [.int j] => sm62 j ∧ R (rngD 0 j.toNat) (fun _ => True) S1
  | _ => False
def iR2 (wa : DA) : DI := fun env S R => wa env S fun ds S1 => match ds with
  | [.int i, .int j] => sm62 i ∧ sm62 j ∧ R (rngD i (j - i).toNat) (fun _ => True) S1
  | _ => False
section
variable {X : Cx} {tg : Expr} {p pos : Pos}
theorem i_range1 {a : Expr} {wa : DA} (hm : X.mg "range" = none) (ha : A' X [a] wa) (hg : Gl X "range" := by rfl) (hs : starEach [a] X.env = [(false, eval a X.env)] := by rfl) : I' X tg (.Call (.Name "range" p) [a] [] pos) (iR1 wa) :=
  PI.mono (pi_range1 hg hm ha hs) fun σ H R ⟨env, S, Ri, l, h, q⟩ => by
    refine ⟨env, S, _, l, h, fun ds S1 vs H1 h1 r1 g1 d1 => ?_⟩
    cases d1 with
    | nil => exact h1.elim
    | cons r2 t =>
      cases t with
      | cons _ _ => split at h1 <;> first | exact h1.elim | (rename_i e; cases e)
      | nil =>
        cases r2 with
        | int j => exact ⟨j, rfl, h1.1.1, h1.1.2, q _ _ S1 _ H1 h1.2 r1 g1 its_rng⟩
        | _ => exact h1.elim
theorem i_range2 {a b : Expr} {wa : DA} (hm : X.mg "range" = none) (ha : A' X [a, b] wa) (hg : Gl X "range" := by rfl) (hs : starEach [a, b] X.env = [(false, eval a X.env), (false, eval b X.env)] := by rfl) (hs2 : starEach [b] X.env = [(false, eval b X.env)] := by rfl) : I' X tg (.Call (.Name "range" p) [a, b] [] pos) (iR2 wa) :=
  PI.mono (pi_range2 hg hm ha hs hs2) fun σ H R ⟨env, S, Ri, l, h, q⟩ => by
    refine ⟨env, S, _, l, h, fun ds S1 vs H1 h1 r1 g1 d1 => ?_⟩
    cases d1 with
    | nil => exact h1.elim
    | cons r2 t =>
      cases t with
      | nil => split at h1 <;> first | exact h1.elim | (rename_i e; cases e)
      | cons r3 t =>
        cases t with
        | cons _ _ => split at h1 <;> first | exact h1.elim | (rename_i e; cases e)
        | nil =>
          cases r2 with
          | int i =>
            cases r3 with
            | int j => exact ⟨i, j, rfl, ⟨h1.1.1, h1.1.2, h1.2.1.1, h1.2.1.2⟩, q _ _ S1 _ H1 h1.2.2 r1 g1 its_rng⟩
            | _ => exact h1.elim
          | _ => exact h1.elim
end
/-! zip of two tuples, of two lists -/
def zipD (xs ys : List D) : List D := List.zipWith (fun x y => .tup [x, y]) xs ys
theorem zipD_len (xs ys : List D) : (zipD xs ys).length = min xs.length ys.length := List.length_zipWith
theorem zipD_get {xs ys : List D} {i : Nat} {d : D} (h : (zipD xs ys)[i]? = some d) : ∃ x y, xs[i]? = some x ∧ ys[i]? = some y ∧ d = .tup [x, y] := by
  unfold zipD at h
  rw [List.getElem?_zipWith] at h
  cases hx : xs[i]? with
  | none => rw [hx] at h; cases h
  | some x =>
    cases hy : ys[i]? with
    | none => rw [hx, hy] at h; cases h
    | some y => rw [hx, hy] at h; exact ⟨x, y, rfl, rfl, (Option.some.inj h).symm⟩
def iZip2 (wa : DA) : DI := fun env S R => wa env S fun ds S1 => match ds with
  | [.tup xs, .tup ys] => R (zipD xs ys) (fun _ => True) S1
  | [.lst xs, .lst ys] => R (zipD xs ys) (fun _ => True) S1
  | _ => False
theorem pair_laid {K : PySem.W.Frag} {H : Hp} {S : Sto} {x y : D} {v w : V} {T : Addr} (r : SRep K H S) (hT : H T = none) (rx : Rep K H S x v) (ry : Rep K H S y w) : SRep K (upd H T (.tup [v, w])) S ∧ Grow H S (upd H T (.tup [v, w])) S ∧ Rep K (upd H T (.tup [v, w])) S (.tup [x, y]) (.ref T) :=
  ⟨r.lay hT, Grow.lay hT, .tup upd_same ((Reps.cons rx (.cons ry .nil)).grow (Grow.lay hT))⟩
section
variable {K : PySem.W.Frag} {H : Hp} {S : Sto} {a b : Addr} {xs ys : List D} {vs ws : List V}
theorem its_zipT (hx : SqT K H a vs) (hy : SqT K H b ws) (qx : Reps K H S xs vs) (qy : Reps K H S ys ws) : Its K (zipD xs ys) (fun _ => True) (RZ.ItzT K a b) H S where
  go := fun H' S' i d g r _ e => by
    obtain ⟨x, y, ex, ey, _⟩ := zipD_get e
    obtain ⟨v, ev, _⟩ := (qx.grow g).get ex
    obtain ⟨w, ew, _⟩ := (qy.grow g).get ey
    exact ⟨vs, ws, v, w, g.sqT hx, g.sqT hy, ev, ew⟩
  yld := fun H' S' i d g r _ e z H'' ⟨T, v', w', e1, hT, e2, k1, k2⟩ => by
    obtain ⟨x, y, ex, ey, rfl⟩ := zipD_get e
    obtain ⟨v, ev, rv⟩ := (qx.grow g).get ex
    obtain ⟨w, ew, rw'⟩ := (qy.grow g).get ey
    have z1 := k1 vs (g.sqT hx)
    have z2 := k2 ws (g.sqT hy)
    rw [ev] at z1; cases z1
    rw [ew] at z2; cases z2
    subst e1 e2
    exact pair_laid r hT rv rw'
  stop := fun H' S' g r _ => ⟨vs, ws, g.sqT hx, g.sqT hy, by rw [zipD_len, qx.length, qy.length]; omega⟩
theorem its_zipL (hx : SqI K H S a vs) (hy : SqI K H S b ws) (qx : Reps K H S xs vs) (qy : Reps K H S ys ws) : Its K (zipD xs ys) (fun _ => True) (Itz K a b) H S where
  go := fun H' S' i d g r _ e => by
    obtain ⟨x, y, ex, ey, _⟩ := zipD_get e
    obtain ⟨v, ev, _⟩ := (qx.grow g).get ex
    obtain ⟨w, ew, _⟩ := (qy.grow g).get ey
    exact ⟨vs, ws, v, w, (g.sqI hx).sq, (g.sqI hy).sq, ev, ew⟩
  yld := fun H' S' i d g r _ e z H'' ⟨T, v', w', e1, hT, e2, k1, k2⟩ => by
    obtain ⟨x, y, ex, ey, rfl⟩ := zipD_get e
    obtain ⟨v, ev, rv⟩ := (qx.grow g).get ex
    obtain ⟨w, ew, rw'⟩ := (qy.grow g).get ey
    have z1 := k1 vs (g.sqI hx).sq
    have z2 := k2 ws (g.sqI hy).sq
    rw [ev] at z1; cases z1
    rw [ew] at z2; cases z2
    subst e1 e2
    exact pair_laid r hT rv rw'
  stop := fun H' S' g r _ => ⟨vs, ws, (g.sqI hx).sq, (g.sqI hy).sq, by rw [zipD_len, qx.length, qy.length]; omega⟩
end
section
variable {X : Cx} {p pos tpos : Pos} {elts : List Expr} {kk : Nat}
theorem i_zip {a b : Expr} {wa : DA} (hm : X.mg "zip" = none) (ha : A' X [a, b] wa) (hc : X.calm = true := by rfl) (hg : Gl X "zip" := by rfl) (hs : starEach [a, b] X.env = (false, eval a X.env) :: starEach [b] X.env := by rfl) (hpl : (backTo pos (starEach [b] X.env)).any (·.1) = false := by rfl) : I' X (.Tuple elts kk tpos) (.Call (.Name "zip" p) [a, b] [] pos) (iZip2 wa) :=
  PI.mono (RZ.pi_zipA hg hm ha hs hpl) fun σ H R ⟨env, S, Ri, l, h, q⟩ => by
    refine ⟨env, S, _, l, h, fun ds S1 vs H1 h1 r1 g1 d1 => ?_⟩
    cases d1 with
    | nil => exact h1.elim
    | cons r2 t =>
      cases t with
      | nil => split at h1 <;> first | exact h1.elim | (rename_i e; cases e)
      | cons r3 t =>
        cases t with
        | cons _ _ => split at h1 <;> first | exact h1.elim | (rename_i e; cases e)
        | nil =>
          cases r2 with
          | tup hx qx =>
            cases r3 with
            | tup hy qy => exact ⟨_, _, _, _, rfl, .inr ⟨SqT.of hx, SqT.of hy, q _ _ S1 _ H1 h1 r1 g1 (its_zipT (SqT.of hx) (SqT.of hy) qx qy)⟩⟩
            | _ => exact h1.elim
          | lst hx qx =>
            cases r3 with
            | lst hy qy => exact ⟨_, _, _, _, rfl, .inl ⟨hx.sq, hy.sq, q _ _ S1 _ H1 h1 r1 g1 (its_zipL hx hy qx qy)⟩⟩
            | _ => exact h1.elim
          | _ => exact h1.elim
end

/-! ### for -/
def forD (g : DG) (b : DS) (gd : Sto → Prop) (F : DEnds) : List D → Env → Sto → Prop
  | [], env, S => gd S ∧ F.nx env S
  | d :: ds, env, S => gd S ∧ g d env S fun env1 S1 => b { nx := fun e s => forD g b gd F ds e s, rt := F.rt, bk := F.nx, ct := fun e s => forD g b gd F ds e s, ex := F.ex } env1 S1
def sFor (wi : DI) (g : DG) (b : DS) : DS := fun F env S => wi env S fun its gd S1 => forD g b gd F its env S1
theorem forD_gd {g : DG} {b : DS} {gd : Sto → Prop} {F : DEnds} {ds : List D} {env : Env} {S : Sto} (h : forD g b gd F ds env S) : gd S := by
  cases ds with
  | nil => exact h.1
  | cons d ds => exact h.1
theorem drop_at {α : Type} {xs : List α} {i : Nat} {x : α} (h : xs[i]? = some x) : xs.drop i = x :: xs.drop (i + 1) := by
  obtain ⟨hl, e⟩ := List.getElem?_eq_some_iff.mp h
  rw [List.drop_eq_getElem_cons hl, e]
section
variable {X : Cx} {tg iter : Expr} {body : List Stmt} {wi : DI} {g : DG} {is : List Nat} {b : DS} {pos : Pos}
theorem s_for (hi : I' X tg iter wi) (hg : G' X tg is g) (hb : Ss' X body b) (hp : PassesOwn (model X.prog X.w) X.A X.env X.xe := by exact PassesOwn.never) (hc : X.calm = true := by rfl) (hs : ∀ x, foldedSetIterable iter X.env x = Pure.pure x := by intro _; rfl) : S' X (.For tg iter body [] pos) (sFor wi g b) :=
  PS.mono (ps_for hp hc hi hg hb hs) fun E σ H ⟨env, S, F, l, h, k⟩ => by
    refine ⟨env, S, _, l, h, fun its gd S1 J H1 h1 r1 g1 J1 => ?_⟩
    refine ⟨fun i m σ H => i + m = its.length ∧ ∃ env S, Lk X.K H S env σ ∧ Grow H1 S1 H S ∧ forD g b gd F (its.drop i) env S, ⟨its.length, by omega, env, S1, l.grow g1 r1, Grow.refl, by rw [List.drop_zero]; exact h1⟩, ?_⟩
    rintro i m σ2 H2 ⟨hm, env2, S2, l2, g2, h2⟩
    have hgd := forD_gd h2
    cases m with
    | zero =>
      have hi : i = its.length := by omega
      subst hi
      rw [List.drop_length] at h2
      exact .inl ⟨J1.stop H2 S2 g2 l2.sto hgd, k.nx env2 S2 σ2 H2 h2.2 (g1.trans g2) l2⟩
    | succ m =>
      have hi : i < its.length := by omega
      have e := List.getElem?_eq_getElem hi
      rw [drop_at e] at h2
      refine .inr ⟨J1.go H2 S2 i _ g2 l2.sto hgd e, fun σ' H' => ∃ env S, Lk X.K H' S env σ' ∧ Grow H1 S1 H' S ∧ forD g b gd F (its.drop (i + 1)) env S, fun σ' H' ⟨env', S', a, b, c⟩ => ⟨m, by omega, by omega, env', S', a, b, c⟩, fun x H3 hy => ?_⟩
      obtain ⟨r3, g3, rd⟩ := J1.yld H2 S2 i _ g2 l2.sto hgd e x H3 hy
      refine ⟨_, env2, S2, _, rd, l2.grow g3 r3, h2.2, fun env4 S4 σ4 H4 h4 g4 l4 _ => ?_⟩
      have gg := (g2.trans g3).trans g4
      refine ⟨env4, S4, _, l4, h4, ⟨fun env5 S5 σ5 H5 h5 g5 l5 => ⟨env5, S5, l5, gg.trans g5, h5⟩, fun d5 S5 v5 H5 h5 r5 g5 d5' => k.rt d5 S5 v5 H5 h5 r5 ((g1.trans gg).trans g5) d5',
        fun env5 S5 σ5 H5 h5 g5 l5 => k.nx env5 S5 σ5 H5 h5 ((g1.trans gg).trans g5) l5, fun env5 S5 σ5 H5 h5 g5 l5 => ⟨env5, S5, l5, gg.trans g5, h5⟩, k.ex.grow (g1.trans gg)⟩⟩
/-- while: an invariant and a measure -/
def sWhile (c : DT) (b : DS) : DS := fun F env S => ∃ W : Nat → Env → Sto → Prop, (∃ m, W m env S) ∧ ∀ m env S, W m env S → c env S fun t S1 => match t with
  | true => b { nx := fun e s => ∃ m', m' < m ∧ W m' e s, rt := F.rt, bk := F.nx, ct := fun e s => ∃ m', m' < m ∧ W m' e s, ex := F.ex } env S1
  | false => F.nx env S1
theorem s_while {c : Expr} {t : DT} (hc' : T' X c t) (hb : Ss' X body b) (hp : PassesOwn (model X.prog X.w) X.A X.env X.xe := by exact PassesOwn.never) : S' X (.While c body [] pos) (sWhile t b) :=
  PS.mono (ps_while hp hc' hb) fun E σ H ⟨env, S, F, l, ⟨W, ⟨m0, h0⟩, step⟩, k⟩ => by
    refine ⟨fun m σ' H' => ∃ env' S', Lk X.K H' S' env' σ' ∧ Grow H S H' S' ∧ W m env' S', ⟨m0, env, S, l, Grow.refl, h0⟩, ?_⟩
    rintro m σ2 H2 ⟨env2, S2, l2, g2, h2⟩
    refine ⟨env2, S2, _, l2, step m env2 S2 h2, fun t S3 H3 h3 r3 g3 => ?_⟩
    cases t with
    | true =>
      rw [if_pos rfl]
      have gg := g2.trans g3
      refine ⟨fun σ' H' => ∃ env' S', Lk X.K H' S' env' σ' ∧ Grow H S H' S' ∧ ∃ m', m' < m ∧ W m' env' S', fun σ' H' ⟨e', s', a, b, m', c, d⟩ => ⟨m', c, e', s', a, b, d⟩, env2, S3, _, l2.grow g3 r3, h3, ?_⟩
      exact ⟨fun env5 S5 σ5 H5 h5 g5 l5 => ⟨env5, S5, l5, gg.trans g5, h5⟩, fun d5 S5 v5 H5 h5 r5 g5 d5' => k.rt d5 S5 v5 H5 h5 r5 (gg.trans g5) d5',
        fun env5 S5 σ5 H5 h5 g5 l5 => k.nx env5 S5 σ5 H5 h5 (gg.trans g5) l5, fun env5 S5 σ5 H5 h5 g5 l5 => ⟨env5, S5, l5, gg.trans g5, h5⟩, k.ex.grow gg⟩
    | false => rw [if_neg Bool.false_ne_true]; exact k.nx env2 S3 σ2 H3 h3 (g2.trans g3) (l2.grow g3 r3)
end

/-! ### list comprehensions -/
def del (S : Sto) (a : Addr) : Sto := fun b => if b = a then none else S b
theorem del_put {S : Sto} {a : Addr} {o : SO} (h : S a = none) : del (put S a o) a = S := by
  funext b; unfold del put
  by_cases e : b = a
  · subst e; rw [if_pos rfl, h]
  · rw [if_neg e, if_neg e]
/-- D: the list that is made, in the store meanwhile -/
def compD (T : Addr) (g : DG) (t : DT) (e : DE) (env : Env) (gd : Sto → Prop) (R : DQ) : List D → List D → Sto → Prop
  | acc, [], S => gd S ∧ S T = some (.lst acc) ∧ R (.lst acc) (del S T)
  | acc, d :: ds, S => gd S ∧ g d env S fun env1 S1 => t env1 S1 fun b S2 => match b with
    | true => e env1 S2 fun y S3 => S3 T = some (.lst acc) ∧ acc.length < sizeLine ∧ compD T g t e env gd R (acc ++ [y]) ds (put S3 T (.lst (acc ++ [y])))
    | false => S2 T = some (.lst acc) ∧ compD T g t e env gd R acc ds S2
def tYes' : DT := fun _ S R => R true S
def wLc (wi : DI) (g : DG) (t : DT) (e : DE) (vs : List Nat) : DE := fun env S R => wi env S fun its gd S1 => ∀ T, S1 T = none → compD T g t e (vs.foldr (fun i e => e.set i none) env) gd R [] its (put S1 T (.lst []))
theorem compD_gd {T : Addr} {g : DG} {t : DT} {e : DE} {env : Env} {gd : Sto → Prop} {R : DQ} {acc ds : List D} {S : Sto} (h : compD T g t e env gd R acc ds S) : gd S := by
  cases ds with
  | nil => exact h.1
  | cons d ds => exact h.1
theorem Grow.del {H : Hp} {S : Sto} {T : Addr} : Grow H S H (del S T) := ⟨fun _ _ h => h, fun _ _ _ h => h, fun a xs h e => ⟨h, by unfold Dd.del; split <;> first | rfl | exact e⟩⟩
theorem SRep.del {K : PySem.W.Frag} {H : Hp} {S : Sto} {T : Addr} (r : SRep K H S) : SRep K H (del S T) := fun b o e => by
  unfold Dd.del at e
  split at e
  · cases e
  · exact (r b o e).grow Grow.del rfl
theorem lift_lc {K : PySem.W.Frag} {wi : DI} {g : DG} {is : List Nat} {t : DT} {e : DE} {vs : List Nat} (sub : ∀ i ∈ is, i ∈ vs) : ∀ σ H Q, lift K (wLc wi g t e vs) σ H Q → tLc (liftI K wi) (liftG K is g) (liftT K t) (lift K e) vs σ H Q := by
  intro σ H Q ⟨env, S, R, l, h, q⟩
  refine ⟨env, S, _, l, h, fun its gd S1 J H1 h1 r1 g1 J1 => ?_⟩
  intro T hT
  have hS : S1 T = none := r1.free hT
  have h1 := h1 T hS
  -- the new list in the store
  obtain ⟨r2, g2⟩ := new_lst r1 (Reps.nil (K := K)) hT
  refine ⟨fun i m H' => i + m = its.length ∧ ∃ S' acc, Lk K H' S' (vs.foldr (fun i e => e.set i none) env) (wipe σ vs) ∧ Grow H1 S1 H' S' ∧ S' T = some (.lst acc) ∧ compD T g t e (vs.foldr (fun i e => e.set i none) env) gd R acc (its.drop i) S',
    ⟨its.length, by omega, put S1 T (.lst []), [], ((l.grow g1 r1).grow g2 r2).wipe vs, g2, put_same, by rw [List.drop_zero]; exact h1⟩, ?_⟩
  rintro i m H3 ⟨hm, S3, acc, l3, g3, hT3, h3⟩
  have hgd := compD_gd h3
  cases m with
  | zero =>
    have hi : i = its.length := by omega
    subst hi
    rw [List.drop_length] at h3
    obtain ⟨_, h4, h5⟩ := h3
    obtain ⟨vs', e1, q1⟩ := l3.sto T _ h4
    refine .inl ⟨J1.stop H3 S3 g3 l3.sto hgd, ?_⟩
    refine q _ (del S3 T) _ H3 h5 l3.sto.del ((g1.trans g3).trans Grow.del) (.lst ⟨e1, ?_⟩ (q1.grow Grow.del))
    unfold del; rw [if_pos rfl]
  | succ m =>
    have hi : i < its.length := by omega
    have e0 := List.getElem?_eq_getElem hi
    rw [drop_at e0] at h3
    refine .inr ⟨J1.go H3 S3 i _ g3 l3.sto hgd e0, fun H' => ∃ S' acc, Lk K H' S' (vs.foldr (fun i e => e.set i none) env) (wipe σ vs) ∧ Grow H1 S1 H' S' ∧ S' T = some (.lst acc) ∧ compD T g t e (vs.foldr (fun i e => e.set i none) env) gd R acc (its.drop (i + 1)) S',
      fun H' ⟨S', acc', a, b, c, d⟩ => ⟨m, by omega, by omega, S', acc', a, b, c, d⟩, fun x H4 hy => ?_⟩
    obtain ⟨r4, g4, rd⟩ := J1.yld H3 S3 i _ g3 l3.sto hgd e0 x H4 hy
    refine ⟨_, _, S3, _, rd, l3.grow g4 r4, h3.2, fun env5 S5 σ5 H5 h5 g5 l5 sl => ⟨sl.wipe sub, ?_⟩⟩
    refine ⟨env5, S5, _, l5, h5, fun b S6 H6 h6 r6 g6 => ?_⟩
    cases b with
    | true =>
      rw [if_pos rfl]
      refine ⟨env5, S6, _, l5.grow g6 r6, h6, fun y S7 v7 H7 ⟨h7, hz, h8⟩ r7 g7 rd7 => ?_⟩
      obtain ⟨vs', e1, q1⟩ := r7 T _ h7
      refine ⟨vs', e1, by rw [← q1.length]; exact hz, put S7 T (.lst (acc ++ [y])), acc ++ [y], ?_, ?_, put_same, h8⟩
      · obtain ⟨r8, g8⟩ := wr_lst r7 h7 (q1.append (Reps.one rd7))
        exact ((((l3.grow g4 r4).grow g5 l5.sto).grow g6 r6).grow g7 r7).grow g8 r8
      · obtain ⟨r8, g8⟩ := wr_lst r7 h7 (q1.append (Reps.one rd7))
        exact ((((g3.trans g4).trans g5).trans g6).trans g7).trans g8
    | false =>
      rw [if_neg Bool.false_ne_true]
      exact ⟨S6, acc, ((l3.grow g4 r4).grow g5 l5.sto).grow g6 r6, ((g3.trans g4).trans g5).trans g6, h6.1, h6.2⟩
end Dd
set_option Elab.async false
set_option linter.all false
set_option maxRecDepth 100000
set_option maxHeartbeats 4000000
/-! Comprehensions as expressions, defs, instances, dicts over data. -/
namespace Dd
open PySem PySem.Spec PyProof.Rows L2

abbrev Ts' (X : Cx) (ifs : List Expr) (t : DT) : Prop := PTs X ifs (liftT X.K t)
section
variable {X : Cx} {c : Expr} {t : DT}
theorem PTs.mono {X : Cx} {e : List Expr} {t t' : TT} (h : PTs X e t) (m : ∀ σ H Q, t' σ H Q → t σ H Q) : PTs X e t' := ⟨fun pins s σ H Q I q => h.run pins s σ H Q I (m σ H Q q)⟩
theorem ts_nil : Ts' X [] tYes' := PTs.mono pts_nil fun σ H Q ⟨env, S, R, l, h, q⟩ => q true S H h l.sto Grow.refl
theorem ts_one (h : T' X c t) : Ts' X [c] t := pts_one h
end
section
variable {X : Cx} {elt tg iter : Expr} {ifs : List Expr} {scope : Scope} {own : List (Str × Nat)} {pos : Pos} {wi : DI} {g : DG} {is : List Nat} {t : DT} {w : DE}
theorem e_lc (own : List (Str × Nat)) (hN : X.N.Nodup) (hi : I' X tg iter wi) (ok : BlkOk X.N X.env.scope scope own)
    (hg : ∀ (s : Shared) (H : Hp) (C : Addr) (cl : List (Str × Addr)) (fp : List Addr), G' (X.blk s H scope (compEnvC scope cl C X.env) fp) tg is g) (ht : ∀ (s : Shared) (H : Hp) (C : Addr) (cl : List (Str × Addr)) (fp : List Addr), Ts' (X.blk s H scope (compEnvC scope cl C X.env) fp) ifs t)
    (he : ∀ (s : Shared) (H : Hp) (C : Addr) (cl : List (Str × Addr)) (fp : List Addr), E' (X.blk s H scope (compEnvC scope cl C X.env) fp) elt w) (sub : ∀ i ∈ is, i ∈ own.map (·.2) := by decide) (hc : X.calm = true := by rfl) (hs : ∀ x, foldedSetIterable iter X.env x = Pure.pure x := by intro _; rfl) :
    E' X (.ListComp elt [⟨tg, iter, ifs, 0⟩] scope pos) (wLc wi g t w (own.map (·.2))) := PE.mono (pe_lc (own := own) hc hN hi ok hg ht he hs) (lift_lc sub)
/-- y = [..], y a plain local -/
theorem s_setLc (i : Nat) {y : Str} {py spos : Pos} (own : List (Str × Nat)) (hN : X.N.Nodup) (hi : I' X tg iter wi) (ok : BlkOk X.N X.env.scope scope own)
    (hg : ∀ (s : Shared) (H : Hp) (C : Addr) (cl : List (Str × Addr)) (fp : List Addr), G' (X.blk s H scope (compEnvC scope cl C X.env) fp) tg is g) (ht : ∀ (s : Shared) (H : Hp) (C : Addr) (cl : List (Str × Addr)) (fp : List Addr), Ts' (X.blk s H scope (compEnvC scope cl C X.env) fp) ifs t)
    (he : ∀ (s : Shared) (H : Hp) (C : Addr) (cl : List (Str × Addr)) (fp : List Addr), E' (X.blk s H scope (compEnvC scope cl C X.env) fp) elt w) (hsw : swapsWith (.ListComp elt [⟨tg, iter, ifs, 0⟩] scope pos) (some (.Name y py)) spos.line X.env = Pure.pure true := by exact sw_true rfl rfl rfl (by decide +kernel)) (sub : ∀ i ∈ is, i ∈ own.map (·.2) := by decide)
    (hy : X.N[i]? = some y := by rfl) (hyl : X.env.scope.names.lookup y = some .local := by rfl) (hc : X.calm = true := by rfl) (hs : ∀ x, foldedSetIterable iter X.env x = Pure.pure x := by intro _; rfl) :
    S' X (.Assign [.Name y py] (.ListComp elt [⟨tg, iter, ifs, 0⟩] scope pos) spos) (sAsg (wLc wi g t w (own.map (·.2))) (gN i)) := PS.mono (ps_setLc (i := i) (own := own) hc hN hy hyl hsw hi ok hg ht he hs) fun E σ H ⟨env, S, F, l, h, k⟩ =>
  lift_lc sub σ H _ ⟨env, S, _, l, h, fun d S1 v H1 q r g1 rd => k.nx _ _ _ _ q g1 ((l.grow g1 r).set i rd)⟩
end

/-! ### what a def hands back -/
def WkO (o' o : SO) : Prop := o' = o ∨ ∃ c fs' fs, o' = .obj c fs' ∧ o = .obj c fs ∧ fs'.map (·.1) = fs.map (·.1) ∧ ∀ f alts, fs.lookup f = some alts → ∃ alts', fs'.lookup f = some alts' ∧ ∀ d ∈ alts', d ∈ alts
/-- the store may be forgotten in part -/
def Wk (S' S : Sto) : Prop := ∀ a o, S a = some o → ∃ o', S' a = some o' ∧ WkO o' o
theorem Wk.refl {S : Sto} : Wk S S := fun a o h => ⟨o, h, .inl rfl⟩
theorem Wk.of {S' S : Sto} (h : ∀ a o, S a = some o → S' a = some o) : Wk S' S := fun a o e => ⟨o, h a o e, .inl rfl⟩
theorem Wk.put {S : Sto} {a : Addr} {o : SO} (h : S a = none) : Wk (put S a o) S := Wk.of fun b u e => by
  rw [put_ne fun z => by rw [z, h] at e; cases e]; exact e
theorem Wk.trans {S S' S'' : Sto} (h : Wk S S') (k : Wk S' S'') : Wk S S'' := fun a o e => by
  obtain ⟨o', e', w'⟩ := k a o e
  obtain ⟨o2, e2, w2⟩ := h a o' e'
  refine ⟨o2, e2, ?_⟩
  rcases w2 with rfl | ⟨c, fs', fs, rfl, rfl, hm, hl⟩
  · exact w'
  · rcases w' with rfl | ⟨c2, gs', gs, h1, rfl, hm2, hl2⟩
    · exact .inr ⟨c, fs', fs, rfl, rfl, hm, hl⟩
    · cases h1
      refine .inr ⟨c, fs', gs, rfl, rfl, hm.trans hm2, fun f alts ha => ?_⟩
      obtain ⟨a1, q1, k1⟩ := hl2 f alts ha
      obtain ⟨a2, q2, k2⟩ := hl f a1 q1
      exact ⟨a2, q2, fun d hd => k1 d (k2 d hd)⟩
section
variable {K : PySem.W.Frag} {H : Hp} {S S' : Sto} {a : Addr} {o : SO}
theorem Wk.grow (w : Wk S' S) : Grow H S' H S := ⟨fun _ _ h => h, fun _ _ _ h => h, fun a xs h e => ⟨h, by
  cases q : S a with
  | none => rfl
  | some o => obtain ⟨o', e', _⟩ := w a o q; rw [e] at e'; cases e'⟩⟩
theorem Wk.rep (w : Wk S' S) (r : SRep K H S') : SRep K H S := fun a o e => by
  obtain ⟨o', e', w'⟩ := w a o e
  have q := (r a o' e').grow (w.grow (H := H)) rfl
  rcases w' with rfl | ⟨c, fs', fs, rfl, rfl, hm, hl⟩
  · exact q
  · obtain ⟨dx, fws, h1, h2, h3⟩ := q
    refine ⟨dx, fws, h1, h2.trans hm, fun f alts hf => ?_⟩
    obtain ⟨a1, q1, k1⟩ := hl f alts hf
    obtain ⟨v, d, z1, z2, z3⟩ := h3 f a1 q1
    exact ⟨v, d, z1, k1 d z2, z3⟩
end
/-- handed back: the store forgotten in part, a list of it given away -/
def Fin (R : DQ) : DQ := fun d S' => ∃ d' S, Wk S' S ∧ (d' = d ∨ ∃ a ds, d = .loc a ∧ S' a = some (.lst ds) ∧ S a = none ∧ d' = .lst ds) ∧ R d' S
theorem Fin.now {R : DQ} {d : D} {S : Sto} (h : R d S) : Fin R d S := ⟨d, S, Wk.refl, .inl rfl, h⟩
theorem Fin.to {R : DQ} {d : D} {S' S : Sto} (w : Wk S' S) (h : R d S) : Fin R d S' := ⟨d, S, w, .inl rfl, h⟩
theorem Fin.lst {R : DQ} {a : Addr} {ds : List D} {S' S : Sto} (w : Wk S' S) (e : S' a = some (.lst ds)) (n : S a = none) (h : R (.lst ds) S) : Fin R (.loc a) S' := ⟨_, S, w, .inr ⟨a, ds, rfl, e, n, rfl⟩, h⟩
theorem Fin.res {K : PySem.W.Frag} {H0 H : Hp} {S0 S' : Sto} {R : DQ} {Q : VK} {d : D} {v : V} (k : Res K H0 S0 R Q) (h : Fin R d S') (r : SRep K H S') (g : Grow H0 S0 H S') (rd : Rep K H S' d v) : Q v H := by
  obtain ⟨d', S, w, hd, hR⟩ := h
  refine k d' S v H hR (w.rep r) (g.trans w.grow) ?_
  rcases hd with rfl | ⟨a, ds, rfl, e, n, rfl⟩
  · exact rd.grow w.grow
  · cases rd
    obtain ⟨vs, e1, q⟩ := r a _ e
    exact .lst ⟨e1, n⟩ (q.grow w.grow)

/-! ### defs -/
def startD (n : Nat) (ds : List D) : Env := ds.map some ++ List.replicate (n - ds.length) none
theorem start_lk {K : PySem.W.Frag} {H : Hp} {S : Sto} {N : List Str} {ds : List D} {vs : List V} (r : SRep K H S) (q : Reps K H S ds vs) : Lk K H S (startD N.length ds) (L2.start N vs) := by
  refine ⟨by unfold startD L2.start; simp [q.length], fun i d h => ?_, r⟩
  unfold startD at h
  unfold L2.start
  by_cases hi : i < ds.length
  · rw [List.getElem?_append_left (by simpa using hi), List.getElem?_map] at h
    cases e : ds[i]? with
    | none => rw [e] at h; cases h
    | some d' =>
      rw [e] at h
      cases h
      obtain ⟨v, ev, rv⟩ := q.get e
      refine ⟨v, ?_, rv⟩
      rw [List.getElem?_append_left (by rw [List.length_map, ← q.length]; exact hi), List.getElem?_map, ev]
      rfl
  · rw [List.getElem?_append_right (by simpa using hi), List.getElem?_replicate] at h
    split at h <;> cases h
section
variable {P : Program} {w : World} {K : PySem.W.Frag} {mg : Str → Option Value} {base : Heap} {f : Addr} {fd : FuncData}
theorem okD {x : Str × Option Str} {nm qual : Str} {params : Arguments} {body : List Stmt} {scope : Scope} {k : Nat} {ps : List Str} {c : DC} (N : List Str) (F : ∃ fd, FunD K nm qual params body scope [] [] (He.fAd K x) fd) (sc : FnScope N ps scope)
    (hb : ∀ (kV doc pm : Value) (an : Option Addr) (cdv ct : Value) (us : List Value), us.length = ps.length → bindArgs (PySem.W.fnOf nm qual params body scope .none kV doc pm an cdv ct) ⟨us, []⟩ = Pure.pure (ps.zip us))
    (len : ∀ ds S R, c ds S R → ds.length = ps.length)
    (h : ∀ (cdv : Value) (A : Around) (outer : List PySem.Env) (s : Shared) (H : Hp) (E : XK), Room k (A.deeper (envOfC qual scope s.heap.objs.size (He.fAd K x) cdv)) →
      ∃ w', Ss' (cxOf CX0 P w K mg base N qual scope (He.fAd K x) cdv A outer s H E).nox body w' ∧ ∀ ds S R, c ds S R → w' { nx := fun _ S' => Fin R .non S', rt := Fin R } (startD N.length ds) S) :
    FnAt P w K mg base (k + 1) x ps c := by
  obtain ⟨fd, F⟩ := F
  refine ⟨fd, F.ok sc (fun vs H Q E ⟨ds, S, R, q, r, hc, _⟩ => by rw [← q.length]; exact len _ _ _ hc) (fun cdv A outer s H vs Q E hr ⟨ds, S, R, q, r, hc, kk⟩ => ?_), F.bindsN hb, F.kp⟩
  obtain ⟨w', hp, hw⟩ := h cdv A outer s H E hr
  refine ⟨liftS _ w', PSs.nox hp, startD N.length ds, S, _, start_lk r q, hw ds S R hc, ⟨fun env S' σ H' hf g l => Fin.res kk hf l.sto g .non, fun d S' v H' hf r' g rd => Fin.res kk hf r' g rd, fun _ _ _ _ z => z.elim, fun _ _ _ _ z => z.elim, ExOk.none⟩⟩
end

/-! ### instances -/
@[irreducible] def dFld (c f : Str) (d : D) (S1 : Sto) (R : DQ) : Prop := match d with
  | .loc a => match S1 a with
    | some (.obj c' fs) => c' = c ∧ match fs.lookup f with
      | some alts => ∀ x, x ∈ alts → R x S1
      | none => False
    | _ => False
  | _ => False
def wFld (c f : Str) (wa : DE) : DE := fun env S R => wa env S fun d S1 => dFld c f d S1 R
theorem dFld_i {c f : Str} {a : Addr} {S : Sto} {R : DQ} {fs : List (Str × List D)} {alts : List D} (h : S a = some (.obj c fs)) (hl : fs.lookup f = some alts) (k : ∀ x, x ∈ alts → R x S) : dFld c f (.loc a) S R := by
  unfold dFld
  show (match S a with
    | some (.obj c' fs) => c' = c ∧ match fs.lookup f with
      | some alts => ∀ x, x ∈ alts → R x S
      | none => False
    | _ => False)
  rw [h]
  refine ⟨rfl, ?_⟩
  rw [hl]; exact k
def putFD (f : Str) (d : D) : List (Str × List D) → List (Str × List D)
  | [] => [(f, [d])]
  | (g, x) :: r => if g = f then (g, [d]) :: r else (g, x) :: putFD f d r
theorem beqN {f g : Str} (h : ¬ g = f) : (g == f) = false := beq_eq_false_iff_ne.mpr h
theorem lookup_putFD (f g : Str) (d : D) : ∀ fs : List (Str × List D), (putFD f d fs).lookup g = if g = f then some [d] else fs.lookup g
  | [] => by
    unfold putFD
    by_cases h : g = f
    · subst h; simp [List.lookup_cons]
    · rw [if_neg h, List.lookup_cons, beqN h]
  | (k, x) :: r => by
    unfold putFD
    by_cases h : k = f
    · subst h
      rw [if_pos rfl, List.lookup_cons, List.lookup_cons]
      by_cases hg : g = k
      · subst hg; simp
      · rw [if_neg hg, beqN hg]
    · rw [if_neg h, List.lookup_cons, List.lookup_cons, lookup_putFD f g d r]
      by_cases hg : g = k
      · subst hg; simp [h]
      · rw [beqN hg]
theorem keys_putFD (f : Str) (d : D) (v : V) : ∀ (fs : List (Str × List D)) (fws : List (Str × V)), fws.map (·.1) = fs.map (·.1) → (putF f v fws).map (·.1) = (putFD f d fs).map (·.1)
  | [], [], _ => rfl
  | [], _ :: _, h => by cases h
  | _ :: _, [], h => by cases h
  | (k, x) :: r, (k', x') :: r', h => by
    rw [List.map_cons, List.map_cons] at h
    obtain ⟨h1, h2⟩ := List.cons.inj h
    have h1 : k' = k := h1
    subst h1
    unfold putF putFD
    by_cases e : k' = f
    · rw [if_pos e, if_pos e, List.map_cons, List.map_cons, h2]
    · rw [if_neg e, if_neg e, List.map_cons, List.map_cons, keys_putFD f d v r r' h2]
/-- the object at d is of the class c and is stored to -/
@[irreducible] def dPutF (c f : Str) (d y : D) (S : Sto) (R : Sto → Prop) : Prop := match d with
  | .loc a => match S a with
    | some (.obj c' fs) => c' = c ∧ fs.length < 1000 ∧ R (put S a (.obj c (putFD f y fs)))
    | _ => False
  | _ => False
theorem dPutF_i {c f : Str} {a : Addr} {y : D} {S : Sto} {R : Sto → Prop} {fs : List (Str × List D)} (h : S a = some (.obj c fs)) (hl : fs.length < 1000) (k : R (put S a (.obj c (putFD f y fs)))) : dPutF c f (.loc a) y S R := by
  unfold dPutF
  show (match S a with
    | some (.obj c' fs) => c' = c ∧ fs.length < 1000 ∧ R (put S a (.obj c (putFD f y fs)))
    | _ => False)
  rw [h]; exact ⟨rfl, hl, k⟩
theorem wr_obj {K : PySem.W.Frag} {H : Hp} {S : Sto} {a dx : Addr} {c f : Str} {fs : List (Str × List D)} {fws : List (Str × V)} {y : D} {v : V} (r : SRep K H S) (h : S a = some (.obj c fs)) (e : H a = some (.ins (He.ga K c) dx fws)) (q : Rep K H S y v) :
    SRep K (upd H a (.ins (He.ga K c) dx (putF f v fws))) (put S a (.obj c (putFD f y fs))) ∧ Grow H S (upd H a (.ins (He.ga K c) dx (putF f v fws))) (put S a (.obj c (putFD f y fs))) :=
  have g : Grow H S (upd H a (.ins (He.ga K c) dx (putF f v fws))) (put S a (.obj c (putFD f y fs))) := Grow.write r h
  ⟨fun b x e' => by
    by_cases hb : b = a
    · subst hb
      rw [put_same] at e'; cases e'
      obtain ⟨dx', fws', e1, e2, e3⟩ := r b _ h
      rw [e] at e1; cases e1
      refine ⟨dx, _, upd_same, keys_putFD f y v fs fws e2, fun g' alts ha => ?_⟩
      rw [lookup_putFD] at ha
      rw [lookup_putF]
      by_cases hg : g' = f
      · rw [if_pos hg] at ha ⊢
        cases ha
        exact ⟨v, y, rfl, List.mem_singleton.mpr rfl, q.grow g⟩
      · rw [if_neg hg] at ha ⊢
        obtain ⟨v', d', z1, z2, z3⟩ := e3 g' alts ha
        exact ⟨v', d', z1, z2, z3.grow g⟩
    · rw [put_ne hb] at e'; exact (r b x e').grow g (upd_ne hb), g⟩
/-- class facts of an own class -/
structure ClsN (K : PySem.W.Frag) (c : Str) (fs : List Str) : Prop where
  cl : Cls K (He.ga K c)
  no : ∀ f ∈ fs, NoAttr K (He.ga K c) f
def sFld' (c f : Str) (wo wv : DE) : DS := fun F env S => wv env S fun y S1 => wo env S1 fun d S2 => dPutF c f d y S2 fun S3 => F.nx env S3
def gFld (c f : Str) (wo : DE) : DG := fun y env S R => wo env S fun d S1 => dPutF c f d y S1 fun S2 => R env S2
section
variable {X : Cx} {o e value : Expr} {c f : Str} {fs : List Str} {pos pos' : Pos} {wa wo wv : DE}
theorem e_fld (cl : ClsN X.K c fs) (he : E' X e wa) (hf : f ∈ fs := by decide) (hb : attributeBase e f X.env (eval e X.env) = eval e X.env := by rfl) : E' X (.Attribute e f pos) (wFld c f wa) := PE.mono (pe_fld he hb) fun σ H Q ⟨env, S, R, l, h, q⟩ => by
  refine ⟨env, S, _, l, h, fun d S1 v H1 h1 r1 g1 d1 => ?_⟩
  unfold dFld at h1
  cases d1 with
  | loc a =>
    simp only at h1
    cases ha : S1 a with
    | none => rw [ha] at h1; exact h1.elim
    | some ob =>
      rw [ha] at h1
      cases ob with
      | obj c' fs' =>
        obtain ⟨rfl, h1⟩ := h1
        cases hl : fs'.lookup f with
        | none => rw [hl] at h1; exact h1.elim
        | some alts =>
          rw [hl] at h1
          obtain ⟨dx, fws, e1, e2, e3⟩ := r1 a _ ha
          obtain ⟨v, x, z1, z2, z3⟩ := e3 f alts hl
          exact ⟨a, _, dx, fws, v, rfl, e1, cl.cl, cl.no f hf, z1, q x S1 v H1 (h1 x z2) r1 g1 z3⟩
      | _ => exact h1.elim
  | _ => exact h1.elim
theorem put_fld {K : PySem.W.Frag} {H : Hp} {S : Sto} {d y : D} {v u : V} {R : Sto → Prop} {Q : Hp → Prop} (r : SRep K H S) (rd : Rep K H S d v) (ry : Rep K H S y u) (h : dPutF c f d y S R) (k : ∀ S' H', R S' → SRep K H' S' → Grow H S H' S' → Q H') :
    ∃ a dx fws, v = .ref a ∧ H a = some (.ins (He.ga K c) dx fws) ∧ fws.length < 1000 ∧ Q (upd H a (.ins (He.ga K c) dx (putF f u fws))) := by
  unfold dPutF at h
  cases rd with
  | loc a =>
    simp only at h
    cases ha : S a with
    | none => rw [ha] at h; exact h.elim
    | some ob =>
      rw [ha] at h
      cases ob with
      | obj c' fs' =>
        obtain ⟨rfl, hz, h⟩ := h
        obtain ⟨dx, fws, e1, e2, e3⟩ := id (r a _ ha)
        obtain ⟨r2, g2⟩ := wr_obj (f := f) r ha e1 ry
        refine ⟨a, dx, fws, rfl, e1, ?_, k _ _ h r2 g2⟩
        have : fws.length = fs'.length := by simpa using congrArg List.length e2
        omega
      | _ => exact h.elim
  | _ => exact h.elim
theorem s_fld (cl : ClsN X.K c fs) (ho : E' X o wo) (hv : E' X value wv) (hf : f ∈ fs := by decide) (hs : swapsWith value (some (.Attribute o f pos')) pos.line X.env = Pure.pure false := by rfl) : S' X (.Assign [.Attribute o f pos'] value pos) (sFld' c f wo wv) :=
  PS.mono (ps_fld ho hv hs) fun E σ H ⟨env, S, F, l, h, k⟩ => by
    refine ⟨env, S, _, l, h, fun y S1 u H1 h1 r1 g1 d1 => ?_⟩
    refine ⟨env, S1, _, l.grow g1 r1, h1, fun d S2 v H2 h2 r2 g2 d2 => ?_⟩
    obtain ⟨a, dx, fws, z1, z2, z3, z4⟩ := put_fld (K := X.K) (Q := fun H' => E.nx σ H') r2 d2 (d1.grow g2) h2 fun S3 H3 hR r3 g3 => k.nx env S3 σ H3 hR ((g1.trans g2).trans g3) (((l.grow g1 r1).grow g2 r2).grow g3 r3)
    exact ⟨a, _, dx, fws, z1, z2, cl.cl, cl.no f hf, z3, z4⟩
theorem g_fld (cl : ClsN X.K c fs) (ho : E' X o wo) (hf : f ∈ fs := by decide) (ha : ∀ v, assign (.Attribute o f pos) X.env v = (do let ov ← holding [v] (eval o X.env); standAt pos.atName; holding [v, ov] (setAttr ov f v); release [v, ov] []) := by intro _; rfl) : G' X (.Attribute o f pos) [] (gFld c f wo) := by
  refine ⟨fun pins s σ H v u Q I r ⟨y, env, S, R, ry, l, h, q⟩ => ?_⟩
  rw [ha]
  refine wpAny_bind (wpAny_holding (thn (ho.run pins s σ H _ I ⟨env, S, _, l, h, fun d S1 v1 H1 h1 r1 g1 d1 => (⟨d, S1, h1, r1, g1, d1⟩ : ∃ d S1, dPutF c f d y S1 (fun S2 => R env S2) ∧ SRep X.K H1 S1 ∧ Grow H S H1 S1 ∧ Rep X.K H1 S1 d v1)⟩) fun ov s1 ⟨x, H1, I1, r1, d, S1, h1, rr, g1, d1⟩ => ?_))
  obtain ⟨a, dx, fws, rfl, z2, z3, z4⟩ := put_fld (K := X.K) (Q := fun H' => ∃ S2, R env S2 ∧ Grow H S H' S2 ∧ Lk X.K H' S2 env σ) rr d1 (ry.grow g1) h1 fun S3 H3 hR r3 g3 => ⟨S3, hR, g1.trans g3, (l.grow g1 rr).grow g3 r3⟩
  cases r1
  refine wpAny_bind (wpAny_standAt (wpAny_bind (wpAny_holding (setattr_ok I1 z2 cl.cl (cl.no f hf) z3 r fun s3 I3 => ?_))))
  obtain ⟨S2, hR, gg, ll⟩ := z4
  exact wpAny_release ⟨σ, _, I3, q env S2 σ _ hR gg ll Slots.refl⟩
end
/-- o.m(..), of an object of the class c; mm: the method's promise -/
@[irreducible] def dMe (c m : Str) (d : D) (S1 : Sto) (R : Addr → Prop) : Prop := match d with
  | .loc a => match S1 a with
    | some (.obj c' fs) => c' = c ∧ fs.lookup m = none ∧ R a
    | _ => False
  | _ => False
theorem dMe_i {c m : Str} {a : Addr} {S : Sto} {R : Addr → Prop} {fs : List (Str × List D)} (h : S a = some (.obj c fs)) (hl : fs.lookup m = none) (k : R a) : dMe c m (.loc a) S R := by
  unfold dMe
  show (match S a with
    | some (.obj c' fs) => c' = c ∧ fs.lookup m = none ∧ R a
    | _ => False)
  rw [h]; exact ⟨rfl, hl, k⟩
def wMeth (c m : Str) (sp : DC) (wo : DE) (wa : DA) : DE := fun env S R => wo env S fun d S1 => dMe c m d S1 fun a => wa env S1 fun ds S2 => sp (.loc a :: ds) S2 R
theorem lookup_keys {α β : Type} {m : Str} : ∀ {fs : List (Str × α)} {gs : List (Str × β)}, gs.map (·.1) = fs.map (·.1) → fs.lookup m = none → gs.lookup m = none
  | [], [], _, _ => rfl
  | [], _ :: _, h, _ => by cases h
  | _ :: _, [], h, _ => by cases h
  | (k, x) :: r, (k', x') :: r', h, e => by
    rw [List.map_cons, List.map_cons] at h
    obtain ⟨h1, h2⟩ := List.cons.inj h
    have h1 : k' = k := h1
    subst h1
    rw [List.lookup_cons] at e ⊢
    cases q : m == k' with
    | true => rw [q] at e; cases e
    | false => rw [q] at e; exact lookup_keys h2 e
theorem lift_meth {K : PySem.W.Frag} {c m : Str} {sp : DC} {wo : DE} {wa : DA} {E : XK} : ∀ σ H Q, lift K (wMeth c m sp wo wa) σ H Q → tMeth (He.ga K c) m (spL K sp) [] E (lift K wo) (liftA K wa) σ H Q := by
  intro σ H Q ⟨env, S, R, l, h, q⟩
  refine ⟨env, S, _, l, h, fun d S1 v H1 h1 r1 g1 d1 => ?_⟩
  unfold dMe at h1
  cases d1 with
  | loc a =>
    simp only at h1
    cases ha : S1 a with
    | none => rw [ha] at h1; exact h1.elim
    | some ob =>
      rw [ha] at h1
      cases ob with
      | obj c' fs =>
        obtain ⟨rfl, hm, h1⟩ := h1
        obtain ⟨dx, fws, e1, e2, e3⟩ := id (r1 a _ ha)
        refine ⟨a, dx, fws, rfl, e1, lookup_keys e2 hm, env, S1, _, l.grow g1 r1, h1, fun ds S2 vs H2 h2 r2 g2 d2 => ?_⟩
        show spL K sp (.ref a :: (vs ++ [])) H2 Q E
        rw [List.append_nil]
        exact ⟨_, S2, R, .cons (.loc a) d2, r2, h2, fun d' S' v' H' a b c e => q d' S' v' H' a b ((g1.trans g2).trans c) e⟩
      | _ => exact h1.elim
  | _ => exact h1.elim
/-- C(..) -/
def wMake (c : Str) (sp : DC) (wa : DA) : DE := fun env S R => wa env S fun ds S1 => ∀ x, S1 x = none → sp (.loc x :: ds) (put S1 x (.obj c [])) fun d S2 => d = .non ∧ R (.loc x) S2
theorem new_obj {K : PySem.W.Frag} {H : Hp} {S : Sto} {c : Str} {x dx : Addr} (r : SRep K H S) (hx : H x = none) (hd : H dx = none) (ne : dx ≠ x) :
    SRep K (upd (upd H dx (.own x)) x (.ins (He.ga K c) dx [])) (put S x (.obj c [])) ∧ Grow H S (upd (upd H dx (.own x)) x (.ins (He.ga K c) dx [])) (put S x (.obj c [])) := by
  have hx' : (upd H dx (.own x)) x = none := by rw [upd_ne ne.symm]; exact hx
  have r1 : SRep K (upd H dx (.own x)) S := r.lay hd
  have g1 : Grow H S (upd H dx (.own x)) S := Grow.lay hd
  have g2 : Grow (upd H dx (.own x)) S (upd (upd H dx (.own x)) x (.ins (He.ga K c) dx [])) (put S x (.obj c [])) := Grow.new hx' r1
  refine ⟨fun b o e => ?_, g1.trans g2⟩
  by_cases hb : b = x
  · subst hb
    rw [put_same] at e; cases e
    exact ⟨dx, [], upd_same, rfl, fun f alts h => by cases h⟩
  · rw [put_ne hb] at e; exact (r1 b o e).grow g2 (upd_ne hb)
section
variable {X : Cx} {e o : Expr} {es : List Expr} {wo : DE} {wr : DA} {pos p apos : Pos} {j k : Nat} {x c m : Str} {ps fs : List Str} {sp : DC}
theorem lift_make {K : PySem.W.Frag} {E : XK} : ∀ σ H Q, lift K (wMake c sp wr) σ H Q → tMake (He.ga K c) (spL K sp) [] E (liftA K wr) σ H Q := by
  intro σ H Q ⟨env, S, R, l, h, q⟩
  refine ⟨env, S, _, l, h, fun ds S1 vs H1 h1 r1 g1 d1 => fun x dx hx hd ne => ?_⟩
  obtain ⟨r2, g2⟩ := new_obj (c := c) r1 hx hd ne
  show spL K sp (.ref x :: (vs ++ [])) _ _ E
  rw [List.append_nil]
  refine ⟨_, _, _, .cons (.loc x) (d1.grow g2), r2, h1 x (r1.free hx), fun d' S' v' H' ⟨e, hR⟩ b c' rd => ?_⟩
  subst e
  cases rd
  exact ⟨rfl, q _ S' _ H' hR b ((g1.trans g2).trans c') (.loc x)⟩
/-- facts of a class that is made -/
structure MkN (K : PySem.W.Frag) (mg : Str → Option Value) (c : Str) : Prop where
  mkk : Mk K (He.ga K c) (He.fAd K (c, some "__init__"))
  gl : mg c = some (.ref (He.ga K c))
theorem e_make (M : MkN X.K X.mg c) (G : FnAt X.prog X.w X.K X.mg X.base j (c, some "__init__") ps sp) (hr : Room k X.A) (ha : A' X (e :: es) wr) (hj : j + 1 ≤ k := by decide) (hg : Gl X c := by rfl) (hdb : (c == ("__debug__" : Str)) = false := by decide)
    (he : starEach (e :: es) X.env = (false, eval e X.env) :: starEach es X.env := by rfl) (hpl : (backTo pos (starEach es X.env)).any (·.1) = false := by rfl) : E' X (.Call (.Name c p) (e :: es) [] pos) (wMake c sp wr) := by
  obtain ⟨fd, F, b, kp⟩ := G.ex
  exact PE.mono (pe_make M.mkk F (hr.mono hj) hg M.gl b .nil pass0 ha hdb he hpl) lift_make
theorem e_meth {pl : Sem Bool} (ho : E' X o wo) (cl : ClsN X.K c fs) (hm : Meth X.K (He.ga X.K c) m (He.fAd X.K (c, some m))) (G : FnAt X.prog X.w X.K X.mg X.base j (c, some m) ps sp) (hr : Room k X.A) (ha : A' X (e :: es) wr) (hj : j ≤ k := by decide)
    (hst : starEach (e :: es) X.env = (false, eval e X.env) :: starEach es X.env := by rfl) (hpl : (backTo pos (starEach es X.env)).any (·.1) = false := by rfl)
    (ht : eval (.Call (.Attribute o m apos) (e :: es) [] pos) X.env = (do let ov ← eval o X.env; standAt apos.atName; let (f, first) ← holding [ov] (getMethod ov m pl); callWith pos f first (backTo pos (starEach (e :: es) X.env)) (backToKw pos (keywordEach [] X.env))) := by rfl) :
    E' X (.Call (.Attribute o m apos) (e :: es) [] pos) (wMeth c m sp wo wr) := by
  obtain ⟨fd, F, b, kp⟩ := G.ex
  exact PE.mono (pe_meth ho cl.cl hm F (hr.mono hj) b .nil pass0 ha hst hpl ht) lift_meth
end
end Dd
set_option Elab.async false
set_option linter.all false
set_option maxRecDepth 100000
set_option maxHeartbeats 4000000
/-! enumerate of a tuple or a list; range with a step. -/
namespace Dd
open PySem PySem.Spec PyProof.Rows L2

/-- enumerate(v): what its making leaves -/
theorem enum_new1 {v : Value} {o : Obj} {Hh : Heap → Prop} (B : Begins v o Hh) :
    Meets (Builtin.«enumerate.__new__» ⟨[.type "enumerate", v], []⟩) (fun _ R s => Hh s.heap ∧ R (.ok (.ret (.ref (s.heap.push o).objs.size))) { s with heap := (s.heap.push o).push { cls := .type "enumerate", data := .fields #[.none, .bool false, .ref s.heap.objs.size, rawInt 0, .none, .none] } }) :=
  .of_wp fun prog w A R s h => by
    obtain ⟨hp, gn, dr, tk, os⟩ := s
    obtain ⟨h1, h⟩ := h
    have hsub := sub_enumerate
    have bg : ∀ {A' : Around} {E Q : Value → Shared → Prop}, Q (.ref hp.objs.size) ⟨hp.push o, gn, dr, tk, os⟩ → wpAny (model prog w) A' (pyIter v) Q E ⟨hp, gn, dr, tk, os⟩ := fun q => B.iter prog w _ _ _ _ h1 q
    wp_walk using bg
    refine wpAny_stack_any fun st => wpAny_pure ?_
    split
    · rename_i c _ _ _ _ _
      cases (c == Value.type "enumerate") <;> (wp_walk using bg; exact ⟨_, rfl, h⟩)
    · wp_walk using bg
      exact ⟨_, rfl, h⟩
theorem enum_made {prog : Program} {w : World} {A : Around} {E : Value → Shared → Prop} {s : Shared} {v : Value} {o : Obj} {Hh : Heap → Prop} {Q : Value → Shared → Prop} (B : Begins v o Hh) (h1 : Hh s.heap)
    (h : ∀ h', IsEnum h' (s.heap.objs.size + 1) s.heap.objs.size 0 .none → h'.get? s.heap.objs.size = some o → (∀ b u, s.heap.get? b = some u → h'.get? b = some u) → Q (.ref (s.heap.objs.size + 1)) { s with heap := h' }) : wpAny (model prog w) A (call (.type "enumerate") [v]) Q E s := by
  refine callType_new F.called_enumerate (by decide) (F.typeCall_enumerate_1 _) (F.newCall_enumerate_1 _) (fun obj => F.args_object_init_2 obj _) F.entry_enumerate_new (enum_new1 B) ⟨h1, ?_⟩
  have hz : (s.heap.push o).objs.size = s.heap.objs.size + 1 := Heap.size_push ..
  show _ ∧ _
  rw [hz]
  have he : IsEnum ((s.heap.push o).push { cls := .type "enumerate", data := .fields #[.none, .bool false, .ref s.heap.objs.size, rawInt 0, .none, .none] }) (s.heap.objs.size + 1) s.heap.objs.size 0 .none := by
    have q := Heap.get?_push_size (s.heap.push o) (o := { cls := .type "enumerate", data := .fields #[.none, .bool false, .ref s.heap.objs.size, rawInt 0, .none, .none] }) rfl
    rw [hz] at q
    exact q
  exact ⟨⟨_, he, rfl⟩, h _ he (Heap.get?_push_of_some _ (Heap.get?_push_size _ B.free)) fun b u x => Heap.get?_push_of_some _ (Heap.get?_push_of_some _ x)⟩

/-- the tuple at a, each item in a new pair with its number -/
def IteT (K : PySem.W.Frag) (a : Addr) : It :=
  ⟨fun i H => ∃ (xs : List V) (x : V), SqT K H a xs ∧ xs[i]? = some x, fun i H v H' => ∃ T x, v = .ref T ∧ H T = none ∧ H' = upd H T (.tup [.int (i : Nat), x]) ∧ ∀ xs, SqT K H a xs → xs[i]? = some x, fun i H => ∃ xs : List V, SqT K H a xs ∧ xs.length ≤ i⟩
theorem turn_enumT {P : Program} {w : World} {K : PySem.W.Frag} {elts : List Expr} {kk : Nat} {tpos : Pos} (a e it : Addr) (hea : e ≠ a) (hia : it ≠ a) :
    Turn P w K (.Tuple elts kk tpos) (IteT K a) [e, it] e (fun i h => (∃ old, IsEnum h e it ((i : Nat) : Int) old) ∧ h.IsTupleIter it a i ∧ e ≠ it) where
  mem := List.mem_cons_self
  obj := fun i h ⟨⟨old, he⟩, ⟨o, ho, hc, hd⟩, _⟩ b hb => by
    rcases List.mem_cons.mp hb with z | z
    · rw [z]; exact ⟨_, he, fun v q => nomatch q⟩
    · rw [List.mem_singleton.mp z]; exact ⟨o, ho, fun v q => by rw [hd] at q; cases q⟩
  keep := fun i h h' ⟨⟨old, he⟩, hi, hne⟩ k => ⟨⟨old, k e List.mem_cons_self _ he⟩, hi.at fun o q => k it (by simp) o q, hne⟩
  item := by
    intro X hP hw hK hc i pins s σ H E I hf ⟨⟨old, he⟩, hit, hne⟩ ⟨xs, x, hq, hx⟩
    subst hP hw hK
    obtain ⟨its, rv, p, hz⟩ := I.tuple hq
    obtain ⟨u, hu, ru⟩ := rv.get hx
    have hel : e < s.heap.objs.size := Heap.lt_size he
    have hil : it < s.heap.objs.size := let ⟨_, q, _⟩ := hit; Heap.lt_size q
    have hlt : i < its.toArray.size := by rw [List.size_toArray]; exact (List.getElem?_eq_some_iff.mp hu).1
    have hh : X.A.in1.handled = none := by simp [I.ok.hd hc]
    refine wpAny_pyNext_enum_itemD (Draws.tuple hh it a hia.symm its.toArray) he ⟨hit, p⟩ hlt hne (by simp [hne, hea]) fun z h' tk hPz ho hst hT hsz hk => ?_
    have ez : z = u := by
      have q : its.toArray[i]? = some z := hPz
      rw [show its.toArray[i]? = its[i]? by simp, hu] at q
      exact (Option.some.inj q).symm
    subst ez
    refine ⟨_, rfl, wpAny_letOwnedTupleGo_enum (s := { s with heap := h', toks := tk + 1 }) ho fun h'' he' sb => ?_⟩
    have hT2 : h''.get? s.heap.objs.size = some { cls := .type "tuple", data := .seq #[.int i tk, z] } := (sb.2 _ (Nat.ne_of_gt hel)).trans hT
    have new : ObjOk X.prog X.w (upd H s.heap.objs.size (.tup [.int (i : Nat), x])) h'' s.heap.objs.size (.tup [.int (i : Nat), x]) := ⟨by show 2 ≤ sizeLine; decide, [.int i tk, z], .cons ⟨_, rfl⟩ (.cons ru .nil), ⟨_, hT2, rfl, _, rfl⟩⟩
    have I1 : Inv X pins σ (upd H s.heap.objs.size (.tup [.int (i : Nat), x])) { s with heap := h'', toks := tk + 1 } :=
      I.turnedNew (ch := [e, it]) (fun b ob hb q => by
        rw [List.mem_cons, List.mem_singleton, not_or] at hb
        exact (sb.2 b hb.1).trans (hk b ob hb.1 hb.2 q)) hf (Nat.le_refl _) new
    refine ⟨.ref s.heap.objs.size, _, I1, rfl, ⟨_, x, rfl, I.hok.fresh (Nat.le_refl _), rfl, fun ys hy => by rw [I.tuple_inj hy hq]; exact hx⟩, ⟨⟨z, ?_⟩, hst.1.at fun o q => (sb.2 it (Ne.symm hne)).trans q, hne⟩, fun b hb => ?_⟩
    · rw [show ((i + 1 : Nat) : Int) = (i : Int) + 1 by omega]; exact he'
    · have hb' : b < s.heap.objs.size := by
        rcases List.mem_cons.mp hb with q | q
        · rw [q]; exact hel
        · rw [List.mem_singleton.mp q]; exact hil
      rw [upd_ne (Nat.ne_of_lt hb')]
      exact (hf b hb).1
  done := by
    intro X hP hw hK hc i pins s σ H E I hf ⟨⟨old, he⟩, hit, hne⟩ ⟨xs, hq, hx⟩
    subst hP hw hK
    obtain ⟨its, rv, p, hz⟩ := I.tuple hq
    obtain ⟨f0, f1, f2, f3, f4, f5⟩ := hf it (by simp)
    have hh : X.A.in1.handled = none := by simp [I.ok.hd hc]
    have hl := rv.length
    obtain ⟨io, hio, hic, hid⟩ := id hit
    have hle : i ≤ its.toArray.size ∨ its.toArray.size < i := by omega
    -- the end is asked at the number of turns
    have hT : s.TypeIs (.ref e) "enumerate" := ⟨_, he, rfl⟩
    unfold pyNext
    refine wpAny_bind (wpAny_attempt (wpAny_callSpecial?_slot (name := Str.ofString "__next__") hT F.slot_enumerate_next (wpAny_call_entry F.slot_enumerate_next hT F.entry_enumerate_next ?_ (F.args_enumerate_next_1 _))))
    show wpAny _ _ (field (.ref e) 2 >>= _) _ _ _
    refine wpAny_bind (wpAny_field he rfl (x := .ref it) rfl (wpAny_bind (wpAny_nextOf_tuple_end hh hit p (by simp; omega) fun h' x he' hx' => ?_)))
    obtain ⟨o, ho, hc'⟩ := hx'
    refine wpAny_bind (wpAny_isInstance (T := "StopIteration") (b := true) ⟨o, ho, hc'⟩ isSubtype_stop (wpAny_pure ⟨rfl, I.turned (t' := s.toks) (fun b o hb q => he' b o hb q) f0 f1 f3 f4 f5⟩))
  self := fun A i s Q E ⟨⟨_, he⟩, _⟩ h => wpAny_pyIter_enum he h
def iEnumB (K : PySem.W.Frag) (ta : TA) : TI := fun σ H R => ta σ H fun vs H1 => ∃ a, vs = [.ref a] ∧ (((∃ xs, SqL K H1 a xs) ∧ R (Ite K a) H1) ∨ ((∃ xs, H1 a = some (.tup xs)) ∧ R (IteT K a) H1))
theorem pi_enumB {X : Cx} {e : Expr} {ta : TA} {p pos tpos : Pos} {elts : List Expr} {kk : Nat} (hg : Gl X "enumerate") (hm : X.mg "enumerate" = none) (ha : PA X [e] ta) (hs : starEach [e] X.env = [(false, eval e X.env)]) :
    PI X (.Tuple elts kk tpos) (.Call (.Name "enumerate" p) [e] [] pos) (iEnumB X.K ta) := by
  refine ⟨fun pins s σ H R I h => Call_ (ld_blt I hg hm boot_enumerate (PyProof.Rows.callWith_type1 (thn (ha.run pos pins s σ H _ I h) fun us s1 ⟨vs, H1, I1, r1, a, ex, q⟩ => ?_) hs rfl))⟩
  subst ex
  cases r1 with | cons r rr =>
  cases rr
  cases r
  have fresh : ∀ b ∈ [s1.heap.objs.size + 1, s1.heap.objs.size], FpOk X pins H1 b := fun b hb => by
    have hle : s1.heap.objs.size ≤ b := by
      rcases List.mem_cons.mp hb with z | z
      · rw [z]; exact Nat.le_add_right _ _
      · rw [List.mem_singleton.mp z]; exact Nat.le_refl _
    exact I1.fpOk hle (I1.hok.fresh hle)
  rcases q with ⟨⟨xs, hq⟩, q⟩ | ⟨⟨xs, hq⟩, q⟩
  · obtain ⟨its, rv, p', hz⟩ := I1.list hq
    refine call_enumerate_list p'.isList fun h' he hit hsz hk => wpAny_pyIter_enum he ?_
    exact ⟨s1.heap.objs.size + 1, [s1.heap.objs.size + 1, s1.heap.objs.size], _, _, H1, rfl, I1.kept (t' := s1.toks) hk, turn_enum a (s1.heap.objs.size + 1) s1.heap.objs.size, ⟨⟨.none, he⟩, hit, Nat.succ_ne_self _⟩, fresh, q⟩
  · obtain ⟨its, rv, p', hz⟩ := I1.tuple (SqT.of (K := X.K) hq)
    have hlt : a < s1.heap.objs.size := I1.hok.lt hq
    refine enum_made (begins_tuple a its.toArray) p' fun h' he hit hk => wpAny_pyIter_enum he ?_
    exact ⟨s1.heap.objs.size + 1, [s1.heap.objs.size + 1, s1.heap.objs.size], _, _, H1, rfl, I1.kept (t' := s1.toks) hk, turn_enumT a (s1.heap.objs.size + 1) s1.heap.objs.size (Nat.ne_of_gt (Nat.lt_succ_of_lt hlt)) (Nat.ne_of_gt hlt), ⟨⟨.none, he⟩, ⟨_, hit, rfl, rfl⟩, Nat.succ_ne_self _⟩, fresh, q⟩
def enumD (xs : List D) : List D := zipD (rngD 0 xs.length) xs
theorem enumD_len (xs : List D) : (enumD xs).length = xs.length := by unfold enumD; rw [zipD_len, rngD_len, Nat.min_self]
theorem enumD_get {xs : List D} {i : Nat} {d : D} (h : (enumD xs)[i]? = some d) : ∃ x, xs[i]? = some x ∧ d = .tup [.int (i : Nat), x] := by
  obtain ⟨a, x, ha, hx, e⟩ := zipD_get h
  have := (rngD_get ha).2
  rw [Int.zero_add] at this
  exact ⟨x, hx, by rw [e, this]⟩
def iEnum' (wa : DA) : DI := fun env S R => wa env S fun ds S1 => match ds with
  | [d] => match seqOf d S1 with
    | some xs => (match d with
      | .seq _ => False
      | _ => True) ∧ R (enumD xs) (gdOf d xs) S1
    | none => False
  | _ => False
section
variable {K : PySem.W.Frag} {H : Hp} {S : Sto} {a : Addr} {xs : List D} {vs : List V}
theorem its_enumT (h : SqT K H a vs) (q : Reps K H S xs vs) : Its K (enumD xs) (fun _ => True) (IteT K a) H S where
  go := fun H' S' i d g r _ e => let ⟨x, ex, _⟩ := enumD_get e; let ⟨v, ev, _⟩ := (q.grow g).get ex; ⟨vs, v, g.sqT h, ev⟩
  yld := fun H' S' i d g r _ e z H'' ⟨T, v', e1, hT, e2, k⟩ => by
    obtain ⟨x, ex, rfl⟩ := enumD_get e
    obtain ⟨v, ev, rv⟩ := (q.grow g).get ex
    have := k vs (g.sqT h)
    rw [ev] at this; cases this
    subst e1 e2
    exact pair_laid r hT (.int _) rv
  stop := fun H' S' g r _ => ⟨vs, g.sqT h, by rw [enumD_len, q.length]; exact Nat.le_refl _⟩
theorem its_enumL {gd : Sto → Prop} (h : ∀ H' S', Grow H S H' S' → SRep K H' S' → gd S' → ∃ ws, SqL K H' a ws ∧ Reps K H' S' xs ws) : Its K (enumD xs) gd (Ite K a) H S where
  go := fun H' S' i d g r hg e => let ⟨x, ex, _⟩ := enumD_get e; let ⟨ws, hs, q⟩ := h H' S' g r hg; let ⟨v, ev, _⟩ := q.get ex; ⟨ws, v, hs, ev⟩
  yld := fun H' S' i d g r hg e z H'' ⟨T, v', e1, hT, e2, k⟩ => by
    obtain ⟨x, ex, rfl⟩ := enumD_get e
    obtain ⟨ws, hs, q⟩ := h H' S' g r hg
    obtain ⟨v, ev, rv⟩ := q.get ex
    have := k ws hs
    rw [ev] at this; cases this
    subst e1 e2
    exact pair_laid r hT (.int _) rv
  stop := fun H' S' g r hg => let ⟨ws, hs, q⟩ := h H' S' g r hg; ⟨ws, hs, by rw [enumD_len, q.length]; exact Nat.le_refl _⟩
end
theorem i_enum {X : Cx} {a : Expr} {wa : DA} {p pos tpos : Pos} {elts : List Expr} {kk : Nat} (hm : X.mg "enumerate" = none) (ha : A' X [a] wa) (hg : Gl X "enumerate" := by rfl) (hs : starEach [a] X.env = [(false, eval a X.env)] := by rfl) :
    I' X (.Tuple elts kk tpos) (.Call (.Name "enumerate" p) [a] [] pos) (iEnum' wa) := PI.mono (pi_enumB hg hm ha hs) fun σ H R ⟨env, S, Ri, l, h, q⟩ => by
  refine ⟨env, S, _, l, h, fun ds S1 vs H1 h1 r1 g1 d1 => ?_⟩
  cases d1 with
  | nil => exact h1.elim
  | cons r2 t =>
    cases t with
    | cons _ _ => exact h1.elim
    | nil =>
      rename_i d v
      simp only at h1
      cases e1 : seqOf d S1 with
      | none => rw [e1] at h1; exact h1.elim
      | some xs =>
        rw [e1] at h1
        cases r2 with
        | tup ht hq => cases e1; exact ⟨_, rfl, .inr ⟨⟨_, ht⟩, q _ _ S1 _ H1 h1.2 r1 g1 (its_enumT (SqT.of ht) hq)⟩⟩
        | lst hs hq => cases e1; exact ⟨_, rfl, .inl ⟨⟨_, hs.sq⟩, q _ _ S1 _ H1 h1.2 r1 g1 (its_enumL fun H' S' g r _ => ⟨_, (g.sqI hs).sq, hq.grow g⟩)⟩⟩
        | seq hs hq => exact h1.1.elim
        | loc a =>
          have ha : S1 a = some (.lst xs) := seqOf_loc e1
          obtain ⟨ws, e3, _⟩ := r1 a _ ha
          refine ⟨_, rfl, .inl ⟨⟨ws, .inl (.inl e3)⟩, q _ _ S1 _ H1 h1.2 r1 g1 (its_enumL fun H' S' g r hg => ?_)⟩⟩
          obtain ⟨us, e4, q4⟩ := r a _ hg
          exact ⟨us, .inl (.inl e4), q4⟩
        | _ => cases e1

/-! range with a step of -1 -/
def rngDn (hi : Int) (n : Nat) : List D := (List.range n).map fun (i : Nat) => D.int (hi + (i : Int) * (-1))
theorem rngDn_len (hi : Int) (n : Nat) : (rngDn hi n).length = n := by unfold rngDn; rw [List.length_map, List.length_range]
theorem rngDn_get {hi : Int} {n i : Nat} {d : D} (h : (rngDn hi n)[i]? = some d) : i < n ∧ d = .int (hi + (i : Int) * (-1)) := by
  have hl : i < n := by rw [← rngDn_len hi n]; exact (List.getElem?_eq_some_iff.mp h).1
  unfold rngDn at h
  rw [List.getElem?_map, List.getElem?_range hl] at h
  exact ⟨hl, (Option.some.inj h).symm⟩
theorem its_rngDn {K : PySem.W.Frag} {H : Hp} {S : Sto} {hi : Int} {n : Nat} : Its K (rngDn hi n) (fun _ => True) (Itc hi (-1) n) H S where
  go := fun H' S' i d g r _ e => (rngDn_get e).1
  yld := fun H' S' i d g r _ e x H'' ⟨e1, e2⟩ => by
    subst e1 e2
    rw [(rngDn_get e).2]
    exact ⟨r, Grow.refl, .int _⟩
  stop := fun H' S' g r _ => Nat.le_of_eq (rngDn_len hi n).symm
/-- range(i, j, -1) -/
def iR3 (wa : DA) : DI := fun env S R => wa env S fun ds S1 => match ds with
  | [.int i, .int j, .int c] => c = -1 ∧ sm62 i ∧ sm62 j ∧ R (rngDn i (i - j).toNat) (fun _ => True) S1
  | _ => False
theorem i_range3 {X : Cx} {tg : Expr} {p pos : Pos} {a b c : Expr} {wa : DA} (hm : X.mg "range" = none) (ha : A' X [a, b, c] wa) (hg : Gl X "range" := by rfl) (hs : starEach [a, b, c] X.env = (false, eval a X.env) :: starEach [b, c] X.env := by rfl) (hpl : (backTo pos (starEach [b, c] X.env)).any (·.1) = false := by rfl) : I' X tg (.Call (.Name "range" p) [a, b, c] [] pos) (iR3 wa) :=
  PI.mono (pi_range3 hg hm ha hs hpl) fun σ H R ⟨env, S, Ri, l, h, q⟩ => by
    refine ⟨env, S, _, l, h, fun ds S1 vs H1 h1 r1 g1 d1 => ?_⟩
    split at h1
    · rename_i i j c
      cases d1 with | cons x1 t =>
      cases t with | cons x2 t =>
      cases t with | cons x3 t =>
      cases t
      cases x1; cases x2; cases x3
      obtain ⟨rfl, hi, hj, h1⟩ := h1
      exact ⟨i, j, -1, _, rfl, RgC.neg hi.1 hi.2 hj.1 hj.2, q _ _ S1 _ H1 h1 r1 g1 its_rngDn⟩
    · exact h1.elim
/-! tuple(range(..)), list(range(..)) -/
def liftR (K : PySem.W.Frag) (w : Env → Sto → (Int → Int → Sto → Prop) → Prop) : L2.St → Hp → (Int → Int → Hp → Prop) → Prop := fun σ H Q => ∃ env S R, Lk K H S env σ ∧ w env S R ∧ ∀ a b S' H', R a b S' → SRep K H' S' → Grow H S H' S' → Q a b H'
abbrev R' (X : Cx) (e : Expr) (w : Env → Sto → (Int → Int → Sto → Prop) → Prop) : Prop := PRg X e (liftR X.K w)
def rg1 (wa : DE) : Env → Sto → (Int → Int → Sto → Prop) → Prop := fun env S R => wa env S fun d S1 => match d with
  | .int n => R 0 n S1
  | _ => False
def wTupRg (w : Env → Sto → (Int → Int → Sto → Prop) → Prop) : DE := fun env S R => w env S fun a b S1 => RgOk a b ∧ R (.tup (rngD a (b - a).toNat)) S1
def wLstRg (w : Env → Sto → (Int → Int → Sto → Prop) → Prop) : DE := fun env S R => w env S fun a b S1 => RgOk a b ∧ R (.lst (rngD a (b - a).toNat)) S1
theorem rngD_rep {K : PySem.W.Frag} {H : Hp} {S : Sto} (a b : Int) : Reps K H S (rngD a (b - a).toNat) (rgV a b) := by
  unfold rngD rgV
  generalize (b - a).toNat = n
  have : ∀ l : List Nat, Reps K H S (l.map fun (i : Nat) => D.int (a + (i : Int))) (l.map fun (i : Nat) => V.int (a + (i : Nat))) := fun l => by
    induction l with
    | nil => exact .nil
    | cons x l ih => exact .cons (.int _) ih
  exact this _
section
variable {X : Cx} {a e : Expr} {wa : DE} {w : Env → Sto → (Int → Int → Sto → Prop) → Prop} {p pos : Pos}
theorem PRg.mono {t t' : L2.St → Hp → (Int → Int → Hp → Prop) → Prop} (h : PRg X e t) (m : ∀ σ H Q, t' σ H Q → t σ H Q) : PRg X e t' := fun pins s σ H Q I q => h pins s σ H Q I (m σ H Q q)
theorem r_1 (hm : X.mg "range" = none) (ha : E' X a wa) (hg : Gl X "range" := by rfl) (na : starEach [a] X.env = (false, eval a X.env) :: starEach [] X.env := by rfl) : R' X (.Call (.Name "range" p) [a] [] pos) (rg1 wa) :=
  PRg.mono (prg_1 hg hm ha na) fun σ H Q ⟨env, S, R, l, h, q⟩ => by
    refine ⟨env, S, _, l, h, fun d S1 v H1 h1 r1 g1 d1 => ?_⟩
    cases d1 with
    | int n => exact ⟨n, rfl, q _ _ S1 H1 h1 r1 g1⟩
    | _ => exact h1.elim
theorem e_tupRg (hm : X.mg "tuple" = none) (he : R' X e w) (hc : X.calm = true := by rfl) (hg : Gl X "tuple" := by rfl) (na : starEach [e] X.env = (false, eval e X.env) :: starEach [] X.env := by rfl) : E' X (.Call (.Name "tuple" p) [e] [] pos) (wTupRg w) :=
  PE.mono (pe_tupRg hc hg hm he na) fun σ H Q ⟨env, S, R, l, h, q⟩ => by
    refine ⟨env, S, _, l, h, fun a b S1 H1 h1 r1 g1 => ⟨h1.1, fun t ht => ?_⟩⟩
    exact Res.tup (fun d' S' v' H' x y z u => q d' S' v' H' x y (g1.trans z) u) r1 h1.2 (rngD_rep a b) ht
theorem e_lstRg (hm : X.mg "list" = none) (he : R' X e w) (hc : X.calm = true := by rfl) (hg : Gl X "list" := by rfl) (na : starEach [e] X.env = (false, eval e X.env) :: starEach [] X.env := by rfl) : E' X (.Call (.Name "list" p) [e] [] pos) (wLstRg w) :=
  PE.mono (pe_listRg hc hg hm he na) fun σ H Q ⟨env, S, R, l, h, q⟩ => by
    refine ⟨env, S, _, l, h, fun a b S1 H1 h1 r1 g1 => ⟨h1.1, fun t ht => ?_⟩⟩
    exact Res.lst (fun d' S' v' H' x y z u => q d' S' v' H' x y (g1.trans z) u) r1 h1.2 (rngD_rep a b) ht
end
end Dd
set_option Elab.async false
set_option linter.all false
set_option maxRecDepth 100000
set_option maxHeartbeats 4000000
/-! Dicts, sets of ints sorted at once, sorted over data. -/
namespace Dd
open PySem PySem.Spec PyProof.Rows L2

/-! ### keys -/
def keyD : D → Option Key
  | .int i => some (.inl i)
  | .str x => some (.inr x)
  | _ => none
def keysD : List D → Option (List Key)
  | [] => some []
  | d :: ds => (keyD d).bind fun k => (keysD ds).map (k :: ·)
theorem keyD_rep {K : PySem.W.Frag} {H : Hp} {S : Sto} {d : D} {v : V} {k : Key} (h : Rep K H S d v) (e : keyD d = some k) : v = kV k := by
  cases h <;> cases e <;> rfl
theorem keysD_rep {K : PySem.W.Frag} {H : Hp} {S : Sto} : ∀ {ds : List D} {vs : List V} {ks : List Key}, Reps K H S ds vs → keysD ds = some ks → vs = ks.map kV
  | [], _, ks, .nil, e => by cases e; rfl
  | d :: ds, _, ks, .cons h r, e => by
    unfold keysD at e
    cases e1 : keyD d with
    | none => rw [e1] at e; cases e
    | some k =>
      cases e2 : keysD ds with
      | none => rw [e1, e2] at e; cases e
      | some ks' => rw [e1, e2] at e; cases e; rw [keyD_rep h e1, keysD_rep r e2]; rfl
def atK {κ α : Type} [DecidableEq κ] (kvs : List (κ × α)) (k : κ) : Option α := (kvs.find? fun kv => decide (kv.1 = k)).map (·.2)
theorem atK_V {κ : Type} [DecidableEq κ] (kvs : List (κ × V)) (k : κ) : atK kvs k = valV kvs k := rfl
def putKD {κ : Type} [DecidableEq κ] (kvs : List (κ × D)) (k : κ) (v : D) : List (κ × D) :=
  if (kvs.any fun kv => decide (kv.1 = k)) = true then kvs.map (fun kv => if kv.1 = k then (kv.1, v) else kv) else kvs ++ [(k, v)]
/-- the tables of data and of values go together -/
def KRep {κ : Type} (K : PySem.W.Frag) (H : Hp) (S : Sto) (kvs : List (κ × D)) (kws : List (κ × V)) : Prop := kws.map (·.1) = kvs.map (·.1) ∧ Reps K H S (kvs.map (·.2)) (kws.map (·.2))
section
variable {κ : Type} [DecidableEq κ] {K : PySem.W.Frag} {H : Hp} {S : Sto}
theorem KRep.nil : KRep (κ := κ) K H S [] [] := ⟨rfl, .nil⟩
theorem KRep.cons_inv {p : κ × D} {kvs : List (κ × D)} {q : κ × V} {kws : List (κ × V)} (h : KRep K H S (p :: kvs) (q :: kws)) : q.1 = p.1 ∧ Rep K H S p.2 q.2 ∧ KRep K H S kvs kws := by
  obtain ⟨h1, h2⟩ := h
  rw [List.map_cons, List.map_cons] at h1 h2
  obtain ⟨e1, e2⟩ := List.cons.inj h1
  cases h2 with | cons a b => exact ⟨e1, a, e2, b⟩
theorem KRep.cons {p : κ × D} {kvs : List (κ × D)} {q : κ × V} {kws : List (κ × V)} (e : q.1 = p.1) (r : Rep K H S p.2 q.2) (h : KRep K H S kvs kws) : KRep K H S (p :: kvs) (q :: kws) :=
  ⟨by rw [List.map_cons, List.map_cons, e, h.1], .cons r h.2⟩
theorem KRep.induct {C : List (κ × D) → List (κ × V) → Prop} (h0 : C [] []) (hs : ∀ p q kvs kws, q.1 = p.1 → Rep K H S p.2 q.2 → KRep K H S kvs kws → C kvs kws → C (p :: kvs) (q :: kws)) : ∀ {kvs : List (κ × D)} {kws : List (κ × V)}, KRep K H S kvs kws → C kvs kws
  | [], [], _ => h0
  | [], _ :: _, h => absurd h.1 (by simp)
  | _ :: _, [], h => absurd h.1 (by simp)
  | p :: kvs, q :: kws, h => let ⟨e, r, t⟩ := h.cons_inv; hs p q kvs kws e r t (KRep.induct h0 hs t)
theorem KRep.at {kvs : List (κ × D)} {kws : List (κ × V)} (k : κ) (h : KRep K H S kvs kws) : (∀ d, atK kvs k = some d → ∃ v, valV kws k = some v ∧ Rep K H S d v) ∧ (atK kvs k = none → valV kws k = none) := by
  refine KRep.induct (C := fun kvs kws => (∀ d, atK kvs k = some d → ∃ v, valV kws k = some v ∧ Rep K H S d v) ∧ (atK kvs k = none → valV kws k = none)) ⟨fun d e => (nomatch e), fun _ => rfl⟩ (fun p q kvs kws e r t ih => ?_) h
  unfold atK valV at ih ⊢
  rw [List.find?_cons, List.find?_cons, e]
  cases decide (p.1 = k) with
  | true => exact ⟨fun d e => by cases e; exact ⟨_, rfl, r⟩, fun z => by cases z⟩
  | false => exact ih
theorem KRep.put {kvs : List (κ × D)} {kws : List (κ × V)} (k : κ) {d : D} {v : V} (r : Rep K H S d v) (h : KRep K H S kvs kws) : KRep K H S (putKD kvs k d) (putK kws k v) := by
  have ha : (kws.any fun kv => decide (kv.1 = k)) = kvs.any fun kv => decide (kv.1 = k) :=
    KRep.induct (C := fun kvs kws => (kws.any fun kv => decide (kv.1 = k)) = kvs.any fun kv => decide (kv.1 = k)) rfl (fun p q kvs kws e _ _ ih => by rw [List.any_cons, List.any_cons, e, ih]) h
  unfold putKD putK
  rw [ha]
  split
  · refine KRep.induct (C := fun kvs kws => KRep K H S (kvs.map fun kv => if kv.1 = k then (kv.1, d) else kv) (kws.map fun kv => if kv.1 = k then (kv.1, v) else kv)) KRep.nil (fun p q kvs kws e r' t ih => ?_) h
    rw [List.map_cons, List.map_cons]
    by_cases hk : p.1 = k
    · rw [if_pos hk, if_pos (e.trans hk)]; exact KRep.cons e r ih
    · rw [if_neg hk, if_neg fun z => hk (e.symm.trans z)]; exact KRep.cons e r' ih
  · refine KRep.induct (C := fun kvs kws => KRep K H S (kvs ++ [(k, d)]) (kws ++ [(k, v)])) (KRep.cons rfl r KRep.nil) (fun p q kvs kws e r' t ih => ?_) h
    rw [List.cons_append, List.cons_append]
    exact KRep.cons e r' ih
theorem KRep.grow {H' : Hp} {S' : Sto} {kvs : List (κ × D)} {kws : List (κ × V)} (g : Grow H S H' S') (h : KRep K H S kvs kws) : KRep K H' S' kvs kws := ⟨h.1, h.2.grow g⟩
theorem KRep.len {kvs : List (κ × D)} {kws : List (κ × V)} (h : KRep K H S kvs kws) : kws.length = kvs.length := by simpa using congrArg List.length h.1
end

/-! ### {} -/
def wDNewK : DE := fun _ S R => ∀ p, S p = none → R (.loc p) (put S p (.dK []))
def wDNewT : DE := fun _ S R => ∀ p, S p = none → R (.loc p) (put S p (.dT []))
section
variable {X : Cx} {pos : Pos}
theorem e_dnewK : E' X (.Dict [] [] pos) wDNewK := PE.mono pe_dnewK fun σ H Q ⟨env, S, R, l, h, q⟩ p hp => by
  have g : Grow H S (upd H p (.dK [])) (put S p (.dK [])) := Grow.new hp l.sto
  exact q _ _ _ _ (h p (l.sto.free hp)) (l.sto.put g ⟨[], upd_same, rfl, .nil⟩) g (.loc p)
theorem e_dnewT : E' X (.Dict [] [] pos) wDNewT := PE.mono pe_dnewT fun σ H Q ⟨env, S, R, l, h, q⟩ p hp => by
  have g : Grow H S (upd H p (.dT [])) (put S p (.dT [])) := Grow.new hp l.sto
  exact q _ _ _ _ (h p (l.sto.free hp)) (l.sto.put g ⟨[], upd_same, rfl, .nil⟩) g (.loc p)
/-- {k: v} -/
def wDisp1 (wk wv : DE) : DE := fun env S R => ∀ p, S p = none → wk env (put S p (.dK [])) fun d S1 => wv env S1 fun e S2 => S2 p = some (.dK []) ∧ ∃ k, keyD d = some k ∧ R (.loc p) (put S2 p (.dK [(k, e)]))
theorem e_disp1 {k v : Expr} {wk wv : DE} (hk : E' X k wk) (hv : E' X v wv) : E' X (.Dict [some k] [v] pos) (wDisp1 wk wv) := PE.mono (pe_disp (pps_cons hk hv pps_nil) rfl rfl (fun z => by cases z) (by decide : 1 ≤ 15)) fun σ H Q ⟨env, S, R, l, h, q⟩ p hp => by
  have g : Grow H S (upd H p (.dK [])) (put S p (.dK [])) := Grow.new hp l.sto
  have r := l.sto.put g ⟨[], upd_same, rfl, .nil⟩
  refine ⟨env, _, _, l.grow g r, h p (l.sto.free hp), fun d S1 v1 H1 h1 r1 g1 d1 => ?_⟩
  refine ⟨env, S1, _, (l.grow g r).grow g1 r1, h1, fun e S2 v2 H2 h2 r2 g2 d2 => ?_⟩
  obtain ⟨hp2, k, ek, h2⟩ := h2
  obtain ⟨kws, e1, e2, _⟩ := r2 p _ hp2
  have e3 : kws = [] := by simpa using e2
  subst e3
  have ev := keyD_rep d1 ek
  refine ⟨e1, [(k, v2)], by rw [ev]; rfl, by show 1 ≤ 15; decide, ?_⟩
  have g3 : Grow H2 S2 (upd H2 p (.dK [(k, v2)])) (put S2 p (.dK [(k, e)])) := Grow.write r2 hp2
  exact q _ _ _ _ h2 (r2.put g3 ⟨[(k, v2)], upd_same, rfl, .cons (d2.grow g3) .nil⟩) (((g.trans g1).trans g2).trans g3) (.loc p)
end

/-! ### d[k], k in d, d[k] = v -/
@[irreducible] def dGet (d k : D) (S : Sto) (R : Option D → Prop) : Prop := match d with
  | .loc a => match S a with
    | some (.dK kvs) => match keyD k with
      | some kk => R (atK kvs kk)
      | none => False
    | some (.dT kvs) => match k with
      | .tup ks => match keysD ks with
        | some kk => R (atK kvs kk)
        | none => False
      | _ => False
    | _ => False
  | _ => False
theorem dGet_K {a : Addr} {k : D} {kk : Key} {kvs : List (Key × D)} {S : Sto} {R : Option D → Prop} (h : S a = some (.dK kvs)) (hk : keyD k = some kk) (q : R (atK kvs kk)) : dGet (.loc a) k S R := by
  unfold dGet
  simp only [h, hk]; exact q
theorem dGet_T {a : Addr} {ks : List D} {kk : List Key} {kvs : List (List Key × D)} {S : Sto} {R : Option D → Prop} (h : S a = some (.dT kvs)) (hk : keysD ks = some kk) (q : R (atK kvs kk)) : dGet (.loc a) (.tup ks) S R := by
  unfold dGet
  simp only [h, hk]; exact q
theorem dGet_rep {K : PySem.W.Frag} {H : Hp} {S : Sto} {d k : D} {v u : V} {R : Option D → Prop} (r : SRep K H S) (hd : Rep K H S d v) (hk : Rep K H S k u) (h : dGet d k S R) : ∃ a o w, v = .ref a ∧ R o ∧ DGet H a u w ∧ ((o = none ∧ w = none) ∨ ∃ x y, o = some x ∧ w = some y ∧ Rep K H S x y) := by
  unfold dGet at h
  cases hd with
  | loc a =>
    simp only at h
    have fin : ∀ {κ : Type} [DecidableEq κ] (kvs : List (κ × D)) (kws : List (κ × V)) (kk : κ), KRep K H S kvs kws → ((atK kvs kk = none ∧ valV kws kk = none) ∨ ∃ x y, atK kvs kk = some x ∧ valV kws kk = some y ∧ Rep K H S x y) := fun kvs kws kk q => by
      obtain ⟨q1, q2⟩ := q.at kk
      cases e : atK kvs kk with
      | none => exact .inl ⟨rfl, q2 e⟩
      | some x => obtain ⟨y, e2, rr⟩ := q1 x e; exact .inr ⟨x, y, rfl, e2, rr⟩
    cases ha : S a with
    | none => rw [ha] at h; exact h.elim
    | some ob =>
      rw [ha] at h
      cases ob with
      | dK kvs =>
        cases ek : keyD k with
        | none => simp [ek] at h
        | some kk =>
          simp only [ek] at h
          obtain ⟨kws, e1, q⟩ := r a _ ha
          exact ⟨a, _, _, rfl, h, .inl ⟨kws, kk, .inl e1, keyD_rep hk ek, rfl⟩, fin kvs kws kk q⟩
      | dT kvs =>
        cases hk with
        | tup hb hq =>
          rename_i ks b ws
          simp only at h
          cases ek : keysD ks with
          | none => simp [ek] at h
          | some kk =>
            simp only [ek] at h
            obtain ⟨kws, e1, q⟩ := r a _ ha
            exact ⟨a, _, _, rfl, h, .inr ⟨kws, kk, b, .inl e1, rfl, by rw [hb, keysD_rep hq ek], rfl⟩, fin kvs kws kk q⟩
        | _ => simp at h
      | _ => exact h.elim
  | _ => exact h.elim
@[irreducible] def dPut (d k y : D) (S : Sto) (R : Sto → Prop) : Prop := match d with
  | .loc a => match S a with
    | some (.dK kvs) => match keyD k with
      | some kk => kvs.length < sizeLine ∧ R (put S a (.dK (putKD kvs kk y)))
      | none => False
    | some (.dT kvs) => match k with
      | .tup ks => match keysD ks with
        | some kk => kvs.length < sizeLine ∧ R (put S a (.dT (putKD kvs kk y)))
        | none => False
      | _ => False
    | _ => False
  | _ => False
theorem dPut_K {a : Addr} {k y : D} {kk : Key} {kvs : List (Key × D)} {S : Sto} {R : Sto → Prop} (h : S a = some (.dK kvs)) (hk : keyD k = some kk) (hl : kvs.length < sizeLine) (q : R (put S a (.dK (putKD kvs kk y)))) : dPut (.loc a) k y S R := by
  unfold dPut
  simp only [h, hk]; exact ⟨hl, q⟩
theorem dPut_T {a : Addr} {ks : List D} {y : D} {kk : List Key} {kvs : List (List Key × D)} {S : Sto} {R : Sto → Prop} (h : S a = some (.dT kvs)) (hk : keysD ks = some kk) (hl : kvs.length < sizeLine) (q : R (put S a (.dT (putKD kvs kk y)))) : dPut (.loc a) (.tup ks) y S R := by
  unfold dPut
  simp only [h, hk]; exact ⟨hl, q⟩
theorem wr_dK {K : PySem.W.Frag} {H : Hp} {S : Sto} {a : Addr} {o : SO} {kvs : List (Key × D)} {kws : List (Key × V)} (r : SRep K H S) (h : S a = some o) (q : KRep K H S kvs kws) : SRep K (upd H a (.dK kws)) (put S a (.dK kvs)) ∧ Grow H S (upd H a (.dK kws)) (put S a (.dK kvs)) :=
  have g : Grow H S (upd H a (.dK kws)) (put S a (.dK kvs)) := Grow.write r h
  ⟨fun b x e => by
    by_cases hb : b = a
    · subst hb; rw [put_same] at e; cases e; exact ⟨kws, upd_same, (q.grow g).1, (q.grow g).2⟩
    · rw [put_ne hb] at e; exact (r b x e).grow g (upd_ne hb), g⟩
theorem wr_dT {K : PySem.W.Frag} {H : Hp} {S : Sto} {a : Addr} {o : SO} {kvs : List (List Key × D)} {kws : List (List Key × V)} (r : SRep K H S) (h : S a = some o) (q : KRep K H S kvs kws) : SRep K (upd H a (.dT kws)) (put S a (.dT kvs)) ∧ Grow H S (upd H a (.dT kws)) (put S a (.dT kvs)) :=
  have g : Grow H S (upd H a (.dT kws)) (put S a (.dT kvs)) := Grow.write r h
  ⟨fun b x e => by
    by_cases hb : b = a
    · subst hb; rw [put_same] at e; cases e; exact ⟨kws, upd_same, (q.grow g).1, (q.grow g).2⟩
    · rw [put_ne hb] at e; exact (r b x e).grow g (upd_ne hb), g⟩
theorem dPut_rep {K : PySem.W.Frag} {H : Hp} {S : Sto} {d k y : D} {v u t : V} {R : Sto → Prop} (r : SRep K H S) (hd : Rep K H S d v) (hk : Rep K H S k u) (hy : Rep K H S y t) (h : dPut d k y S R) : ∃ a H' S', v = .ref a ∧ DPut H a u t H' ∧ R S' ∧ SRep K H' S' ∧ Grow H S H' S' := by
  unfold dPut at h
  cases hd with
  | loc a =>
    simp only at h
    cases ha : S a with
    | none => rw [ha] at h; exact h.elim
    | some ob =>
      rw [ha] at h
      cases ob with
      | dK kvs =>
        cases ek : keyD k with
        | none => simp [ek] at h
        | some kk =>
          simp only [ek] at h
          obtain ⟨kws, e1, q⟩ := r a _ ha
          obtain ⟨r2, g2⟩ := wr_dK r ha (KRep.put kk hy q)
          exact ⟨a, _, _, rfl, .inl ⟨kws, kk, e1, keyD_rep hk ek, by rw [KRep.len q]; exact h.1, rfl⟩, h.2, r2, g2⟩
      | dT kvs =>
        cases hk with
        | tup hb hq =>
          rename_i ks b ws
          simp only at h
          cases ek : keysD ks with
          | none => simp [ek] at h
          | some kk =>
            simp only [ek] at h
            obtain ⟨kws, e1, q⟩ := r a _ ha
            obtain ⟨r2, g2⟩ := wr_dT r ha (KRep.put kk hy q)
            exact ⟨a, _, _, rfl, .inr ⟨kws, kk, b, e1, rfl, by rw [hb, keysD_rep hq ek], by rw [KRep.len q]; exact h.1, rfl⟩, h.2, r2, g2⟩
        | _ => simp at h
      | _ => exact h.elim
  | _ => exact h.elim
def wDGet (wd wk : DE) : DE := fun env S R => wd env S fun d S1 => wk env S1 fun k S2 => dGet d k S2 fun o => match o with
  | some x => R x S2
  | none => False
/-- k in d; neg: not in -/
def wDIn (neg : Bool) (wk wd : DE) : DE := fun env S R => wk env S fun k S1 => wd env S1 fun d S2 => dGet d k S2 fun o => R (.bl (xor neg o.isSome)) S2
def sDPut (wd wk wv : DE) : DS := fun F env S => wv env S fun y S1 => wd env S1 fun d S2 => wk env S2 fun k S3 => dPut d k y S3 fun S4 => F.nx env S4
section
variable {X : Cx} {o i value : Expr} {wd wk wv : DE} {pos pos' : Pos} {j : Nat}
theorem e_dget (hr : Room j X.A) (ho : E' X o wd) (hi : E' X i wk) (hs : NoSl i := by intro _ _; rfl) : E' X (.Subscript o i pos) (wDGet wd wk) := PE.mono (pe_dget (hu_of hr) ho hi hs) fun σ H Q ⟨env, S, R, l, h, q⟩ => by
  refine ⟨env, S, _, l, h, fun d S1 v H1 h1 r1 g1 d1 => ?_⟩
  refine ⟨env, S1, _, l.grow g1 r1, h1, fun k S2 u H2 h2 r2 g2 d2 => ?_⟩
  obtain ⟨a, ob, wv, e1, hR, hg, c⟩ := dGet_rep r2 (d1.grow g2) d2 h2
  subst e1
  rcases c with ⟨rfl, rfl⟩ | ⟨x, y, rfl, rfl, rr⟩
  · exact hR.elim
  · exact ⟨a, y, rfl, hg, q _ S2 _ H2 hR r2 (g1.trans g2) rr⟩
theorem lift_din {K : PySem.W.Frag} {neg : Bool} : ∀ σ H Q, lift K (wDIn neg wk wd) σ H Q → (lift K wk) σ H fun y H1 => (lift K wd) σ H1 fun x H2 => ∃ a o, x = .ref a ∧ DGet H2 a y o ∧ Q (.bl (xor neg o.isSome)) H2 := by
  intro σ H Q ⟨env, S, R, l, h, q⟩
  refine ⟨env, S, _, l, h, fun k S1 u H1 h1 r1 g1 d1 => ?_⟩
  refine ⟨env, S1, _, l.grow g1 r1, h1, fun d S2 v H2 h2 r2 g2 d2 => ?_⟩
  obtain ⟨a, ob, wv, e1, hR, hg, c⟩ := dGet_rep r2 d2 (d1.grow g2) h2
  subst e1
  refine ⟨a, wv, rfl, hg, ?_⟩
  have e : wv.isSome = ob.isSome := by rcases c with ⟨rfl, rfl⟩ | ⟨x, y, rfl, rfl, rr⟩ <;> rfl
  rw [e]
  exact q _ S2 _ H2 hR r2 (g1.trans g2) (.bl _)
theorem din_core {K : PySem.W.Frag} {b : Bool} : ∀ σ H (Q : VK), lift K (wDIn false wk wd) σ H Q → tDIn (lift K wk) (lift K wd) σ H Q := fun σ H Q h => by
  obtain ⟨env, S, R, l, h, q⟩ := lift_din σ H Q h
  refine ⟨env, S, R, l, h, fun k S1 u H1 h1 r1 g1 d1 => ?_⟩
  obtain ⟨env', S', R', l', h', q'⟩ := q k S1 u H1 h1 r1 g1 d1
  refine ⟨env', S', R', l', h', fun d S2 v H2 h2 r2 g2 d2 => ?_⟩
  obtain ⟨a, o, e, g, hq⟩ := q' d S2 v H2 h2 r2 g2 d2
  rw [Bool.false_xor] at hq
  exact ⟨a, o, e, g, hq⟩
theorem dnotin_core {K : PySem.W.Frag} {b : Bool} : ∀ σ H (Q : VK), lift K (wDIn true wk wd) σ H Q → tDNotIn (lift K wk) (lift K wd) σ H Q := fun σ H Q h => by
  obtain ⟨env, S, R, l, h, q⟩ := lift_din σ H Q h
  refine ⟨env, S, R, l, h, fun k S1 u H1 h1 r1 g1 d1 => ?_⟩
  obtain ⟨env', S', R', l', h', q'⟩ := q k S1 u H1 h1 r1 g1 d1
  refine ⟨env', S', R', l', h', fun d S2 v H2 h2 r2 g2 d2 => ?_⟩
  obtain ⟨a, o, e, g, hq⟩ := q' d S2 v H2 h2 r2 g2 d2
  rw [Bool.true_xor] at hq
  exact ⟨a, o, e, g, hq⟩
theorem e_din (hr : Room j X.A) (hi : E' X i wk) (ho : E' X o wd) (hm : behindInMarks .In o = false := by rfl) : E' X (.Compare i [.In] [o] pos) (wDIn false wk wd) := PE.mono (pe_cmp (pc_din (hu_of hr) hi ho) hm) (din_core (b := true))
theorem t_din (hr : Room j X.A) (hi : E' X i wk) (ho : E' X o wd) (hm : behindInMarks .In o = false := by rfl) : T' X (.Compare i [.In] [o] pos) (asB (wDIn false wk wd)) := PT.mono (pt_cmp (pc_din (hu_of hr) hi ho) hm) fun σ H Q h => by
  obtain ⟨env, S, R, l, w, q⟩ := lift_test σ H Q h
  exact din_core (b := true) σ H _ ⟨env, S, R, l, w, q⟩
theorem e_dnotin (hr : Room j X.A) (hi : E' X i wk) (ho : E' X o wd) (hm : behindInMarks .NotIn o = false := by rfl) : E' X (.Compare i [.NotIn] [o] pos) (wDIn true wk wd) := PE.mono (pe_cmp (pc_dnotin (hu_of hr) hi ho) hm) (dnotin_core (b := true))
theorem t_dnotin (hr : Room j X.A) (hi : E' X i wk) (ho : E' X o wd) (hm : behindInMarks .NotIn o = false := by rfl) : T' X (.Compare i [.NotIn] [o] pos) (asB (wDIn true wk wd)) := PT.mono (pt_cmp (pc_dnotin (hu_of hr) hi ho) hm) fun σ H Q h => by
  obtain ⟨env, S, R, l, w, q⟩ := lift_test σ H Q h
  exact dnotin_core (b := true) σ H _ ⟨env, S, R, l, w, q⟩
theorem s_dput (hr : Room j X.A) (ho : E' X o wd) (hi : E' X i wk) (hv : E' X value wv) (hs : swapsWith value (some (.Subscript o i pos')) pos.line X.env = Pure.pure false := by rfl) : S' X (.Assign [.Subscript o i pos'] value pos) (sDPut wd wk wv) :=
  PS.mono (ps_dput (hu_of hr) ho hi hv hs) fun E σ H ⟨env, S, F, l, h, k⟩ => by
    refine ⟨env, S, _, l, h, fun y S1 t H1 h1 r1 g1 d1 => ?_⟩
    refine ⟨env, S1, _, l.grow g1 r1, h1, fun d S2 v H2 h2 r2 g2 d2 => ?_⟩
    refine ⟨env, S2, _, (l.grow g1 r1).grow g2 r2, h2, fun kk S3 u H3 h3 r3 g3 d3 => ?_⟩
    obtain ⟨a, H4, S4, e1, hp, hR, r4, g4⟩ := dPut_rep r3 (d2.grow g3) d3 ((d1.grow g2).grow g3) h3
    exact ⟨a, H4, e1, hp, k.nx env S4 σ H4 hR (((g1.trans g2).trans g3).trans g4) ((((l.grow g1 r1).grow g2 r2).grow g3 r3).grow g4 r4)⟩
end
/-- d.setdefault(k, x), of a dict with ints and texts as keys -/
@[irreducible] def dSetd (d k x : D) (S3 : Sto) (R : DQ) : Prop := match d with
  | .loc a => match S3 a with
    | some (.dK kvs) => kvs.length < sizeLine ∧ match keyD k with
      | some kk => match atK kvs kk with
        | some y => R y S3
        | none => R x (put S3 a (.dK (putKD kvs kk x)))
      | none => False
    | _ => False
  | _ => False
theorem dSetd_i {a : Addr} {k x : D} {kk : Key} {kvs : List (Key × D)} {S : Sto} {R : DQ} (h : S a = some (.dK kvs)) (hl : kvs.length < sizeLine) (hk : keyD k = some kk) (q : match atK kvs kk with
    | some y => R y S
    | none => R x (put S a (.dK (putKD kvs kk x)))) : dSetd (.loc a) k x S R := by
  unfold dSetd
  simp only [h, hk]; exact ⟨hl, q⟩
def wDSetd (wd wk wx : DE) : DE := fun env S R => wd env S fun d S1 => (∃ a kvs, d = .loc a ∧ S1 a = some (.dK kvs)) ∧ wk env S1 fun k S2 => wx env S2 fun x S3 => dSetd d k x S3 R
theorem e_dsetd {X : Cx} {o e f : Expr} {wd wk wx : DE} {apos cpos : Pos} (ho : E' X o wd) (he : E' X e wk) (hf : E' X f wx) (m : M2 X o "setdefault" apos e f cpos := by exact ⟨rfl, rfl, rfl, rfl⟩) : E' X (.Call (.Attribute o "setdefault" apos) [e, f] [] cpos) (wDSetd wd wk wx) :=
  PE.mono (pe_dsetd ho he hf m) fun σ H Q ⟨env, S, R, l, h, q⟩ => by
    refine ⟨env, S, _, l, h, fun d S1 v H1 h1 r1 g1 d1 => ?_⟩
    obtain ⟨⟨a, kvs, rfl, ha⟩, h1⟩ := h1
    cases d1
    obtain ⟨kws, e1, _⟩ := r1 a _ ha
    refine ⟨a, rfl, .inl ⟨kws, .inl e1⟩, env, S1, _, l.grow g1 r1, h1, fun k S2 u H2 h2 r2 g2 d2 => ?_⟩
    refine ⟨env, S2, _, (l.grow g1 r1).grow g2 r2, h2, fun x S3 t H3 h3 r3 g3 d3 => ?_⟩
    unfold dSetd at h3
    simp only at h3
    cases hb : S3 a with
    | none => rw [hb] at h3; exact h3.elim
    | some ob =>
      rw [hb] at h3
      cases ob with
      | dK kvs3 =>
        obtain ⟨hz, h3⟩ := h3
        cases ek : keyD k with
        | none => rw [ek] at h3; exact h3.elim
        | some kk =>
          simp only [ek] at h3
          obtain ⟨kws3, e3, q3⟩ := r3 a _ hb
          obtain ⟨qa, qb⟩ := KRep.at kk q3
          refine ⟨kws3, kk, e3, keyD_rep d2 ek, by rw [KRep.len q3]; exact hz, fun w hw => ?_, fun hn => ?_⟩
          · cases ea : atK kvs3 kk with
            | none => rw [qb ea] at hw; cases hw
            | some y =>
              rw [ea] at h3
              obtain ⟨w', ew, rw'⟩ := qa y ea
              rw [ew] at hw; cases hw
              exact q _ S3 _ H3 h3 r3 ((g1.trans g2).trans g3) rw'
          · cases ea : atK kvs3 kk with
            | some y => obtain ⟨w', ew, _⟩ := qa y ea; rw [hn] at ew; cases ew
            | none =>
              rw [ea] at h3
              obtain ⟨r4, g4⟩ := wr_dK r3 hb (KRep.put kk d3 q3)
              exact q _ _ _ _ h3 r4 (((g1.trans g2).trans g3).trans g4) (d3.grow g4)
      | _ => exact h3.elim

/-! ### sorted -/
def insI (x : Int) : List Int → List Int
  | [] => [x]
  | y :: ys => if x ≤ y then x :: y :: ys else y :: insI x ys
def isort : List Int → List Int
  | [] => []
  | x :: xs => insI x (isort xs)
theorem insI_perm (x : Int) : ∀ ys : List Int, (insI x ys).Perm (x :: ys)
  | [] => .refl _
  | y :: ys => by
    unfold insI
    split
    · exact .refl _
    · exact ((insI_perm x ys).cons y).trans (.swap x y ys)
theorem isort_perm : ∀ xs : List Int, (isort xs).Perm xs
  | [] => .refl _
  | x :: xs => (insI_perm x _).trans ((isort_perm xs).cons x)
theorem insI_le {x : Int} : ∀ {ys : List Int}, ys.Pairwise (· ≤ ·) → (insI x ys).Pairwise (· ≤ ·)
  | [], _ => List.pairwise_singleton _ _
  | y :: ys, h => by
    rw [List.pairwise_cons] at h
    unfold insI
    split
    · rename_i e
      refine List.pairwise_cons.mpr ⟨fun z hz => ?_, List.pairwise_cons.mpr h⟩
      rcases List.mem_cons.mp hz with rfl | hz
      · exact e
      · exact Int.le_trans e (h.1 z hz)
    · rename_i e
      refine List.pairwise_cons.mpr ⟨fun z hz => ?_, insI_le h.2⟩
      rcases List.mem_cons.mp ((insI_perm x ys).mem_iff.mp hz) with rfl | hz
      · omega
      · exact h.1 z hz
theorem isort_le : ∀ xs : List Int, (isort xs).Pairwise (· ≤ ·)
  | [] => .nil
  | x :: xs => insI_le (isort_le xs)
theorem le_unique : ∀ {xs ys : List Int}, xs.Perm ys → xs.Pairwise (· ≤ ·) → ys.Pairwise (· ≤ ·) → xs = ys
  | [], ys, p, _, _ => (List.Perm.nil_eq p)
  | x :: xs, [], p, _, _ => absurd p.length_eq (by simp)
  | x :: xs, y :: ys, p, hx, hy => by
    rw [List.pairwise_cons] at hx hy
    have e : x = y := by
      have h1 : x ∈ y :: ys := p.mem_iff.mp List.mem_cons_self
      have h2 : y ∈ x :: xs := p.mem_iff.mpr List.mem_cons_self
      rcases List.mem_cons.mp h1 with h1 | h1
      · exact h1
      · rcases List.mem_cons.mp h2 with h2 | h2
        · exact h2.symm
        · exact Int.le_antisymm (hx.1 y h2) (hy.1 x h1)
    subst e
    rw [le_unique (List.Perm.cons_inv p) hx.2 hy.2]
/-- sorted, each once -/
def insU (x : Int) : List Int → List Int
  | [] => [x]
  | y :: ys => if x < y then x :: y :: ys else if x = y then y :: ys else y :: insU x ys
def usort : List Int → List Int
  | [] => []
  | x :: xs => insU x (usort xs)
theorem insU_mem {x z : Int} : ∀ {ys : List Int}, z ∈ insU x ys ↔ z = x ∨ z ∈ ys
  | [] => by simp [insU]
  | y :: ys => by
    unfold insU
    split
    · simp
    · split
      · rename_i e; subst e; simp
      · rw [List.mem_cons, insU_mem, List.mem_cons]; constructor <;> (intro h; rcases h with h | h | h <;> simp [h])
theorem usort_mem {z : Int} : ∀ {xs : List Int}, z ∈ usort xs ↔ z ∈ xs
  | [] => by simp [usort]
  | x :: xs => by unfold usort; rw [insU_mem, usort_mem, List.mem_cons]
theorem insU_lt {x : Int} : ∀ {ys : List Int}, ys.Pairwise (· < ·) → (insU x ys).Pairwise (· < ·)
  | [], _ => List.pairwise_singleton _ _
  | y :: ys, h => by
    rw [List.pairwise_cons] at h
    unfold insU
    split
    · rename_i e
      refine List.pairwise_cons.mpr ⟨fun z hz => ?_, List.pairwise_cons.mpr h⟩
      rcases List.mem_cons.mp hz with rfl | hz
      · exact e
      · exact Int.lt_trans e (h.1 z hz)
    · split
      · exact List.pairwise_cons.mpr h
      · refine List.pairwise_cons.mpr ⟨fun z hz => ?_, insU_lt h.2⟩
        rcases insU_mem.mp hz with rfl | hz
        · omega
        · exact h.1 z hz
theorem usort_lt : ∀ xs : List Int, (usort xs).Pairwise (· < ·)
  | [] => .nil
  | x :: xs => insU_lt (usort_lt xs)
theorem lt_unique : ∀ {xs ys : List Int}, (∀ z, z ∈ xs ↔ z ∈ ys) → xs.Pairwise (· < ·) → ys.Pairwise (· < ·) → xs = ys
  | [], [], _, _, _ => rfl
  | [], y :: ys, p, _, _ => nomatch (p y).mpr List.mem_cons_self
  | x :: xs, [], p, _, _ => nomatch (p x).mp List.mem_cons_self
  | x :: xs, y :: ys, p, hx, hy => by
    rw [List.pairwise_cons] at hx hy
    have e : x = y := by
      rcases List.mem_cons.mp ((p x).mp List.mem_cons_self) with h1 | h1
      · exact h1
      · rcases List.mem_cons.mp ((p y).mpr List.mem_cons_self) with h2 | h2
        · exact h2.symm
        · have := hx.1 y h2; have := hy.1 x h1; omega
    subst e
    rw [lt_unique (fun z => ?_) hx.2 hy.2]
    have q := p z
    rw [List.mem_cons, List.mem_cons] at q
    constructor
    · intro h
      rcases q.mp (.inr h) with e | h'
      · subst e; exact absurd (hx.1 _ h) (Int.lt_irrefl _)
      · exact h'
    · intro h
      rcases q.mpr (.inr h) with e | h'
      · subst e; exact absurd (hy.1 _ h) (Int.lt_irrefl _)
      · exact h'
def intsD : List D → Option (List Int)
  | [] => some []
  | .int i :: ds => (intsD ds).map (i :: ·)
  | _ :: _ => none
theorem intsD_map : ∀ {ds : List D} {ns : List Int}, intsD ds = some ns → ds = ns.map D.int
  | [], ns, h => by cases h; rfl
  | .int b :: ds, ns, h => by
    unfold intsD at h
    cases e : intsD ds with
    | none => rw [e] at h; cases h
    | some cs => rw [e] at h; cases h; rw [intsD_map e]; rfl
  | .non :: _, _, h | .bl _ :: _, _, h | .str _ :: _, _, h | .tup _ :: _, _, h | .lst _ :: _, _, h | .seq _ :: _, _, h | .loc _ :: _, _, h => by cases h
theorem intsD_of : ∀ ns : List Int, intsD (ns.map D.int) = some ns
  | [] => rfl
  | b :: ns => by show (intsD (ns.map D.int)).map (b :: ·) = _; rw [intsD_of ns]; rfl
theorem keys_ints {ks : List Key} {ns : List Int} (h : keysD (ns.map D.int) = some ks) : ks = ns.map Sum.inl := by
  induction ns generalizing ks with
  | nil => cases h; rfl
  | cons n ns ih =>
    unfold keysD at h
    simp only [List.map_cons] at h
    cases e : keysD (ns.map D.int) with
    | none => rw [e] at h; cases h
    | some k' => rw [e] at h; cases h; rw [ih e]; rfl
/-- sorted(xs) of ints; of a dict with ints as keys -/
def dSorted (ds : List D) (S : Sto) (R : DQ) : Prop := match ds with
  | [.lst xs] => ∃ ns, xs = ns.map D.int ∧ ns.length < 64 ∧ R (.lst ((isort ns).map D.int)) S
  | [.loc a] => match S a with
    | some (.lst xs) => ∃ ns, xs = ns.map D.int ∧ ns.length < 64 ∧ R (.lst ((isort ns).map D.int)) S
    | some (.dK kvs) => ∃ ks : List Int, kvs.map (·.1) = ks.map Sum.inl ∧ ks.length < 64 ∧ R (.lst ((isort ks).map D.int)) S
    | _ => False
  | _ => False
abbrev rSortedB (K : PySem.W.Frag) : List V → Hp → VK → Prop := fun vs H Q => rSorted K vs H Q ∨ (∃ (a : Addr) (kvs : List (Key × V)) (ks : List Int), vs = [.ref a] ∧ Rd H a (.dK kvs) ∧ kvs.map (·.1) = ks.map Sum.inl ∧ ks.length < 64 ∧
  ∀ (ys : List Int) (p : Addr), ys.Perm ks → ys.Pairwise (· ≤ ·) → H p = none → Q (.ref p) (upd H p (.lst (ys.map V.int))))
theorem f_sorted {K : PySem.W.Frag} : F1 K (rSortedB K) dSorted := by
  intro ds vs H S R Q r hd h k
  have fin : ∀ (ns ys : List Int) (p : Addr), R (.lst ((isort ns).map D.int)) S → ys.Perm ns → ys.Pairwise (· ≤ ·) → H p = none → Q (.ref p) (upd H p (.lst (ys.map V.int))) := fun ns ys p h hp hle hp' => by
    rw [le_unique (hp.trans (isort_perm ns).symm) hle (isort_le ns)]
    exact k.lst r h Reps.ints hp'
  unfold dSorted at h
  split at h
  · rename_i xs
    obtain ⟨ns, rfl, hz, h⟩ := h
    cases hd with | cons h1 t =>
    cases t
    cases h1 with | lst hs q =>
    have hl := hs.sq (K := K)
    rw [Reps.ints_inv q] at hl
    exact .inl ⟨_, ns, rfl, hl, hz, fun ys p a b c => fin ns ys p h a b c⟩
  · rename_i a
    cases hd with | cons h1 t =>
    cases t
    cases h1
    split at h
    · rename_i xs ha
      obtain ⟨ns, rfl, hz, h⟩ := h
      obtain ⟨ws, e1, q⟩ := r a _ ha
      rw [Reps.ints_inv q] at e1
      exact .inl ⟨_, ns, rfl, .inl (.inl e1), hz, fun ys p a b c => fin ns ys p h a b c⟩
    · rename_i kvs ha
      obtain ⟨ks, ek, hz, h⟩ := h
      obtain ⟨kws, e1, e2, q⟩ := r a _ ha
      exact .inr ⟨_, kws, ks, rfl, .inl e1, e2.trans ek, hz, fun ys p a b c => fin ks ys p h a b c⟩
    · exact h.elim
  · exact h.elim
theorem e_sorted {X : Cx} {e : Expr} {wr : DA} {pos p : Pos} (hm : X.mg "sorted" = none) (ha : A' X [e] wr) (hc : X.calm = true := by rfl) (hg : Gl X "sorted" := by rfl) (he : starEach [e] X.env = (false, eval e X.env) :: starEach [] X.env := by rfl) : E' X (.Call (.Name "sorted" p) [e] [] pos) (wCall dSorted wr) := e_cb (cr_sorted.or (call_sortedDI hc)) f_sorted hm ha (hg := hg) (he := he)

/-! ### sorted(set(..)) of ints -/
abbrev mtSet (w : World) : Obj := { cls := .type "set", dict := none, data := .set #[] 0 (.fresh 0 0 (!w.params.followText "set-order")) }
theorem set_of_list {P : Program} {w : World} {A : Around} {E : Value → Shared → Prop} {s : Shared} {l : Addr} {items : Array Value} (ns : List Int) {Q : Value → Shared → Prop} (hh : A.handled = none) (hl : s.heap.IsList l items) (hit : IntsAre items.toList ns) (hb : ns.length + 1 < scanBound)
    (h : ∀ (h' : Heap) (tk c : Nat), SetR w h' s.heap.objs.size (fun j => decide (j ∈ ns)) c → c ≤ ns.length → (∀ b o, s.heap.get? b = some o → h'.get? b = some o) → Q (.ref s.heap.objs.size) { s with heap := h', toks := tk }) : wpAny (model P w) A (call (.type "set") [.ref l]) Q E s := by
  have hisz : items.size = ns.length := by rw [← IntsAre.length hit, Array.length_toList]
  obtain ⟨c, tl, hmro⟩ := F.called_set.mro
  have hmade := F.called_set.made
  have hsub := F.called_set.sub
  refine wpAny_call (codeAny_of_tree ?_)
  show wpAny _ _ (callAny (.type "set") _) _ _ _
  refine wpAny_pure ⟨Code.quiet_builtin _ (by decide +kernel), codeAny_builtin F.entry_type_call ?_⟩
  rw [Around.under_plain (weight_type_call_type "set" [.ref l] []) rfl]
  have h1 := F.called_set.notType
  have h2 := F.called_set.canCreate
  have hct := F.typeCall_set_1 (.ref l)
  repeat (any_goals (first | assumption | wp_step))
  refine codeAny_mono (code_set_led1 (.ref l) (E := E) (Q₁ := fun obj s₁ => obj = .ref s.heap.objs.size ∧ s₁ = { s with heap := s.heap.push (mtSet w) }) ⟨rfl, rfl⟩) fun r s₁ hr => ?_
  cases r with
  | error e => exact hr
  | ok fl =>
    cases fl with
    | ret obj =>
      obtain ⟨rfl, rfl⟩ := hr
      have hS : (s.heap.push (mtSet w)).get? s.heap.objs.size = some (mtSet w) := Heap.get?_push_size _ rfl
      have hT : Shared.TypeIs { s with heap := s.heap.push (mtSet w) } (.ref s.heap.objs.size) "set" := ⟨_, hS, rfl⟩
      have hli := F.called_set.init.lookup
      have hbi := F.called_set.init.bind (.ref s.heap.objs.size)
      repeat (any_goals (first | assumption | wp_step))
      refine codeAny_mono (codeAny_call_builtin (R := wants (fun r s₂ => r = .none ∧ ∃ h' tk c, s₂ = { s with heap := h', toks := tk } ∧ SetR w h' s.heap.objs.size (fun j => decide (j ∈ ns)) c ∧ c ≤ ns.length ∧ (∀ b o, s.heap.get? b = some o → h'.get? b = some o)) E)
        F.called_set.init.plain F.entry_set_init (check_set_init_1 hT ?_)) fun r₂ s₂ hr₂ => ?_
      · obtain ⟨⟨ocls, odict, odata, oslots⟩, hol, hcl, nl, hdl⟩ := hl
        simp only at hcl hdl
        subst hcl; subst hdl
        have hol' := Heap.get?_push_of_some (mtSet w) hol
        have hsls := F.sub_list_set
        have hslf := F.sub_list_frozenset
        have hne : (Value.type "list" == Value.type "dict") = false := by decide
        have hl1 : (s.heap.push (mtSet w)).IsList l items := ⟨_, hol', rfl, nl, rfl⟩
        unfold Builtin.«set.__init__» noKeywords Builtin.Frozenset.updateFrom
        generalize hPI : pyIter = PI
        wp_walk
        subst hPI
        refine wpAny_pyIter_list hl1 (wpAny_bind (wpAny_runValue ?_))
        have hlS : l < s.heap.objs.size := Heap.lt_size hol
        have hneI : l ≠ (s.heap.push (mtSet w)).objs.size := by rw [Heap.size_push]; exact Nat.ne_of_lt (Nat.lt_succ_of_lt hlS)
        have hSf : s.heap.objs.size ∉ [(s.heap.push (mtSet w)).objs.size, l] := by
          rw [Heap.size_push]
          simp only [List.mem_cons, List.mem_singleton, List.not_mem_nil, or_false, not_or]
          exact ⟨Nat.ne_of_lt (Nat.lt_succ_self _), Nat.ne_of_gt hlS⟩
        have hval : ∀ (i : Nat) (v : Value), items[i]? = some v → ∃ k t, ns[i]? = some k ∧ v = .int k t := fun i v hv => by
          have hi : i < ns.length := by rw [← hisz]; exact (Array.getElem?_eq_some_iff.mp hv).1
          obtain ⟨t, e⟩ := PyProof.Rows.IntsAre.int_at hit i v (by rw [Array.getElem?_toList]; exact hv)
          exact ⟨ns[i], t, List.getElem?_eq_getElem hi, by rw [e, List.getD_eq_getElem?_getD, List.getElem?_eq_getElem hi]; rfl⟩
        refine set_update_ints ((Walks.list (show A.in1.in1.in1.handled = none by simp [hh]) _ l hneI items).toS) s.heap.objs.size hSf ns hisz hb hval (items.size - 0) 0 _ (by omega) (Nat.zero_le _) ⟨⟨_, Heap.get?_push_size _ rfl, rfl, rfl⟩, (hl1.push _)⟩ ⟨0, Nat.le_refl 0, setR_new_at (Heap.get?_push_of_some _ hS)⟩ ?_
        intro s' c' hm hc' hS'
        obtain ⟨h', g2, d', tk', os'⟩ := s'
        obtain rfl : g2 = s.gens := hm.gens
        obtain rfl : d' = s.drawn := hm.drawn
        obtain rfl : os' = s.os := hm.os
        show wpAny _ _ _ _ _ _
        refine wpAny_pure ?_
        show wpAny _ _ (ret Value.none) _ _ _
        rw [hisz] at hc'
        refine wpAny_pure ⟨rfl, h', tk', c', rfl, hS', hc', fun b o e => ?_⟩
        have hb0 : b < s.heap.objs.size := Heap.lt_size e
        have hb2 : b ≠ (s.heap.push (mtSet w)).objs.size := by rw [Heap.size_push]; exact Nat.ne_of_lt (Nat.lt_succ_of_lt hb0)
        exact hm.heap b o (by simp only [List.mem_cons, List.mem_singleton, List.not_mem_nil, or_false, not_or]; exact ⟨Nat.ne_of_lt hb0, hb2⟩) (Heap.get?_push_of_some _ (Heap.get?_push_of_some _ e))
      · cases r₂ with
        | error e => exact hr₂
        | ok fl₂ =>
          cases fl₂ with
          | ret r =>
            obtain ⟨rfl, h', tk, c', rfl, hS', hc', hk'⟩ := hr₂
            repeat (any_goals (first | assumption | wp_step))
            exact h _ _ _ hS' hc' hk'
          | _ => exact hr₂.elim
    | _ => exact hr.elim
/-- set(xs) of ints, a list or a tuple -/
def rSetI (K : PySem.W.Frag) (w : World) : List V → Hp → VK → Prop := fun vs H Q => ∃ (p : Addr) (ns : List Int), vs = [.ref p] ∧ (SqL K H p (ns.map V.int) ∨ SqT K H p (ns.map V.int)) ∧ ns.length < 64 ∧ ∀ q c, H q = none → c ≤ ns.length → Q (.ref q) (upd H q (SetO w q (fun j => decide (j ∈ ns)) c))
theorem cr_setI {X : Cx} (hc : X.calm = true) : CallR X (.type "set") (rSetI X.K X.w) := by
  intro pins s σ H vs us Q I r ⟨p, ns, ev, hs, hz, q⟩
  subst ev
  rw [Vals.ref1 r]
  have hb : ns.length + 1 < scanBound := by unfold scanBound; omega
  have fin : ∀ (h' : Heap) (tk c : Nat), SetR X.w h' s.heap.objs.size (fun j => decide (j ∈ ns)) c → c ≤ ns.length → (∀ b o, s.heap.get? b = some o → h'.get? b = some o) → EP X pins σ Q (.ref s.heap.objs.size) { s with heap := h', toks := tk } := fun h' tk c hS hc' hk =>
    ⟨.ref s.heap.objs.size, _, I.laid (t' := tk) hk (Nat.le_refl _) (setO_new hS), rfl, q _ c (I.hok.fresh (Nat.le_refl _)) hc'⟩
  rcases hs with hs | hs
  · obtain ⟨its, rv, pl, _⟩ := I.list hs
    exact set_of_list ns (I.ok.hd hc) pl.isList (by simpa using rv.ints) hb fin
  · obtain ⟨its, rv, pl, _⟩ := I.tuple hs
    exact call_set_tupI ns (I.ok.hd hc) pl (by simpa using rv.ints) hb fin
def wSortedSet (wa : DE) : DE := fun env S R => wa env S fun d S1 => ∃ ns xs, seqOf d S1 = some xs ∧ xs = ns.map D.int ∧ ns.length < 64 ∧ R (.lst ((usort ns).map D.int)) S1
theorem e_sortedSet {X : Cx} {e : Expr} {wa : DE} {p p2 pos pos2 : Pos} (hm : X.mg "sorted" = none) (hm2 : X.mg "set" = none) (ha : E' X e wa) (hc : X.calm = true := by rfl) (hg : Gl X "sorted" := by rfl) (hg2 : Gl X "set" := by rfl)
    (he : starEach [e] X.env = (false, eval e X.env) :: starEach [] X.env := by rfl) (he2 : starEach [.Call (.Name "set" p2) [e] [] pos2] X.env = (false, eval (.Call (.Name "set" p2) [e] [] pos2) X.env) :: starEach [] X.env := by rfl) :
    E' X (.Call (.Name "sorted" p) [.Call (.Name "set" p2) [e] [] pos2] [] pos) (wSortedSet wa) :=
  PE.mono (pe_callB (cr_sortedSet hc) hg hm (by decide +kernel) (pa_cons (pe_callTy (cr_setI hc) hg2 hm2 (by decide +kernel) (pa_cons ha pa_nil he) (he := he)) pa_nil he2) (he := he2)) fun σ H Q ⟨env, S, R, l, h, q⟩ => by
    refine ⟨env, S, _, l, h, fun d S1 v H1 ⟨ns, xs, es, ex, hz, h1⟩ r1 g1 d1 => ?_⟩
    subst ex
    obtain ⟨p, ws, rfl, hs, hq⟩ := seqOf_rep r1 d1 es
    rw [Reps.ints_inv hq] at hs
    refine ⟨p, ns, rfl, hs, hz, fun t c ht hc' => ⟨t, _, c, rfl, upd_same, Nat.lt_of_le_of_lt hc' hz, fun ms u hlt hmem hlen hu => ?_⟩⟩
    have e1 : ms = usort ns := lt_unique (fun z => by rw [hmem, usort_mem, decide_eq_true_iff]) hlt (usort_lt ns)
    subst e1
    have ht' : H1 t = none := ht
    have r2 : SRep X.K (upd H1 t (SetO X.w t (fun j => decide (j ∈ ns)) c)) S1 := r1.lay ht
    have g2 : Grow H1 S1 (upd H1 t (SetO X.w t (fun j => decide (j ∈ ns)) c)) S1 := Grow.lay ht
    exact Res.lst (fun d' S' v' H' x y z u => q d' S' v' H' x y ((g1.trans g2).trans z) u) r2 h1 Reps.ints hu
end Dd
set_option Elab.async false
set_option linter.all false
set_option maxRecDepth 100000
set_option maxHeartbeats 4000000
/-! Methods of lists as expressions, a list's item stored, small words for the text's facts. -/
namespace Dd
open PySem PySem.Spec PyProof.Rows L2
abbrev FewOk (X : Cx) (e : Expr) (cpos : Pos) : Prop := ((backTo cpos (starEach [e] X.env)).all (fun x => !x.1) && (backToKw cpos (keywordEach [] X.env)).all (fun x => x.1.isSome) && decide (([e] : List Expr).length + ([] : List Keyword).length + (if ([] : List Keyword).isEmpty then 0 else 1) < 30)) = true
section
variable {X : Cx} {o e i value : Expr} {es : List Expr} {wo wi wv : DE} {wr : DA} {apos cpos pos spos : Pos}
theorem e_app (ho : E' X o wo) (ha : A' X [e] wr) (hbase : attributeBase o "append" X.env (eval o X.env) = eval o X.env := by rfl) (hn : FewOk X e cpos := by rfl)
    (hline : (apos.endLine == cpos.line) = true := by rfl) (hst : starEach [e] X.env = (false, eval e X.env) :: starEach [] X.env := by rfl) (hpl : (backTo cpos (starEach [] X.env)).any (·.1) = false := by rfl) :
    E' X (.Call (.Attribute o "append" apos) [e] [] cpos) (wMt dApp wo wr) := PE.mono (pe_bm PySem.F.plainAttrs_list PySem.F.slot_list_append PySem.F.type_list_append mt_append ho ha hbase hn hline hst hpl) (lift_mt f_app)
theorem e_ext (ho : E' X o wo) (ha : A' X [e] wr) (hbase : attributeBase o "extend" X.env (eval o X.env) = eval o X.env := by rfl) (hn : FewOk X e cpos := by rfl)
    (hline : (apos.endLine == cpos.line) = true := by rfl) (hst : starEach [e] X.env = (false, eval e X.env) :: starEach [] X.env := by rfl) (hpl : (backTo cpos (starEach [] X.env)).any (·.1) = false := by rfl) :
    E' X (.Call (.Attribute o "extend" apos) [e] [] cpos) (wMt dExt wo wr) := PE.mono (pe_bm PySem.F.plainAttrs_list PySem.F.slot_list_extend PySem.F.type_list_extend mt_extend ho ha hbase hn hline hst hpl) (lift_mt f_ext)
/-- xs[i] = v of a list in the store -/
def sLPut (wo wi wv : DE) : DS := fun F env S => wv env S fun y S1 => wo env S1 fun d S2 => wi env S2 fun k S3 => ∃ a xs n j, d = .loc a ∧ k = .int n ∧ S3 a = some (.lst xs) ∧ ixN xs.length n = some j ∧ F.nx env (put S3 a (.lst (xs.set j y)))
theorem s_lput (ho : E' X o wo) (hi : E' X i wi) (hv : E' X value wv)
    (ha : ∀ v, assign (.Subscript o i pos) X.env v = (do let ov ← holding [v] (eval o X.env); let iv ← holding [v, ov] (eval i X.env); standAt pos; holding [v, ov, iv] (setItem ov iv v); release [v, ov, iv] []) := by intro _; rfl)
    (hs : swapsWithSole [.Subscript o i pos] value spos.line X.env = Pure.pure false := by rfl) (hw : swappedStores [.Subscript o i pos] value X.env = Pure.pure none := by rfl) (h1 : (assignEach [.Subscript o i pos] X.env).map (·.2) = [assign (.Subscript o i pos) X.env] := by rfl) :
    S' X (.Assign [.Subscript o i pos] value spos) (sLPut wo wi wv) := PS.mono (ps_asg hv (pg_sub ho hi set_list ha) hs hw h1) fun E σ H ⟨env, S, F, l, h, k⟩ => by
  refine ⟨env, S, _, l, h, fun y S1 t H1 h1 r1 g1 d1 => ?_⟩
  refine ⟨env, S1, _, l.grow g1 r1, h1, fun d S2 v H2 h2 r2 g2 d2 => ?_⟩
  refine ⟨env, S2, _, (l.grow g1 r1).grow g2 r2, h2, fun kk S3 u H3 h3 r3 g3 d3 => ?_⟩
  obtain ⟨a, xs, n, j, rfl, rfl, hx, hj, h3⟩ := h3
  cases d2
  cases d3
  obtain ⟨ws, e1, q⟩ := r3 a _ hx
  obtain ⟨r4, g4⟩ := wr_lst r3 hx (q.set j ((d1.grow g2).grow g3))
  exact ⟨a, ws, n, j, rfl, rfl, e1, by rw [← q.length]; exact hj, k.nx env _ σ _ h3 (((g1.trans g2).trans g3).trans g4) ((((l.grow g1 r1).grow g2 r2).grow g3 r3).grow g4 r4)⟩
end
/-! ### the text's facts -/
/-- what the head says of the text -/
def Tx (fa : List He.Fa) (fn : List He.DefD) (K : PySem.W.Frag) (mg : Str → Option Value) : Prop := ∃ h : Heap, K.In h ∧ h.Ns mainGlobals mg ∧ He.SaysD fa fn K
section
variable {fa : List He.Fa} {fn : List He.DefD} {K : PySem.W.Frag} {mg : Str → Option Value} {x c m f : Str}
theorem Tx.glo (T : Tx fa fn K mg) (i : Nat) (h : fa[i]? = some (.glo x) := by rfl) : mg x = some (.ref (He.ga K x)) := let ⟨_, X, G, s⟩ := T; He.glo_ok X G (s.fact i h)
theorem Tx.free (T : Tx fa fn K mg) (i : Nat) (h : fa[i]? = some (.free x) := by rfl) : mg x = none := let ⟨_, X, G, s⟩ := T; He.free_ok X G (s.fact i h)
theorem Tx.int (T : Tx fa fn K mg) (i : Nat) {n : Int} (h : fa[i]? = some (.int x n) := by rfl) : ∃ t, mg x = some (.int n t) := let ⟨_, X, G, s⟩ := T; He.int_ok X G (s.fact i h)
theorem Tx.def_ (T : Tx fa fn K mg) (i : Nat) {d : He.DefD} (h : fn[i]? = some d := by rfl) : ∃ fd, FunD K d.name d.qual d.params d.body d.scope (d.dvs K) (d.kws K) (He.fAd K d.at_) fd := let ⟨_, X, G, s⟩ := T; s.def_ i h
theorem Tx.says (T : Tx fa fn K mg) : He.SaysD fa fn K := let ⟨_, _, _, s⟩ := T; s
end
end Dd
namespace Dd
open PySem PySem.Spec PyProof.Rows L2
/-- -n -/
def wNeg (wa : DE) : DE := fun env S R => wa env S fun d S1 => match d with
  | .int i => R (.int (-i)) S1
  | _ => False
theorem e_neg {X : Cx} {a : Expr} {wa : DE} {pos : Pos} (ha : E' X a wa) : E' X (.UnaryOp .USub a pos) (wNeg wa) := PE.mono (pe_un un_neg ha) fun σ H Q ⟨env, S, R, l, h, q⟩ => by
  refine ⟨env, S, _, l, h, fun d S1 v H1 h1 r1 g1 d1 => ?_⟩
  cases d1 with
  | int i => exact ⟨i, rfl, q _ S1 _ H1 h1 r1 g1 (.int _)⟩
  | _ => exact h1.elim
/-- one of the data that a field may be -/
def sSpl (w : DS) : DS := fun F env S => w F env S ∨ ∃ a c fs f alts, S a = some (.obj c fs) ∧ fs.lookup f = some alts ∧ ∀ d ∈ alts, w F env (put S a (.obj c (putFD f d fs)))
theorem keys_put_at {f : Str} {d : D} : ∀ {fs : List (Str × List D)} {alts : List D}, fs.lookup f = some alts → (putFD f d fs).map (·.1) = fs.map (·.1)
  | [], _, h => nomatch h
  | (g, x) :: r, alts, h => by
    unfold putFD
    by_cases e : g = f
    · rw [if_pos e]; rfl
    · rw [if_neg e]
      rw [List.lookup_cons, beqN fun z => e z.symm] at h
      rw [List.map_cons, List.map_cons, keys_put_at h]
theorem ss_spl {X : Cx} {b : List Stmt} {w : DS} (h : Ss' X b w) : Ss' X b (sSpl w) := PSs.mono h fun E σ H ⟨env, S, F, l, q, k⟩ => by
  rcases q with q | ⟨a, c, fs, f, alts, ha, hf, q⟩
  · exact ⟨env, S, F, l, q, k⟩
  obtain ⟨dx, fws, e1, e2, e3⟩ := id (l.sto a _ ha)
  obtain ⟨v, d, z1, z2, z3⟩ := e3 f alts hf
  have g : Grow H S H (put S a (.obj c (putFD f d fs))) := ⟨fun _ _ h => h, fun _ _ _ h => h, fun b xs hb nb => ⟨hb, by
    rw [put_ne fun z => by rw [z, ha] at nb; cases nb]; exact nb⟩⟩
  refine ⟨env, put S a (.obj c (putFD f d fs)), F, l.grow g ?_, q d z2, k.grow g⟩
  intro b o eo
  by_cases hb : b = a
  · subst hb
    rw [put_same] at eo; cases eo
    refine ⟨dx, fws, e1, e2.trans (keys_put_at hf).symm, fun f' alts' hf' => ?_⟩
    rw [lookup_putFD] at hf'
    by_cases e : f' = f
    · subst e
      rw [if_pos rfl] at hf'; cases hf'
      exact ⟨v, d, z1, List.mem_singleton.mpr rfl, z3.grow g⟩
    · rw [if_neg e] at hf'
      obtain ⟨v', d', y1, y2, y3⟩ := e3 f' alts' hf'
      exact ⟨v', d', y1, y2, y3.grow g⟩
  · rw [put_ne hb] at eo
    exact (l.sto b o eo).grow g rfl
end Dd
set_option Elab.async false
set_option linter.all false
set_option maxRecDepth 100000
set_option maxHeartbeats 4000000
/-! The end: a def's promise by its function object, the script as data. -/
namespace Dd
open PySem PySem.Spec PyProof.Rows L2
theorem okF {P : Program} {w : World} {K : PySem.W.Frag} {mg : Str → Option Value} {base : Heap} {fd : FuncData} {x : Str × Option Str} {nm qual : Str} {params : Arguments} {body : List Stmt} {scope : Scope} {k : Nat} {ps : List Str} {c : DC} (N : List Str) (F : FunD K nm qual params body scope [] [] (He.fAd K x) fd) (sc : FnScope N ps scope)
    (len : ∀ ds S R, c ds S R → ds.length = ps.length)
    (h : ∀ (cdv : Value) (A : Around) (outer : List PySem.Env) (s : Shared) (H : Hp) (E : XK), Room k (A.deeper (envOfC qual scope s.heap.objs.size (He.fAd K x) cdv)) →
      ∃ w', Ss' (cxOf CX0 P w K mg base N qual scope (He.fAd K x) cdv A outer s H E).nox body w' ∧ ∀ ds S R, c ds S R → w' { nx := fun _ S' => Fin R .non S', rt := Fin R } (startD N.length ds) S) :
    FnOk P w K mg base CX0 (k + 1) (He.fAd K x) fd ps (spL K c) :=
  F.ok sc (fun vs H Q E ⟨ds, S, R, q, r, hc, _⟩ => by rw [← q.length]; exact len _ _ _ hc) fun cdv A outer s H vs Q E hr ⟨ds, S, R, q, r, hc, kk⟩ => by
    obtain ⟨w', hp, hw⟩ := h cdv A outer s H E hr
    exact ⟨liftS _ w', PSs.nox hp, startD N.length ds, S, _, start_lk r q, hw ds S R hc, ⟨fun env S' σ H' hf g l => Fin.res kk hf l.sto g .non, fun d S' v H' hf r' g rd => Fin.res kk hf r' g rd, fun _ _ _ _ z => z.elim, fun _ _ _ _ z => z.elim, ExOk.none⟩⟩
/-- the call of a law with its script, where nothing else is laid -/
theorem sp_start {K : PySem.W.Frag} {c : DC} {H : Hp} {a : Addr} {ns : List Int} (o : Only H) (h : SqL K H a (ns.map V.int)) (q : ∀ R : DQ, R (.bl true) (fun _ => none) → c [.seq (ns.map D.int)] (fun _ => none) R) : spL K c [.ref a] H (fun v _ => v = .bl true) fun _ _ _ => False := by
  have sq : SqF K H a (ns.map V.int) := by
    rcases h with (h | h) | h
    · rcases o a with e | ⟨ob, xs, e⟩
      · rw [e] at h; cases h
      · rw [e] at h; cases h
    · exact .inl h
    · exact .inr h
  refine ⟨[.seq (ns.map D.int)], fun _ => none, fun d _ => d = .bl true, .cons (.seq sq Reps.ints) .nil, (fun b ob e => by cases e), q _ rfl, ?_⟩
  intro d S' v H' hd _ _ rd
  subst hd
  cases rd
  rfl
theorem ss_no {X : Cx} {b : List Stmt} : Ss' X b (fun _ _ _ => False) := ⟨fun _ _ _ _ _ _ ⟨_, _, _, _, z, _⟩ => z.elim⟩
end Dd
set_option Elab.async false
set_option linter.all false
set_option maxRecDepth 100000
set_option maxHeartbeats 4000000
/-! An own exception over FaultError over ValueError, its __init__ saying super().__init__(..): made, by the heap. -/
namespace Dd
open PySem PySem.Spec PyProof.Rows L2
open PySem.W (ksFn ksEnv ks_superIn kxs_mw)

/-- what the written part says of the class at C, its __init__ at f, the cell cc of its name, the code cda -/
structure XC (P : Program) (K : PySem.W.Frag) (C f cc cda : Addr) (name qual : Str) (params : Arguments) (body : List Stmt) (scope : Scope) : Prop where
  oex : OexC K C
  init : PySem.W.findIn K (.ref C) "__init__" = some (some (.ref f))
  tyf : PySem.W.typeIn K (.ref f) = some (.type "function")
  fn : ∃ oc od kV doc pm an ct osl, K.lookup f = some ⟨oc, od, .func (ksFn name qual params body scope .none kV doc pm an (.ref cda) ct cc), osl⟩
  code : PySem.W.codeIn K (.ref cda) qual = true
  cobj : ∃ ccl cdd vs ccs file tf, K.lookup cda = some ⟨ccl, cdd, .fields vs, ccs⟩ ∧ vs[2]? = some (.str file tf) ∧ ((P.main.file : Str) == file) = true
  cell : ∃ cl cld csl, K.lookup cc = some ⟨cl, cld, .cell (some (.ref C)), csl⟩
  sup : ks_superIn K C C "__init__" = some (some (.builtin "ValueError.__init__"))
  subV : PySem.W.subIn K (.ref C) (.type "ValueError") = some true
  subC : PySem.W.mroIn K C (.ref C) = some true
  noSup : PySem.W.nsIn K mainGlobals "super" = some none
  noOp : PySem.W.nsIn K cStatics "thirdparty.any" = some none

section
variable {P : Program} {w : World} {A : Around} {E : Value → Shared → Prop} {h : Heap} {g : Array GenState} {d : Drawn} {t : Nat} {os : OsState}
variable {nm q : Str} {C N : Addr} {bs bm : List Value} {hdct : Bool} {sn : List Str} {sub : List Value} {ab : Bool} {col : Option Bool} {dd : Option Addr} {k0 k1 k2 k3 k5 : Option Value}
/-- the bound ValueError.__init__, called -/
theorem call_mw {u e t0 : Addr} {rest : List Value} {Q : Value → Shared → Prop}
    (hC : h.get? C = some (excClassObj nm q C N bs bm hdct sn sub ab col dd k0 k1 k2 k3 k5 "ValueError.__new__")) (he : h.get? e = some (HandSPX.excO C t0)) (hu : h.get? u = some (kxs_mw "ValueError.__init__" e)) (hrest : rest.length ≤ sizeLine)
    (hq : ∀ h' t1, (∀ b o, b ≠ e → h.get? b = some o → h'.get? b = some o) → h'.get? e = some (HandSPX.excO C t1) → Q .none ⟨h', g, d, t, os⟩) :
    wpAny (model P w) A (call (.ref u) rest) Q E ⟨h, g, d, t, os⟩ := by
  refine wpAny_call (codeAny_of_tree ?_)
  show wpAny _ A.in1 (callAny (.ref u) ⟨rest, []⟩) _ _ _
  simp only [callAny]
  refine wpAny_bind (wpAny_load hu ?_)
  simp only [kxs_mw, show (Value.type "method-wrapper" == Value.type "method" || Value.type "method-wrapper" == Value.type "builtin_function_or_method" || Value.type "method-wrapper" == Value.type "method-wrapper") = true by decide, if_true]
  refine PySem.W.KFB.if_so (by decide) ?_
  refine wpAny_bind (PySem.W.check_bound_init F.excBase_ValueError.toExcCallFacts hC he rfl ?_)
  refine wpAny_bind (wpAny_pure (wpAny_pure ?_))
  refine ⟨Code.quiet_builtin _ (by decide +kernel), codeAny_builtin F.excBase_ValueError.initEntry ?_⟩
  rw [Around.under_plainId F.excBase_ValueError.init.plain _]
  wp_walk
  refine hq _ h.objs.size (fun b o hb ho => ?_) ?_
  · rw [Heap.get?_update_other _ _ (Ne.symm hb)]
    exact Heap.get?_push_of_some _ ho
  · rw [Heap.get?_update_self _ (Heap.get?_push_of_some _ he) rfl]
    rfl
end
section
variable {P : Program} {w : World} {K : PySem.W.Frag} {mg : Str → Option Value} {base : Heap} {C f cc cda : Addr} {name qual : Str} {params : Arguments} {body : List Stmt} {scope : Scope}
/-- what the text's __init__ has -/
structure XS (scope : Scope) (ps : List Str) : Prop where
  ks : scope.names.lookup ("super" : Str) = some .globalImplicit
  kc : scope.names.lookup ("__class__" : Str) = some .free
  ka : scope.names.lookup ("self" : Str) = some .local
  kd : scope.kind = .function
  cell : ∀ x ∈ scope.names, x.2 ≠ .cell
  co : scope.isCoroutine = false
  gen : scope.isGenerator = false
  par : ∀ y ∈ ps, scope.names.lookup y = some .local
/-- how the text of super().__init__(..) is read: by rfl -/
structure SupTx (qual : Str) (scope : Scope) (f cc cda : Addr) (args : List Expr) (p0 p1 p2 p3 p4 : Pos) : Prop where
  call : ∀ L, ∃ pl : Sem Bool, eval (.Call (.Attribute (.Call (.Name "super" p0) [] [] p1) "__init__" p2) args [] p3) (ksEnv qual scope L f (.ref cda) cc) = (do
      let ov ← attributeBase (.Call (.Name "super" p0) [] [] p1) "__init__" (ksEnv qual scope L f (.ref cda) cc) (eval (.Call (.Name "super" p0) [] [] p1) (ksEnv qual scope L f (.ref cda) cc))
      standAt p2.atName
      let (fn, first) ← holding [ov] (getMethod ov "__init__" pl)
      callWith p3 fn first (backTo p3 (starEach args (ksEnv qual scope L f (.ref cda) cc))) [])
  inter : ∀ L, interactive (ksEnv qual scope L f (.ref cda) cc) = false
  swap : ∀ L, swapsWith (.Call (.Attribute (.Call (.Name "super" p0) [] [] p1) "__init__" p2) args [] p3) none p4.line (ksEnv qual scope L f (.ref cda) cc) = Pure.pure false
/-- the first statement, super().__init__(..): what it leaves -/
theorem super_st {A : Around} {E : Value → Shared → Prop} {s : Shared} {L e t0 : Addr} {m : Str → Option Value} {args : List Expr} {p0 p1 p2 p3 p4 : Pos} {Q : Flow → Shared → Prop} {ps : List Str} {ar : Arg}
    (T : XC P K C f cc cda name qual params body scope) (S : XS scope ps) (M : Mod K mg base) (B : ∀ b o, base.get? b = some o → s.heap.get? b = some o)
    (hp : (params.posonlyargs ++ params.args).head? = some ar) (har : ar.arg = "self")
    (hn : s.heap.Ns L m) (hself : m "self" = some (.ref e)) (he : s.heap.get? e = some (HandSPX.excO C t0)) (heC : e ≠ C)
    (htop : (P.main.scope.names.lookup ("super" : Str)).isSome = false) (tx : SupTx qual scope f cc cda args p0 p1 p2 p3 p4)
    (hargs : ∀ (u : Addr) (s1 : Shared) (Q' : Value → Shared → Prop), (∀ b o, s.heap.get? b = some o → s1.heap.get? b = some o) → s1.heap.get? u = some (kxs_mw "ValueError.__init__" e) →
      (∀ us s2, us.length ≤ sizeLine → s2.heap = s1.heap → s2.gens = s1.gens → s2.drawn = s1.drawn → s2.os = s1.os → wpAny (model P w) A (call (.ref u) us) Q' E s2) →
      wpAny (model P w) A (callWith p3 (.ref u) [] (backTo p3 (starEach args (ksEnv qual scope L f (.ref cda) cc))) []) Q' E s1)
    (hq : ∀ h' tk' t1, (∀ b o, b ≠ e → s.heap.get? b = some o → h'.get? b = some o) → h'.get? e = some (HandSPX.excO C t1) → Q .next { s with heap := h', toks := tk' }) :
    PySem.wpAt (model P w) A (.func body (ksEnv qual scope L f (.ref cda) cc)) (exec (.Expr (.Call (.Attribute (.Call (.Name "super" p0) [] [] p1) "__init__" p2) args [] p3) p4) (ksEnv qual scope L f (.ref cda) cc)) Q E s := by
  have KX : K.In s.heap := M.kin.keeps B
  obtain ⟨nm, q', N, bs, bm, sn, sub, ab, col, dd, k0, k1, k2, k3, k5, hC, hbm⟩ := T.oex.cls
  obtain ⟨oc, od, kV, doc, pm, an, ct, osl, hf⟩ := T.fn
  obtain ⟨ccl, cdd, vs, ccs, file, tf, hcode, hvs, hfile⟩ := T.cobj
  obtain ⟨cl, cld, csl, hcell⟩ := T.cell
  have hCs := KX _ _ hC
  obtain ⟨hh, g, d, tk, os⟩ := s
  obtain ⟨pl, tc⟩ := tx.call L
  refine ks_wpAt_Expr_any (ks_wpAt_MethodCall ?_ tc) (tx.inter L) (tx.swap L)
  refine ks_wpAt_super_base (env := ksEnv qual scope L f (.ref cda) cc) S.ks S.kc (by decide) rfl (KX _ _ hf) rfl hp rfl (KX _ _ hcode) rfl hvs hfile htop ?_
  obtain ⟨mb, hb1, hb2⟩ := M.blt
  refine PySem.W.ks_loadName_global S.kd S.ks (Calls.loadGlobal_builtin (env := ksEnv qual scope L f (.ref cda) cc) (M.glob.keeps B) (PySem.W.mg_none_of KX (M.glob.keeps B) T.noSup) (hb1.keeps B) ((hb2 _ (by decide +kernel)).trans PyProof.Rows.Boot.«super») ⟨rfl, ?_⟩)
  refine wpAny_loadName_free S.kd S.kc rfl ⟨_, KX _ _ hcell, rfl⟩ ?_
  rw [har]
  refine wpAny_loadName_local S.kd S.ka hn hself ?_
  refine ks_wpAny_isType_cls hCs rfl ⟨rfl, ?_⟩
  refine ks_wpAny_call_super hCs rfl he rfl (fun c z => by cases z) (PySem.W.looks_mroIn KX T.subC) (fun h1 e1 kk1 => ?_)
  have KX1 : K.In h1 := KX.keeps kk1
  -- the method
  have hsup := T.sup
  unfold ks_superIn at hsup
  have hcl : PySem.W.clsIn K C = some { name := nm, bases := bs, mro := .ref C :: bm, ns := N, qualname := q', hasDict := true, slotNames := sn, subclasses := sub, abstract := ab, collection := col, hasDel := false } := by unfold PySem.W.clsIn; rw [hC] <;> rfl
  rw [hcl] at hsup
  have heI : PySem.W.InstAt h1 e (HandSPX.excO C t0) C none := ⟨kk1 _ _ he, rfl, rfl, trivial⟩
  refine PySem.W.kxs_getMethod PySem.W.kxs_ValueError e1 (PySem.W.looks_opaque KX1 T.noOp) (fun A Q E s k q => wpAny_bind ((PySem.W.looks_clsIn KX1 hcl) A _ E s k (wpAny_pure q))) rfl KX1 hsup (heI.type.andThen (PySem.W.looks_subIn KX1 T.subV)) heC (by decide) ?_
  refine hargs _ _ _ (fun b o x => Heap.get?_push_of_some _ (kk1 b o x)) (Heap.get?_push_size _ rfl) fun us s2 hus e2 e3 e4 e5 => ?_
  obtain ⟨h2, g2, d2, tk2, os2⟩ := s2
  simp only at e2 e3 e4 e5
  subst e2 e3 e4 e5
  refine call_mw (Heap.get?_push_of_some _ (kk1 _ _ hCs)) (Heap.get?_push_of_some _ (kk1 _ _ he)) (Heap.get?_push_size _ rfl) hus fun h' t1 k' he' => ?_
  exact hq h' tk2 t1 (fun b o hb ho => k' b o hb (Heap.get?_push_of_some _ (kk1 b o ho))) he'

/-- an __init__ that says super().__init__() alone -/
theorem init0 {A : Around} {s : Shared} {e t0 : Addr} {p0 p1 p2 p3 p4 : Pos} {R : Result → Shared → Prop} {ar : Arg}
    (T : XC P K C f cc cda name qual params body scope) (S : XS scope ["self"]) (M : Mod K mg base) (B : ∀ b o, base.get? b = some o → s.heap.get? b = some o)
    (hbody : body = [.Expr (.Call (.Attribute (.Call (.Name "super" p0) [] [] p1) "__init__" p2) [] [] p3) p4])
    (hp : (params.posonlyargs ++ params.args).head? = some ar) (har : ar.arg = "self")
    (hbind : ∀ kV doc pm an ct, bindArgs (ksFn name qual params body scope .none kV doc pm an (.ref cda) ct cc) ⟨[Value.ref e], []⟩ = (Pure.pure [(("self" : Str), Value.ref e)] : Sem (List (Str × Value))))
    (hd : A.depth < recursionLimit) (he : s.heap.get? e = some (HandSPX.excO C t0)) (heC : e ≠ C)
    (htop : (P.main.scope.names.lookup ("super" : Str)).isSome = false) (tx : SupTx qual scope f cc cda [] p0 p1 p2 p3 p4)
    (hq : ∀ h' tk' t1, (∀ b o, b ≠ e → s.heap.get? b = some o → h'.get? b = some o) → h'.get? e = some (HandSPX.excO C t1) → R (.ok (.ret .none)) { s with heap := h', toks := tk' }) :
    codeAny (model P w) A (.call (.ref f) ⟨[.ref e], []⟩) R s := by
  have KX : K.In s.heap := M.kin.keeps B
  obtain ⟨oc, od, kV, doc, pm, an, ct, osl, hf⟩ := id T.fn
  refine ks_codeAny_call_defAt (fd := ksFn name qual params body scope .none kV doc pm an (.ref cda) ct cc) (body := body) (binds := [(("self" : Str), Value.ref e)]) hd (KX _ _ hf) rfl (M.nolimit.keeps B) (PySem.W.codeRec_of KX T.code) rfl (BindsTo.of_eq (hbind _ _ _ _ _)) S.cell (fun y hy => by
    rw [List.mem_singleton.mp hy]; exact S.ka) (fun h0 hns kk => ?_) S.co S.gen S.kd
  rw [hbody]
  refine ks_wpAt_execs_cons ?_
  rw [← hbody]
  have he0 : h0.get? e = some (HandSPX.excO C t0) := kk _ _ he
  refine super_st (s := { s with heap := h0, toks := s.toks + 1 }) (ps := ["self"]) T S M (fun b o x => kk b o (B b o x)) hp har hns rfl he0 heC htop tx (fun u s1 Q' ks hu hc => ?_) (fun h' tk' t1 k' he' => ?_)
  · exact PySem.W.kxs_callWith (i := "ValueError.__init__") (x := e) rfl (evalArgs_empty ⟨hu, hc [] s1 (Nat.zero_le _) rfl rfl rfl rfl⟩)
  · show PySem.wpAt _ _ _ (execs [] _) _ _ _
    refine wpAt_of_wpAny (wpAny_execs_nil ?_)
    exact hq h' tk' t1 (fun b o hb ho => k' b o hb (kk b o ho)) he'
end
end Dd
set_option Elab.async false
set_option linter.all false
set_option maxRecDepth 100000
set_option maxHeartbeats 4000000
/-! Exceptions over data. -/
namespace Dd
open PySem PySem.Spec PyProof.Rows L2
open PySem.W (ksFn ksEnv ks_superIn kxs_mw)

section
variable {X : Cx} {C f cc cda : Addr} {name qual : Str} {params : Arguments} {body : List Stmt} {scope : Scope} {x : Str} {p pos p0 p1 p2 p3 p4 : Pos} {ar : Arg}
/-- C() -/
theorem pmk_x0 (T : XC X.prog X.K C f cc cda name qual params body scope) (S : XS scope ["self"])
    (hbody : body = [.Expr (.Call (.Attribute (.Call (.Name "super" p0) [] [] p1) "__init__" p2) [] [] p3) p4])
    (hp : (params.posonlyargs ++ params.args).head? = some ar) (har : ar.arg = "self")
    (hbind : ∀ e kV doc pm an ct, bindArgs (ksFn name qual params body scope .none kV doc pm an (.ref cda) ct cc) ⟨[Value.ref e], []⟩ = (Pure.pure [(("self" : Str), Value.ref e)] : Sem (List (Str × Value))))
    (htop : (X.prog.main.scope.names.lookup ("super" : Str)).isSome = false) (tx : SupTx qual scope f cc cda [] p0 p1 p2 p3 p4)
    {k : Nat} (hr : Room (k + 1) X.A) (hg : Gl X x) (hm : X.mg x = some (.ref C)) (hdb : (x == ("__debug__" : Str)) = false := by decide) :
    PMk X (.Call (.Name x p) [] [] pos) (fun _ H Q => Q (.ref C) none H) := by
  intro pins s σ H Q I h
  obtain ⟨nm, q, N, bs, bm, sn, sub, ab, col, dd, k0, k1, k2, k3, k5, hC, hbm⟩ := T.oex.cls
  refine wpAny_Call_Name_kw (ld_glob I hg hm ?_ hdb)
  refine PySem.W.callWith_K0 I.kIn T.oex.kC ?_
  show wpAny _ _ (call (.ref C) []) _ _ _
  obtain ⟨hp', g, dr, tk, os⟩ := s
  have hsz : hp'.objs.size ≤ hp'.objs.size + 1 := Nat.le_succ _
  have hn : H (hp'.objs.size + 1) = none := I.hok.fresh hsz
  have kk : ∀ b o, hp'.get? b = some o → ((hp'.push (PySem.W.kdv_tup [])).push (PySem.HandSPX.excO C hp'.objs.size)).get? b = some o := fun b o e => Heap.get?_push_of_some _ (Heap.get?_push_of_some _ e)
  have hget : ((hp'.push (PySem.W.kdv_tup [])).push (PySem.HandSPX.excO C hp'.objs.size)).get? (hp'.objs.size + 1) = some (PySem.HandSPX.excO C hp'.objs.size) := by heap_get
  have hCs := I.kIn _ _ hC
  have hbs : ∀ b o, X.base.get? b = some o → hp'.get? b = some o := fun b o e => (I.bs b o e).1
  have lt : ∀ b o, hp'.get? b = some o → b ≠ hp'.objs.size + 1 := fun b o e => Nat.ne_of_lt (Nat.lt_of_lt_of_le (Heap.lt_size e) hsz)
  have hr2 := (hr.make C [] []).depth
  refine wpAny_call (PySem.HandSPX.call_own F.excBase_ValueError (fun Y => PySem.HandSPX.refsVE_contains Y bm hbm) hCs (PySem.W.looks_findIn I.kIn T.init) (fun self => PySem.W.bind_fn I.kIn self T.tyf) (Nat.zero_le _) ?_)
  refine init0 (s := ⟨(hp'.push (PySem.W.kdv_tup [])).push (PySem.HandSPX.excO C hp'.objs.size), g, dr, tk, os⟩) T S I.ok.mod (fun b o e => kk b o (hbs b o e)) hbody hp har (fun kV doc pm an ct => hbind _ kV doc pm an ct) hr2 hget (fun z => lt _ _ hCs z.symm) htop tx (fun h' tk' t1 k' he' => ?_)
  refine ⟨rfl, ?_⟩
  refine ⟨hp'.objs.size + 1, _, _, ⟨hp', g, dr, tk, os⟩, H, .ref C, none, rfl, I, fun b o e => k' b o (lt b o e) (kk b o e), ?_, he', ⟨rfl, rfl⟩, rfl, rfl, hn, rfl, I.bare, raises_own T.oex.exC T.oex.tyC, h⟩
  cases q : hp'.get? (hp'.objs.size + 1) with
  | none => rfl
  | some o => exact absurd (Heap.lt_size q) (Nat.not_lt.mpr hsz)
end

/-! ### calls that may raise -/
abbrev DXf := Str → List (Str × D) → Sto → Prop
abbrev DCX := List D → Sto → DQ → DXf → Prop
/-- all that is taken -/
def Wmax (X : Cx) : WX := fun cls d σ H => ∃ W : WX, Takes X W ∧ W cls d σ H
theorem takes_max {X : Cx} : Takes X (Wmax X) := fun u s' ⟨a, B, sI, pins, σ, H, cls, d, e, I, nb, up, sky, na, os, ag, W, tk, w⟩ => tk u s' ⟨a, B, sI, pins, σ, H, cls, d, e, I, nb, up, sky, na, os, ag, w⟩
def spX (K : PySem.W.Frag) (c : DCX) : Sp := fun vs H Q E => ∃ ds S R Z, Reps K H S ds vs ∧ SRep K H S ∧ c ds S R Z ∧ Res K H S R Q ∧ ∀ x fs S' H' cls d, Z x fs S' → SRep K H' S' → Grow H S H' S' → XRep K H' S' x fs cls d → E cls d H'
structure FnAtX (P : Program) (w : World) (K : PySem.W.Frag) (mg : Str → Option Value) (base : Heap) (k : Nat) (x : Str × Option Str) (ps : List Str) (c : DCX) : Prop where
  ex : ∃ fd, FnOk P w K mg base (L2.CX P w) k (He.fAd K x) fd ps (spX K c) ∧ Binds K fd ps [] ∧ PySem.W.keepIn K (.ref (He.fAd K x)) = true
/-- the exception lies in the store that is left -/
def FinX (Z : DXf) : DXf := fun x fs S' => ∃ S, Wk S' S ∧ Z x fs S
theorem FinX.now {Z : DXf} {x : Str} {fs : List (Str × D)} {S : Sto} (h : Z x fs S) : FinX Z x fs S := ⟨S, Wk.refl, h⟩
theorem FinX.to {Z : DXf} {x : Str} {fs : List (Str × D)} {S' S : Sto} (w : Wk S' S) (h : Z x fs S) : FinX Z x fs S' := ⟨S, w, h⟩
theorem XRep.grow {K : PySem.W.Frag} {H H' : Hp} {S S' : Sto} {c : Str} {fs : List (Str × D)} {cls : Value} {d : Option Addr} (g : Grow H S H' S') (he : H' = H) (x : XRep K H S c fs cls d) : XRep K H' S' c fs cls d := by
  subst he
  obtain ⟨h, x⟩ := x
  refine ⟨h, x.imp id fun ⟨dx, fws, h1, h2, h3, h4⟩ => ⟨dx, fws, h1, h2, h3, h4.grow g⟩⟩
section
variable {P : Program} {w : World} {K : PySem.W.Frag} {mg : Str → Option Value} {base : Heap} {f : Addr} {fd : FuncData}
theorem okDX {x : Str × Option Str} {nm qual : Str} {params : Arguments} {body : List Stmt} {scope : Scope} {k : Nat} {ps : List Str} {c : DCX} (N : List Str) (F : ∃ fd, FunD K nm qual params body scope [] [] (He.fAd K x) fd) (sc : FnScope N ps scope)
    (hb : ∀ (kV doc pm : Value) (an : Option Addr) (cdv ct : Value) (us : List Value), us.length = ps.length → bindArgs (PySem.W.fnOf nm qual params body scope .none kV doc pm an cdv ct) ⟨us, []⟩ = Pure.pure (ps.zip us))
    (len : ∀ ds S R Z, c ds S R Z → ds.length = ps.length)
    (h : ∀ (cdv : Value) (A : Around) (outer : List PySem.Env) (s : Shared) (H : Hp) (E : XK), Room k (A.deeper (envOfC qual scope s.heap.objs.size (He.fAd K x) cdv)) →
      PassesOwn (model P w) (cxOf (L2.CX P w) P w K mg base N qual scope (He.fAd K x) cdv A outer s H E).A (cxOf (L2.CX P w) P w K mg base N qual scope (He.fAd K x) cdv A outer s H E).env (cxOf (L2.CX P w) P w K mg base N qual scope (He.fAd K x) cdv A outer s H E).xe →
      ∃ w', Ss' (cxOf (L2.CX P w) P w K mg base N qual scope (He.fAd K x) cdv A outer s H E) body w' ∧ ∀ ds S R Z, c ds S R Z → w' { nx := fun _ S' => Fin R .non S', rt := Fin R, ex := fun x fs _ S' => FinX Z x fs S' } (startD N.length ds) S) :
    FnAtX P w K mg base (k + 1) x ps c := by
  obtain ⟨fd, F⟩ := F
  refine ⟨fd, F.ok sc (fun vs H Q E ⟨ds, S, R, Z, q, r, hc, _⟩ => by rw [← q.length]; exact len _ _ _ _ hc) (fun cdv A outer s H vs Q E hr ⟨ds, S, R, Z, q, r, hc, kk, kx⟩ => ?_), F.bindsN hb, F.kp⟩
  obtain ⟨w', hp, hw⟩ := h cdv A outer s H E hr (passes_of (E₁ := _) (K := _) rfl)
  refine ⟨liftS _ w', hp, startD N.length ds, S, _, start_lk r q, hw ds S R Z hc, ⟨fun env S' σ H' hf g l => Fin.res kk hf l.sto g .non, fun d S' v H' hf r' g rd => Fin.res kk hf r' g rd, fun _ _ _ _ z => z.elim, fun _ _ _ _ z => z.elim, ?_⟩⟩
  refine Takes.imp (takes_of (E₁ := _) rfl rfl rfl rfl) fun cls d σ' H' ⟨x, fs, env', S', ⟨S2, wk, z⟩, g, l, xr⟩ => ?_
  exact kx x fs S2 H' cls d z (wk.rep l.sto) (g.trans wk.grow) (xr.grow wk.grow rfl)
/-- a promise without exceptions -/
theorem FnAtX.no {j : Nat} {x : Str × Option Str} {ps : List Str} {c : DCX} (G : FnAtX P w K mg base j x ps c) : FnAt P w K mg base j x ps (fun ds S R => c ds S R fun _ _ _ => False) := by
  obtain ⟨fd, F, b, kp⟩ := G.ex
  refine ⟨fd, ⟨fun vs H Q E ⟨ds, S, R, q, r, hc, k⟩ => F.len vs H Q E ⟨ds, S, R, _, q, r, hc, k, fun _ _ _ _ _ _ z => z.elim⟩, fun A outer s H args us vs Q E hr e0 hb hv ⟨ds, S, R, q, r, hc, k⟩ => ?_⟩, b, kp⟩
  refine codeAny_mono (F.run A outer s H args us vs Q (fun _ _ _ => False) hr e0 hb hv ⟨ds, S, R, _, q, r, hc, k, fun _ _ _ _ _ _ z => z.elim⟩) fun r s' hq => ?_
  cases r with
  | error e =>
    obtain ⟨_, _, _, _, _, _, _, _, _, _, _, _, z⟩ := hq
    exact z.elim
  | ok fl => cases fl <;> exact hq
end

/-! ### expressions that may raise -/
abbrev DEX := Env → Sto → DQ → DXf → Prop
abbrev DAX := Env → Sto → (List D → Sto → Prop) → DXf → Prop
def ZOk (X : Cx) (H : Hp) (S : Sto) (σ : L2.St) (Z : DXf) : Prop :=
  Takes X fun cls d σ' H' => σ' = σ ∧ ∃ x fs S', Z x fs S' ∧ SRep X.K H' S' ∧ Grow H S H' S' ∧ XRep X.K H' S' x fs cls d
theorem ZOk.grow {X : Cx} {H H' : Hp} {S S' : Sto} {σ : L2.St} {Z : DXf} (k : ZOk X H S σ Z) (g : Grow H S H' S') : ZOk X H' S' σ Z :=
  Takes.imp k fun _ _ _ _ ⟨e, x, fs, s, z, r, g', xr⟩ => ⟨e, x, fs, s, z, r, g.trans g', xr⟩
theorem ExOk.z {X : Cx} {H : Hp} {S : Sto} {σ : L2.St} {env : Env} {ex : Str → List (Str × D) → Env → Sto → Prop} (k : ExOk X H S ex) (l : Lk X.K H S env σ) : ZOk X H S σ fun x fs S' => ex x fs env S' :=
  Takes.imp k fun _ _ _ _ ⟨e, x, fs, s, z, r, g', xr⟩ => ⟨x, fs, env, s, z, g', by subst e; exact l.grow g' r, xr⟩
def liftX (X : Cx) (w : DEX) : TE := fun σ H Q => ∃ env S R Z, Lk X.K H S env σ ∧ w env S R Z ∧ Res X.K H S R Q ∧ ZOk X H S σ Z
def liftAX (X : Cx) (w : DAX) : TA := fun σ H Q => ∃ env S R Z, Lk X.K H S env σ ∧ w env S R Z ∧ (∀ ds S' vs H', R ds S' → SRep X.K H' S' → Grow H S H' S' → Reps X.K H' S' ds vs → Q vs H') ∧ ZOk X H S σ Z
abbrev EX (X : Cx) (e : Expr) (w : DEX) : Prop := PE X e (liftX X w)
abbrev AX (X : Cx) (e : List Expr) (w : DAX) : Prop := PA X e (liftAX X w)
def xUp (w : DE) : DEX := fun env S R _ => w env S R
def aUp (w : DA) : DAX := fun env S R _ => w env S R
def aConsX (wa : DEX) (wr : DAX) : DAX := fun env S R Z => wa env S (fun d S1 => wr env S1 (fun ds S2 => R (d :: ds) S2) Z) Z
def wCallA (c : DC) (wa : DAX) : DEX := fun env S R Z => wa env S (fun ds S1 => c ds S1 R) Z
def wCallX (c : DCX) (wa : DAX) : DEX := fun env S R Z => wa env S (fun ds S1 => c ds S1 R Z) Z
section
variable {X : Cx} {e : Expr} {es : List Expr} {w : DE} {wx : DEX} {wa : DA} {wr : DAX} {pos p : Pos} {j k : Nat} {x : Str} {ps : List Str}
theorem x_up (h : E' X e w) : EX X e (xUp w) := PE.mono h fun σ H Q ⟨env, S, R, Z, l, h, q, _⟩ => ⟨env, S, R, l, h, q⟩
theorem ax_up (h : A' X es wa) : AX X es (aUp wa) := PA.mono h fun σ H Q ⟨env, S, R, Z, l, h, q, _⟩ => ⟨env, S, R, l, h, q⟩
theorem ax_cons (ha : EX X e wx) (hr : AX X es wr) (hs : starEach (e :: es) X.env = (false, eval e X.env) :: starEach es X.env := by rfl) : AX X (e :: es) (aConsX wx wr) := PA.mono (pa_cons ha hr hs) fun σ H Q ⟨env, S, R, Z, l, w, q, z⟩ => by
  refine ⟨env, S, _, Z, l, w, fun d S1 v H1 w1 r1 g1 d1 => ?_, z⟩
  exact ⟨env, S1, _, Z, l.grow g1 r1, w1, fun ds S2 vs H2 w2 r2 g2 d2 => q _ S2 _ H2 w2 r2 (g1.trans g2) (.cons (d1.grow g2) d2), z.grow g1⟩
theorem x_callA {c : DC} (G : FnAt X.prog X.w X.K X.mg X.base j (x, none) ps c) (hr : Room k X.A) (hm : X.mg x = some (.ref (He.ga X.K x))) (ha : AX X (e :: es) wr) (hj : j ≤ k := by decide) (hg : Gl X x := by rfl) (hdb : (x == ("__debug__" : Str)) = false := by decide)
    (he : starEach (e :: es) X.env = (false, eval e X.env) :: starEach es X.env := by rfl) (hpl : (backTo pos (starEach es X.env)).any (·.1) = false := by rfl) : EX X (.Call (.Name x p) (e :: es) [] pos) (wCallA c wr) := by
  obtain ⟨fd, F, b, kp⟩ := G.ex
  refine PE.mono (pe_call (E := fun _ _ _ => False) F (hr.mono hj) hg hm kp b .nil pass0 ha hdb he hpl) fun σ H Q ⟨env, S, R, Z, l, w, q, z⟩ => ?_
  refine ⟨env, S, _, Z, l, w, fun ds S1 vs H1 w1 r1 g1 d1 => ?_, z⟩
  show spL X.K c (vs ++ []) H1 Q _
  rw [List.append_nil]
  exact ⟨ds, S1, R, d1, r1, w1, fun d' S' v' H' a b c e => q d' S' v' H' a b (g1.trans c) e⟩
theorem x_callX {c : DCX} (G : FnAtX X.prog X.w X.K X.mg X.base j (x, none) ps c) (hr : Room k X.A) (hm : X.mg x = some (.ref (He.ga X.K x))) (ha : AX X (e :: es) wr) (hj : j ≤ k := by decide) (hg : Gl X x := by rfl) (hdb : (x == ("__debug__" : Str)) = false := by decide)
    (he : starEach (e :: es) X.env = (false, eval e X.env) :: starEach es X.env := by rfl) (hpl : (backTo pos (starEach es X.env)).any (·.1) = false := by rfl) : EX X (.Call (.Name x p) (e :: es) [] pos) (wCallX c wr) := by
  obtain ⟨fd, F, b, kp⟩ := G.ex
  refine PE.mono (pe_callS (E := WE (Wmax X)) F (hr.mono hj) hg hm kp b (fun σ => passAt takes_max σ) ha hdb he hpl) fun σ H Q ⟨env, S, R, Z, l, w, q, z⟩ => ?_
  refine ⟨env, S, _, Z, l, w, fun ds S1 vs H1 w1 r1 g1 d1 => ?_, z⟩
  exact ⟨ds, S1, R, Z, d1, r1, w1, fun d' S' v' H' a b c e => q d' S' v' H' a b (g1.trans c) e, fun x fs S' H' cls d hz r' g' xr => ⟨_, z, rfl, x, fs, S', hz, r', g1.trans g', xr⟩⟩
end

/-! ### statements that may raise -/
def sRaise (x : Str) : DS := fun F env S => F.ex x [] env S
def sAsgX (w : DEX) (g : DG) : DS := fun F env S => w env S (fun d S1 => g d env S1 F.nx) fun x fs S' => F.ex x fs env S'
def sRetX (w : DEX) : DS := fun F env S => w env S F.rt fun x fs S' => F.ex x fs env S'
def sDropX (w : DEX) : DS := fun F env S => w env S (fun _ S1 => F.nx env S1) fun x fs S' => F.ex x fs env S'
section
variable {X : Cx} {e tg : Expr} {w : DEX} {g : DG} {is : List Nat} {pos pos' : Pos} {x : Str}
theorem s_raise (hc : X.calm = true) (mk : PMk X e (fun _ H Q => Q (.ref (He.ga X.K x)) none H)) : S' X (.Raise (some e) none pos) (sRaise x) := PS.mono (ps_raise hc takes_max mk) fun E σ H ⟨env, S, F, l, h, k⟩ =>
  ⟨_, k.ex, x, [], env, S, h, Grow.refl, l, rfl, .inl ⟨rfl, rfl⟩⟩
theorem s_asgX (he : EX X e w) (hg : G' X tg is g) (hs : swapsWithSole [tg] e pos.line X.env = Pure.pure false := by rfl) (hw : swappedStores [tg] e X.env = Pure.pure none := by rfl)
    (h1 : (assignEach [tg] X.env).map (·.2) = [assign tg X.env] := by rfl) : S' X (.Assign [tg] e pos) (sAsgX w g) :=
  PS.mono (ps_asg he hg hs hw h1) fun E σ H ⟨env, S, F, l, h, k⟩ => ⟨env, S, _, _, l, h, fun d S1 v H1 q r g1 rd => ⟨d, env, S1, _, rd, l.grow g1 r, q, fun env' S' σ' H' a b c _ => k.nx _ _ _ _ a (g1.trans b) c⟩, k.ex.z l⟩
theorem s_setX (i : Nat) (hN : X.N.Nodup) (he : EX X e w) (hi : X.N[i]? = some x := by rfl) (hx : Loc X.env.scope x := by first | exact .inl rfl | exact .inr rfl) (hs : swapsWith e (some (.Name x pos')) pos.line X.env = Pure.pure false := by rfl) (hf : X.fn x = true ∨ X.env.scope.names.lookup x = some .local := by first | exact .inl rfl | exact .inr rfl) :
    S' X (.Assign [.Name x pos'] e pos) (sAsgX w (gN i)) := PS.mono (ps_set hN hi hx he hs hf) fun E σ H ⟨env, S, F, l, h, k⟩ =>
  ⟨env, S, _, _, l, h, fun d S1 v H1 q r g1 rd => k.nx _ _ _ _ q g1 ((l.grow g1 r).set i rd), k.ex.z l⟩
theorem s_retX (he : EX X e w) : S' X (.Return (some e) pos) (sRetX w) := PS.mono (ps_ret he) fun E σ H ⟨env, S, F, l, h, k⟩ => ⟨env, S, _, _, l, h, fun d S1 v H1 q r g rd => k.rt d S1 v H1 q r g rd, k.ex.z l⟩
theorem s_exprX (he : EX X e w) (hs : swapsWith e none pos.line X.env = Pure.pure false := by rfl) : S' X (.Expr e pos) (sDropX w) := PS.mono (ps_expr he hs) fun E σ H ⟨env, S, F, l, h, k⟩ =>
  ⟨env, S, _, _, l, h, fun d S1 v H1 q r g _ => k.nx env S1 σ H1 q g (l.grow g r), k.ex.z l⟩
end
/-- try: body, except y: suite; mt: which classes it takes -/
def sTry (mt : Str → Option Bool) (wb wh : DS) : DS := fun F env S => wb { F with ex := fun c fs env' S' => (mt c = some true ∧ wh { F with ex := fun _ _ _ _ => False } env' S') ∨ (mt c = some false ∧ F.ex c fs env' S') } env S
section
variable {X : Cx} {y : Str} {body suite : List Stmt} {b₀ : Stmt} {np pos pos' : Pos} {wb wh : DS}
theorem s_try (mt : Str → Option Bool) (hmt : ∀ c b, mt c = some b → PySem.W.exmOne X.K (.ref (He.ga X.K c)) (.ref (He.ga X.K y)) = some b) (hm : X.mg y = some (.ref (He.ga X.K y)))
    (hb : ∀ (pn : List (Addr × Obj)) (xe : Value → Shared → Prop), PassesOwn (model X.prog X.w) X.A X.env xe → Ss' (X.tr pn xe) body wb)
    (hsu : ∀ (a : Addr) (oe : Obj) (pn : List (Addr × Obj)), Ss' (X.suite a ((a, oe) :: pn)) (b₀ :: suite) wh)
    (hs : X.stack = X.env :: X.outer := by rfl) (hf : X.env.frame = some X.env.locals := by rfl) (hg : Gl X y := by rfl) (hdb : (y == ("__debug__" : Str)) = false := by decide) :
    S' X (.Try body [.ExceptHandler (some (.Name y np)) none (b₀ :: suite) pos'] [] [] pos) (sTry mt wb wh) :=
  PS.mono (ps_try_only (c := .ref (He.ga X.K y)) (Wout := Wmax X)
    (tb := fun W E σ H => ∃ (env : Env) (S : Sto) (F : DEnds), Lk X.K H S env σ ∧ wb F env S ∧ EndsOk X H S { F with ex := fun _ _ _ _ => False } E ∧ ∀ cls d σ' H', (∃ c fs env' S', F.ex c fs env' S' ∧ Grow H S H' S' ∧ Lk X.K H' S' env' σ' ∧ XRep X.K H' S' c fs cls d) → W cls d σ' H')
    (ts := fun _ _ _ E σ H => ∃ (env : Env) (S : Sto) (F : DEnds), Lk X.K H S env σ ∧ wh { F with ex := fun _ _ _ _ => False } env S ∧ EndsOk X H S { F with ex := fun _ _ _ _ => False } E)
    hs hf ⟨hg, hdb, .inl hm⟩ takes_max
    (fun W pn xe tk pp => PSs.mono (hb pn xe pp) fun E σ H ⟨env, S, F, l, h, k, kx⟩ => ⟨env, S, F, l, h, ⟨k.nx, k.rt, k.bk, k.ct, Takes.imp tk fun c d σ' H' z => kx c d σ' H' z⟩⟩)
    (fun a oe cls d pn _ _ => PSs.mono (hsu a oe pn) fun E σ H ⟨env, S, F, l, h, k⟩ => ⟨env, S, _, l, h, ⟨k.nx, k.rt, k.bk, k.ct, ExOk.none⟩⟩)) fun E σ H ⟨env, S, F, l, h, k⟩ => by
    refine ⟨env, S, _, l, h, ⟨k.nx, k.rt, k.bk, k.ct, ExOk.none⟩, fun cls d σ' H' ⟨c1, fs, env', S', z, g, l', xr⟩ => ?_⟩
    obtain ⟨rfl, _⟩ := id xr
    rcases z with ⟨hm1, z⟩ | ⟨hm1, z⟩
    · exact ⟨true, hmt _ _ hm1, fun _ a _ => ⟨env', S', F, l', z, (EndsOk.mk k.nx k.rt k.bk k.ct ExOk.none : EndsOk X H S { F with ex := fun _ _ _ _ => False } E).grow g⟩, fun z => by cases z⟩
    · exact ⟨false, hmt _ _ hm1, (fun z => absurd z (by decide)), fun _ => ⟨_, k.ex, c1, fs, env', S', z, g, l', xr⟩⟩
end
end Dd
set_option Elab.async false
set_option linter.all false
set_option maxRecDepth 100000
set_option maxHeartbeats 4000000
/-! The head's facts with own exception classes. -/
namespace Dd
open PySem PySem.Spec PyProof.Rows L2
open PySem.W (ksFn ksEnv ks_superIn kxs_mw)
/-- one exception class's __init__ as the text has it -/
structure XD where
  cls : Str
  qual : Str
  params : Arguments
  body : List Stmt
  scope : Scope
abbrev FnX : Type := Option (Str × Str × Arguments × FuncBody × Scope × Addr × List Str × Addr)
def fnXo (K : PySem.W.Frag) (x : Str) : FnX := match K.lookup (He.ma K (He.ga K x) "__init__") with
  | some ⟨_, _, .func fd, _⟩ => some (fd.name, fd.qualname, fd.params, fd.body, fd.scope, fd.globals, fd.closure.map (·.1), fd.builtins)
  | _ => none
def XD.val (d : XD) : FnX := some ("__init__", d.qual, d.params, .stmts d.body, d.scope, mainGlobals, ["__class__"], builtinsNs)
def clsB (K : PySem.W.Frag) (C : Addr) : Bool := match K.lookup C with
  | some ⟨.type t, _, .cls cd, sl⟩ => (match cd.mro, sl.toList with
    | .ref C' :: bm, [_, _, _, _, some (.builtin n), _] => decide (t = "type") && (decide (C' = C) && (decide (n = "ValueError.__new__") && (decide (cd.hasDel = false) && (decide (cd.hasDict = true) && HandSPX.refsVE bm))))
    | _, _ => false)
  | _ => false
def cdaOf (K : PySem.W.Frag) (f : Addr) : Addr := match K.lookup f with
  | some ⟨_, _, .func fd, _⟩ => (match fd.code with
    | .ref a => a
    | _ => 0)
  | _ => 0
def ccOf (K : PySem.W.Frag) (f : Addr) : Addr := match K.lookup f with
  | some ⟨_, _, .func fd, _⟩ => (match fd.closure with
    | [(_, c)] => c
    | _ => 0)
  | _ => 0
def fnB (K : PySem.W.Frag) (q : Str) (f : Addr) : Bool := match K.lookup f with
  | some ⟨_, _, .func fd, _⟩ => decide (fd.code = .ref (cdaOf K f)) && (decide (fd.closure = [(("__class__" : Str), ccOf K f)]) && (decide (fd.defaults = .none) && PySem.W.codeIn K fd.code q))
  | _ => false
def codeB (K : PySem.W.Frag) (file : Str) (c : Addr) : Bool := match K.lookup c with
  | some ⟨_, _, .fields vs, _⟩ => (match (vs[2]? : Option Value) with
    | some (.str z _) => file == z
    | _ => false)
  | _ => false
def cellB (K : PySem.W.Frag) (C c : Addr) : Bool := match K.lookup c with
  | some ⟨_, _, .cell (some (.ref D)), _⟩ => decide (D = C)
  | _ => false
def xok (K : PySem.W.Frag) (file : Str) (d : XD) : Bool :=
  let C := He.ga K d.cls
  let f := He.ma K C "__init__"
  clsB K C && (He.eqO (PySem.W.findIn K (.ref C) "__init__") (some (some (.ref f))) && (decide (PySem.W.typeIn K (.ref f) = some (.type "function")) && (He.eqO (PySem.W.findIn K (.ref C) "__setattr__") (some (some (.builtin "object.__setattr__"))) &&
  (decide (PySem.W.subIn K (.ref C) (.type "BaseException") = some true) && (decide (PySem.W.typeIn K (.ref C) = some (.type "type")) && (PySem.W.keepIn K (.ref C) && (fnB K d.qual f && (codeB K file (cdaOf K f) && (cellB K C (ccOf K f) &&
  (He.eqO (ks_superIn K C C "__init__") (some (some (.builtin "ValueError.__init__"))) && (decide (PySem.W.subIn K (.ref C) (.type "ValueError") = some true) && (decide (PySem.W.mroIn K C (.ref C) = some true) &&
  (He.eqO (PySem.W.nsIn K mainGlobals "super") (some none) && He.eqO (PySem.W.nsIn K cStatics "thirdparty.any") (some none))))))))))))))
theorem clsB_ok {K : PySem.W.Frag} {C : Addr} (h : clsB K C = true) : ∃ nm q N bs bm sn sub ab col dd k0 k1 k2 k3 k5, K.lookup C = some (excClassObj nm q C N bs bm true sn sub ab col dd k0 k1 k2 k3 k5 "ValueError.__new__") ∧ PySem.HandSPX.refsVE bm = true := by
  unfold clsB at h
  split at h
  · rename_i t dd cd sl ho
    split at h
    · rename_i C' bm k0 k1 k2 k3 n k5 hm hs
      simp only [Bool.and_eq_true, decide_eq_true_iff] at h
      obtain ⟨rfl, rfl, rfl, hdel, hdict, hr⟩ := h
      obtain ⟨nm, bs, mro, ns, qn, hd, sn, sub, ab, col, del⟩ := cd
      dsimp only at hm hdel hdict
      subst hm hdel hdict
      have hsl : sl = #[k0, k1, k2, k3, some (.builtin "ValueError.__new__"), k5] := by
        obtain ⟨l⟩ := sl
        simp only at hs
        rw [hs]
      subst hsl
      exact ⟨nm, qn, ns, bs, bm, sn, sub, ab, col, dd, k0, k1, k2, k3, k5, ho, hr⟩
    · cases h
  · cases h
theorem xc_of {P : Program} {K : PySem.W.Frag} {file : Str} {d : XD} (hfile : P.main.file = file) (h : xok K file d = true) (e : fnXo K d.cls = d.val) :
    XC P K (He.ga K d.cls) (He.ma K (He.ga K d.cls) "__init__") (ccOf K (He.ma K (He.ga K d.cls) "__init__")) (cdaOf K (He.ma K (He.ga K d.cls) "__init__")) "__init__" d.qual d.params d.body d.scope := by
  unfold xok at h
  obtain ⟨h1, h⟩ := He.ba h
  obtain ⟨h2, h⟩ := He.ba h
  obtain ⟨h3, h⟩ := He.ba h
  obtain ⟨h4, h⟩ := He.ba h
  obtain ⟨h5, h⟩ := He.ba h
  obtain ⟨h6, h⟩ := He.ba h
  obtain ⟨h7, h⟩ := He.ba h
  obtain ⟨h8, h⟩ := He.ba h
  obtain ⟨h9, h⟩ := He.ba h
  obtain ⟨h10, h⟩ := He.ba h
  obtain ⟨h11, h⟩ := He.ba h
  obtain ⟨h12, h⟩ := He.ba h
  obtain ⟨h13, h⟩ := He.ba h
  obtain ⟨h14, h15⟩ := He.ba h
  refine ⟨⟨clsB_ok h1, He.eqO_ok h4, of_decide_eq_true h5, of_decide_eq_true h6, h7⟩, He.eqO_ok h2, of_decide_eq_true h3, ?_, ?_, ?_, ?_, He.eqO_ok h11, of_decide_eq_true h12, of_decide_eq_true h13, He.eqO_ok h14, He.eqO_ok h15⟩
  · unfold fnXo at e
    generalize He.ma K (He.ga K d.cls) "__init__" = f at h8 e ⊢
    unfold fnB at h8
    cases q : K.lookup f with
    | none => rw [q] at h8; cases h8
    | some o =>
      obtain ⟨oc, od, dt, osl⟩ := o
      rw [q] at h8 e
      cases dt with
      | func fd =>
        obtain ⟨n1, n2, n3, n4, n5, n6, n7, n8, n9, n10, n11, n12, n13, n14, n15⟩ := fd
        simp only [Bool.and_eq_true, decide_eq_true_iff] at h8
        obtain ⟨e1, e2, e3, _⟩ := h8
        have e' : (some (n1, n2, n3, n4, n5, n6, n7.map (·.1), n15) : FnX) = some (("__init__" : Str), d.qual, d.params, FuncBody.stmts d.body, d.scope, mainGlobals, [("__class__" : Str)], builtinsNs) := e
        simp only [Option.some.injEq, Prod.mk.injEq] at e'
        obtain ⟨g1, g2, g3, g4, g5, g6, g7, g8⟩ := e'
        refine ⟨oc, od, n9, n10, n11, n12, n14, osl, ?_⟩
        have e1 : n13 = .ref (cdaOf K f) := e1
        have e2 : n7 = [(("__class__" : Str), ccOf K f)] := e2
        have e3 : n8 = .none := e3
        rw [← e1, g1, g2, g3, g4, g5, g6, g8, e2, e3]
      | _ => cases h8
  · generalize He.ma K (He.ga K d.cls) "__init__" = f at h8 ⊢
    unfold fnB at h8
    cases q : K.lookup f with
    | none => rw [q] at h8; cases h8
    | some o =>
      obtain ⟨oc, od, dt, osl⟩ := o
      rw [q] at h8
      cases dt with
      | func fd =>
        simp only [Bool.and_eq_true, decide_eq_true_iff] at h8
        obtain ⟨e1, _, _, e4⟩ := h8
        rw [e1] at e4; exact e4
      | _ => cases h8
  · generalize cdaOf K (He.ma K (He.ga K d.cls) "__init__") = c at h9 ⊢
    unfold codeB at h9
    split at h9
    · rename_i a1 a2 vs a3 ho
      split at h9
      · rename_i f tk hv
        exact ⟨a1, a2, vs, a3, f, tk, ho, hv, by rw [hfile]; exact h9⟩
      · cases h9
    · cases h9
  · generalize ccOf K (He.ma K (He.ga K d.cls) "__init__") = c at h10 ⊢
    unfold cellB at h10
    split at h10
    · rename_i a1 a2 D a3 ho
      have e := of_decide_eq_true h10
      subst e
      exact ⟨a1, a2, a3, ho⟩
    · cases h10

/-! ### the hook -/
/-- what of an object is looked at -/
def refsX (o : Obj) : List Addr := match o.data with
  | .dict es _ => es.toList.flatMap fun e => He.refV e.val
  | .func fd => He.refV fd.code ++ He.refV fd.defaults ++ He.refV fd.kwdefaults ++ fd.closure.map (·.2)
  | .cls cd => cd.ns :: cd.mro.flatMap He.refV
  | .cell (some v) => He.refV v
  | _ => []
/-- step by step: what is new alone is looked at -/
def asY (g : Addr → Option Obj) : Nat → List Addr → List Addr → List Addr
  | 0, as, new => as ++ new
  | n + 1, as, new => asY g n (as ++ new) ((new.flatMap fun a => match g a with
    | some o => refsX o
    | none => []).eraseDups.filter fun a => !(as.contains a || new.contains a))
def asX (g : Addr → Option Obj) (n : Nat) : List Addr := cStatics :: asY g n [] [mainGlobals]
abbrev AlX : Type := Bool × List He.FnW × List FnX
def obsX (fa : List He.Fa) (fn : List He.DefD) (fx : List XD) (file : Str) (K : PySem.W.Frag) : AlX := ((fa.all fun f => f.ok K) && ((fn.all fun d => d.ok K) && fx.all fun d => xok K file d), fn.map fun d => He.fnW K d.at_, fx.map fun d => fnXo K d.cls)
def valX (fn : List He.DefD) (fx : List XD) : AlX := (true, fn.map He.DefD.val, fx.map XD.val)
def SaysX (fa : List He.Fa) (fn : List He.DefD) (fx : List XD) (file : Str) (K : PySem.W.Frag) : Prop := obsX fa fn fx file K = valX fn fx
def obsXG (n : Nat) (fa : List He.Fa) (fn : List He.DefD) (fx : List XD) (file : Str) (g : Addr → Option Obj) : AlX := obsX fa fn fx file (He.frG g (asX g n))
def hookX (n : Nat) (fa : List He.Fa) (fn : List He.DefD) (fx : List XD) (file : Str) : PySem.W.Hook where
  α := AlX
  obs := fun s => obsXG n fa fn fx file s.heap.get?
  val := fun _ => valX fn fx
  says := fun _ h => ∃ K : PySem.W.Frag, K.In h ∧ SaysX fa fn fx file K
  of := fun _ _ e => ⟨_, He.frG_in, e⟩
  keeps := fun _ _ _ ⟨K, hK, c⟩ k => ⟨K, PySem.W.Frag.In.keeps hK k, c⟩
theorem obsXG_eq {n : Nat} {fa : List He.Fa} {fn : List He.DefD} {fx : List XD} {file : Str} {g : Addr → Option Obj} {s : Shared} (h : ∀ a, g a = s.heap.get? a) : obsXG n fa fn fx file g = (hookX n fa fn fx file).obs s := by
  have e : g = s.heap.get? := funext h
  rw [e] <;> rfl
section
variable {fa : List He.Fa} {fn : List He.DefD} {fx : List XD} {file : Str} {K : PySem.W.Frag} {mg : Str → Option Value}
theorem SaysX.d (c : SaysX fa fn fx file K) : He.SaysD fa fn K := by
  have c1 : ((fa.all fun f => f.ok K) && ((fn.all fun d => d.ok K) && fx.all fun d => xok K file d)) = true := congrArg (fun z : AlX => z.1) c
  obtain ⟨c2, c3⟩ := He.ba c1
  obtain ⟨c4, _⟩ := He.ba c3
  have e : fn.map (fun d => He.fnW K d.at_) = fn.map He.DefD.val := congrArg (fun z : AlX => z.2.1) c
  show (((fa.all fun f => f.ok K) && fn.all fun d => d.ok K, fn.map fun d => He.fnW K d.at_) : He.AlD) = (true, fn.map He.DefD.val)
  rw [c2, c4, e]; rfl
/-- what the head says, with own exceptions -/
def TxX (fa : List He.Fa) (fn : List He.DefD) (fx : List XD) (file : Str) (K : PySem.W.Frag) (mg : Str → Option Value) : Prop := Tx fa fn K mg ∧ SaysX fa fn fx file K
theorem TxX.xc (T : TxX fa fn fx file K mg) (i : Nat) {P : Program} (hfile : P.main.file = file) {d : XD} (h : fx[i]? = some d := by rfl) :
    XC P K (He.ga K d.cls) (He.ma K (He.ga K d.cls) "__init__") (ccOf K (He.ma K (He.ga K d.cls) "__init__")) (cdaOf K (He.ma K (He.ga K d.cls) "__init__")) "__init__" d.qual d.params d.body d.scope := by
  have c1 : ((fa.all fun f => f.ok K) && ((fn.all fun d => d.ok K) && fx.all fun d => xok K file d)) = true := congrArg (fun z : AlX => z.1) T.2
  have c2 := (He.ba (He.ba c1).2).2
  have e : fx.map (fun d => fnXo K d.cls) = fx.map XD.val := congrArg (fun z : AlX => z.2.2) T.2
  have e2 : (fx.map fun d => fnXo K d.cls)[i]? = (fx.map XD.val)[i]? := by rw [e]
  rw [List.getElem?_map, List.getElem?_map, h] at e2
  exact xc_of hfile (List.all_eq_true.mp c2 d (List.mem_of_getElem? h)) (Option.some.inj e2)
end
end Dd
set_option Elab.async false
set_option linter.all false
set_option maxRecDepth 100000
set_option maxHeartbeats 4000000
namespace K94
open PySem PySem.Spec PyProof.Rows L2 Dd

def top (i : Nat) : Stmt := PySem.Challenge.pw_samefault_k94_whole_notices_and_settled.main.body.getD i (.Pass ⟨0, 0, 0, 0⟩)
def d_is_integer : He.DefD := ⟨("is_integer", none), "is_integer", "is_integer", defArgs (top 1), defBody (top 1), defScope (top 1), [], []⟩
def d_is_within : He.DefD := ⟨("is_within", none), "is_within", "is_within", defArgs (top 2), defBody (top 2), defScope (top 2), [], []⟩
def d_is_tuple : He.DefD := ⟨("is_tuple", none), "is_tuple", "is_tuple", defArgs (top 3), defBody (top 3), defScope (top 3), [], []⟩
def d_is_lot : He.DefD := ⟨("is_lot", none), "is_lot", "is_lot", defArgs (top 4), defBody (top 4), defScope (top 4), [], []⟩
def d_is_form : He.DefD := ⟨("is_form", none), "is_form", "is_form", defArgs (top 18), defBody (top 18), defScope (top 18), [], []⟩
def d_check_form : He.DefD := ⟨("check_form", none), "check_form", "check_form", defArgs (top 19), defBody (top 19), defScope (top 19), [], []⟩
def d_report_in : He.DefD := ⟨("report_in", none), "report_in", "report_in", defArgs (top 20), defBody (top 20), defScope (top 20), [], []⟩
def d_fault_in : He.DefD := ⟨("fault_in", none), "fault_in", "fault_in", defArgs (top 21), defBody (top 21), defScope (top 21), [], []⟩
def d_box_in : He.DefD := ⟨("box_in", none), "box_in", "box_in", defArgs (top 22), defBody (top 22), defScope (top 22), [], []⟩
def d_check_box : He.DefD := ⟨("check_box", none), "check_box", "check_box", defArgs (top 23), defBody (top 23), defScope (top 23), [], []⟩
def d_check_report : He.DefD := ⟨("check_report", none), "check_report", "check_report", defArgs (top 24), defBody (top 24), defScope (top 24), [], []⟩
def d_held : He.DefD := ⟨("held", none), "held", "held", defArgs (top 25), defBody (top 25), defScope (top 25), [], []⟩
def d_agreeing : He.DefD := ⟨("agreeing", none), "agreeing", "agreeing", defArgs (top 26), defBody (top 26), defScope (top 26), [], []⟩
def d_lies : He.DefD := ⟨("lies", none), "lies", "lies", defArgs (top 27), defBody (top 27), defScope (top 27), [], []⟩
def d_meeting : He.DefD := ⟨("meeting", none), "meeting", "meeting", defArgs (top 28), defBody (top 28), defScope (top 28), [], []⟩
def d_whole_box : He.DefD := ⟨("whole_box", none), "whole_box", "whole_box", defArgs (top 29), defBody (top 29), defScope (top 29), [], []⟩
def d_report_box : He.DefD := ⟨("report_box", none), "report_box", "report_box", defArgs (top 30), defBody (top 30), defScope (top 30), [], []⟩
def d_with_lot : He.DefD := ⟨("with_lot", none), "with_lot", "with_lot", defArgs (top 31), defBody (top 31), defScope (top 31), [], []⟩
def d_all_faults : He.DefD := ⟨("all_faults", none), "all_faults", "all_faults", defArgs (top 32), defBody (top 32), defScope (top 32), [], []⟩
def d_box_of : He.DefD := ⟨("box_of", none), "box_of", "box_of", defArgs (top 33), defBody (top 33), defScope (top 33), [], []⟩
def d_within : He.DefD := ⟨("within", none), "within", "within", defArgs (top 34), defBody (top 34), defScope (top 34), [], []⟩
def d_common : He.DefD := ⟨("common", none), "common", "common", defArgs (top 35), defBody (top 35), defScope (top 35), [], []⟩
def d_are_rules : He.DefD := ⟨("are_rules", none), "are_rules", "are_rules", defArgs (top 38), defBody (top 38), defScope (top 38), [], []⟩
def d_Book_dd__init_dd_ : He.DefD := ⟨("Book", some "__init__"), "__init__", "Book.__init__", defArgs (inClass (top 39) 0), defBody (inClass (top 39) 0), defScope (inClass (top 39) 0), [], []⟩
def d_RawBook_dd__init_dd_ : He.DefD := ⟨("RawBook", some "__init__"), "__init__", "RawBook.__init__", defArgs (inClass (top 40) 0), defBody (inClass (top 40) 0), defScope (inClass (top 40) 0), [], []⟩
def d_is_lawful : He.DefD := ⟨("is_lawful", none), "is_lawful", "is_lawful", defArgs (top 41), defBody (top 41), defScope (top 41), [], []⟩
def d_listed : He.DefD := ⟨("listed", none), "listed", "listed", defArgs (top 42), defBody (top 42), defScope (top 42), [], []⟩
def d_check_field : He.DefD := ⟨("check_field", none), "check_field", "check_field", defArgs (top 44), defBody (top 44), defScope (top 44), [], []⟩
def d_joining : He.DefD := ⟨("joining", none), "joining", "joining", defArgs (top 45), defBody (top 45), defScope (top 45), [], []⟩
def d_box_of_step : He.DefD := ⟨("box_of_step", none), "box_of_step", "box_of_step", defArgs (top 46), defBody (top 46), defScope (top 46), [], []⟩
def d_box_derived : He.DefD := ⟨("box_derived", none), "box_derived", "box_derived", defArgs (top 47), defBody (top 47), defScope (top 47), [], []⟩
def d_derived : He.DefD := ⟨("derived", none), "derived", "derived", defArgs (top 48), defBody (top 48), defScope (top 48), [], []⟩
def d_Deriver_dd__init_dd_ : He.DefD := ⟨("Deriver", some "__init__"), "__init__", "Deriver.__init__", defArgs (inClass (top 50) 0), defBody (inClass (top 50) 0), defScope (inClass (top 50) 0), [], []⟩
def d_Deriver_step : He.DefD := ⟨("Deriver", some "step"), "step", "Deriver.step", defArgs (inClass (top 50) 1), defBody (inClass (top 50) 1), defScope (inClass (top 50) 1), [], []⟩
def d_Deriver_rule_for : He.DefD := ⟨("Deriver", some "rule_for"), "rule_for", "Deriver.rule_for", defArgs (inClass (top 50) 2), defBody (inClass (top 50) 2), defScope (inClass (top 50) 2), [], []⟩
def d_Deriver_reach : He.DefD := ⟨("Deriver", some "reach"), "reach", "Deriver.reach", defArgs (inClass (top 50) 3), defBody (inClass (top 50) 3), defScope (inClass (top 50) 3), [], []⟩
def d_derivation_of : He.DefD := ⟨("derivation_of", none), "derivation_of", "derivation_of", defArgs (top 51), defBody (top 51), defScope (top 51), [], []⟩
def d_cut : He.DefD := ⟨("cut", none), "cut", "cut", defArgs (top 52), defBody (top 52), defScope (top 52), [], []⟩
def d_bars : He.DefD := ⟨("bars", none), "bars", "bars", defArgs (top 53), defBody (top 53), defScope (top 53), [], []⟩
def d_taken_in : He.DefD := ⟨("taken_in", none), "taken_in", "taken_in", defArgs (top 56), defBody (top 56), defScope (top 56), [], []⟩
def d_joined_at : He.DefD := ⟨("joined_at", none), "joined_at", "joined_at", defArgs (top 57), defBody (top 57), defScope (top 57), [], []⟩
def d_greatest_boxes : He.DefD := ⟨("greatest_boxes", none), "greatest_boxes", "greatest_boxes", defArgs (top 58), defBody (top 58), defScope (top 58), [], []⟩
def d_is_part_of : He.DefD := ⟨("is_part_of", none), "is_part_of", "is_part_of", defArgs (top 61), defBody (top 61), defScope (top 61), [], []⟩
def d_filter_in : He.DefD := ⟨("filter_in", none), "filter_in", "filter_in", defArgs (top 62), defBody (top 62), defScope (top 62), [], []⟩
def d_check_filter : He.DefD := ⟨("check_filter", none), "check_filter", "check_filter", defArgs (top 63), defBody (top 63), defScope (top 63), [], []⟩
def d_lets : He.DefD := ⟨("lets", none), "lets", "lets", defArgs (top 64), defBody (top 64), defScope (top 64), [], []⟩
def d_cut_out : He.DefD := ⟨("cut_out", none), "cut_out", "cut_out", defArgs (top 65), defBody (top 65), defScope (top 65), [], []⟩
def d_region : He.DefD := ⟨("region", none), "region", "region", defArgs (top 66), defBody (top 66), defScope (top 66), [], []⟩
def d_boxes_for : He.DefD := ⟨("boxes_for", none), "boxes_for", "boxes_for", defArgs (top 67), defBody (top 67), defScope (top 67), [], []⟩
def d_inside : He.DefD := ⟨("inside", none), "inside", "inside", defArgs (top 68), defBody (top 68), defScope (top 68), [], []⟩
def d_outside : He.DefD := ⟨("outside", none), "outside", "outside", defArgs (top 69), defBody (top 69), defScope (top 69), [], []⟩
def d_met_boxes : He.DefD := ⟨("met_boxes", none), "met_boxes", "met_boxes", defArgs (top 70), defBody (top 70), defScope (top 70), [], []⟩
def d_agreeing_faults : He.DefD := ⟨("agreeing_faults", none), "agreeing_faults", "agreeing_faults", defArgs (top 71), defBody (top 71), defScope (top 71), [], []⟩
def d_word_of : He.DefD := ⟨("word_of", none), "word_of", "word_of", defArgs (top 72), defBody (top 72), defScope (top 72), [], []⟩
def d_notice : He.DefD := ⟨("notice", none), "notice", "notice", defArgs (top 73), defBody (top 73), defScope (top 73), [], []⟩
def d_are_shown : He.DefD := ⟨("are_shown", none), "are_shown", "are_shown", defArgs (top 74), defBody (top 74), defScope (top 74), [], []⟩
def d_is_notice : He.DefD := ⟨("is_notice", none), "is_notice", "is_notice", defArgs (top 75), defBody (top 75), defScope (top 75), [], []⟩
def d_others_of : He.DefD := ⟨("others_of", none), "others_of", "others_of", defArgs (top 77), defBody (top 77), defScope (top 77), [], []⟩
def d_but_box : He.DefD := ⟨("but_box", none), "but_box", "but_box", defArgs (top 78), defBody (top 78), defScope (top 78), [], []⟩
def d_first_by_value : He.DefD := ⟨("first_by_value", none), "first_by_value", "first_by_value", defArgs (top 79), defBody (top 79), defScope (top 79), [], []⟩
def d_settling : He.DefD := ⟨("settling", none), "settling", "settling", defArgs (top 80), defBody (top 80), defScope (top 80), [], []⟩
def d_settled : He.DefD := ⟨("settled", none), "settled", "settled", defArgs (top 81), defBody (top 81), defScope (top 81), [], []⟩
def d__law_hand : He.DefD := ⟨("_law_hand", none), "_law_hand", "_law_hand", defArgs (top 83), defBody (top 83), defScope (top 83), [], []⟩
def d__law_draw : He.DefD := ⟨("_law_draw", none), "_law_draw", "_law_draw", defArgs (top 84), defBody (top 84), defScope (top 84), [], []⟩
def d__law_some : He.DefD := ⟨("_law_some", none), "_law_some", "_law_some", defArgs (top 85), defBody (top 85), defScope (top 85), [], []⟩
def d__law_size : He.DefD := ⟨("_law_size", none), "_law_size", "_law_size", defArgs (top 86), defBody (top 86), defScope (top 86), [], []⟩
def d__law_form : He.DefD := ⟨("_law_form", none), "_law_form", "_law_form", defArgs (top 87), defBody (top 87), defScope (top 87), [], []⟩
def d__law_lot : He.DefD := ⟨("_law_lot", none), "_law_lot", "_law_lot", defArgs (top 88), defBody (top 88), defScope (top 88), [], []⟩
def d__law_box : He.DefD := ⟨("_law_box", none), "_law_box", "_law_box", defArgs (top 89), defBody (top 89), defScope (top 89), [], []⟩
def d__law_rules : He.DefD := ⟨("_law_rules", none), "_law_rules", "_law_rules", defArgs (top 90), defBody (top 90), defScope (top 90), [], []⟩
def d__law_all : He.DefD := ⟨("_law_all", none), "_law_all", "_law_all", defArgs (top 91), defBody (top 91), defScope (top 91), [], []⟩
def d__law_holds : He.DefD := ⟨("_law_holds", none), "_law_holds", "_law_holds", defArgs (top 92), defBody (top 92), defScope (top 92), [], []⟩
def d__law_lawful : He.DefD := ⟨("_law_lawful", none), "_law_lawful", "_law_lawful", defArgs (top 93), defBody (top 93), defScope (top 93), [], []⟩
def d__law_agrees : He.DefD := ⟨("_law_agrees", none), "_law_agrees", "_law_agrees", defArgs (top 94), defBody (top 94), defScope (top 94), [], []⟩
def d__law_report : He.DefD := ⟨("_law_report", none), "_law_report", "_law_report", defArgs (top 95), defBody (top 95), defScope (top 95), [], []⟩
def d__law_in : He.DefD := ⟨("_law_in", none), "_law_in", "_law_in", defArgs (top 96), defBody (top 96), defScope (top 96), [], []⟩
def d__law_word : He.DefD := ⟨("_law_word", none), "_law_word", "_law_word", defArgs (top 97), defBody (top 97), defScope (top 97), [], []⟩
def d__law_steps_right : He.DefD := ⟨("_law_steps_right", none), "_law_steps_right", "_law_steps_right", defArgs (top 98), defBody (top 98), defScope (top 98), [], []⟩
def d__law_notice_right : He.DefD := ⟨("_law_notice_right", none), "_law_notice_right", "_law_notice_right", defArgs (top 99), defBody (top 99), defScope (top 99), [], []⟩
def d__law_values_right : He.DefD := ⟨("_law_values_right", none), "_law_values_right", "_law_values_right", defArgs (top 100), defBody (top 100), defScope (top 100), [], []⟩
def d_law : He.DefD := ⟨("law", none), "law", "law", defArgs (top 101), defBody (top 101), defScope (top 101), [], []⟩
def fn : List He.DefD := [d_is_integer, d_is_within, d_is_tuple, d_is_lot, d_is_form, d_check_form, d_report_in, d_fault_in, d_box_in, d_check_box, d_check_report, d_held, d_agreeing, d_lies, d_meeting, d_whole_box, d_report_box, d_with_lot, d_all_faults, d_box_of, d_within, d_common, d_are_rules, d_Book_dd__init_dd_, d_RawBook_dd__init_dd_, d_is_lawful, d_listed, d_check_field, d_joining, d_box_of_step, d_box_derived, d_derived, d_Deriver_dd__init_dd_, d_Deriver_step, d_Deriver_rule_for, d_Deriver_reach, d_derivation_of, d_cut, d_bars, d_taken_in, d_joined_at, d_greatest_boxes, d_is_part_of, d_filter_in, d_check_filter, d_lets, d_cut_out, d_region, d_boxes_for, d_inside, d_outside, d_met_boxes, d_agreeing_faults, d_word_of, d_notice, d_are_shown, d_is_notice, d_others_of, d_but_box, d_first_by_value, d_settling, d_settled, d__law_hand, d__law_draw, d__law_some, d__law_size, d__law_form, d__law_lot, d__law_box, d__law_rules, d__law_all, d__law_holds, d__law_lawful, d__law_agrees, d__law_report, d__law_in, d__law_word, d__law_steps_right, d__law_notice_right, d__law_values_right, d_law]
def x_Barred : XD := ⟨"Barred", "Barred.__init__", defArgs (inClass (top 14) 0), defBody (inClass (top 14) 0), defScope (inClass (top 14) 0)⟩
def fx : List XD := [x_Barred]
def fa : List He.Fa := [.glo "is_integer", .glo "is_within", .glo "is_tuple", .glo "is_lot", .glo "is_form", .glo "check_form", .glo "report_in", .glo "fault_in", .glo "box_in", .glo "check_box", .glo "check_report", .glo "held", .glo "agreeing", .glo "lies", .glo "meeting", .glo "whole_box", .glo "report_box", .glo "with_lot", .glo "all_faults", .glo "box_of", .glo "within", .glo "common", .glo "are_rules", .glo "is_lawful", .glo "listed", .glo "check_field", .glo "joining", .glo "box_of_step", .glo "box_derived", .glo "derived", .glo "derivation_of", .glo "cut", .glo "bars", .glo "taken_in", .glo "joined_at", .glo "greatest_boxes", .glo "is_part_of", .glo "filter_in", .glo "check_filter", .glo "lets", .glo "cut_out", .glo "region", .glo "boxes_for", .glo "inside", .glo "outside", .glo "met_boxes", .glo "agreeing_faults", .glo "word_of", .glo "notice", .glo "are_shown", .glo "is_notice", .glo "others_of", .glo "but_box", .glo "first_by_value", .glo "settling", .glo "settled", .glo "_law_hand", .glo "_law_draw", .glo "_law_some", .glo "_law_size", .glo "_law_form", .glo "_law_lot", .glo "_law_box", .glo "_law_rules", .glo "_law_all", .glo "_law_holds", .glo "_law_lawful", .glo "_law_agrees", .glo "_law_report", .glo "_law_in", .glo "_law_word", .glo "_law_steps_right", .glo "_law_notice_right", .glo "_law_values_right", .glo "law", .free "abs", .free "all", .free "any", .free "bool", .free "enumerate", .free "int", .free "isinstance", .free "len", .free "list", .free "range", .free "set", .free "sorted", .free "str", .free "super", .free "tuple", .free "zip", .int "MOST_FAULTS" 4000, .int "MOST_RULES" 40, .int "MOST_BOXES" 3000, .int "MOST_PAIRS" 20, .cls "Book", .noat "Book" "form", .noat "Book" "rules", .noat "Book" "listed", .glo "Book", .mkr "Book", .cls "RawBook", .noat "RawBook" "form", .noat "RawBook" "rules", .noat "RawBook" "listed", .glo "RawBook", .mkr "RawBook", .cls "Deriver", .noat "Deriver" "book", .noat "Deriver" "steps", .noat "Deriver" "boxes", .noat "Deriver" "numbers", .glo "Deriver", .mkr "Deriver", .meth "Deriver" "step", .meth "Deriver" "rule_for", .meth "Deriver" "reach", .glo "Barred", .exm "Barred" "Barred" true]
def file : Str := PySem.Challenge.pw_samefault_k94_whole_notices_and_settled.main.file
end K94
set_option Elab.async false
set_option linter.all false
set_option maxRecDepth 100000
set_option maxHeartbeats 0
namespace K94
open PySem PySem.Spec PyProof.Rows L2 Dd

def loose0 : List PySem.Str := ["__name__", "is_integer", "is_within", "is_tuple", "is_lot", "FaultError", "NoForm", "NoReport", "NoBox", "BadBook", "NoField", "NoDerivation", "TooMany", "Barred", "NoFilter", "MOST_FAULTS", "is_form", "check_form", "report_in", "fault_in", "box_in", "check_box", "check_report", "held", "agreeing", "lies", "meeting", "whole_box", "report_box", "with_lot"]
def loose1 : List PySem.Str := ["all_faults", "box_of", "within", "common", "MOST_RULES", "are_rules", "Book", "RawBook", "is_lawful", "listed", "check_field", "joining", "box_of_step", "box_derived", "derived", "Deriver", "derivation_of", "cut", "bars", "MOST_BOXES", "taken_in", "joined_at", "greatest_boxes", "MOST_PAIRS", "is_part_of", "filter_in", "check_filter", "lets", "cut_out", "region"]
def loose2 : List PySem.Str := ["boxes_for", "inside", "outside", "met_boxes", "agreeing_faults", "word_of", "notice", "are_shown", "is_notice", "others_of", "but_box", "first_by_value", "settling", "settled", "_law_hand", "_law_draw", "_law_some", "_law_size", "_law_form", "_law_lot", "_law_box", "_law_rules", "_law_all", "_law_holds", "_law_lawful", "_law_agrees", "_law_report", "_law_in", "_law_word", "_law_steps_right"]
def loose3 : List PySem.Str := ["_law_notice_right", "_law_values_right"]
abbrev loose : List PySem.Str := loose0 ++ loose1 ++ loose2 ++ loose3
abbrev R : PySem.W.OpenRow := PySem.W.OpenLaw.row PySem.Challenge.rw_samefault_k94_whole_notices_and_settled
abbrev hk : PySem.W.Hook := hookX 5 fa fn fx file
def ob (s : PySem.W.SharedT) : AlX := obsXG 5 fa fn fx file (HandSHeadRun.getT s)
theorem ob_eq (s : PySem.W.SharedT) : ob s = hk.obs s.abs := obsXG_eq (HandSHeadRun.getT_eq s)
theorem run (w : World) : HandSHeadRun.RunEq R (PySem.W.view R.prog [101]) hk ob 8000 loose w := by
  intro os
  kernel_rfl
end K94
set_option Elab.async false
set_option linter.all false
set_option maxRecDepth 100000
set_option maxHeartbeats 4000000
/-! Laws of the transformers: comprehensions and loops by what a turn does; data of one's own types. -/
namespace Dd
open PySem PySem.Spec PyProof.Rows L2

/-- the store has all that S has -/
def Ext (S S' : Sto) : Prop := ∀ a o, S a = some o → S' a = some o
theorem Ext.refl {S : Sto} : Ext S S := fun _ _ h => h
theorem Ext.trans {S S' S'' : Sto} (h : Ext S S') (k : Ext S' S'') : Ext S S'' := fun a o e => k a o (h a o e)
theorem Ext.put {S : Sto} {a : Addr} {o : SO} (h : S a = none) : Ext S (put S a o) := fun b u e => by
  rw [put_ne fun z => by rw [z, h] at e; cases e]; exact e
theorem Ext.put' {S S' : Sto} {a : Addr} {o : SO} (x : Ext S S') (h : S a = none) : Ext S (Dd.put S' a o) := fun b u e => by
  rw [put_ne fun z => by rw [z, h] at e; cases e]; exact x b u e
theorem Ext.wk {S S' : Sto} (x : Ext S S') : Wk S' S := Wk.of x
theorem wk_put {S S' : Sto} {a : Addr} {o : SO} (w : Wk S' S) (h : S a = none) : Wk (put S' a o) S := fun b u e => by
  rw [put_ne fun z => by rw [z, h] at e; cases e]; exact w b u e

/-- one turn of a comprehension that leaves the store: what it gives, if anything -/
def Turn1 (g : DG) (t : DT) (e : DE) (env : Env) (S : Sto) (d : D) (o : Option D) : Prop :=
  ∀ S', Ext S S' → ∀ (Kt : DQ) (Kf : Sto → Prop), (match o with
    | some y => Kt y S'
    | none => Kf S') → g d env S' fun env1 S1 => t env1 S1 fun b S2 => match b with
    | true => e env1 S2 Kt
    | false => Kf S2
/-- a comprehension over xs, by E; f: what a turn gives -/
theorem lc_by {α : Type} {g : DG} {t : DT} {e : DE} {vs : List Nat} {env : Env} {S : Sto} {R : DQ} {gd : Sto → Prop} (xs : List α) (E : α → D) (f : α → Option D) (hz : xs.length ≤ sizeLine) (hg : ∀ S', Ext S S' → gd S')
    (ht : ∀ x ∈ xs, Turn1 g t e (vs.foldr (fun i e => e.set i none) env) S (E x) (f x)) (h : R (.lst (xs.filterMap f)) S) : ∀ T, S T = none → compD T g t e (vs.foldr (fun i e => e.set i none) env) gd R [] (xs.map E) (put S T (.lst [])) := by
  intro T hT
  -- the turns by place
  have key : ∀ (xs : List α) (acc : List D), (∀ x ∈ xs, Turn1 g t e (vs.foldr (fun i e => e.set i none) env) S (E x) (f x)) → acc.length + xs.length ≤ sizeLine → R (.lst (acc ++ xs.filterMap f)) S →
      compD T g t e (vs.foldr (fun i e => e.set i none) env) gd R acc (xs.map E) (put S T (.lst acc)) := by
    intro xs
    induction xs with
    | nil => intro acc _ _ h; exact ⟨hg _ (Ext.put hT), put_same, by rw [del_put hT]; rwa [List.filterMap_nil, List.append_nil] at h⟩
    | cons x xs ih =>
      intro acc ht hz h
      refine ⟨hg _ (Ext.put hT), ?_⟩
      rw [List.length_cons] at hz
      refine ht x List.mem_cons_self _ (Ext.put hT) (fun y S3 => S3 T = some (.lst acc) ∧ acc.length < sizeLine ∧ compD T g t e _ gd R (acc ++ [y]) (xs.map E) (put S3 T (.lst (acc ++ [y])))) (fun S2 => S2 T = some (.lst acc) ∧ compD T g t e _ gd R acc (xs.map E) S2) ?_
      rw [List.filterMap_cons] at h
      cases q : f x with
      | some y =>
        rw [q] at h
        refine ⟨put_same, by omega, ?_⟩
        rw [put_put]
        exact ih (acc ++ [y]) (fun d hd => ht d (List.mem_cons_of_mem _ hd)) (by rw [List.length_append, List.length_singleton]; omega) (by rw [List.append_assoc]; exact h)
      | none =>
        rw [q] at h
        exact ⟨put_same, ih acc (fun d hd => ht d (List.mem_cons_of_mem _ hd)) (by omega) h⟩
  exact key xs [] ht (by simpa using hz) h
/-- .. where every turn gives something -/
theorem lc_all {α : Type} {g : DG} {t : DT} {e : DE} {vs : List Nat} {env : Env} {S : Sto} {R : DQ} {gd : Sto → Prop} (xs : List α) (E : α → D) (f : α → D) (hz : xs.length ≤ sizeLine) (hg : ∀ S', Ext S S' → gd S')
    (ht : ∀ x ∈ xs, Turn1 g t e (vs.foldr (fun i e => e.set i none) env) S (E x) (some (f x))) (h : R (.lst (xs.map f)) S) : ∀ T, S T = none → compD T g t e (vs.foldr (fun i e => e.set i none) env) gd R [] (xs.map E) (put S T (.lst [])) :=
  lc_by xs E (fun x => some (f x)) hz hg ht (by rw [List.filterMap_eq_map']; exact h)
/-- .. a filter -/
theorem lc_filter {α : Type} {g : DG} {t : DT} {e : DE} {vs : List Nat} {env : Env} {S : Sto} {R : DQ} {gd : Sto → Prop} (xs : List α) (E : α → D) (p : α → Bool) (f : α → D) (hz : xs.length ≤ sizeLine) (hg : ∀ S', Ext S S' → gd S')
    (ht : ∀ x ∈ xs, Turn1 g t e (vs.foldr (fun i e => e.set i none) env) S (E x) (if p x = true then some (f x) else none)) (h : R (.lst ((xs.filter p).map f)) S) : ∀ T, S T = none → compD T g t e (vs.foldr (fun i e => e.set i none) env) gd R [] (xs.map E) (put S T (.lst [])) := by
  refine lc_by xs E (fun x => if p x = true then some (f x) else none) hz hg ht ?_
  have e : xs.filterMap (fun x => if p x = true then some (f x) else none) = (xs.filter p).map f := by
    induction xs with
    | nil => rfl
    | cons x xs ih =>
      have ih := ih (by rw [List.length_cons] at hz; omega) (fun x hx => ht x (List.mem_cons_of_mem _ hx))
      rw [List.filterMap_cons, List.filter_cons]
      cases p x with
      | true => simp only [if_pos]; rw [List.map_cons]; congr 1; exact filt xs
      | false => simp only [Bool.false_eq_true, if_false]; exact filt xs
  rw [e]; exact h
where
  filt {α : Type} {p : α → Bool} {f : α → D} (xs : List α) : xs.filterMap (fun x => if p x = true then some (f x) else none) = (xs.filter p).map f := by
    induction xs with
    | nil => rfl
    | cons x xs ih =>
      rw [List.filterMap_cons, List.filter_cons]
      cases p x with
      | true => simp only [if_pos]; rw [List.map_cons, ih]
      | false => simp only [Bool.false_eq_true, if_false]; exact ih
/-- a for: I holds ahead of the items left -/
theorem for_by {α : Type} {g : DG} {b : DS} {gd : Sto → Prop} {F : DEnds} (E : α → D) (I : List α → Env → Sto → Prop) (h0 : ∀ env S, I [] env S → gd S ∧ F.nx env S)
    (hs : ∀ x r env S (N : Env → Sto → Prop), (∀ env S, I r env S → N env S) → I (x :: r) env S → gd S ∧ g (E x) env S fun env1 S1 => b { nx := N, rt := F.rt, bk := F.nx, ct := N, ex := F.ex } env1 S1) : ∀ (xs : List α) (env : Env) (S : Sto), I xs env S → forD g b gd F (xs.map E) env S
  | [], env, S, h => h0 env S h
  | x :: xs, env, S, h => hs x xs env S _ (fun env S h => for_by E I h0 hs xs env S h) h

theorem zipD_map {α β : Type} (E : α → D) (E' : β → D) (xs : List α) (ys : List β) : zipD (xs.map E) (ys.map E') = (List.zip xs ys).map fun p => .tup [E p.1, E' p.2] := by
  unfold zipD
  rw [List.zipWith_map, List.zip, List.map_zipWith]
theorem bools_fn {α : Type} (p : α → Bool) (xs : List α) : bools (xs.map fun x => D.bl (p x)) = some (xs.map p) := by
  have := bools_of (xs.map p)
  rw [List.map_map] at this
  exact this
theorem all_id {α : Type} (p : α → Bool) (xs : List α) : (xs.map p).all id = xs.all p := by rw [List.all_map]; rfl
theorem any_id {α : Type} (p : α → Bool) (xs : List α) : (xs.map p).any id = xs.any p := by rw [List.any_map]; rfl
theorem dAll_fn {α : Type} {p : α → Bool} {xs : List α} {S : Sto} {R : DQ} (h : R (.bl (xs.all p)) S) : dAll [.lst (xs.map fun x => .bl (p x))] S R := by
  unfold dAll dFold
  show (match bools (xs.map fun x => D.bl (p x)) with
    | some bs => R (.bl (bs.all id)) S
    | none => False)
  rw [bools_fn]
  show R (.bl ((xs.map p).all id)) S
  rw [all_id]; exact h
theorem dAny_fn {α : Type} {p : α → Bool} {xs : List α} {S : Sto} {R : DQ} (h : R (.bl (xs.any p)) S) : dAny [.lst (xs.map fun x => .bl (p x))] S R := by
  unfold dAny dFold
  show (match bools (xs.map fun x => D.bl (p x)) with
    | some bs => R (.bl (bs.any id)) S
    | none => False)
  rw [bools_fn]
  show R (.bl ((xs.map p).any id)) S
  rw [any_id]; exact h

/-! ### data of own types -/
abbrev eI (l : List Int) : D := .tup (l.map D.int)
abbrev eB (b : List (List Int)) : D := .tup (b.map eI)
def eO : Option Int → D
  | none => .non
  | some i => .int i
abbrev eR (r : List (Option Int)) : D := .tup (r.map eO)
abbrev eRs (rs : List (List (List Int))) : D := .tup (rs.map eB)
theorem pures_int : ∀ l : List Int, pures (l.map D.int) = true
  | [] => rfl
  | _ :: l => pures_int l
theorem pures_map {α : Type} {E : α → D} (h : ∀ x, pure (E x) = true) : ∀ l : List α, pures (l.map E) = true
  | [] => rfl
  | x :: l => by show (pure (E x) && pures (l.map E)) = true; rw [h x, pures_map h l]; rfl
/-- no text within that == could not read, at most so deep -/
def okN (n : Nat) (d : D) : Prop := pure d = true ∧ (toP d).canLay0 = true ∧ (toP d).depth ≤ n
theorem okN.eq {n : Nat} {d : D} (h : okN n d) (hn : n ≤ 64 := by decide) : okEq d = true := by
  unfold okEq SeqAt.shaped
  rw [h.1, h.2.1, Bool.true_and, Bool.true_and, decide_eq_true_iff]
  exact Nat.le_trans h.2.2 hn
theorem okN.int {n : Nat} (i : Int) : okN n (.int i) := ⟨rfl, rfl, Nat.zero_le _⟩
theorem okN.non {n : Nat} : okN n .non := ⟨rfl, rfl, Nat.zero_le _⟩
theorem okN.bl {n : Nat} (b : Bool) : okN n (.bl b) := ⟨rfl, rfl, Nat.zero_le _⟩
theorem okN.str {n : Nat} {x : Str} (h : PyData.strOk x = true := by decide +kernel) : okN n (.str x) := ⟨rfl, h, Nat.zero_le _⟩
theorem okN.all {n : Nat} : ∀ {ds : List D}, (∀ d ∈ ds, okN n d) → pures ds = true ∧ PyData.canLayAll0 (toPs ds) = true ∧ PyData.depthAll (toPs ds) ≤ n
  | [], _ => ⟨rfl, rfl, Nat.zero_le _⟩
  | d :: ds, h => by
    obtain ⟨a, b, c⟩ := h d List.mem_cons_self
    obtain ⟨a', b', c'⟩ := okN.all fun d hd => h d (List.mem_cons_of_mem _ hd)
    refine ⟨by show (pure d && pures ds) = true; rw [a, a']; rfl, ?_, ?_⟩
    · show PyData.canLayAll0 (toP d :: toPs ds) = true
      unfold PyData.canLayAll0
      rw [b, b']; rfl
    · show PyData.depthAll (toP d :: toPs ds) ≤ n
      unfold PyData.depthAll
      omega
theorem okN.tup {n : Nat} {ds : List D} (h : ∀ d ∈ ds, okN n d) : okN (n + 1) (.tup ds) := by
  obtain ⟨a, b, c⟩ := okN.all h
  refine ⟨a, by show PyData.canLay0 (.tuple (toPs ds)) = true; unfold PyData.canLay0; exact b, ?_⟩
  show PyData.depth (.tuple (toPs ds)) ≤ n + 1
  unfold PyData.depth
  omega
theorem okN.lst {n : Nat} {ds : List D} (h : ∀ d ∈ ds, okN n d) : okN (n + 1) (.lst ds) := by
  obtain ⟨a, b, c⟩ := okN.all h
  refine ⟨a, by show PyData.canLay0 (.list (toPs ds)) = true; unfold PyData.canLay0; exact b, ?_⟩
  show PyData.depth (.list (toPs ds)) ≤ n + 1
  unfold PyData.depth
  omega
theorem okN.mono {m n : Nat} {d : D} (h : okN m d) (k : m ≤ n) : okN n d := ⟨h.1, h.2.1, Nat.le_trans h.2.2 k⟩
theorem okN.eqs {n : Nat} {ds : List D} (h : ∀ d ∈ ds, okN n d) (hn : n + 1 ≤ 64 := by decide) : okEqs ds = true := by
  obtain ⟨a, b, c⟩ := okN.lst h
  unfold okEqs SeqAt.shaped
  have a : pures ds = true := a
  have b : PyData.canLay0 (.list (toPs ds)) = true := b
  have c : PyData.depth (.list (toPs ds)) ≤ n + 1 := c
  rw [a, b, Bool.true_and, Bool.true_and, decide_eq_true_iff]
  omega
theorem okN.map {α : Type} {n : Nat} {E : α → D} (h : ∀ x, okN n (E x)) (l : List α) : ∀ d ∈ l.map E, okN n d := fun d hd => by
  obtain ⟨x, _, rfl⟩ := List.mem_map.mp hd
  exact h x
theorem okI (l : List Int) : okN 1 (eI l) := .tup (.map (fun i => .int i) l)
theorem okB (b : List (List Int)) : okN 2 (eB b) := .tup (.map okI b)
theorem okO (o : Option Int) : okN 0 (eO o) := by cases o; exact .non; exact .int _
theorem okR (r : List (Option Int)) : okN 1 (eR r) := .tup (.map okO r)
/-! == of these -/
theorem eq_int (i j : Int) : eqD (.int i) (.int j) = decide (i = j) := by show (i == j) = _; rw [Bool.beq_eq_decide_eq]
theorem eqs_ints : ∀ xs ys : List Int, PyData.eqvAll (toPs (xs.map D.int)) (toPs (ys.map D.int)) = decide (xs = ys)
  | [], [] => rfl
  | [], y :: ys => by rw [show decide (([] : List Int) = y :: ys) = false by simp]; rfl
  | x :: xs, [] => by rw [show decide (x :: xs = ([] : List Int)) = false by simp]; rfl
  | x :: xs, y :: ys => by
    show (eqD (.int x) (.int y) && PyData.eqvAll (toPs (xs.map D.int)) (toPs (ys.map D.int))) = _
    rw [eq_int, eqs_ints xs ys]
    simp [Bool.decide_and]
theorem eq_eI (xs ys : List Int) : eqD (eI xs) (eI ys) = decide (xs = ys) := eqs_ints xs ys
theorem eqs_by {α : Type} [DecidableEq α] {E : α → D} (h : ∀ x y, eqD (E x) (E y) = decide (x = y)) : ∀ xs ys : List α, PyData.eqvAll (toPs (xs.map E)) (toPs (ys.map E)) = decide (xs = ys)
  | [], [] => rfl
  | [], y :: ys => by rw [show decide (([] : List α) = y :: ys) = false by simp]; rfl
  | x :: xs, [] => by rw [show decide (x :: xs = ([] : List α)) = false by simp]; rfl
  | x :: xs, y :: ys => by
    show (eqD (E x) (E y) && PyData.eqvAll (toPs (xs.map E)) (toPs (ys.map E))) = _
    rw [h, eqs_by h xs ys]
    simp [Bool.decide_and]
theorem eq_eO (a b : Option Int) : eqD (eO a) (eO b) = decide (a = b) := by
  cases a <;> cases b
  · rfl
  · rfl
  · rfl
  · rename_i i j; show eqD (.int i) (.int j) = _; rw [eq_int]; simp
theorem eq_eR (xs ys : List (Option Int)) : eqD (eR xs) (eR ys) = decide (xs = ys) := eqs_by eq_eO xs ys
theorem eq_eB (xs ys : List (List Int)) : eqD (eB xs) (eB ys) = decide (xs = ys) := eqs_by eq_eI xs ys
theorem eq_str (x y : Str) : eqD (.str x) (.str y) = decide (x = y) := by show (x == y) = _; rw [Bool.beq_eq_decide_eq]
theorem any_eq {α : Type} [DecidableEq α] {E : α → D} (h : ∀ x y, eqD (E x) (E y) = decide (x = y)) (xs : List α) (y : α) : ((xs.map E).any fun d => eqD d (E y)) = decide (y ∈ xs) := by
  rw [List.any_map]
  induction xs with
  | nil => rfl
  | cons x xs ih =>
    rw [List.any_cons, ih]
    show (eqD (E x) (E y) || _) = _
    rw [h]
    by_cases e : x = y
    · subst e; simp
    · have n : ¬ y = x := fun z => e z.symm
      simp [e, n]
end Dd
set_option Elab.async false
set_option linter.all false
set_option maxRecDepth 100000
set_option maxHeartbeats 400000
/-! More laws of the transformers. -/
namespace Dd
open PySem PySem.Spec PyProof.Rows L2
theorem dT {p : Prop} (h : p) {i : Decidable p} : @decide p i = true := decide_eq_true h
theorem dF {p : Prop} (h : ¬ p) {i : Decidable p} : @decide p i = false := decide_eq_false h
theorem sz {n : Nat} (h : n ≤ 100000) : n ≤ sizeLine := Nat.le_trans h (by rw [sizeLine_eq]; decide)
theorem szl {n : Nat} (h : n < 100000) : n < sizeLine := Nat.lt_of_lt_of_le h (by rw [sizeLine_eq]; decide)
/-- zip of two, each item giving something -/
theorem lc_zip {α β : Type} {g : DG} {t : DT} {e : DE} {vs : List Nat} {env : Env} {S : Sto} {R : DQ} {gd : Sto → Prop} {xs : List α} {ys : List β} {E : α → D} {E' : β → D} (f : α × β → D) (hz : xs.length ≤ 100000) (hg : ∀ S', Ext S S' → gd S')
    (ht : ∀ p ∈ List.zip xs ys, Turn1 g t e (vs.foldr (fun i e => e.set i none) env) S (.tup [E p.1, E' p.2]) (some (f p))) (h : R (.lst ((List.zip xs ys).map f)) S) : ∀ T, S T = none → compD T g t e (vs.foldr (fun i e => e.set i none) env) gd R [] (zipD (xs.map E) (ys.map E')) (put S T (.lst [])) := by
  rw [zipD_map]
  exact lc_all (List.zip xs ys) _ f (sz (by rw [List.length_zip]; omega)) hg ht h
theorem all_congr {α : Type} {p q : α → Bool} {l : List α} (h : ∀ x ∈ l, p x = q x) : l.all p = l.all q := by
  induction l with
  | nil => rfl
  | cons x l ih => rw [List.all_cons, List.all_cons, h x List.mem_cons_self, ih fun y hy => h y (List.mem_cons_of_mem _ hy)]
/-- all of True -/
theorem dAll_true {α : Type} {xs : List α} {S : Sto} {R : DQ} (h : R (.bl true) S) : dAll [.lst (xs.map fun _ => .bl true)] S R := by
  refine dAll_fn (p := fun _ => true) ?_
  rw [List.all_eq_true.mpr fun _ _ => rfl]; exact h
/-- all of False, one at least -/
theorem dAll_false {α : Type} {xs : List α} {S : Sto} {R : DQ} (hn : xs ≠ []) (h : R (.bl false) S) : dAll [.lst (xs.map fun _ => .bl false)] S R := by
  refine dAll_fn (p := fun _ => false) ?_
  cases xs with
  | nil => exact absurd rfl hn
  | cons x xs => exact h
theorem eI_eR (f : List Int) : eI f = eR (f.map some) := by
  show D.tup _ = D.tup _
  rw [List.map_map]; rfl
theorem atI_nat {α : Type} {xs : List α} {i : Nat} {x : α} (h : xs[i]? = some x) : atI xs (i : Int) = some x := by
  have hi : i < xs.length := (List.getElem?_eq_some_iff.mp h).1
  show (ixN xs.length (i : Int)).bind _ = _
  unfold ixN
  rw [if_pos (Int.natCast_nonneg i), if_pos (Int.ofNat_lt.mpr hi)]
  show xs[(i : Int).toNat]? = _
  rw [Int.toNat_natCast]; exact h
theorem atI_last {α : Type} {xs : List α} {x : α} (h : xs.getLast? = some x) : atI xs (-1) = some x := by
  have hn : xs ≠ [] := fun z => by rw [z] at h; cases h
  have hl : 0 < xs.length := List.length_pos_iff.mpr hn
  show (ixN xs.length (-1)).bind _ = _
  unfold ixN
  rw [if_neg (by omega), if_pos (by omega)]
  show xs[((-1 : Int) + (xs.length : Int)).toNat]? = _
  rw [show ((-1 : Int) + (xs.length : Int)).toNat = xs.length - 1 by omega, ← List.getLast?_eq_getElem?]
  exact h
theorem dIx_nat {d : D} {S : Sto} {R : DQ} {xs : List D} {i : Nat} {x : D} (hs : seqOf d S = some xs) (h : xs[i]? = some x) (r : R x S) : dIx d (.int (i : Int)) S R := by
  unfold dIx
  show (match seqOf d S, D.int (i : Int) with
    | some xs, .int i => match atI xs i with
      | some x => R x S
      | none => False
    | _, _ => False)
  rw [hs]
  show (match atI xs (i : Int) with
    | some x => R x S
    | none => False)
  rw [atI_nat h]; exact r
theorem get_map {α : Type} {E : α → D} {l : List α} {i : Nat} {x : α} (h : l[i]? = some x) : (l.map E)[i]? = some (E x) := by rw [List.getElem?_map, h]; rfl
theorem dIn_fn {α : Type} [DecidableEq α] {E : α → D} {n : Nat} (hE : ∀ x y, eqD (E x) (E y) = decide (x = y)) (ok : ∀ x, okN n (E x)) (hn : n + 1 ≤ 64) {xs : List α} {y : α} {e : D} {S : Sto} {R : DQ} (hs : seqOf e S = some (xs.map E)) (h : R (.bl (decide (y ∈ xs))) S) : dIn (E y) e S R := by
  first | unfold dIn dInB | unfold dNotIn dInB
  show (match seqOf e S with
    | some xs => okEq (E y) = true ∧ okEqs xs = true ∧ R (.bl (xor false (xs.any fun x => eqD x (E y)))) S
    | none => False)
  rw [hs]
  refine ⟨(ok y).eq (by omega), okN.eqs (okN.map ok xs) hn, ?_⟩
  rw [any_eq hE, Bool.false_xor]; exact h
theorem dNotIn_fn {α : Type} [DecidableEq α] {E : α → D} {n : Nat} (hE : ∀ x y, eqD (E x) (E y) = decide (x = y)) (ok : ∀ x, okN n (E x)) (hn : n + 1 ≤ 64) {xs : List α} {y : α} {e : D} {S : Sto} {R : DQ} (hs : seqOf e S = some (xs.map E)) (h : R (.bl (!decide (y ∈ xs))) S) : dNotIn (E y) e S R := by
  first | unfold dIn dInB | unfold dNotIn dInB
  show (match seqOf e S with
    | some xs => okEq (E y) = true ∧ okEqs xs = true ∧ R (.bl (xor true (xs.any fun x => eqD x (E y)))) S
    | none => False)
  rw [hs]
  refine ⟨(ok y).eq (by omega), okN.eqs (okN.map ok xs) hn, ?_⟩
  rw [any_eq hE, Bool.true_xor]; exact h
theorem dIx_at {d : D} {i : Int} {S : Sto} {R : DQ} {xs : List D} {x : D} (hs : seqOf d S = some xs) (h : atI xs i = some x) (r : R x S) : dIx d (.int i) S R := by
  unfold dIx
  rw [hs]
  show (match atI xs i with
    | some x => R x S
    | none => False)
  rw [h]; exact r
theorem dEq_i {d e : D} {S : Sto} {R : DQ} (h1 : okEq d = true) (h2 : okEq e = true) (h : R (.bl (eqD d e)) S) : dEq d e S R := by unfold dEq; exact ⟨h1, h2, h⟩
theorem dNe_i {d e : D} {S : Sto} {R : DQ} (h1 : okEq d = true) (h2 : okEq e = true) (h : R (.bl (!eqD d e)) S) : dNe d e S R := by unfold dNe; exact ⟨h1, h2, h⟩
theorem dEq_int {i j : Int} {S : Sto} {R : DQ} (h : R (.bl (decide (i = j))) S) : dEq (.int i) (.int j) S R := dEq_i rfl rfl (by rw [eq_int]; exact h)
theorem dNe_int {i j : Int} {S : Sto} {R : DQ} (h : R (.bl (!decide (i = j))) S) : dNe (.int i) (.int j) S R := dNe_i rfl rfl (by rw [eq_int]; exact h)
theorem dEq_str {x y : Str} {S : Sto} {R : DQ} (h : R (.bl (decide (x = y))) S) (hx : PyData.strOk x = true := by decide +kernel) (hy : PyData.strOk y = true := by decide +kernel) : dEq (.str x) (.str y) S R :=
  dEq_i (okN.str (n := 0) hx).eq (okN.str (n := 0) hy).eq (by rw [eq_str]; exact h)
theorem dNe_str {x y : Str} {S : Sto} {R : DQ} (h : R (.bl (!decide (x = y))) S) (hx : PyData.strOk x = true := by decide +kernel) (hy : PyData.strOk y = true := by decide +kernel) : dNe (.str x) (.str y) S R :=
  dNe_i (okN.str (n := 0) hx).eq (okN.str (n := 0) hy).eq (by rw [eq_str]; exact h)
theorem dIn_i {neg : Bool} {d e : D} {S : Sto} {R : DQ} {xs : List D} (hs : seqOf e S = some xs) (h1 : okEq d = true) (h2 : okEqs xs = true) (h : R (.bl (xor neg (xs.any fun x => eqD x d))) S) : dInB neg d e S R := by
  unfold dInB; rw [hs]; exact ⟨h1, h2, h⟩
theorem zip_len {α β : Type} {xs : List α} {ys : List β} {n : Nat} (h : xs.length ≤ n) : (List.zip xs ys).length ≤ n := by rw [List.length_zip]; omega
end Dd
set_option Elab.async false
set_option linter.all false
set_option maxRecDepth 100000
set_option maxHeartbeats 400000
/-! Enumerations, attributes, dicts. -/
namespace Dd
open PySem PySem.Spec PyProof.Rows L2
theorem enumD_map {α : Type} (E : α → D) (xs : List α) : enumD (xs.map E) = (List.zip (List.range xs.length) xs).map fun p => .tup [.int (p.1 : Int), E p.2] := by
  unfold enumD rngD
  rw [List.length_map, zipD_map]
  apply List.map_congr_left
  intro p _
  show D.tup [.int (0 + (p.1 : Int)), E p.2] = _
  rw [Int.zero_add]
theorem zr_get {α : Type} (xs : List α) (i : Nat) : (List.zip (List.range xs.length) xs)[i]? = (xs[i]?).map fun x => (i, x) := by
  by_cases hi : i < xs.length
  · rw [List.getElem?_eq_getElem (by simpa using hi), List.getElem?_eq_getElem hi, List.getElem_zip, List.getElem_range]; rfl
  · rw [List.getElem?_eq_none (by simp; omega), List.getElem?_eq_none (by omega)]; rfl
theorem zr_mem {α : Type} {xs : List α} {p : Nat × α} (h : p ∈ List.zip (List.range xs.length) xs) : xs[p.1]? = some p.2 := by
  obtain ⟨i, hi⟩ := List.getElem?_of_mem h
  rw [zr_get] at hi
  cases e : xs[i]? with
  | none => rw [e] at hi; cases hi
  | some x => rw [e] at hi; cases hi; exact e
/-- a for over items; I i: ahead of item i -/
theorem for_ix {α : Type} {g : DG} {b : DS} {gd : Sto → Prop} {F : DEnds} (E : α → D) (xs : List α) (I : Nat → Env → Sto → Prop) (h0 : ∀ env S, I xs.length env S → gd S ∧ F.nx env S)
    (hs : ∀ i x env S (N : Env → Sto → Prop), xs[i]? = some x → (∀ env S, I (i + 1) env S → N env S) → I i env S → gd S ∧ g (E x) env S fun env1 S1 => b { nx := N, rt := F.rt, bk := F.nx, ct := N, ex := F.ex } env1 S1) {env : Env} {S : Sto} (h : I 0 env S) : forD g b gd F (xs.map E) env S := by
  refine for_by E (fun r env S => ∃ i, r = xs.drop i ∧ i + r.length = xs.length ∧ I i env S) ?_ ?_ xs env S ⟨0, rfl, by simp, h⟩
  · rintro env S ⟨i, _, hl, hI⟩
    exact h0 env S (by rw [List.length_nil, Nat.add_zero] at hl; rw [← hl]; exact hI)
  · rintro x r env S N hN ⟨i, hr, hl, hI⟩
    have hx : xs[i]? = some x := by
      have : (xs.drop i)[0]? = some x := by rw [← hr]; rfl
      rwa [List.getElem?_drop, Nat.add_zero] at this
    refine hs i x env S N hx (fun env S hI => hN env S ⟨i + 1, ?_, by rw [List.length_cons] at hl; omega, hI⟩) hI
    rw [← List.drop_drop, ← hr]; rfl
/-- a for over an enumeration -/
theorem for_enum {α : Type} {g : DG} {b : DS} {gd : Sto → Prop} {F : DEnds} (E : α → D) (xs : List α) (I : Nat → Env → Sto → Prop) (h0 : ∀ env S, I xs.length env S → gd S ∧ F.nx env S)
    (hs : ∀ i x env S (N : Env → Sto → Prop), xs[i]? = some x → (∀ env S, I (i + 1) env S → N env S) → I i env S → gd S ∧ g (.tup [.int (i : Int), E x]) env S fun env1 S1 => b { nx := N, rt := F.rt, bk := F.nx, ct := N, ex := F.ex } env1 S1) {env : Env} {S : Sto} (h : I 0 env S) : forD g b gd F (enumD (xs.map E)) env S := by
  rw [enumD_map]
  have hl : (List.zip (List.range xs.length) xs).length = xs.length := by simp
  refine for_ix (fun p : Nat × α => .tup [.int (p.1 : Int), E p.2]) _ I (by rw [hl]; exact h0) ?_ h
  intro i p env S N hp hN hI
  rw [zr_get] at hp
  cases e : xs[i]? with
  | none => rw [e] at hp; cases hp
  | some x =>
    rw [e] at hp; cases hp
    exact hs i x env S N e hN hI
theorem lc_enum {α : Type} {g : DG} {t : DT} {e : DE} {vs : List Nat} {env : Env} {S : Sto} {R : DQ} {gd : Sto → Prop} {xs : List α} {E : α → D} (f : Nat × α → Option D) (hz : xs.length ≤ 100000) (hg : ∀ S', Ext S S' → gd S')
    (ht : ∀ (i : Nat) x, xs[i]? = some x → Turn1 g t e (vs.foldr (fun i e => e.set i none) env) S (.tup [.int (i : Int), E x]) (f (i, x))) (h : R (.lst ((List.zip (List.range xs.length) xs).filterMap f)) S) : ∀ T, S T = none → compD T g t e (vs.foldr (fun i e => e.set i none) env) gd R [] (enumD (xs.map E)) (put S T (.lst [])) := by
  rw [enumD_map]
  exact lc_by _ (fun p : Nat × α => .tup [.int (p.1 : Int), E p.2]) f (sz (by simp; omega)) hg (fun p hp => ht p.1 p.2 (zr_mem hp)) h
/-- range as items -/
theorem for_rng {g : DG} {b : DS} {gd : Sto → Prop} {F : DEnds} (n : Nat) (I : Nat → Env → Sto → Prop) (h0 : ∀ env S, I n env S → gd S ∧ F.nx env S)
    (hs : ∀ i env S (N : Env → Sto → Prop), i < n → (∀ env S, I (i + 1) env S → N env S) → I i env S → gd S ∧ g (.int (i : Int)) env S fun env1 S1 => b { nx := N, rt := F.rt, bk := F.nx, ct := N, ex := F.ex } env1 S1) {env : Env} {S : Sto} (h : I 0 env S) : forD g b gd F (rngD 0 n) env S := by
  have e : rngD 0 n = (List.range n).map fun (i : Nat) => D.int (i : Int) := by
    unfold rngD
    apply List.map_congr_left
    intro i _
    show D.int (0 + (i : Int)) = _
    rw [Int.zero_add]
  rw [e]
  refine for_ix (fun (i : Nat) => D.int (i : Int)) (List.range n) I (by rw [List.length_range]; exact h0) ?_ h
  intro i x env S N hx hN hI
  have hi : i < n := by have := (List.getElem?_eq_some_iff.mp hx).1; simpa using this
  rw [List.getElem?_range hi] at hx
  cases hx
  exact hs i env S N hi hN hI
theorem rngD_nat (n : Nat) : rngD 0 n = (List.range n).map fun (i : Nat) => D.int (i : Int) := by
  unfold rngD
  apply List.map_congr_left
  intro i _
  show D.int (0 + (i : Int)) = _
  rw [Int.zero_add]
theorem seq_loc {a : Addr} {S : Sto} {xs : List D} (h : S a = some (.lst xs)) : seqOf (.loc a) S = some xs := by
  show (match S a with
    | some (.lst xs) => some xs
    | _ => none) = _
  rw [h]
theorem dLen_loc {a : Addr} {S : Sto} {xs : List D} {R : DQ} (h : S a = some (.lst xs)) (k : R (.int xs.length) S) : dLen [.loc a] S R := by
  unfold dLen
  simp only [seq_loc h]; exact k
theorem dLen_dK {a : Addr} {S : Sto} {xs : List (Key × D)} {R : DQ} (h : S a = some (.dK xs)) (k : R (.int xs.length) S) : dLen [.loc a] S R := by
  unfold dLen
  have : seqOf (.loc a) S = none := by
    show (match S a with
      | some (.lst xs) => some xs
      | _ => none) = _
    rw [h]
  simp only [this, h]; exact k
theorem dTuple_loc {a : Addr} {S : Sto} {xs : List D} {R : DQ} (h : S a = some (.lst xs)) (k : R (.tup xs) S) : dTuple [.loc a] S R := by
  unfold dTuple
  simp only [seq_loc h]; exact k
theorem iSeq_loc {a : Addr} {S : Sto} {xs : List D} {R : List D → (Sto → Prop) → Sto → Prop} (h : S a = some (.lst xs)) (k : R xs (fun S => S a = some (.lst xs)) S) : iSeq (wC (.loc a)) [] S R := by
  show (match seqOf (.loc a) S with
    | some xs => R xs (gdOf (.loc a) xs) S
    | none => False)
  rw [seq_loc h]; exact k
end Dd
set_option Elab.async false
set_option linter.all false
set_option maxRecDepth 100000
set_option maxHeartbeats 4000000
/-! sorted of a list of tuples, nested: one list, a function of what is sorted. -/
namespace Dd
open PySem PySem.Spec PyProof.Rows L2 PySem.W
/-- a list's items as data that all sort with one another -/
def okSort (xs : List D) : Prop := pures xs = true ∧ AllAlike (xs.map toP) ∧ Sortable (xs.map toP) ∧ ∀ d ∈ xs, (toP d).depth ≤ 20
def sortD (xs : List D) : List D := xs.mergeSort (dataLe false toP)
@[irreducible] def dSortT (ds : List D) (S : Sto) (R : DQ) : Prop := ∃ d xs, ds = [d] ∧ seqOf d S = some xs ∧ (∀ ys, d ≠ .tup ys) ∧ okSort xs ∧ R (.lst (sortD xs)) S
/-- over the hand layer -/
def rSortT (K : PySem.W.Frag) : List V → Hp → VK → Prop := fun vs H Q => ∃ (a : Addr) (xs : List V) (ds : List D) (P : V → D → Prop), vs = [V.ref a] ∧ SqL K H a xs ∧ xs.length = ds.length ∧ (∀ (i : Nat) v d, xs[i]? = some v → ds[i]? = some d → P v d ∧ Dp K H v (toP d)) ∧ AllAlike (ds.map toP) ∧ Sortable (ds.map toP) ∧ (∀ d ∈ ds, (toP d).depth ≤ 20) ∧
  ∀ ys p, EachIs P ys (sortD ds) → H p = none → Q (.ref p) (upd H p (.lst ys))
theorem each_ix {α β : Type} {R : α → β → Prop} : ∀ {xs : List α} {ys : List β}, xs.length = ys.length → (∀ (i : Nat) x y, xs[i]? = some x → ys[i]? = some y → R x y) → EachIs R xs ys
  | [], [], _, _ => .nil
  | [], _ :: _, h, _ => by simp at h
  | _ :: _, [], h, _ => by simp at h
  | x :: xs, y :: ys, h, k => .cons (k 0 x y rfl rfl) (each_ix (by simpa using h) fun i a b ha hb => k (i + 1) a b (by simpa using ha) (by simpa using hb))
theorem each_back {P : V → D → Prop} : ∀ {us : List Value} {ds : List D}, EachIs (fun u d => ∃ v, RelV v u ∧ P v d) us ds → ∃ ys : List V, Vals ys us ∧ EachIs P ys ds
  | _, _, .nil => ⟨[], .nil, .nil⟩
  | _, _, .cons ⟨v, h1, h2⟩ t => let ⟨ys, h3, h4⟩ := each_back t; ⟨v :: ys, .cons h1 h3, .cons h2 h4⟩
theorem cr_sortT {X : Cx} (hu : X.A.units + 64 < cLine) : CallR X (.builtin "sorted") (rSortT X.K) := by
  intro pins s σ H vs us Q I r h
  obtain ⟨a, xs, ds, P, rfl, hs, hl, hP, hal, hso, hde, q⟩ := h
  obtain ⟨its, rv, hpl, hz⟩ := I.list hs
  obtain ⟨u, rfl, ru⟩ := vals1 r
  obtain rfl : u = Value.ref a := ru
  have hil : its.length = ds.length := by rw [← hl, rv.length]
  have at_ : ∀ (i : Nat) u d, its[i]? = some u → ds[i]? = some d → ∃ v, xs[i]? = some v ∧ RelV v u := fun i u d hi hd => by
    have hx : i < xs.length := by rw [hl]; exact (List.getElem?_eq_some_iff.mp hd).1
    obtain ⟨u', e1, e2⟩ := rv.get (List.getElem?_eq_getElem hx)
    rw [hi] at e1; cases e1
    exact ⟨_, List.getElem?_eq_getElem hx, e2⟩
  refine sorted_data (bs := ds) (enc := toP) (R := fun u d => ∃ v, RelV v u ∧ P v d) hpl.isList (each_ix hil fun i u d hi hd => ?_) (each_ix hil fun i u d hi hd => ?_) hal hso (by rw [← hl]; exact hz) (fun b hb => by have := hde b hb; omega) fun out hlen hout => ?_
  · obtain ⟨v, e1, e2⟩ := at_ i u d hi hd
    exact ⟨v, e2, (hP i v d e1 hd).1⟩
  · obtain ⟨v, e1, e2⟩ := at_ i u d hi hd
    exact Dp.reads I _ v u (hP i v d e1 hd).2 e2
  · obtain ⟨ys, h1, h2⟩ := each_back hout
    obtain ⟨n, hn⟩ := sortedAll_at s.heap its (List.toArray out)
    refine ⟨.ref (s.heap.objs.size + 1), upd H (s.heap.objs.size + 1) (.lst ys), I.laid (t' := s.toks) (fun b o e => sortedAll_old e) (Nat.le_succ _) ⟨?_, out, n, h1, hn⟩, rfl, q ys _ h2 (I.hok.fresh (Nat.le_succ _))⟩
    rw [h1.length, hlen, ← hl]; exact hz
theorem seq_sq {K : PySem.W.Frag} {H : Hp} {S : Sto} {d : D} {v : V} {xs : List D} (r : SRep K H S) (hd : Rep K H S d v) (hs : seqOf d S = some xs) (hn : ∀ ys, d ≠ .tup ys) : ∃ a vs, v = .ref a ∧ SqL K H a vs ∧ Reps K H S xs vs := by
  cases hd with
  | tup h q => exact absurd rfl (hn _)
  | lst h q => cases hs; exact ⟨_, _, rfl, h.sq, q⟩
  | seq h q => cases hs; exact ⟨_, _, rfl, h.sq, q⟩
  | loc a =>
    have hs : (match S a with
      | some (.lst xs) => some xs
      | _ => none) = some xs := hs
    cases e : S a with
    | none => rw [e] at hs; cases hs
    | some o =>
      rw [e] at hs
      cases o with
      | lst ys =>
        cases hs
        obtain ⟨vs, h1, h2⟩ := r a _ e
        exact ⟨a, vs, rfl, SqL.of h1, h2⟩
      | _ => cases hs
  | _ => cases hs
theorem reps_each {K : PySem.W.Frag} {H : Hp} {S : Sto} : ∀ {ys : List V} {ds : List D}, EachIs (fun v d => Rep K H S d v) ys ds → Reps K H S ds ys
  | _, _, .nil => .nil
  | _, _, .cons h t => .cons h (reps_each t)
theorem pures_get : ∀ {ds : List D}, pures ds = true → ∀ d ∈ ds, pure d = true
  | d :: ds, h, e, he => by
    obtain ⟨h1, h2⟩ := Bool.and_eq_true_iff.mp (show (pure d && pures ds) = true from h)
    rcases List.mem_cons.mp he with rfl | he
    · exact h1
    · exact pures_get h2 e he
theorem f_sortT {K : PySem.W.Frag} : F1 K (rSortT K) dSortT := by
  intro ds vs H S R Q r hd h k
  unfold dSortT at h
  obtain ⟨d, xs, rfl, hs, hn, ⟨hp, hal, hso, hde⟩, h⟩ := h
  cases hd with
  | cons hd hnil =>
    cases hnil
    obtain ⟨a, ws, rfl, hq, hx⟩ := seq_sq r hd hs hn
    refine ⟨a, ws, xs, fun v d => Rep K H S d v, rfl, hq, hx.length.symm, fun i v d hv hdi => ?_, hal, hso, hde, fun ys p hy hpn => k.lst r h (reps_each hy) hpn⟩
    obtain ⟨v', e1, e2⟩ := hx.get hdi
    rw [hv] at e1; cases e1
    exact ⟨e2, e2.dp (pures_get hp d (List.mem_of_getElem? hdi))⟩
theorem e_sortT {X : Cx} {e : Expr} {wr : DA} {pos p : Pos} {j : Nat} (hr : Room j X.A) (hm : X.mg "sorted" = none) (ha : A' X [e] wr) (hg : Gl X "sorted" := by rfl) (he : starEach [e] X.env = (false, eval e X.env) :: starEach [] X.env := by rfl) (hpl : (backTo pos (starEach [] X.env)).any (·.1) = false := by rfl) :
    E' X (.Call (.Name "sorted" p) [e] [] pos) (wCall dSortT wr) := e_cb (cr_sortT hr.units) f_sortT hm ha (hg := hg) (he := he)
/-- boxes sort with one another -/
theorem sort_mem {xs : List D} {d : D} : d ∈ sortD xs ↔ d ∈ xs := (List.mergeSort_perm xs _).mem_iff
theorem sort_len {xs : List D} : (sortD xs).length = xs.length := (List.mergeSort_perm xs _).length_eq
end Dd
set_option Elab.async false
set_option linter.all false
set_option maxRecDepth 100000
set_option maxHeartbeats 4000000
/-! More readings: is True, pop, a comprehension that makes a list to be changed, list + list of the store. -/
namespace Dd
open PySem PySem.Spec PyProof.Rows L2
def dIsB (d e : D) (S : Sto) (R : DQ) : Prop := match d, e with
  | .bl a, .bl b => R (.bl (decide (a = b))) S
  | _, _ => False
def dNotB (d e : D) (S : Sto) (R : DQ) : Prop := match d, e with
  | .bl a, .bl b => R (.bl (!decide (a = b))) S
  | _, _ => False
theorem f_isB {K : PySem.W.Frag} : F2 K (fun x y H Q => ∃ a b, x = .bl a ∧ y = .bl b ∧ Q (.bl (decide (a = b))) H) dIsB := by
  intro d e v u H S R Q r hd he h k
  cases d with
  | bl a => cases e with
    | bl b => cases hd; cases he; exact ⟨a, b, rfl, rfl, k.now r h (.bl _)⟩
    | _ => exact h.elim
  | _ => exact h.elim
theorem f_notB {K : PySem.W.Frag} : F2 K (fun x y H Q => ∃ a b, x = .bl a ∧ y = .bl b ∧ Q (.bl (!decide (a = b))) H) dNotB := by
  intro d e v u H S R Q r hd he h k
  cases d with
  | bl a => cases e with
    | bl b => cases hd; cases he; exact ⟨a, b, rfl, rfl, k.now r h (.bl _)⟩
    | _ => exact h.elim
  | _ => exact h.elim
section
variable {X : Cx} {a b : Expr} {wa wb : DE} {pos : Pos}
theorem e_isB (ha : E' X a wa) (hb : E' X b wb) : E' X (.Compare a [.Is] [b] pos) (w2 dIsB wa wb) := e_cmp op_is_bl f_isB ha hb (nomark _)
theorem t_isB (ha : E' X a wa) (hb : E' X b wb) : T' X (.Compare a [.Is] [b] pos) (asB (w2 dIsB wa wb)) := t_cmp op_is_bl f_isB ha hb (nomark _)
theorem e_notB (ha : E' X a wa) (hb : E' X b wb) : E' X (.Compare a [.IsNot] [b] pos) (w2 dNotB wa wb) := e_cmp op_isnot_bl f_notB ha hb (nomark _)
theorem t_notB (ha : E' X a wa) (hb : E' X b wb) : T' X (.Compare a [.IsNot] [b] pos) (asB (w2 dNotB wa wb)) := t_cmp op_isnot_bl f_notB ha hb (nomark _)
end
/-! xs + ys, of lists, what is in the store too -/
def lstOf (d : D) (S : Sto) : Option (List D) := match d with
  | .lst xs => some xs
  | .loc a => match S a with
    | some (.lst xs) => some xs
    | _ => none
  | _ => none
@[irreducible] def dCatL (d e : D) (S : Sto) (R : DQ) : Prop := ∃ xs ys, lstOf d S = some xs ∧ lstOf e S = some ys ∧ xs.length + ys.length ≤ sizeLine ∧ R (.lst (xs ++ ys)) S
theorem dCatL_i {d e : D} {S : Sto} {R : DQ} {xs ys : List D} (h1 : lstOf d S = some xs) (h2 : lstOf e S = some ys) (hz : xs.length + ys.length ≤ sizeLine) (k : R (.lst (xs ++ ys)) S) : dCatL d e S R := by unfold dCatL; exact ⟨xs, ys, h1, h2, hz, k⟩
theorem lstOf_rep {K : PySem.W.Frag} {H : Hp} {S : Sto} {d : D} {v : V} {xs : List D} (r : SRep K H S) (h : Rep K H S d v) (e : lstOf d S = some xs) : ∃ p vs, v = .ref p ∧ H p = some (.lst vs) ∧ Reps K H S xs vs := by
  cases h with
  | lst h q => cases e; exact ⟨_, _, rfl, h.1, q⟩
  | loc a =>
    unfold lstOf at e
    cases ha : S a with
    | none => simp [ha] at e
    | some o =>
      cases o with
      | lst ys =>
        simp [ha] at e; subst e
        obtain ⟨vs, e1, q⟩ := r a _ ha
        exact ⟨_, vs, rfl, e1, q⟩
      | _ => simp [ha] at e
  | _ => cases e
theorem f_catL {K : PySem.W.Frag} : F2 K rCat dCatL := by
  intro d e v u H S R Q r hd he h k
  unfold dCatL at h
  obtain ⟨xs, ys, h1, h2, hz, h⟩ := h
  obtain ⟨p, vs, rfl, e1, q1⟩ := lstOf_rep r hd h1
  obtain ⟨p2, ws, rfl, e2, q2⟩ := lstOf_rep r he h2
  exact ⟨p, p2, vs, ws, rfl, rfl, e1, e2, by rw [← q1.length, ← q2.length]; exact hz, fun t ht => k.lst r h (q1.append q2) ht⟩
theorem e_catL {X : Cx} {a b : Expr} {wa wb : DE} {pos : Pos} (ha : E' X a wa) (hb : E' X b wb) : E' X (.BinOp a .Add b pos) (w2 dCatL wa wb) := e_op op_cat f_catL ha hb
/-! xs.pop() -/
def wPop (wo : DE) : DE := fun env S R => wo env S fun d S1 => ∃ a xs y, d = .loc a ∧ S1 a = some (.lst (xs ++ [y])) ∧ R y (put S1 a (.lst xs))
theorem e_pop {X : Cx} {o : Expr} {wo : DE} {apos cpos : Pos} (ho : E' X o wo) (hbase : attributeBase o "pop" X.env (eval o X.env) = eval o X.env := by rfl) (hline : (apos.endLine == cpos.line) = true := by rfl) :
    E' X (.Call (.Attribute o "pop" apos) [] [] cpos) (wPop wo) := PE.mono (pe_bm0 PySem.F.plainAttrs_list PySem.F.slot_list_pop PySem.F.type_list_pop mt_pop ho hbase hline) fun σ H Q ⟨env, S, R, l, w, q⟩ => by
  refine ⟨env, S, _, l, w, fun d S1 v H1 ⟨a, xs, y, e, ha, h1⟩ r1 g1 d1 => ?_⟩
  subst e
  cases d1
  obtain ⟨ws, e1, q1⟩ := r1 a _ ha
  have hl := q1.length
  rw [List.length_append, List.length_singleton] at hl
  obtain ⟨v, ev, rv⟩ := q1.get (i := xs.length) (d := y) (by simp)
  have qd : Reps X.K H1 S1 xs ws.dropLast := by
    have := q1.take xs.length
    rw [List.take_left' rfl] at this
    rw [List.dropLast_eq_take, show ws.length - 1 = xs.length by omega]
    exact this
  obtain ⟨r2, g2⟩ := wr_lst r1 ha qd
  exact ⟨.inl ⟨rfl, ws, .inl (.inl e1)⟩, a, ws, v, rfl, rfl, e1, by rw [show ws.length - 1 = xs.length by omega]; exact ev, q _ _ _ _ h1 r2 (g1.trans g2) (rv.grow g2)⟩
/-! a comprehension whose list is to be changed -/
def compN (T : Addr) (g : DG) (t : DT) (e : DE) (env : Env) (gd : Sto → Prop) (R : DQ) : List D → List D → Sto → Prop
  | acc, [], S => gd S ∧ S T = some (.lst acc) ∧ R (.loc T) S
  | acc, d :: ds, S => gd S ∧ g d env S fun env1 S1 => t env1 S1 fun b S2 => match b with
    | true => e env1 S2 fun y S3 => S3 T = some (.lst acc) ∧ acc.length < sizeLine ∧ compN T g t e env gd R (acc ++ [y]) ds (put S3 T (.lst (acc ++ [y])))
    | false => S2 T = some (.lst acc) ∧ compN T g t e env gd R acc ds S2
def wLcN (wi : DI) (g : DG) (t : DT) (e : DE) (vs : List Nat) : DE := fun env S R => wi env S fun its gd S1 => ∀ T, S1 T = none → compN T g t e (vs.foldr (fun i e => e.set i none) env) gd R [] its (put S1 T (.lst []))
theorem compN_gd {T : Addr} {g : DG} {t : DT} {e : DE} {env : Env} {gd : Sto → Prop} {R : DQ} {acc ds : List D} {S : Sto} (h : compN T g t e env gd R acc ds S) : gd S := by
  cases ds with
  | nil => exact h.1
  | cons d ds => exact h.1
theorem lift_lcN {K : PySem.W.Frag} {wi : DI} {g : DG} {is : List Nat} {t : DT} {e : DE} {vs : List Nat} (sub : ∀ i ∈ is, i ∈ vs) : ∀ σ H Q, lift K (wLcN wi g t e vs) σ H Q → tLc (liftI K wi) (liftG K is g) (liftT K t) (lift K e) vs σ H Q := by
  intro σ H Q ⟨env, S, R, l, h, q⟩
  refine ⟨env, S, _, l, h, fun its gd S1 J H1 h1 r1 g1 J1 => ?_⟩
  intro T hT
  have hS : S1 T = none := r1.free hT
  have h1 := h1 T hS
  obtain ⟨r2, g2⟩ := new_lst r1 (Reps.nil (K := K)) hT
  refine ⟨fun i m H' => i + m = its.length ∧ ∃ S' acc, Lk K H' S' (vs.foldr (fun i e => e.set i none) env) (wipe σ vs) ∧ Grow H1 S1 H' S' ∧ S' T = some (.lst acc) ∧ compN T g t e (vs.foldr (fun i e => e.set i none) env) gd R acc (its.drop i) S',
    ⟨its.length, by omega, put S1 T (.lst []), [], ((l.grow g1 r1).grow g2 r2).wipe vs, g2, put_same, by rw [List.drop_zero]; exact h1⟩, ?_⟩
  rintro i m H3 ⟨hm, S3, acc, l3, g3, hT3, h3⟩
  have hgd := compN_gd h3
  cases m with
  | zero =>
    have hi : i = its.length := by omega
    subst hi
    rw [List.drop_length] at h3
    obtain ⟨_, h4, h5⟩ := h3
    exact .inl ⟨J1.stop H3 S3 g3 l3.sto hgd, q _ S3 _ H3 h5 l3.sto (g1.trans g3) (.loc T)⟩
  | succ m =>
    have hi : i < its.length := by omega
    have e0 := List.getElem?_eq_getElem hi
    rw [drop_at e0] at h3
    refine .inr ⟨J1.go H3 S3 i _ g3 l3.sto hgd e0, fun H' => ∃ S' acc, Lk K H' S' (vs.foldr (fun i e => e.set i none) env) (wipe σ vs) ∧ Grow H1 S1 H' S' ∧ S' T = some (.lst acc) ∧ compN T g t e (vs.foldr (fun i e => e.set i none) env) gd R acc (its.drop (i + 1)) S',
      fun H' ⟨S', acc', a, b, c, d⟩ => ⟨m, by omega, by omega, S', acc', a, b, c, d⟩, fun x H4 hy => ?_⟩
    obtain ⟨r4, g4, rd⟩ := J1.yld H3 S3 i _ g3 l3.sto hgd e0 x H4 hy
    refine ⟨_, _, S3, _, rd, l3.grow g4 r4, h3.2, fun env5 S5 σ5 H5 h5 g5 l5 sl => ⟨sl.wipe sub, ?_⟩⟩
    refine ⟨env5, S5, _, l5, h5, fun b S6 H6 h6 r6 g6 => ?_⟩
    cases b with
    | true =>
      rw [if_pos rfl]
      refine ⟨env5, S6, _, l5.grow g6 r6, h6, fun y S7 v7 H7 ⟨h7, hz, h8⟩ r7 g7 rd7 => ?_⟩
      obtain ⟨vs', e1, q1⟩ := r7 T _ h7
      refine ⟨vs', e1, by rw [← q1.length]; exact hz, put S7 T (.lst (acc ++ [y])), acc ++ [y], ?_, ?_, put_same, h8⟩
      · obtain ⟨r8, g8⟩ := wr_lst r7 h7 (q1.append (Reps.one rd7))
        exact ((((l3.grow g4 r4).grow g5 l5.sto).grow g6 r6).grow g7 r7).grow g8 r8
      · obtain ⟨r8, g8⟩ := wr_lst r7 h7 (q1.append (Reps.one rd7))
        exact ((((g3.trans g4).trans g5).trans g6).trans g7).trans g8
    | false =>
      rw [if_neg Bool.false_ne_true]
      exact ⟨S6, acc, ((l3.grow g4 r4).grow g5 l5.sto).grow g6 r6, ((g3.trans g4).trans g5).trans g6, h6.1, h6.2⟩
section
variable {X : Cx} {elt tg iter : Expr} {ifs : List Expr} {scope : Scope} {own : List (Str × Nat)} {pos : Pos} {wi : DI} {g : DG} {is : List Nat} {t : DT} {w : DE}
theorem s_setLcN (i : Nat) {y : Str} {py spos : Pos} (own : List (Str × Nat)) (hN : X.N.Nodup) (hi : I' X tg iter wi) (ok : BlkOk X.N X.env.scope scope own)
    (hg : ∀ (s : Shared) (H : Hp) (C : Addr) (cl : List (Str × Addr)) (fp : List Addr), G' (X.blk s H scope (compEnvC scope cl C X.env) fp) tg is g) (ht : ∀ (s : Shared) (H : Hp) (C : Addr) (cl : List (Str × Addr)) (fp : List Addr), Ts' (X.blk s H scope (compEnvC scope cl C X.env) fp) ifs t)
    (he : ∀ (s : Shared) (H : Hp) (C : Addr) (cl : List (Str × Addr)) (fp : List Addr), E' (X.blk s H scope (compEnvC scope cl C X.env) fp) elt w) (hsw : swapsWith (.ListComp elt [⟨tg, iter, ifs, 0⟩] scope pos) (some (.Name y py)) spos.line X.env = Pure.pure true := by exact sw_true rfl rfl rfl (by decide +kernel)) (sub : ∀ i ∈ is, i ∈ own.map (·.2) := by decide)
    (hy : X.N[i]? = some y := by rfl) (hyl : X.env.scope.names.lookup y = some .local := by rfl) (hc : X.calm = true := by rfl) (hs : ∀ x, foldedSetIterable iter X.env x = Pure.pure x := by intro _; rfl) :
    S' X (.Assign [.Name y py] (.ListComp elt [⟨tg, iter, ifs, 0⟩] scope pos) spos) (sAsg (wLcN wi g t w (own.map (·.2))) (gN i)) := PS.mono (ps_setLc (i := i) (own := own) hc hN hy hyl hsw hi ok hg ht he hs) fun E σ H ⟨env, S, F, l, h, k⟩ =>
  lift_lcN sub σ H _ ⟨env, S, _, l, h, fun d S1 v H1 q r g1 rd => k.nx _ _ _ _ q g1 ((l.grow g1 r).set i rd)⟩
end
/-- a filter, its list to be changed -/
theorem lcN_filter {α : Type} {g : DG} {t : DT} {e : DE} {vs : List Nat} {env : Env} {S : Sto} {R : DQ} {gd : Sto → Prop} (xs : List α) (E : α → D) (p : α → Bool) (hz : xs.length ≤ sizeLine) (hg : ∀ S', Ext S S' → gd S')
    (ht : ∀ x ∈ xs, Turn1 g t e (vs.foldr (fun i e => e.set i none) env) S (E x) (if p x = true then some (E x) else none)) (h : ∀ T, S T = none → R (.loc T) (put S T (.lst ((xs.filter p).map E)))) : ∀ T, S T = none → compN T g t e (vs.foldr (fun i e => e.set i none) env) gd R [] (xs.map E) (put S T (.lst [])) := by
  intro T hT
  have key : ∀ (xs : List α) (acc : List D), (∀ x ∈ xs, Turn1 g t e (vs.foldr (fun i e => e.set i none) env) S (E x) (if p x = true then some (E x) else none)) → acc.length + xs.length ≤ sizeLine → R (.loc T) (put S T (.lst (acc ++ (xs.filter p).map E))) →
      compN T g t e (vs.foldr (fun i e => e.set i none) env) gd R acc (xs.map E) (put S T (.lst acc)) := by
    intro xs
    induction xs with
    | nil => intro acc _ _ h; exact ⟨hg _ (Ext.put hT), put_same, by rwa [List.filter_nil, List.map_nil, List.append_nil] at h⟩
    | cons x xs ih =>
      intro acc ht hz h
      refine ⟨hg _ (Ext.put hT), ?_⟩
      rw [List.length_cons] at hz
      refine ht x List.mem_cons_self _ (Ext.put hT) (fun y S3 => S3 T = some (.lst acc) ∧ acc.length < sizeLine ∧ compN T g t e _ gd R (acc ++ [y]) (xs.map E) (put S3 T (.lst (acc ++ [y])))) (fun S2 => S2 T = some (.lst acc) ∧ compN T g t e _ gd R acc (xs.map E) S2) ?_
      rw [List.filter_cons] at h
      cases q : p x with
      | true =>
        rw [if_pos rfl]
        rw [q, if_pos rfl] at h
        refine ⟨put_same, by omega, ?_⟩
        rw [put_put]
        exact ih (acc ++ [E x]) (fun d hd => ht d (List.mem_cons_of_mem _ hd)) (by rw [List.length_append, List.length_singleton]; omega) (by rw [List.append_assoc]; exact h)
      | false =>
        rw [if_neg Bool.false_ne_true]
        rw [q, if_neg Bool.false_ne_true] at h
        exact ⟨put_same, ih acc (fun d hd => ht d (List.mem_cons_of_mem _ hd)) (by omega) h⟩
  exact key xs [] ht (by simpa using hz) (h T hT)
end Dd
set_option Elab.async false
set_option linter.all false
set_option maxRecDepth 100000
set_option maxHeartbeats 1000000
/-! zip of a list and a tuple. What a side of a zip must do is told once (Src); a zip of two such sides follows. -/
namespace Dd
open PySem PySem.Spec PyProof.Rows L2
open PySem.Sem (wp)
/-- the iterator at it gives the items of xs, one behind another; they lie at l -/
structure Src (P : Program) (w : World) (it l : Addr) (xs : Array Value) (St : Nat → Heap → Prop) : Prop where
  at_ : ∀ {k h h'}, St k h → (∀ o, h.get? it = some o → h'.get? it = some o) → (∀ o, h.get? l = some o → h'.get? l = some o) → St k h'
  item : ∀ {k : Nat} {x : Value} {A : Around} {E : Value → Shared → Prop} {s : Shared} {Q : Value → Shared → Prop}, St k s.heap → xs[k]? = some x → (∀ h', St (k + 1) h' → Heap.SameBut it s.heap h' → Q x { s with heap := h' }) → wpAny (model P w) A (Builtin.SmallTypes.nextOf (.ref it)) Q E s
  done : ∀ {k : Nat} {A : Around} {E : Value → Shared → Prop} {s : Shared} {Q : Value → Shared → Prop}, A.handled = none → St k s.heap → xs[k]? = none → (∀ h' e, Heap.ExtBut it s.heap h' → (∃ o, h'.get? e = some o ∧ o.cls = .type "StopIteration") → E (.ref e) { s with heap := h' }) → wpAny (model P w) A (Builtin.SmallTypes.nextOf (.ref it)) Q E s
theorem src_lst {P : Program} {w : World} {it l : Addr} {xs : Array Value} (n : l ≠ it) : Src P w it l xs fun k h => h.IsListIter it l k ∧ h.IsList l xs where
  at_ := fun st k1 k2 => ⟨st.1.at k1, st.2.at k2⟩
  item := fun st hx q => wpAny_nextOf_list_item st.1 st.2 hx fun h' a b => q h' ⟨a, st.2.extBut b.extBut n⟩ b
  done := fun hh st hx q => wpAny_nextOf_list_end hh st.1 st.2 hx q
theorem src_tup {P : Program} {w : World} {it l : Addr} {xs : Array Value} (n : l ≠ it) : Src P w it l xs fun k h => h.IsTupleIter it l k ∧ h.IsTuple l xs where
  at_ := fun st k1 k2 => ⟨st.1.at k1, st.2.at k2⟩
  item := fun st hx q => RZ.nextOf_tuple_item st.1 st.2 hx fun h' a b => q h' ⟨a, st.2.extBut b.extBut n⟩ b
  done := fun hh st hx q => RZ.nextOf_tuple_end hh st.1 st.2 hx q
section
variable {P : Program} {w : World} {A : Around} {E : Value → Shared → Prop} {s : Shared} {z TI TO i1 i2 l1 l2 : Addr} {k1 k2 : Nat} {xs ys : Array Value} {x y a b : Value} {St1 St2 : Nat → Heap → Prop}
/-- a side stays as it is while others are written -/
theorem Src.by {it l c : Addr} {k : Nat} {h h' : Heap} (q : Src P w it l xs St1) (st : St1 k h) (e : Heap.ExtBut c h h') (n1 : it ≠ c) (n2 : l ≠ c) : St1 k h' := q.at_ st (fun o => e _ o n1) (fun o => e _ o n2)
/-- the steps of both sides, the pair written -/
theorem zipS_item {Q : Value → Shared → Prop} (q1 : Src P w i1 l1 xs St1) (q2 : Src P w i2 l2 ys St2) (D : ZipApart z TI TO i1 i2 l1 l2)
    (hz : IsZip s.heap z TI TO .none) (hTI : IsPair s.heap TI (.ref i1) (.ref i2)) (hTO : IsPair s.heap TO a b) (h1 : St1 k1 s.heap) (h2 : St2 k2 s.heap) (hx : xs[k1]? = some x) (hy : ys[k2]? = some y)
    (hQ : ∀ h', IsZip h' z TI TO (rawInt s.heap.objs.size) → IsPair h' TO x y → St1 (k1 + 1) h' → St2 (k2 + 1) h' → IsPair h' s.heap.objs.size x y → h'.objs.size = s.heap.objs.size + 1 →
      (∀ c o, c ≠ z → c ≠ TO → c ≠ i1 → c ≠ i2 → s.heap.get? c = some o → h'.get? c = some o) → Q (.ref s.heap.objs.size) { s with heap := h' }) :
    wpAny (model P w) A (Builtin.«zip.__next__» ⟨[.ref z], []⟩) (fun fin s' => ∃ v, fin = .done (.ret v) ∧ Q v s') E s := by
  show wpAny _ _ (field (.ref z) 2 >>= _) _ _ _
  refine wpAny_bind (wpAny_field hz rfl (x := .bool false) rfl ?_)
  show wpAny _ _ (field (.ref z) 3 >>= _) _ _ _
  refine wpAny_bind (wpAny_field hz rfl (x := .ref TI) rfl (wpAny_bind (wpAny_seqItems hTI rfl ?_)))
  show wpAny _ _ (Builtin.SmallTypes.ownedTupleIsFree (.ref z) >>= _) _ _ _
  refine wpAny_bind ?_
  unfold Builtin.SmallTypes.ownedTupleIsFree
  refine wpAny_bind (wpAny_field hz rfl (x := .none) rfl (wpAny_pure ?_))
  simp only [if_true]
  refine wpAny_bind (wpAny_rule (wpAny_bind (wpAny_field hz rfl (x := .ref TO) rfl (wpAny_bind (wpAny_setField_rec hz (by simp) fun g1 z1 s1 => ?_)))))
  replace z1 : IsZip g1 z TI TO .ellipsis := z1
  refine wpAny_bind ?_
  simp only [List.zipIdx_cons, List.zipIdx_nil, List.forIn_cons, List.forIn_nil]
  refine wpAny_bind (wpAny_bind (wpAny_onRaise ?_))
  show wpAny _ _ (Builtin.SmallTypes.nextOf (.ref i1) >>= _) _ _ _
  refine wpAny_bind (q1.item (q1.by h1 s1.extBut D.i1z D.l1z) hx fun g2 t2 s2 => wpAny_pure ?_)
  have p2 : IsPair g2 TO a b := s2.extBut _ _ D.TOi1 (s1.extBut _ _ D.TOz hTO)
  refine wpAny_bind (wpAny_seqItems p2 rfl (wpAny_bind (wpAny_updateSeq_pair p2 fun g3 p3 s3 => ?_)))
  replace p3 : IsPair g3 TO x b := p3
  refine wpAny_bind (wpAny_letGo (wpAny_pure (wpAny_bind (wpAny_bind (wpAny_onRaise ?_)))))
  show wpAny _ _ (Builtin.SmallTypes.nextOf (.ref i2) >>= _) _ _ _
  refine wpAny_bind (q2.item (q2.by (q2.by (q2.by h2 s1.extBut D.i2z D.l2z) s2.extBut D.i12.symm D.l2i1) s3.extBut D.TOi2.symm D.l2TO) hy fun g4 t4 s4 => wpAny_pure ?_)
  have p4 : IsPair g4 TO x b := s4.extBut _ _ D.TOi2 p3
  refine wpAny_bind (wpAny_seqItems p4 rfl (wpAny_bind (wpAny_updateSeq_pair p4 fun g5 p5 s5 => ?_)))
  replace p5 : IsPair g5 TO x y := p5
  refine wpAny_bind (wpAny_letGo (wpAny_pure (wpAny_pure (wpAny_bind (wpAny_seqItems p5 rfl (wpAny_bind (wpAny_newTuple ?_)))))))
  have hsz : g5.objs.size = s.heap.objs.size := by rw [s5.1, s4.1, s3.1, s2.1, s1.1]
  have z5 : IsZip g5 z TI TO .ellipsis := s5.extBut _ _ D.TOz.symm (s4.extBut _ _ D.i2z.symm (s3.extBut _ _ D.TOz.symm (s2.extBut _ _ D.i1z.symm z1)))
  have kp : ∀ c o, c ≠ z → c ≠ TO → c ≠ i1 → c ≠ i2 → s.heap.get? c = some o → g5.get? c = some o := fun c o c1 c2 c3 c4 e =>
    s5.extBut _ _ c2 (s4.extBut _ _ c4 (s3.extBut _ _ c2 (s2.extBut _ _ c3 (s1.extBut _ _ c1 e))))
  have u1 : St1 (k1 + 1) g5 := q1.by (q1.by (q1.by t2 s3.extBut D.TOi1.symm D.l1TO) s4.extBut D.i12 D.l1i2) s5.extBut D.TOi1.symm D.l1TO
  have u2 : St2 (k2 + 1) g5 := q2.by t4 s5.extBut D.TOi2.symm D.l2TO
  have zl : z < g5.objs.size := Heap.lt_size z5
  show wpAny _ _ (Builtin.SmallTypes.ownedTupleHandOut (.ref z) (.ref g5.objs.size) >>= _) _ _ _
  refine wpAny_bind ?_
  unfold Builtin.SmallTypes.ownedTupleHandOut
  have z6 : IsZip (g5.push { cls := .type "tuple", data := .seq #[x, y] }) z TI TO .ellipsis := Heap.get?_push_of_some _ z5
  refine wpAny_bind (wpAny_setField_rec z6 (by simp) fun g7 z7 s7 => ?_)
  replace z7 : IsZip g7 z TI TO (rawInt g5.objs.size) := z7
  refine wpAny_setField_rec z7 (by simp) fun g8 z8 s8 => ?_
  replace z8 : IsZip g8 z TI TO (rawInt g5.objs.size) := z8
  have up : ∀ c o, c ≠ z → g5.get? c = some o → g8.get? c = some o := fun c o c1 e => s8.extBut _ _ c1 (s7.extBut _ _ c1 (Heap.get?_push_of_some _ e))
  have pT : IsPair g8 g5.objs.size x y := s8.extBut _ _ (Nat.ne_of_gt zl) (s7.extBut _ _ (Nat.ne_of_gt zl) (Heap.get?_push_size _ rfl))
  have n8 : g8.objs.size = g5.objs.size + 1 := by rw [s8.1, s7.1, Heap.size_push]
  rw [hsz] at z8 pT n8
  refine wpAny_pure ⟨_, rfl, ?_⟩
  show Q (.ref g5.objs.size) _
  rw [hsz]
  exact hQ g8 z8 (up _ _ D.TOz p5) (q1.at_ u1 (fun o => up _ o D.i1z) fun o => up _ o D.l1z) (q2.at_ u2 (fun o => up _ o D.i2z) fun o => up _ o D.l2z) pT n8 fun c o c1 c2 c3 c4 e => up c o c1 (kp c o c1 c2 c3 c4 e)
/-- one side is at its end -/
theorem zipS_done {Q : PySem.Fin → Shared → Prop} (q1 : Src P w i1 l1 xs St1) (q2 : Src P w i2 l2 ys St2) (hh : A.handled = none) (D : ZipApart z TI TO i1 i2 l1 l2)
    (hz : IsZip s.heap z TI TO .none) (hTI : IsPair s.heap TI (.ref i1) (.ref i2)) (hTO : IsPair s.heap TO a b) (h1 : St1 k1 s.heap) (h2 : St2 k2 s.heap) (hend : xs[k1]? = none ∨ ys[k2]? = none)
    (hE : ∀ h' e, (∀ c o, c ≠ z → c ≠ TO → c ≠ i1 → c ≠ i2 → s.heap.get? c = some o → h'.get? c = some o) → (∃ o, h'.get? e = some o ∧ o.cls = .type "StopIteration") → E (.ref e) { s with heap := h' }) :
    wpAny (model P w) A (Builtin.«zip.__next__» ⟨[.ref z], []⟩) Q E s := by
  show wpAny _ _ (field (.ref z) 2 >>= _) _ _ _
  refine wpAny_bind (wpAny_field hz rfl (x := .bool false) rfl ?_)
  show wpAny _ _ (field (.ref z) 3 >>= _) _ _ _
  refine wpAny_bind (wpAny_field hz rfl (x := .ref TI) rfl (wpAny_bind (wpAny_seqItems hTI rfl ?_)))
  show wpAny _ _ (Builtin.SmallTypes.ownedTupleIsFree (.ref z) >>= _) _ _ _
  refine wpAny_bind ?_
  unfold Builtin.SmallTypes.ownedTupleIsFree
  refine wpAny_bind (wpAny_field hz rfl (x := .none) rfl (wpAny_pure ?_))
  simp only [if_true]
  refine wpAny_bind (wpAny_rule (wpAny_bind (wpAny_field hz rfl (x := .ref TO) rfl (wpAny_bind (wpAny_setField_rec hz (by simp) fun g1 z1 s1 => ?_)))))
  replace z1 : IsZip g1 z TI TO .ellipsis := z1
  refine wpAny_bind ?_
  simp only [List.zipIdx_cons, List.zipIdx_nil, List.forIn_cons, List.forIn_nil]
  refine wpAny_bind (wpAny_bind (wpAny_onRaise ?_))
  show wpAny _ _ (Builtin.SmallTypes.nextOf (.ref i1) >>= _) _ _ _
  cases hx : xs[k1]? with
  | none =>
    refine wpAny_bind (q1.done hh (q1.by h1 s1.extBut D.i1z D.l1z) hx fun g2 e s2 he => ?_)
    obtain ⟨oe, hoe, hce⟩ := he
    have z2 : IsZip g2 z TI TO .ellipsis := s2 _ _ D.i1z.symm z1
    have ez : e ≠ z := fun q => by subst q; rw [z2] at hoe; cases hoe; simp at hce
    exact wpAny_setField_rec z2 (by simp) fun g3 _ s3 => hE g3 e (fun c o c1 _ c3 _ q => s3.extBut _ _ c1 (s2 _ _ c3 (s1.extBut _ _ c1 q))) ⟨oe, s3.extBut _ _ ez hoe, hce⟩
  | some x =>
    have hy : ys[k2]? = none := by rcases hend with h | h; rw [hx] at h; cases h; exact h
    refine wpAny_bind (q1.item (q1.by h1 s1.extBut D.i1z D.l1z) hx fun g2 t2 s2 => wpAny_pure ?_)
    have p2 : IsPair g2 TO a b := s2.extBut _ _ D.TOi1 (s1.extBut _ _ D.TOz hTO)
    refine wpAny_bind (wpAny_seqItems p2 rfl (wpAny_bind (wpAny_updateSeq_pair p2 fun g3 p3 s3 => ?_)))
    refine wpAny_bind (wpAny_letGo (wpAny_pure (wpAny_bind (wpAny_bind (wpAny_onRaise ?_)))))
    show wpAny _ _ (Builtin.SmallTypes.nextOf (.ref i2) >>= _) _ _ _
    refine wpAny_bind (q2.done hh (q2.by (q2.by (q2.by h2 s1.extBut D.i2z D.l2z) s2.extBut D.i12.symm D.l2i1) s3.extBut D.TOi2.symm D.l2TO) hy fun g4 e s4 he => ?_)
    obtain ⟨oe, hoe, hce⟩ := he
    have z4 : IsZip g4 z TI TO .ellipsis := s4 _ _ D.i2z.symm (s3.extBut _ _ D.TOz.symm (s2.extBut _ _ D.i1z.symm z1))
    have ez : e ≠ z := fun q => by subst q; rw [z4] at hoe; cases hoe; simp at hce
    exact wpAny_setField_rec z4 (by simp) fun g5 _ s5 => hE g5 e (fun c o c1 c2 c3 c4 q => s5.extBut _ _ c1 (s4 _ _ c4 (s3.extBut _ _ c2 (s2.extBut _ _ c3 (s1.extBut _ _ c1 q))))) ⟨oe, s5.extBut _ _ ez hoe, hce⟩
theorem next_zipS {Q : Option Value → Shared → Prop} (q1 : Src P w i1 l1 xs St1) (q2 : Src P w i2 l2 ys St2) (D : ZipApart z TI TO i1 i2 l1 l2)
    (hz : IsZip s.heap z TI TO .none) (hTI : IsPair s.heap TI (.ref i1) (.ref i2)) (hTO : IsPair s.heap TO a b) (h1 : St1 k1 s.heap) (h2 : St2 k2 s.heap) (hx : xs[k1]? = some x) (hy : ys[k2]? = some y)
    (hQ : ∀ h', IsZip h' z TI TO (rawInt s.heap.objs.size) → IsPair h' TO x y → St1 (k1 + 1) h' → St2 (k2 + 1) h' → IsPair h' s.heap.objs.size x y → h'.objs.size = s.heap.objs.size + 1 →
      (∀ c o, c ≠ z → c ≠ TO → c ≠ i1 → c ≠ i2 → s.heap.get? c = some o → h'.get? c = some o) → Q (some (.ref s.heap.objs.size)) { s with heap := h' }) : wpAny (model P w) A (pyNext (.ref z)) Q E s := by
  have hT : s.TypeIs (.ref z) "zip" := ⟨_, hz, rfl⟩
  unfold pyNext
  exact wpAny_bind (wpAny_attempt (wpAny_callSpecial?_slot (name := Str.ofString "__next__") hT F.slot_zip_next (wpAny_call_entry F.slot_zip_next hT F.entry_zip_next
    (zipS_item q1 q2 D hz hTI hTO h1 h2 hx hy fun h' a1 a2 a3 a4 a5 a6 a7 => wpAny_pure (hQ h' a1 a2 a3 a4 a5 a6 a7)) (F.args_zip_next_1 _))))
theorem next_zipS_end {Q : Option Value → Shared → Prop} (q1 : Src P w i1 l1 xs St1) (q2 : Src P w i2 l2 ys St2) (hh : A.handled = none) (D : ZipApart z TI TO i1 i2 l1 l2)
    (hz : IsZip s.heap z TI TO .none) (hTI : IsPair s.heap TI (.ref i1) (.ref i2)) (hTO : IsPair s.heap TO a b) (h1 : St1 k1 s.heap) (h2 : St2 k2 s.heap) (hend : xs[k1]? = none ∨ ys[k2]? = none)
    (hQ : ∀ h', (∀ c o, c ≠ z → c ≠ TO → c ≠ i1 → c ≠ i2 → s.heap.get? c = some o → h'.get? c = some o) → Q none { s with heap := h' }) : wpAny (model P w) A (pyNext (.ref z)) Q E s := by
  have hT : s.TypeIs (.ref z) "zip" := ⟨_, hz, rfl⟩
  unfold pyNext
  refine wpAny_bind (wpAny_attempt (wpAny_callSpecial?_slot (name := Str.ofString "__next__") hT F.slot_zip_next (wpAny_call_entry F.slot_zip_next hT F.entry_zip_next
    (zipS_done q1 q2 hh D hz hTI hTO h1 h2 hend fun h' e hk he => ?_) (F.args_zip_next_1 _))))
  obtain ⟨o, ho, hc⟩ := he
  exact wpAny_bind (wpAny_isInstance (T := "StopIteration") (b := true) ⟨o, ho, hc⟩ isSubtype_stop (wpAny_pure (hQ _ hk)))
end
/-! the zip made -/
abbrev zm1 (h : Heap) (l1 : Addr) : Heap := h.push { cls := .type "list_iterator", data := .fields #[.ref l1, .int 0 0] }
abbrev zm2 (h : Heap) (l1 l2 : Addr) : Heap := (zm1 h l1).push { cls := .type "tuple_iterator", data := .fields #[.ref l2, .int 0 0] }
abbrev zm3 (h : Heap) (l1 l2 : Addr) : Heap := (zm2 h l1 l2).push { cls := .type "tuple", data := .seq #[.ref h.objs.size, .ref (zm1 h l1).objs.size] }
abbrev zm4 (h : Heap) (l1 l2 : Addr) : Heap := (zm3 h l1 l2).push { cls := .type "tuple", data := .seq #[.none, .none] }
abbrev zm5 (h : Heap) (l1 l2 : Addr) : Heap := (zm4 h l1 l2).push { cls := .type "zip", data := .fields #[.none, .bool false, .bool false, .ref (zm2 h l1 l2).objs.size, .ref (zm3 h l1 l2).objs.size] }
theorem new_zipM (l1 l2 : Addr) (xs ys : Array Value) :
    Meets (Builtin.«zip.__new__» ⟨[.type "zip", .ref l1, .ref l2], []⟩) (fun _ R s => s.heap.IsList l1 xs ∧ s.heap.IsTuple l2 ys ∧ R (.ok (.ret (.ref (zm4 s.heap l1 l2).objs.size))) { s with heap := zm5 s.heap l1 l2 }) :=
  .of_wp fun prog w A R s h => by
    obtain ⟨hp, g, d, tk, os⟩ := s; obtain ⟨hl1, hl2, h⟩ := h
    have hsub := sub_zip
    have hL1 : Heap.IsList (Shared.heap ⟨hp, g, d, tk, os⟩) l1 xs := hl1
    have hL2 : Heap.IsTuple (Shared.heap ⟨hp.push { cls := .type "list_iterator", data := .fields #[.ref l1, .int 0 0] }, g, d, tk, os⟩) l2 ys := Heap.IsTuple.push hl2 _
    wp_walk using wpAny_pyIter_list hL1, wpAny_pyIter_tuple hL2
    exact ⟨_, rfl, h⟩
theorem call_zipM {prog : Program} {w : World} {A : Around} {E : Value → Shared → Prop} {s : Shared} {l1 l2 : Addr} {xs ys : Array Value} {Q : Value → Shared → Prop} (hl1 : s.heap.IsList l1 xs) (hl2 : s.heap.IsTuple l2 ys)
    (h : ∀ h', IsZip h' (s.heap.objs.size + 4) (s.heap.objs.size + 2) (s.heap.objs.size + 3) .none → IsPair h' (s.heap.objs.size + 2) (.ref s.heap.objs.size) (.ref (s.heap.objs.size + 1)) →
      IsPair h' (s.heap.objs.size + 3) .none .none → h'.IsListIter s.heap.objs.size l1 0 → h'.IsTupleIter (s.heap.objs.size + 1) l2 0 → (∀ c o, s.heap.get? c = some o → h'.get? c = some o) → Q (.ref (s.heap.objs.size + 4)) { s with heap := h' }) :
    wpAny (model prog w) A (call (.type "zip") [.ref l1, .ref l2]) Q E s := by
  refine callType_new F.called_zip (by decide) (F.typeCall_zip_2 _ _) (F.newCall_zip_2 _ _) (fun obj => F.args_object_init_3 obj _ _) F.entry_zip_new (new_zipM l1 l2 xs ys) ⟨hl1, hl2, ?_⟩
  have n1 : (zm1 s.heap l1).objs.size = s.heap.objs.size + 1 := Heap.size_push ..
  have n2 : (zm2 s.heap l1 l2).objs.size = s.heap.objs.size + 2 := by rw [Heap.size_push, n1]
  have n3 : (zm3 s.heap l1 l2).objs.size = s.heap.objs.size + 3 := by rw [Heap.size_push, n2]
  have n4 : (zm4 s.heap l1 l2).objs.size = s.heap.objs.size + 4 := by rw [Heap.size_push, n3]
  have up : ∀ {h : Heap} {c : Addr} {o : Obj} {o' : Obj}, h.get? c = some o → (h.push o').get? c = some o := fun e => Heap.get?_push_of_some _ e
  have g5 : (zm5 s.heap l1 l2).get? (zm4 s.heap l1 l2).objs.size = some _ := Heap.get?_push_size _ rfl
  have g4 : (zm5 s.heap l1 l2).get? (zm3 s.heap l1 l2).objs.size = some _ := up (Heap.get?_push_size _ rfl)
  have g3 : (zm5 s.heap l1 l2).get? (zm2 s.heap l1 l2).objs.size = some _ := up (up (Heap.get?_push_size _ rfl))
  have g2 : (zm5 s.heap l1 l2).get? (zm1 s.heap l1).objs.size = some _ := up (up (up (Heap.get?_push_size _ rfl)))
  have g1 : (zm5 s.heap l1 l2).get? s.heap.objs.size = some _ := up (up (up (up (Heap.get?_push_size _ rfl))))
  show _ ∧ _
  rw [n2, n3, n4] at g5
  rw [n1, n2] at g3
  rw [n3] at g4
  rw [n1] at g2
  rw [n4]
  exact ⟨⟨_, g5, rfl⟩, h _ g5 g3 g4 ⟨_, g1, rfl, rfl⟩ ⟨_, g2, rfl, rfl⟩ fun c o x => up (up (up (up (up x))))⟩
/-- the list at a and the tuple at b as they stand at each turn, the items in new pairs -/
def ItzM (K : PySem.W.Frag) (a b : Addr) : It :=
  ⟨fun i H => ∃ (xs ys : List V) (x y : V), SqL K H a xs ∧ SqT K H b ys ∧ xs[i]? = some x ∧ ys[i]? = some y,
    fun i H v H' => ∃ T x y, v = .ref T ∧ H T = none ∧ H' = upd H T (.tup [x, y]) ∧ (∀ xs, SqL K H a xs → xs[i]? = some x) ∧ ∀ ys, SqT K H b ys → ys[i]? = some y,
    fun i H => ∃ xs ys : List V, SqL K H a xs ∧ SqT K H b ys ∧ (xs.length ≤ i ∨ ys.length ≤ i)⟩
theorem turn_zipM {P : Program} {w : World} {K : PySem.W.Frag} {elts : List Expr} {kk : Nat} {tpos : Pos} {a b z TI TO i1 i2 : Addr} (D : ZipApart z TI TO i1 i2 a b) :
    Turn P w K (.Tuple elts kk tpos) (ItzM K a b) [z, TI, TO, i1, i2] z (fun i h => IsZip h z TI TO .none ∧ IsPair h TI (.ref i1) (.ref i2) ∧ (∃ x y, IsPair h TO x y) ∧ h.IsListIter i1 a i ∧ h.IsTupleIter i2 b i) where
  mem := by simp
  obj := fun i h ⟨hz, hTI, ⟨x, y, hTO⟩, ⟨o1, e1, _, d1⟩, ⟨o2, e2, _, d2⟩⟩ c hc => by
    have e' : c = z ∨ c = TI ∨ c = TO ∨ c = i1 ∨ c = i2 := by simpa using hc
    rcases e' with rfl | rfl | rfl | rfl | rfl
    · exact ⟨_, hz, fun v q => nomatch q⟩
    · exact ⟨_, hTI, fun v q => nomatch q⟩
    · exact ⟨_, hTO, fun v q => nomatch q⟩
    · exact ⟨o1, e1, fun v q => by rw [d1] at q; cases q⟩
    · exact ⟨o2, e2, fun v q => by rw [d2] at q; cases q⟩
  keep := fun i h h' ⟨hz, hTI, ⟨x, y, hTO⟩, h1, h2⟩ k =>
    ⟨k z (by simp) _ hz, k TI (by simp) _ hTI, ⟨x, y, k TO (by simp) _ hTO⟩, h1.at fun o q => k i1 (by simp) o q, h2.at fun o q => k i2 (by simp) o q⟩
  item := by
    intro X hP hw hK hc i pins s σ H E I hf st hg
    subst hP hw hK
    obtain ⟨hz, hTI, ⟨x0, y0, hTO⟩, h1, h2⟩ := st
    obtain ⟨xs, ys, x, y, hqx, hqy, hx, hy⟩ := hg
    obtain ⟨its, rv, p, _⟩ := I.list hqx
    obtain ⟨its2, rv2, p2, _⟩ := I.tuple hqy
    obtain ⟨u, hu, ru⟩ := rv.get hx
    obtain ⟨u2, hu2, ru2⟩ := rv2.get hy
    have zl : z < s.heap.objs.size := Heap.lt_size hz
    refine next_zipS (src_lst D.l1i1) (src_tup D.l2i2) D hz hTI hTO ⟨h1, p.isList⟩ ⟨h2, p2⟩ (x := u) (y := u2) (by simpa using hu) (by simpa using hu2) fun h' z' TO' t1 t2 hT hsz hk => ?_
    refine ⟨_, rfl, wpAny_letOwnedTupleGo_zip (s := { s with heap := h' }) z' fun h'' z'' sb => ?_⟩
    have nz : s.heap.objs.size ≠ z := Nat.ne_of_gt zl
    have new : ObjOk X.prog X.w (upd H s.heap.objs.size (.tup [x, y])) h'' s.heap.objs.size (.tup [x, y]) := ⟨by show 2 ≤ sizeLine; decide, [u, u2], .cons ru (.cons ru2 .nil), ⟨_, (sb.2 _ nz).trans hT, rfl, _, rfl⟩⟩
    have I1 : Inv X pins σ (upd H s.heap.objs.size (.tup [x, y])) { s with heap := h'' } :=
      I.turnedNew (t' := s.toks) (ch := [z, TI, TO, i1, i2]) (fun c o hb q => (sb.2 c (fun q' => hb (by simp [q']))).trans (hk c o (fun q' => hb (by simp [q'])) (fun q' => hb (by simp [q'])) (fun q' => hb (by simp [q'])) (fun q' => hb (by simp [q'])) q)) hf (Nat.le_refl _) new
    refine ⟨.ref s.heap.objs.size, _, I1, rfl, ⟨_, x, y, rfl, I.hok.fresh (Nat.le_refl _), rfl, fun l hl => by rw [I.list_inj hl hqx]; exact hx, fun l hl => by rw [I.tuple_inj hl hqy]; exact hy⟩, ⟨z'', (sb.2 _ D.TIz).trans (hk _ _ D.TIz D.TITO D.TIi1 D.TIi2 hTI), ⟨u, u2, (sb.2 _ D.TOz).trans TO'⟩, t1.1.at fun o q => (sb.2 _ D.i1z).trans q, t2.1.at fun o q => (sb.2 _ D.i2z).trans q⟩, fun c hcm => ?_⟩
    have hlt : c < s.heap.objs.size := by
      have e' : c = z ∨ c = TI ∨ c = TO ∨ c = i1 ∨ c = i2 := by simpa using hcm
      rcases e' with rfl | rfl | rfl | rfl | rfl
      · exact zl
      · exact Heap.lt_size hTI
      · exact Heap.lt_size hTO
      · exact Heap.lt_size h1.choose_spec.1
      · exact Heap.lt_size h2.choose_spec.1
    rw [upd_ne (Nat.ne_of_lt hlt)]
    exact (hf c hcm).1
  done := by
    intro X hP hw hK hc i pins s σ H E I hf st hg
    subst hP hw hK
    obtain ⟨hz, hTI, ⟨x0, y0, hTO⟩, h1, h2⟩ := st
    obtain ⟨xs, ys, hqx, hqy, hend⟩ := hg
    obtain ⟨its, rv, p, _⟩ := I.list hqx
    obtain ⟨its2, rv2, p2, _⟩ := I.tuple hqy
    have e1 := rv.length
    have e2 := rv2.length
    have he : its.toArray[i]? = none ∨ its2.toArray[i]? = none := by
      rcases hend with q | q
      · exact .inl (by simp; omega)
      · exact .inr (by simp; omega)
    exact next_zipS_end (src_lst D.l1i1) (src_tup D.l2i2) (I.ok.hd hc) D hz hTI hTO ⟨h1, p.isList⟩ ⟨h2, p2⟩ he fun h' hk => ⟨rfl, I.turnedL (t' := s.toks) (ch := [z, TI, TO, i1, i2]) (fun c o hb q =>
      hk c o (fun q' => hb (by simp [q'])) (fun q' => hb (by simp [q'])) (fun q' => hb (by simp [q'])) (fun q' => hb (by simp [q'])) q) hf⟩
  self := fun A i s Q E st h => wpAny_pyIter_zip st.1 h
def tZipM (K : PySem.W.Frag) (ta : TA) : TI := fun σ H R => ta σ H fun vs H1 => ∃ a b xs ys, vs = [.ref a, .ref b] ∧ SqL K H1 a xs ∧ SqT K H1 b ys ∧ R (ItzM K a b) H1
theorem pi_zipM {X : Cx} {e e2 : Expr} {ta : TA} {p pos tpos : Pos} {elts : List Expr} {kk : Nat} (hg : Gl X "zip") (hm : X.mg "zip" = none) (ha : PA X [e, e2] ta)
    (hs : starEach [e, e2] X.env = (false, eval e X.env) :: starEach [e2] X.env := by rfl) (hpl : (backTo pos (starEach [e2] X.env)).any (·.1) = false := by rfl) :
    PI X (.Tuple elts kk tpos) (.Call (.Name "zip" p) [e, e2] [] pos) (tZipM X.K ta) := by
  refine ⟨fun pins s σ H R I h => ?_⟩
  refine Call_ (ld_blt I hg hm PyProof.Rows.boot_zip (PyProof.Rows.callWith_type1 (thn (ha.run pos pins s σ H _ I h) fun us s1 ⟨vs, H1, I1, r1, q1⟩ => ?_) hs hpl))
  obtain ⟨a, b, xs, ys, rfl, hqx, hqy, q⟩ := q1
  cases r1 with
  | cons r rr =>
    cases rr with
    | cons r' rr =>
      cases rr
      cases r
      cases r'
      obtain ⟨its, rv, p1, _⟩ := I1.list hqx
      obtain ⟨its2, rv2, p2, _⟩ := I1.tuple hqy
      obtain ⟨o2, ho2, _⟩ := id p2
      refine call_zipM p1.isList (show s1.heap.IsTuple b its2.toArray from p2) fun h' hz hTI hTO h1 h2 hk => wpAny_pyIter_zip hz ?_
      have I2 : Inv X pins σ H1 { s1 with heap := h' } := I1.kept (t' := s1.toks) hk
      refine ⟨s1.heap.objs.size + 4, [s1.heap.objs.size + 4, s1.heap.objs.size + 2, s1.heap.objs.size + 3, s1.heap.objs.size, s1.heap.objs.size + 1], _, _, H1, rfl, I2, turn_zipM (PySem.W.ktu_apart s1.heap.objs.size a b p1.lt (Heap.lt_size ho2)), ⟨hz, hTI, ⟨_, _, hTO⟩, h1, h2⟩, fun c hcm => ?_, q⟩
      have hle : s1.heap.objs.size ≤ c := by
        have e' : c = s1.heap.objs.size + 4 ∨ c = s1.heap.objs.size + 2 ∨ c = s1.heap.objs.size + 3 ∨ c = s1.heap.objs.size ∨ c = s1.heap.objs.size + 1 := by simpa using hcm
        rcases e' with q | q | q | q | q <;> rw [q] <;> first | exact Nat.le_add_right _ _ | exact Nat.le_refl _
      exact I1.fpOk hle (I1.hok.fresh hle)
/-! as it is read -/
def iZipM (wa : DA) : DI := fun env S R => wa env S fun ds S1 => match ds with
  | [.lst xs, .tup ys] => R (zipD xs ys) (fun _ => True) S1
  | _ => False
theorem its_zipM {K : PySem.W.Frag} {H : Hp} {S : Sto} {a b : Addr} {xs ys : List D} {vs ws : List V} (hx : SqI K H S a vs) (hy : SqT K H b ws) (qx : Reps K H S xs vs) (qy : Reps K H S ys ws) : Its K (zipD xs ys) (fun _ => True) (ItzM K a b) H S where
  go := fun H' S' i d g r _ e => by
    obtain ⟨x, y, ex, ey, _⟩ := zipD_get e
    obtain ⟨v, ev, _⟩ := (qx.grow g).get ex
    obtain ⟨w, ew, _⟩ := (qy.grow g).get ey
    exact ⟨vs, ws, v, w, (g.sqI hx).sq, g.sqT hy, ev, ew⟩
  yld := fun H' S' i d g r _ e z H'' ⟨T, v', w', e1, hT, e2, k1, k2⟩ => by
    obtain ⟨x, y, ex, ey, rfl⟩ := zipD_get e
    obtain ⟨v, ev, rv⟩ := (qx.grow g).get ex
    obtain ⟨w, ew, rw'⟩ := (qy.grow g).get ey
    have z1 := k1 vs (g.sqI hx).sq
    have z2 := k2 ws (g.sqT hy)
    rw [ev] at z1; cases z1
    rw [ew] at z2; cases z2
    subst e1 e2
    exact pair_laid r hT rv rw'
  stop := fun H' S' g r _ => ⟨vs, ws, (g.sqI hx).sq, g.sqT hy, by rw [zipD_len, qx.length, qy.length]; omega⟩
theorem i_zipM {X : Cx} {p pos tpos : Pos} {elts : List Expr} {kk : Nat} {a b : Expr} {wa : DA} (hm : X.mg "zip" = none) (ha : A' X [a, b] wa) (hg : Gl X "zip" := by rfl) (hs : starEach [a, b] X.env = (false, eval a X.env) :: starEach [b] X.env := by rfl) (hpl : (backTo pos (starEach [b] X.env)).any (·.1) = false := by rfl) : I' X (.Tuple elts kk tpos) (.Call (.Name "zip" p) [a, b] [] pos) (iZipM wa) :=
  PI.mono (pi_zipM hg hm ha hs hpl) fun σ H R ⟨env, S, Ri, l, h, q⟩ => by
    refine ⟨env, S, _, l, h, fun ds S1 vs H1 h1 r1 g1 d1 => ?_⟩
    cases d1 with
    | nil => exact h1.elim
    | cons r2 t =>
      cases t with
      | nil => split at h1 <;> first | exact h1.elim | (rename_i e; cases e)
      | cons r3 t =>
        cases t with
        | cons _ _ => split at h1 <;> first | exact h1.elim | (rename_i e; cases e)
        | nil =>
          cases r2 with
          | lst hx qx =>
            cases r3 with
            | tup hy qy => exact ⟨_, _, _, _, rfl, hx.sq, SqT.of hy, q _ _ S1 _ H1 h1 r1 g1 (its_zipM hx (SqT.of hy) qx qy)⟩
            | _ => exact h1.elim
          | _ => exact h1.elim
/-! == within a handler, where an exception is at hand -/
section
variable {X : Cx} {a b : Expr} {wa wb : DE} {pos : Pos}
theorem e_eqU (hu : X.A.units + 64 < cLine) (ha : E' X a wa) (hb : E' X b wb) : E' X (.Compare a [.Eq] [b] pos) (w2 dEq wa wb) := e_cmp (op_eqD hu) f_eq ha hb (nomark _)
theorem t_eqU (hu : X.A.units + 64 < cLine) (ha : E' X a wa) (hb : E' X b wb) : T' X (.Compare a [.Eq] [b] pos) (asB (w2 dEq wa wb)) := t_cmp (op_eqD hu) f_eq ha hb (nomark _)
theorem e_neU (hu : X.A.units + 64 < cLine) (ha : E' X a wa) (hb : E' X b wb) : E' X (.Compare a [.NotEq] [b] pos) (w2 dNe wa wb) := e_cmp (op_neD hu) f_ne ha hb (nomark _)
theorem t_neU (hu : X.A.units + 64 < cLine) (ha : E' X a wa) (hb : E' X b wb) : T' X (.Compare a [.NotEq] [b] pos) (asB (w2 dNe wa wb)) := t_cmp (op_neD hu) f_ne ha hb (nomark _)
end
end Dd
set_option Elab.async false
set_option linter.all false
set_option maxRecDepth 100000
set_option maxHeartbeats 4000000
/-! Plain functions: boxes, reports, rules, derivations. No program in sight. -/
namespace Mir
open Dd
abbrev Lot := List Int
abbrev Box := List Lot
abbrev Flt := List Int
abbrev Rep := List (Option Int)
def rng (m : Int) : List Int := (List.range m.toNat).map fun (i : Nat) => (i : Int)
theorem mem_rng {m v : Int} : v ∈ rng m ↔ 0 ≤ v ∧ v < m := by
  unfold rng
  rw [List.mem_map]
  constructor
  · rintro ⟨i, hi, rfl⟩
    rw [List.mem_range] at hi
    omega
  · rintro ⟨h0, h1⟩
    exact ⟨v.toNat, List.mem_range.mpr (by omega), by omega⟩
theorem rng_len (m : Int) : (rng m).length = m.toNat := by unfold rng; rw [List.length_map, List.length_range]
theorem rng_lt (m : Int) : (rng m).Pairwise (· < ·) := by
  unfold rng
  rw [List.pairwise_map]
  exact List.pairwise_lt_range.imp fun h => by omega
theorem rngD_rng (m : Int) : rngD 0 m.toNat = (rng m).map D.int := by
  unfold rngD rng
  rw [List.map_map]
  apply List.map_congr_left
  intro i _
  show D.int (0 + (i : Int)) = D.int (i : Int)
  rw [Int.zero_add]
/-! ### what is right -/
def prod : List Int → Int
  | [] => 1
  | m :: r => m * prod r
structure VForm (form : List Int) : Prop where
  l1 : 1 ≤ form.length
  l8 : form.length ≤ 8
  m : ∀ x ∈ form, 2 ≤ x ∧ x ≤ 6
  p : prod form ≤ 4000
structure VLot (m : Int) (lot : Lot) : Prop where
  ne : lot ≠ []
  up : lot.Pairwise (· < ·)
  mem : ∀ v ∈ lot, 0 ≤ v ∧ v < m
/-- place by place -/
def Each {α β : Type} (p : α → β → Prop) (xs : List α) (ys : List β) : Prop := ys.length = xs.length ∧ ∀ (i : Nat) (x : α) (y : β), xs[i]? = some x → ys[i]? = some y → p x y
abbrev VBox (form : List Int) (box : Box) : Prop := Each VLot form box
abbrev VFlt (form : List Int) (f : Flt) : Prop := Each (fun m v => 0 ≤ v ∧ v < m) form f
abbrev VRep (form : List Int) (r : Rep) : Prop := Each (fun m (o : Option Int) => ∀ v, o = some v → 0 ≤ v ∧ v < m) form r
section
variable {α β : Type} {p : α → β → Prop}
theorem Each.nil : Each p [] [] := ⟨rfl, fun i x y h => by simp at h⟩
theorem Each.cons {x : α} {y : β} {xs : List α} {ys : List β} (h : p x y) (t : Each p xs ys) : Each p (x :: xs) (y :: ys) := ⟨by rw [List.length_cons, List.length_cons, t.1], fun i a b ha hb => by
  cases i with
  | zero => simp at ha hb; subst ha hb; exact h
  | succ i => exact t.2 i a b (by simpa using ha) (by simpa using hb)⟩
theorem Each.inv {x : α} {y : β} {xs : List α} {ys : List β} (h : Each p (x :: xs) (y :: ys)) : p x y ∧ Each p xs ys :=
  ⟨h.2 0 x y rfl rfl, by have := h.1; simpa using this, fun i a b ha hb => h.2 (i + 1) a b (by simpa using ha) (by simpa using hb)⟩
theorem Each.ind {C : List α → List β → Prop} (h0 : C [] []) (hs : ∀ x y xs ys, p x y → Each p xs ys → C xs ys → C (x :: xs) (y :: ys)) : ∀ {xs : List α} {ys : List β}, Each p xs ys → C xs ys
  | [], [], _ => h0
  | [], _ :: _, h => absurd h.1 (by simp)
  | _ :: _, [], h => absurd h.1 (by simp)
  | x :: xs, y :: ys, h => hs x y xs ys h.inv.1 h.inv.2 (Each.ind h0 hs h.inv.2)
theorem Each.zip {xs : List α} {ys : List β} (h : Each p xs ys) : ∀ q ∈ List.zip xs ys, p q.1 q.2 := by
  refine Each.ind (C := fun xs ys => ∀ q ∈ List.zip xs ys, p q.1 q.2) (fun q hq => by simp at hq) (fun x y xs ys h _ ih q hq => ?_) h
  rw [List.zip_cons_cons] at hq
  rcases List.mem_cons.mp hq with rfl | hq
  · exact h
  · exact ih q hq
theorem Each.zip' {xs : List α} {ys : List β} (h : Each p xs ys) : ∀ q ∈ List.zip ys xs, p q.2 q.1 := by
  refine Each.ind (C := fun xs ys => ∀ q ∈ List.zip ys xs, p q.2 q.1) (fun q hq => by simp at hq) (fun x y xs ys h _ ih q hq => ?_) h
  rw [List.zip_cons_cons] at hq
  rcases List.mem_cons.mp hq with rfl | hq
  · exact h
  · exact ih q hq
theorem Each.get {xs : List α} {ys : List β} (h : Each p xs ys) {i : Nat} (hi : i < xs.length) : ∃ x y, xs[i]? = some x ∧ ys[i]? = some y ∧ p x y := by
  have hj : i < ys.length := by rw [h.1]; exact hi
  exact ⟨xs[i], ys[i], List.getElem?_eq_getElem hi, List.getElem?_eq_getElem hj, h.2 i _ _ (List.getElem?_eq_getElem hi) (List.getElem?_eq_getElem hj)⟩
end
structure VRules (form : List Int) (rules : List Box) : Prop where
  all : ∀ b ∈ rules, VBox form b
  few : rules.length ≤ 40
/-! ### the functions -/
def held (box : Box) (f : Flt) : Bool := (List.zip box f).all fun p => decide (p.2 ∈ p.1)
def agr (r : Rep) (f : Flt) : Bool := (List.zip r f).all fun p => p.1.isNone || decide (p.1 = some p.2)
def lies (a b : Box) : Bool := (List.zip a b).all fun p => p.1.all fun v => decide (v ∈ p.2)
def meet (a b : Box) : Box := (List.zip a b).map fun p => p.1.filter fun v => decide (v ∈ p.2)
def repBox (form : List Int) (r : Rep) : Box := (List.zip r form).map fun p => match p.1 with
  | none => rng p.2
  | some v => [v]
def withLot (b : Box) (i : Nat) (l : Lot) : Box := b.take i ++ [l] ++ b.drop (i + 1)
def faults (form : List Int) : List Flt := form.foldl (fun found m => found.flatMap fun f => (rng m).map fun v => f ++ [v]) [[]]
def law (rules : List Box) (f : Flt) : Bool := !(rules.any fun r => held r f)
def lawful (form : List Int) (rules : List Box) : List Flt := (faults form).filter (law rules)
theorem withLot_len {b : Box} {i : Nat} {l : Lot} (h : i < b.length) : (withLot b i l).length = b.length := by
  unfold withLot
  simp only [List.length_append, List.length_take, List.length_singleton, List.length_drop]
  omega
theorem withLot_set {b : Box} {i : Nat} {l : Lot} (h : i < b.length) : withLot b i l = b.set i l := by
  unfold withLot
  rw [List.set_eq_take_append_cons_drop, if_pos h, List.append_assoc]
  rfl
end Mir
set_option Elab.async false
set_option linter.all false
set_option maxRecDepth 100000
set_option maxHeartbeats 1000000
/-! A comprehension whose turns may change the store and may give any of several things. -/
namespace Dd
open PySem PySem.Spec PyProof.Rows L2 Mir
abbrev QdX (w : DS) (n : Nat) (c : DCX) : Prop := ∀ ds S R Z, c ds S R Z → w { nx := fun _ S' => Fin R .non S', rt := Fin R, ex := fun x fs _ S' => FinX Z x fs S' } (startD n ds) S
theorem lc_gen {α β : Type} {g : DG} {t : DT} {e : DE} {vs : List Nat} {env : Env} {S : Sto} {R : DQ} {gd : Sto → Prop} (xs : List α) (E : α → D) (F : β → D) (P : α → Option β → Prop) (G : Sto → Prop) (hz : xs.length ≤ sizeLine)
    (hg : ∀ S' T acc, G S' → S' T = none → gd (put S' T (.lst acc)))
    (ht : ∀ x ∈ xs, ∀ S' T acc, G S' → S' T = none → ∀ (Kt : DQ) (Kf : Sto → Prop), (∀ y S2, P x (some y) → G S2 → S2 T = none → Kt (F y) (put S2 T (.lst acc))) → (∀ S2, P x none → G S2 → S2 T = none → Kf (put S2 T (.lst acc))) →
      g (E x) (vs.foldr (fun i e => e.set i none) env) (put S' T (.lst acc)) fun env1 S1 => t env1 S1 fun b S2 => match b with
        | true => e env1 S2 Kt
        | false => Kf S2)
    (h : ∀ os S', Each P xs os → G S' → R (.lst ((os.filterMap id).map F)) S') (hS : G S) : ∀ T, S T = none → compD T g t e (vs.foldr (fun i e => e.set i none) env) gd R [] (xs.map E) (put S T (.lst [])) := by
  intro T hT
  have key : ∀ (xs : List α) (acc : List β) (R : DQ) (S : Sto), (∀ x ∈ xs, ∀ S' T acc, G S' → S' T = none → ∀ (Kt : DQ) (Kf : Sto → Prop), (∀ y S2, P x (some y) → G S2 → S2 T = none → Kt (F y) (put S2 T (.lst acc))) → (∀ S2, P x none → G S2 → S2 T = none → Kf (put S2 T (.lst acc))) →
      g (E x) (vs.foldr (fun i e => e.set i none) env) (put S' T (.lst acc)) fun env1 S1 => t env1 S1 fun b S2 => match b with
        | true => e env1 S2 Kt
        | false => Kf S2) → acc.length + xs.length ≤ sizeLine → (∀ os S', Each P xs os → G S' → R (.lst ((acc ++ os.filterMap id).map F)) S') → G S → S T = none →
      compD T g t e (vs.foldr (fun i e => e.set i none) env) gd R (acc.map F) (xs.map E) (put S T (.lst (acc.map F))) := by
    intro xs
    induction xs with
    | nil =>
      intro acc R S _ _ h hS hT
      refine ⟨hg _ _ _ hS hT, put_same, ?_⟩
      rw [del_put hT]
      have := h [] S Each.nil hS
      rwa [List.filterMap_nil, List.append_nil] at this
    | cons x xs ih =>
      intro acc R S ht hz h hS hT
      refine ⟨hg _ _ _ hS hT, ?_⟩
      rw [List.length_cons] at hz
      refine ht x List.mem_cons_self S T _ hS hT (fun y S3 => S3 T = some (.lst (acc.map F)) ∧ (acc.map F).length < sizeLine ∧ compD T g t e _ gd R (acc.map F ++ [y]) (xs.map E) (put S3 T (.lst (acc.map F ++ [y])))) (fun S2 => S2 T = some (.lst (acc.map F)) ∧ compD T g t e _ gd R (acc.map F) (xs.map E) S2) ?_ ?_
      · intro y S2 hp hG hT2
        refine ⟨put_same, by rw [List.length_map]; omega, ?_⟩
        rw [put_put]
        have := ih (acc ++ [y]) R S2 (fun d hd => ht d (List.mem_cons_of_mem _ hd)) (by rw [List.length_append, List.length_singleton]; omega) (fun os S' hos hG' => by
          have := h (some y :: os) S' (Each.cons hp hos) hG'
          rw [List.filterMap_cons] at this
          rw [List.append_assoc]
          exact this) hG hT2
        rw [List.map_append] at this
        exact this
      · intro S2 hp hG hT2
        refine ⟨put_same, ?_⟩
        exact ih acc R S2 (fun d hd => ht d (List.mem_cons_of_mem _ hd)) (by omega) (fun os S' hos hG' => by
          have := h (none :: os) S' (Each.cons hp hos) hG'
          rw [List.filterMap_cons] at this
          exact this) hG hT2
  have := key xs [] R S ht (by simpa using hz) (by simpa using h) hS hT
  exact this
theorem each_some {α β : Type} {P : α → β → Prop} : ∀ {xs : List α} {os : List (Option β)}, Each (fun x o => ∃ y, o = some y ∧ P x y) xs os → Each P xs (os.filterMap id) ∧ (os.filterMap id).length = xs.length := by
  intro xs os h
  refine Each.ind (C := fun xs os => Each P xs (os.filterMap id) ∧ (os.filterMap id).length = xs.length) ⟨Each.nil, rfl⟩ (fun x o xs os hx _ ih => ?_) h
  obtain ⟨y, rfl, hp⟩ := hx
  rw [List.filterMap_cons]
  exact ⟨Each.cons hp ih.1, by show (_ :: _).length = _; rw [List.length_cons, List.length_cons, ih.2]⟩
/-- .. where each turn gives one thing -/
theorem lc_rel {α β : Type} {g : DG} {t : DT} {e : DE} {vs : List Nat} {env : Env} {S : Sto} {R : DQ} {gd : Sto → Prop} (xs : List α) (E : α → D) (F : β → D) (P : α → β → Prop) (G : Sto → Prop) (hz : xs.length ≤ sizeLine)
    (hg : ∀ S' T acc, G S' → S' T = none → gd (put S' T (.lst acc)))
    (ht : ∀ x ∈ xs, ∀ S' T acc, G S' → S' T = none → ∀ (Kt : DQ) (Kf : Sto → Prop), (∀ y S2, P x y → G S2 → S2 T = none → Kt (F y) (put S2 T (.lst acc))) →
      g (E x) (vs.foldr (fun i e => e.set i none) env) (put S' T (.lst acc)) fun env1 S1 => t env1 S1 fun b S2 => match b with
        | true => e env1 S2 Kt
        | false => Kf S2)
    (h : ∀ ys S', Each P xs ys → G S' → R (.lst (ys.map F)) S') (hS : G S) : ∀ T, S T = none → compD T g t e (vs.foldr (fun i e => e.set i none) env) gd R [] (xs.map E) (put S T (.lst [])) :=
  lc_gen xs E F (fun x o => ∃ y, o = some y ∧ P x y) G hz hg (fun x hx S' T acc hG hT Kt Kf k _ => ht x hx S' T acc hG hT Kt Kf fun y S2 hp => k y S2 ⟨y, rfl, hp⟩) (fun os S' hos hG => h _ S' (each_some hos).1 hG) hS
end Dd
set_option Elab.async false
set_option linter.all false
set_option maxRecDepth 100000
set_option maxHeartbeats 1000000
/-! Derivations: plain functions and their laws. -/
namespace Mir
open Dd
theorem zip_get {α β : Type} {xs : List α} {ys : List β} {i : Nat} {x : α} {y : β} (hx : xs[i]? = some x) (hy : ys[i]? = some y) : (List.zip xs ys)[i]? = some (x, y) := by
  rw [List.getElem?_zip_eq_some]; exact ⟨hx, hy⟩
theorem zip_all {α β : Type} {xs : List α} {ys : List β} {p : α × β → Bool} (h : (List.zip xs ys).all p = true) {i : Nat} {x : α} {y : β} (hx : xs[i]? = some x) (hy : ys[i]? = some y) : p (x, y) = true :=
  List.all_eq_true.mp h _ (List.mem_of_getElem? (zip_get hx hy))
theorem all_zip {α β : Type} {xs : List α} {ys : List β} {p : α × β → Bool} (h : ∀ (i : Nat) x y, xs[i]? = some x → ys[i]? = some y → p (x, y) = true) : (List.zip xs ys).all p = true := by
  rw [List.all_eq_true]
  rintro ⟨x, y⟩ hq
  obtain ⟨i, hi⟩ := List.getElem?_of_mem hq
  rw [List.getElem?_zip_eq_some] at hi
  exact h i x y hi.1 hi.2
theorem held_iff {b : List (List Int)} {f : List Int} : held b f = true ↔ ∀ (i : Nat) l v, b[i]? = some l → f[i]? = some v → v ∈ l :=
  ⟨fun h i l v hl hv => of_decide_eq_true (zip_all h hl hv), fun h => all_zip fun i l v hl hv => decide_eq_true (h i l v hl hv)⟩
theorem lies_iff {a b : List (List Int)} : lies a b = true ↔ ∀ (i : Nat) l w, a[i]? = some l → b[i]? = some w → ∀ v ∈ l, v ∈ w := by
  constructor
  · intro h i l w hl hw v hv
    have := zip_all h hl hw
    exact of_decide_eq_true (List.all_eq_true.mp this v hv)
  · intro h
    exact all_zip fun i l w hl hw => List.all_eq_true.mpr fun v hv => decide_eq_true (h i l w hl hw v hv)
theorem agr_iff {r : List (Option Int)} {f : List Int} : agr r f = true ↔ ∀ (i : Nat) v u, r[i]? = some (some v) → f[i]? = some u → v = u := by
  constructor
  · intro h i v u hr hf
    have := zip_all h hr hf
    simpa using this
  · intro h
    refine all_zip fun i o u ho hu => ?_
    cases o with
    | none => rfl
    | some v => simp [h i v u ho hu]
theorem meet_get {a b : List (List Int)} {i : Nat} : (meet a b)[i]? = (List.zip a b)[i]?.map fun p => p.1.filter fun v => decide (v ∈ p.2) := by
  unfold meet; rw [List.getElem?_map]
theorem meet_len {a b : List (List Int)} (h : a.length = b.length) : (meet a b).length = a.length := by
  unfold meet; rw [List.length_map, List.length_zip]; omega
theorem withLot_get {b : List (List Int)} {i j : Nat} {l : List Int} (h : i < b.length) : (withLot b i l)[j]? = if j = i then some l else b[j]? := by
  rw [withLot_set h, List.getElem?_set]
  by_cases e : i = j
  · subst e; rw [if_pos rfl, if_pos h, if_pos rfl]
  · rw [if_neg e, if_neg fun z => e z.symm]
/-! ### joins -/
def joinB (f : Nat) (a b : Box) : Option Box :=
  if [] ∈ meet (withLot a f (usort (a.getD f [] ++ b.getD f []))) (withLot b f (usort (a.getD f [] ++ b.getD f []))) then none
  else some (meet (withLot a f (usort (a.getD f [] ++ b.getD f []))) (withLot b f (usort (a.getD f [] ++ b.getD f []))))
def jLot (f i : Nat) (l m : List Int) : List Int := if i = f then usort (l ++ m) else l.filter fun v => decide (v ∈ m)
theorem join_raw {f : Nat} {a b : List (List Int)} (hl : a.length = b.length) (hf : f < a.length) {i : Nat} {l m : List Int} (ha : a[i]? = some l) (hb : b[i]? = some m) :
    (meet (withLot a f (usort (a.getD f [] ++ b.getD f []))) (withLot b f (usort (a.getD f [] ++ b.getD f []))))[i]? = some (jLot f i l m) := by
  rw [meet_get]
  by_cases e : i = f
  · subst e
    have h1 : a.getD i [] = l := by rw [List.getD_eq_getElem?_getD, ha]; rfl
    have h2 : b.getD i [] = m := by rw [List.getD_eq_getElem?_getD, hb]; rfl
    rw [h1, h2, zip_get (x := usort (l ++ m)) (y := usort (l ++ m)) (by rw [withLot_get hf, if_pos rfl]) (by rw [withLot_get (by omega), if_pos rfl])]
    unfold jLot
    rw [if_pos rfl]
    show some ((usort (l ++ m)).filter fun v => decide (v ∈ usort (l ++ m))) = _
    rw [List.filter_eq_self.mpr fun v hv => decide_eq_true hv]
  · rw [zip_get (x := l) (y := m) (by rw [withLot_get hf, if_neg e]; exact ha) (by rw [withLot_get (by omega), if_neg e]; exact hb)]
    unfold jLot
    rw [if_neg e]; rfl
theorem join_len {f : Nat} {a b : List (List Int)} (hl : a.length = b.length) (hf : f < a.length) : (meet (withLot a f (usort (a.getD f [] ++ b.getD f []))) (withLot b f (usort (a.getD f [] ++ b.getD f [])))).length = a.length := by
  rw [meet_len (by rw [withLot_len hf, withLot_len (by omega), hl]), withLot_len hf]
theorem joinB_some {f : Nat} {a b c : List (List Int)} (hl : a.length = b.length) (hf : f < a.length) (h : joinB f a b = some c) : c.length = a.length ∧ [] ∉ c ∧ ∀ i l m, a[i]? = some l → b[i]? = some m → c[i]? = some (jLot f i l m) := by
  unfold joinB at h
  by_cases e : [] ∈ meet (withLot a f (usort (a.getD f [] ++ b.getD f []))) (withLot b f (usort (a.getD f [] ++ b.getD f [])))
  · rw [if_pos e] at h; cases h
  · rw [if_neg e] at h; cases h
    exact ⟨join_len hl hf, e, fun i l m ha hb => join_raw hl hf ha hb⟩
theorem joinB_mk {f : Nat} {a b : List (List Int)} (hl : a.length = b.length) (hf : f < a.length) (h : ∀ i l m, a[i]? = some l → b[i]? = some m → jLot f i l m ≠ []) : ∃ c, joinB f a b = some c := by
  unfold joinB
  refine ⟨_, if_neg fun z => ?_⟩
  obtain ⟨i, hi⟩ := List.getElem?_of_mem z
  have hlt : i < a.length := by
    have := (List.getElem?_eq_some_iff.mp hi).1
    rw [join_len hl hf] at this; exact this
  have h1 : a[i]? = some a[i] := List.getElem?_eq_getElem hlt
  have h2 : b[i]? = some (b[i]'(by omega)) := List.getElem?_eq_getElem (by omega)
  rw [join_raw hl hf h1 h2] at hi
  exact h i _ _ h1 h2 (Option.some.inj hi)
theorem VLot.join {m : Int} {l k : List Int} (f i : Nat) (h : VLot m l) (h' : VLot m k) (hn : jLot f i l k ≠ []) : VLot m (jLot f i l k) := by
  refine ⟨hn, ?_, ?_⟩
  · unfold jLot
    split
    · exact usort_lt _
    · exact h.up.filter _
  · intro v hv
    unfold jLot at hv
    split at hv
    · rw [usort_mem, List.mem_append] at hv
      rcases hv with hv | hv
      · exact h.mem v hv
      · exact h'.mem v hv
    · exact h.mem v (List.mem_filter.mp hv).1
theorem VBox.join {form : List Int} {f : Nat} {a b c : List (List Int)} (ha : VBox form a) (hb : VBox form b) (hf : f < form.length) (h : joinB f a b = some c) : VBox form c := by
  have hl : a.length = b.length := by rw [ha.1, hb.1]
  obtain ⟨h1, h2, h3⟩ := joinB_some hl (by rw [ha.1]; exact hf) h
  refine ⟨by rw [h1, ha.1], fun i m l hm hc => ?_⟩
  have hi : i < form.length := (List.getElem?_eq_some_iff.mp hm).1
  have g1 : a[i]? = some (a[i]'(by rw [ha.1]; exact hi)) := List.getElem?_eq_getElem _
  have g2 : b[i]? = some (b[i]'(by rw [hb.1]; exact hi)) := List.getElem?_eq_getElem _
  have := h3 i _ _ g1 g2
  rw [hc] at this
  have := Option.some.inj this
  subst this
  exact VLot.join f i (ha.2 i m _ hm g1) (hb.2 i m _ hm g2) fun z => h2 (z ▸ List.mem_of_getElem? hc)
/-- what the join holds, one of the two holds -/
theorem held_join {form : List Int} {f : Nat} {a b c : List (List Int)} {u : List Int} (ha : VBox form a) (hb : VBox form b) (hf : f < form.length) (h : joinB f a b = some c) (hu : u.length = form.length) (q : held c u = true) : held a u = true ∨ held b u = true := by
  have hl : a.length = b.length := by rw [ha.1, hb.1]
  obtain ⟨h1, h2, h3⟩ := joinB_some hl (by rw [ha.1]; exact hf) h
  rw [held_iff] at q
  rw [held_iff, held_iff]
  have g1 : a[f]? = some (a[f]'(by rw [ha.1]; exact hf)) := List.getElem?_eq_getElem _
  have g2 : b[f]? = some (b[f]'(by rw [hb.1]; exact hf)) := List.getElem?_eq_getElem _
  have g3 : u[f]? = some (u[f]'(by omega)) := List.getElem?_eq_getElem _
  have qf := q f _ _ (h3 f _ _ g1 g2) g3
  unfold jLot at qf
  rw [if_pos rfl, usort_mem, List.mem_append] at qf
  have oth : ∀ (i : Nat) l m v, i ≠ f → a[i]? = some l → b[i]? = some m → u[i]? = some v → v ∈ l ∧ v ∈ m := by
    intro i l m v e hl hm hv
    have := q i _ v (h3 i l m hl hm) hv
    unfold jLot at this
    rw [if_neg e, List.mem_filter] at this
    exact ⟨this.1, of_decide_eq_true this.2⟩
  rcases qf with qf | qf
  · refine .inl fun i l v hl' hv => ?_
    by_cases e : i = f
    · subst e; rw [g1] at hl'; rw [g3] at hv; cases hl'; cases hv; exact qf
    · have hi : i < b.length := by have := (List.getElem?_eq_some_iff.mp hl').1; omega
      exact (oth i l _ v e hl' (List.getElem?_eq_getElem hi) hv).1
  · refine .inr fun i l v hl' hv => ?_
    by_cases e : i = f
    · subst e; rw [g2] at hl'; rw [g3] at hv; cases hl'; cases hv; exact qf
    · have hi : i < a.length := by have := (List.getElem?_eq_some_iff.mp hl').1; omega
      exact (oth i _ l v e (List.getElem?_eq_getElem hi) hl' hv).2
/-- the join of two that hold a box with values P, and with v, at a field holds it with both -/
theorem join_cover {form : List Int} {f : Nat} {box a b : List (List Int)} {P Q : List Int} (hx : VBox form box) (ha : VBox form a) (hb : VBox form b) (hf : f < form.length) (hQ : P ≠ []) (la : lies (withLot box f P) a = true) (lb : lies (withLot box f Q) b = true) :
    ∃ c, joinB f a b = some c ∧ lies (withLot box f (P ++ Q)) c = true := by
  have hl : a.length = b.length := by rw [ha.1, hb.1]
  have hfx : f < box.length := by rw [hx.1]; exact hf
  rw [lies_iff] at la lb
  have mem : ∀ (i : Nat) l m w, a[i]? = some l → b[i]? = some m → (withLot box f (P ++ Q))[i]? = some w → ∀ v ∈ w, v ∈ jLot f i l m := by
    intro i l m w hl' hm hw v hv
    rw [withLot_get hfx] at hw
    unfold jLot
    by_cases e : i = f
    · subst e
      rw [if_pos rfl] at hw ⊢
      cases hw
      rw [usort_mem, List.mem_append]
      rcases List.mem_append.mp hv with hv | hv
      · exact .inl (la i P l (by rw [withLot_get hfx, if_pos rfl]) hl' v hv)
      · exact .inr (lb i Q m (by rw [withLot_get hfx, if_pos rfl]) hm v hv)
    · rw [if_neg e] at hw ⊢
      rw [List.mem_filter]
      exact ⟨la i w l (by rw [withLot_get hfx, if_neg e]; exact hw) hl' v hv, decide_eq_true (lb i w m (by rw [withLot_get hfx, if_neg e]; exact hw) hm v hv)⟩
  obtain ⟨c, hc⟩ := joinB_mk (f := f) hl (by rw [ha.1]; exact hf) fun i l m hl' hm z => by
    have hi : i < box.length := by have := (List.getElem?_eq_some_iff.mp hl').1; rw [ha.1] at this; rw [hx.1]; exact this
    have key : ∃ w, (withLot box f (P ++ Q))[i]? = some w ∧ w ≠ [] := by
      rw [withLot_get hfx]
      by_cases e : i = f
      · rw [if_pos e]; exact ⟨_, rfl, by simp [hQ]⟩
      · rw [if_neg e]
        refine ⟨_, List.getElem?_eq_getElem hi, ?_⟩
        have hm' : form[i]? = some (form[i]'(by rw [← hx.1]; exact hi)) := List.getElem?_eq_getElem _
        exact (hx.2 i _ _ hm' (List.getElem?_eq_getElem hi)).ne
    obtain ⟨w, hw, hn⟩ := key
    obtain ⟨v, hv⟩ := List.exists_mem_of_ne_nil w hn
    have := mem i l m w hl' hm hw v hv
    rw [z] at this; cases this
  refine ⟨c, hc, ?_⟩
  obtain ⟨h1, h2, h3⟩ := joinB_some hl (by rw [ha.1]; exact hf) hc
  rw [lies_iff]
  intro i w w' hw hw' v hv
  have hi : i < a.length := by have := (List.getElem?_eq_some_iff.mp hw').1; omega
  have g1 : a[i]? = some a[i] := List.getElem?_eq_getElem hi
  have g2 : b[i]? = some (b[i]'(by omega)) := List.getElem?_eq_getElem _
  rw [h3 i _ _ g1 g2] at hw'
  cases hw'
  exact mem i _ _ w g1 g2 hw v hv
/-! ### steps -/
inductive Stp where
  | rule (n : Nat) | join (f a b : Nat)
  deriving DecidableEq
def stepBox (rules boxes : List Box) : Stp → Option Box
  | .rule n => rules[n]?
  | .join f a b => match boxes[a]?, boxes[b]? with
    | some x, some y => if f < x.length then joinB f x y else none
    | _, _ => none
structure Val (rules : List Box) (steps : List Stp) (boxes : List Box) : Prop where
  len : boxes.length = steps.length
  at_ : ∀ (i : Nat) s b, steps[i]? = some s → boxes[i]? = some b → stepBox rules (boxes.take i) s = some b
theorem step_join {rules boxes : List Box} {f a b : Nat} {c : Box} : stepBox rules boxes (.join f a b) = some c ↔ ∃ x y, boxes[a]? = some x ∧ boxes[b]? = some y ∧ f < x.length ∧ joinB f x y = some c := by
  show (match boxes[a]?, boxes[b]? with
    | some x, some y => if f < x.length then joinB f x y else none
    | _, _ => none) = some c ↔ _
  cases e1 : boxes[a]? with
  | none => simp
  | some x =>
    cases e2 : boxes[b]? with
    | none => simp
    | some y =>
      show (if f < x.length then joinB f x y else none) = some c ↔ _
      by_cases hf : f < x.length
      · rw [if_pos hf]
        exact ⟨fun h => ⟨x, y, rfl, rfl, hf, h⟩, fun ⟨_, _, h1, h2, _, h⟩ => by cases h1; cases h2; exact h⟩
      · rw [if_neg hf]
        exact ⟨fun h => (nomatch h), fun ⟨_, _, h1, h2, h3, h⟩ => by cases h1; exact absurd h3 hf⟩
theorem get_more {α : Type} {xs ys : List α} {i : Nat} {x : α} (h : xs[i]? = some x) : (xs ++ ys)[i]? = some x := by
  rw [List.getElem?_append_left (List.getElem?_eq_some_iff.mp h).1]; exact h
theorem stepBox_mono {rules boxes more : List Box} {s : Stp} {b : Box} (h : stepBox rules boxes s = some b) : stepBox rules (boxes ++ more) s = some b := by
  cases s with
  | rule n => exact h
  | join f x y =>
    obtain ⟨u, v, h1, h2, h3, h4⟩ := step_join.mp h
    exact step_join.mpr ⟨u, v, get_more h1, get_more h2, h3, h4⟩
theorem Val.nil {rules : List Box} : Val rules [] [] := ⟨rfl, fun i s b h => by simp at h⟩
theorem Val.snoc {rules boxes : List Box} {steps : List Stp} {s : Stp} {b : Box} (v : Val rules steps boxes) (h : stepBox rules boxes s = some b) : Val rules (steps ++ [s]) (boxes ++ [b]) := by
  refine ⟨by simp [v.len], fun i t c ht hc => ?_⟩
  by_cases hi : i < steps.length
  · rw [List.getElem?_append_left hi] at ht
    rw [List.getElem?_append_left (by rw [v.len]; exact hi)] at hc
    rw [List.take_append_of_le_length (by rw [v.len]; omega)]
    exact v.at_ i t c ht hc
  · have hi2 : i = steps.length := by
      have := (List.getElem?_eq_some_iff.mp ht).1
      simp at this; omega
    subst hi2
    rw [List.getElem?_append_right (Nat.le_refl _), Nat.sub_self] at ht
    rw [List.getElem?_append_right (by rw [v.len]; exact Nat.le_refl _), v.len, Nat.sub_self] at hc
    cases ht; cases hc
    rw [List.take_left' v.len]; exact h
theorem Val.take {rules boxes : List Box} {steps : List Stp} (v : Val rules steps boxes) (n : Nat) : Val rules (steps.take n) (boxes.take n) := by
  refine ⟨by simp [v.len], fun i t c ht hc => ?_⟩
  have hi : i < n := by have := (List.getElem?_eq_some_iff.mp ht).1; simp at this; omega
  rw [List.getElem?_take_of_lt hi] at ht hc
  rw [List.take_take, Nat.min_eq_left (by omega)]
  exact v.at_ i t c ht hc
/-- the box of a step that stands -/
theorem Val.get {rules boxes : List Box} {steps : List Stp} (v : Val rules steps boxes) {i : Nat} {s : Stp} {b : Box} (hs : steps[i]? = some s) (h : stepBox rules boxes s = some b) : boxes[i]? = some b := by
  have hi : i < boxes.length := by rw [v.len]; exact (List.getElem?_eq_some_iff.mp hs).1
  have e := List.getElem?_eq_getElem hi
  have q := v.at_ i s _ hs e
  have := stepBox_mono (more := boxes.drop i) q
  rw [List.take_append_drop] at this
  rw [h] at this
  rw [e, this]
theorem Val.ind {rules boxes : List Box} {steps : List Stp} (v : Val rules steps boxes) (p : Box → Prop) (hr : ∀ b ∈ rules, p b) (hj : ∀ f a b c, p a → p b → f < a.length → joinB f a b = some c → p c) : ∀ (i : Nat) b, boxes[i]? = some b → p b := by
  intro i
  induction i using Nat.strongRecOn with
  | _ i ih =>
    intro b hb
    have hi : i < steps.length := by rw [← v.len]; exact (List.getElem?_eq_some_iff.mp hb).1
    have q := v.at_ i _ b (List.getElem?_eq_getElem hi) hb
    cases e : steps[i] with
    | rule n => rw [e] at q; exact hr b (List.mem_of_getElem? q)
    | join f x y =>
      rw [e] at q
      obtain ⟨u, w, e1, e2, hf, q⟩ := step_join.mp q
      have hx : x < i := by have := (List.getElem?_eq_some_iff.mp e1).1; simp at this; omega
      have hy : y < i := by have := (List.getElem?_eq_some_iff.mp e2).1; simp at this; omega
      rw [List.getElem?_take_of_lt hx] at e1
      rw [List.getElem?_take_of_lt hy] at e2
      exact hj f u w b (ih x hx u e1) (ih y hy w e2) hf q
theorem Val.box {form : List Int} {rules boxes : List Box} {steps : List Stp} (v : Val rules steps boxes) (hr : VRules form rules) : ∀ b ∈ boxes, VBox form b := fun b hb => by
  obtain ⟨i, hi⟩ := List.getElem?_of_mem hb
  exact v.ind (VBox form) hr.all (fun f a b c ha hb hf h => VBox.join ha hb (by rw [← ha.1]; exact hf) h) i b hi
/-- no derived box holds a lawful fault -/
theorem Val.sound {form : List Int} {rules boxes : List Box} {steps : List Stp} (v : Val rules steps boxes) (hr : VRules form rules) {u : List Int} (hu : u.length = form.length) (hl : law rules u = true) : ∀ b ∈ boxes, held b u = false := fun b hb => by
  obtain ⟨i, hi⟩ := List.getElem?_of_mem hb
  refine (v.ind (fun b => VBox form b ∧ held b u = false) (fun b hb => ⟨hr.all b hb, ?_⟩) (fun f a b c ha hb hf h => ⟨VBox.join ha.1 hb.1 (by rw [← ha.1.1]; exact hf) h, ?_⟩) i b hi).2
  · unfold law at hl
    have : rules.any (fun r => held r u) = false := by simpa using hl
    rw [List.any_eq_false] at this
    simpa using this b hb
  · cases e : held c u with
    | false => rfl
    | true =>
      rcases held_join ha.1 hb.1 (by rw [← ha.1.1]; exact hf) h hu e with q | q
      · rw [ha.2] at q; cases q
      · rw [hb.2] at q; cases q
/-- a derivation of a box within which box lies -/
def Pap (form : List Int) (rules : List Box) (box : Box) (steps : List Stp) : Prop := ∃ boxes B, Val rules steps boxes ∧ boxes.getLast? = some B ∧ lies box B = true ∧ steps.length ≤ 1000
end Mir
set_option Elab.async false
set_option linter.all false
set_option maxRecDepth 100000
set_option maxHeartbeats 1000000
namespace K78
open PySem PySem.Spec PyProof.Rows L2 Dd Mir
abbrev Qd (w : DS) (n : Nat) (c : DC) : Prop := ∀ ds S R, c ds S R → w { nx := fun _ S' => Fin R .non S', rt := Fin R } (startD n ds) S
theorem VLot.few {m : Int} {lot : Lot} (h : VLot m lot) (hm : m ≤ 6) : lot.length ≤ 6 := by
  have : ∀ (k : Nat) (lot : List Int) (lo : Int), lot.Pairwise (· < ·) → (∀ v ∈ lot, lo ≤ v ∧ v < lo + k) → lot.length ≤ k := by
    intro k
    induction k with
    | zero =>
      intro lot lo _ hm
      cases lot with
      | nil => exact Nat.le_refl _
      | cons x xs => have := hm x List.mem_cons_self; omega
    | succ k ih =>
      intro lot lo up hm
      cases lot with
      | nil => exact Nat.zero_le _
      | cons x xs =>
        rw [List.pairwise_cons] at up
        have hx := hm x List.mem_cons_self
        have := ih xs (lo + 1) up.2 fun v hv => by
          have := up.1 v hv
          have := hm v (List.mem_cons_of_mem _ hv)
          omega
        rw [List.length_cons]; omega
  have := this 6 lot 0 h.up fun v hv => by have := h.mem v hv; omega
  exact this
/-! ### checks -/
@[irreducible] def c_is_integer : DC := fun ds S R => ∃ d t, ds = [d] ∧ tyD d S = some t ∧ R (.bl (decide (t = .int))) S
theorem i_is_integer {ds : List D} {S : Sto} {R : DQ} (h : ∃ d t, ds = [d] ∧ tyD d S = some t ∧ R (.bl (decide (t = .int))) S) : c_is_integer ds S R := by unfold c_is_integer; exact h
theorem u_is_integer {ds : List D} {S : Sto} {R : DQ} (h : c_is_integer ds S R) : ∃ d t, ds = [d] ∧ tyD d S = some t ∧ R (.bl (decide (t = .int))) S := by unfold c_is_integer at h; exact h
def w_is_integer : DS := (sRet (wAnd (wIsi .int (wVar 0)) (wNot (wIsi .bl (wVar 0)))))
theorem q_is_integer : Qd w_is_integer 1 c_is_integer := by
  intro ds S R hc0
  obtain ⟨d, t, rfl, ht, h⟩ := u_is_integer hc0
  conv => whnf
  rw [ht]
  cases t <;> first
    | exact Fin.now h
    | (conv => whnf); rw [ht]; exact Fin.now h
@[irreducible] def c_is_within : DC := fun ds S R => ∃ (d : D) (lo hi : Int), ds = [d, .int lo, .int hi] ∧ ((∃ i, d = .int i ∧ R (.bl (decide (lo ≤ i ∧ i ≤ hi))) S) ∨ (∃ t, tyD d S = some t ∧ t ≠ .int ∧ R (.bl false) S))
theorem i_is_within {ds : List D} {S : Sto} {R : DQ} (h : ∃ (d : D) (lo hi : Int), ds = [d, .int lo, .int hi] ∧ ((∃ i, d = .int i ∧ R (.bl (decide (lo ≤ i ∧ i ≤ hi))) S) ∨ (∃ t, tyD d S = some t ∧ t ≠ .int ∧ R (.bl false) S))) : c_is_within ds S R := by unfold c_is_within; exact h
theorem u_is_within {ds : List D} {S : Sto} {R : DQ} (h : c_is_within ds S R) : ∃ (d : D) (lo hi : Int), ds = [d, .int lo, .int hi] ∧ ((∃ i, d = .int i ∧ R (.bl (decide (lo ≤ i ∧ i ≤ hi))) S) ∨ (∃ t, tyD d S = some t ∧ t ≠ .int ∧ R (.bl false) S)) := by unfold c_is_within at h; exact h
def w_is_within : DS := (sRet (wAnd (wCall c_is_integer (aCons (wVar 0) aNil)) (wChain dLe dLe (wVar 1) (wVar 0) (wVar 2))))
theorem q_is_within : Qd w_is_within 3 c_is_within := by
  intro ds S R hc0
  obtain ⟨d, lo, hi, rfl, ⟨i, rfl, h⟩ | ⟨t, ht, hn, h⟩⟩ := u_is_within hc0
  · show c_is_integer _ _ _
    unfold c_is_integer
    refine ⟨.int i, .int, rfl, rfl, ?_⟩
    show (match D.bl (decide (lo ≤ i)) with
      | .bl true => Fin R (.bl (decide (i ≤ hi))) S
      | .bl false => Fin R (.bl false) S
      | _ => False)
    by_cases h1 : lo ≤ i
    · rw [decide_eq_true h1]
      show Fin R (.bl (decide (i ≤ hi))) S
      by_cases h2 : i ≤ hi
      · rw [decide_eq_true ⟨h1, h2⟩] at h; rw [decide_eq_true h2]; exact Fin.now h
      · rw [decide_eq_false fun z => h2 z.2] at h; rw [decide_eq_false h2]; exact Fin.now h
    · rw [decide_eq_false h1]
      rw [decide_eq_false fun z => h1 z.1] at h
      exact Fin.now h
  · show c_is_integer _ _ _
    unfold c_is_integer
    refine ⟨d, t, rfl, ht, ?_⟩
    rw [decide_eq_false hn]
    exact Fin.now h
theorem within_yes {i lo hi : Int} {S : Sto} {R : DQ} (h : lo ≤ i ∧ i ≤ hi) (k : R (.bl true) S) : c_is_within [.int i, .int lo, .int hi] S R := by unfold c_is_within; exact ⟨_, lo, hi, rfl, .inl ⟨i, rfl, by rw [decide_eq_true h]; exact k⟩⟩
theorem within_no {i lo hi : Int} {S : Sto} {R : DQ} (h : ¬ (lo ≤ i ∧ i ≤ hi)) (k : R (.bl false) S) : c_is_within [.int i, .int lo, .int hi] S R := by unfold c_is_within; exact ⟨_, lo, hi, rfl, .inl ⟨i, rfl, by rw [decide_eq_false h]; exact k⟩⟩
@[irreducible] def c_is_tuple : DC := fun ds S R => ∃ (d : D) (lo hi : Int), ds = [d, .int lo, .int hi] ∧ ((∃ xs, d = .tup xs ∧ R (.bl (decide (lo ≤ xs.length ∧ xs.length ≤ hi))) S) ∨ (∃ t, tyD d S = some t ∧ t ≠ .tup ∧ R (.bl false) S))
theorem i_is_tuple {ds : List D} {S : Sto} {R : DQ} (h : ∃ (d : D) (lo hi : Int), ds = [d, .int lo, .int hi] ∧ ((∃ xs, d = .tup xs ∧ R (.bl (decide (lo ≤ xs.length ∧ xs.length ≤ hi))) S) ∨ (∃ t, tyD d S = some t ∧ t ≠ .tup ∧ R (.bl false) S))) : c_is_tuple ds S R := by unfold c_is_tuple; exact h
theorem u_is_tuple {ds : List D} {S : Sto} {R : DQ} (h : c_is_tuple ds S R) : ∃ (d : D) (lo hi : Int), ds = [d, .int lo, .int hi] ∧ ((∃ xs, d = .tup xs ∧ R (.bl (decide (lo ≤ xs.length ∧ xs.length ≤ hi))) S) ∨ (∃ t, tyD d S = some t ∧ t ≠ .tup ∧ R (.bl false) S)) := by unfold c_is_tuple at h; exact h
def w_is_tuple : DS := (sRet (wAnd (wIsi .tup (wVar 0)) (wChain dLe dLe (wVar 1) (wCall dLen (aCons (wVar 0) aNil)) (wVar 2))))
theorem q_is_tuple : Qd w_is_tuple 3 c_is_tuple := by
  intro ds S R hc0
  obtain ⟨d, lo, hi, rfl, ⟨xs, rfl, h⟩ | ⟨t, ht, hn, h⟩⟩ := u_is_tuple hc0
  · show (match D.bl (decide (lo ≤ (xs.length : Int))) with
      | .bl true => Fin R (.bl (decide ((xs.length : Int) ≤ hi))) S
      | .bl false => Fin R (.bl false) S
      | _ => False)
    by_cases h1 : lo ≤ (xs.length : Int)
    · rw [decide_eq_true h1]
      show Fin R (.bl (decide ((xs.length : Int) ≤ hi))) S
      by_cases h2 : (xs.length : Int) ≤ hi
      · rw [decide_eq_true ⟨h1, h2⟩] at h; rw [decide_eq_true h2]; exact Fin.now h
      · rw [decide_eq_false fun z => h2 z.2] at h; rw [decide_eq_false h2]; exact Fin.now h
    · rw [decide_eq_false h1]
      rw [decide_eq_false fun z => h1 z.1] at h
      exact Fin.now h
  · conv => whnf
    rw [ht]
    cases t <;> first
      | exact absurd rfl hn
      | exact Fin.now h
theorem tuple_yes {xs : List D} {lo hi : Int} {S : Sto} {R : DQ} (h : lo ≤ xs.length ∧ xs.length ≤ hi) (k : R (.bl true) S) : c_is_tuple [.tup xs, .int lo, .int hi] S R := by unfold c_is_tuple; exact ⟨_, lo, hi, rfl, .inl ⟨xs, rfl, by rw [decide_eq_true h]; exact k⟩⟩
theorem tuple_no {xs : List D} {lo hi : Int} {S : Sto} {R : DQ} (h : ¬ (lo ≤ xs.length ∧ xs.length ≤ hi)) (k : R (.bl false) S) : c_is_tuple [.tup xs, .int lo, .int hi] S R := by unfold c_is_tuple; exact ⟨_, lo, hi, rfl, .inl ⟨xs, rfl, by rw [decide_eq_false h]; exact k⟩⟩
@[irreducible] def c_is_row : DC := fun ds S R => ∃ (xs : List D) (lo hi : Int), ds = [.lst xs, .int lo, .int hi] ∧ lo ≤ xs.length ∧ xs.length ≤ hi ∧ R (.bl true) S
theorem i_is_row {ds : List D} {S : Sto} {R : DQ} (h : ∃ (xs : List D) (lo hi : Int), ds = [.lst xs, .int lo, .int hi] ∧ lo ≤ xs.length ∧ xs.length ≤ hi ∧ R (.bl true) S) : c_is_row ds S R := by unfold c_is_row; exact h
theorem u_is_row {ds : List D} {S : Sto} {R : DQ} (h : c_is_row ds S R) : ∃ (xs : List D) (lo hi : Int), ds = [.lst xs, .int lo, .int hi] ∧ lo ≤ xs.length ∧ xs.length ≤ hi ∧ R (.bl true) S := by unfold c_is_row at h; exact h
def w_is_row : DS := (sRet (wAnd (wIsi2 .lst .tup (wVar 0)) (wChain dLe dLe (wVar 1) (wCall dLen (aCons (wVar 0) aNil)) (wVar 2))))
theorem q_is_row : Qd w_is_row 3 c_is_row := by
  intro ds S R hc0
  obtain ⟨xs, lo, hi, rfl, h1, h2, h⟩ := u_is_row hc0
  show (match D.bl (decide (lo ≤ (xs.length : Int))) with
      | .bl true => Fin R (.bl (decide ((xs.length : Int) ≤ hi))) S
      | .bl false => Fin R (.bl false) S
      | _ => False)
  rw [decide_eq_true h1]
  show Fin R (.bl (decide ((xs.length : Int) ≤ hi))) S
  rw [decide_eq_true h2]; exact Fin.now h
/-! a comprehension of flags that are all the same -/
theorem lc_flag {α : Type} {g : DG} {t : DT} {e : DE} {vs : List Nat} {env : Dd.Env} {S : Sto} {R : DQ} {gd : Sto → Prop} {xs : List α} {E : α → D} (b : Bool) (hz : xs.length ≤ 100000) (hg : ∀ S', Ext S S' → gd S')
    (ht : ∀ x ∈ xs, Turn1 g t e (vs.foldr (fun i e => e.set i none) env) S (E x) (some (.bl b))) (h : R (.lst (xs.map fun _ => .bl b)) S) : ∀ T, S T = none → compD T g t e (vs.foldr (fun i e => e.set i none) env) gd R [] (xs.map E) (put S T (.lst [])) :=
  lc_all xs E (fun _ => .bl b) (sz hz) hg ht h
@[irreducible] def c_is_lot : DC := fun ds S R => ∃ lot m, ds = [eI lot, .int m] ∧ VLot m lot ∧ m ≤ 6 ∧ R (.bl true) S
theorem i_is_lot {ds : List D} {S : Sto} {R : DQ} (h : ∃ lot m, ds = [eI lot, .int m] ∧ VLot m lot ∧ m ≤ 6 ∧ R (.bl true) S) : c_is_lot ds S R := by unfold c_is_lot; exact h
theorem u_is_lot {ds : List D} {S : Sto} {R : DQ} (h : c_is_lot ds S R) : ∃ lot m, ds = [eI lot, .int m] ∧ VLot m lot ∧ m ≤ 6 ∧ R (.bl true) S := by unfold c_is_lot at h; exact h
def w_is_lot : DS := (sSeq (sIf (tOr' (tNot' (asB (wIsi .tup (wVar 0)))) (tNot' (asB (wCall dAll (aCons (wLc (iSeq (wVar 0)) (gN 2) tYes' (wCall c_is_within (aCons (wVar 2) (aCons (wC (.int 0)) (aCons (wSub (wVar 1) (wC (.int 1))) aNil)))) [2]) aNil))))) (sRet (wC (.bl false))) sNil) (sRet (wCall dAll (aCons (wLc (iZip2 (aCons (wVar 0) (aCons (wSl (wVar 0) (oSome (wC (.int 1))) oNone) aNil))) (gT 2 (gCons' (gN 2) (gCons' (gN 3) gNil'))) tYes' (w2 dLt (wVar 2) (wVar 3)) [2, 3]) aNil))))
theorem q_is_lot : Qd w_is_lot 4 c_is_lot := by
  intro ds S R hc0
  obtain ⟨lot, m, rfl, hv, hm, h⟩ := u_is_lot hc0
  have hl := VLot.few hv hm
  show ∀ T, S T = none → compD T _ _ _ ([2].foldr (fun i e => e.set i none) _) _ _ [] (lot.map D.int) (put S T (.lst []))
  refine lc_flag true (Nat.le_trans hl (by decide)) (fun _ _ => trivial) ?_ ?_
  · intro v hv' S' x Kt Kf k
    have := hv.mem v hv'
    exact within_yes ⟨this.1, by show v ≤ m - 1; omega⟩ k
  · refine dAll_true (xs := lot) ?_
    show ∀ T, S T = none → compD T _ _ _ ([2, 3].foldr (fun i e => e.set i none) _) _ _ [] (zipD (lot.map D.int) (cutL (lot.map D.int) (some 1) none)) (put S T (.lst []))
    have e : cutL (lot.map D.int) (some 1) none = (lot.drop 1).map D.int := by
      unfold cutL
      rw [List.map_drop, List.length_map]
      have e1 : HT.sIx lot.length 0 (some 1) = min 1 lot.length := by
        unfold HT.sIx
        simp
      have e2 : HT.sIx lot.length lot.length none = lot.length := rfl
      rw [e1, e2]
      cases lot with
      | nil => rfl
      | cons x xs =>
        rw [List.length_cons, show min 1 (xs.length + 1) = 1 by omega]
        exact List.take_of_length_le (by simp)
    rw [e]
    refine lc_zip (fun p => .bl (decide (p.1 < p.2))) (Nat.le_trans hl (by decide)) (fun _ _ => trivial) ?_ ?_
    · intro p _ S' x Kt Kf k
      refine ⟨rfl, ?_⟩
      exact k
    · refine dAll_fn ?_
      rw [List.all_eq_true.mpr ?_]
      · exact Fin.now h
      · intro p hp
        refine decide_eq_true ?_
        have := hv.up
        obtain ⟨i, hi, rfl⟩ := List.mem_iff_getElem.mp hp
        rw [List.getElem_zip]
        show lot[i]'_ < (lot.drop 1)[i]'_
        rw [List.getElem_drop]
        exact List.pairwise_iff_getElem.mp hv.up _ _ _ _ (by omega)
@[irreducible] def c_is_form : DC := fun ds S R => ∃ form, ds = [eI form] ∧ VForm form ∧ R (.bl true) S
theorem i_is_form {ds : List D} {S : Sto} {R : DQ} (h : ∃ form, ds = [eI form] ∧ VForm form ∧ R (.bl true) S) : c_is_form ds S R := by unfold c_is_form; exact h
theorem u_is_form {ds : List D} {S : Sto} {R : DQ} (h : c_is_form ds S R) : ∃ form, ds = [eI form] ∧ VForm form ∧ R (.bl true) S := by unfold c_is_form at h; exact h
def w_is_form : DS := (sSeq (sIf (tOr' (tNot' (asB (wCall c_is_tuple (aCons (wVar 0) (aCons (wC (.int 1)) (aCons (wC (.int 8)) aNil)))))) (tNot' (asB (wCall dAll (aCons (wLc (iSeq (wVar 0)) (gN 2) tYes' (wCall c_is_within (aCons (wVar 2) (aCons (wC (.int 2)) (aCons (wC (.int 6)) aNil)))) [2]) aNil))))) (sRet (wC (.bl false))) sNil) (sSeq (sAsg (wC (.int 1)) (gN 1)) (sSeq (sFor (iSeq (wVar 0)) (gN 2) (sAsg (wMul (wVar 1) (wVar 2)) (gN 1))) (sRet (w2 dLe (wVar 1) (wC (.int 4000)))))))
theorem q_is_form : Qd w_is_form 3 c_is_form := by
  intro ds S R hc0
  obtain ⟨form, rfl, hv, h⟩ := u_is_form hc0
  have h8 := hv.l8
  refine tuple_yes ⟨?_, ?_⟩ ?_
  · rw [List.length_map]; have := hv.l1; omega
  · rw [List.length_map]; omega
  show ∀ T, S T = none → compD T _ _ _ ([2].foldr (fun i e => e.set i none) _) _ _ [] (form.map D.int) (put S T (.lst []))
  refine lc_flag (xs := form) true (by omega) (fun _ _ => trivial) ?_ ?_
  · intro v hv' S' x Kt Kf k
    exact within_yes (hv.m v hv') k
  refine dAll_true (xs := form) ?_
  show forD _ _ _ _ (form.map D.int) [some (eI form), some (.int 1), none] S
  refine for_by D.int (fun r env S' => S' = S ∧ ∃ x p, env = [some (eI form), some (.int p), x] ∧ 0 ≤ p ∧ p * prod r ≤ 4000 ∧ ∀ x ∈ r, 2 ≤ x ∧ x ≤ 6) ?_ ?_ form _ S ?_
  · rintro env S' ⟨rfl, x, p, rfl, h0, hp, -⟩
    refine ⟨trivial, ?_⟩
    show Fin R (.bl (decide (p ≤ 4000))) S'
    rw [decide_eq_true (by simpa [prod] using hp)]
    exact Fin.now h
  · rintro m r env S' N hN ⟨rfl, x, p, rfl, h0, hp, hm⟩
    refine ⟨trivial, ?_⟩
    show CMul p m ∧ N [some (eI form), some (.int (p * m)), some (.int m)] S'
    have := hm m List.mem_cons_self
    have e : p * m * prod r = p * prod (m :: r) := by show _ = p * (m * prod r); rw [Int.mul_assoc]
    refine ⟨.inr ⟨by omega, by omega⟩, hN _ _ ⟨rfl, _, p * m, rfl, Int.mul_nonneg h0 (by omega), by rw [e]; exact hp, fun x hx => hm x (List.mem_cons_of_mem _ hx)⟩⟩
  · exact ⟨rfl, none, 1, rfl, by decide, by rw [Int.one_mul]; exact hv.p, hv.m⟩
end K78
set_option Elab.async false
set_option linter.all false
set_option maxRecDepth 100000
set_option maxHeartbeats 1000000
namespace K78
open PySem PySem.Spec PyProof.Rows L2 Dd Mir
theorem _root_.Mir.Each.len {α β : Type} {p : α → β → Prop} {xs : List α} {ys : List β} (h : Each p xs ys) : ys.length = xs.length := h.1
/-- a report, a number, a tuple of tuples -/
@[irreducible] def c_report_in : DC := fun ds S R => ∃ form d, ds = [eI form, d] ∧ VForm form ∧ ((∃ r, d = eR r ∧ VRep form r ∧ R (.bl true) S) ∨ (∃ i, d = .int i ∧ R (.bl false) S) ∨ (∃ xs : List (List D), d = .tup (xs.map D.tup) ∧ R (.bl false) S))
theorem i_report_in {ds : List D} {S : Sto} {R : DQ} (h : ∃ form d, ds = [eI form, d] ∧ VForm form ∧ ((∃ r, d = eR r ∧ VRep form r ∧ R (.bl true) S) ∨ (∃ i, d = .int i ∧ R (.bl false) S) ∨ (∃ xs : List (List D), d = .tup (xs.map D.tup) ∧ R (.bl false) S))) : c_report_in ds S R := by unfold c_report_in; exact h
theorem u_report_in {ds : List D} {S : Sto} {R : DQ} (h : c_report_in ds S R) : ∃ form d, ds = [eI form, d] ∧ VForm form ∧ ((∃ r, d = eR r ∧ VRep form r ∧ R (.bl true) S) ∨ (∃ i, d = .int i ∧ R (.bl false) S) ∨ (∃ xs : List (List D), d = .tup (xs.map D.tup) ∧ R (.bl false) S)) := by unfold c_report_in at h; exact h
def w_report_in : DS := (sSeq (sIf (tNot' (asB (wCall c_is_tuple (aCons (wVar 1) (aCons (wCall dLen (aCons (wVar 0) aNil)) (aCons (wCall dLen (aCons (wVar 0) aNil)) aNil)))))) (sRet (wC (.bl false))) sNil) (sRet (wCall dAll (aCons (wLc (iZip2 (aCons (wVar 1) (aCons (wVar 0) aNil))) (gT 2 (gCons' (gN 2) (gCons' (gN 3) gNil'))) tYes' (wOr (w2 dIsN (wVar 2) (wC .non)) (wCall c_is_within (aCons (wVar 2) (aCons (wC (.int 0)) (aCons (wSub (wVar 3) (wC (.int 1))) aNil))))) [2, 3]) aNil))))
theorem q_report_in : Qd w_report_in 4 c_report_in := by
  intro ds S R hc0
  obtain ⟨form, d, rfl, hf, h⟩ := u_report_in hc0
  have h8 := hf.l8
  have h1 := hf.l1
  rcases h with ⟨r, rfl, hr, h⟩ | ⟨i, rfl, h⟩ | ⟨xs, rfl, h⟩
  · have hl := hr.1
    refine tuple_yes ⟨?_, ?_⟩ ?_
    · rw [List.length_map, List.length_map, hl]; exact Int.le_refl _
    · rw [List.length_map, List.length_map, hl]; exact Int.le_refl _
    refine lc_zip (xs := r) (ys := form) (E := eO) (E' := D.int) (fun _ => .bl true) (by omega) (fun _ _ => trivial) ?_ ?_
    · rintro ⟨o, m⟩ hp S' x Kt Kf k
      refine ⟨rfl, ?_⟩
      have := hr.zip' _ hp
      cases o with
      | none => exact k
      | some v =>
        have := this v rfl
        refine within_yes ⟨this.1, ?_⟩ k
        show v ≤ m - 1
        omega
    · exact dAll_true (Fin.now h)
  · refine (i_is_tuple ⟨_, _, _, rfl, .inr ⟨.int, rfl, (fun z => nomatch z), ?_⟩⟩)
    exact Fin.now h
  · by_cases hl : xs.length = form.length
    · refine tuple_yes ⟨?_, ?_⟩ ?_
      · rw [List.length_map, List.length_map, hl]; exact Int.le_refl _
      · rw [List.length_map, List.length_map, hl]; exact Int.le_refl _
      refine lc_zip (xs := xs) (ys := form) (E := D.tup) (E' := D.int) (fun _ => .bl false) (by omega) (fun _ _ => trivial) ?_ ?_
      · rintro ⟨o, m⟩ hp S' x Kt Kf k
        refine ⟨rfl, ?_⟩
        refine (i_is_within ⟨_, _, _, rfl, .inr ⟨.tup, rfl, (fun z => nomatch z), k⟩⟩)
      · refine dAll_false ?_ (Fin.now h)
        intro z
        have := congrArg List.length z
        rw [List.length_zip, List.length_nil] at this
        omega
    · refine tuple_no ?_ ?_
      · rw [List.length_map, List.length_map]; omega
      exact Fin.now h
@[irreducible] def c_fault_in : DC := fun ds S R => ∃ form d, ds = [eI form, d] ∧ VForm form ∧ ((∃ f, d = eI f ∧ VFlt form f ∧ R (.bl true) S) ∨ (∃ i, d = .int i ∧ R (.bl false) S) ∨ (∃ xs : List (List D), d = .tup (xs.map D.tup) ∧ R (.bl false) S))
theorem i_fault_in {ds : List D} {S : Sto} {R : DQ} (h : ∃ form d, ds = [eI form, d] ∧ VForm form ∧ ((∃ f, d = eI f ∧ VFlt form f ∧ R (.bl true) S) ∨ (∃ i, d = .int i ∧ R (.bl false) S) ∨ (∃ xs : List (List D), d = .tup (xs.map D.tup) ∧ R (.bl false) S))) : c_fault_in ds S R := by unfold c_fault_in; exact h
theorem u_fault_in {ds : List D} {S : Sto} {R : DQ} (h : c_fault_in ds S R) : ∃ form d, ds = [eI form, d] ∧ VForm form ∧ ((∃ f, d = eI f ∧ VFlt form f ∧ R (.bl true) S) ∨ (∃ i, d = .int i ∧ R (.bl false) S) ∨ (∃ xs : List (List D), d = .tup (xs.map D.tup) ∧ R (.bl false) S)) := by unfold c_fault_in at h; exact h
def w_fault_in : DS := (sRet (wAnd (wCall c_report_in (aCons (wVar 0) (aCons (wVar 1) aNil))) (w2 dNotIn (wC .non) (wVar 1))))
theorem _root_.Mir.VFlt.rep {form : List Int} {f : Flt} (h : VFlt form f) : VRep form (f.map some) := by
  refine ⟨by rw [List.length_map]; exact h.1, fun i m o hm ho v hv => ?_⟩
  rw [List.getElem?_map] at ho
  cases e : f[i]? with
  | none => rw [e] at ho; cases ho
  | some u =>
    rw [e] at ho
    have : o = some u := (Option.some.inj ho).symm
    rw [this] at hv
    cases hv
    exact h.2 i m _ hm e
theorem q_fault_in : Qd w_fault_in 2 c_fault_in := by
  intro ds S R hc0
  obtain ⟨form, d, rfl, hf, h⟩ := u_fault_in hc0
  refine i_report_in ⟨form, d, rfl, hf, ?_⟩
  rcases h with ⟨f, rfl, hr, h⟩ | ⟨i, rfl, h⟩ | ⟨xs, rfl, h⟩
  · refine .inl ⟨f.map some, eI_eR f, VFlt.rep hr, ?_⟩
    refine dIn_i (xs := f.map D.int) rfl rfl (okN.eqs (okN.map (n := 0) (fun i => .int i) f)) ?_
    have : ((f.map D.int).any fun x => eqD x .non) = false := by
      rw [List.any_map, List.any_eq_false]
      intro x _ z
      exact nomatch z
    rw [this]
    exact Fin.now h
  · exact .inr (.inl ⟨i, rfl, Fin.now h⟩)
  · exact .inr (.inr ⟨xs, rfl, Fin.now h⟩)
@[irreducible] def c_box_in : DC := fun ds S R => ∃ form box, ds = [eI form, eB box] ∧ VForm form ∧ VBox form box ∧ R (.bl true) S
theorem i_box_in {ds : List D} {S : Sto} {R : DQ} (h : ∃ form box, ds = [eI form, eB box] ∧ VForm form ∧ VBox form box ∧ R (.bl true) S) : c_box_in ds S R := by unfold c_box_in; exact h
theorem u_box_in {ds : List D} {S : Sto} {R : DQ} (h : c_box_in ds S R) : ∃ form box, ds = [eI form, eB box] ∧ VForm form ∧ VBox form box ∧ R (.bl true) S := by unfold c_box_in at h; exact h
def w_box_in : DS := (sSeq (sIf (tNot' (asB (wCall c_is_tuple (aCons (wVar 1) (aCons (wCall dLen (aCons (wVar 0) aNil)) (aCons (wCall dLen (aCons (wVar 0) aNil)) aNil)))))) (sRet (wC (.bl false))) sNil) (sRet (wCall dAll (aCons (wLc (iZip2 (aCons (wVar 1) (aCons (wVar 0) aNil))) (gT 2 (gCons' (gN 2) (gCons' (gN 3) gNil'))) tYes' (wAnd (wCall c_is_lot (aCons (wVar 2) (aCons (wVar 3) aNil))) (w2 dGt (wCall dLen (aCons (wVar 2) aNil)) (wC (.int 0)))) [2, 3]) aNil))))
theorem q_box_in : Qd w_box_in 4 c_box_in := by
  intro ds S R hc0
  obtain ⟨form, box, rfl, hf, hb, h⟩ := u_box_in hc0
  have h8 := hf.l8
  have hl := hb.1
  refine tuple_yes ⟨?_, ?_⟩ ?_
  · rw [List.length_map, List.length_map, hl]; exact Int.le_refl _
  · rw [List.length_map, List.length_map, hl]; exact Int.le_refl _
  refine lc_zip (xs := box) (ys := form) (E := eI) (E' := D.int) (fun _ => .bl true) (by omega) (fun _ _ => trivial) ?_ ?_
  · rintro ⟨o, m⟩ hp S' x Kt Kf k
    refine ⟨rfl, ?_⟩
    have hv := hb.zip' _ hp
    have hm := hf.m m (List.of_mem_zip hp).2
    refine i_is_lot ⟨o, m, rfl, hv, hm.2, ?_⟩
    show Kt (.bl (decide ((0 : Int) < ((o.map D.int).length : Int)))) S'
    rw [List.length_map, decide_eq_true (by have : 0 < o.length := List.length_pos_iff.mpr hv.ne; omega)]
    exact k
  · exact dAll_true (Fin.now h)
@[irreducible] def c_check_report : DC := fun ds S R => ∃ form r, ds = [eI form, eR r] ∧ VForm form ∧ VRep form r ∧ R .non S
theorem i_check_report {ds : List D} {S : Sto} {R : DQ} (h : ∃ form r, ds = [eI form, eR r] ∧ VForm form ∧ VRep form r ∧ R .non S) : c_check_report ds S R := by unfold c_check_report; exact h
theorem u_check_report {ds : List D} {S : Sto} {R : DQ} (h : c_check_report ds S R) : ∃ form r, ds = [eI form, eR r] ∧ VForm form ∧ VRep form r ∧ R .non S := by unfold c_check_report at h; exact h
def w_check_report : DS := (sIf (tNot' (asB (wCall c_report_in (aCons (wVar 0) (aCons (wVar 1) aNil))))) sNever sNil)
theorem q_check_report : Qd w_check_report 2 c_check_report := by
  intro ds S R hc0
  obtain ⟨form, r, rfl, hf, hr, h⟩ := u_check_report hc0
  exact i_report_in ⟨form, _, rfl, hf, .inl ⟨r, rfl, hr, Fin.now h⟩⟩
@[irreducible] def c_check_reports : DC := fun ds S R => ∃ form r r', ds = [eI form, .lst [eR r, eR r']] ∧ VForm form ∧ VRep form r ∧ VRep form r' ∧ R .non S
theorem i_check_reports {ds : List D} {S : Sto} {R : DQ} (h : ∃ form r r', ds = [eI form, .lst [eR r, eR r']] ∧ VForm form ∧ VRep form r ∧ VRep form r' ∧ R .non S) : c_check_reports ds S R := by unfold c_check_reports; exact h
theorem u_check_reports {ds : List D} {S : Sto} {R : DQ} (h : c_check_reports ds S R) : ∃ form r r', ds = [eI form, .lst [eR r, eR r']] ∧ VForm form ∧ VRep form r ∧ VRep form r' ∧ R .non S := by unfold c_check_reports at h; exact h
def w_check_reports : DS := (sSeq (sIf (tNot' (asB (wCall c_is_row (aCons (wVar 1) (aCons (wC (.int 1)) (aCons (wC (.int 20)) aNil)))))) sNever sNil) (sFor (iEnum' (aCons (wVar 1) aNil)) (gT 2 (gCons' (gN 2) (gCons' (gN 3) gNil'))) (sIf (tNot' (asB (wCall c_report_in (aCons (wVar 0) (aCons (wVar 3) aNil))))) sNever sNil)))
theorem q_check_reports : Qd w_check_reports 4 c_check_reports := by
  intro ds S R hc0
  obtain ⟨form, r, r', rfl, hf, hr, hr', h⟩ := u_check_reports hc0
  refine i_is_row ⟨_, _, _, rfl, (by show (1 : Int) ≤ 2; decide), (by show (2 : Int) ≤ 20; decide), ?_⟩
  refine ⟨trivial, ?_⟩
  refine ⟨trivial, rfl, ?_⟩
  refine i_report_in ⟨form, _, rfl, hf, .inl ⟨r, rfl, hr, ?_⟩⟩
  refine ⟨trivial, rfl, ?_⟩
  refine i_report_in ⟨form, _, rfl, hf, .inl ⟨r', rfl, hr', ?_⟩⟩
  exact ⟨trivial, Fin.now h⟩
@[irreducible] def c_held : DC := fun ds S R => ∃ box f, ds = [eB box, eI f] ∧ box.length ≤ 100 ∧ R (.bl (held box f)) S
theorem i_held {ds : List D} {S : Sto} {R : DQ} (h : ∃ box f, ds = [eB box, eI f] ∧ box.length ≤ 100 ∧ R (.bl (held box f)) S) : c_held ds S R := by unfold c_held; exact h
theorem u_held {ds : List D} {S : Sto} {R : DQ} (h : c_held ds S R) : ∃ box f, ds = [eB box, eI f] ∧ box.length ≤ 100 ∧ R (.bl (held box f)) S := by unfold c_held at h; exact h
def w_held : DS := (sRet (wCall dAll (aCons (wLc (iZip2 (aCons (wVar 0) (aCons (wVar 1) aNil))) (gT 2 (gCons' (gN 2) (gCons' (gN 3) gNil'))) tYes' (w2 dIn (wVar 3) (wVar 2)) [2, 3]) aNil)))
theorem q_held : Qd w_held 4 c_held := by
  intro ds S R hc0
  obtain ⟨box, f, rfl, hz, h⟩ := u_held hc0
  refine lc_zip (xs := box) (ys := f) (E := eI) (E' := D.int) (fun p => .bl (decide (p.2 ∈ p.1))) (by omega) (fun _ _ => trivial) ?_ ?_
  · rintro ⟨l, v⟩ hp S' x Kt Kf k
    refine ⟨rfl, ?_⟩
    exact dIn_fn (E := D.int) (n := 0) eq_int (fun i => .int i) (by decide) (xs := l) rfl k
  · exact dAll_fn (Fin.now h)
@[irreducible] def c_agreeing : DC := fun ds S R => ∃ r f, ds = [eR r, eI f] ∧ r.length ≤ 100 ∧ R (.bl (agr r f)) S
theorem i_agreeing {ds : List D} {S : Sto} {R : DQ} (h : ∃ r f, ds = [eR r, eI f] ∧ r.length ≤ 100 ∧ R (.bl (agr r f)) S) : c_agreeing ds S R := by unfold c_agreeing; exact h
theorem u_agreeing {ds : List D} {S : Sto} {R : DQ} (h : c_agreeing ds S R) : ∃ r f, ds = [eR r, eI f] ∧ r.length ≤ 100 ∧ R (.bl (agr r f)) S := by unfold c_agreeing at h; exact h
def w_agreeing : DS := (sRet (wCall dAll (aCons (wLc (iZip2 (aCons (wVar 0) (aCons (wVar 1) aNil))) (gT 2 (gCons' (gN 2) (gCons' (gN 3) gNil'))) tYes' (wOr (w2 dIsN (wVar 2) (wC .non)) (w2 dEq (wVar 2) (wVar 3))) [2, 3]) aNil)))
theorem q_agreeing : Qd w_agreeing 4 c_agreeing := by
  intro ds S R hc0
  obtain ⟨r, f, rfl, hz, h⟩ := u_agreeing hc0
  refine lc_zip (xs := r) (ys := f) (E := eO) (E' := D.int) (fun p => .bl (p.1.isNone || decide (p.1 = some p.2))) (by omega) (fun _ _ => trivial) ?_ ?_
  · rintro ⟨o, v⟩ hp S' x Kt Kf k
    refine ⟨rfl, ?_⟩
    cases o with
    | none => exact k
    | some u =>
      refine dEq_int ?_
      have e : (((some u : Option Int).isNone || decide (some u = some v))) = decide (u = v) := by simp
      have k : Kt (.bl ((some u : Option Int).isNone || decide (some u = some v))) S' := k
      rw [e] at k
      exact k
  · exact dAll_fn (Fin.now h)
@[irreducible] def c_lies : DC := fun ds S R => ∃ a b, ds = [eB a, eB b] ∧ a.length ≤ 100 ∧ (∀ l ∈ a, l.length ≤ 100) ∧ R (.bl (lies a b)) S
theorem i_lies {ds : List D} {S : Sto} {R : DQ} (h : ∃ a b, ds = [eB a, eB b] ∧ a.length ≤ 100 ∧ (∀ l ∈ a, l.length ≤ 100) ∧ R (.bl (lies a b)) S) : c_lies ds S R := by unfold c_lies; exact h
theorem u_lies {ds : List D} {S : Sto} {R : DQ} (h : c_lies ds S R) : ∃ a b, ds = [eB a, eB b] ∧ a.length ≤ 100 ∧ (∀ l ∈ a, l.length ≤ 100) ∧ R (.bl (lies a b)) S := by unfold c_lies at h; exact h
def w_lies : DS := (sRet (wCall dAll (aCons (wLc (iZip2 (aCons (wVar 0) (aCons (wVar 1) aNil))) (gT 2 (gCons' (gN 2) (gCons' (gN 3) gNil'))) tYes' (wCall dAll (aCons (wLc (iSeq (wVar 2)) (gN 4) tYes' (w2 dIn (wVar 4) (wVar 3)) [4]) aNil)) [2, 3]) aNil)))
theorem q_lies : Qd w_lies 5 c_lies := by
  intro ds S R hc0
  obtain ⟨a, b, rfl, hz, hl, h⟩ := u_lies hc0
  refine lc_zip (xs := a) (ys := b) (E := eI) (E' := eI) (fun p => .bl (p.1.all fun v => decide (v ∈ p.2))) (by omega) (fun _ _ => trivial) ?_ ?_
  · rintro ⟨l, w⟩ hp S' x Kt Kf k
    refine ⟨rfl, ?_⟩
    have := hl l (List.of_mem_zip hp).1
    refine lc_all l D.int (fun v => .bl (decide (v ∈ w))) (sz (by omega)) (fun _ _ => trivial) ?_ ?_
    · intro v _ S2 x2 Kt2 Kf2 k2
      exact dIn_fn (E := D.int) (n := 0) eq_int (fun i => .int i) (by decide) (xs := w) rfl k2
    · exact dAll_fn k
  · exact dAll_fn (Fin.now h)
def meetN (a b : Box) : D := if [] ∈ meet a b then .non else eB (meet a b)
@[irreducible] def c_meeting : DC := fun ds S R => ∃ a b, ds = [eB a, eB b] ∧ a.length ≤ 100 ∧ (∀ l ∈ a, l.length ≤ 100) ∧ R (meetN a b) S
theorem i_meeting {ds : List D} {S : Sto} {R : DQ} (h : ∃ a b, ds = [eB a, eB b] ∧ a.length ≤ 100 ∧ (∀ l ∈ a, l.length ≤ 100) ∧ R (meetN a b) S) : c_meeting ds S R := by unfold c_meeting; exact h
theorem u_meeting {ds : List D} {S : Sto} {R : DQ} (h : c_meeting ds S R) : ∃ a b, ds = [eB a, eB b] ∧ a.length ≤ 100 ∧ (∀ l ∈ a, l.length ≤ 100) ∧ R (meetN a b) S := by unfold c_meeting at h; exact h
def w_meeting : DS := (sSeq (sAsg (wCall dTuple (aCons (wLc (iZip2 (aCons (wVar 0) (aCons (wVar 1) aNil))) (gT 2 (gCons' (gN 3) (gCons' (gN 4) gNil'))) tYes' (wCall dTuple (aCons (wLc (iSeq (wVar 3)) (gN 5) (asB (w2 dIn (wVar 5) (wVar 4))) (wVar 5) [5]) aNil)) [3, 4]) aNil)) (gN 2)) (sRet (wIf (asB (w2 dIn (wTup aNil) (wVar 2))) (wC .non) (wVar 2))))
theorem q_meeting : Qd w_meeting 6 c_meeting := by
  intro ds S R hc0
  obtain ⟨a, b, rfl, hz, hl, h⟩ := u_meeting hc0
  refine lc_zip (xs := a) (ys := b) (E := eI) (E' := eI) (fun p => eI (p.1.filter fun v => decide (v ∈ p.2))) (by omega) (fun _ _ => trivial) ?_ ?_
  · rintro ⟨l, w⟩ hp S' x Kt Kf k
    refine ⟨rfl, ?_⟩
    have := hl l (List.of_mem_zip hp).1
    refine lc_filter l D.int (fun v => decide (v ∈ w)) D.int (sz (by omega)) (fun _ _ => trivial) ?_ ?_
    · intro v _ S2 x2 Kt2 Kf2 k2
      refine dIn_fn (E := D.int) (n := 0) eq_int (fun i => .int i) (by decide) (xs := w) rfl ?_
      by_cases e : v ∈ w
      · rw [decide_eq_true e]; rw [decide_eq_true e] at k2; exact k2
      · rw [decide_eq_false e]; rw [decide_eq_false e] at k2; exact k2
    · exact k
  · have e : (List.zip a b).map (fun p => eI (p.1.filter fun v => decide (v ∈ p.2))) = (meet a b).map eI := by
      unfold meet; rw [List.map_map]; rfl
    rw [e]
    refine ⟨sz (Nat.zero_le _), ?_⟩
    refine dIn_fn (E := eI) (n := 1) eq_eI okI (by decide) (xs := meet a b) (y := []) (e := eB (meet a b)) (S := S) rfl ?_
    unfold meetN at h
    by_cases e : [] ∈ meet a b
    · rw [if_pos e] at h; rw [dT e]; exact Fin.now h
    · rw [if_neg e] at h; rw [dF e]; exact Fin.now h
@[irreducible] def c_report_box : DC := fun ds S R => ∃ form r, ds = [eI form, eR r] ∧ r.length ≤ 100 ∧ (∀ m ∈ form, 0 ≤ m ∧ m ≤ 6) ∧ R (eB (repBox form r)) S
theorem i_report_box {ds : List D} {S : Sto} {R : DQ} (h : ∃ form r, ds = [eI form, eR r] ∧ r.length ≤ 100 ∧ (∀ m ∈ form, 0 ≤ m ∧ m ≤ 6) ∧ R (eB (repBox form r)) S) : c_report_box ds S R := by unfold c_report_box; exact h
theorem u_report_box {ds : List D} {S : Sto} {R : DQ} (h : c_report_box ds S R) : ∃ form r, ds = [eI form, eR r] ∧ r.length ≤ 100 ∧ (∀ m ∈ form, 0 ≤ m ∧ m ≤ 6) ∧ R (eB (repBox form r)) S := by unfold c_report_box at h; exact h
def w_report_box : DS := (sRet (wCall dTuple (aCons (wLc (iZip2 (aCons (wVar 1) (aCons (wVar 0) aNil))) (gT 2 (gCons' (gN 2) (gCons' (gN 3) gNil'))) tYes' (wIf (asB (w2 dIsN (wVar 2) (wC .non))) (wTupRg (rg1 (wVar 3))) (wTup (aCons (wVar 2) aNil))) [2, 3]) aNil)))
theorem q_report_box : Qd w_report_box 4 c_report_box := by
  intro ds S R hc0
  obtain ⟨form, r, rfl, hz, hm, h⟩ := u_report_box hc0
  refine lc_zip (xs := r) (ys := form) (E := eO) (E' := D.int) (fun p => eI (match p.1 with
    | none => rng p.2
    | some v => [v])) (by omega) (fun _ _ => trivial) ?_ ?_
  · rintro ⟨o, m⟩ hp S' x Kt Kf k
    refine ⟨rfl, ?_⟩
    have := hm m (List.of_mem_zip hp).2
    cases o with
    | none =>
      refine ⟨⟨by omega, by omega, by omega, by omega, by omega⟩, ?_⟩
      rw [Int.sub_zero, rngD_rng]
      exact k
    | some v => exact ⟨sz (Nat.le_of_ble_eq_true rfl), k⟩
  · have e : (List.zip r form).map (fun p => eI (match p.1 with
    | none => rng p.2
    | some v => [v])) = (repBox form r).map eI := by unfold repBox; rw [List.map_map]; rfl
    rw [e]
    exact Fin.now h
theorem cut_to {α : Type} {xs : List α} {i : Nat} (h : i ≤ xs.length) : cutL xs none (some (i : Int)) = xs.take i := by
  unfold cutL
  have e1 : HT.sIx xs.length 0 none = 0 := rfl
  have e2 : HT.sIx xs.length xs.length (some (i : Int)) = i := by show (if (i : Int) < 0 then ((i : Int) + xs.length).toNat else min (i : Int).toNat xs.length) = i; rw [if_neg (by omega), Int.toNat_natCast]; omega
  rw [e1, e2]; rfl
theorem cut_from {α : Type} {xs : List α} {i : Nat} (h : i ≤ xs.length) : cutL xs (some (i : Int)) none = xs.drop i := by
  unfold cutL
  have e1 : HT.sIx xs.length xs.length none = xs.length := rfl
  have e2 : HT.sIx xs.length 0 (some (i : Int)) = i := by show (if (i : Int) < 0 then ((i : Int) + xs.length).toNat else min (i : Int).toNat xs.length) = i; rw [if_neg (by omega), Int.toNat_natCast]; omega
  rw [e1, e2]
  exact List.take_of_length_le (by simp)
@[irreducible] def c_with_lot : DC := fun ds S R => ∃ b l, ∃ i : Nat, ds = [eB b, .int i, eI l] ∧ i < b.length ∧ b.length ≤ 100 ∧ R (eB (withLot b i l)) S
theorem i_with_lot {ds : List D} {S : Sto} {R : DQ} (h : ∃ b l, ∃ i : Nat, ds = [eB b, .int i, eI l] ∧ i < b.length ∧ b.length ≤ 100 ∧ R (eB (withLot b i l)) S) : c_with_lot ds S R := by unfold c_with_lot; exact h
theorem u_with_lot {ds : List D} {S : Sto} {R : DQ} (h : c_with_lot ds S R) : ∃ b l, ∃ i : Nat, ds = [eB b, .int i, eI l] ∧ i < b.length ∧ b.length ≤ 100 ∧ R (eB (withLot b i l)) S := by unfold c_with_lot at h; exact h
def w_with_lot : DS := (sRet (wAdd (wAdd (wSl (wVar 0) oNone (oSome (wVar 1))) (wTup (aCons (wVar 2) aNil))) (wSl (wVar 0) (oSome (wAdd (wVar 1) (wC (.int 1)))) oNone)))
theorem q_with_lot : Qd w_with_lot 3 c_with_lot := by
  intro ds S R hc0
  obtain ⟨b, l, i, rfl, hi, hb, h⟩ := u_with_lot hc0
  have hl : (b.map eI).length = b.length := List.length_map _
  have a1 : cutL (b.map eI) none (some (i : Int)) = (b.take i).map eI := by rw [cut_to (by omega), List.map_take]
  have a2 : cutL (b.map eI) (some ((i : Int) + 1)) none = (b.drop (i + 1)).map eI := by
    rw [show ((i : Int) + 1) = ((i + 1 : Nat) : Int) by omega, cut_from (by omega), List.map_drop]
  have t1 : ((b.take i).map eI).length = i := by rw [List.length_map, List.length_take]; omega
  have t2 : ((b.drop (i + 1)).map eI).length = b.length - (i + 1) := by rw [List.length_map, List.length_drop]
  refine ⟨sz (Nat.le_of_ble_eq_true rfl), ?_, ?_, ?_⟩
  · rw [a1, t1]; exact sz (by simp; omega)
  · rw [a1, a2, List.length_append, t1, t2]; exact sz (by simp; omega)
  · rw [a1, a2]
    have e : D.tup ((b.take i).map eI ++ [eI l] ++ (b.drop (i + 1)).map eI) = eB (withLot b i l) := by
      unfold withLot
      rw [show eB (b.take i ++ [l] ++ b.drop (i + 1)) = D.tup ((b.take i ++ [l] ++ b.drop (i + 1)).map eI) from rfl, List.map_append, List.map_append]; rfl
    rw [← e] at h
    exact Fin.now h
end K78
set_option Elab.async false
set_option linter.all false
set_option maxRecDepth 100000
set_option maxHeartbeats 1000000
namespace Mir
def grid {α : Type} (opts : Int → List α) (form : List Int) : List (List α) := form.foldl (fun found m => found.flatMap fun f => (opts m).map fun v => f ++ [v]) [[]]
theorem grid_snoc {α : Type} (opts : Int → List α) (form : List Int) (m : Int) : grid opts (form ++ [m]) = (grid opts form).flatMap fun f => (opts m).map fun v => f ++ [v] := by
  unfold grid; rw [List.foldl_append]; rfl
theorem faults_grid (form : List Int) : faults form = grid rng form := rfl
theorem grid_len {α : Type} (opts : Int → List α) : ∀ (form : List Int), (grid opts form).length = (form.map fun m => (opts m).length).foldr (· * ·) 1 := by
  intro form
  have key : ∀ (r : List Int) (done : List Int), (grid opts (done ++ r)).length = (grid opts done).length * (r.map fun m => (opts m).length).foldr (· * ·) 1 := by
    intro r
    induction r with
    | nil => intro d; simp
    | cons m r ih =>
      intro d
      have := ih (d ++ [m])
      rw [List.append_assoc] at this
      rw [show d ++ m :: r = d ++ ([m] ++ r) from rfl, this, grid_snoc]
      have e : ((grid opts d).flatMap fun f => (opts m).map fun v => f ++ [v]).length = (grid opts d).length * (opts m).length := by
        induction grid opts d with
        | nil => simp
        | cons x xs ih => rw [List.flatMap_cons, List.length_append, ih, List.length_map, List.length_cons, Nat.add_mul, Nat.one_mul, Nat.add_comm]
      rw [e, List.map_cons, List.foldr_cons, Nat.mul_assoc]
  have := key form []
  simpa [grid] using this
theorem mem_grid {α : Type} {opts : Int → List α} : ∀ {form : List Int} {x : List α}, x ∈ grid opts form ↔ Each (fun m v => v ∈ opts m) form x := by
  intro form
  have key : ∀ (n : Nat) (form : List Int), form.length = n → ∀ x, x ∈ grid opts form ↔ Each (fun m v => v ∈ opts m) form x := by
    intro n
    induction n with
    | zero =>
      intro form hf x
      rw [List.length_eq_zero_iff] at hf
      subst hf
      show x ∈ [[]] ↔ _
      rw [List.mem_singleton]
      constructor
      · rintro rfl; exact Each.nil
      · intro h
        exact List.length_eq_zero_iff.mp h.1
    | succ n ih =>
      intro form hf x
      have hn : form ≠ [] := fun z => by rw [z] at hf; cases hf
      obtain ⟨f', m, rfl⟩ : ∃ f' m, form = f' ++ [m] := ⟨form.dropLast, form.getLast hn, (List.dropLast_concat_getLast hn).symm⟩
      rw [grid_snoc, List.mem_flatMap]
      have hl : f'.length = n := by simpa using hf
      constructor
      · rintro ⟨y, hy, hx⟩
        obtain ⟨v, hv, rfl⟩ := List.mem_map.mp hx
        have hy := (ih f' hl y).mp hy
        refine ⟨by simp [hy.1], fun i a b ha hb => ?_⟩
        by_cases hi : i < f'.length
        · rw [List.getElem?_append_left hi] at ha
          rw [List.getElem?_append_left (by rw [hy.1]; exact hi)] at hb
          exact hy.2 i a b ha hb
        · rw [List.getElem?_append_right (by omega)] at ha
          rw [List.getElem?_append_right (by rw [hy.1]; omega)] at hb
          rw [hy.1] at hb
          cases e : i - f'.length with
          | zero => rw [e] at ha hb; simp at ha hb; subst ha hb; exact hv
          | succ j => rw [e] at ha; simp at ha
      · intro h
        have hx : x ≠ [] := fun z => by have := h.1; rw [z] at this; simp at this
        obtain ⟨y, v, rfl⟩ : ∃ y v, x = y ++ [v] := ⟨x.dropLast, x.getLast hx, (List.dropLast_concat_getLast hx).symm⟩
        have hyl : y.length = f'.length := by have := h.1; simpa using this
        refine ⟨y, (ih f' hl y).mpr ⟨hyl, fun i a b ha hb => ?_⟩, List.mem_map.mpr ⟨v, ?_, rfl⟩⟩
        · have hi : i < f'.length := (List.getElem?_eq_some_iff.mp ha).1
          exact h.2 i a b (by rw [List.getElem?_append_left hi]; exact ha) (by rw [List.getElem?_append_left (by omega)]; exact hb)
        · exact h.2 f'.length m v (by rw [List.getElem?_append_right (Nat.le_refl _)]; simp) (by rw [← hyl, List.getElem?_append_right (Nat.le_refl _)]; simp)
  exact fun {x} => key form.length form rfl x
end Mir
namespace K78
open PySem PySem.Spec PyProof.Rows L2 Dd Mir
def w_grid (it : DI) : DS := sSeq (sAsg (wLst (aCons (wTup aNil) aNil)) (gN 1)) (sSeq (sFor (iSeq (wVar 0)) (gN 2) (sSeq (sAsg (wNew aNil) (gN 3)) (sSeq (sFor (iSeq (wVar 1)) (gN 4) (sDrop (wMt dExt (wVar 3) (aCons (wLc it (gN 5) tYes' (wAdd (wVar 4) (wTup (aCons (wVar 5) aNil))) [5]) aNil)))) (sAsg (wVar 3) (gN 1))))) (sRet (wVar 1)))
abbrev tE {α : Type} (E : α → D) (x : List α) : D := .tup (x.map E)
theorem q_grid {α : Type} {E : α → D} {opts : Int → List α} {it : DI} {form : List Int} {S : Sto} {R : DQ} (h8 : form.length ≤ 8) (hb : ∀ done rest, form = done ++ rest → (grid opts done).length ≤ 100000)
    (hit : ∀ m ∈ form, (opts m).length ≤ 100000 ∧ ∀ (x1 x3 x4 x5 : Option D) S (Rk : List D → (Sto → Prop) → Sto → Prop), Rk ((opts m).map E) (fun _ => True) S → it [some (eI form), x1, some (.int m), x3, x4, x5] S Rk)
    (h : R (.lst ((grid opts form).map (tE E))) S) : w_grid it { nx := fun _ S' => Fin R .non S', rt := Fin R } (startD 6 [eI form]) S := by
  refine ⟨sz (Nat.zero_le _), sz (Nat.le_of_ble_eq_true rfl), ?_⟩
  let Held : D → List D → Sto → Prop := fun d xs S' => d = .lst xs ∨ ∃ a, d = .loc a ∧ S a = none ∧ S' a = some (.lst xs)
  have hsq : ∀ d xs S', Held d xs S' → seqOf d S' = some xs := by
    intro d xs S' hd
    rcases hd with rfl | ⟨a, rfl, -, e⟩
    · rfl
    · show (match S' a with
        | some (.lst xs) => some xs
        | _ => none) = _
      rw [e]
  refine for_by D.int (fun r env S' => ∃ done d x2 x3 x4 x5, form = done ++ r ∧ env = [some (eI form), some d, x2, x3, x4, x5] ∧ Ext S S' ∧ Held d ((grid opts done).map (tE E)) S') ?_ ?_ form _ S ?_
  · rintro env S' ⟨done, d, x2, x3, x4, x5, hf, rfl, ex, hd⟩
    refine ⟨trivial, ?_⟩
    rw [List.append_nil] at hf
    subst hf
    show Fin R d S'
    rcases hd with rfl | ⟨a, rfl, n, e⟩
    · exact Fin.to (Wk.of ex) h
    · exact Fin.lst (Wk.of ex) e n h
  · rintro m r env S' N hN ⟨done, d, x2, x3, x4, x5, hf, rfl, ex, hd⟩
    have hm : m ∈ form := by rw [hf]; simp
    refine ⟨trivial, ?_⟩
    refine ⟨sz (Nat.zero_le _), fun p hp => ?_⟩
    have hp0 : S p = none := by
      cases e : S p with
      | none => rfl
      | some o => have := ex p o e; rw [hp] at this; cases this
    have hd' : Held d ((grid opts done).map (tE E)) (put S' p (.lst [])) := by
      rcases hd with rfl | ⟨a, rfl, n, e⟩
      · exact .inl rfl
      · exact .inr ⟨a, rfl, n, by rw [put_ne fun z => by rw [z, hp] at e; cases e]; exact e⟩
    have hb1 := hb done (m :: r) hf
    have hb2 := hb (done ++ [m]) r (by rw [hf, List.append_assoc]; rfl)
    obtain ⟨ho, hit⟩ := hit m hm
    have hdl : done.length ≤ 7 := by have := congrArg List.length hf; simp at this; omega
    show (match seqOf d (put S' p (.lst [])) with
      | some xs => _
      | none => False)
    rw [hsq _ _ _ hd']
    show forD _ _ _ _ ((grid opts done).map (tE E)) [some (eI form), some d, some (.int m), some (.loc p), x4, x5] (put S' p (.lst []))
    refine for_by (tE E) (fun r' env2 S2 => ∃ dn y4 y5, grid opts done = dn ++ r' ∧ env2 = [some (eI form), some d, some (.int m), some (.loc p), y4, y5] ∧ S2 = put S' p (.lst ((dn.flatMap fun f => (opts m).map fun v => f ++ [v]).map (tE E)))) ?_ ?_ _ _ _ ?_
    · rintro env2 S2 ⟨dn, y4, y5, hg, rfl, rfl⟩
      rw [List.append_nil] at hg
      refine ⟨?_, ?_⟩
      · rcases hd with rfl | ⟨a, rfl, n, e⟩
        · trivial
        · show put S' p _ a = _
          rw [put_ne fun z => by rw [z, hp] at e; cases e]; exact e
      · refine hN _ _ ⟨done ++ [m], .loc p, some (.int m), some (.loc p), y4, y5, by rw [hf, List.append_assoc]; rfl, rfl, Ext.put' ex hp0, .inr ⟨p, rfl, hp0, ?_⟩⟩
        rw [put_same, grid_snoc, hg]
    · rintro f r' env2 S2 N2 hN2 ⟨dn, y4, y5, hg, rfl, rfl⟩
      refine ⟨?_, ?_⟩
      · rcases hd with rfl | ⟨a, rfl, n, e⟩
        · trivial
        · show put S' p _ a = _
          rw [put_ne fun z => by rw [z, hp] at e; cases e]; exact e
      refine ⟨⟨p, _, rfl, put_same⟩, ?_⟩
      refine hit _ _ _ _ _ _ ?_
      refine lc_all (opts m) E (fun v => tE E (f ++ [v])) (sz ho) (fun _ _ => trivial) ?_ ?_
      · intro v _ S3 x3 Kt Kf k
        have hfl : (f.map E).length ≤ 100 := by
          have : f ∈ grid opts done := by rw [hg]; simp
          have := (mem_grid.mp this).1
          rw [List.length_map]; omega
        show 1 ≤ sizeLine ∧ (f.map E).length + 1 ≤ sizeLine ∧ Kt (.tup (f.map E ++ [E v])) S3
        refine ⟨sz (by decide), sz (by omega), ?_⟩
        have : Kt (tE E (f ++ [v])) S3 := k
        unfold tE at this
        rw [List.map_append] at this
        exact this
      · refine ⟨p, _, _, rfl, rfl, put_same, ?_, ?_⟩
        · rw [List.length_map, List.length_map]
          have hl : (dn.flatMap fun f => (opts m).map fun v => f ++ [v]).length + (opts m).length ≤ (grid opts (done ++ [m])).length := by
            rw [grid_snoc, hg, List.flatMap_append, List.length_append, List.flatMap_cons, List.length_append, List.length_map]
            omega
          exact sz (by omega)
        · refine hN2 _ _ ⟨dn ++ [f], some (tE E f), y5, by rw [hg, List.append_assoc]; rfl, rfl, ?_⟩
          rw [put_put, List.flatMap_append, List.map_append, List.flatMap_cons, List.flatMap_nil, List.append_nil, List.map_map]
          rfl
    · exact ⟨[], x4, x5, rfl, rfl, rfl⟩
  · exact ⟨[], .lst [.tup []], none, none, none, none, rfl, rfl, Ext.refl, .inl rfl⟩
theorem nat_prod (form : List Int) (h : ∀ m ∈ form, 0 ≤ m) : (((form.map Int.toNat).foldr (· * ·) 1 : Nat) : Int) = prod form := by
  induction form with
  | nil => rfl
  | cons m r ih =>
    rw [List.map_cons, List.foldr_cons, Int.natCast_mul, ih fun x hx => h x (List.mem_cons_of_mem _ hx)]
    show _ = m * prod r
    rw [Int.toNat_of_nonneg (h m List.mem_cons_self)]
theorem prod_app (a b : List Int) : prod (a ++ b) = prod a * prod b := by
  induction a with
  | nil => show prod b = 1 * prod b; rw [Int.one_mul]
  | cons m r ih => show m * prod (r ++ b) = m * prod r * prod b; rw [ih, Int.mul_assoc]
theorem prod_pos {a : List Int} (h : ∀ m ∈ a, 1 ≤ m) : 1 ≤ prod a := by
  induction a with
  | nil => exact Int.le_refl _
  | cons m r ih =>
    have := ih fun x hx => h x (List.mem_cons_of_mem _ hx)
    have := h m List.mem_cons_self
    show 1 ≤ m * prod r
    have : 1 * 1 ≤ m * prod r := Int.mul_le_mul ‹_› ‹_› (by omega) (by omega)
    omega
theorem faults_few {form : List Int} (h : VForm form) (done rest : List Int) (e : form = done ++ rest) : (grid rng done).length ≤ 4000 := by
  have hm := h.m
  have hp := h.p
  have e1 : (grid rng done).length = (done.map Int.toNat).foldr (· * ·) 1 := by
    rw [grid_len]
    have : (done.map fun m => (rng m).length) = done.map Int.toNat := List.map_congr_left fun m _ => rng_len m
    rw [this]
  have h1 : ∀ m ∈ done, 1 ≤ m := fun m hm' => by have := hm m (by rw [e]; simp [hm']); omega
  have h2 : ∀ m ∈ rest, 1 ≤ m := fun m hm' => by have := hm m (by rw [e]; simp [hm']); omega
  have e2 := nat_prod done fun m hm' => by have := h1 m hm'; omega
  rw [e1]
  rw [e, prod_app] at hp
  have p1 := prod_pos h1
  have p2 := prod_pos h2
  have : prod done * 1 ≤ prod done * prod rest := Int.mul_le_mul_of_nonneg_left p2 (by omega)
  omega
@[irreducible] def c_all_faults : DC := fun ds S R => ∃ form, ds = [eI form] ∧ VForm form ∧ R (.lst ((faults form).map eI)) S
theorem i_all_faults {ds : List D} {S : Sto} {R : DQ} (h : ∃ form, ds = [eI form] ∧ VForm form ∧ R (.lst ((faults form).map eI)) S) : c_all_faults ds S R := by unfold c_all_faults; exact h
theorem u_all_faults {ds : List D} {S : Sto} {R : DQ} (h : c_all_faults ds S R) : ∃ form, ds = [eI form] ∧ VForm form ∧ R (.lst ((faults form).map eI)) S := by unfold c_all_faults at h; exact h
def w_all_faults : DS := (sSeq (sAsg (wLst (aCons (wTup aNil) aNil)) (gN 1)) (sSeq (sFor (iSeq (wVar 0)) (gN 2) (sSeq (sAsg (wNew aNil) (gN 3)) (sSeq (sFor (iSeq (wVar 1)) (gN 4) (sDrop (wMt dExt (wVar 3) (aCons (wLc (iR1 (aCons (wVar 2) aNil)) (gN 5) tYes' (wAdd (wVar 4) (wTup (aCons (wVar 5) aNil))) [5]) aNil)))) (sAsg (wVar 3) (gN 1))))) (sRet (wVar 1))))
theorem q_all_faults : Qd w_all_faults 6 c_all_faults := by
  intro ds S R hc0
  obtain ⟨form, rfl, hf, h⟩ := u_all_faults hc0
  refine q_grid (E := D.int) (opts := rng) hf.l8 (fun a b e => Nat.le_trans (faults_few hf a b e) (by decide)) (fun m hm => ?_) h
  have := hf.m m hm
  refine ⟨by rw [rng_len]; omega, fun x1 x3 x4 x5 S Rk k => ?_⟩
  refine ⟨⟨by omega, by omega⟩, ?_⟩
  rw [rngD_rng]; exact k
@[irreducible] def c__law_faults : DC := fun ds S R => ∃ form, ds = [eI form] ∧ VForm form ∧ R (.lst ((faults form).map eI)) S
theorem i__law_faults {ds : List D} {S : Sto} {R : DQ} (h : ∃ form, ds = [eI form] ∧ VForm form ∧ R (.lst ((faults form).map eI)) S) : c__law_faults ds S R := by unfold c__law_faults; exact h
theorem u__law_faults {ds : List D} {S : Sto} {R : DQ} (h : c__law_faults ds S R) : ∃ form, ds = [eI form] ∧ VForm form ∧ R (.lst ((faults form).map eI)) S := by unfold c__law_faults at h; exact h
def w__law_faults : DS := (sSeq (sAsg (wLst (aCons (wTup aNil) aNil)) (gN 1)) (sSeq (sFor (iSeq (wVar 0)) (gN 2) (sSeq (sAsg (wNew aNil) (gN 3)) (sSeq (sFor (iSeq (wVar 1)) (gN 4) (sDrop (wMt dExt (wVar 3) (aCons (wLc (iR1 (aCons (wVar 2) aNil)) (gN 5) tYes' (wAdd (wVar 4) (wTup (aCons (wVar 5) aNil))) [5]) aNil)))) (sAsg (wVar 3) (gN 1))))) (sRet (wVar 1))))
theorem q__law_faults : Qd w__law_faults 6 c__law_faults := by
  intro ds S R hc0
  obtain ⟨form, rfl, hf, h⟩ := u__law_faults hc0
  refine q_grid (E := D.int) (opts := rng) hf.l8 (fun a b e => Nat.le_trans (faults_few hf a b e) (by decide)) (fun m hm => ?_) h
  have := hf.m m hm
  refine ⟨by rw [rng_len]; omega, fun x1 x3 x4 x5 S Rk k => ?_⟩
  refine ⟨⟨by omega, by omega⟩, ?_⟩
  rw [rngD_rng]; exact k
end K78
set_option Elab.async false
set_option linter.all false
set_option maxRecDepth 100000
set_option maxHeartbeats 1000000
namespace Mir
def unl : List (Option Int) → List (Option Int) → Nat → Option Nat
  | some a :: r, some b :: s, i => if a = b then unl r s (i + 1) else some i
  | none :: r, _ :: s, i => unl r s (i + 1)
  | some _ :: r, none :: s, i => unl r s (i + 1)
  | _, _, _ => none
def mgo (a b : Option Int) : Option Int := match a with
  | none => b
  | some v => some v
def saidB (one other : Rep) : Rep := List.zipWith mgo one other
theorem mgo_self (l : List (Option Int)) : List.zipWith mgo l l = l := by
  induction l with
  | nil => rfl
  | cons x l ih => rw [List.zipWith_cons_cons, ih]; cases x <;> rfl
end Mir
namespace K78
open PySem PySem.Spec PyProof.Rows L2 Dd Mir
theorem sm1 : sm62 1 := ⟨by decide, by decide⟩
theorem sm2 : sm62 2 := ⟨by decide, by decide⟩
abbrev unlD (o : Option Nat) : D := match o with
  | none => .non
  | some i => .tup [.int 0, .int 1, .int (i : Int)]
@[irreducible] def c_unlike_at : DC := fun ds S R => ∃ one other, ds = [.lst [eR one, eR other]] ∧ one.length = other.length ∧ one.length ≤ 100 ∧ R (unlD (unl one other 0)) S
theorem i_unlike_at {ds : List D} {S : Sto} {R : DQ} (h : ∃ one other, ds = [.lst [eR one, eR other]] ∧ one.length = other.length ∧ one.length ≤ 100 ∧ R (unlD (unl one other 0)) S) : c_unlike_at ds S R := by unfold c_unlike_at; exact h
theorem u_unlike_at {ds : List D} {S : Sto} {R : DQ} (h : c_unlike_at ds S R) : ∃ one other, ds = [.lst [eR one, eR other]] ∧ one.length = other.length ∧ one.length ≤ 100 ∧ R (unlD (unl one other 0)) S := by unfold c_unlike_at at h; exact h
def w_unlike_at : DS := (sSeq (sFor (iEnum' (aCons (wVar 0) aNil)) (gT 2 (gCons' (gN 1) (gCons' (gN 2) gNil'))) (sFor (iR2 (aCons (wAdd (wVar 1) (wC (.int 1))) (aCons (wCall dLen (aCons (wVar 0) aNil)) aNil))) (gN 3) (sFor (iEnum' (aCons (wVar 2) aNil)) (gT 2 (gCons' (gN 4) (gCons' (gN 5) gNil'))) (sIf (tAnd' (asB (w2 dNotIn (wC .non) (wTup (aCons (wVar 5) (aCons (w2 dIx (w2 dIx (wVar 0) (wVar 3)) (wVar 4)) aNil))))) (asB (w2 dNe (wVar 5) (w2 dIx (w2 dIx (wVar 0) (wVar 3)) (wVar 4))))) (sRet (wTup (aCons (wVar 1) (aCons (wVar 3) (aCons (wVar 4) aNil))))) sNil)))) (sRet (wC .non)))
theorem isN_eO (o : Option Int) : isNon (eO o) = o.isNone := by cases o <;> rfl
theorem q_unlike_at : Qd w_unlike_at 6 c_unlike_at := by
  intro ds S R hc0
  obtain ⟨one, other, rfl, hl, hz, h⟩ := u_unlike_at hc0
  refine ⟨trivial, trivial, rfl, ?_⟩
  refine ⟨sm1, sm2, ?_⟩
  refine ⟨trivial, ?_⟩
  refine ⟨trivial, ?_⟩
  refine for_enum eO one (fun i env S' => S' = S ∧ (∃ x4 x5, env = [some (.lst [eR one, eR other]), some (.int (0 + (0 : Nat))), some (eR one), some (.int (0 + 1 + (0 : Nat))), x4, x5]) ∧ unl one other 0 = unl (one.drop i) (other.drop i) i) ?_ ?_ ⟨rfl, ⟨none, none, rfl⟩, rfl⟩
  · rintro env S' ⟨rfl, ⟨x4, x5, rfl⟩, hu⟩
    refine ⟨trivial, trivial, ?_⟩
    refine ⟨trivial, rfl, ?_⟩
    refine ⟨sm2, sm2, ?_⟩
    refine ⟨trivial, trivial, ?_⟩
    rw [hu, List.drop_length, hl, List.drop_length] at h
    exact Fin.now h
  · rintro i x env S' N hx hN ⟨rfl, ⟨x4, x5, rfl⟩, hu⟩
    have hi : i < one.length := (List.getElem?_eq_some_iff.mp hx).1
    obtain ⟨y, hy⟩ : ∃ y, other[i]? = some y := ⟨_, List.getElem?_eq_getElem (by omega)⟩
    have e1 : one.drop i = x :: one.drop (i + 1) := by rw [List.drop_eq_getElem_cons hi]; congr 1; exact (List.getElem?_eq_some_iff.mp hx).2
    have e2 : other.drop i = y :: other.drop (i + 1) := by rw [List.drop_eq_getElem_cons (by omega)]; congr 1; exact (List.getElem?_eq_some_iff.mp hy).2
    refine ⟨trivial, rfl, ?_⟩
    refine dIx_at (d := .lst [eR one, eR other]) (i := 0 + 1 + (0 : Nat)) (S := S') (xs := [eR one, eR other]) (x := eR other) rfl rfl ?_
    refine dIx_nat (d := eR other) (i := i) (S := S') (xs := other.map eO) (x := eO y) rfl (get_map hy) ?_
    refine ⟨sz (Nat.le_of_ble_eq_true rfl), ?_⟩
    refine dNotIn_fn (E := eO) (n := 0) eq_eO okO (by decide) (xs := [x, y]) (y := none) (e := .tup [eO x, eO y]) (S := S') rfl ?_
    have ne : ∀ S2 (Q : DQ), Q (.bl (!decide (x = y))) S2 → dNe (eO x) (eO y) S2 Q := fun S2 Q k => dNe_i (okO x).eq (okO y).eq (by rw [eq_eO]; exact k)
    rw [e1, e2] at hu
    have nx : unl one other 0 = unl (one.drop (i + 1)) (other.drop (i + 1)) (i + 1) → N ((([some (.lst [eR one, eR other]), some (.int (0 + (0 : Nat))), some (eR one), some (.int (0 + 1 + (0 : Nat))), x4, x5] : Dd.Env).set 4 (some (.int (i : Int)))).set 5 (some (eO x))) S' := fun q => hN _ _ ⟨rfl, ⟨_, _, rfl⟩, q⟩
    cases x with
    | none => rw [dT (by simp)]; exact nx hu
    | some a =>
      cases y with
      | none => rw [dT (by simp)]; exact nx hu
      | some b =>
        rw [dF (by simp)]
        refine dIx_at (d := .lst [eR one, eR other]) (i := 0 + 1 + (0 : Nat)) (S := S') (xs := [eR one, eR other]) (x := eR other) rfl rfl ?_
        refine dIx_nat (d := eR other) (i := i) (S := S') (xs := other.map eO) (x := eO (some b)) rfl (get_map hy) ?_
        refine ne _ _ ?_
        by_cases hab : a = b
        · rw [dT (by rw [hab])]
          rw [show unl (some a :: one.drop (i + 1)) (some b :: other.drop (i + 1)) i = if a = b then unl (one.drop (i + 1)) (other.drop (i + 1)) (i + 1) else some i from rfl, if_pos hab] at hu
          exact nx hu
        · rw [dF (by simpa using hab)]
          rw [show unl (some a :: one.drop (i + 1)) (some b :: other.drop (i + 1)) i = if a = b then unl (one.drop (i + 1)) (other.drop (i + 1)) (i + 1) else some i from rfl, if_neg hab] at hu
          rw [hu] at h
          refine ⟨sz (Nat.le_of_ble_eq_true rfl), ?_⟩
          exact Fin.now h
@[irreducible] def c_said_by : DC := fun ds S R => ∃ one other, ds = [.lst [eR one, eR other]] ∧ one.length = other.length ∧ one.length ≤ 100 ∧ R (eR (saidB one other)) S
theorem i_said_by {ds : List D} {S : Sto} {R : DQ} (h : ∃ one other, ds = [.lst [eR one, eR other]] ∧ one.length = other.length ∧ one.length ≤ 100 ∧ R (eR (saidB one other)) S) : c_said_by ds S R := by unfold c_said_by; exact h
theorem u_said_by {ds : List D} {S : Sto} {R : DQ} (h : c_said_by ds S R) : ∃ one other, ds = [.lst [eR one, eR other]] ∧ one.length = other.length ∧ one.length ≤ 100 ∧ R (eR (saidB one other)) S := by unfold c_said_by at h; exact h
def w_said_by : DS := (sSeq (sAsg (wCall dListN (aCons (w2 dIx (wVar 0) (wC (.int 0))) aNil)) (gN 1)) (sSeq (sFor (iSeq (wVar 0)) (gN 2) (sFor (iEnum' (aCons (wVar 2) aNil)) (gT 2 (gCons' (gN 3) (gCons' (gN 4) gNil'))) (sLPut (wVar 1) (wVar 3) (wIf (asB (w2 dIsN (w2 dIx (wVar 1) (wVar 3)) (wC .non))) (wVar 4) (w2 dIx (wVar 1) (wVar 3)))))) (sRet (wCall dTuple (aCons (wVar 1) aNil)))))
theorem zw_step (c r : List (Option Int)) (i : Nat) (a b : Option Int) (hc : c[i]? = some a) (hr : r[i]? = some b) : ((List.zipWith mgo c r).take i ++ c.drop i).set i (mgo a b) = (List.zipWith mgo c r).take (i + 1) ++ c.drop (i + 1) := by
  have hi : i < c.length := (List.getElem?_eq_some_iff.mp hc).1
  have hj : i < r.length := (List.getElem?_eq_some_iff.mp hr).1
  have hl : ((List.zipWith mgo c r).take i).length = i := by simp; omega
  rw [List.set_append, if_neg (by omega), hl, Nat.sub_self, List.drop_eq_getElem_cons hi, List.set_cons_zero, List.take_succ_eq_append_getElem (by simp; omega), List.append_assoc, List.getElem_zipWith, (List.getElem?_eq_some_iff.mp hc).2, (List.getElem?_eq_some_iff.mp hr).2]
  rfl
theorem said_in {S : Sto} {p : Addr} (c r : List (Option Int)) (hl : c.length = r.length) (hz : c.length ≤ 100) (one other : D) (x3 x4 : Option D) (F : DEnds) (hF : ∀ x3 x4, F.nx [some (.lst [one, other]), some (.loc p), some (eR r), x3, x4] (put S p (.lst ((List.zipWith mgo c r).map eO)))) :
    forD (gT 2 (gCons' (gN 3) (gCons' (gN 4) gNil'))) (sLPut (wVar 1) (wVar 3) (wIf (asB (w2 dIsN (w2 dIx (wVar 1) (wVar 3)) (wC .non))) (wVar 4) (w2 dIx (wVar 1) (wVar 3)))) (fun _ => True) F (enumD (r.map eO)) [some (.lst [one, other]), some (.loc p), some (eR r), x3, x4] (put S p (.lst (c.map eO))) := by
  refine for_enum eO r (fun i env S' => (∃ x3 x4, env = [some (.lst [one, other]), some (.loc p), some (eR r), x3, x4]) ∧ S' = put S p (.lst (((List.zipWith mgo c r).take i ++ c.drop i).map eO))) ?_ ?_ ⟨⟨x3, x4, rfl⟩, rfl⟩
  · rintro env S' ⟨⟨x3, x4, rfl⟩, rfl⟩
    refine ⟨trivial, ?_⟩
    rw [List.drop_eq_nil_of_le (by omega), List.append_nil, List.take_of_length_le (by simp; omega)]
    exact hF _ _
  · rintro i b env S' N hb hN ⟨⟨x3, x4, rfl⟩, rfl⟩
    have hi : i < r.length := (List.getElem?_eq_some_iff.mp hb).1
    obtain ⟨a, ha⟩ : ∃ a, c[i]? = some a := ⟨_, List.getElem?_eq_getElem (by omega)⟩
    have hlt : ((List.zipWith mgo c r).take i).length = i := by simp; omega
    have hcur : ((List.zipWith mgo c r).take i ++ c.drop i)[i]? = some a := by
      rw [List.getElem?_append_right (by omega), hlt, Nat.sub_self, List.getElem?_drop]; exact ha
    refine ⟨trivial, rfl, ?_⟩
    refine dIx_nat (d := .loc p) (i := i) (S := put S p (.lst (((List.zipWith mgo c r).take i ++ c.drop i).map eO))) (xs := (((List.zipWith mgo c r).take i ++ c.drop i).map eO)) (x := eO a) (seq_loc put_same) (get_map hcur) ?_
    have fin : ∀ y, y = mgo a b → ∃ a' xs n j, (D.loc p) = .loc a' ∧ D.int (i : Int) = .int n ∧ (put S p (.lst (((List.zipWith mgo c r).take i ++ c.drop i).map eO))) a' = some (.lst xs) ∧ ixN xs.length n = some j ∧ N [some (.lst [one, other]), some (.loc p), some (eR r), some (.int (i : Int)), some (eO b)] (put (put S p (.lst (((List.zipWith mgo c r).take i ++ c.drop i).map eO))) a' (.lst (xs.set j (eO y)))) := by
      rintro y rfl
      refine ⟨p, _, _, i, rfl, rfl, put_same, ?_, ?_⟩
      · unfold ixN
        rw [if_pos (Int.natCast_nonneg i), if_pos, Int.toNat_natCast]
        simp; omega
      · refine hN _ _ ⟨⟨_, _, rfl⟩, ?_⟩
        rw [put_put, ← List.map_set, zw_step c r i a b ha hb]
    cases a with
    | none => exact fin b rfl
    | some v =>
      refine dIx_nat (d := .loc p) (i := i) (S := put S p (.lst (((List.zipWith mgo c r).take i ++ c.drop i).map eO))) (xs := (((List.zipWith mgo c r).take i ++ c.drop i).map eO)) (x := eO (some v)) (seq_loc put_same) (get_map hcur) ?_
      exact fin (some v) rfl
theorem q_said_by : Qd w_said_by 5 c_said_by := by
  intro ds S R hc0
  obtain ⟨one, other, rfl, hl, hz, h⟩ := u_said_by hc0
  refine dIx_at (d := .lst [eR one, eR other]) (i := 0) (S := S) (xs := [eR one, eR other]) (x := eR one) rfl rfl ?_
  intro p hp
  refine ⟨trivial, ?_⟩
  refine ⟨trivial, ?_⟩
  refine said_in one one rfl hz (eR one) (eR other) none none _ ?_
  intro x3 x4
  refine ⟨trivial, ?_⟩
  refine ⟨trivial, ?_⟩
  rw [mgo_self]
  refine said_in one other hl hz (eR one) (eR other) x3 x4 _ ?_
  intro x3 x4
  refine ⟨trivial, ?_⟩
  refine dTuple_loc (a := p) (S := put S p _) put_same ?_
  exact Fin.to (Wk.put hp) h
@[irreducible] def c_are_rules : DC := fun ds S R => ∃ form rules, ds = [eI form, eRs rules] ∧ VForm form ∧ VRules form rules ∧ R (.bl true) S
theorem i_are_rules {ds : List D} {S : Sto} {R : DQ} (h : ∃ form rules, ds = [eI form, eRs rules] ∧ VForm form ∧ VRules form rules ∧ R (.bl true) S) : c_are_rules ds S R := by unfold c_are_rules; exact h
theorem u_are_rules {ds : List D} {S : Sto} {R : DQ} (h : c_are_rules ds S R) : ∃ form rules, ds = [eI form, eRs rules] ∧ VForm form ∧ VRules form rules ∧ R (.bl true) S := by unfold c_are_rules at h; exact h
def w_are_rules : DS := (sRet (wAnd (wIsi .tup (wVar 1)) (wCall dAll (aCons (wLc (iSeq (wVar 1)) (gN 2) tYes' (wCall c_box_in (aCons (wVar 0) (aCons (wVar 2) aNil))) [2]) aNil))))
theorem q_are_rules : Qd w_are_rules 3 c_are_rules := by
  intro ds S R hc0
  obtain ⟨form, rules, rfl, hf, hr, h⟩ := u_are_rules hc0
  refine lc_flag (xs := rules) (E := eB) true (Nat.le_trans hr.few (by decide)) (fun _ _ => trivial) ?_ ?_
  · intro b hb S' x Kt Kf k
    exact i_box_in ⟨form, b, rfl, hf, hr.all b hb, k⟩
  · exact dAll_true (Fin.now h)
end K78
set_option Elab.async false
set_option linter.all false
set_option maxRecDepth 100000
set_option maxHeartbeats 1000000
namespace K78
open PySem PySem.Spec PyProof.Rows L2 Dd Mir
abbrev bookO (form : List Int) (rules : List Box) : SO := .obj "Book" [("form", [eI form]), ("rules", [eRs rules]), ("listed", [.non, .lst ((lawful form rules).map eI)])]
@[irreducible] def c_Book_dd__init_dd_ : DC := fun ds S R => ∃ a form rules, ds = [.loc a, eI form, eRs rules] ∧ S a = some (.obj "Book" []) ∧ VForm form ∧ VRules form rules ∧ R .non (put S a (bookO form rules))
theorem i_Book_dd__init_dd_ {ds : List D} {S : Sto} {R : DQ} (h : ∃ a form rules, ds = [.loc a, eI form, eRs rules] ∧ S a = some (.obj "Book" []) ∧ VForm form ∧ VRules form rules ∧ R .non (put S a (bookO form rules))) : c_Book_dd__init_dd_ ds S R := by unfold c_Book_dd__init_dd_; exact h
theorem u_Book_dd__init_dd_ {ds : List D} {S : Sto} {R : DQ} (h : c_Book_dd__init_dd_ ds S R) : ∃ a form rules, ds = [.loc a, eI form, eRs rules] ∧ S a = some (.obj "Book" []) ∧ VForm form ∧ VRules form rules ∧ R .non (put S a (bookO form rules)) := by unfold c_Book_dd__init_dd_ at h; exact h
def w_Book_dd__init_dd_ : DS := (sSeq (sIf (tNot' (asB (wCall c_is_form (aCons (wVar 1) aNil)))) sNever sNil) (sSeq (sIf (tOr' (tNot' (asB (wCall c_are_rules (aCons (wVar 1) (aCons (wVar 2) aNil))))) (tNot' (asB (wCall c_is_tuple (aCons (wVar 2) (aCons (wC (.int 0)) (aCons (wC (.int 40)) aNil))))))) sNever sNil) (sSeq (sAsg (wTup (aCons (wVar 1) (aCons (wVar 2) aNil))) (gT 2 (gCons' (gFld "Book" "form" (wVar 0)) (gCons' (gFld "Book" "rules" (wVar 0)) gNil')))) (sFld' "Book" "listed" (wVar 0) (wC .non)))))
theorem wk_obj {S : Sto} {a : Addr} {c : Str} {fs' fs : List (Str × List D)} (hk : fs'.map (·.1) = fs.map (·.1)) (h : ∀ f alts, fs.lookup f = some alts → ∃ alts', fs'.lookup f = some alts' ∧ ∀ d ∈ alts', d ∈ alts) : Wk (put S a (.obj c fs')) (put S a (.obj c fs)) := fun b o e => by
  by_cases hb : b = a
  · subst hb
    rw [put_same] at e; cases e
    exact ⟨_, put_same, .inr ⟨c, fs', fs, rfl, rfl, hk, h⟩⟩
  · rw [put_ne hb] at e
    exact ⟨o, by rw [put_ne hb]; exact e, .inl rfl⟩
theorem wk_book {S : Sto} {a : Addr} {form : List Int} {rules : List Box} {d : D} (h : d = .non ∨ d = .lst ((lawful form rules).map eI)) : Wk (put S a (.obj "Book" [("form", [eI form]), ("rules", [eRs rules]), ("listed", [d])])) (put S a (bookO form rules)) := by
  refine wk_obj rfl fun f alts e => ?_
  have key : ∀ x : Str, ([("form", [eI form]), ("rules", [eRs rules]), ("listed", [d])] : List (Str × List D)).lookup x = if x == "form" then some [eI form] else if x == "rules" then some [eRs rules] else if x == "listed" then some [d] else none := fun x => by
    rw [List.lookup_cons]
    cases h1 : x == "form" with
    | true => rfl
    | false =>
      rw [List.lookup_cons]
      cases h2 : x == "rules" with
      | true => rfl
      | false =>
        rw [List.lookup_cons]
        cases h3 : x == "listed" <;> rfl
  have key' : ∀ x : Str, ([("form", [eI form]), ("rules", [eRs rules]), ("listed", [D.non, D.lst ((lawful form rules).map eI)])] : List (Str × List D)).lookup x = if x == "form" then some [eI form] else if x == "rules" then some [eRs rules] else if x == "listed" then some [D.non, D.lst ((lawful form rules).map eI)] else none := fun x => by
    rw [List.lookup_cons]
    cases h1 : x == "form" with
    | true => rfl
    | false =>
      rw [List.lookup_cons]
      cases h2 : x == "rules" with
      | true => rfl
      | false =>
        rw [List.lookup_cons]
        cases h3 : x == "listed" <;> rfl
  rw [key'] at e
  rw [key]
  split at e
  · cases e; rw [if_pos ‹_›]; exact ⟨_, rfl, fun _ h => h⟩
  · rw [if_neg ‹_›]
    split at e
    · cases e; rw [if_pos ‹_›]; exact ⟨_, rfl, fun _ h => h⟩
    · rw [if_neg ‹_›]
      split at e
      · cases e; rw [if_pos ‹_›]
        refine ⟨_, rfl, fun x hx => ?_⟩
        rw [List.mem_singleton] at hx
        subst hx
        rcases h with rfl | rfl <;> simp
      · cases e
theorem q_Book_dd__init_dd_ : Qd w_Book_dd__init_dd_ 3 c_Book_dd__init_dd_ := by
  intro ds S R hc0
  obtain ⟨a, form, rules, rfl, hS, hf, hr, h⟩ := u_Book_dd__init_dd_ hc0
  refine i_is_form ⟨form, rfl, hf, ?_⟩
  refine i_are_rules ⟨form, rules, rfl, hf, hr, ?_⟩
  refine tuple_yes ⟨?_, ?_⟩ ?_
  · exact Int.natCast_nonneg _
  · rw [List.length_map]; have := hr.few; omega
  refine ⟨sz (Nat.le_of_ble_eq_true rfl), rfl, ?_⟩
  refine dPutF_i hS (Nat.lt_of_sub_eq_succ rfl) ?_
  refine dPutF_i put_same (Nat.lt_of_sub_eq_succ rfl) ?_
  refine dPutF_i put_same (Nat.lt_of_sub_eq_succ rfl) ?_
  rw [put_put, put_put]
  exact Fin.to (wk_book (.inl rfl)) h
abbrev Bk (S : Sto) (a : Addr) (form : List Int) (rules : List Box) : Prop := S a = some (bookO form rules) ∧ VForm form ∧ VRules form rules
abbrev bookA (form : List Int) (rules : List Box) (alts : List D) : SO := .obj "Book" [("form", [eI form]), ("rules", [eRs rules]), ("listed", alts)]
@[irreducible] def c_is_lawful : DC := fun ds S R => ∃ a f form rules alts, ds = [.loc a, eI f] ∧ S a = some (bookA form rules alts) ∧ VForm form ∧ VRules form rules ∧ R (.bl (law rules f)) S
theorem i_is_lawful {ds : List D} {S : Sto} {R : DQ} (h : ∃ a f form rules alts, ds = [.loc a, eI f] ∧ S a = some (bookA form rules alts) ∧ VForm form ∧ VRules form rules ∧ R (.bl (law rules f)) S) : c_is_lawful ds S R := by unfold c_is_lawful; exact h
theorem u_is_lawful {ds : List D} {S : Sto} {R : DQ} (h : c_is_lawful ds S R) : ∃ a f form rules alts, ds = [.loc a, eI f] ∧ S a = some (bookA form rules alts) ∧ VForm form ∧ VRules form rules ∧ R (.bl (law rules f)) S := by unfold c_is_lawful at h; exact h
def w_is_lawful : DS := (sRet (wNot (wCall dAny (aCons (wLc (iSeq (wFld "Book" "rules" (wVar 0))) (gN 2) tYes' (wCall c_held (aCons (wVar 2) (aCons (wVar 1) aNil))) [2]) aNil))))
theorem fld_rules {S : Sto} {a : Addr} {form : List Int} {rules : List Box} {alts : List D} {R : DQ} (h : S a = some (bookA form rules alts)) (k : R (eRs rules) S) : dFld "Book" "rules" (.loc a) S R := dFld_i h rfl fun x hx => by rw [List.mem_singleton] at hx; subst hx; exact k
theorem fld_form {S : Sto} {a : Addr} {form : List Int} {rules : List Box} {alts : List D} {R : DQ} (h : S a = some (bookA form rules alts)) (k : R (eI form) S) : dFld "Book" "form" (.loc a) S R := dFld_i h rfl fun x hx => by rw [List.mem_singleton] at hx; subst hx; exact k
theorem q_is_lawful : Qd w_is_lawful 3 c_is_lawful := by
  intro ds S R hc0
  obtain ⟨a, f, form, rules, alts, rfl, hS, hf, hr, h⟩ := u_is_lawful hc0
  refine fld_rules hS ?_
  refine lc_all rules eB (fun r => .bl (held r f)) (sz (Nat.le_trans hr.few (by decide))) (fun _ _ => trivial) ?_ ?_
  · intro b hb S' x Kt Kf k
    have := (hr.all b hb).1
    have := hf.l8
    exact i_held ⟨b, f, rfl, by omega, k⟩
  · exact dAny_fn (Fin.now h)
@[irreducible] def c_listed : DC := fun ds S R => ∃ a form rules, ds = [.loc a] ∧ Bk S a form rules ∧ R (.lst ((lawful form rules).map eI)) S
theorem i_listed {ds : List D} {S : Sto} {R : DQ} (h : ∃ a form rules, ds = [.loc a] ∧ Bk S a form rules ∧ R (.lst ((lawful form rules).map eI)) S) : c_listed ds S R := by unfold c_listed; exact h
theorem u_listed {ds : List D} {S : Sto} {R : DQ} (h : c_listed ds S R) : ∃ a form rules, ds = [.loc a] ∧ Bk S a form rules ∧ R (.lst ((lawful form rules).map eI)) S := by unfold c_listed at h; exact h
def w_listed : DS := (sSpl (sSeq (sIf (asB (w2 dIsN (wFld "Book" "listed" (wVar 0)) (wC .non))) (sFld' "Book" "listed" (wVar 0) (wLc (iSeq (wCall c_all_faults (aCons (wFld "Book" "form" (wVar 0)) aNil))) (gN 1) (asB (wCall c_is_lawful (aCons (wVar 0) (aCons (wVar 1) aNil)))) (wVar 1) [1])) sNil) (sRet (wFld "Book" "listed" (wVar 0)))))
theorem lawful_few {form : List Int} {rules : List Box} (h : VForm form) : (lawful form rules).length ≤ 4000 := by
  unfold lawful
  refine Nat.le_trans (List.length_filter_le _ _) ?_
  exact faults_few h form [] (by simp)
theorem q_listed : Qd w_listed 2 c_listed := by
  intro ds S R hc0
  obtain ⟨a, form, rules, rfl, ⟨hS, hf, hr⟩, h⟩ := u_listed hc0
  have wk : ∀ d, (d = .non ∨ d = .lst ((lawful form rules).map eI)) → Wk (put S a (bookA form rules [d])) S := fun d hd => by
    have w := wk_book (S := S) (a := a) (form := form) (rules := rules) hd
    rwa [put_self hS] at w
  refine .inr ⟨a, "Book", _, "listed", _, hS, rfl, fun d hd => ?_⟩
  show (sSeq _ _) _ _ (put S a (bookA form rules [d]))
  rcases List.mem_cons.mp hd with rfl | hd
  · refine dFld_i put_same rfl fun x hx => ?_
    rw [List.mem_singleton] at hx
    subst hx
    refine fld_form (alts := [.non]) put_same ?_
    refine i_all_faults ⟨form, rfl, hf, ?_⟩
    refine lc_filter (faults form) eI (law rules) eI (sz (Nat.le_trans (faults_few hf form [] (by simp)) (by decide))) (fun _ _ => trivial) ?_ ?_
    · intro f hff S' ex Kt Kf k
      refine i_is_lawful ⟨a, f, form, rules, [.non], rfl, ex a _ put_same, hf, hr, ?_⟩
      cases e : law rules f with
      | true => rw [e] at k; exact k
      | false => rw [e] at k; exact k
    · refine dPutF_i put_same (Nat.lt_of_sub_eq_succ rfl) ?_
      refine dFld_i put_same rfl fun x hx => ?_
      rw [List.mem_singleton] at hx
      subst hx
      rw [put_put]
      exact Fin.to (wk _ (.inr rfl)) h
  · rw [List.mem_singleton] at hd
    subst hd
    refine dFld_i put_same rfl fun x hx => ?_
    rw [List.mem_singleton] at hx
    subst hx
    refine dFld_i put_same rfl fun x hx => ?_
    rw [List.mem_singleton] at hx
    subst hx
    exact Fin.to (wk _ (.inr rfl)) h
/-- the first of a list that a test lets -/
abbrev firstD (o : Option (List Int)) : D := match o with
  | none => .non
  | some f => eI f
@[irreducible] def c_first_in : DC := fun ds S R => ∃ a box form rules, ds = [.loc a, eB box] ∧ Bk S a form rules ∧ box.length ≤ 100 ∧ R (firstD ((lawful form rules).find? (held box))) S
theorem i_first_in {ds : List D} {S : Sto} {R : DQ} (h : ∃ a box form rules, ds = [.loc a, eB box] ∧ Bk S a form rules ∧ box.length ≤ 100 ∧ R (firstD ((lawful form rules).find? (held box))) S) : c_first_in ds S R := by unfold c_first_in; exact h
theorem u_first_in {ds : List D} {S : Sto} {R : DQ} (h : c_first_in ds S R) : ∃ a box form rules, ds = [.loc a, eB box] ∧ Bk S a form rules ∧ box.length ≤ 100 ∧ R (firstD ((lawful form rules).find? (held box))) S := by unfold c_first_in at h; exact h
def w_first_in : DS := (sSeq (sFor (iSeq (wCall c_listed (aCons (wVar 0) aNil))) (gN 2) (sIf (asB (wCall c_held (aCons (wVar 1) (aCons (wVar 2) aNil)))) (sRet (wVar 2)) sNil)) (sRet (wC .non)))
theorem q_first_in : Qd w_first_in 3 c_first_in := by
  intro ds S R hc0
  obtain ⟨a, box, form, rules, rfl, bk, hz, h⟩ := u_first_in hc0
  refine i_listed ⟨a, form, rules, rfl, bk, ?_⟩
  refine for_by eI (fun r env S' => S' = S ∧ (∃ x, env = [some (.loc a), some (eB box), x]) ∧ (lawful form rules).find? (held box) = r.find? (held box)) ?_ ?_ (lawful form rules) _ S ⟨rfl, ⟨none, rfl⟩, rfl⟩
  · rintro env S' ⟨rfl, ⟨x, rfl⟩, e⟩
    refine ⟨trivial, ?_⟩
    rw [e] at h
    exact Fin.now h
  · rintro f r env S' N hN ⟨rfl, ⟨x, rfl⟩, e⟩
    refine ⟨trivial, ?_⟩
    refine i_held ⟨box, f, rfl, hz, ?_⟩
    rw [List.find?_cons] at e
    cases q : held box f with
    | true => rw [q] at e; rw [e] at h; exact Fin.now h
    | false => rw [q] at e; exact hN _ _ ⟨rfl, ⟨_, rfl⟩, e⟩
@[irreducible] def c_first_for : DC := fun ds S R => ∃ a rep form rules, ds = [.loc a, eR rep] ∧ Bk S a form rules ∧ rep.length ≤ 100 ∧ R (firstD ((lawful form rules).find? (agr rep))) S
theorem i_first_for {ds : List D} {S : Sto} {R : DQ} (h : ∃ a rep form rules, ds = [.loc a, eR rep] ∧ Bk S a form rules ∧ rep.length ≤ 100 ∧ R (firstD ((lawful form rules).find? (agr rep))) S) : c_first_for ds S R := by unfold c_first_for; exact h
theorem u_first_for {ds : List D} {S : Sto} {R : DQ} (h : c_first_for ds S R) : ∃ a rep form rules, ds = [.loc a, eR rep] ∧ Bk S a form rules ∧ rep.length ≤ 100 ∧ R (firstD ((lawful form rules).find? (agr rep))) S := by unfold c_first_for at h; exact h
def w_first_for : DS := (sSeq (sFor (iSeq (wCall c_listed (aCons (wVar 0) aNil))) (gN 2) (sIf (asB (wCall c_agreeing (aCons (wVar 1) (aCons (wVar 2) aNil)))) (sRet (wVar 2)) sNil)) (sRet (wC .non)))
theorem q_first_for : Qd w_first_for 3 c_first_for := by
  intro ds S R hc0
  obtain ⟨a, rep, form, rules, rfl, bk, hz, h⟩ := u_first_for hc0
  refine i_listed ⟨a, form, rules, rfl, bk, ?_⟩
  refine for_by eI (fun r env S' => S' = S ∧ (∃ x, env = [some (.loc a), some (eR rep), x]) ∧ (lawful form rules).find? (agr rep) = r.find? (agr rep)) ?_ ?_ (lawful form rules) _ S ⟨rfl, ⟨none, rfl⟩, rfl⟩
  · rintro env S' ⟨rfl, ⟨x, rfl⟩, e⟩
    refine ⟨trivial, ?_⟩
    rw [e] at h
    exact Fin.now h
  · rintro f r env S' N hN ⟨rfl, ⟨x, rfl⟩, e⟩
    refine ⟨trivial, ?_⟩
    refine i_agreeing ⟨rep, f, rfl, hz, ?_⟩
    rw [List.find?_cons] at e
    cases q : agr rep f with
    | true => rw [q] at e; rw [e] at h; exact Fin.now h
    | false => rw [q] at e; exact hN _ _ ⟨rfl, ⟨_, rfl⟩, e⟩
@[irreducible] def c_check_field : DC := fun ds S R => ∃ form, ∃ i : Nat, ds = [eI form, .int i] ∧ i < form.length ∧ R .non S
theorem i_check_field {ds : List D} {S : Sto} {R : DQ} (h : ∃ form, ∃ i : Nat, ds = [eI form, .int i] ∧ i < form.length ∧ R .non S) : c_check_field ds S R := by unfold c_check_field; exact h
theorem u_check_field {ds : List D} {S : Sto} {R : DQ} (h : c_check_field ds S R) : ∃ form, ∃ i : Nat, ds = [eI form, .int i] ∧ i < form.length ∧ R .non S := by unfold c_check_field at h; exact h
def w_check_field : DS := (sIf (tNot' (asB (wCall c_is_within (aCons (wVar 1) (aCons (wC (.int 0)) (aCons (wSub (wCall dLen (aCons (wVar 0) aNil)) (wC (.int 1))) aNil)))))) sNever sNil)
theorem q_check_field : Qd w_check_field 2 c_check_field := by
  intro ds S R hc0
  obtain ⟨form, i, rfl, hi, h⟩ := u_check_field hc0
  refine within_yes ⟨Int.natCast_nonneg _, ?_⟩ ?_
  · show (i : Int) ≤ ((form.map D.int).length : Int) - 1
    rw [List.length_map]; omega
  exact Fin.now h
def joinD (o : Option Box) : D := match o with
  | none => .non
  | some b => eB b
@[irreducible] def c_joining : DC := fun ds S R => ∃ f : Nat, ∃ a b, ds = [.int f, eB a, eB b] ∧ a.length = b.length ∧ f < a.length ∧ a.length ≤ 8 ∧ (∀ l ∈ a, l.length ≤ 6) ∧ (∀ l ∈ b, l.length ≤ 6) ∧ R (joinD (joinB f a b)) S
theorem i_joining {ds : List D} {S : Sto} {R : DQ} (h : ∃ f : Nat, ∃ a b, ds = [.int f, eB a, eB b] ∧ a.length = b.length ∧ f < a.length ∧ a.length ≤ 8 ∧ (∀ l ∈ a, l.length ≤ 6) ∧ (∀ l ∈ b, l.length ≤ 6) ∧ R (joinD (joinB f a b)) S) : c_joining ds S R := by unfold c_joining; exact h
theorem u_joining {ds : List D} {S : Sto} {R : DQ} (h : c_joining ds S R) : ∃ f : Nat, ∃ a b, ds = [.int f, eB a, eB b] ∧ a.length = b.length ∧ f < a.length ∧ a.length ≤ 8 ∧ (∀ l ∈ a, l.length ≤ 6) ∧ (∀ l ∈ b, l.length ≤ 6) ∧ R (joinD (joinB f a b)) S := by unfold c_joining at h; exact h
def w_joining : DS := (sSeq (sAsg (wCall dTuple (aCons (wSortedSet (wAdd (w2 dIx (wVar 1) (wVar 0)) (w2 dIx (wVar 2) (wVar 0)))) aNil)) (gN 3)) (sRet (wCall c_meeting (aCons (wCall c_with_lot (aCons (wVar 1) (aCons (wVar 0) (aCons (wVar 3) aNil)))) (aCons (wCall c_with_lot (aCons (wVar 2) (aCons (wVar 0) (aCons (wVar 3) aNil)))) aNil)))))
theorem q_joining : Qd w_joining 4 c_joining := by
  intro ds S R hc0
  obtain ⟨f, a, b, rfl, hl, hf, h8, ha, hb, h⟩ := u_joining hc0
  have g1 : a[f]? = some a[f] := List.getElem?_eq_getElem hf
  have g2 : b[f]? = some (b[f]'(by omega)) := List.getElem?_eq_getElem _
  have e1 : a.getD f [] = a[f] := by rw [List.getD_eq_getElem?_getD, g1]; rfl
  have e2 : b.getD f [] = b[f]'(by omega) := by rw [List.getD_eq_getElem?_getD, g2]; rfl
  have l1 := ha _ (List.getElem_mem hf)
  have l2 := hb _ (List.getElem_mem (show f < b.length by omega))
  refine dIx_nat (d := eB a) (i := f) (S := S) (xs := a.map eI) (x := eI a[f]) rfl (get_map g1) ?_
  refine dIx_nat (d := eB b) (i := f) (S := S) (xs := b.map eI) (x := eI b[f]) rfl (get_map g2) ?_
  refine ⟨sz (by rw [List.length_map, List.length_map]; omega), ?_⟩
  refine ⟨a[f] ++ b[f], _, rfl, (List.map_append).symm, by rw [List.length_append]; omega, ?_⟩
  refine i_with_lot ⟨a, usort (a[f] ++ b[f]), f, rfl, hf, by omega, ?_⟩
  refine i_with_lot ⟨b, usort (a[f] ++ b[f]), f, rfl, by omega, by omega, ?_⟩
  have ul : (usort (a[f] ++ b[f])).length ≤ 12 := by
    have : ∀ l : List Int, (usort l).length ≤ l.length := by
      intro l
      induction l with
      | nil => exact Nat.le_refl _
      | cons x xs ih =>
        have : ∀ ys : List Int, (insU x ys).length ≤ ys.length + 1 := by
          intro ys
          induction ys with
          | nil => exact Nat.le_refl _
          | cons y ys ih => unfold insU; split; · simp
                            · split
                              · simp
                              · simp; exact ih
        exact Nat.le_trans (this _) (by rw [List.length_cons]; omega)
    have := this (a[f] ++ b[f])
    rw [List.length_append] at this
    omega
  refine i_meeting ⟨withLot a f (usort (a[f] ++ b[f])), withLot b f (usort (a[f] ++ b[f])), rfl, by rw [withLot_len hf]; omega, ?_, ?_⟩
  · intro l hl'
    rw [withLot_set hf] at hl'
    rcases List.mem_or_eq_of_mem_set hl' with q | q
    · have := ha l q; omega
    · rw [q]; omega
  · unfold joinB at h
    rw [e1, e2] at h
    unfold meetN
    split
    · rw [if_pos ‹_›] at h; exact Fin.now h
    · rw [if_neg ‹_›] at h; exact Fin.now h
end K78
set_option Elab.async false
set_option linter.all false
set_option maxRecDepth 100000
set_option maxHeartbeats 1000000
namespace K78
open PySem PySem.Spec PyProof.Rows L2 Dd Mir
def eS : Stp → D
  | .rule n => .tup [.str "rule", .int (n : Int)]
  | .join f a b => .tup [.str "join", .int (f : Int), .int (a : Int), .int (b : Int)]
abbrev eP (steps : List Stp) : D := .tup (steps.map eS)
@[irreducible] def c_box_of_step : DC := fun ds S R => ∃ a bx form rules, Bk S a form rules ∧ ((∃ i, ds = [.loc a, .loc bx, .int i] ∧ R .non S) ∨ (∃ s b boxes, ds = [.loc a, .loc bx, eS s] ∧ S bx = some (.lst (boxes.map eB)) ∧ (∀ b ∈ boxes, VBox form b) ∧ stepBox rules boxes s = some b ∧ R (eB b) S))
theorem i_box_of_step {ds : List D} {S : Sto} {R : DQ} (h : ∃ a bx form rules, Bk S a form rules ∧ ((∃ i, ds = [.loc a, .loc bx, .int i] ∧ R .non S) ∨ (∃ s b boxes, ds = [.loc a, .loc bx, eS s] ∧ S bx = some (.lst (boxes.map eB)) ∧ (∀ b ∈ boxes, VBox form b) ∧ stepBox rules boxes s = some b ∧ R (eB b) S))) : c_box_of_step ds S R := by unfold c_box_of_step; exact h
theorem u_box_of_step {ds : List D} {S : Sto} {R : DQ} (h : c_box_of_step ds S R) : ∃ a bx form rules, Bk S a form rules ∧ ((∃ i, ds = [.loc a, .loc bx, .int i] ∧ R .non S) ∨ (∃ s b boxes, ds = [.loc a, .loc bx, eS s] ∧ S bx = some (.lst (boxes.map eB)) ∧ (∀ b ∈ boxes, VBox form b) ∧ stepBox rules boxes s = some b ∧ R (eB b) S)) := by unfold c_box_of_step at h; exact h
def w_box_of_step : DS := (sSeq (sIf (tOr' (tNot' (asB (wIsi .tup (wVar 2)))) (asB (w2 dNotIn (wCall dLen (aCons (wVar 2) aNil)) (wTup (aCons (wC (.int 2)) (aCons (wC (.int 4)) aNil)))))) (sRet (wC .non)) sNil) (sSeq (sIf (asB (w2 dEq (wCall dLen (aCons (wVar 2) aNil)) (wC (.int 2)))) (sSeq (sAsg (wAnd (w2 dEq (w2 dIx (wVar 2) (wC (.int 0))) (wC (.str "rule"))) (wAnd (wIsi .str (w2 dIx (wVar 2) (wC (.int 0)))) (wCall c_is_within (aCons (w2 dIx (wVar 2) (wC (.int 1))) (aCons (wC (.int 0)) (aCons (wSub (wCall dLen (aCons (wFld "Book" "rules" (wVar 0)) aNil)) (wC (.int 1))) aNil)))))) (gN 3)) (sRet (wIf (asB (wVar 3)) (w2 dIx (wFld "Book" "rules" (wVar 0)) (w2 dIx (wVar 2) (wC (.int 1)))) (wC .non)))) sNil) (sSeq (sAsg (wVar 2) (gT 4 (gCons' (gN 4) (gCons' (gN 5) (gCons' (gN 6) (gCons' (gN 7) gNil')))))) (sSeq (sIf (tOr' (tNot' (asB (wIsi .str (wVar 4)))) (tOr' (asB (w2 dNe (wVar 4) (wC (.str "join")))) (tNot' (asB (wCall c_is_within (aCons (wVar 5) (aCons (wC (.int 0)) (aCons (wSub (wCall dLen (aCons (wFld "Book" "form" (wVar 0)) aNil)) (wC (.int 1))) aNil)))))))) (sRet (wC .non)) sNil) (sSeq (sIf (tOr' (tNot' (asB (wCall c_is_within (aCons (wVar 6) (aCons (wC (.int 0)) (aCons (wSub (wCall dLen (aCons (wVar 1) aNil)) (wC (.int 1))) aNil)))))) (tNot' (asB (wCall c_is_within (aCons (wVar 7) (aCons (wC (.int 0)) (aCons (wSub (wCall dLen (aCons (wVar 1) aNil)) (wC (.int 1))) aNil))))))) (sRet (wC .non)) sNil) (sRet (wCall c_joining (aCons (wVar 5) (aCons (w2 dIx (wVar 1) (wVar 6)) (aCons (w2 dIx (wVar 1) (wVar 7)) aNil))))))))))
theorem lots6 {form : List Int} {b : List (List Int)} (hf : VForm form) (h : VBox form b) : ∀ l ∈ b, l.length ≤ 6 := fun l hl => by
  obtain ⟨i, hi⟩ := List.getElem?_of_mem hl
  have hlt : i < form.length := by rw [← h.1]; exact (List.getElem?_eq_some_iff.mp hi).1
  have hm := List.getElem?_eq_getElem hlt
  exact VLot.few (h.2 i _ l hm hi) (hf.m _ (List.getElem_mem hlt)).2
theorem q_box_of_step : Qd w_box_of_step 8 c_box_of_step := by
  intro ds S R hc0
  obtain ⟨a, bx, form, rules, ⟨hS, hf, hr⟩, h⟩ := u_box_of_step hc0
  rcases h with ⟨i, rfl, h⟩ | ⟨s, b, boxes, rfl, hb, hv, hs, h⟩
  · exact Fin.now h
  cases s with
  | rule n =>
    have hn : n < rules.length := (List.getElem?_eq_some_iff.mp hs).1
    refine ⟨sz (Nat.le_of_ble_eq_true rfl), ?_⟩
    refine dNotIn_fn (E := D.int) (n := 0) eq_int (fun i => .int i) (by decide) (xs := [2, 4]) (y := 2) (e := .tup [.int 2, .int 4]) (S := S) rfl ?_
    rw [dT (by simp)]
    refine dEq_int (i := 2) (j := 2) ?_
    rw [dT rfl]
    refine dIx_at (d := eS (.rule n)) (i := 0) (S := S) (x := .str "rule") rfl rfl ?_
    refine dEq_str ?_
    rw [dT rfl]
    refine dIx_at (d := eS (.rule n)) (i := 0) (S := S) (x := .str "rule") rfl rfl ?_
    refine dIx_at (d := eS (.rule n)) (i := 1) (S := S) (x := .int n) rfl rfl ?_
    refine fld_rules hS ?_
    refine within_yes ⟨Int.natCast_nonneg _, ?_⟩ ?_
    · show (n : Int) ≤ ((rules.map eB).length : Int) - 1
      rw [List.length_map]; omega
    refine fld_rules hS ?_
    refine dIx_at (d := eS (.rule n)) (i := 1) (S := S) (x := .int n) rfl rfl ?_
    refine dIx_nat (d := eRs rules) (i := n) (S := S) (x := eB b) rfl (get_map hs) ?_
    exact Fin.now h
  | join f x y =>
    obtain ⟨u, v, h1, h2, h3, h4⟩ := step_join.mp hs
    have hu := hv u (List.mem_of_getElem? h1)
    have hw := hv v (List.mem_of_getElem? h2)
    have hx : x < boxes.length := (List.getElem?_eq_some_iff.mp h1).1
    have hy : y < boxes.length := (List.getElem?_eq_some_iff.mp h2).1
    refine ⟨sz (Nat.le_of_ble_eq_true rfl), ?_⟩
    refine dNotIn_fn (E := D.int) (n := 0) eq_int (fun i => .int i) (by decide) (xs := [2, 4]) (y := 4) (e := .tup [.int 2, .int 4]) (S := S) rfl ?_
    rw [dT (by simp)]
    refine dEq_int (i := 4) (j := 2) ?_
    rw [dF (by decide)]
    refine ⟨rfl, ?_⟩
    refine dNe_str ?_
    rw [dT rfl]
    refine fld_form hS ?_
    refine within_yes ⟨Int.natCast_nonneg _, ?_⟩ ?_
    · show (f : Int) ≤ ((form.map D.int).length : Int) - 1
      rw [List.length_map, ← hu.1]; omega
    conv => whnf
    rw [seq_loc hb]
    refine within_yes ⟨Int.natCast_nonneg _, ?_⟩ ?_
    · show (x : Int) ≤ ((boxes.map eB).length : Int) - 1
      rw [List.length_map]; omega
    conv => whnf
    rw [seq_loc hb]
    refine within_yes ⟨Int.natCast_nonneg _, ?_⟩ ?_
    · show (y : Int) ≤ ((boxes.map eB).length : Int) - 1
      rw [List.length_map]; omega
    refine dIx_nat (d := .loc bx) (i := x) (S := S) (x := eB u) (seq_loc hb) (get_map h1) ?_
    refine dIx_nat (d := .loc bx) (i := y) (S := S) (x := eB v) (seq_loc hb) (get_map h2) ?_
    have h8 := hf.l8
    refine i_joining ⟨f, u, v, rfl, by rw [hu.1, hw.1], h3, by rw [hu.1]; exact h8, lots6 hf hu, lots6 hf hw, ?_⟩
    rw [h4]
    exact Fin.now h
/-- what a derivation may be: a number, a fault, steps -/
@[irreducible] def c_box_derived : DC := fun ds S R => ∃ a form rules, Bk S a form rules ∧ ((∃ i, ds = [.loc a, .int i] ∧ R .non S) ∨ (∃ f, ds = [.loc a, eI f] ∧ f ≠ [] ∧ R .non S) ∨ (∃ steps boxes b, ds = [.loc a, eP steps] ∧ Val rules steps boxes ∧ boxes.getLast? = some b ∧ steps.length ≤ 1000 ∧ R (eB b) S))
theorem i_box_derived {ds : List D} {S : Sto} {R : DQ} (h : ∃ a form rules, Bk S a form rules ∧ ((∃ i, ds = [.loc a, .int i] ∧ R .non S) ∨ (∃ f, ds = [.loc a, eI f] ∧ f ≠ [] ∧ R .non S) ∨ (∃ steps boxes b, ds = [.loc a, eP steps] ∧ Val rules steps boxes ∧ boxes.getLast? = some b ∧ steps.length ≤ 1000 ∧ R (eB b) S))) : c_box_derived ds S R := by unfold c_box_derived; exact h
theorem u_box_derived {ds : List D} {S : Sto} {R : DQ} (h : c_box_derived ds S R) : ∃ a form rules, Bk S a form rules ∧ ((∃ i, ds = [.loc a, .int i] ∧ R .non S) ∨ (∃ f, ds = [.loc a, eI f] ∧ f ≠ [] ∧ R .non S) ∨ (∃ steps boxes b, ds = [.loc a, eP steps] ∧ Val rules steps boxes ∧ boxes.getLast? = some b ∧ steps.length ≤ 1000 ∧ R (eB b) S)) := by unfold c_box_derived at h; exact h
def w_box_derived : DS := (sSeq (sIf (tOr' (tNot' (asB (wIsi .tup (wVar 1)))) (asB (w2 dEq (wCall dLen (aCons (wVar 1) aNil)) (wC (.int 0))))) (sRet (wC .non)) sNil) (sSeq (sAsg (wNew aNil) (gN 2)) (sSeq (sFor (iSeq (wVar 1)) (gN 3) (sSeq (sAsg (wCall c_box_of_step (aCons (wVar 0) (aCons (wVar 2) (aCons (wVar 3) aNil)))) (gN 4)) (sSeq (sIf (asB (w2 dIsN (wVar 4) (wC .non))) (sRet (wC .non)) sNil) (sDrop (wMt dApp (wVar 2) (aCons (wVar 4) aNil)))))) (sRet (w2 dIx (wVar 2) (wNeg (wC (.int 1))))))))
theorem q_box_derived : Qd w_box_derived 5 c_box_derived := by
  intro ds S R hc0
  obtain ⟨a, form, rules, bk, h⟩ := u_box_derived hc0
  rcases h with ⟨i, rfl, h⟩ | ⟨f, rfl, hn, h⟩ | ⟨steps, boxes, b, rfl, hv, hb, hz, h⟩
  · exact Fin.now h
  · cases f with
    | nil => exact absurd rfl hn
    | cons x xs =>
      refine dEq_int (i := ((x :: xs).map D.int).length) (j := 0) ?_
      rw [dF (by simp; omega)]
      refine ⟨sz (Nat.zero_le _), fun p hp => ?_⟩
      have hpa : a ≠ p := fun z => by rw [← z, bk.1] at hp; cases hp
      refine ⟨trivial, ?_⟩
      refine i_box_of_step ⟨a, p, form, rules, ⟨by rw [put_ne hpa]; exact bk.1, bk.2⟩, .inl ⟨x, rfl, ?_⟩⟩
      exact Fin.to (Wk.put hp) h
  · have hl := hv.len
    have hn : boxes ≠ [] := fun z => by rw [z] at hb; cases hb
    have hp0 : 0 < boxes.length := List.length_pos_iff.mpr hn
    refine dEq_int (i := (steps.map eS).length) (j := 0) ?_
    rw [dF (by rw [List.length_map]; omega)]
    refine ⟨sz (Nat.zero_le _), fun p hp => ?_⟩
    have hpa : a ≠ p := fun z => by rw [← z, bk.1] at hp; cases hp
    refine for_ix eS steps (fun i env S' => (∃ x3 x4, env = [some (.loc a), some (eP steps), some (.loc p), x3, x4]) ∧ S' = put S p (.lst ((boxes.take i).map eB))) ?_ ?_ ⟨⟨none, none, rfl⟩, rfl⟩
    · rintro env S' ⟨⟨x3, x4, rfl⟩, rfl⟩
      refine ⟨trivial, ?_⟩
      rw [List.take_of_length_le (by omega)]
      refine dIx_at (d := .loc p) (i := -1) (xs := boxes.map eB) (x := eB b) (seq_loc put_same) (atI_last (by rw [List.getLast?_map, hb]; rfl)) ?_
      exact Fin.to (Wk.put hp) h
    · rintro i s env S' N hs hN ⟨⟨x3, x4, rfl⟩, rfl⟩
      have hi : i < steps.length := (List.getElem?_eq_some_iff.mp hs).1
      have hc : boxes[i]? = some (boxes[i]'(by omega)) := List.getElem?_eq_getElem _
      refine ⟨trivial, ?_⟩
      refine i_box_of_step ⟨a, p, form, rules, ⟨by rw [put_ne hpa]; exact bk.1, bk.2⟩, .inr ⟨s, _, boxes.take i, rfl, put_same, fun c hc => hv.box bk.2.2 c (List.mem_of_mem_take hc), hv.at_ i s _ hs hc, ?_⟩⟩
      refine ⟨⟨p, _, rfl, put_same⟩, p, _, _, rfl, rfl, put_same, ?_, ?_⟩
      · rw [List.length_map, List.length_take]; exact szl (by omega)
      · refine hN _ _ ⟨⟨_, _, rfl⟩, ?_⟩
        rw [put_put, List.take_succ_eq_append_getElem (by omega), List.map_append]; rfl
@[irreducible] def c_bars : DC := fun ds S R => ∃ a form rules box, Bk S a form rules ∧ VBox form box ∧ ((∃ i, ds = [.loc a, eB box, .int i] ∧ R (.bl false) S) ∨ (∃ f, ds = [.loc a, eB box, eI f] ∧ f ≠ [] ∧ R (.bl false) S) ∨ (∃ steps boxes b, ds = [.loc a, eB box, eP steps] ∧ Val rules steps boxes ∧ boxes.getLast? = some b ∧ steps.length ≤ 1000 ∧ R (.bl (lies box b)) S))
theorem i_bars {ds : List D} {S : Sto} {R : DQ} (h : ∃ a form rules box, Bk S a form rules ∧ VBox form box ∧ ((∃ i, ds = [.loc a, eB box, .int i] ∧ R (.bl false) S) ∨ (∃ f, ds = [.loc a, eB box, eI f] ∧ f ≠ [] ∧ R (.bl false) S) ∨ (∃ steps boxes b, ds = [.loc a, eB box, eP steps] ∧ Val rules steps boxes ∧ boxes.getLast? = some b ∧ steps.length ≤ 1000 ∧ R (.bl (lies box b)) S))) : c_bars ds S R := by unfold c_bars; exact h
theorem u_bars {ds : List D} {S : Sto} {R : DQ} (h : c_bars ds S R) : ∃ a form rules box, Bk S a form rules ∧ VBox form box ∧ ((∃ i, ds = [.loc a, eB box, .int i] ∧ R (.bl false) S) ∨ (∃ f, ds = [.loc a, eB box, eI f] ∧ f ≠ [] ∧ R (.bl false) S) ∨ (∃ steps boxes b, ds = [.loc a, eB box, eP steps] ∧ Val rules steps boxes ∧ boxes.getLast? = some b ∧ steps.length ≤ 1000 ∧ R (.bl (lies box b)) S)) := by unfold c_bars at h; exact h
def w_bars : DS := (sSeq (sAsg (wCall c_box_derived (aCons (wVar 0) (aCons (wVar 2) aNil))) (gN 3)) (sRet (wAnd (w2 dNotN (wVar 3) (wC .non)) (wCall c_lies (aCons (wVar 1) (aCons (wVar 3) aNil))))))
theorem q_bars : Qd w_bars 4 c_bars := by
  intro ds S R hc0
  obtain ⟨a, form, rules, box, bk, hx, h⟩ := u_bars hc0
  have h8 := bk.2.1.l8
  rcases h with ⟨i, rfl, h⟩ | ⟨f, rfl, hn, h⟩ | ⟨steps, boxes, b, rfl, hv, hb, hz, h⟩
  · exact i_box_derived ⟨a, form, rules, bk, .inl ⟨i, rfl, Fin.now h⟩⟩
  · exact i_box_derived ⟨a, form, rules, bk, .inr (.inl ⟨f, rfl, hn, Fin.now h⟩)⟩
  · refine i_box_derived ⟨a, form, rules, bk, .inr (.inr ⟨steps, boxes, b, rfl, hv, hb, hz, ?_⟩)⟩
    exact i_lies ⟨box, b, rfl, by rw [hx.1]; omega, fun l hl => Nat.le_trans (lots6 bk.2.1 hx l hl) (by decide), Fin.now h⟩
end K78
set_option Elab.async false
set_option linter.all false
set_option maxRecDepth 100000
set_option maxHeartbeats 1000000
namespace Mir
open Dd
theorem mem_faults {form : List Int} {f : List Int} : f ∈ faults form ↔ VFlt form f := by
  rw [faults_grid, mem_grid]
  constructor
  · exact fun h => ⟨h.1, fun i m v hm hv => mem_rng.mp (h.2 i m v hm hv)⟩
  · exact fun h => ⟨h.1, fun i m v hm hv => mem_rng.mpr (h.2 i m v hm hv)⟩
theorem mem_lawful {form : List Int} {rules : List Box} {f : List Int} : f ∈ lawful form rules ↔ VFlt form f ∧ law rules f = true := by
  unfold lawful; rw [List.mem_filter, mem_faults]
/-- no lawful fault in a box -/
def NoLaw (form : List Int) (rules : List Box) (box : List (List Int)) : Prop := ∀ f ∈ lawful form rules, held box f = false
theorem held_lies {a b : List (List Int)} {f : List Int} (hl : a.length = b.length) (h : lies a b = true) (q : held a f = true) : held b f = true := by
  rw [lies_iff] at h
  rw [held_iff] at q ⊢
  intro i w v hw hv
  have hi : i < a.length := by have := (List.getElem?_eq_some_iff.mp hw).1; omega
  have g : a[i]? = some a[i] := List.getElem?_eq_getElem hi
  exact h i _ w g hw v (q i _ v g hv)
theorem NoLaw.sub {form : List Int} {rules : List Box} {a b : List (List Int)} (h : NoLaw form rules b) (hl : a.length = b.length) (s : lies a b = true) : NoLaw form rules a := fun f hf => by
  cases e : held a f with
  | false => rfl
  | true => have := held_lies hl s e; rw [h f hf] at this; cases this
def card : List (List Int) → Nat
  | [] => 1
  | l :: r => l.length * card r
theorem card_set : ∀ {b : List (List Int)} {i : Nat} {l m : List Int}, b[i]? = some l → card (b.set i m) * l.length = card b * m.length
  | [], _, _, _, h => by simp at h
  | x :: r, 0, l, m, h => by
    simp at h; subst h
    show m.length * card r * x.length = x.length * card r * m.length
    rw [Nat.mul_comm m.length, Nat.mul_assoc, Nat.mul_comm m.length, ← Nat.mul_assoc, Nat.mul_comm (card r)]
  | x :: r, i + 1, l, m, h => by
    show x.length * card (r.set i m) * l.length = x.length * card r * m.length
    rw [Nat.mul_assoc, card_set (by simpa using h), Nat.mul_assoc]
theorem card_pos : ∀ {b : List (List Int)}, (∀ l ∈ b, l ≠ []) → 1 ≤ card b
  | [], _ => Nat.le_refl _
  | x :: r, h => by
    have h1 := card_pos fun l hl => h l (List.mem_cons_of_mem _ hl)
    have h2 : 0 < x.length := List.length_pos_iff.mpr (h x List.mem_cons_self)
    exact Nat.mul_pos h2 h1
def multi : List (List Int) → Nat
  | [] => 0
  | l :: r => (if 1 < l.length then 1 else 0) + multi r
theorem multi_set : ∀ {b : List (List Int)} {i : Nat} {l : List Int} {v : Int}, b[i]? = some l → 1 < l.length → multi (b.set i [v]) + 1 = multi b
  | [], _, _, _, h, _ => by simp at h
  | x :: r, 0, l, v, h, hl => by
    simp at h; subst h
    show (if 1 < [v].length then 1 else 0) + multi r + 1 = (if 1 < x.length then 1 else 0) + multi r
    rw [if_pos hl, if_neg (by simp)]; omega
  | x :: r, i + 1, l, v, h, hl => by
    show (if 1 < x.length then 1 else 0) + multi (r.set i [v]) + 1 = (if 1 < x.length then 1 else 0) + multi r
    have := multi_set (v := v) (show r[i]? = some l by simpa using h) hl
    omega
theorem multi_zero {b : List (List Int)} {l : List Int} (h : l ∈ b) (hl : 1 < l.length) : 1 ≤ multi b := by
  induction b with
  | nil => cases h
  | cons x r ih =>
    show 1 ≤ (if 1 < x.length then 1 else 0) + multi r
    rcases List.mem_cons.mp h with rfl | h
    · rw [if_pos hl]; omega
    · have := ih h; omega
theorem multi_len (b : List (List Int)) : multi b ≤ b.length := by
  induction b with
  | nil => exact Nat.le_refl _
  | cons x r ih =>
    show (if 1 < x.length then 1 else 0) + multi r ≤ r.length + 1
    split <;> omega
theorem VBox.set {form : List Int} {b : List (List Int)} {i : Nat} {m : Int} {l : List Int} (hb : VBox form b) (hm : form[i]? = some m) (hl : VLot m l) : VBox form (withLot b i l) := by
  have hi : i < b.length := by rw [hb.1]; exact (List.getElem?_eq_some_iff.mp hm).1
  refine ⟨by rw [withLot_len hi, hb.1], fun j m' l' hm' hl' => ?_⟩
  rw [withLot_get hi] at hl'
  by_cases e : j = i
  · subst e
    rw [if_pos rfl] at hl'
    rw [hm] at hm'
    cases hl'; cases hm'; exact hl
  · rw [if_neg e] at hl'
    exact hb.2 j m' l' hm' hl'
theorem VBox.ne {form : List Int} {b : List (List Int)} (hb : VBox form b) : ∀ l ∈ b, l ≠ [] := fun l hl => by
  obtain ⟨i, hi⟩ := List.getElem?_of_mem hl
  have hlt : i < form.length := by rw [← hb.1]; exact (List.getElem?_eq_some_iff.mp hi).1
  exact (hb.2 i _ l (List.getElem?_eq_getElem hlt) hi).ne
theorem VLot.one {m v : Int} (h : 0 ≤ v ∧ v < m) : VLot m [v] := ⟨by simp, by simp, fun u hu => by rw [List.mem_singleton] at hu; subst hu; exact h⟩
/-- a box of one fault without a lawful one lies in a rule -/
theorem rule_or_multi {form : List Int} {rules : List Box} {b : List (List Int)} (hb : VBox form b) (hr : VRules form rules) (hn : NoLaw form rules b) (ho : ∀ r ∈ rules, lies b r = false) : ∃ l ∈ b, 1 < l.length := by
  refine Classical.byContradiction fun z => ?_
  have one : ∀ l ∈ b, ∃ v, l = [v] := fun l hl => by
    have h1 : ¬ 1 < l.length := fun q => z ⟨l, hl, q⟩
    have h2 := VBox.ne hb l hl
    cases l with
    | nil => exact absurd rfl h2
    | cons v r =>
      cases r with
      | nil => exact ⟨v, rfl⟩
      | cons w r => simp at h1
  have hg : ∀ (i : Nat) l, b[i]? = some l → (b.map fun l => l.headD 0)[i]? = some (l.headD 0) ∧ l = [l.headD 0] := fun i l hl => by
    refine ⟨by rw [List.getElem?_map, hl]; rfl, ?_⟩
    obtain ⟨v, rfl⟩ := one l (List.mem_of_getElem? hl)
    rfl
  have hf : VFlt form (b.map fun l => l.headD 0) := by
    refine ⟨by rw [List.length_map]; exact hb.1, fun i m v hm hv => ?_⟩
    have hi : i < b.length := by rw [hb.1]; exact (List.getElem?_eq_some_iff.mp hm).1
    have g := List.getElem?_eq_getElem hi
    obtain ⟨h1, h2⟩ := hg i _ g
    rw [h1] at hv
    cases hv
    exact (hb.2 i m _ hm g).mem _ (by rw [h2]; simp)
  have hh : held b (b.map fun l => l.headD 0) = true := held_iff.mpr fun i l v hl hv => by
    obtain ⟨h1, h2⟩ := hg i l hl
    rw [h1] at hv; cases hv
    rw [h2]; simp
  have nl : law rules (b.map fun l => l.headD 0) = false := by
    cases e : law rules (b.map fun l => l.headD 0) with
    | false => rfl
    | true => have := hn _ (mem_lawful.mpr ⟨hf, e⟩); rw [hh] at this; cases this
  unfold law at nl
  have : rules.any (fun r => held r (b.map fun l => l.headD 0)) = true := by simpa using nl
  rw [List.any_eq_true] at this
  obtain ⟨r, hr', hq⟩ := this
  have := ho r hr'
  have yes : lies b r = true := lies_iff.mpr fun i l w hl hw v hv => by
    obtain ⟨h1, h2⟩ := hg i l hl
    rw [h2, List.mem_singleton] at hv
    rw [hv]
    exact held_iff.mp hq i w _ hw h1
  rw [yes] at this; cases this
/-- a part of a box lies in it -/
theorem lies_part {b : List (List Int)} {i : Nat} {l k : List Int} (h : b[i]? = some l) (hk : ∀ v ∈ k, v ∈ l) : lies (withLot b i k) b = true := by
  have hi := (List.getElem?_eq_some_iff.mp h).1
  rw [lies_iff]
  intro j x y hx hy v hv
  rw [withLot_get hi] at hx
  by_cases e : j = i
  · subst e
    rw [if_pos rfl] at hx
    rw [h] at hy
    cases hx; cases hy; exact hk v hv
  · rw [if_neg e] at hx
    rw [hx] at hy; cases hy; exact hv
theorem withLot_self {b : List (List Int)} {i : Nat} {l : List Int} (h : b[i]? = some l) : withLot b i l = b := by
  have hi := (List.getElem?_eq_some_iff.mp h).1
  rw [withLot_set hi]
  apply List.ext_getElem?
  intro j
  rw [List.getElem?_set]
  by_cases e : i = j
  · subst e; rw [if_pos rfl, if_pos hi, h]
  · rw [if_neg e]
/-- v is there -/
theorem lies_more {b B : List (List Int)} {i : Nat} {P m : List Int} {v : Int} (hi : i < b.length) (h : lies (withLot b i P) B = true) (hB : B[i]? = some m) (hv : v ∈ m) : lies (withLot b i (P ++ [v])) B = true := by
  rw [lies_iff] at h ⊢
  intro j x y hx hy u hu
  rw [withLot_get hi] at hx
  by_cases e : j = i
  · subst e
    rw [if_pos rfl] at hx
    cases hx
    rcases List.mem_append.mp hu with hu | hu
    · exact h j P y (by rw [withLot_get hi, if_pos rfl]) hy u hu
    · rw [List.mem_singleton] at hu; subst hu
      rw [hB] at hy; cases hy; exact hv
  · rw [if_neg e] at hx
    exact h j x y (by rw [withLot_get hi, if_neg e]; exact hx) hy u hu
end Mir
set_option Elab.async false
set_option linter.all false
set_option maxRecDepth 100000
set_option maxHeartbeats 1000000
namespace K78
open PySem PySem.Spec PyProof.Rows L2 Dd Mir
/-! ### dicts, plain -/
theorem atK_put {κ : Type} [DecidableEq κ] (kvs : List (κ × D)) (k k' : κ) (v : D) : atK (putKD kvs k v) k' = if k = k' then some v else atK kvs k' := by
  unfold putKD
  by_cases h : (kvs.any fun kv => decide (kv.1 = k)) = true
  · rw [if_pos h]
    unfold atK
    induction kvs with
    | nil => simp at h
    | cons p r ih =>
      rw [List.map_cons, List.find?_cons, List.find?_cons]
      by_cases e : p.1 = k
      · rw [if_pos e]
        show (match decide (p.1 = k') with | true => some (p.1, v) | false => _).map _ = _
        by_cases e2 : k = k'
        · rw [if_pos e2, dT (by rw [e, e2])]; rfl
        · rw [if_neg e2, dF (fun z => e2 (by rw [← e, z]))]
          show (List.find? _ _).map _ = (List.find? _ _).map _
          clear ih h
          induction r with
          | nil => rfl
          | cons q r ih =>
            rw [List.map_cons, List.find?_cons, List.find?_cons]
            by_cases e3 : q.1 = k
            · rw [if_pos e3]
              show (match decide (q.1 = k') with | true => some (q.1, v) | false => _).map _ = _
              rw [dF (fun z => e2 (by rw [← e3, z]))]
              exact ih
            · rw [if_neg e3]
              cases decide (q.1 = k') with
              | true => rfl
              | false => exact ih
      · rw [if_neg e]
        have h' : (r.any fun kv => decide (kv.1 = k)) = true := by
          rw [List.any_cons, dF e, Bool.false_or] at h; exact h
        by_cases e2 : p.1 = k'
        · rw [dT e2]
          rw [if_neg fun z => e (by rw [e2, z])]
        · rw [dF e2]
          exact ih h'
  · rw [if_neg h]
    unfold atK
    rw [List.find?_append]
    by_cases e2 : k = k'
    · subst e2
      have : kvs.find? (fun kv => decide (kv.1 = k)) = none := by
        rw [List.find?_eq_none]
        intro x hx
        have := List.any_eq_false.mp (Bool.not_eq_true _ ▸ h) x hx
        simpa using this
      rw [this, if_pos rfl]
      simp
    · rw [if_neg e2]
      cases e : kvs.find? (fun kv => decide (kv.1 = k')) with
      | some x => rfl
      | none => simp [e2]
theorem putK_len {κ : Type} [DecidableEq κ] (kvs : List (κ × D)) (k : κ) (v : D) : (putKD kvs k v).length ≤ kvs.length + 1 := by
  unfold putKD; split
  · rw [List.length_map]; omega
  · rw [List.length_append]; exact Nat.le_refl _
def keyS : Stp → List Key
  | .rule n => [.inr "rule", .inl (n : Int)]
  | .join f a b => [.inr "join", .inl (f : Int), .inl (a : Int), .inl (b : Int)]
theorem keyS_inj {s t : Stp} (h : keyS s = keyS t) : s = t := by
  cases s <;> cases t <;> simp [keyS] at h ⊢
  · omega
  · omega
abbrev tupS : Stp → List D
  | .rule n => [.str "rule", .int (n : Int)]
  | .join f a b => [.str "join", .int (f : Int), .int (a : Int), .int (b : Int)]
theorem eS_tup (s : Stp) : eS s = .tup (tupS s) := by cases s <;> rfl
theorem keysD_S (s : Stp) : keysD (tupS s) = some (keyS s) := by cases s <;> rfl
def numb (steps : List Stp) : List (List Key × D) := (List.zip (List.range steps.length) steps).map fun p => (keyS p.2, .int (p.1 : Int))
theorem numb_len (steps : List Stp) : (numb steps).length = steps.length := by unfold numb; simp
theorem numb_some {steps : List Stp} {s : Stp} (h : s ∈ steps) : ∃ i, steps[i]? = some s ∧ atK (numb steps) (keyS s) = some (.int (i : Nat)) := by
  unfold atK
  cases e : (numb steps).find? fun kv => decide (kv.1 = keyS s) with
  | none =>
    rw [List.find?_eq_none] at e
    obtain ⟨i, hi⟩ := List.getElem?_of_mem h
    have := e (keyS s, .int (i : Nat)) (List.mem_map.mpr ⟨(i, s), List.mem_of_getElem? (by rw [zr_get, hi]; rfl), rfl⟩)
    simp at this
  | some p =>
    have h1 := List.find?_some e
    have h2 := List.mem_of_find?_eq_some e
    obtain ⟨⟨i, t⟩, hq, rfl⟩ := List.mem_map.mp h2
    have hk : keyS t = keyS s := of_decide_eq_true h1
    have := keyS_inj hk
    subst this
    exact ⟨i, zr_mem hq, rfl⟩
theorem numb_none {steps : List Stp} {s : Stp} (h : s ∉ steps) : (numb steps).any (fun kv => decide (kv.1 = keyS s)) = false := by
  rw [List.any_eq_false]
  intro p hp
  obtain ⟨⟨i, t⟩, hq, rfl⟩ := List.mem_map.mp hp
  have := List.mem_of_getElem? (zr_mem hq)
  intro z
  exact h (keyS_inj (of_decide_eq_true z) ▸ this)
theorem numb_at {steps : List Stp} {s : Stp} (h : s ∉ steps) : atK (numb steps) (keyS s) = none := by
  unfold atK
  rw [List.find?_eq_none.mpr fun p hp => by have := List.any_eq_false.mp (numb_none h) p hp; simpa using this]; rfl
theorem numb_snoc {steps : List Stp} {s : Stp} (h : s ∉ steps) : putKD (numb steps) (keyS s) (.int (steps.length : Int)) = numb (steps ++ [s]) := by
  unfold putKD
  rw [if_neg (by rw [numb_none h]; exact Bool.false_ne_true)]
  unfold numb
  rw [List.length_append, List.length_singleton, List.range_succ, List.zip_append (by simp), List.map_append]; rfl
/-! ### the Deriver -/
abbrev drvO (a s b n : Addr) : SO := .obj "Deriver" [("book", [.loc a]), ("steps", [.loc s]), ("boxes", [.loc b]), ("numbers", [.loc n])]
structure Dr (S : Sto) (x a s b n : Addr) (steps : List Stp) (boxes : List Box) : Prop where
  rx : S x = some (drvO a s b n)
  rs : S s = some (.lst (steps.map eS))
  rb : S b = some (.lst (boxes.map eB))
  rn : S n = some (.dT (numb steps))
  ne : s ≠ b
abbrev Frm (s b n : Addr) (S S' : Sto) : Prop := ∀ c, c ≠ s → c ≠ b → c ≠ n → S' c = S c
theorem Frm.trans {s b n : Addr} {S S' S'' : Sto} (h : Frm s b n S S') (k : Frm s b n S' S'') : Frm s b n S S'' := fun c h1 h2 h3 => (k c h1 h2 h3).trans (h c h1 h2 h3)
theorem Dr.obj {S S' : Sto} {x a s b n : Addr} {steps : List Stp} {boxes : List Box} {c : Addr} {k : Str} {fs : List (Str × List D)} (d : Dr S x a s b n steps boxes) (f : Frm s b n S S') (h : S c = some (.obj k fs)) : S' c = some (.obj k fs) := by
  rw [f c (fun z => by rw [z, d.rs] at h; cases h) (fun z => by rw [z, d.rb] at h; cases h) (fun z => by rw [z, d.rn] at h; cases h)]; exact h
@[irreducible] def c_Deriver_dd__init_dd_ : DC := fun ds S R => ∃ x a, ds = [.loc x, .loc a] ∧ S x = some (.obj "Deriver" []) ∧ ∀ S' s b n, Dr S' x a s b n [] [] → S s = none → S b = none → S n = none → (∀ c, c ≠ x → c ≠ s → c ≠ b → c ≠ n → S' c = S c) → R .non S'
theorem i_Deriver_dd__init_dd_ {ds : List D} {S : Sto} {R : DQ} (h : ∃ x a, ds = [.loc x, .loc a] ∧ S x = some (.obj "Deriver" []) ∧ ∀ S' s b n, Dr S' x a s b n [] [] → S s = none → S b = none → S n = none → (∀ c, c ≠ x → c ≠ s → c ≠ b → c ≠ n → S' c = S c) → R .non S') : c_Deriver_dd__init_dd_ ds S R := by unfold c_Deriver_dd__init_dd_; exact h
theorem u_Deriver_dd__init_dd_ {ds : List D} {S : Sto} {R : DQ} (h : c_Deriver_dd__init_dd_ ds S R) : ∃ x a, ds = [.loc x, .loc a] ∧ S x = some (.obj "Deriver" []) ∧ ∀ S' s b n, Dr S' x a s b n [] [] → S s = none → S b = none → S n = none → (∀ c, c ≠ x → c ≠ s → c ≠ b → c ≠ n → S' c = S c) → R .non S' := by unfold c_Deriver_dd__init_dd_ at h; exact h
def w_Deriver_dd__init_dd_ : DS := (sSeq (sFld' "Deriver" "book" (wVar 0) (wVar 1)) (sSeq (sAsg (wTup (aCons (wNew aNil) (aCons (wNew aNil) aNil))) (gT 2 (gCons' (gFld "Deriver" "steps" (wVar 0)) (gCons' (gFld "Deriver" "boxes" (wVar 0)) gNil')))) (sFld' "Deriver" "numbers" (wVar 0) wDNewT)))
theorem q_Deriver_dd__init_dd_ : Qd w_Deriver_dd__init_dd_ 2 c_Deriver_dd__init_dd_ := by
  intro ds S R hc0
  obtain ⟨x, a, rfl, hx, h⟩ := u_Deriver_dd__init_dd_ hc0
  refine dPutF_i hx (Nat.lt_of_sub_eq_succ rfl) ?_
  conv => whnf
  refine ⟨sz (Nat.zero_le _), fun s hs => ⟨sz (Nat.zero_le _), fun b hb => ?_⟩⟩
  have xs : s ≠ x := fun z => by rw [z, put_same] at hs; cases hs
  have xb : b ≠ x := fun z => by rw [z, put_ne xs.symm, put_same] at hb; cases hb
  have bs : b ≠ s := fun z => by rw [z, put_same] at hb; cases hb
  refine ⟨sz (Nat.le_of_ble_eq_true rfl), rfl, ?_⟩
  refine dPutF_i (by rw [put_ne xb.symm, put_ne xs.symm, put_same]) (Nat.lt_of_sub_eq_succ rfl) ?_
  refine dPutF_i put_same (Nat.lt_of_sub_eq_succ rfl) ?_
  conv => whnf
  intro n hn
  have xn : n ≠ x := fun z => by rw [z, put_same] at hn; cases hn
  have nb : n ≠ b := fun z => by rw [z, put_ne xb, put_ne xb, put_same] at hn; cases hn
  have ns : n ≠ s := fun z => by rw [z, put_ne xs, put_ne xs, put_ne bs.symm, put_same] at hn; cases hn
  refine dPutF_i (by rw [put_ne xn.symm, put_same]) (Nat.lt_of_sub_eq_succ rfl) ?_
  refine Fin.now (h _ s b n ⟨put_same, ?_, ?_, ?_, bs.symm⟩ ?_ ?_ ?_ fun c c1 c2 c3 c4 => ?_)
  · rw [put_ne xs, put_ne ns.symm, put_ne xs, put_ne xs, put_ne bs.symm, put_same]; rfl
  · rw [put_ne xb, put_ne nb.symm, put_ne xb, put_ne xb, put_same]; rfl
  · rw [put_ne xn, put_same]; rfl
  · rwa [put_ne xs] at hs
  · rwa [put_ne bs, put_ne xb] at hb
  · rwa [put_ne xn, put_ne xn, put_ne nb, put_ne ns, put_ne xn] at hn
  · rw [put_ne c1, put_ne c4, put_ne c1, put_ne c1, put_ne c3, put_ne c2, put_ne c1]
theorem dfld {S : Sto} {x a s b n : Addr} {R : DQ} {f : Str} {d : D} (h : S x = some (drvO a s b n)) (hf : [(("book" : Str), [D.loc a]), ("steps", [D.loc s]), ("boxes", [D.loc b]), ("numbers", [D.loc n])].lookup f = some [d]) (k : R d S) : dFld "Deriver" f (.loc x) S R :=
  dFld_i h hf fun y hy => by rw [List.mem_singleton] at hy; subst hy; exact k
@[irreducible] def c_Deriver_step : DC := fun ds S R => ∃ x a s b n steps boxes st bx, ds = [.loc x, eS st, eB bx] ∧ Dr S x a s b n steps boxes ∧ boxes.length = steps.length ∧ steps.length ≤ 1000 ∧ (∀ i : Nat, steps[i]? = some st → R (.int i) S) ∧ (st ∉ steps → ∀ S', Dr S' x a s b n (steps ++ [st]) (boxes ++ [bx]) → Frm s b n S S' → R (.int steps.length) S')
theorem i_Deriver_step {ds : List D} {S : Sto} {R : DQ} (h : ∃ x a s b n steps boxes st bx, ds = [.loc x, eS st, eB bx] ∧ Dr S x a s b n steps boxes ∧ boxes.length = steps.length ∧ steps.length ≤ 1000 ∧ (∀ i : Nat, steps[i]? = some st → R (.int i) S) ∧ (st ∉ steps → ∀ S', Dr S' x a s b n (steps ++ [st]) (boxes ++ [bx]) → Frm s b n S S' → R (.int steps.length) S')) : c_Deriver_step ds S R := by unfold c_Deriver_step; exact h
theorem u_Deriver_step {ds : List D} {S : Sto} {R : DQ} (h : c_Deriver_step ds S R) : ∃ x a s b n steps boxes st bx, ds = [.loc x, eS st, eB bx] ∧ Dr S x a s b n steps boxes ∧ boxes.length = steps.length ∧ steps.length ≤ 1000 ∧ (∀ i : Nat, steps[i]? = some st → R (.int i) S) ∧ (st ∉ steps → ∀ S', Dr S' x a s b n (steps ++ [st]) (boxes ++ [bx]) → Frm s b n S S' → R (.int steps.length) S') := by unfold c_Deriver_step at h; exact h
def w_Deriver_step : DS := (sSeq (sIf (asB (wDIn true (wVar 1) (wFld "Deriver" "numbers" (wVar 0)))) (sSeq (sDPut (wFld "Deriver" "numbers" (wVar 0)) (wVar 1) (wCall dLen (aCons (wFld "Deriver" "steps" (wVar 0)) aNil))) (sSeq (sDrop (wMt dApp (wFld "Deriver" "steps" (wVar 0)) (aCons (wVar 1) aNil))) (sDrop (wMt dApp (wFld "Deriver" "boxes" (wVar 0)) (aCons (wVar 2) aNil))))) sNil) (sRet (wDGet (wFld "Deriver" "numbers" (wVar 0)) (wVar 1))))
theorem q_Deriver_step : Qd w_Deriver_step 3 c_Deriver_step := by
  intro ds S R hc0
  obtain ⟨x, a, s, b, n, steps, boxes, st, bx, rfl, dr, hl, hz, h1, h2⟩ := u_Deriver_step hc0
  have nx : n ≠ x := fun z => by have := dr.rn; rw [z, dr.rx] at this; cases this
  have ns : n ≠ s := fun z => by have := dr.rn; rw [z, dr.rs] at this; cases this
  have nb : n ≠ b := fun z => by have := dr.rn; rw [z, dr.rb] at this; cases this
  have xs : x ≠ s := fun z => by have := dr.rx; rw [z, dr.rs] at this; cases this
  have xb : x ≠ b := fun z => by have := dr.rx; rw [z, dr.rb] at this; cases this
  rw [eS_tup]
  refine dfld dr.rx rfl ?_
  refine dGet_T dr.rn (keysD_S st) ?_
  by_cases hm : st ∈ steps
  · obtain ⟨i, hi, ha⟩ := numb_some hm
    rw [ha]
    refine dfld dr.rx rfl ?_
    refine dGet_T dr.rn (keysD_S st) ?_
    rw [ha]
    exact Fin.now (h1 i hi)
  · rw [numb_at hm]
    refine dfld dr.rx rfl ?_
    conv => whnf
    rw [seq_loc dr.rs]
    refine dfld dr.rx rfl ?_
    refine dPut_T dr.rn (keysD_S st) (by rw [numb_len]; exact szl (by omega)) ?_
    rw [List.length_map, numb_snoc hm]
    refine dfld (S := put S n _) (by rw [put_ne nx.symm]; exact dr.rx) rfl ?_
    refine ⟨⟨s, _, rfl, by rw [put_ne ns.symm]; exact dr.rs⟩, s, _, _, rfl, rfl, by rw [put_ne ns.symm]; exact dr.rs, by rw [List.length_map]; exact szl (by omega), ?_⟩
    refine dfld (S := put (put S n _) s _) (by rw [put_ne xs, put_ne nx.symm]; exact dr.rx) rfl ?_
    have rb' : (put (put S n (.dT (numb (steps ++ [st])))) s (.lst (steps.map eS ++ [.tup (tupS st)]))) b = some (.lst (boxes.map eB)) := by rw [put_ne dr.ne.symm, put_ne nb.symm]; exact dr.rb
    refine ⟨⟨b, _, rfl, rb'⟩, b, _, _, rfl, rfl, rb', by rw [List.length_map]; exact szl (by omega), ?_⟩
    have dr' : Dr (put (put (put S n (.dT (numb (steps ++ [st])))) s (.lst (steps.map eS ++ [.tup (tupS st)]))) b (.lst (boxes.map eB ++ [eB bx]))) x a s b n (steps ++ [st]) (boxes ++ [bx]) := by
      refine ⟨?_, ?_, ?_, ?_, dr.ne⟩
      · rw [put_ne xb, put_ne xs, put_ne nx.symm]; exact dr.rx
      · rw [put_ne dr.ne, put_same, List.map_append, List.map_singleton, eS_tup]
      · rw [put_same, List.map_append]; rfl
      · rw [put_ne nb, put_ne ns, put_same]
    refine dfld dr'.rx rfl ?_
    refine dGet_T dr'.rn (keysD_S st) ?_
    have : atK (numb (steps ++ [st])) (keyS st) = some (.int (steps.length : Nat)) := by
      rw [← numb_snoc hm, atK_put, if_pos rfl]
    rw [this]
    exact Fin.now (h2 hm _ dr' fun c c1 c2 c3 => by rw [put_ne c2, put_ne c1, put_ne c3])
@[irreducible] def c_Deriver_rule_for : DC := fun ds S R => ∃ x a s b n steps boxes form rules bx, ds = [.loc x, eB bx] ∧ Dr S x a s b n steps boxes ∧ Bk S a form rules ∧ VBox form bx ∧ boxes.length = steps.length ∧ steps.length ≤ 1000 ∧ ((∀ r ∈ rules, lies bx r = false) → R .non S) ∧ (∀ (j : Nat) r, rules[j]? = some r → lies bx r = true → (∀ i : Nat, steps[i]? = some (.rule j) → R (.int i) S) ∧ (Stp.rule j ∉ steps → ∀ S', Dr S' x a s b n (steps ++ [.rule j]) (boxes ++ [r]) → Frm s b n S S' → R (.int steps.length) S'))
theorem i_Deriver_rule_for {ds : List D} {S : Sto} {R : DQ} (h : ∃ x a s b n steps boxes form rules bx, ds = [.loc x, eB bx] ∧ Dr S x a s b n steps boxes ∧ Bk S a form rules ∧ VBox form bx ∧ boxes.length = steps.length ∧ steps.length ≤ 1000 ∧ ((∀ r ∈ rules, lies bx r = false) → R .non S) ∧ (∀ (j : Nat) r, rules[j]? = some r → lies bx r = true → (∀ i : Nat, steps[i]? = some (.rule j) → R (.int i) S) ∧ (Stp.rule j ∉ steps → ∀ S', Dr S' x a s b n (steps ++ [.rule j]) (boxes ++ [r]) → Frm s b n S S' → R (.int steps.length) S'))) : c_Deriver_rule_for ds S R := by unfold c_Deriver_rule_for; exact h
theorem u_Deriver_rule_for {ds : List D} {S : Sto} {R : DQ} (h : c_Deriver_rule_for ds S R) : ∃ x a s b n steps boxes form rules bx, ds = [.loc x, eB bx] ∧ Dr S x a s b n steps boxes ∧ Bk S a form rules ∧ VBox form bx ∧ boxes.length = steps.length ∧ steps.length ≤ 1000 ∧ ((∀ r ∈ rules, lies bx r = false) → R .non S) ∧ (∀ (j : Nat) r, rules[j]? = some r → lies bx r = true → (∀ i : Nat, steps[i]? = some (.rule j) → R (.int i) S) ∧ (Stp.rule j ∉ steps → ∀ S', Dr S' x a s b n (steps ++ [.rule j]) (boxes ++ [r]) → Frm s b n S S' → R (.int steps.length) S')) := by unfold c_Deriver_rule_for at h; exact h
def w_Deriver_rule_for : DS := (sSeq (sFor (iEnum' (aCons (wFld "Book" "rules" (wFld "Deriver" "book" (wVar 0))) aNil)) (gT 2 (gCons' (gN 2) (gCons' (gN 3) gNil'))) (sIf (asB (wCall c_lies (aCons (wVar 1) (aCons (wVar 3) aNil)))) (sRet (wMeth "Deriver" "step" c_Deriver_step (wVar 0) (aCons (wTup (aCons (wC (.str "rule")) (aCons (wVar 2) aNil))) (aCons (wVar 3) aNil)))) sNil)) (sRet (wC .non)))
theorem q_Deriver_rule_for : Qd w_Deriver_rule_for 4 c_Deriver_rule_for := by
  intro ds S R hc0
  obtain ⟨x, a, s, b, n, steps, boxes, form, rules, bx, rfl, dr, bk, hb, hl, hz, h1, h2⟩ := u_Deriver_rule_for hc0
  refine dfld dr.rx rfl ?_
  refine fld_rules bk.1 ?_
  refine ⟨trivial, ?_⟩
  refine for_enum eB rules (fun i env S' => S' = S ∧ (∃ x2 x3, env = [some (.loc x), some (eB bx), x2, x3]) ∧ ∀ r ∈ rules.take i, lies bx r = false) ?_ ?_ ⟨rfl, ⟨none, none, rfl⟩, by simp⟩
  · rintro env S' ⟨rfl, ⟨x2, x3, rfl⟩, hn⟩
    refine ⟨trivial, ?_⟩
    rw [List.take_length] at hn
    exact Fin.now (h1 hn)
  · rintro i r env S' N hr hN ⟨rfl, ⟨x2, x3, rfl⟩, hn⟩
    refine ⟨trivial, rfl, ?_⟩
    have h8 := bk.2.1.l8
    refine i_lies ⟨bx, r, rfl, by rw [hb.1]; omega, fun l hl => Nat.le_trans (lots6 bk.2.1 hb l hl) (by decide), ?_⟩
    cases e : lies bx r with
    | true =>
      refine dMe_i dr.rx rfl ?_
      refine ⟨sz (Nat.le_of_ble_eq_true rfl), ?_⟩
      obtain ⟨k1, k2⟩ := h2 i r hr e
      exact i_Deriver_step ⟨x, a, s, b, n, steps, boxes, .rule i, r, rfl, dr, hl, hz, fun j hj => Fin.now (k1 j hj), fun hm S2 d2 f2 => Fin.now (k2 hm S2 d2 f2)⟩
    | false =>
      refine hN _ _ ⟨rfl, ⟨_, _, rfl⟩, fun q hq => ?_⟩
      have hi := (List.getElem?_eq_some_iff.mp hr).1
      rw [List.take_succ_eq_append_getElem hi, List.mem_append, List.mem_singleton] at hq
      rcases hq with hq | rfl
      · exact hn q hq
      · rw [(List.getElem?_eq_some_iff.mp hr).2]; exact e
end K78
set_option Elab.async false
set_option linter.all false
set_option maxRecDepth 100000
set_option maxHeartbeats 1000000
namespace K78
open PySem PySem.Spec PyProof.Rows L2 Dd Mir
@[irreducible] def c_reachK (k : Nat) : DC := fun ds S R => ∃ x a s b n steps boxes form rules bx, ds = [.loc x, eB bx] ∧ Dr S x a s b n steps boxes ∧ Bk S a form rules ∧ VBox form bx ∧ Val rules steps boxes ∧ NoLaw form rules bx ∧ multi bx < k ∧ steps.length + 2 * card bx ≤ 900 ∧ ∀ S' steps' boxes' (i : Nat) B, Dr S' x a s b n steps' boxes' → Frm s b n S S' → Val rules steps' boxes' → boxes'[i]? = some B → lies bx B = true → steps'.length + 1 ≤ steps.length + 2 * card bx → (∃ more, boxes' = boxes ++ more) → R (.int (i : Int)) S'
theorem i_reachK {k : Nat} {ds : List D} {S : Sto} {R : DQ} (h : ∃ x a s b n steps boxes form rules bx, ds = [.loc x, eB bx] ∧ Dr S x a s b n steps boxes ∧ Bk S a form rules ∧ VBox form bx ∧ Val rules steps boxes ∧ NoLaw form rules bx ∧ multi bx < k ∧ steps.length + 2 * card bx ≤ 900 ∧ ∀ S' steps' boxes' (i : Nat) B, Dr S' x a s b n steps' boxes' → Frm s b n S S' → Val rules steps' boxes' → boxes'[i]? = some B → lies bx B = true → steps'.length + 1 ≤ steps.length + 2 * card bx → (∃ more, boxes' = boxes ++ more) → R (.int (i : Int)) S') : c_reachK k ds S R := by unfold c_reachK; exact h
theorem u_reachK {k : Nat} {ds : List D} {S : Sto} {R : DQ} (h : c_reachK k ds S R) : ∃ x a s b n steps boxes form rules bx, ds = [.loc x, eB bx] ∧ Dr S x a s b n steps boxes ∧ Bk S a form rules ∧ VBox form bx ∧ Val rules steps boxes ∧ NoLaw form rules bx ∧ multi bx < k ∧ steps.length + 2 * card bx ≤ 900 ∧ ∀ S' steps' boxes' (i : Nat) B, Dr S' x a s b n steps' boxes' → Frm s b n S S' → Val rules steps' boxes' → boxes'[i]? = some B → lies bx B = true → steps'.length + 1 ≤ steps.length + 2 * card bx → (∃ more, boxes' = boxes ++ more) → R (.int (i : Int)) S' := by unfold c_reachK at h; exact h
abbrev c_Deriver_reach : DC := c_reachK 9
def w_Deriver_reach (cs : DC) : DS := (sSeq (sAsg (wMeth "Deriver" "rule_for" c_Deriver_rule_for (wVar 0) (aCons (wVar 1) aNil)) (gN 2)) (sSeq (sIf (asB (w2 dNotN (wVar 2) (wC .non))) (sRet (wVar 2)) sNil) (sSeq (sAsg (w2 dIx (wLc (iEnum' (aCons (wVar 1) aNil)) (gT 2 (gCons' (gN 6) (gCons' (gN 7) gNil'))) (asB (w2 dGt (wCall dLen (aCons (wVar 7) aNil)) (wC (.int 1)))) (wVar 6) [6, 7]) (wC (.int 0))) (gN 3)) (sSeq (sFor (iSeq (w2 dIx (wVar 1) (wVar 3))) (gN 4) (sIf (asB (w2 dIsN (wVar 2) (wC .non))) (sAsg (wMeth "Deriver" "reach" cs (wVar 0) (aCons (wCall c_with_lot (aCons (wVar 1) (aCons (wVar 3) (aCons (wTup (aCons (wVar 4) aNil)) aNil)))) aNil)) (gN 2)) (sIf (asB (w2 dNotIn (wVar 4) (w2 dIx (w2 dIx (wFld "Deriver" "boxes" (wVar 0)) (wVar 2)) (wVar 3)))) (sSeq (sAsg (wMeth "Deriver" "reach" cs (wVar 0) (aCons (wCall c_with_lot (aCons (wVar 1) (aCons (wVar 3) (aCons (wTup (aCons (wVar 4) aNil)) aNil)))) aNil)) (gN 5)) (sAsg (wMeth "Deriver" "step" c_Deriver_step (wVar 0) (aCons (wTup (aCons (wC (.str "join")) (aCons (wVar 3) (aCons (wVar 2) (aCons (wVar 5) aNil))))) (aCons (wCall c_joining (aCons (wVar 3) (aCons (w2 dIx (wFld "Deriver" "boxes" (wVar 0)) (wVar 2)) (aCons (w2 dIx (wFld "Deriver" "boxes" (wVar 0)) (wVar 5)) aNil)))) aNil))) (gN 2))) sNil))) (sRet (wVar 2))))))
theorem q_Deriver_reach (k : Nat) : Qd (w_Deriver_reach (c_reachK k)) 8 (c_reachK (k + 1)) := by
  intro ds S R hc0
  obtain ⟨x, a, s, b, n, steps, boxes, form, rules, bx, rfl, dr, bk, hb, hv, hn, hm, hz, h⟩ := u_reachK hc0
  have h8 := bk.2.1.l8
  have hc1 : 1 ≤ card bx := card_pos (VBox.ne hb)
  refine dMe_i dr.rx rfl ?_
  refine i_Deriver_rule_for ⟨x, a, s, b, n, steps, boxes, form, rules, bx, rfl, dr, bk, hb, hv.len, by omega, ?_, ?_⟩
  rotate_left
  · intro j r hr hl
    have hs : stepBox rules boxes (.rule j) = some r := hr
    refine ⟨fun i hi => ?_, fun hnew S2 d2 f2 => ?_⟩
    · exact Fin.now (h S steps boxes i r dr (fun _ _ _ _ => rfl) hv (hv.get hi hs) hl (by omega) ⟨[], by simp⟩)
    · exact Fin.now (h S2 _ _ steps.length r d2 f2 (hv.snoc hs) (by rw [← hv.len]; simp) hl (by simp; omega) ⟨[r], rfl⟩)
  intro hno
  obtain ⟨l0, hl0, hl1⟩ := rule_or_multi hb bk.2.2 hn hno
  -- the first field with more than one value
  refine ⟨trivial, ?_⟩
  refine lc_enum (xs := bx) (E := eI) (fun p => if 1 < p.2.length then some (.int (p.1 : Int)) else none) (by rw [hb.1]; omega) (fun _ _ => trivial) ?_ ?_
  · intro i l hl S' ex Kt Kf kk
    refine ⟨rfl, ?_⟩
    by_cases e : 1 < l.length
    · have kk : Kt (.int (i : Int)) S' := by simpa [e] using kk
      conv => whnf
      dsimp only
      rw [dT (by rw [List.length_map]; omega)]
      exact kk
    · have kk : Kf S' := by simpa [e] using kk
      conv => whnf
      dsimp only
      rw [dF (by rw [List.length_map]; omega)]
      exact kk
  obtain ⟨i0, hi0⟩ := List.getElem?_of_mem hl0
  have hne : ((List.zip (List.range bx.length) bx).filterMap fun p => if 1 < p.2.length then some (D.int (p.1 : Int)) else none) ≠ [] := by
    intro z
    have : D.int (i0 : Int) ∈ ((List.zip (List.range bx.length) bx).filterMap fun p => if 1 < p.2.length then some (D.int (p.1 : Int)) else none) := by
      rw [List.mem_filterMap]
      exact ⟨(i0, l0), List.mem_of_getElem? (by rw [zr_get, hi0]; rfl), by rw [if_pos hl1]⟩
    rw [z] at this; cases this
  obtain ⟨f, lot, hf, hlot, hd⟩ : ∃ (f : Nat) (lot : List Int), bx[f]? = some lot ∧ 1 < lot.length ∧ ((List.zip (List.range bx.length) bx).filterMap fun p => if 1 < p.2.length then some (D.int (p.1 : Int)) else none)[0]? = some (.int (f : Int)) := by
    cases e : ((List.zip (List.range bx.length) bx).filterMap fun p => if 1 < p.2.length then some (D.int (p.1 : Int)) else none) with
    | nil => exact absurd e hne
    | cons y ys =>
      have hy : y ∈ ((List.zip (List.range bx.length) bx).filterMap fun p => if 1 < p.2.length then some (D.int (p.1 : Int)) else none) := by rw [e]; simp
      rw [List.mem_filterMap] at hy
      obtain ⟨⟨i, l⟩, hp, hq⟩ := hy
      by_cases hh : 1 < l.length
      · rw [if_pos hh] at hq
        cases hq
        exact ⟨i, l, zr_mem hp, hh, rfl⟩
      · rw [if_neg hh] at hq; cases hq
  refine dIx_nat (d := .lst _) (i := 0) (S := S) rfl hd ?_
  have hfx : f < bx.length := (List.getElem?_eq_some_iff.mp hf).1
  have hff : f < form.length := by rw [← hb.1]; exact hfx
  have hfm : form[f]? = some form[f] := List.getElem?_eq_getElem hff
  have hvl : VLot form[f] lot := hb.2 f _ lot hfm hf
  refine dIx_nat (d := eB bx) (i := f) (S := S) (xs := bx.map eI) (x := eI lot) rfl (get_map hf) ?_
  have hcs : ∀ v : Int, card (withLot bx f [v]) * lot.length = card bx := fun v => by
    rw [withLot_set hfx, card_set hf]; simp
  have hcc : ∃ c1, ∀ v : Int, card (withLot bx f [v]) = c1 := by
    refine ⟨card (withLot bx f [0]), fun v => ?_⟩
    have h1 := hcs v
    have h2 := hcs 0
    exact Nat.eq_of_mul_eq_mul_right (show 0 < lot.length by omega) (h1.trans h2.symm)
  obtain ⟨c1, hcc⟩ := hcc
  have hc2 : c1 * lot.length = card bx := by rw [← hcc 0]; exact hcs 0
  -- a part of the box
  have part : ∀ v ∈ lot, VBox form (withLot bx f [v]) ∧ NoLaw form rules (withLot bx f [v]) ∧ multi (withLot bx f [v]) < k := fun v hv' => by
    refine ⟨VBox.set hb hfm (VLot.one (hvl.mem v hv')), hn.sub (withLot_len hfx) (lies_part hf fun u hu => by rw [List.mem_singleton] at hu; rw [hu]; exact hv'), ?_⟩
    rw [withLot_set hfx]
    have := multi_set (v := v) hf hlot
    omega
  refine for_ix D.int lot (fun i env S' => ∃ u0 x4 x5 steps' boxes', env = [some (.loc x), some (eB bx), some u0, some (.int (f : Int)), x4, x5, none, none] ∧ Dr S' x a s b n steps' boxes' ∧ Frm s b n S S' ∧ Val rules steps' boxes' ∧ (∃ more, boxes' = boxes ++ more) ∧
    ((i = 0 ∧ u0 = .non ∧ steps'.length ≤ steps.length) ∨ (0 < i ∧ ∃ (t : Nat) (B : List (List Int)), u0 = .int (t : Int) ∧ boxes'[t]? = some B ∧ lies (withLot bx f (lot.take i)) B = true ∧ steps'.length + 1 ≤ steps.length + i * (2 * c1)))) ?_ ?_ ⟨.non, none, none, steps, boxes, rfl, dr, fun _ _ _ _ => rfl, hv, ⟨[], by simp⟩, .inl ⟨rfl, rfl, Nat.le_refl _⟩⟩
  · rintro env S' ⟨u0, x4, x5, steps', boxes', rfl, d', f', v', m', c⟩
    refine ⟨trivial, ?_⟩
    rcases c with ⟨z, _⟩ | ⟨_, t, B, rfl, hB, hl, hle⟩
    · omega
    rw [List.take_length, withLot_self hf] at hl
    refine Fin.now (h S' steps' boxes' t B d' f' v' hB hl ?_ m')
    have : lot.length * (2 * c1) = 2 * card bx := by rw [← hc2, Nat.mul_comm c1, ← Nat.mul_assoc, Nat.mul_comm lot.length 2, Nat.mul_assoc]
    omega
  · rintro i v env S' N hvi hN ⟨u0, x4, x5, steps', boxes', rfl, d', f', v', m', c⟩
    have hi : i < lot.length := (List.getElem?_eq_some_iff.mp hvi).1
    have hvm : v ∈ lot := List.mem_of_getElem? hvi
    obtain ⟨p1, p2, p3⟩ := part v hvm
    have bk' : Bk S' a form rules := ⟨dr.obj f' bk.1, bk.2⟩
    have tk : lot.take (i + 1) = lot.take i ++ [v] := by rw [List.take_succ_eq_append_getElem hi, (List.getElem?_eq_some_iff.mp hvi).2]
    have hbnd : (i + 1) * (2 * c1) ≤ 2 * card bx := by
      have : (i + 1) * (2 * c1) ≤ lot.length * (2 * c1) := Nat.mul_le_mul_right _ hi
      have e : lot.length * (2 * c1) = 2 * card bx := by rw [← hc2, Nat.mul_comm c1, ← Nat.mul_assoc, Nat.mul_comm lot.length 2, Nat.mul_assoc]
      omega
    have hsucc : (i + 1) * (2 * c1) = i * (2 * c1) + 2 * c1 := by rw [Nat.add_mul, Nat.one_mul]
    refine ⟨trivial, ?_⟩
    rcases c with ⟨rfl, rfl, hle⟩ | ⟨h0, t, B, rfl, hB, hl, hle⟩
    · refine dMe_i d'.rx rfl ?_
      refine ⟨sz (Nat.le_of_ble_eq_true rfl), ?_⟩
      refine i_with_lot ⟨bx, [v], f, rfl, hfx, by rw [hb.1]; omega, ?_⟩
      refine i_reachK ⟨x, a, s, b, n, steps', boxes', form, rules, withLot bx f [v], rfl, d', bk', p1, v', p2, p3, by rw [hcc]; omega, fun S2 st2 bo2 t B d2 f2 v2 hB hl hle2 m2 => ?_⟩
      rw [hcc] at hle2
      refine hN _ _ ⟨_, _, _, st2, bo2, rfl, d2, f'.trans f2, v2, ?_, .inr ⟨by omega, t, B, rfl, hB, ?_, by omega⟩⟩
      · obtain ⟨q1, rfl⟩ := m'; obtain ⟨q2, rfl⟩ := m2; exact ⟨q1 ++ q2, by rw [List.append_assoc]⟩
      · rw [tk]; exact hl
    · have hBv : VBox form B := v'.box bk.2.2 B (List.mem_of_getElem? hB)
      have hBf : B[f]? = some (B[f]'(by rw [hBv.1]; exact hff)) := List.getElem?_eq_getElem _
      refine dfld d'.rx rfl ?_
      refine dIx_nat (d := .loc b) (i := t) (S := S') (x := eB B) (seq_loc d'.rb) (get_map hB) ?_
      refine dIx_nat (d := eB B) (i := f) (S := S') (x := eI (B[f]'(by rw [hBv.1]; exact hff))) rfl (get_map hBf) ?_
      refine dNotIn_fn (E := D.int) (n := 0) eq_int (fun i => .int i) (by decide) (xs := B[f]'(by rw [hBv.1]; exact hff)) (y := v) (S := S') rfl ?_
      by_cases hin : v ∈ B[f]'(by rw [hBv.1]; exact hff)
      · rw [dT hin]
        refine hN _ _ ⟨_, _, _, steps', boxes', rfl, d', f', v', m', .inr ⟨by omega, t, B, rfl, hB, ?_, by omega⟩⟩
        rw [tk]
        exact lies_more hfx hl hBf hin
      · rw [dF hin]
        refine dMe_i d'.rx rfl ?_
        refine ⟨sz (Nat.le_of_ble_eq_true rfl), ?_⟩
        refine i_with_lot ⟨bx, [v], f, rfl, hfx, by rw [hb.1]; omega, ?_⟩
        refine i_reachK ⟨x, a, s, b, n, steps', boxes', form, rules, withLot bx f [v], rfl, d', bk', p1, v', p2, p3, by rw [hcc]; omega, fun S2 st2 bo2 t2 B2 d2 f2 v2 hB2 hl2 hle2 m2 => ?_⟩
        rw [hcc] at hle2
        obtain ⟨q2, rfl⟩ := m2
        have hB' : (boxes' ++ q2)[t]? = some B := get_more hB
        have hB2v : VBox form B2 := v2.box bk.2.2 B2 (List.mem_of_getElem? hB2)
        obtain ⟨c, hc, hlc⟩ := join_cover (P := lot.take i) (Q := [v]) hb hBv hB2v hff (by intro z; have := congrArg List.length z; rw [List.length_take, List.length_nil] at this; omega) hl hl2
        refine dMe_i d2.rx rfl ?_
        refine ⟨sz (Nat.le_of_ble_eq_true rfl), ?_⟩
        refine dfld d2.rx rfl ?_
        refine dIx_nat (d := .loc b) (i := t) (S := S2) (x := eB B) (seq_loc d2.rb) (get_map hB') ?_
        refine dfld d2.rx rfl ?_
        refine dIx_nat (d := .loc b) (i := t2) (S := S2) (x := eB B2) (seq_loc d2.rb) (get_map hB2) ?_
        refine i_joining ⟨f, B, B2, rfl, by rw [hBv.1, hB2v.1], by rw [hBv.1]; exact hff, by rw [hBv.1]; exact h8, lots6 bk.2.1 hBv, lots6 bk.2.1 hB2v, ?_⟩
        rw [hc]
        have hst : stepBox rules (boxes' ++ q2) (.join f t t2) = some c := step_join.mpr ⟨B, B2, hB', hB2, by rw [hBv.1]; exact hff, hc⟩
        refine i_Deriver_step ⟨x, a, s, b, n, st2, boxes' ++ q2, .join f t t2, c, rfl, d2, v2.len, by omega, fun j hj => ?_, fun hnew S3 d3 f3 => ?_⟩
        · refine hN _ _ ⟨_, _, _, st2, boxes' ++ q2, rfl, d2, f'.trans f2, v2, ?_, .inr ⟨by omega, j, c, rfl, v2.get hj hst, ?_, by omega⟩⟩
          · obtain ⟨q1, rfl⟩ := m'; exact ⟨q1 ++ q2, by rw [List.append_assoc]⟩
          · rw [tk]; exact hlc
        · refine hN _ _ ⟨_, _, _, st2 ++ [.join f t t2], boxes' ++ q2 ++ [c], rfl, d3, (f'.trans f2).trans f3, v2.snoc hst, ?_, .inr ⟨by omega, st2.length, c, rfl, ?_, ?_, ?_⟩⟩
          · obtain ⟨q1, rfl⟩ := m'; exact ⟨q1 ++ q2 ++ [c], by simp⟩
          · rw [← v2.len]; simp
          · rw [tk]; exact hlc
          · rw [List.length_append, List.length_singleton]; omega
end K78
set_option Elab.async false
set_option linter.all false
set_option maxRecDepth 100000
set_option maxHeartbeats 1000000
namespace K78
open PySem PySem.Spec PyProof.Rows L2 Dd Mir
@[irreducible] def c_cut : DC := fun ds S R => ∃ rules steps boxes B, ds = [eP steps] ∧ Val rules steps boxes ∧ boxes.getLast? = some B ∧ steps.length ≤ 1000 ∧ ∀ steps' boxes', Val rules steps' boxes' → boxes'.getLast? = some B → steps'.length ≤ 1000 → R (eP steps') S
theorem i_cut {ds : List D} {S : Sto} {R : DQ} (h : ∃ rules steps boxes B, ds = [eP steps] ∧ Val rules steps boxes ∧ boxes.getLast? = some B ∧ steps.length ≤ 1000 ∧ ∀ steps' boxes', Val rules steps' boxes' → boxes'.getLast? = some B → steps'.length ≤ 1000 → R (eP steps') S) : c_cut ds S R := by unfold c_cut; exact h
theorem u_cut {ds : List D} {S : Sto} {R : DQ} (h : c_cut ds S R) : ∃ rules steps boxes B, ds = [eP steps] ∧ Val rules steps boxes ∧ boxes.getLast? = some B ∧ steps.length ≤ 1000 ∧ ∀ steps' boxes', Val rules steps' boxes' → boxes'.getLast? = some B → steps'.length ≤ 1000 → R (eP steps') S := by unfold c_cut at h; exact h
def w_cut : DS := (sSeq (sAsg (wDisp1 (wSub (wCall dLen (aCons (wVar 0) aNil)) (wC (.int 1))) (wC (.bl true))) (gN 1)) (sSeq (sFor (iR3 (aCons (wSub (wCall dLen (aCons (wVar 0) aNil)) (wC (.int 1))) (aCons (wNeg (wC (.int 1))) (aCons (wNeg (wC (.int 1))) aNil)))) (gN 2) (sIf (tAnd' (asB (wDIn false (wVar 2) (wVar 1))) (asB (w2 dEq (w2 dIx (w2 dIx (wVar 0) (wVar 2)) (wC (.int 0))) (wC (.str "join"))))) (sSeq (sDPut (wVar 1) (w2 dIx (w2 dIx (wVar 0) (wVar 2)) (wC (.int 2))) (wC (.bl true))) (sDPut (wVar 1) (w2 dIx (w2 dIx (wVar 0) (wVar 2)) (wC (.int 3))) (wC (.bl true)))) sNil)) (sSeq (sPar 3 4 (aCons wDNewK (aCons (wNew aNil) aNil))) (sSeq (sFor (iEnum' (aCons (wVar 0) aNil)) (gT 2 (gCons' (gN 2) (gCons' (gN 5) gNil'))) (sIf (asB (wDIn false (wVar 2) (wVar 1))) (sSeq (sDPut (wVar 3) (wVar 2) (wCall dLen (aCons (wVar 4) aNil))) (sDrop (wMt dApp (wVar 4) (aCons (wIf (asB (w2 dEq (w2 dIx (wVar 5) (wC (.int 0))) (wC (.str "rule")))) (wVar 5) (wAdd (wSl (wVar 5) oNone (oSome (wC (.int 2)))) (wTup (aCons (wDGet (wVar 3) (w2 dIx (wVar 5) (wC (.int 2)))) (aCons (wDGet (wVar 3) (w2 dIx (wVar 5) (wC (.int 3)))) aNil))))) aNil)))) sNil)) (sRet (wCall dTuple (aCons (wVar 4) aNil)))))))
def wn (kvs : List (Key × D)) (j : Nat) : Prop := (atK kvs (.inl (j : Int))).isSome = true
theorem wn_put {kvs : List (Key × D)} {j k : Nat} {d : D} : wn (putKD kvs (.inl (k : Int)) d) j ↔ j = k ∨ wn kvs j := by
  unfold wn
  rw [atK_put]
  by_cases e : (Sum.inl (k : Int) : Key) = .inl (j : Int)
  · rw [if_pos e]
    have : j = k := by have := Sum.inl.inj e; omega
    simp [this]
  · rw [if_neg e]
    have : ¬ j = k := fun z => e (by rw [z])
    simp [this]
theorem val_lt {rules boxes : List Box} {steps : List Stp} (v : Val rules steps boxes) {i f a b : Nat} (h : steps[i]? = some (.join f a b)) : a < i ∧ b < i ∧ ∃ x y c, boxes[a]? = some x ∧ boxes[b]? = some y ∧ boxes[i]? = some c ∧ f < x.length ∧ joinB f x y = some c := by
  have hi : i < boxes.length := by rw [v.len]; exact (List.getElem?_eq_some_iff.mp h).1
  have hb := List.getElem?_eq_getElem hi
  obtain ⟨x, y, h1, h2, h3, h4⟩ := step_join.mp (v.at_ i _ _ h hb)
  have ha : a < i := by have := (List.getElem?_eq_some_iff.mp h1).1; simp at this; omega
  have hb' : b < i := by have := (List.getElem?_eq_some_iff.mp h2).1; simp at this; omega
  rw [List.getElem?_take_of_lt ha] at h1
  rw [List.getElem?_take_of_lt hb'] at h2
  exact ⟨ha, hb', x, y, _, h1, h2, hb, h3, h4⟩
theorem c_cut_end {S : Sto} {p q r : Addr} (pq : p ≠ q) (pr : p ≠ r) (qr : q ≠ r) {o1 o2 o3 : SO} (hp : S p = none) (hq : S q = none) (hr : S r = none) : Wk (put (put (put S p o1) q o2) r o3) S := by
  refine wk_put (wk_put (wk_put Wk.refl hp) hq) hr
theorem q_cut : Qd w_cut 6 c_cut := by
  intro ds S R hc0
  obtain ⟨rules, steps, boxes, B, rfl, hv, hB, hz, h⟩ := u_cut hc0
  have hl := hv.len
  have hn : boxes ≠ [] := fun z => by rw [z] at hB; cases hB
  have h0 : 0 < steps.length := by rw [← hl]; exact List.length_pos_iff.mpr hn
  have hlast : boxes[steps.length - 1]? = some B := by rw [← hl, ← List.getLast?_eq_getElem?]; exact hB
  intro p hp
  have e0 : ((steps.map eS).length : Int) - 1 = ((steps.length - 1 : Nat) : Int) := by rw [List.length_map]; omega
  refine ⟨put_same, .inl (((steps.map eS).length : Int) - 1), rfl, ?_⟩
  rw [put_put, e0]
  refine ⟨rfl, ⟨?_, ?_⟩, ⟨?_, ?_⟩, ?_⟩
  · show (-(2 ^ 62) : Int) ≤ ((steps.map eS).length : Int) - 1
    rw [e0]; omega
  · show ((steps.map eS).length : Int) - 1 < 2 ^ 62
    rw [e0]; omega
  · decide
  · decide
  have e1 : rngDn (((steps.map eS).length : Int) - 1) (((steps.map eS).length : Int) - 1 - -1).toNat = (List.range steps.length).map fun (k : Nat) => D.int (((steps.length : Int) - 1) + (k : Int) * (-1)) := by
    unfold rngDn
    rw [List.length_map]
    rw [show ((steps.length : Int) - 1 - -1).toNat = steps.length by omega]
  show forD _ _ _ _ (rngDn (((steps.map eS).length : Int) - 1) (((steps.map eS).length : Int) - 1 - -1).toNat) _ _
  rw [e1]
  refine for_ix (fun (k : Nat) => D.int (((steps.length : Int) - 1) + (k : Int) * (-1))) (List.range steps.length) (fun k env S' => ∃ x2 kvs, env = [some (eP steps), some (.loc p), x2, none, none, none] ∧ S' = put S p (.dK kvs) ∧ kvs.length ≤ 1 + 2 * k ∧ wn kvs (steps.length - 1) ∧ ∀ j, steps.length ≤ j + k → wn kvs j → ∀ f a b, steps[j]? = some (.join f a b) → wn kvs a ∧ wn kvs b) ?_ ?_ ?_
  rotate_left
  · rintro k k' env S' N hk hN ⟨x2, kvs, rfl, rfl, hkl, hw, hc⟩
    have hkk : k < steps.length := by have := (List.getElem?_eq_some_iff.mp hk).1; simpa using this
    rw [List.getElem?_range hkk] at hk
    cases hk
    have ea : ((steps.length : Int) - 1) + (k : Int) * (-1) = ((steps.length - 1 - k : Nat) : Int) := by omega
    rw [ea]
    obtain ⟨i, hi⟩ : ∃ i, i = steps.length - 1 - k := ⟨_, rfl⟩
    rw [← hi]
    have hil : i < steps.length := by omega
    have hs : steps[i]? = some steps[i] := List.getElem?_eq_getElem hil
    refine ⟨trivial, ?_⟩
    refine dGet_K (kk := .inl (i : Int)) put_same rfl ?_
    have skip : (wn kvs i → ∀ f a b, steps[i]? = some (.join f a b) → False) → N [some (eP steps), some (.loc p), some (.int (i : Int)), none, none, none] (put S p (.dK kvs)) := fun hh => by
      refine hN _ _ ⟨_, kvs, rfl, rfl, by omega, hw, fun j hj hwj f a b hst => ?_⟩
      by_cases e : j = i
      · rw [e] at hwj hst
        exact (hh hwj f a b hst).elim
      · by_cases hjl : j < steps.length
        · exact hc j (by omega) hwj f a b hst
        · rw [List.getElem?_eq_none (by omega)] at hst; cases hst
    cases ew : atK kvs (.inl (i : Int)) with
    | none => exact skip fun hwi => by unfold wn at hwi; rw [ew] at hwi; cases hwi
    | some d0 =>
      refine dIx_nat (d := eP steps) (i := i) (S := put S p (.dK kvs)) (x := eS steps[i]) rfl (get_map hs) ?_
      cases est : steps[i] with
      | rule m =>
        refine dIx_at (d := eS (.rule m)) (i := 0) (x := .str "rule") rfl rfl ?_
        refine dEq_str ?_
        rw [dF (by decide)]
        refine skip fun _ f a b hst => ?_
        rw [hs, est] at hst; cases hst
      | join f a b =>
        rw [est] at hs
        obtain ⟨la, lb, _⟩ := val_lt hv hs
        refine dIx_at (d := eS (.join f a b)) (i := 0) (x := .str "join") rfl rfl ?_
        refine dEq_str ?_
        rw [dT rfl]
        refine dIx_nat (d := eP steps) (i := i) (S := put S p (.dK kvs)) (x := eS (.join f a b)) rfl (get_map hs) ?_
        refine dIx_at (d := eS (.join f a b)) (i := 2) (x := .int a) rfl rfl ?_
        refine dPut_K (kk := .inl (a : Int)) put_same rfl (szl (by omega)) ?_
        rw [put_put]
        refine dIx_nat (d := eP steps) (i := i) (S := put S p _) (x := eS (.join f a b)) rfl (get_map hs) ?_
        refine dIx_at (d := eS (.join f a b)) (i := 3) (x := .int b) rfl rfl ?_
        have l1 := putK_len kvs (.inl (a : Int)) (.bl true)
        refine dPut_K (kk := .inl (b : Int)) put_same rfl (szl (by omega)) ?_
        rw [put_put]
        have l2 := putK_len (putKD kvs (.inl (a : Int)) (.bl true)) (.inl (b : Int)) (.bl true)
        refine hN _ _ ⟨_, _, rfl, rfl, by omega, wn_put.mpr (.inr (wn_put.mpr (.inr hw))), fun j hj hwj f' a' b' hst => ?_⟩
        by_cases e : j = i
        · rw [e, hs] at hst
          cases hst
          exact ⟨wn_put.mpr (.inr (wn_put.mpr (.inl rfl))), wn_put.mpr (.inl rfl)⟩
        · have hjl : j < steps.length := (List.getElem?_eq_some_iff.mp hst).1
          have hwj' : wn kvs j := by
            rcases wn_put.mp hwj with z | z
            · omega
            · rcases wn_put.mp z with z | z
              · omega
              · exact z
          obtain ⟨q1, q2⟩ := hc j (by omega) hwj' f' a' b' hst
          exact ⟨wn_put.mpr (.inr (wn_put.mpr (.inr q1))), wn_put.mpr (.inr (wn_put.mpr (.inr q2)))⟩
  · refine ⟨none, _, rfl, rfl, by simp, ?_, fun j hj hwj f a b hst => ?_⟩
    · unfold wn atK
      simp
    · rw [List.getElem?_eq_none (by omega)] at hst; cases hst
  rintro env S' ⟨x2, kvs, rfl, rfl, -, hw, hc⟩
  rw [List.length_range] at hc
  refine ⟨trivial, ?_⟩
  intro q hq
  refine ⟨sz (Nat.zero_le _), fun r hr => ?_⟩
  have qp : q ≠ p := fun z => by rw [z, put_same] at hq; cases hq
  have rq : r ≠ q := fun z => by rw [z, put_same] at hr; cases hr
  have rp : r ≠ p := fun z => by rw [z, put_ne qp.symm, put_same] at hr; cases hr
  have hq0 : S q = none := by rwa [put_ne qp] at hq
  have hr0 : S r = none := by rwa [put_ne rq, put_ne rp] at hr
  refine ⟨trivial, ?_⟩
  refine for_enum eS steps (fun i env S' => ∃ x2 x5 nk st' boxes', env = [some (eP steps), some (.loc p), x2, some (.loc q), some (.loc r), x5] ∧ S' = put (put (put S p (.dK kvs)) q (.dK nk)) r (.lst (st'.map eS)) ∧ Val rules st' boxes' ∧ st'.length ≤ i ∧ nk.length ≤ i ∧
    (∀ j, j < i → wn kvs j → ∃ k : Nat, atK nk (.inl (j : Int)) = some (.int (k : Int)) ∧ boxes'[k]? = boxes[j]?) ∧ (∀ j, i = j + 1 → wn kvs j → boxes'.getLast? = boxes[j]?)) ?_ ?_ ⟨x2, none, [], [], [], rfl, rfl, Val.nil, Nat.le_refl _, Nat.le_refl _, fun j hj => by omega, fun j hj => by omega⟩
  · rintro env S' ⟨y2, y5, nk, st', boxes', rfl, rfl, v', l1, l2, c1, c2⟩
    refine ⟨trivial, ?_⟩
    refine dTuple_loc put_same ?_
    refine Fin.to (c_cut_end qp.symm rp.symm rq.symm hp hq0 hr0) (h st' boxes' v' ?_ (by omega))
    rw [c2 (steps.length - 1) (by omega) hw, hlast]
  · rintro i s env S' N hs hN ⟨y2, y5, nk, st', boxes', rfl, rfl, v', l1, l2, c1, c2⟩
    have hil : i < steps.length := (List.getElem?_eq_some_iff.mp hs).1
    refine ⟨trivial, rfl, ?_⟩
    have rdp : ∀ (nk : List (Key × D)) (l : List D), (put (put (put S p (.dK kvs)) q (.dK nk)) r (.lst l)) p = some (.dK kvs) := fun nk l => by rw [put_ne rp.symm, put_ne qp.symm, put_same]
    have rdq : ∀ (nk : List (Key × D)) (l : List D), (put (put (put S p (.dK kvs)) q (.dK nk)) r (.lst l)) q = some (.dK nk) := fun nk l => by rw [put_ne rq.symm, put_same]
    refine dGet_K (kk := .inl (i : Int)) (rdp nk _) rfl ?_
    cases ew : atK kvs (.inl (i : Int)) with
    | none =>
      refine hN _ _ ⟨_, _, nk, st', boxes', rfl, rfl, v', by omega, by omega, fun j hj hwj => ?_, fun j hj hwj => ?_⟩
      · by_cases e : j = i
        · rw [e] at hwj; unfold wn at hwj; rw [ew] at hwj; cases hwj
        · exact c1 j (by omega) hwj
      · have : j = i := by omega
        rw [this] at hwj; unfold wn at hwj; rw [ew] at hwj; cases hwj
    | some d0 =>
      have hwi : wn kvs i := by unfold wn; rw [ew]; rfl
      conv => whnf
      rw [seq_loc put_same]
      refine dPut_K (kk := .inl (i : Int)) (rdq nk _) rfl (szl (by omega)) ?_
      have swap : put (put (put (put S p (.dK kvs)) q (.dK nk)) r (.lst (st'.map eS))) q (.dK (putKD nk (.inl (i : Int)) (.int ((st'.map eS).length : Nat)))) = put (put (put S p (.dK kvs)) q (.dK (putKD nk (.inl (i : Int)) (.int (st'.length : Nat))))) r (.lst (st'.map eS)) := by
        rw [put_comm rq, put_put, List.length_map]
      have hbi : boxes[i]? = some (boxes[i]'(by omega)) := List.getElem?_eq_getElem _
      have l3 := putK_len nk (.inl (i : Int)) (.int (st'.length : Nat))
      have nx : ∀ s', stepBox rules boxes' s' = some (boxes[i]'(by omega)) → ∀ y2 y5, N [some (eP steps), some (.loc p), y2, some (.loc q), some (.loc r), y5] (put (put (put (put S p (.dK kvs)) q (.dK (putKD nk (.inl (i : Int)) (.int (st'.length : Nat))))) r (.lst (st'.map eS))) r (.lst (st'.map eS ++ [eS s']))) := by
        intro s' hs' y2 y5
        rw [put_put]
        refine hN _ _ ⟨_, _, _, st' ++ [s'], boxes' ++ [boxes[i]'(by omega)], rfl, by rw [List.map_append]; rfl, v'.snoc hs', by simp; omega, by omega, fun j hj hwj => ?_, fun j hj hwj => ?_⟩
        · by_cases e : j = i
          · refine ⟨st'.length, ?_, ?_⟩
            · rw [atK_put, if_pos (by rw [e])]
            · rw [← v'.len, e, hbi]; simp
          · obtain ⟨k, k1, k2⟩ := c1 j (by omega) hwj
            have hjb : boxes[j]? = some (boxes[j]'(by omega)) := List.getElem?_eq_getElem _
            refine ⟨k, ?_, ?_⟩
            · rw [atK_put, if_neg fun z => e (by have := Sum.inl.inj z; omega)]; exact k1
            · rw [hjb] at k2 ⊢; exact get_more k2
        · have : j = i := by omega
          rw [this, List.getLast?_append, hbi]; rfl
      rw [swap]
      refine ⟨⟨r, _, rfl, put_same⟩, ?_⟩
      cases s with
      | rule m =>
        refine dIx_at (d := eS (.rule m)) (i := 0) (x := .str "rule") rfl rfl ?_
        refine dEq_str ?_
        rw [dT rfl]
        refine ⟨r, _, _, rfl, rfl, put_same, by rw [List.length_map]; exact szl (by omega), ?_⟩
        refine nx (.rule m) ?_ _ _
        have := hv.at_ i _ _ hs hbi
        exact this
      | join f a b =>
        obtain ⟨la, lb, x, y, c, g1, g2, g3, g4, g5⟩ := val_lt hv hs
        obtain ⟨wa, wb⟩ := hc i (by omega) hwi f a b hs
        obtain ⟨ka, ka1, ka2⟩ := c1 a la wa
        obtain ⟨kb, kb1, kb2⟩ := c1 b lb wb
        refine dIx_at (d := eS (.join f a b)) (i := 0) (x := .str "join") rfl rfl ?_
        refine dEq_str ?_
        rw [dF (by decide)]
        refine dIx_at (d := eS (.join f a b)) (i := 2) (x := .int a) rfl rfl ?_
        refine dGet_K (kk := .inl (a : Int)) (rdq _ _) rfl ?_
        rw [atK_put, if_neg fun z => by have := Sum.inl.inj z; omega, ka1]
        refine dIx_at (d := eS (.join f a b)) (i := 3) (x := .int b) rfl rfl ?_
        refine dGet_K (kk := .inl (b : Int)) (rdq _ _) rfl ?_
        rw [atK_put, if_neg fun z => by have := Sum.inl.inj z; omega, kb1]
        refine ⟨sz (Nat.le_of_ble_eq_true rfl), sz (Nat.le_of_ble_eq_true rfl), ?_⟩
        refine ⟨r, _, _, rfl, rfl, put_same, by rw [List.length_map]; exact szl (by omega), ?_⟩
        refine nx (.join f ka kb) ?_ _ _
        rw [hbi] at g3
        exact step_join.mpr ⟨x, y, by rw [ka2, g1], by rw [kb2, g2], g4, by rw [g5, ← g3]⟩
end K78
set_option Elab.async false
set_option linter.all false
set_option maxRecDepth 100000
set_option maxHeartbeats 1000000
namespace Mir
open Dd K78
theorem up_len : ∀ (k : Nat) (lot : List Int) (lo : Int), lot.Pairwise (· < ·) → (∀ v ∈ lot, lo ≤ v ∧ v < lo + k) → lot.length ≤ k := by
  intro k
  induction k with
  | zero =>
    intro lot lo _ hm
    cases lot with
    | nil => exact Nat.le_refl _
    | cons x xs => have := hm x List.mem_cons_self; omega
  | succ k ih =>
    intro lot lo up hm
    cases lot with
    | nil => exact Nat.zero_le _
    | cons x xs =>
      rw [List.pairwise_cons] at up
      have hx := hm x List.mem_cons_self
      have := ih xs (lo + 1) up.2 fun v hv => by
        have := up.1 v hv
        have := hm v (List.mem_cons_of_mem _ hv)
        omega
      rw [List.length_cons]; omega
theorem VLot.len {m : Int} {lot : List Int} (h : VLot m lot) (hm : 0 ≤ m) : (lot.length : Int) ≤ m := by
  have := up_len m.toNat lot 0 h.up fun v hv => by have := h.mem v hv; omega
  omega
theorem VBox.card : ∀ {form : List Int} {b : List (List Int)}, VBox form b → (∀ m ∈ form, 0 ≤ m) → (card b : Int) ≤ prod form := by
  intro form b h
  refine Each.ind (C := fun form b => (∀ m ∈ form, 0 ≤ m) → (Mir.card b : Int) ≤ prod form) (fun _ => Int.le_refl _) (fun m l fs b hl _ ih hm => ?_) h
  have h0 := hm m List.mem_cons_self
  have ih := ih fun x hx => hm x (List.mem_cons_of_mem _ hx)
  have hl := VLot.len hl h0
  show ((l.length * Mir.card b : Nat) : Int) ≤ m * prod fs
  rw [Int.natCast_mul]
  exact Int.mul_le_mul hl ih (Int.natCast_nonneg _) h0
theorem VLot.ofRng {m : Int} (h : 1 ≤ m) : VLot m (rng m) := ⟨fun z => by have := congrArg List.length z; rw [rng_len] at this; simp at this; omega, rng_lt m, fun v hv => mem_rng.mp hv⟩
def lotOf (m : Int) : Option Int → List Int
  | none => rng m
  | some v => [v]
theorem rep_get {form : List Int} {r : List (Option Int)} (h : VRep form r) {i : Nat} {m : Int} {o : Option Int} (hm : form[i]? = some m) (ho : r[i]? = some o) : (repBox form r)[i]? = some (lotOf m o) := by
  unfold repBox
  rw [List.getElem?_map, zip_get ho hm]; cases o <;> rfl
theorem rep_len {form : List Int} {r : List (Option Int)} (h : VRep form r) : (repBox form r).length = form.length := by
  unfold repBox
  rw [List.length_map, List.length_zip, h.1]; omega
theorem VBox.rep {form : List Int} {r : List (Option Int)} (hf : VForm form) (h : VRep form r) : VBox form (repBox form r) := by
  refine ⟨rep_len h, fun i m l hm hl => ?_⟩
  have hi : i < r.length := by rw [h.1]; exact (List.getElem?_eq_some_iff.mp hm).1
  obtain ⟨o, ho⟩ : ∃ o, r[i]? = some o := ⟨_, List.getElem?_eq_getElem hi⟩
  rw [rep_get h hm ho] at hl
  have h2 := hf.m m (List.mem_of_getElem? hm)
  have hv := h.2 i m o hm ho
  cases o with
  | none => cases hl; exact VLot.ofRng (by omega)
  | some v => cases hl; exact VLot.one (hv v rfl)
/-- the faults in a report's box are those that agree -/
theorem held_rep {form : List Int} {r : List (Option Int)} {f : List Int} (h : VRep form r) (hf : VFlt form f) : held (repBox form r) f = agr r f := by
  rw [Bool.eq_iff_iff, held_iff, agr_iff]
  constructor
  · intro q i v u hr hu
    have hi : i < form.length := by rw [← h.1]; exact (List.getElem?_eq_some_iff.mp hr).1
    have hm := List.getElem?_eq_getElem hi
    have := q i _ u (rep_get h hm hr) hu
    exact (List.mem_singleton.mp this).symm
  · intro q i l u hl hu
    have hi : i < form.length := by rw [← hf.1]; exact (List.getElem?_eq_some_iff.mp hu).1
    have hm := List.getElem?_eq_getElem hi
    obtain ⟨o, hr⟩ : ∃ o, r[i]? = some o := ⟨_, List.getElem?_eq_getElem (by rw [h.1]; exact hi)⟩
    rw [rep_get h hm hr] at hl
    cases o with
    | none => cases hl; exact mem_rng.mpr (hf.2 i _ u hm hu)
    | some v => cases hl; rw [q i v u hr hu]; exact List.mem_singleton.mpr rfl
def agreed (form : List Int) (rules : List Box) (r : List (Option Int)) : List Flt := (lawful form rules).filter (agr r)
theorem mem_agreed {form : List Int} {rules : List Box} {r : List (Option Int)} {f : List Int} : f ∈ agreed form rules r ↔ f ∈ lawful form rules ∧ agr r f = true := by unfold agreed; rw [List.mem_filter]
theorem noLaw_rep {form : List Int} {rules : List Box} {r : List (Option Int)} (h : VRep form r) (ha : agreed form rules r = []) : NoLaw form rules (repBox form r) := fun f hf => by
  rw [held_rep h (mem_lawful.mp hf).1]
  cases e : agr r f with
  | false => rfl
  | true => have := mem_agreed.mpr ⟨hf, e⟩; rw [ha] at this; cases this
def others (m v : Int) : List Int := (rng m).filter fun u => !decide (u = v)
def butB (form : List Int) (r : List (Option Int)) (i : Nat) (v : Int) : Box := withLot (repBox form r) i (others (form.getD i 0) v)
theorem VLot.ofOthers {m v : Int} (h : 2 ≤ m) : VLot m (others m v) := by
  refine ⟨fun z => ?_, (rng_lt m).filter _, fun u hu => mem_rng.mp (List.mem_filter.mp hu).1⟩
  have h0 : (0 : Int) ∈ rng m := mem_rng.mpr (by omega)
  have h1 : (1 : Int) ∈ rng m := mem_rng.mpr (by omega)
  have e : ∀ u ∈ rng m, u = v := fun u hu => by
    refine Classical.byContradiction fun q => ?_
    have : u ∈ Mir.others m v := List.mem_filter.mpr ⟨hu, by simp [q]⟩
    rw [z] at this; cases this
  have := e 0 h0
  have := e 1 h1
  omega
theorem VBox.but {form : List Int} {r : List (Option Int)} {i : Nat} {v : Int} (hf : VForm form) (h : VRep form r) (hi : i < form.length) : VBox form (butB form r i v) := by
  have hm := List.getElem?_eq_getElem hi
  have e : form.getD i 0 = form[i] := by rw [List.getD_eq_getElem?_getD, hm]; rfl
  unfold butB
  rw [e]
  exact VBox.set (VBox.rep hf h) hm (VLot.ofOthers (hf.m _ (List.getElem_mem hi)).1)
/-- what is held by a report's box with all values but one -/
theorem held_but {form : List Int} {r : List (Option Int)} {f : List Int} {i : Nat} {v u : Int} (h : VRep form r) (hf : VFlt form f) (hr : r[i]? = some none) (hu : f[i]? = some u) : held (butB form r i v) f = (agr r f && !decide (u = v)) := by
  have hi : i < form.length := by rw [← h.1]; exact (List.getElem?_eq_some_iff.mp hr).1
  have hm := List.getElem?_eq_getElem hi
  have e : form.getD i 0 = form[i] := by rw [List.getD_eq_getElem?_getD, hm]; rfl
  have hl : i < (repBox form r).length := by rw [rep_len h]; exact hi
  have hum := hf.2 i _ u hm hu
  rw [← held_rep h hf, Bool.eq_iff_iff, Bool.and_eq_true, held_iff, held_iff]
  unfold butB
  rw [e]
  constructor
  · intro q
    refine ⟨fun j l w hl' hw => ?_, ?_⟩
    · by_cases ej : j = i
      · subst ej
        rw [rep_get h hm hr] at hl'
        rw [hu] at hw
        cases hl'; cases hw
        exact mem_rng.mpr hum
      · exact q j l w (by rw [withLot_get hl, if_neg ej]; exact hl') hw
    · have := q i _ u (by rw [withLot_get hl, if_pos rfl]) hu
      exact (List.mem_filter.mp this).2
  · rintro ⟨q, n⟩ j l w hl' hw
    rw [withLot_get hl] at hl'
    by_cases ej : j = i
    · subst ej
      rw [if_pos rfl] at hl'
      rw [hu] at hw
      cases hl'; cases hw
      exact List.mem_filter.mpr ⟨mem_rng.mpr hum, n⟩
    · rw [if_neg ej] at hl'
      exact q j l w hl' hw
theorem noLaw_but {form : List Int} {rules : List Box} {r : List (Option Int)} {i : Nat} {v : Int} (h : VRep form r) (hr : r[i]? = some none) (ha : ∀ f ∈ agreed form rules r, f[i]? = some v) : NoLaw form rules (butB form r i v) := fun f hf => by
  have hi : i < form.length := by rw [← h.1]; exact (List.getElem?_eq_some_iff.mp hr).1
  have hv := (mem_lawful.mp hf).1
  have hu : f[i]? = some (f[i]'(by rw [hv.1]; exact hi)) := List.getElem?_eq_getElem _
  rw [held_but h hv hr hu]
  cases e : agr r f with
  | false => rfl
  | true =>
    have := ha f (mem_agreed.mpr ⟨hf, e⟩)
    rw [hu] at this
    have := Option.some.inj this
    simp [this]
/-! ### what is settled -/
inductive Thing where
  | never (s : List Stp) | said (v : Int) | told (v : Int) (s : List Stp) | opn (f g : List Int)
def Due (form : List Int) (rules : List Box) (r : List (Option Int)) (i : Nat) : Thing → Prop
  | .never s => agreed form rules r = [] ∧ Pap form rules (repBox form r) s
  | .said v => agreed form rules r ≠ [] ∧ r[i]? = some (some v)
  | .told v s => agreed form rules r ≠ [] ∧ r[i]? = some none ∧ (∀ f ∈ agreed form rules r, f[i]? = some v) ∧ Pap form rules (butB form r i v) s
  | .opn f g => r[i]? = some none ∧ f ∈ agreed form rules r ∧ g ∈ agreed form rules r ∧ ∃ u w, f[i]? = some u ∧ g[i]? = some w ∧ u < w
/-! ### what reports share -/
def shareR (r : List (Option Int)) (f : List Int) : List (Option Int) := List.zipWith (fun o v => if o = some v then o else none) r f
def toldM : List (List Int) → Option (List (Option Int))
  | [] => none
  | f :: rest => some (rest.foldl shareR (f.map some))
theorem share_get {r : List (Option Int)} {f : List Int} {i : Nat} {o : Option Int} {v : Int} (ho : r[i]? = some o) (hv : f[i]? = some v) : (shareR r f)[i]? = some (if o = some v then o else none) := by
  unfold shareR
  rw [List.getElem?_zipWith, ho, hv]
theorem told_get {n : Nat} : ∀ {rest : List (List Int)} {r : List (Option Int)}, r.length = n → (∀ f ∈ rest, f.length = n) → (rest.foldl shareR r).length = n ∧ ∀ (i : Nat) v, (rest.foldl shareR r)[i]? = some (some v) ↔ r[i]? = some (some v) ∧ ∀ f ∈ rest, f[i]? = some v
  | [], r, hr, _ => ⟨hr, fun i v => by simp⟩
  | f :: rest, r, hr, hf => by
    have hfl := hf f List.mem_cons_self
    have hl : (shareR r f).length = n := by unfold shareR; rw [List.length_zipWith]; omega
    obtain ⟨h1, h2⟩ := told_get (r := shareR r f) hl fun g hg => hf g (List.mem_cons_of_mem _ hg)
    refine ⟨h1, fun i v => ?_⟩
    show (rest.foldl shareR (shareR r f))[i]? = _ ↔ _
    rw [h2]
    have key : (shareR r f)[i]? = some (some v) ↔ r[i]? = some (some v) ∧ f[i]? = some v := by
      by_cases hi : i < n
      · have e1 : r[i]? = some (r[i]'(by omega)) := List.getElem?_eq_getElem _
        have e2 : f[i]? = some (f[i]'(by omega)) := List.getElem?_eq_getElem _
        rw [share_get e1 e2, e1, e2]
        by_cases e : r[i]'(by omega) = some (f[i]'(by omega))
        · rw [if_pos e, e]; simp
        · rw [if_neg e]
          constructor
          · intro z; cases z
          · rintro ⟨z1, z2⟩
            have z1 := Option.some.inj z1
            have z2 := Option.some.inj z2
            exact absurd (by rw [z1, z2]) e
      · rw [List.getElem?_eq_none (by omega), List.getElem?_eq_none (by omega)]
        simp
    rw [key, List.forall_mem_cons, and_assoc]
end Mir
set_option Elab.async false
set_option linter.all false
set_option maxRecDepth 100000
set_option maxHeartbeats 1000000
namespace K78
open PySem PySem.Spec PyProof.Rows L2 Dd Mir
@[irreducible] def c_derivation_of : DC := fun ds S R => ∃ a form rules bx, ds = [.loc a, eB bx] ∧ Bk S a form rules ∧ VBox form bx ∧ NoLaw form rules bx ∧ card bx ≤ 400 ∧ ∀ steps, Pap form rules bx steps → R (eP steps) S
theorem i_derivation_of {ds : List D} {S : Sto} {R : DQ} (h : ∃ a form rules bx, ds = [.loc a, eB bx] ∧ Bk S a form rules ∧ VBox form bx ∧ NoLaw form rules bx ∧ card bx ≤ 400 ∧ ∀ steps, Pap form rules bx steps → R (eP steps) S) : c_derivation_of ds S R := by unfold c_derivation_of; exact h
theorem u_derivation_of {ds : List D} {S : Sto} {R : DQ} (h : c_derivation_of ds S R) : ∃ a form rules bx, ds = [.loc a, eB bx] ∧ Bk S a form rules ∧ VBox form bx ∧ NoLaw form rules bx ∧ card bx ≤ 400 ∧ ∀ steps, Pap form rules bx steps → R (eP steps) S := by unfold c_derivation_of at h; exact h
def w_derivation_of : DS := (sSeq (sAsg (wMake "Deriver" c_Deriver_dd__init_dd_ (aCons (wVar 0) aNil)) (gN 2)) (sSeq (sAsg (wMeth "Deriver" "reach" c_Deriver_reach (wVar 2) (aCons (wVar 1) aNil)) (gN 3)) (sRet (wCall c_cut (aCons (wCall dTuple (aCons (wSl (wFld "Deriver" "steps" (wVar 2)) oNone (oSome (wAdd (wVar 3) (wC (.int 1))))) aNil)) aNil)))))
theorem take_last {α : Type} {xs : List α} {i : Nat} {x : α} (h : xs[i]? = some x) : (xs.take (i + 1)).getLast? = some x := by
  have hi := (List.getElem?_eq_some_iff.mp h).1
  rw [List.take_succ_eq_append_getElem hi, List.getLast?_append, (List.getElem?_eq_some_iff.mp h).2]; rfl
theorem q_derivation_of : Qd w_derivation_of 4 c_derivation_of := by
  intro ds S R hc0
  obtain ⟨a, form, rules, bx, rfl, bk, hb, hn, hc, h⟩ := u_derivation_of hc0
  intro x hx
  refine i_Deriver_dd__init_dd_ ⟨x, a, rfl, put_same, fun S1 s b n dr hs hb' hn' fr => ⟨rfl, ?_⟩⟩
  have h8 := bk.2.1.l8
  have ax : a ≠ x := fun z => by rw [← z, bk.1] at hx; cases hx
  have as : a ≠ s := fun z => by rw [← z, put_ne ax, bk.1] at hs; cases hs
  have ab : a ≠ b := fun z => by rw [← z, put_ne ax, bk.1] at hb'; cases hb'
  have an : a ≠ n := fun z => by rw [← z, put_ne ax, bk.1] at hn'; cases hn'
  have bk1 : Bk S1 a form rules := ⟨by rw [fr a ax as ab an, put_ne ax]; exact bk.1, bk.2⟩
  refine dMe_i dr.rx rfl ?_
  refine i_reachK ⟨x, a, s, b, n, [], [], form, rules, bx, rfl, dr, bk1, hb, Val.nil, hn, ?_, ?_, fun S2 steps boxes i B d2 f2 v2 hB hl hle _ => ?_⟩
  · have := multi_len bx; have := hb.1; omega
  · show 0 + 2 * card bx ≤ 900; omega
  refine dfld d2.rx rfl ?_
  conv => whnf
  rw [d2.rs]
  have hi : i < boxes.length := (List.getElem?_eq_some_iff.mp hB).1
  have hle : steps.length + 1 ≤ 0 + 2 * card bx := hle
  have hv := v2.take (i + 1)
  have e : cutL (steps.map eS) none (some ((i : Int) + 1)) = (steps.take (i + 1)).map eS := by
    rw [show ((i : Int) + 1) = ((i + 1 : Nat) : Int) by omega, cut_to (by rw [List.length_map]; have := v2.len; omega), List.map_take]
  refine (?_ : c_cut [.tup (cutL (steps.map eS) none (some ((i : Int) + 1)))] S2 _)
  rw [e]
  refine i_cut ⟨rules, _, _, B, rfl, hv, take_last hB, by rw [List.length_take]; omega, fun st' bo' v' hl' hz' => ?_⟩
  refine Fin.to (Wk.of fun c o ho => ?_) (h st' ⟨bo', B, v', hl', hl, hz'⟩)
  have cx : c ≠ x := fun z => by rw [z, hx] at ho; cases ho
  have cs : c ≠ s := fun z => by rw [z] at ho; rw [put_ne (fun q => by rw [q, hx] at ho; cases ho), ho] at hs; cases hs
  have cb : c ≠ b := fun z => by rw [z] at ho; rw [put_ne (fun q => by rw [q, hx] at ho; cases ho), ho] at hb'; cases hb'
  have cn : c ≠ n := fun z => by rw [z] at ho; rw [put_ne (fun q => by rw [q, hx] at ho; cases ho), ho] at hn'; cases hn'
  rw [f2 c cs cb cn, fr c cx cs cb cn, put_ne cx]; exact ho
@[irreducible] def c_barring : DC := fun ds S R => ∃ a form rules bx, ds = [.loc a, eB bx] ∧ Bk S a form rules ∧ VBox form bx ∧ card bx ≤ 400 ∧ (∀ f, (lawful form rules).find? (held bx) = some f → R (.tup [.str "free", eI f]) S) ∧ ((lawful form rules).find? (held bx) = none → ∀ steps, Pap form rules bx steps → R (.tup [.str "barred", eP steps]) S)
theorem i_barring {ds : List D} {S : Sto} {R : DQ} (h : ∃ a form rules bx, ds = [.loc a, eB bx] ∧ Bk S a form rules ∧ VBox form bx ∧ card bx ≤ 400 ∧ (∀ f, (lawful form rules).find? (held bx) = some f → R (.tup [.str "free", eI f]) S) ∧ ((lawful form rules).find? (held bx) = none → ∀ steps, Pap form rules bx steps → R (.tup [.str "barred", eP steps]) S)) : c_barring ds S R := by unfold c_barring; exact h
theorem u_barring {ds : List D} {S : Sto} {R : DQ} (h : c_barring ds S R) : ∃ a form rules bx, ds = [.loc a, eB bx] ∧ Bk S a form rules ∧ VBox form bx ∧ card bx ≤ 400 ∧ (∀ f, (lawful form rules).find? (held bx) = some f → R (.tup [.str "free", eI f]) S) ∧ ((lawful form rules).find? (held bx) = none → ∀ steps, Pap form rules bx steps → R (.tup [.str "barred", eP steps]) S) := by unfold c_barring at h; exact h
def w_barring : DS := (sSeq (sAsg (wCall c_first_in (aCons (wVar 0) (aCons (wVar 1) aNil))) (gN 2)) (sRet (wIf (asB (w2 dIsN (wVar 2) (wC .non))) (wTup (aCons (wC (.str "barred")) (aCons (wCall c_derivation_of (aCons (wVar 0) (aCons (wVar 1) aNil))) aNil))) (wTup (aCons (wC (.str "free")) (aCons (wVar 2) aNil))))))
theorem q_barring : Qd w_barring 3 c_barring := by
  intro ds S R hc0
  obtain ⟨a, form, rules, bx, rfl, bk, hb, hc, h1, h2⟩ := u_barring hc0
  have h8 := bk.2.1.l8
  refine i_first_in ⟨a, bx, form, rules, rfl, bk, by have := hb.1; omega, ?_⟩
  cases e : (lawful form rules).find? (held bx) with
  | some f =>
    refine ⟨sz (Nat.le_of_ble_eq_true rfl), ?_⟩
    exact Fin.now (h1 f e)
  | none =>
    refine i_derivation_of ⟨a, form, rules, bx, rfl, bk, hb, fun f hf => by simpa using List.find?_eq_none.mp e f hf, hc, fun steps hp => ?_⟩
    refine ⟨sz (Nat.le_of_ble_eq_true rfl), ?_⟩
    exact Fin.now (h2 e steps hp)
@[irreducible] def c_others_of : DC := fun ds S R => ∃ form, ∃ i : Nat, ∃ v m : Int, ds = [eI form, .int i, .int v] ∧ form[i]? = some m ∧ 0 ≤ m ∧ m ≤ 6 ∧ R (eI (others m v)) S
theorem i_others_of {ds : List D} {S : Sto} {R : DQ} (h : ∃ form, ∃ i : Nat, ∃ v m : Int, ds = [eI form, .int i, .int v] ∧ form[i]? = some m ∧ 0 ≤ m ∧ m ≤ 6 ∧ R (eI (others m v)) S) : c_others_of ds S R := by unfold c_others_of; exact h
theorem u_others_of {ds : List D} {S : Sto} {R : DQ} (h : c_others_of ds S R) : ∃ form, ∃ i : Nat, ∃ v m : Int, ds = [eI form, .int i, .int v] ∧ form[i]? = some m ∧ 0 ≤ m ∧ m ≤ 6 ∧ R (eI (others m v)) S := by unfold c_others_of at h; exact h
def w_others_of : DS := (sRet (wCall dTuple (aCons (wLc (iR1 (aCons (w2 dIx (wVar 0) (wVar 1)) aNil)) (gN 3) (asB (w2 dNe (wVar 3) (wVar 2))) (wVar 3) [3]) aNil)))
theorem q_others_of : Qd w_others_of 4 c_others_of := by
  intro ds S R hc0
  obtain ⟨form, i, v, m, rfl, hm, h0, h6, h⟩ := u_others_of hc0
  refine dIx_nat (d := eI form) (i := i) (S := S) (x := .int m) rfl (get_map hm) ?_
  refine ⟨⟨by omega, by omega⟩, ?_⟩
  rw [rngD_rng]
  refine lc_filter (rng m) D.int (fun u => !decide (u = v)) D.int (sz (by rw [rng_len]; omega)) (fun _ _ => trivial) ?_ ?_
  · intro u _ S' ex Kt Kf k
    refine dNe_int ?_
    by_cases e : u = v
    · rw [dT e]; rw [dT e] at k; exact k
    · rw [dF e]; rw [dF e] at k; exact k
  · exact Fin.now h
theorem form6 {form : List Int} (hf : VForm form) : ∀ m ∈ form, 0 ≤ m ∧ m ≤ 6 := fun m hm => by have := hf.m m hm; omega
@[irreducible] def c_but_box : DC := fun ds S R => ∃ a form rules r, ∃ i : Nat, ∃ v : Int, ds = [.loc a, eR r, .int i, .int v] ∧ Bk S a form rules ∧ VRep form r ∧ i < form.length ∧ R (eB (butB form r i v)) S
theorem i_but_box {ds : List D} {S : Sto} {R : DQ} (h : ∃ a form rules r, ∃ i : Nat, ∃ v : Int, ds = [.loc a, eR r, .int i, .int v] ∧ Bk S a form rules ∧ VRep form r ∧ i < form.length ∧ R (eB (butB form r i v)) S) : c_but_box ds S R := by unfold c_but_box; exact h
theorem u_but_box {ds : List D} {S : Sto} {R : DQ} (h : c_but_box ds S R) : ∃ a form rules r, ∃ i : Nat, ∃ v : Int, ds = [.loc a, eR r, .int i, .int v] ∧ Bk S a form rules ∧ VRep form r ∧ i < form.length ∧ R (eB (butB form r i v)) S := by unfold c_but_box at h; exact h
def w_but_box : DS := (sRet (wCall c_with_lot (aCons (wCall c_report_box (aCons (wFld "Book" "form" (wVar 0)) (aCons (wVar 1) aNil))) (aCons (wVar 2) (aCons (wCall c_others_of (aCons (wFld "Book" "form" (wVar 0)) (aCons (wVar 2) (aCons (wVar 3) aNil)))) aNil)))))
theorem q_but_box : Qd w_but_box 4 c_but_box := by
  intro ds S R hc0
  obtain ⟨a, form, rules, r, i, v, rfl, bk, hr, hi, h⟩ := u_but_box hc0
  have h8 := bk.2.1.l8
  have hm := List.getElem?_eq_getElem hi
  have h6 := form6 bk.2.1 _ (List.getElem_mem hi)
  have e : form.getD i 0 = form[i] := by rw [List.getD_eq_getElem?_getD, hm]; rfl
  refine fld_form bk.1 ?_
  refine i_report_box ⟨form, r, rfl, by have := hr.1; omega, form6 bk.2.1, ?_⟩
  refine fld_form bk.1 ?_
  refine i_others_of ⟨form, i, v, form[i], rfl, hm, h6.1, h6.2, ?_⟩
  unfold butB at h
  rw [e] at h
  exact i_with_lot ⟨repBox form r, others form[i] v, i, rfl, by rw [rep_len hr]; exact hi, by rw [rep_len hr]; omega, Fin.now h⟩
/-! ### the first fault of each value -/
@[irreducible] def c_first_by_value : DC := fun ds S R => ∃ a form rules r, ∃ i : Nat, ds = [.loc a, eR r, .int i] ∧ Bk S a form rules ∧ VRep form r ∧ i < form.length ∧ ∀ d kvs (ks : List Int), S d = none → kvs.map (·.1) = ks.map Sum.inl → ks.Nodup → (∀ v, v ∈ ks ↔ ∃ f ∈ agreed form rules r, f[i]? = some v) → (∀ v ∈ ks, ∃ f ∈ agreed form rules r, f[i]? = some v ∧ atK kvs (.inl v) = some (eI f)) → R (.loc d) (put S d (.dK kvs))
theorem i_first_by_value {ds : List D} {S : Sto} {R : DQ} (h : ∃ a form rules r, ∃ i : Nat, ds = [.loc a, eR r, .int i] ∧ Bk S a form rules ∧ VRep form r ∧ i < form.length ∧ ∀ d kvs (ks : List Int), S d = none → kvs.map (·.1) = ks.map Sum.inl → ks.Nodup → (∀ v, v ∈ ks ↔ ∃ f ∈ agreed form rules r, f[i]? = some v) → (∀ v ∈ ks, ∃ f ∈ agreed form rules r, f[i]? = some v ∧ atK kvs (.inl v) = some (eI f)) → R (.loc d) (put S d (.dK kvs))) : c_first_by_value ds S R := by unfold c_first_by_value; exact h
theorem u_first_by_value {ds : List D} {S : Sto} {R : DQ} (h : c_first_by_value ds S R) : ∃ a form rules r, ∃ i : Nat, ds = [.loc a, eR r, .int i] ∧ Bk S a form rules ∧ VRep form r ∧ i < form.length ∧ ∀ d kvs (ks : List Int), S d = none → kvs.map (·.1) = ks.map Sum.inl → ks.Nodup → (∀ v, v ∈ ks ↔ ∃ f ∈ agreed form rules r, f[i]? = some v) → (∀ v ∈ ks, ∃ f ∈ agreed form rules r, f[i]? = some v ∧ atK kvs (.inl v) = some (eI f)) → R (.loc d) (put S d (.dK kvs)) := by unfold c_first_by_value at h; exact h
def w_first_by_value : DS := (sSeq (sAsg wDNewK (gN 3)) (sSeq (sFor (iSeq (wCall c_listed (aCons (wVar 0) aNil))) (gN 4) (sIf (asB (wCall c_agreeing (aCons (wVar 1) (aCons (wVar 4) aNil)))) (sDrop (wDSetd (wVar 3) (w2 dIx (wVar 4) (wVar 2)) (wVar 4))) sNil)) (sRet (wVar 3))))
theorem atK_keys {kvs : List (Key × D)} {ks : List Int} (h : kvs.map (·.1) = ks.map Sum.inl) (v : Int) : atK kvs (.inl v) = none ↔ v ∉ ks := by
  unfold atK
  rw [Option.map_eq_none_iff, List.find?_eq_none]
  constructor
  · intro q hv
    have : (Sum.inl v : Key) ∈ kvs.map (·.1) := by rw [h]; exact List.mem_map.mpr ⟨v, hv, rfl⟩
    obtain ⟨p, hp, e⟩ := List.mem_map.mp this
    exact q p hp (decide_eq_true e)
  · intro q p hp e
    have : p.1 ∈ ks.map Sum.inl := by rw [← h]; exact List.mem_map.mpr ⟨p, hp, rfl⟩
    rw [of_decide_eq_true e] at this
    obtain ⟨u, hu, e2⟩ := List.mem_map.mp this
    cases e2
    exact q hu
theorem q_first_by_value : Qd w_first_by_value 5 c_first_by_value := by
  intro ds S R hc0
  obtain ⟨a, form, rules, r, i, rfl, bk, hr, hi, h⟩ := u_first_by_value hc0
  have h8 := bk.2.1.l8
  intro p hp
  have ap : a ≠ p := fun z => by rw [← z, bk.1] at hp; cases hp
  refine i_listed ⟨a, form, rules, rfl, ⟨by rw [put_ne ap]; exact bk.1, bk.2⟩, ?_⟩
  refine for_ix eI (lawful form rules) (fun n env S' => ∃ x4 kvs, ∃ ks : List Int, env = [some (.loc a), some (eR r), some (.int i), some (.loc p), x4] ∧ S' = put S p (.dK kvs) ∧ kvs.length ≤ n ∧ kvs.map (·.1) = ks.map Sum.inl ∧ ks.Nodup ∧ (∀ v, v ∈ ks ↔ ∃ f ∈ ((lawful form rules).take n).filter (agr r), f[i]? = some v) ∧ (∀ v ∈ ks, ∃ f ∈ agreed form rules r, f[i]? = some v ∧ atK kvs (.inl v) = some (eI f))) ?_ ?_ ⟨none, [], [], rfl, rfl, Nat.le_refl _, rfl, List.nodup_nil, fun v => by simp, fun v hv => by cases hv⟩
  · rintro env S' ⟨x4, kvs, ks, rfl, rfl, -, h1, h2, h3, h4⟩
    refine ⟨trivial, ?_⟩
    rw [List.take_length] at h3
    exact Fin.now (h p kvs ks hp h1 h2 h3 h4)
  · rintro n f env S' N hf hN ⟨x4, kvs, ks, rfl, rfl, hz, h1, h2, h3, h4⟩
    have hn : n < (lawful form rules).length := (List.getElem?_eq_some_iff.mp hf).1
    have tk : (lawful form rules).take (n + 1) = (lawful form rules).take n ++ [f] := by rw [List.take_succ_eq_append_getElem hn, (List.getElem?_eq_some_iff.mp hf).2]
    have hfl : f ∈ lawful form rules := List.mem_of_getElem? hf
    have hfv := (mem_lawful.mp hfl).1
    have few := lawful_few (rules := rules) bk.2.1
    refine ⟨trivial, ?_⟩
    refine i_agreeing ⟨r, f, rfl, by have := hr.1; omega, ?_⟩
    cases e : agr r f with
    | false =>
      refine hN _ _ ⟨_, kvs, ks, rfl, rfl, by omega, h1, h2, ?_, h4⟩
      intro v
      rw [h3, tk, List.filter_append]
      simp [e]
    | true =>
      have hu : f[i]? = some (f[i]'(by rw [hfv.1]; exact hi)) := List.getElem?_eq_getElem _
      obtain ⟨u, hu⟩ : ∃ u, f[i]? = some u := ⟨_, hu⟩
      have hA : f ∈ agreed form rules r := mem_agreed.mpr ⟨hfl, e⟩
      have h3' : ∀ v, (∃ g ∈ ((lawful form rules).take (n + 1)).filter (agr r), g[i]? = some v) ↔ (v ∈ ks ∨ v = u) := by
        intro v
        rw [tk, List.filter_append, h3]
        constructor
        · rintro ⟨g, hg, hv⟩
          rcases List.mem_append.mp hg with hg | hg
          · exact .inl ⟨g, hg, hv⟩
          · have := (List.mem_filter.mp hg).1
            rw [List.mem_singleton] at this
            rw [this, hu] at hv
            cases hv; exact .inr rfl
        · rintro (⟨g, hg, hv⟩ | rfl)
          · exact ⟨g, List.mem_append_left _ hg, hv⟩
          · exact ⟨f, List.mem_append_right _ (List.mem_filter.mpr ⟨List.mem_singleton.mpr rfl, e⟩), hu⟩
      refine ⟨⟨p, kvs, rfl, put_same⟩, ?_⟩
      refine dIx_nat (d := eI f) (i := i) (S := put S p (.dK kvs)) (x := .int u) rfl (get_map hu) ?_
      refine dSetd_i (kk := .inl u) put_same (szl (by omega)) rfl ?_
      by_cases hm : u ∈ ks
      · obtain ⟨g, g1, g2, g3⟩ := h4 u hm
        rw [g3]
        refine hN _ _ ⟨_, kvs, ks, rfl, rfl, by omega, h1, h2, fun v => ?_, h4⟩
        rw [h3']
        exact ⟨fun q => .inl q, fun q => q.elim id fun z => z ▸ hm⟩
      · have an := (atK_keys h1 u).mpr hm
        rw [an]
        have hput : putKD kvs (.inl u) (eI f) = kvs ++ [(.inl u, eI f)] := by
          unfold putKD
          rw [if_neg]
          intro z
          rw [List.any_eq_true] at z
          obtain ⟨q, hq, eq⟩ := z
          have : q.1 ∈ ks.map Sum.inl := by rw [← h1]; exact List.mem_map.mpr ⟨q, hq, rfl⟩
          rw [of_decide_eq_true eq] at this
          obtain ⟨w, hw, e2⟩ := List.mem_map.mp this
          cases e2
          exact hm hw
        refine hN _ _ ⟨_, putKD kvs (.inl u) (eI f), ks ++ [u], rfl, by rw [put_put], ?_, ?_, ?_, fun v => ?_, fun v hv => ?_⟩
        · have := putK_len kvs (.inl u) (eI f); omega
        · rw [hput, List.map_append, List.map_append, h1]; rfl
        · rw [List.nodup_append]
          refine ⟨h2, by simp, fun x hx y hy z => ?_⟩
          rw [List.mem_singleton] at hy
          rw [z, hy] at hx
          exact hm hx
        · rw [h3', List.mem_append, List.mem_singleton]
        · rw [atK_put]
          by_cases ev : u = v
          · subst ev
            rw [if_pos rfl]
            exact ⟨f, hA, hu, rfl⟩
          · rw [if_neg fun z => ev (Sum.inl.inj z)]
            rcases List.mem_append.mp hv with hv | hv
            · exact h4 v hv
            · rw [List.mem_singleton] at hv; exact absurd hv.symm ev
end K78
set_option Elab.async false
set_option linter.all false
set_option maxRecDepth 100000
set_option maxHeartbeats 1000000
namespace K78
open PySem PySem.Spec PyProof.Rows L2 Dd Mir
def eT : Thing → D
  | .never s => .tup [.str "never", eP s]
  | .said v => .tup [.str "said", .int v]
  | .told v s => .tup [.str "told", .int v, eP s]
  | .opn f g => .tup [.str "open", eI f, eI g]
theorem isort_up {ks : List Int} (h : ks.Nodup) : (isort ks).Pairwise (· < ·) := by
  have h1 := isort_le ks
  have h2 : (isort ks).Nodup := (isort_perm ks).nodup_iff.mpr h
  exact (h1.and h2).imp fun q => by have := q.1; have := q.2; omega
theorem isort_mem {ks : List Int} {v : Int} : v ∈ isort ks ↔ v ∈ ks := (isort_perm ks).mem_iff
theorem find_none {form : List Int} {rules : List Box} {r : List (Option Int)} : (lawful form rules).find? (agr r) = none ↔ agreed form rules r = [] := by
  unfold agreed
  rw [List.find?_eq_none, List.filter_eq_nil_iff]
theorem head_find {form : List Int} {rules : List Box} {r : List (Option Int)} : (lawful form rules).find? (agr r) = (agreed form rules r).head? := by
  unfold agreed
  exact (List.head?_filter).symm
theorem card400 {form : List Int} {b : List (List Int)} (hf : VForm form) (hb : VBox form b) (hp : prod form ≤ 400) : card b ≤ 400 := by
  have := VBox.card hb fun m hm => by have := hf.m m hm; omega
  omega
theorem seq_dK {a : Addr} {S : Sto} {kvs : List (Key × D)} (h : S a = some (.dK kvs)) : seqOf (.loc a) S = none := by
  show (match S a with
    | some (.lst xs) => some xs
    | _ => none) = _
  rw [h]
@[irreducible] def c_settling : DC := fun ds S R => ∃ a form rules r, ∃ i : Nat, ds = [.loc a, eR r, .int i] ∧ Bk S a form rules ∧ prod form ≤ 400 ∧ VRep form r ∧ i < form.length ∧ ∀ t, Due form rules r i t → R (eT t) S
theorem i_settling {ds : List D} {S : Sto} {R : DQ} (h : ∃ a form rules r, ∃ i : Nat, ds = [.loc a, eR r, .int i] ∧ Bk S a form rules ∧ prod form ≤ 400 ∧ VRep form r ∧ i < form.length ∧ ∀ t, Due form rules r i t → R (eT t) S) : c_settling ds S R := by unfold c_settling; exact h
theorem u_settling {ds : List D} {S : Sto} {R : DQ} (h : c_settling ds S R) : ∃ a form rules r, ∃ i : Nat, ds = [.loc a, eR r, .int i] ∧ Bk S a form rules ∧ prod form ≤ 400 ∧ VRep form r ∧ i < form.length ∧ ∀ t, Due form rules r i t → R (eT t) S := by unfold c_settling at h; exact h
def w_settling : DS := (sSeq (sAsg (wCall c_first_by_value (aCons (wVar 0) (aCons (wVar 1) (aCons (wVar 2) aNil)))) (gN 3)) (sSeq (sIf (asB (w2 dEq (wCall dLen (aCons (wVar 3) aNil)) (wC (.int 0)))) (sRet (wTup (aCons (wC (.str "never")) (aCons (wCall c_derivation_of (aCons (wVar 0) (aCons (wCall c_report_box (aCons (wFld "Book" "form" (wVar 0)) (aCons (wVar 1) aNil))) aNil))) aNil)))) sNil) (sSeq (sIf (asB (w2 dNotN (w2 dIx (wVar 1) (wVar 2)) (wC .non))) (sRet (wTup (aCons (wC (.str "said")) (aCons (w2 dIx (wVar 1) (wVar 2)) aNil)))) sNil) (sSeq (sAsg (wCall dSorted (aCons (wVar 3) aNil)) (gN 4)) (sSeq (sIf (asB (w2 dEq (wCall dLen (aCons (wVar 4) aNil)) (wC (.int 1)))) (sRet (wTup (aCons (wC (.str "told")) (aCons (w2 dIx (wVar 4) (wC (.int 0))) (aCons (wCall c_derivation_of (aCons (wVar 0) (aCons (wCall c_but_box (aCons (wVar 0) (aCons (wVar 1) (aCons (wVar 2) (aCons (w2 dIx (wVar 4) (wC (.int 0))) aNil))))) aNil))) aNil))))) sNil) (sRet (wTup (aCons (wC (.str "open")) (aCons (wDGet (wVar 3) (w2 dIx (wVar 4) (wC (.int 0)))) (aCons (wDGet (wVar 3) (w2 dIx (wVar 4) (wC (.int 1)))) aNil))))))))))
theorem q_settling : Qd w_settling 5 c_settling := by
  intro ds S R hc0
  obtain ⟨a, form, rules, r, i, rfl, bk, hp, hr, hi, h⟩ := u_settling hc0
  have h8 := bk.2.1.l8
  have hm := List.getElem?_eq_getElem hi
  refine i_first_by_value ⟨a, form, rules, r, i, rfl, bk, hr, hi, fun d kvs ks hd hk hnd h3 h4 => ?_⟩
  have ad : a ≠ d := fun z => by rw [← z, bk.1] at hd; cases hd
  have bk' : Bk (put S d (.dK kvs)) a form rules := ⟨by rw [put_ne ad]; exact bk.1, bk.2⟩
  have hkl : kvs.length = ks.length := by have := congrArg List.length hk; simpa using this
  have h6 := form6 bk.2.1 _ (List.getElem_mem hi)
  have hks : ∀ v ∈ ks, 0 ≤ v ∧ v < form[i] := fun v hv => by
    obtain ⟨f, hf, hfv⟩ := (h3 v).mp hv
    exact (mem_lawful.mp (mem_agreed.mp hf).1).1.2 i _ v hm hfv
  have hk6 : ks.length ≤ 6 := by
    rw [← (isort_perm ks).length_eq]
    exact up_len 6 _ 0 (isort_up hnd) fun v hv => by have := hks v (isort_mem.mp hv); omega
  have hA : ks = [] ↔ agreed form rules r = [] := by
    constructor
    · intro z
      refine List.eq_nil_iff_forall_not_mem.mpr fun f hf => ?_
      have hfv := (mem_lawful.mp (mem_agreed.mp hf).1).1
      have hu : f[i]? = some (f[i]'(by rw [hfv.1]; exact hi)) := List.getElem?_eq_getElem _
      have := (h3 _).mpr ⟨f, hf, hu⟩
      rw [z] at this; cases this
    · intro z
      refine List.eq_nil_iff_forall_not_mem.mpr fun v hv => ?_
      obtain ⟨f, hf, _⟩ := (h3 v).mp hv
      rw [z] at hf; cases hf
  have wk : Wk (put S d (.dK kvs)) S := Wk.put hd
  conv => whnf
  rw [seq_dK put_same]
  conv => whnf
  rw [put_same]
  refine dEq_int ?_
  by_cases hz : ks = []
  · rw [dT (by rw [hkl, hz]; rfl)]
    refine fld_form bk'.1 ?_
    refine i_report_box ⟨form, r, rfl, by have := hr.1; omega, form6 bk.2.1, ?_⟩
    have hb := VBox.rep bk.2.1 hr
    refine i_derivation_of ⟨a, form, rules, repBox form r, rfl, bk', hb, noLaw_rep hr (hA.mp hz), card400 bk.2.1 hb hp, fun steps hs => ?_⟩
    refine ⟨sz (Nat.le_of_ble_eq_true rfl), ?_⟩
    exact Fin.to wk (h (.never steps) ⟨hA.mp hz, hs⟩)
  have hAn : agreed form rules r ≠ [] := fun z => hz (hA.mpr z)
  have hpos : 0 < ks.length := List.length_pos_iff.mpr hz
  rw [dF (by rw [hkl]; omega)]
  obtain ⟨o, ho⟩ : ∃ o, r[i]? = some o := ⟨_, List.getElem?_eq_getElem (by rw [hr.1]; exact hi)⟩
  refine dIx_nat (d := eR r) (i := i) (S := put S d (.dK kvs)) (x := eO o) rfl (get_map ho) ?_
  cases o with
  | some v =>
    refine dIx_nat (d := eR r) (i := i) (S := put S d (.dK kvs)) (x := eO (some v)) rfl (get_map ho) ?_
    refine ⟨sz (Nat.le_of_ble_eq_true rfl), ?_⟩
    exact Fin.to wk (h (.said v) ⟨hAn, ho⟩)
  | none =>
    conv => whnf
    rw [put_same]
    refine ⟨ks, hk, by omega, ?_⟩
    refine dEq_int ?_
    rw [List.length_map]
    have il : (isort ks).length = ks.length := (isort_perm ks).length_eq
    have hup := isort_up hnd
    cases e : isort ks with
    | nil => rw [e] at il; simp at il; omega
    | cons v rest =>
      have hv : v ∈ ks := isort_mem.mp (by rw [e]; simp)
      cases rest with
      | nil =>
        have all : ∀ f ∈ agreed form rules r, f[i]? = some v := fun f hf => by
          have hfv := (mem_lawful.mp (mem_agreed.mp hf).1).1
          obtain ⟨u, hu⟩ : ∃ u, f[i]? = some u := ⟨_, List.getElem?_eq_getElem (by rw [hfv.1]; exact hi)⟩
          have := isort_mem.mpr ((h3 u).mpr ⟨f, hf, hu⟩)
          rw [e, List.mem_singleton] at this
          rw [hu, this]
        rw [dT (by rfl)]
        refine dIx_at (i := 0) (x := .int v) rfl rfl ?_
        refine dIx_at (i := 0) (x := .int v) rfl rfl ?_
        refine i_but_box ⟨a, form, rules, r, i, v, rfl, bk', hr, hi, ?_⟩
        have hb := VBox.but (v := v) bk.2.1 hr hi
        refine i_derivation_of ⟨a, form, rules, butB form r i v, rfl, bk', hb, noLaw_but hr ho all, card400 bk.2.1 hb hp, fun steps hs => ?_⟩
        refine ⟨sz (Nat.le_of_ble_eq_true rfl), ?_⟩
        exact Fin.to wk (h (.told v steps) ⟨hAn, ho, all, hs⟩)
      | cons w rest =>
        have hw : w ∈ ks := isort_mem.mp (by rw [e]; simp)
        rw [e] at hup
        have vw : v < w := by rw [List.pairwise_cons] at hup; exact hup.1 w (by simp)
        obtain ⟨f, f1, f2, f3⟩ := h4 v hv
        obtain ⟨g, g1, g2, g3⟩ := h4 w hw
        rw [dF (by simp; omega)]
        refine dIx_nat (i := 0) (x := .int v) rfl rfl ?_
        refine dGet_K (kk := .inl v) put_same rfl ?_
        rw [f3]
        refine dIx_nat (i := 1) (x := .int w) rfl rfl ?_
        refine dGet_K (kk := .inl w) put_same rfl ?_
        rw [g3]
        refine ⟨sz (Nat.le_of_ble_eq_true rfl), ?_⟩
        exact Fin.to wk (h (.opn f g) ⟨ho, f1, g1, v, w, f2, g2, vw⟩)
@[irreducible] def c_settled : DC := fun ds S R => ∃ a form rules r, ∃ i : Nat, ds = [.loc a, eR r, .int i] ∧ Bk S a form rules ∧ prod form ≤ 400 ∧ VRep form r ∧ i < form.length ∧ ∀ t, Due form rules r i t → R (eT t) S
theorem i_settled {ds : List D} {S : Sto} {R : DQ} (h : ∃ a form rules r, ∃ i : Nat, ds = [.loc a, eR r, .int i] ∧ Bk S a form rules ∧ prod form ≤ 400 ∧ VRep form r ∧ i < form.length ∧ ∀ t, Due form rules r i t → R (eT t) S) : c_settled ds S R := by unfold c_settled; exact h
theorem u_settled {ds : List D} {S : Sto} {R : DQ} (h : c_settled ds S R) : ∃ a form rules r, ∃ i : Nat, ds = [.loc a, eR r, .int i] ∧ Bk S a form rules ∧ prod form ≤ 400 ∧ VRep form r ∧ i < form.length ∧ ∀ t, Due form rules r i t → R (eT t) S := by unfold c_settled at h; exact h
def w_settled : DS := (sSeq (sDrop (wCall c_check_report (aCons (wFld "Book" "form" (wVar 0)) (aCons (wVar 1) aNil)))) (sSeq (sDrop (wCall c_check_field (aCons (wFld "Book" "form" (wVar 0)) (aCons (wVar 2) aNil)))) (sRet (wCall c_settling (aCons (wVar 0) (aCons (wVar 1) (aCons (wVar 2) aNil)))))))
theorem q_settled : Qd w_settled 3 c_settled := by
  intro ds S R hc0
  obtain ⟨a, form, rules, r, i, rfl, bk, hp, hr, hi, h⟩ := u_settled hc0
  refine fld_form bk.1 ?_
  refine i_check_report ⟨form, r, rfl, bk.2.1, hr, ?_⟩
  refine fld_form bk.1 ?_
  refine i_check_field ⟨form, i, rfl, hi, ?_⟩
  exact i_settling ⟨a, form, rules, r, i, rfl, bk, hp, hr, hi, fun t ht => Fin.now (h t ht)⟩
@[irreducible] def c_shared_by : DC := fun ds S R => ∃ r f, ds = [eR r, eI f] ∧ r.length ≤ 100 ∧ R (eR (shareR r f)) S
theorem i_shared_by {ds : List D} {S : Sto} {R : DQ} (h : ∃ r f, ds = [eR r, eI f] ∧ r.length ≤ 100 ∧ R (eR (shareR r f)) S) : c_shared_by ds S R := by unfold c_shared_by; exact h
theorem u_shared_by {ds : List D} {S : Sto} {R : DQ} (h : c_shared_by ds S R) : ∃ r f, ds = [eR r, eI f] ∧ r.length ≤ 100 ∧ R (eR (shareR r f)) S := by unfold c_shared_by at h; exact h
def w_shared_by : DS := (sRet (wCall dTuple (aCons (wLc (iZip2 (aCons (wVar 0) (aCons (wVar 1) aNil))) (gT 2 (gCons' (gN 2) (gCons' (gN 3) gNil'))) tYes' (wIf (asB (w2 dEq (wVar 2) (wVar 3))) (wVar 2) (wC .non)) [2, 3]) aNil)))
theorem q_shared_by : Qd w_shared_by 4 c_shared_by := by
  intro ds S R hc0
  obtain ⟨r, f, rfl, hz, h⟩ := u_shared_by hc0
  refine lc_zip (xs := r) (ys := f) (E := eO) (E' := D.int) (fun p => eO (if p.1 = some p.2 then p.1 else none)) (by omega) (fun _ _ => trivial) ?_ ?_
  · rintro ⟨o, v⟩ hp S' x Kt Kf k
    refine ⟨rfl, ?_⟩
    refine dEq_i (okO o).eq (okO (some v)).eq ?_
    rw [show D.int v = eO (some v) from rfl, eq_eO]
    by_cases e : o = some v
    · rw [dT e]
      have k : Kt (eO (if o = some v then o else none)) S' := k
      rw [if_pos e] at k
      exact k
    · rw [dF e]
      have k : Kt (eO (if o = some v then o else none)) S' := k
      rw [if_neg e] at k
      exact k
  · have e : (List.zip r f).map (fun p => eO (if p.1 = some p.2 then p.1 else none)) = (shareR r f).map eO := by
      unfold shareR
      rw [List.map_zipWith, List.zip, List.map_zipWith]
    rw [e]
    exact Fin.now h
def toldD : Option (List (Option Int)) → D
  | none => .non
  | some r => eR r
@[irreducible] def c_told_by : DC := fun ds S R => ∃ a form rules r, ds = [.loc a, eR r] ∧ Bk S a form rules ∧ VRep form r ∧ R (toldD (toldM (agreed form rules r))) S
theorem i_told_by {ds : List D} {S : Sto} {R : DQ} (h : ∃ a form rules r, ds = [.loc a, eR r] ∧ Bk S a form rules ∧ VRep form r ∧ R (toldD (toldM (agreed form rules r))) S) : c_told_by ds S R := by unfold c_told_by; exact h
theorem u_told_by {ds : List D} {S : Sto} {R : DQ} (h : c_told_by ds S R) : ∃ a form rules r, ds = [.loc a, eR r] ∧ Bk S a form rules ∧ VRep form r ∧ R (toldD (toldM (agreed form rules r))) S := by unfold c_told_by at h; exact h
def w_told_by : DS := (sSeq (sAsg (wC .non) (gN 2)) (sSeq (sFor (iSeq (wCall c_listed (aCons (wVar 0) aNil))) (gN 3) (sIf (asB (wCall c_agreeing (aCons (wVar 1) (aCons (wVar 3) aNil)))) (sAsg (wIf (asB (w2 dIsN (wVar 2) (wC .non))) (wVar 3) (wCall c_shared_by (aCons (wVar 2) (aCons (wVar 3) aNil)))) (gN 2)) sNil)) (sRet (wVar 2))))
theorem toldM_snoc (A : List (List Int)) (f : List Int) : toldM (A ++ [f]) = some (match toldM A with
    | none => f.map some
    | some t => shareR t f) := by
  cases A with
  | nil => rfl
  | cons g rest => show some ((rest ++ [f]).foldl shareR (g.map some)) = _; rw [List.foldl_append]; rfl
theorem q_told_by : Qd w_told_by 4 c_told_by := by
  intro ds S R hc0
  obtain ⟨a, form, rules, r, rfl, bk, hr, h⟩ := u_told_by hc0
  have h8 := bk.2.1.l8
  refine i_listed ⟨a, form, rules, rfl, bk, ?_⟩
  refine for_ix eI (lawful form rules) (fun n env S' => S' = S ∧ ∃ x3, env = [some (.loc a), some (eR r), some (toldD (toldM (((lawful form rules).take n).filter (agr r)))), x3]) ?_ ?_ ⟨rfl, none, rfl⟩
  · rintro env S' ⟨rfl, x3, rfl⟩
    refine ⟨trivial, ?_⟩
    rw [List.take_length]
    exact Fin.now h
  · rintro n f env S' N hf hN ⟨rfl, x3, rfl⟩
    have hn : n < (lawful form rules).length := (List.getElem?_eq_some_iff.mp hf).1
    have tk : (lawful form rules).take (n + 1) = (lawful form rules).take n ++ [f] := by rw [List.take_succ_eq_append_getElem hn, (List.getElem?_eq_some_iff.mp hf).2]
    refine ⟨trivial, ?_⟩
    refine i_agreeing ⟨r, f, rfl, by have := hr.1; omega, ?_⟩
    cases e : agr r f with
    | false =>
      refine hN _ _ ⟨rfl, some (eI f), ?_⟩
      have hAf : ((lawful form rules).take (n + 1)).filter (agr r) = ((lawful form rules).take n).filter (agr r) := by
        rw [tk, List.filter_append]; simp [e]
      rw [hAf]; rfl
    | true =>
      have hAf : ((lawful form rules).take (n + 1)).filter (agr r) = ((lawful form rules).take n).filter (agr r) ++ [f] := by
        rw [tk, List.filter_append]; simp [e]
      have nx : ∀ d, d = toldD (toldM (((lawful form rules).take (n + 1)).filter (agr r))) → N [some (.loc a), some (eR r), some d, some (eI f)] S' := fun d hd => hN _ _ ⟨rfl, some (eI f), by rw [hd]⟩
      rw [hAf, toldM_snoc] at nx
      cases et : toldM (((lawful form rules).take n).filter (agr r)) with
      | none =>
        rw [et] at nx
        exact nx _ (eI_eR f)
      | some t =>
        rw [et] at nx
        have tl : t.length ≤ 100 := by
          cases eA : ((lawful form rules).take n).filter (agr r) with
          | nil => rw [eA] at et; cases et
          | cons g rest =>
            rw [eA] at et
            have hlen : ∀ f ∈ g :: rest, f.length = form.length := fun f hf => by
              rw [← eA] at hf
              exact (mem_lawful.mp (List.mem_of_mem_take (List.mem_filter.mp hf).1)).1.1
            cases et
            have := (told_get (n := form.length) (rest := rest) (r := g.map some) (by rw [List.length_map]; exact hlen g (by simp)) (fun f hf => hlen f (by simp [hf]))).1
            omega
        refine i_shared_by ⟨t, f, rfl, tl, ?_⟩
        exact nx _ rfl
@[irreducible] def c_told : DC := fun ds S R => ∃ a form rules r, ds = [.loc a, eR r] ∧ Bk S a form rules ∧ VRep form r ∧ R (toldD (toldM (agreed form rules r))) S
theorem i_told {ds : List D} {S : Sto} {R : DQ} (h : ∃ a form rules r, ds = [.loc a, eR r] ∧ Bk S a form rules ∧ VRep form r ∧ R (toldD (toldM (agreed form rules r))) S) : c_told ds S R := by unfold c_told; exact h
theorem u_told {ds : List D} {S : Sto} {R : DQ} (h : c_told ds S R) : ∃ a form rules r, ds = [.loc a, eR r] ∧ Bk S a form rules ∧ VRep form r ∧ R (toldD (toldM (agreed form rules r))) S := by unfold c_told at h; exact h
def w_told : DS := (sSeq (sDrop (wCall c_check_report (aCons (wFld "Book" "form" (wVar 0)) (aCons (wVar 1) aNil)))) (sRet (wCall c_told_by (aCons (wVar 0) (aCons (wVar 1) aNil)))))
theorem q_told : Qd w_told 2 c_told := by
  intro ds S R hc0
  obtain ⟨a, form, rules, r, rfl, bk, hr, h⟩ := u_told hc0
  refine fld_form bk.1 ?_
  refine i_check_report ⟨form, r, rfl, bk.2.1, hr, ?_⟩
  exact i_told_by ⟨a, form, rules, r, rfl, bk, hr, Fin.now h⟩
theorem VRep.said {form : List Int} {one other : List (Option Int)} (h : VRep form one) (k : VRep form other) : VRep form (saidB one other) := by
  refine ⟨by unfold saidB; rw [List.length_zipWith, h.1, k.1]; omega, fun i m o hm ho v hv => ?_⟩
  have hi : i < form.length := (List.getElem?_eq_some_iff.mp hm).1
  obtain ⟨x, hx⟩ : ∃ x, one[i]? = some x := ⟨_, List.getElem?_eq_getElem (by rw [h.1]; exact hi)⟩
  obtain ⟨y, hy⟩ : ∃ y, other[i]? = some y := ⟨_, List.getElem?_eq_getElem (by rw [k.1]; exact hi)⟩
  unfold saidB at ho
  rw [List.getElem?_zipWith, hx, hy] at ho
  have ho : mgo x y = o := Option.some.inj ho
  rw [hv] at ho
  cases x with
  | none => exact k.2 i m y hm hy v ho
  | some u => exact h.2 i m (some u) hm hx v ho
@[irreducible] def c_one_fault : DC := fun ds S R => ∃ a form rules one other, ds = [.loc a, .lst [eR one, eR other]] ∧ Bk S a form rules ∧ prod form ≤ 400 ∧ VRep form one ∧ VRep form other ∧ (∀ j, unl one other 0 = some j → R (.tup [.str "unlike", .int 0, .int 1, .int (j : Nat)]) S) ∧ (unl one other 0 = none → (∀ f, (agreed form rules (saidB one other)).head? = some f → R (.tup [.str "one", eI f]) S) ∧ (agreed form rules (saidB one other) = [] → ∀ steps, Pap form rules (repBox form (saidB one other)) steps → R (.tup [.str "barred", eP steps]) S))
theorem i_one_fault {ds : List D} {S : Sto} {R : DQ} (h : ∃ a form rules one other, ds = [.loc a, .lst [eR one, eR other]] ∧ Bk S a form rules ∧ prod form ≤ 400 ∧ VRep form one ∧ VRep form other ∧ (∀ j, unl one other 0 = some j → R (.tup [.str "unlike", .int 0, .int 1, .int (j : Nat)]) S) ∧ (unl one other 0 = none → (∀ f, (agreed form rules (saidB one other)).head? = some f → R (.tup [.str "one", eI f]) S) ∧ (agreed form rules (saidB one other) = [] → ∀ steps, Pap form rules (repBox form (saidB one other)) steps → R (.tup [.str "barred", eP steps]) S))) : c_one_fault ds S R := by unfold c_one_fault; exact h
theorem u_one_fault {ds : List D} {S : Sto} {R : DQ} (h : c_one_fault ds S R) : ∃ a form rules one other, ds = [.loc a, .lst [eR one, eR other]] ∧ Bk S a form rules ∧ prod form ≤ 400 ∧ VRep form one ∧ VRep form other ∧ (∀ j, unl one other 0 = some j → R (.tup [.str "unlike", .int 0, .int 1, .int (j : Nat)]) S) ∧ (unl one other 0 = none → (∀ f, (agreed form rules (saidB one other)).head? = some f → R (.tup [.str "one", eI f]) S) ∧ (agreed form rules (saidB one other) = [] → ∀ steps, Pap form rules (repBox form (saidB one other)) steps → R (.tup [.str "barred", eP steps]) S)) := by unfold c_one_fault at h; exact h
def w_one_fault : DS := (sSeq (sDrop (wCall c_check_reports (aCons (wFld "Book" "form" (wVar 0)) (aCons (wVar 1) aNil)))) (sSeq (sAsg (wCall c_unlike_at (aCons (wVar 1) aNil)) (gN 2)) (sSeq (sIf (asB (w2 dNotN (wVar 2) (wC .non))) (sRet (wAdd (wTup (aCons (wC (.str "unlike")) aNil)) (wVar 2))) sNil) (sSeq (sAsg (wCall c_barring (aCons (wVar 0) (aCons (wCall c_report_box (aCons (wFld "Book" "form" (wVar 0)) (aCons (wCall c_said_by (aCons (wVar 1) aNil)) aNil))) aNil))) (gT 2 (gCons' (gN 3) (gCons' (gN 4) gNil')))) (sRet (wTup (aCons (wIf (asB (w2 dEq (wVar 3) (wC (.str "free")))) (wC (.str "one")) (wVar 3)) (aCons (wVar 4) aNil))))))))
theorem q_one_fault : Qd w_one_fault 5 c_one_fault := by
  intro ds S R hc0
  obtain ⟨a, form, rules, one, other, rfl, bk, hp, hr, hr', h1, h2⟩ := u_one_fault hc0
  have h8 := bk.2.1.l8
  have hv := VRep.said hr hr'
  refine fld_form bk.1 ?_
  refine i_check_reports ⟨form, one, other, rfl, bk.2.1, hr, hr', ?_⟩
  refine i_unlike_at ⟨one, other, rfl, by rw [hr.1, hr'.1], by have := hr.1; omega, ?_⟩
  cases e : unl one other 0 with
  | some j =>
    refine ⟨sz (Nat.le_of_ble_eq_true rfl), sz (Nat.le_of_ble_eq_true rfl), ?_⟩
    exact Fin.now (h1 j e)
  | none =>
    obtain ⟨h2, h3⟩ := h2 e
    refine fld_form bk.1 ?_
    refine i_said_by ⟨one, other, rfl, by rw [hr.1, hr'.1], by have := hr.1; omega, ?_⟩
    refine i_report_box ⟨form, saidB one other, rfl, by have := hv.1; omega, form6 bk.2.1, ?_⟩
    have hb := VBox.rep bk.2.1 hv
    have hfind : (lawful form rules).find? (held (repBox form (saidB one other))) = (agreed form rules (saidB one other)).head? := by
      rw [← head_find]
      have : ∀ l : List (List Int), (∀ f ∈ l, VFlt form f) → l.find? (held (repBox form (saidB one other))) = l.find? (agr (saidB one other)) := by
        intro l hl
        induction l with
        | nil => rfl
        | cons x xs ih => rw [List.find?_cons, List.find?_cons, held_rep hv (hl x (by simp)), ih fun f hf => hl f (by simp [hf])]
      exact this _ fun f hf => (mem_lawful.mp hf).1
    refine i_barring ⟨a, form, rules, _, rfl, bk, hb, card400 bk.2.1 hb hp, fun f hf => ?_, fun hf steps hs => ?_⟩
    · rw [hfind] at hf
      refine ⟨rfl, ?_⟩
      refine dEq_str ?_
      rw [dT rfl]
      refine ⟨sz (Nat.le_of_ble_eq_true rfl), ?_⟩
      exact Fin.now (h2 f hf)
    · rw [hfind] at hf
      refine ⟨rfl, ?_⟩
      refine dEq_str ?_
      rw [dF (by decide)]
      refine ⟨sz (Nat.le_of_ble_eq_true rfl), ?_⟩
      exact Fin.now (h3 (List.head?_eq_none_iff.mp hf) steps hs)
end K78
set_option Elab.async false
set_option linter.all false
set_option maxRecDepth 100000
set_option maxHeartbeats 1000000
/-! Greatest boxes: how they are made; what holds of them. -/
namespace Mir
open Dd PySem.W
open PySem (PyData)
/-! ### lots, boxes: all of them -/
def lotsN : Nat → List (List Int)
  | 0 => [[]]
  | k + 1 => lotsN k ++ (lotsN k).map fun l => l ++ [(k : Int)]
def lots (m : Int) : List (List Int) := (lotsN m.toNat).filter fun l => decide (0 < l.length)
theorem lot_mem : ∀ (k : Nat) (l : List Int), l.Pairwise (· < ·) → (∀ v ∈ l, 0 ≤ v ∧ v < k) → l ∈ lotsN k
  | 0, l, _, h => by
    cases l with
    | nil => exact List.mem_singleton.mpr rfl
    | cons x l => have := h x List.mem_cons_self; omega
  | k + 1, l, up, h => by
    show l ∈ lotsN k ++ (lotsN k).map fun l => l ++ [(k : Int)]
    rw [List.mem_append]
    by_cases e : (k : Int) ∈ l
    · right
      have hn : l ≠ [] := fun z => by rw [z] at e; cases e
      obtain ⟨y, v, rfl⟩ : ∃ y v, l = y ++ [v] := ⟨l.dropLast, l.getLast hn, (List.dropLast_concat_getLast hn).symm⟩
      rw [List.pairwise_append] at up
      have hv : v = (k : Int) := by
        rcases List.mem_append.mp e with e | e
        · have h1 := up.2.2 _ e v (List.mem_singleton.mpr rfl)
          have h2 := h v (by simp)
          omega
        · exact (List.mem_singleton.mp e).symm
      subst hv
      refine List.mem_map.mpr ⟨y, lot_mem k y up.1 fun x hx => ?_, rfl⟩
      have h1 := up.2.2 x hx (k : Int) (List.mem_singleton.mpr rfl)
      have h2 := h x (List.mem_append_left _ hx)
      omega
    · left
      refine lot_mem k l up fun v hv => ?_
      have h1 := h v hv
      have : v ≠ (k : Int) := fun z => e (z ▸ hv)
      omega
theorem VLot.mem_lots {m : Int} {l : List Int} (hm : 0 ≤ m) (h : VLot m l) : l ∈ lots m := by
  unfold lots
  refine List.mem_filter.mpr ⟨lot_mem m.toNat l h.up fun v hv => ?_, decide_eq_true (List.length_pos_iff.mpr h.ne)⟩
  have := h.mem v hv
  omega
abbrev UB (form : List Int) : List Box := grid lots form
def nB (form : List Int) : Nat := (UB form).length
theorem VBox.ub {form : List Int} {b : Box} (h : VBox form b) (hm : ∀ m ∈ form, 0 ≤ m) : b ∈ UB form := mem_grid.mpr ⟨h.1, fun i m l ha hb => (h.2 i m l ha hb).mem_lots (hm m (List.mem_of_getElem? ha))⟩
theorem nodup_len {α : Type} [DecidableEq α] : ∀ {xs ys : List α}, xs.Nodup → (∀ x ∈ xs, x ∈ ys) → xs.length ≤ ys.length
  | [], _, _, _ => Nat.zero_le _
  | x :: xs, ys, hn, h => by
    rw [List.nodup_cons] at hn
    have hx := h x List.mem_cons_self
    have := nodup_len (xs := xs) (ys := ys.erase x) hn.2 fun y hy => (List.mem_erase_of_ne (fun z => hn.1 (by rw [← z]; exact hy))).mpr (h y (List.mem_cons_of_mem _ hy))
    rw [List.length_erase_of_mem hx] at this
    have : 0 < ys.length := List.length_pos_of_mem hx
    rw [List.length_cons]; omega
theorem filter_lt {α : Type} {p q : α → Bool} : ∀ {xs : List α}, (∀ x ∈ xs, p x = true → q x = true) → (∃ x ∈ xs, q x = true ∧ p x = false) → (xs.filter p).length + 1 ≤ (xs.filter q).length
  | [], _, ⟨x, hx, _⟩ => by cases hx
  | y :: xs, h, ⟨x, hx, hq, hp⟩ => by
    have le : (xs.filter p).length ≤ (xs.filter q).length := by
      have : ∀ (l : List α), (∀ x ∈ l, p x = true → q x = true) → (l.filter p).length ≤ (l.filter q).length := by
        intro l
        induction l with
        | nil => intro _; exact Nat.le_refl _
        | cons z l ih =>
          intro h
          have ih := ih fun x hx => h x (List.mem_cons_of_mem _ hx)
          have hz := h z List.mem_cons_self
          rw [List.filter_cons, List.filter_cons]
          cases e : p z with
          | true => rw [hz e]; simp only [if_pos]; simp only [List.length_cons]; omega
          | false => cases q z <;> simp <;> omega
      exact this xs fun x hx => h x (List.mem_cons_of_mem _ hx)
    rw [List.filter_cons, List.filter_cons]
    rcases List.mem_cons.mp hx with rfl | hx
    · rw [hq, hp]; simp; omega
    · have ih := filter_lt (fun x hx => h x (List.mem_cons_of_mem _ hx)) ⟨x, hx, hq, hp⟩
      have hy := h y List.mem_cons_self
      cases e : p y with
      | true => rw [hy e]; simp; omega
      | false => cases q y <;> simp <;> omega
theorem lies_refl (b : Box) : lies b b = true := lies_iff.mpr fun i l w hl hw v hv => by rw [hl] at hw; cases hw; exact hv
theorem lies_trans {a b c : Box} (h1 : a.length = b.length) (h : lies a b = true) (k : lies b c = true) : lies a c = true := by
  rw [lies_iff] at h k ⊢
  intro i l w hl hw v hv
  have hi : i < b.length := by rw [← h1]; exact (List.getElem?_eq_some_iff.mp hl).1
  have g : b[i]? = some b[i] := List.getElem?_eq_getElem hi
  exact k i _ w g hw v (h i l _ hl g v hv)
/-! ### the functions -/
def takeIn (boxes : List Box) (b : Box) : List Box := if boxes.any (fun o => lies b o) = true then boxes else boxes.filter (fun o => !lies o b) ++ [b]
def newOf (f : Nat) (box o : Box) : Option Box := match joinB f box o with
  | some m => if lies m box = false ∧ lies m o = false then some m else none
  | none => none
def news (f : Nat) (box : Box) (found : List Box) : List Box := found.filterMap (newOf f box)
def jrun (f : Nat) : Nat → List Box → List Box → Option (List Box)
  | n, [], found => some found
  | 0, _ :: _, _ => none
  | n + 1, x :: w, found =>
    if found.any (fun o => lies ((x :: w).getLast (List.cons_ne_nil _ _)) o) = true then jrun f n (x :: w).dropLast found
    else jrun f n ((x :: w).dropLast ++ news f ((x :: w).getLast (List.cons_ne_nil _ _)) (found.filter fun o => !lies o ((x :: w).getLast (List.cons_ne_nil _ _)))) (found.filter (fun o => !lies o ((x :: w).getLast (List.cons_ne_nil _ _))) ++ [(x :: w).getLast (List.cons_ne_nil _ _)])
theorem jrun_nil (f n : Nat) (found : List Box) : jrun f n [] found = some found := by cases n <;> rfl
theorem jrun_snoc (f n : Nat) (w found : List Box) (b : Box) : jrun f (n + 1) (w ++ [b]) found = if found.any (fun o => lies b o) = true then jrun f n w found else jrun f n (w ++ news f b (found.filter fun o => !lies o b)) (found.filter (fun o => !lies o b) ++ [b]) := by
  have hn : w ++ [b] ≠ [] := by simp
  have h1 : (w ++ [b]).getLast hn = b := List.getLast_concat ..
  have h2 : (w ++ [b]).dropLast = w := List.dropLast_concat ..
  generalize e : w ++ [b] = u at hn h1 h2
  cases u with
  | nil => exact absurd rfl hn
  | cons x u =>
    show (if found.any (fun o => lies ((x :: u).getLast (List.cons_ne_nil _ _)) o) = true then jrun f n (x :: u).dropLast found else _) = _
    rw [h1, h2]
theorem jrun_zero (f : Nat) (w found : List Box) (b : Box) : jrun f 0 (w ++ [b]) found = none := by
  have hn : w ++ [b] ≠ [] := by simp
  generalize w ++ [b] = u at hn
  cases u with
  | nil => exact absurd rfl hn
  | cons x u => rfl
theorem snoc_cases {α : Type} (w : List α) : w = [] ∨ ∃ u b, w = u ++ [b] := by
  by_cases h : w = []
  · exact .inl h
  · exact .inr ⟨w.dropLast, w.getLast h, (List.dropLast_concat_getLast h).symm⟩
theorem jrun_mono {f : Nat} : ∀ {n : Nat} {w found r : List Box}, jrun f n w found = some r → ∀ m, n ≤ m → jrun f m w found = some r := by
  intro n
  induction n with
  | zero =>
    intro w found r h m _
    rcases snoc_cases w with rfl | ⟨u, b, rfl⟩
    · rw [jrun_nil] at h ⊢; exact h
    · rw [jrun_zero] at h; cases h
  | succ n ih =>
    intro w found r h m hm
    rcases snoc_cases w with rfl | ⟨u, b, rfl⟩
    · rw [jrun_nil] at h ⊢; exact h
    · obtain ⟨k, rfl⟩ : ∃ k, m = k + 1 := ⟨m - 1, by omega⟩
      rw [jrun_snoc] at h ⊢
      split
      · rename_i e; rw [if_pos e] at h; exact ih h k (by omega)
      · rename_i e; rw [if_neg e] at h; exact ih h k (by omega)
theorem jrun_one {f n m : Nat} {w found r r' : List Box} (h : jrun f n w found = some r) (h' : jrun f m w found = some r') : r = r' := by
  have a := jrun_mono h (max n m) (Nat.le_max_left _ _)
  have b := jrun_mono h' (max n m) (Nat.le_max_right _ _)
  rw [a] at b; exact Option.some.inj b
/-- what a join of two has, all have -/
theorem jrun_all {f : Nat} {p : Box → Prop} (hj : ∀ a b c, p a → p b → joinB f a b = some c → p c) : ∀ {n : Nat} {w found r : List Box}, jrun f n w found = some r → (∀ b ∈ w, p b) → (∀ b ∈ found, p b) → ∀ b ∈ r, p b := by
  intro n
  induction n with
  | zero =>
    intro w found r h hw hf
    rcases snoc_cases w with rfl | ⟨u, b, rfl⟩
    · rw [jrun_nil] at h; cases h; exact hf
    · rw [jrun_zero] at h; cases h
  | succ n ih =>
    intro w found r h hw hf
    rcases snoc_cases w with rfl | ⟨u, b, rfl⟩
    · rw [jrun_nil] at h; cases h; exact hf
    · rw [jrun_snoc] at h
      have hb := hw b (by simp)
      split at h
      · exact ih h (fun x hx => hw x (List.mem_append_left _ hx)) hf
      · refine ih h (fun x hx => ?_) fun x hx => ?_
        · rcases List.mem_append.mp hx with hx | hx
          · exact hw x (List.mem_append_left _ hx)
          · unfold news at hx
            obtain ⟨o, ho, e⟩ := List.mem_filterMap.mp hx
            have ho := hf o (List.mem_filter.mp ho).1
            unfold newOf at e
            split at e
            · rename_i m hm
              split at e
              · cases e; exact hj b o x hb ho hm
              · cases e
            · cases e
        · rcases List.mem_append.mp hx with hx | hx
          · exact hf x (List.mem_filter.mp hx).1
          · rw [List.mem_singleton.mp hx]; exact hb
/-- how many boxes lie in none -/
def out (form : List Int) (found : List Box) : Nat := ((UB form).filter fun u => !(found.any fun o => lies u o)).length
structure JI (form : List Int) (w found : List Box) : Prop where
  vw : ∀ b ∈ w, VBox form b
  vf : ∀ b ∈ found, VBox form b
  nd : found.Nodup
  m : out form found * nB form + w.length ≤ nB form * nB form + 4000
theorem JI.few {form : List Int} {w found : List Box} (h : JI form w found) (hm : ∀ m ∈ form, 0 ≤ m) : found.length ≤ nB form := nodup_len h.nd fun b hb => (h.vf b hb).ub hm
theorem out_le (form : List Int) (found : List Box) : out form found ≤ nB form := List.length_filter_le _ _
theorem JI.start {form : List Int} {w : List Box} (hw : ∀ b ∈ w, VBox form b) (hl : w.length ≤ 4000) : JI form w [] :=
  ⟨hw, (fun b hb => absurd hb List.not_mem_nil), List.nodup_nil, by have := Nat.mul_le_mul_right (nB form) (out_le form []); omega⟩
theorem JI.skip {form : List Int} {w found : List Box} {b : Box} (h : JI form (w ++ [b]) found) : JI form w found :=
  ⟨fun x hx => h.vw x (List.mem_append_left _ hx), h.vf, h.nd, by have := h.m; rw [List.length_append, List.length_singleton] at this; omega⟩
theorem filter_nodup {α : Type} {p : α → Bool} {l : List α} (h : l.Nodup) : (l.filter p).Nodup := List.Pairwise.sublist List.filter_sublist h
theorem out_go {form : List Int} {w found : List Box} {b : Box} (h : JI form (w ++ [b]) found) (hm : ∀ m ∈ form, 0 ≤ m) (hc : found.any (fun o => lies b o) = false) : out form (found.filter (fun o => !lies o b) ++ [b]) + 1 ≤ out form found := by
  have hb := h.vw b (by simp)
  unfold out
  refine filter_lt (fun u hu hp => ?_) ⟨b, hb.ub hm, by rw [hc]; rfl, by simp [lies_refl]⟩
  have hu' : u.length = form.length := (mem_grid.mp hu).1
  cases e : found.any fun o => lies u o with
  | false => rfl
  | true =>
    exfalso
    obtain ⟨o, ho, hl⟩ := List.any_eq_true.mp e
    have : (found.filter (fun o => !lies o b) ++ [b]).any (fun o => lies u o) = true := by
      rw [List.any_append, Bool.or_eq_true]
      cases q : lies o b with
      | true => right; simp [lies_trans (by rw [hu', (h.vf o ho).1]) hl q]
      | false => left; exact List.any_eq_true.mpr ⟨o, List.mem_filter.mpr ⟨ho, by rw [q]; rfl⟩, hl⟩
    rw [this] at hp; cases hp
theorem JI.go {form : List Int} {w found : List Box} {b : Box} {f : Nat} (h : JI form (w ++ [b]) found) (hm : ∀ m ∈ form, 0 ≤ m) (hf : f < form.length) (hc : found.any (fun o => lies b o) = false) :
    JI form (w ++ news f b (found.filter fun o => !lies o b)) (found.filter (fun o => !lies o b) ++ [b]) := by
  have hb := h.vw b (by simp)
  refine ⟨fun x hx => ?_, fun x hx => ?_, ?_, ?_⟩
  · rcases List.mem_append.mp hx with hx | hx
    · exact h.vw x (List.mem_append_left _ hx)
    · unfold news at hx
      obtain ⟨o, ho, e⟩ := List.mem_filterMap.mp hx
      have ho := h.vf o (List.mem_filter.mp ho).1
      unfold newOf at e
      split at e
      · rename_i m hm'
        split at e
        · cases e; exact VBox.join hb ho hf hm'
        · cases e
      · cases e
  · rcases List.mem_append.mp hx with hx | hx
    · exact h.vf x (List.mem_filter.mp hx).1
    · rw [List.mem_singleton.mp hx]; exact hb
  · rw [List.nodup_append]
    refine ⟨filter_nodup h.nd, by simp, fun x hx y hy z => ?_⟩
    rw [List.mem_singleton] at hy
    subst hy z
    have := List.any_eq_false.mp hc x (List.mem_filter.mp hx).1
    rw [lies_refl] at this
    exact this rfl
  · have h1 := out_go h hm hc
    have h2 := h.m
    have h3 := h.few hm
    have h4 : (news f b (found.filter fun o => !lies o b)).length ≤ found.length := Nat.le_trans (List.length_filterMap_le _ _) (List.length_filter_le _ _)
    rw [List.length_append] at h2 ⊢
    have h5 := Nat.mul_le_mul_right (nB form) h1
    rw [Nat.add_mul, Nat.one_mul] at h5
    have h6 : [b].length = 1 := rfl
    omega
theorem jrun_ends {form : List Int} {f : Nat} (hm : ∀ m ∈ form, 0 ≤ m) (hf : f < form.length) : ∀ (k : Nat) (w found : List Box), JI form w found → out form found * nB form + w.length ≤ k → ∃ n r, jrun f n w found = some r := by
  intro k
  induction k with
  | zero =>
    intro w found _ hk
    have : w = [] := List.length_eq_zero_iff.mp (by omega)
    subst this
    exact ⟨0, found, jrun_nil _ _ _⟩
  | succ k ih =>
    intro w found h hk
    rcases snoc_cases w with rfl | ⟨u, b, rfl⟩
    · exact ⟨0, found, jrun_nil _ _ _⟩
    · have hl : (u ++ [b]).length = u.length + 1 := by simp
      cases hc : found.any fun o => lies b o with
      | true =>
        obtain ⟨n, r, e⟩ := ih u found h.skip (by omega)
        exact ⟨n + 1, r, by rw [jrun_snoc, if_pos hc]; exact e⟩
      | false =>
        have h1 := out_go h hm hc
        have h3 := h.few hm
        have h4 : (news f b (found.filter fun o => !lies o b)).length ≤ found.length := Nat.le_trans (List.length_filterMap_le _ _) (List.length_filter_le _ _)
        have h5 := Nat.mul_le_mul_right (nB form) h1
        rw [Nat.add_mul, Nat.one_mul] at h5
        obtain ⟨n, r, e⟩ := ih _ _ (h.go (f := f) hm hf hc) (by rw [List.length_append]; omega)
        exact ⟨n + 1, r, by rw [jrun_snoc, if_neg (by rw [hc]; decide)]; exact e⟩
theorem jrun_inv {form : List Int} {f : Nat} (hm : ∀ m ∈ form, 0 ≤ m) (hf : f < form.length) : ∀ {n : Nat} {w found r : List Box}, JI form w found → jrun f n w found = some r → JI form [] r := by
  intro n
  induction n with
  | zero =>
    intro w found r h e
    rcases snoc_cases w with rfl | ⟨u, b, rfl⟩
    · rw [jrun_nil] at e; cases e; exact h
    · rw [jrun_zero] at e; cases e
  | succ n ih =>
    intro w found r h e
    rcases snoc_cases w with rfl | ⟨u, b, rfl⟩
    · rw [jrun_nil] at e; cases e; exact h
    · rw [jrun_snoc] at e
      split at e
      · exact ih h.skip e
      · rename_i hc; exact ih (h.go hm hf (by simpa using hc)) e
open Classical in
/-- joined at a field -/
noncomputable def ja (f : Nat) (boxes : List Box) : List Box := if h : ∃ r, ∃ n, jrun f n boxes [] = some r then Classical.choose h else []
theorem ja_of {f n : Nat} {boxes r : List Box} (h : jrun f n boxes [] = some r) : ja f boxes = r := by
  have hx : ∃ r, ∃ n, jrun f n boxes [] = some r := ⟨r, n, h⟩
  unfold ja
  rw [dif_pos hx]
  obtain ⟨m, e⟩ := Classical.choose_spec hx
  exact jrun_one e h
theorem ja_run {form : List Int} {f : Nat} {boxes : List Box} (hm : ∀ m ∈ form, 0 ≤ m) (hf : f < form.length) (hw : ∀ b ∈ boxes, VBox form b) (hl : boxes.length ≤ 4000) : ∃ n, jrun f n boxes [] = some (ja f boxes) := by
  obtain ⟨n, r, e⟩ := jrun_ends hm hf _ boxes [] (JI.start hw hl) (Nat.le_refl _)
  exact ⟨n, by rw [ja_of e]; exact e⟩
def sortB (bs : List Box) : List Box := bs.mergeSort fun a b => dataLe false toP (eB a) (eB b)
/-- the greatest boxes, as the program makes them -/
noncomputable def gbs (form : List Int) (rules : List Box) : List Box := (List.range form.length).foldl (fun bs f => ja f bs) (rules.foldl takeIn [])
noncomputable def gbx (form : List Int) (rules : List Box) : List Box := sortB (gbs form rules)
theorem sortB_mem {bs : List Box} {b : Box} : b ∈ sortB bs ↔ b ∈ bs := (List.mergeSort_perm bs _).mem_iff
theorem sortB_len {bs : List Box} : (sortB bs).length = bs.length := (List.mergeSort_perm bs _).length_eq
theorem takeIn_mem {bs : List Box} {b x : Box} (h : x ∈ takeIn bs b) : x ∈ bs ∨ x = b := by
  unfold takeIn at h
  split at h
  · exact .inl h
  · rcases List.mem_append.mp h with h | h
    · exact .inl (List.mem_filter.mp h).1
    · exact .inr (List.mem_singleton.mp h)
theorem takeIn_len (bs : List Box) (b : Box) : (takeIn bs b).length ≤ bs.length + 1 := by
  unfold takeIn
  split
  · omega
  · rw [List.length_append, List.length_singleton]
    have := List.length_filter_le (fun o => !lies o b) bs
    omega
theorem fold_take_mem : ∀ {rules bs : List Box} {x : Box}, x ∈ rules.foldl takeIn bs → x ∈ bs ∨ x ∈ rules
  | [], _, _, h => .inl h
  | r :: rules, bs, x, h => by
    rcases fold_take_mem (rules := rules) (show x ∈ rules.foldl takeIn (takeIn bs r) from h) with h | h
    · rcases takeIn_mem h with h | h
      · exact .inl h
      · exact .inr (h ▸ List.mem_cons_self)
    · exact .inr (List.mem_cons_of_mem _ h)
theorem fold_take_len : ∀ (rules bs : List Box), (rules.foldl takeIn bs).length ≤ bs.length + rules.length
  | [], bs => Nat.le_refl _
  | r :: rules, bs => by
    have h1 := fold_take_len rules (takeIn bs r)
    have h2 := takeIn_len bs r
    rw [List.length_cons]
    show (rules.foldl takeIn (takeIn bs r)).length ≤ _
    omega
/-- what holds along the fields -/
structure GI (form : List Int) (rules bs : List Box) : Prop where
  v : ∀ b ∈ bs, VBox form b
  s : ∀ b ∈ bs, ∀ u : List Int, u.length = form.length → held b u = true → ∃ r ∈ rules, held r u = true
  l : bs.length ≤ 4000
theorem GI.start {form : List Int} {rules : List Box} (hr : ∀ b ∈ rules, VBox form b) (hl : rules.length ≤ 4000) : GI form rules (rules.foldl takeIn []) := by
  have mem : ∀ b ∈ rules.foldl takeIn [], b ∈ rules := fun b hb => (fold_take_mem hb).resolve_left fun z => by cases z
  refine ⟨fun b hb => hr b (mem b hb), fun b hb u _ h => ⟨b, mem b hb, h⟩, ?_⟩
  have := fold_take_len rules []
  rw [List.length_nil] at this
  omega
theorem ja_ji {form : List Int} {f : Nat} {boxes : List Box} (hm : ∀ m ∈ form, 0 ≤ m) (hf : f < form.length) (hw : ∀ b ∈ boxes, VBox form b) (hl : boxes.length ≤ 4000) : JI form [] (ja f boxes) := by
  obtain ⟨n, e⟩ := ja_run hm hf hw hl
  exact jrun_inv hm hf (JI.start hw hl) e
theorem GI.next {form : List Int} {rules bs : List Box} {f : Nat} (h : GI form rules bs) (hm : ∀ m ∈ form, 0 ≤ m) (hf : f < form.length) (hB : nB form ≤ 4000) : GI form rules (ja f bs) := by
  obtain ⟨n, e⟩ := ja_run hm hf h.v h.l
  have ji := ja_ji hm hf h.v h.l
  have key := jrun_all (p := fun b => VBox form b ∧ ∀ u : List Int, u.length = form.length → held b u = true → ∃ r ∈ rules, held r u = true) (fun a b c ha hb hc => ⟨VBox.join ha.1 hb.1 hf hc, fun u hu hh => by
    rcases held_join ha.1 hb.1 hf hc hu hh with q | q
    · exact ha.2 u hu q
    · exact hb.2 u hu q⟩) e (fun b hb => ⟨h.v b hb, h.s b hb⟩) (fun b hb => by cases hb)
  exact ⟨fun b hb => (key b hb).1, fun b hb => (key b hb).2, Nat.le_trans (ji.few hm) hB⟩
theorem gbs_steps {form : List Int} {rules : List Box} (hm : ∀ m ∈ form, 0 ≤ m) (hr : ∀ b ∈ rules, VBox form b) (hl : rules.length ≤ 4000) (hB : nB form ≤ 4000) : ∀ k, k ≤ form.length → GI form rules ((List.range k).foldl (fun bs f => ja f bs) (rules.foldl takeIn [])) := by
  intro k
  induction k with
  | zero => intro _; exact GI.start hr hl
  | succ k ih =>
    intro hk
    rw [List.range_succ, List.foldl_append]
    exact (ih (by omega)).next hm (by omega) hB
theorem gbx_ok {form : List Int} {rules : List Box} (h1 : 1 ≤ form.length) (hm : ∀ m ∈ form, 0 ≤ m) (hr : ∀ b ∈ rules, VBox form b) (hl : rules.length ≤ 4000) (hB : nB form ≤ 4000) : GI form rules (gbx form rules) ∧ (gbx form rules).length ≤ nB form := by
  have h := gbs_steps hm hr hl hB form.length (Nat.le_refl _)
  refine ⟨⟨fun b hb => h.v b (sortB_mem.mp hb), fun b hb => h.s b (sortB_mem.mp hb), by unfold gbx; rw [sortB_len]; exact h.l⟩, ?_⟩
  unfold gbx
  rw [sortB_len]
  unfold gbs
  obtain ⟨k, hk⟩ : ∃ k, form.length = k + 1 := ⟨form.length - 1, by omega⟩
  rw [hk, List.range_succ, List.foldl_append]
  have g := gbs_steps hm hr hl hB k (by omega)
  exact (ja_ji hm (by omega) g.v g.l).few hm
/-! ### sorted -/
theorem sortD_boxes (bs : List Box) : sortD (bs.map eB) = (sortB bs).map eB := by
  unfold sortD sortB
  rw [List.map_mergeSort (s := dataLe false toP)]
  intro a _ b _; rfl
theorem toP_eI (l : List Int) : toP (eI l) = .tuple (l.map .int) := by
  have : ∀ l : List Int, toPs (l.map D.int) = l.map PyData.int := by
    intro l
    induction l with
    | nil => rfl
    | cons x l ih => show toP (.int x) :: toPs (l.map D.int) = _; rw [ih]; rfl
  show PyData.tuple (toPs (l.map D.int)) = _
  rw [this]
theorem toP_eB (b : Box) : toP (eB b) = .tuple (b.map fun l => .tuple (l.map .int)) := by
  have : ∀ b : Box, toPs (b.map eI) = b.map fun l => PyData.tuple (l.map .int) := by
    intro l
    induction l with
    | nil => rfl
    | cons x l ih => show toP (eI x) :: toPs (l.map eI) = _; rw [ih, toP_eI]; rfl
  show PyData.tuple (toPs (b.map eI)) = _
  rw [this]
theorem alike_lots : ∀ xs ys : List (List Int), alikeAll (xs.map fun l => PyData.tuple (l.map .int)) (ys.map fun l => PyData.tuple (l.map .int)) = true
  | [], _ => by simp [alikeAll]
  | _ :: _, [] => by simp [alikeAll]
  | x :: xs, y :: ys => by
    show alikeAll (.tuple (x.map .int) :: xs.map fun l => PyData.tuple (l.map .int)) (.tuple (y.map .int) :: ys.map fun l => PyData.tuple (l.map .int)) = true
    rw [alikeAll, alike_lots xs ys]
    simp [alike, alike_ints]
theorem depth_lots : ∀ b : List (List Int), PyData.depthAll (b.map fun l => PyData.tuple (l.map .int)) ≤ 1
  | [] => by simp [PyData.depthAll]
  | x :: xs => by
    show PyData.depthAll (.tuple (x.map .int) :: xs.map fun l => PyData.tuple (l.map .int)) ≤ 1
    rw [PyData.depthAll, PyData.depth, depth_ints]
    have := depth_lots xs
    omega
theorem okSort_boxes {bs : List Box} (hn : ∀ b ∈ bs, b ≠ []) : okSort (bs.map eB) := by
  refine ⟨pures_map (E := eB) (fun b => (pures_map (E := eI) (fun l => pures_int l) b : pures (b.map eI) = true)) bs, ?_, ?_, ?_⟩
  · rw [List.map_map]
    exact AllAlike.of fun b b' => by
      show alike (toP (eB b)) (toP (eB b')) = true
      rw [toP_eB, toP_eB]
      rw [alike, alike_lots]
  · refine .inl fun d hd => ?_
    obtain ⟨x, hx, rfl⟩ := List.mem_map.mp hd
    obtain ⟨b, hb, rfl⟩ := List.mem_map.mp hx
    cases b with
    | nil => exact absurd rfl (hn _ hb)
    | cons l b => rw [toP_eB]; exact ⟨_, _, rfl⟩
  · intro d hd
    obtain ⟨b, hb, rfl⟩ := List.mem_map.mp hd
    rw [toP_eB, PyData.depth]
    exact Nat.le_trans (Nat.add_le_add_right (depth_lots b) 1) (by decide)
end Mir
set_option Elab.async false
set_option linter.all false
set_option maxRecDepth 100000
set_option maxHeartbeats 1000000
/-! Filters, regions, notices: plain. -/
namespace Mir
open Dd K78
abbrev Fil := List (Bool × Box)
def lets (fl : Fil) (u : List Int) : Bool := fl.foldl (fun found p => if held p.2 u = true then p.1 else found) false
theorem lets_snoc (fl : Fil) (p : Bool × Box) (u : List Int) : lets (fl ++ [p]) u = if held p.2 u = true then p.1 else lets fl u := by
  unfold lets; rw [List.foldl_append]; rfl
structure VFil (form : List Int) (fl : Fil) : Prop where
  v : ∀ p ∈ fl, VBox form p.2
  l : fl.length ≤ 5
/-- forms of the law -/
structure Sm (form : List Int) : Prop where
  v : VForm form
  l4 : form.length ≤ 4
  m4 : ∀ m ∈ form, m ≤ 4
  p60 : prod form ≤ 60
theorem Sm.m0 {form : List Int} (h : Sm form) : ∀ m ∈ form, 0 ≤ m := fun m hm => by have := (h.v.m m hm).1; omega
theorem lots2 : (lots 2).length = 3 := by decide
theorem lots3 : (lots 3).length = 7 := by decide
theorem lots4 : (lots 4).length = 15 := by decide
theorem Sm.nB {form : List Int} (h : Sm form) : nB form ≤ 3000 := by
  have key : ∀ form : List Int, form.length ≤ 4 → (∀ m ∈ form, 2 ≤ m ∧ m ≤ 4) → prod form ≤ 60 → (form.map fun m => (lots m).length).foldr (· * ·) 1 ≤ 3000 := by
    intro form hl hm hp
    have c : ∀ m ∈ form, m = 2 ∨ m = 3 ∨ m = 4 := fun m h => by have := hm m h; omega
    match form, hl with
    | [], _ => decide
    | [a], _ =>
      rcases c a (by simp) with rfl | rfl | rfl <;> simp only [List.map, List.foldr, lots2, lots3, lots4] <;> decide
    | [a, b], _ =>
      rcases c a (by simp) with rfl | rfl | rfl <;> rcases c b (by simp) with rfl | rfl | rfl <;> simp only [List.map, List.foldr, lots2, lots3, lots4] <;> decide
    | [a, b, d], _ =>
      rcases c a (by simp) with rfl | rfl | rfl <;> rcases c b (by simp) with rfl | rfl | rfl <;> rcases c d (by simp) with rfl | rfl | rfl <;> simp only [List.map, List.foldr, lots2, lots3, lots4] <;> first | decide | (exfalso; revert hp; decide)
    | [a, b, d, e], _ =>
      rcases c a (by simp) with rfl | rfl | rfl <;> rcases c b (by simp) with rfl | rfl | rfl <;> rcases c d (by simp) with rfl | rfl | rfl <;> rcases c e (by simp) with rfl | rfl | rfl <;> simp only [List.map, List.foldr, lots2, lots3, lots4] <;> first | decide | (exfalso; revert hp; decide)
    | _ :: _ :: _ :: _ :: _ :: _, hl => simp at hl
  unfold Mir.nB
  rw [grid_len]
  exact key form h.l4 (fun m hm => ⟨(h.v.m m hm).1, h.m4 m hm⟩) h.p60
/-! ### cut out -/
def cutF (other : Box) (st : List Box × Box) (k : Nat) (l : List Int) : List Box × Box :=
  (if (l.filter fun v => !decide (v ∈ other.getD k [])) = [] then st.1 else st.1 ++ [withLot st.2 k (l.filter fun v => !decide (v ∈ other.getD k []))], withLot st.2 k (l.filter fun v => decide (v ∈ other.getD k [])))
def cutGo (other : Box) : Nat → List (List Int) → List Box × Box → List Box × Box
  | _, [], st => st
  | k, l :: r, st => cutGo other (k + 1) r (cutF other st k l)
def cutB (box other : Box) : List Box := if [] ∈ meet box other then [box] else (cutGo other 0 box ([], box)).1
structure CI (form : List Int) (box other : Box) (k : Nat) (st : List Box × Box) : Prop where
  len : st.2.length = box.length
  at_ : ∀ (j : Nat) l, box[j]? = some l → st.2[j]? = some (if j < k then l.filter (fun v => decide (v ∈ other.getD j [])) else l)
  ok : ∀ b ∈ st.1, VBox form b ∧ ∀ u : List Int, u.length = form.length → held b u = true → held box u = true ∧ held other u = false
  few : st.1.length ≤ k
theorem getD_of {α : Type} {xs : List α} {i : Nat} {x d : α} (h : xs[i]? = some x) : xs.getD i d = x := by rw [List.getD_eq_getElem?_getD, h]; rfl
theorem meet_at {a b : Box} {i : Nat} {l m : List Int} (ha : a[i]? = some l) (hb : b[i]? = some m) : (meet a b)[i]? = some (l.filter fun v => decide (v ∈ m)) := by
  rw [meet_get, zip_get ha hb]; rfl
theorem CI.step {form : List Int} {box other : Box} {k : Nat} {l : List Int} {st : List Box × Box} (hb : VBox form box) (ho : VBox form other) (hn : [] ∉ meet box other) (h : CI form box other k st) (hl : box[k]? = some l) : CI form box other (k + 1) (cutF other st k l) := by
  have hk : k < box.length := (List.getElem?_eq_some_iff.mp hl).1
  have hk2 : k < st.2.length := by rw [h.len]; exact hk
  have hkf : k < form.length := by rw [← hb.1]; exact hk
  have hom : other[k]? = some (other[k]'(by rw [ho.1]; exact hkf)) := List.getElem?_eq_getElem _
  have hog := getD_of (d := []) hom
  have cut_ne : ∀ (j : Nat) l, box[j]? = some l → l.filter (fun v => decide (v ∈ other.getD j [])) ≠ [] := fun j l hj z => by
    have hjf : j < other.length := by rw [ho.1, ← hb.1]; exact (List.getElem?_eq_some_iff.mp hj).1
    have e := List.getElem?_eq_getElem hjf
    have := meet_at hj e
    rw [getD_of (d := []) e] at z
    rw [z] at this
    exact hn (List.mem_of_getElem? this)
  refine ⟨?_, fun j m hj => ?_, fun b hbm => ?_, ?_⟩
  · show (withLot st.2 k _).length = _
    rw [withLot_len hk2, h.len]
  · show (withLot st.2 k _)[j]? = _
    rw [withLot_get hk2]
    by_cases e : j = k
    · subst e
      rw [hl] at hj; cases hj
      rw [if_pos rfl, if_pos (by omega)]
    · rw [if_neg e, h.at_ j m hj]
      by_cases e2 : j < k
      · rw [if_pos e2, if_pos (by omega)]
      · rw [if_neg e2, if_neg (by omega)]
  · have hbm : b ∈ (if (l.filter fun v => !decide (v ∈ other.getD k [])) = [] then st.1 else st.1 ++ [withLot st.2 k (l.filter fun v => !decide (v ∈ other.getD k []))]) := hbm
    split at hbm
    · exact h.ok b hbm
    · rename_i hne
      rcases List.mem_append.mp hbm with hbm | hbm
      · exact h.ok b hbm
      · rw [List.mem_singleton] at hbm
        subst hbm
        have lot : ∀ (j : Nat) m, box[j]? = some m → ∃ w, (withLot st.2 k (l.filter fun v => !decide (v ∈ other.getD k [])))[j]? = some w ∧ w ≠ [] ∧ w.Sublist m := fun j m hj => by
          rw [withLot_get hk2]
          by_cases e : j = k
          · subst e; rw [hl] at hj; cases hj
            rw [if_pos rfl]; exact ⟨_, rfl, hne, List.filter_sublist⟩
          · rw [if_neg e, h.at_ j m hj]
            by_cases e2 : j < k
            · rw [if_pos e2]; exact ⟨_, rfl, cut_ne j m hj, List.filter_sublist⟩
            · rw [if_neg e2]
              have hjf : j < form.length := by rw [← hb.1]; exact (List.getElem?_eq_some_iff.mp hj).1
              exact ⟨_, rfl, (hb.2 j _ m (List.getElem?_eq_getElem hjf) hj).ne, List.Sublist.refl _⟩
        have hlen : (withLot st.2 k (l.filter fun v => !decide (v ∈ other.getD k []))).length = box.length := by rw [withLot_len hk2, h.len]
        refine ⟨⟨by rw [hlen, hb.1], fun j m w hm hw => ?_⟩, fun u hu hh => ⟨?_, ?_⟩⟩
        · have hj : j < box.length := by rw [hb.1]; exact (List.getElem?_eq_some_iff.mp hm).1
          have g := List.getElem?_eq_getElem hj
          obtain ⟨w', e1, e2, e3⟩ := lot j _ g
          rw [hw] at e1; cases e1
          have hv := hb.2 j m _ hm g
          exact ⟨e2, hv.up.sublist e3, fun v hv' => hv.mem v (e3.subset hv')⟩
        · rw [held_iff] at hh ⊢
          intro j m v hm hv
          obtain ⟨w', e1, e2, e3⟩ := lot j m hm
          exact e3.subset (hh j w' v e1 hv)
        · cases q : held other u with
          | false => rfl
          | true =>
            rw [held_iff] at hh q
            have hu2 : u[k]? = some (u[k]'(by omega)) := List.getElem?_eq_getElem _
            have h1 := hh k (l.filter fun v => !decide (v ∈ other.getD k [])) _ (by rw [withLot_get hk2, if_pos rfl]) hu2
            have h2 := q k _ _ hom hu2
            rw [← hog] at h2
            have := (List.mem_filter.mp h1).2
            rw [decide_eq_true h2] at this
            cases this
  · have : (if (l.filter fun v => !decide (v ∈ other.getD k [])) = [] then st.1 else st.1 ++ [withLot st.2 k (l.filter fun v => !decide (v ∈ other.getD k []))]).length ≤ k + 1 := by
      have := h.few
      split
      · omega
      · rw [List.length_append, List.length_singleton]; omega
    exact this
theorem cutGo_ok {form : List Int} {box other : Box} (hb : VBox form box) (ho : VBox form other) (hn : [] ∉ meet box other) : ∀ (r : List (List Int)) (k : Nat) (st : List Box × Box), box.drop k = r → CI form box other k st → CI form box other (k + r.length) (cutGo other k r st)
  | [], k, st, _, h => h
  | l :: r, k, st, hr, h => by
    have hl : box[k]? = some l := by
      have : (box.drop k)[0]? = some l := by rw [hr]; rfl
      rwa [List.getElem?_drop, Nat.add_zero] at this
    have := cutGo_ok hb ho hn r (k + 1) (cutF other st k l) (by rw [← List.drop_drop, hr]; rfl) (h.step hb ho hn hl)
    rw [List.length_cons, show k + (r.length + 1) = k + 1 + r.length by omega]
    exact this
theorem CI.start {form : List Int} {box other : Box} : CI form box other 0 ([], box) :=
  ⟨rfl, fun j l hj => by rw [if_neg (Nat.not_lt_zero _)]; exact hj, (fun b hb => absurd hb List.not_mem_nil), Nat.le_refl _⟩
theorem cutB_ok {form : List Int} {box other : Box} (h1 : 1 ≤ form.length) (hb : VBox form box) (ho : VBox form other) :
    (∀ b ∈ cutB box other, VBox form b ∧ ∀ u : List Int, u.length = form.length → held b u = true → held box u = true ∧ held other u = false) ∧ (cutB box other).length ≤ form.length := by
  unfold cutB
  split
  · rename_i hn
    refine ⟨fun b hm => ?_, by simp; omega⟩
    rw [List.mem_singleton] at hm
    subst hm
    refine ⟨hb, fun u hu hh => ⟨hh, ?_⟩⟩
    obtain ⟨i, hi⟩ := List.getElem?_of_mem hn
    have hlt : i < b.length := by
      have := (List.getElem?_eq_some_iff.mp hi).1
      rw [meet_len (by rw [hb.1, ho.1])] at this
      exact this
    have g1 := List.getElem?_eq_getElem hlt
    have g2 : other[i]? = some (other[i]'(by rw [ho.1, ← hb.1]; exact hlt)) := List.getElem?_eq_getElem _
    have g3 : u[i]? = some (u[i]'(by rw [hu, ← hb.1]; exact hlt)) := List.getElem?_eq_getElem _
    rw [meet_at g1 g2] at hi
    have hi := Option.some.inj hi
    cases q : held other u with
    | false => rfl
    | true =>
      rw [held_iff] at hh q
      have this : u[i]'(by rw [hu, ← hb.1]; exact hlt) ∈ (b[i]'hlt).filter fun v => decide (v ∈ other[i]'(by rw [ho.1, ← hb.1]; exact hlt)) := List.mem_filter.mpr ⟨hh i _ _ g1 g3, decide_eq_true (q i _ _ g2 g3)⟩
      rw [hi] at this
      cases this
  · rename_i hn
    have h := cutGo_ok hb ho hn box 0 _ rfl (CI.start (form := form) (box := box) (other := other))
    rw [Nat.zero_add] at h
    exact ⟨h.ok, by rw [← hb.1]; exact h.few⟩
/-! ### regions -/
def regF (flag : Bool) (found : List Box) (p : Bool × Box) : List Box := if p.1 = flag then (found.flatMap fun o => cutB o p.2) ++ [p.2] else found.flatMap fun o => cutB o p.2
def reg0 (form : List Int) (flag : Bool) : List Box := if flag = true then [] else [form.map rng]
def region (form : List Int) (fl : Fil) (flag : Bool) : List Box := fl.foldl (regF flag) (reg0 form flag)
structure RI (form : List Int) (pre : Fil) (flag : Bool) (found : List Box) : Prop where
  v : ∀ b ∈ found, VBox form b
  s : ∀ b ∈ found, ∀ u : List Int, u.length = form.length → held b u = true → lets pre u = flag
  l : 3 * found.length + 1 ≤ 4 ^ (pre.length + 1)
theorem VBox.whole {form : List Int} (h : ∀ m ∈ form, 1 ≤ m) : VBox form (form.map rng) := ⟨List.length_map _, fun i m l hm hl => by
  rw [List.getElem?_map, hm] at hl
  cases hl
  exact VLot.ofRng (h m (List.mem_of_getElem? hm))⟩
theorem RI.start {form : List Int} {flag : Bool} (h : ∀ m ∈ form, 1 ≤ m) : RI form [] flag (reg0 form flag) := by
  unfold reg0
  cases flag with
  | true => exact ⟨(fun b hb => absurd hb List.not_mem_nil), (fun b hb => absurd hb List.not_mem_nil), Nat.le_of_ble_eq_true rfl⟩
  | false =>
    refine ⟨fun b hb => ?_, fun b hb u _ _ => rfl, Nat.le_of_ble_eq_true rfl⟩
    have : b = form.map rng := by simpa using hb
    rw [this]; exact VBox.whole h
theorem flatMap_len {α β : Type} {f : α → List β} {n : Nat} : ∀ {xs : List α}, (∀ x ∈ xs, (f x).length ≤ n) → (xs.flatMap f).length ≤ xs.length * n
  | [], _ => by simp
  | x :: xs, h => by
    rw [List.flatMap_cons, List.length_append, List.length_cons, Nat.add_mul, Nat.one_mul]
    have h1 := h x List.mem_cons_self
    have h2 := flatMap_len fun y hy => h y (List.mem_cons_of_mem x hy)
    omega
theorem RI.next {form : List Int} {pre : Fil} {flag : Bool} {found : List Box} {p : Bool × Box} (h : RI form pre flag found) (h1 : 1 ≤ form.length) (h4 : form.length ≤ 4) (hp : VBox form p.2) : RI form (pre ++ [p]) flag (regF flag found p) := by
  have cut : ∀ b ∈ found.flatMap (fun o => cutB o p.2), VBox form b ∧ ∀ u : List Int, u.length = form.length → held b u = true → lets (pre ++ [p]) u = flag := fun b hb => by
    obtain ⟨o, ho, hb⟩ := List.mem_flatMap.mp hb
    obtain ⟨c1, c2⟩ := (cutB_ok h1 (h.v o ho) hp).1 b hb
    refine ⟨c1, fun u hu hh => ?_⟩
    obtain ⟨d1, d2⟩ := c2 u hu hh
    rw [lets_snoc, d2]
    exact h.s o ho u hu d1
  have len : (found.flatMap fun o => cutB o p.2).length ≤ found.length * 4 := flatMap_len fun o ho => Nat.le_trans (cutB_ok h1 (h.v o ho) hp).2 h4
  have hl := h.l
  have e5 : 4 ^ ((pre ++ [p]).length + 1) = 4 * 4 ^ (pre.length + 1) := by rw [List.length_append, List.length_singleton, Nat.pow_succ 4 (pre.length + 1)]; omega
  unfold regF
  split
  · rename_i e
    refine ⟨fun b hb => ?_, fun b hb u hu hh => ?_, ?_⟩
    · rcases List.mem_append.mp hb with hb | hb
      · exact (cut b hb).1
      · rw [List.mem_singleton.mp hb]; exact hp
    · rcases List.mem_append.mp hb with hb | hb
      · exact (cut b hb).2 u hu hh
      · rw [List.mem_singleton.mp hb] at hh
        rw [lets_snoc, if_pos hh, e]
    · rw [e5, List.length_append, List.length_singleton]; omega
  · exact ⟨fun b hb => (cut b hb).1, fun b hb => (cut b hb).2, by rw [e5]; omega⟩
theorem region_ri {form : List Int} {flag : Bool} (h1 : 1 ≤ form.length) (h4 : form.length ≤ 4) (hm : ∀ m ∈ form, 1 ≤ m) : ∀ (fl pre : Fil) (found : List Box), RI form pre flag found → (∀ p ∈ fl, VBox form p.2) → RI form (pre ++ fl) flag (fl.foldl (regF flag) found)
  | [], pre, found, h, _ => by rw [List.append_nil]; exact h
  | p :: fl, pre, found, h, hv => by
    have := region_ri h1 h4 hm fl (pre ++ [p]) (regF flag found p) (h.next h1 h4 (hv p List.mem_cons_self)) fun q hq => hv q (List.mem_cons_of_mem _ hq)
    rw [List.append_assoc] at this
    exact this
theorem region_ok {form : List Int} {fl : Fil} {flag : Bool} (h : Sm form) (hf : VFil form fl) : RI form fl flag (region form fl flag) := by
  have := region_ri (flag := flag) h.v.l1 h.l4 (fun m hm => by have := (h.v.m m hm).1; omega) fl [] _ (RI.start fun m hm => by have := (h.v.m m hm).1; omega) hf.v
  exact this
theorem RI.few {form : List Int} {fl : Fil} {flag : Bool} {found : List Box} (h : RI form fl flag found) (hl : fl.length ≤ 5) : found.length ≤ 1365 := by
  have h1 : 4 ^ (fl.length + 1) ≤ 4 ^ 6 := Nat.pow_le_pow_right (by decide) (by omega)
  have := h.l
  have : (4 : Nat) ^ 6 = 4096 := by decide
  omega
/-- inside, outside: the boxes -/
noncomputable def bxf (form : List Int) (fl : Fil) (flag : Bool) : List Box := gbx form (region form fl flag)
/-- what the report's box has in common with them -/
noncomputable def metb (form : List Int) (fl : Fil) (r : Rep) (flag : Bool) : List Box := ((bxf form fl flag).map fun b => meet (repBox form r) b).filter fun b => !decide ([] ∈ b)
end Mir
set_option Elab.async false
set_option linter.all false
set_option maxRecDepth 100000
set_option maxHeartbeats 1000000
namespace K94
open PySem PySem.Spec PyProof.Rows L2 Dd Mir K78
theorem _root_.Mir.VBox.sz {form : List Int} {b : Box} (hf : VForm form) (hb : VBox form b) : b.length ≤ 8 ∧ ∀ l ∈ b, l.length ≤ 6 := by
  refine ⟨by rw [hb.1]; exact hf.l8, fun l hl => ?_⟩
  obtain ⟨i, hi⟩ := List.getElem?_of_mem hl
  have hlt : i < form.length := by rw [← hb.1]; exact (List.getElem?_eq_some_iff.mp hi).1
  have g := List.getElem?_eq_getElem hlt
  exact VLot.few (hb.2 i _ l g hi) (hf.m _ (List.mem_of_getElem? g)).2
theorem lies_i {a b : Box} {form : List Int} {S : Sto} {R : DQ} (hf : VForm form) (ha : VBox form a) (h : R (.bl (lies a b)) S) : c_lies [eB a, eB b] S R :=
  i_lies ⟨a, b, rfl, by have := (ha.sz hf).1; omega, fun l hl => by have := (ha.sz hf).2 l hl; omega, h⟩
theorem meeting_i {a b : Box} {form : List Int} {S : Sto} {R : DQ} (hf : VForm form) (ha : VBox form a) (h : R (meetN a b) S) : c_meeting [eB a, eB b] S R :=
  i_meeting ⟨a, b, rfl, by have := (ha.sz hf).1; omega, fun l hl => by have := (ha.sz hf).2 l hl; omega, h⟩
@[irreducible] def c_check_form : DC := fun ds S R => ∃ form, ds = [eI form] ∧ VForm form ∧ R .non S
theorem i_check_form {ds : List D} {S : Sto} {R : DQ} (h : ∃ form, ds = [eI form] ∧ VForm form ∧ R .non S) : c_check_form ds S R := by unfold c_check_form; exact h
theorem u_check_form {ds : List D} {S : Sto} {R : DQ} (h : c_check_form ds S R) : ∃ form, ds = [eI form] ∧ VForm form ∧ R .non S := by unfold c_check_form at h; exact h
def w_check_form : DS := (sIf (tNot' (asB (wCall c_is_form (aCons (wVar 0) aNil)))) sNever sNil)
theorem q_check_form : Qd w_check_form 1 c_check_form := by
  intro ds S R hc0
  obtain ⟨form, rfl, hf, h⟩ := u_check_form hc0
  exact i_is_form ⟨form, rfl, hf, Fin.now h⟩
@[irreducible] def c_check_box : DC := fun ds S R => ∃ form box, ds = [eI form, eB box] ∧ VForm form ∧ VBox form box ∧ R .non S
theorem i_check_box {ds : List D} {S : Sto} {R : DQ} (h : ∃ form box, ds = [eI form, eB box] ∧ VForm form ∧ VBox form box ∧ R .non S) : c_check_box ds S R := by unfold c_check_box; exact h
theorem u_check_box {ds : List D} {S : Sto} {R : DQ} (h : c_check_box ds S R) : ∃ form box, ds = [eI form, eB box] ∧ VForm form ∧ VBox form box ∧ R .non S := by unfold c_check_box at h; exact h
def w_check_box : DS := (sIf (tNot' (asB (wCall c_box_in (aCons (wVar 0) (aCons (wVar 1) aNil))))) sNever sNil)
theorem q_check_box : Qd w_check_box 2 c_check_box := by
  intro ds S R hc0
  obtain ⟨form, box, rfl, hf, hb, h⟩ := u_check_box hc0
  exact i_box_in ⟨form, box, rfl, hf, hb, Fin.now h⟩
@[irreducible] def c_whole_box : DC := fun ds S R => ∃ form, ds = [eI form] ∧ VForm form ∧ R (eB (form.map rng)) S
theorem i_whole_box {ds : List D} {S : Sto} {R : DQ} (h : ∃ form, ds = [eI form] ∧ VForm form ∧ R (eB (form.map rng)) S) : c_whole_box ds S R := by unfold c_whole_box; exact h
theorem u_whole_box {ds : List D} {S : Sto} {R : DQ} (h : c_whole_box ds S R) : ∃ form, ds = [eI form] ∧ VForm form ∧ R (eB (form.map rng)) S := by unfold c_whole_box at h; exact h
def w_whole_box : DS := (sRet (wCall dTuple (aCons (wLc (iSeq (wVar 0)) (gN 1) tYes' (wTupRg (rg1 (wVar 1))) [1]) aNil)))
theorem q_whole_box : Qd w_whole_box 2 c_whole_box := by
  intro ds S R hc0
  obtain ⟨form, rfl, hf, h⟩ := u_whole_box hc0
  have h8 := hf.l8
  refine lc_all form D.int (fun m => eI (rng m)) (sz (by omega)) (fun _ _ => trivial) ?_ ?_
  · intro m hm S' x Kt Kf k
    have := hf.m m hm
    refine ⟨⟨by omega, by omega, by omega, by omega, by omega⟩, ?_⟩
    rw [Int.sub_zero, rngD_rng]
    exact k
  · have e : form.map (fun m => eI (rng m)) = (form.map rng).map eI := by rw [List.map_map]; rfl
    rw [e]
    exact Fin.now h
@[irreducible] def c_box_of : DC := fun ds S R => ∃ form r, ds = [eI form, eR r] ∧ VForm form ∧ VRep form r ∧ R (eB (repBox form r)) S
theorem i_box_of {ds : List D} {S : Sto} {R : DQ} (h : ∃ form r, ds = [eI form, eR r] ∧ VForm form ∧ VRep form r ∧ R (eB (repBox form r)) S) : c_box_of ds S R := by unfold c_box_of; exact h
theorem u_box_of {ds : List D} {S : Sto} {R : DQ} (h : c_box_of ds S R) : ∃ form r, ds = [eI form, eR r] ∧ VForm form ∧ VRep form r ∧ R (eB (repBox form r)) S := by unfold c_box_of at h; exact h
def w_box_of : DS := (sSeq (sDrop (wCall c_check_form (aCons (wVar 0) aNil))) (sSeq (sDrop (wCall c_check_report (aCons (wVar 0) (aCons (wVar 1) aNil)))) (sRet (wCall c_report_box (aCons (wVar 0) (aCons (wVar 1) aNil))))))
theorem q_box_of : Qd w_box_of 2 c_box_of := by
  intro ds S R hc0
  obtain ⟨form, r, rfl, hf, hr, h⟩ := u_box_of hc0
  refine i_check_form ⟨form, rfl, hf, ?_⟩
  refine i_check_report ⟨form, r, rfl, hf, hr, ?_⟩
  have h8 := hf.l8
  exact i_report_box ⟨form, r, rfl, by have := hr.1; omega, fun m hm => by have := hf.m m hm; omega, Fin.now h⟩
@[irreducible] def c_within : DC := fun ds S R => ∃ form a b, ds = [eI form, eB a, eB b] ∧ VForm form ∧ VBox form a ∧ VBox form b ∧ R (.bl (lies a b)) S
theorem i_within {ds : List D} {S : Sto} {R : DQ} (h : ∃ form a b, ds = [eI form, eB a, eB b] ∧ VForm form ∧ VBox form a ∧ VBox form b ∧ R (.bl (lies a b)) S) : c_within ds S R := by unfold c_within; exact h
theorem u_within {ds : List D} {S : Sto} {R : DQ} (h : c_within ds S R) : ∃ form a b, ds = [eI form, eB a, eB b] ∧ VForm form ∧ VBox form a ∧ VBox form b ∧ R (.bl (lies a b)) S := by unfold c_within at h; exact h
def w_within : DS := (sSeq (sDrop (wCall c_check_form (aCons (wVar 0) aNil))) (sSeq (sDrop (wCall c_check_box (aCons (wVar 0) (aCons (wVar 1) aNil)))) (sSeq (sDrop (wCall c_check_box (aCons (wVar 0) (aCons (wVar 2) aNil)))) (sRet (wCall c_lies (aCons (wVar 1) (aCons (wVar 2) aNil)))))))
theorem q_within : Qd w_within 3 c_within := by
  intro ds S R hc0
  obtain ⟨form, a, b, rfl, hf, ha, hb, h⟩ := u_within hc0
  refine i_check_form ⟨form, rfl, hf, ?_⟩
  refine i_check_box ⟨form, a, rfl, hf, ha, ?_⟩
  refine i_check_box ⟨form, b, rfl, hf, hb, ?_⟩
  exact lies_i hf ha (Fin.now h)
@[irreducible] def c_common : DC := fun ds S R => ∃ form a b, ds = [eI form, eB a, eB b] ∧ VForm form ∧ VBox form a ∧ VBox form b ∧ R (meetN a b) S
theorem i_common {ds : List D} {S : Sto} {R : DQ} (h : ∃ form a b, ds = [eI form, eB a, eB b] ∧ VForm form ∧ VBox form a ∧ VBox form b ∧ R (meetN a b) S) : c_common ds S R := by unfold c_common; exact h
theorem u_common {ds : List D} {S : Sto} {R : DQ} (h : c_common ds S R) : ∃ form a b, ds = [eI form, eB a, eB b] ∧ VForm form ∧ VBox form a ∧ VBox form b ∧ R (meetN a b) S := by unfold c_common at h; exact h
def w_common : DS := (sSeq (sDrop (wCall c_check_form (aCons (wVar 0) aNil))) (sSeq (sDrop (wCall c_check_box (aCons (wVar 0) (aCons (wVar 1) aNil)))) (sSeq (sDrop (wCall c_check_box (aCons (wVar 0) (aCons (wVar 2) aNil)))) (sRet (wCall c_meeting (aCons (wVar 1) (aCons (wVar 2) aNil)))))))
theorem q_common : Qd w_common 3 c_common := by
  intro ds S R hc0
  obtain ⟨form, a, b, rfl, hf, ha, hb, h⟩ := u_common hc0
  refine i_check_form ⟨form, rfl, hf, ?_⟩
  refine i_check_box ⟨form, a, rfl, hf, ha, ?_⟩
  refine i_check_box ⟨form, b, rfl, hf, hb, ?_⟩
  exact meeting_i hf ha (Fin.now h)
abbrev rawO (form : List Int) (rules : List Box) : SO := .obj "RawBook" [("form", [eI form]), ("rules", [eRs rules]), ("listed", [.non])]
@[irreducible] def c_RawBook_dd__init_dd_ : DC := fun ds S R => ∃ a form rules, ds = [.loc a, eI form, eRs rules] ∧ S a = some (.obj "RawBook" []) ∧ R .non (put S a (rawO form rules))
theorem i_RawBook_dd__init_dd_ {ds : List D} {S : Sto} {R : DQ} (h : ∃ a form rules, ds = [.loc a, eI form, eRs rules] ∧ S a = some (.obj "RawBook" []) ∧ R .non (put S a (rawO form rules))) : c_RawBook_dd__init_dd_ ds S R := by unfold c_RawBook_dd__init_dd_; exact h
theorem u_RawBook_dd__init_dd_ {ds : List D} {S : Sto} {R : DQ} (h : c_RawBook_dd__init_dd_ ds S R) : ∃ a form rules, ds = [.loc a, eI form, eRs rules] ∧ S a = some (.obj "RawBook" []) ∧ R .non (put S a (rawO form rules)) := by unfold c_RawBook_dd__init_dd_ at h; exact h
def w_RawBook_dd__init_dd_ : DS := (sSeq (sAsg (wTup (aCons (wVar 1) (aCons (wVar 2) aNil))) (gT 2 (gCons' (gFld "RawBook" "form" (wVar 0)) (gCons' (gFld "RawBook" "rules" (wVar 0)) gNil')))) (sFld' "RawBook" "listed" (wVar 0) (wC .non)))
theorem q_RawBook_dd__init_dd_ : Qd w_RawBook_dd__init_dd_ 3 c_RawBook_dd__init_dd_ := by
  intro ds S R hc0
  obtain ⟨a, form, rules, rfl, hS, h⟩ := u_RawBook_dd__init_dd_ hc0
  refine ⟨sz (Nat.le_of_ble_eq_true rfl), rfl, ?_⟩
  refine dPutF_i hS (Nat.lt_of_sub_eq_succ rfl) ?_
  refine dPutF_i put_same (Nat.lt_of_sub_eq_succ rfl) ?_
  refine dPutF_i put_same (Nat.lt_of_sub_eq_succ rfl) ?_
  rw [put_put, put_put]
  exact Fin.now h
@[irreducible] def c_derived : DC := fun ds S R => ∃ a form rules steps boxes b, ds = [.loc a, eP steps] ∧ Bk S a form rules ∧ Val rules steps boxes ∧ boxes.getLast? = some b ∧ steps.length ≤ 1000 ∧ R (eB b) S
theorem i_derived {ds : List D} {S : Sto} {R : DQ} (h : ∃ a form rules steps boxes b, ds = [.loc a, eP steps] ∧ Bk S a form rules ∧ Val rules steps boxes ∧ boxes.getLast? = some b ∧ steps.length ≤ 1000 ∧ R (eB b) S) : c_derived ds S R := by unfold c_derived; exact h
theorem u_derived {ds : List D} {S : Sto} {R : DQ} (h : c_derived ds S R) : ∃ a form rules steps boxes b, ds = [.loc a, eP steps] ∧ Bk S a form rules ∧ Val rules steps boxes ∧ boxes.getLast? = some b ∧ steps.length ≤ 1000 ∧ R (eB b) S := by unfold c_derived at h; exact h
def w_derived : DS := (sSeq (sAsg (wCall c_box_derived (aCons (wVar 0) (aCons (wVar 1) aNil))) (gN 2)) (sSeq (sIf (asB (w2 dIsN (wVar 2) (wC .non))) sNever sNil) (sRet (wVar 2))))
theorem q_derived : Qd w_derived 3 c_derived := by
  intro ds S R hc0
  obtain ⟨a, form, rules, steps, boxes, b, rfl, bk, hv, hl, hz, h⟩ := u_derived hc0
  refine i_box_derived ⟨a, form, rules, bk, .inr (.inr ⟨steps, boxes, b, rfl, hv, hl, hz, ?_⟩)⟩
  exact Fin.now h
@[irreducible] def c_taken_in : DC := fun ds S R => ∃ form bs b, ds = [.lst (bs.map eB), eB b] ∧ VForm form ∧ (∀ x ∈ bs, VBox form x) ∧ VBox form b ∧ bs.length ≤ 4000 ∧ R (.lst ((takeIn bs b).map eB)) S
theorem i_taken_in {ds : List D} {S : Sto} {R : DQ} (h : ∃ form bs b, ds = [.lst (bs.map eB), eB b] ∧ VForm form ∧ (∀ x ∈ bs, VBox form x) ∧ VBox form b ∧ bs.length ≤ 4000 ∧ R (.lst ((takeIn bs b).map eB)) S) : c_taken_in ds S R := by unfold c_taken_in; exact h
theorem u_taken_in {ds : List D} {S : Sto} {R : DQ} (h : c_taken_in ds S R) : ∃ form bs b, ds = [.lst (bs.map eB), eB b] ∧ VForm form ∧ (∀ x ∈ bs, VBox form x) ∧ VBox form b ∧ bs.length ≤ 4000 ∧ R (.lst ((takeIn bs b).map eB)) S := by unfold c_taken_in at h; exact h
def w_taken_in : DS := (sSeq (sIf (asB (wCall dAny (aCons (wLc (iSeq (wVar 0)) (gN 2) tYes' (wCall c_lies (aCons (wVar 1) (aCons (wVar 2) aNil))) [2]) aNil))) (sRet (wVar 0)) sNil) (sRet (wAdd (wLc (iSeq (wVar 0)) (gN 2) (tNot' (asB (wCall c_lies (aCons (wVar 2) (aCons (wVar 1) aNil))))) (wVar 2) [2]) (wLst (aCons (wVar 1) aNil)))))
theorem q_taken_in : Qd w_taken_in 3 c_taken_in := by
  intro ds S R hc0
  obtain ⟨form, bs, b, rfl, hf, hbs, hb, hz, h⟩ := u_taken_in hc0
  refine lc_all bs eB (fun o => .bl (lies b o)) (sz (by omega)) (fun _ _ => trivial) ?_ ?_
  · intro o ho S' x Kt Kf k
    exact lies_i hf hb k
  · refine dAny_fn ?_
    cases hc : bs.any fun o => lies b o with
    | true =>
      have e : takeIn bs b = bs := by unfold takeIn; rw [if_pos hc]
      rw [e] at h
      exact Fin.now h
    | false =>
      have e : takeIn bs b = bs.filter (fun o => !lies o b) ++ [b] := by unfold takeIn; rw [if_neg (by rw [hc]; decide)]
      rw [e] at h
      refine lc_filter bs eB (fun o => !lies o b) eB (sz (by omega)) (fun _ _ => trivial) ?_ ?_
      · intro o ho S' x Kt Kf k
        refine lies_i hf (hbs o ho) ?_
        cases q : lies o b with
        | true => rw [q] at k; exact k
        | false => rw [q] at k; exact k
      · refine ⟨sz (Nat.le_of_ble_eq_true rfl), ?_, ?_⟩
        · rw [List.length_map]
          have := List.length_filter_le (fun o => !lies o b) bs
          exact sz (by show _ + 1 ≤ _; omega)
        · rw [List.map_append] at h
          exact Fin.now h
theorem ne_none {S : Sto} {a b : Addr} {o : SO} (h : S a = some o) (k : S b = none) : b ≠ a := fun z => by rw [z, h] at k; cases k
theorem put_none {S : Sto} {a b : Addr} {o : SO} (h : put S a o b = none) : b ≠ a ∧ S b = none := by
  by_cases e : b = a
  · subst e; rw [put_same] at h; cases h
  · rw [put_ne e] at h; exact ⟨e, h⟩
theorem news_snoc (f : Nat) (b : Box) (xs : List Box) (o : Box) : news f b (xs ++ [o]) = news f b xs ++ (newOf f b o).toList := by
  unfold news
  rw [List.filterMap_append]
  congr 1
theorem app_i {S : Sto} {a : Addr} {xs : List D} {y : D} {R : DQ} (h : S a = some (.lst xs)) (hz : xs.length < sizeLine) (k : R .non (put S a (.lst (xs ++ [y])))) : (∃ a' xs, D.loc a = .loc a' ∧ S a' = some (.lst xs)) ∧ dApp (.loc a) [y] S R :=
  ⟨⟨a, xs, rfl, h⟩, a, xs, y, rfl, rfl, h, hz, k⟩
@[irreducible] def c_joined_at : DC := fun ds S R => ∃ f : Nat, ∃ form bs, ds = [.int f, .lst (bs.map eB)] ∧ VForm form ∧ f < form.length ∧ nB form ≤ 4000 ∧ (∀ b ∈ bs, VBox form b) ∧ bs.length ≤ 4000 ∧ R (.lst ((ja f bs).map eB)) S
theorem i_joined_at {ds : List D} {S : Sto} {R : DQ} (h : ∃ f : Nat, ∃ form bs, ds = [.int f, .lst (bs.map eB)] ∧ VForm form ∧ f < form.length ∧ nB form ≤ 4000 ∧ (∀ b ∈ bs, VBox form b) ∧ bs.length ≤ 4000 ∧ R (.lst ((ja f bs).map eB)) S) : c_joined_at ds S R := by unfold c_joined_at; exact h
theorem u_joined_at {ds : List D} {S : Sto} {R : DQ} (h : c_joined_at ds S R) : ∃ f : Nat, ∃ form bs, ds = [.int f, .lst (bs.map eB)] ∧ VForm form ∧ f < form.length ∧ nB form ≤ 4000 ∧ (∀ b ∈ bs, VBox form b) ∧ bs.length ≤ 4000 ∧ R (.lst ((ja f bs).map eB)) S := by unfold c_joined_at at h; exact h
def w_joined_at : DS := (sSeq (sPar 2 3 (aCons (wCall dListN (aCons (wVar 1) aNil)) (aCons (wNew aNil) aNil))) (sSeq (sWhile (asB (w2 dGt (wCall dLen (aCons (wVar 2) aNil)) (wC (.int 0)))) (sSeq (sAsg (wPop (wVar 2)) (gN 4)) (sSeq (sIf (asB (wCall dAny (aCons (wLc (iSeq (wVar 3)) (gN 5) tYes' (wCall c_lies (aCons (wVar 4) (aCons (wVar 5) aNil))) [5]) aNil))) sCont sNil) (sSeq (sAsg (wLcN (iSeq (wVar 3)) (gN 5) (tNot' (asB (wCall c_lies (aCons (wVar 5) (aCons (wVar 4) aNil))))) (wVar 5) [5]) (gN 3)) (sSeq (sFor (iSeq (wVar 3)) (gN 5) (sSeq (sAsg (wCall c_joining (aCons (wVar 0) (aCons (wVar 4) (aCons (wVar 5) aNil)))) (gN 6)) (sIf (tAnd' (asB (w2 dNotN (wVar 6) (wC .non))) (tAnd' (tNot' (asB (wCall c_lies (aCons (wVar 6) (aCons (wVar 4) aNil))))) (tNot' (asB (wCall c_lies (aCons (wVar 6) (aCons (wVar 5) aNil))))))) (sDrop (wMt dApp (wVar 2) (aCons (wVar 6) aNil))) sNil))) (sDrop (wMt dApp (wVar 3) (aCons (wVar 4) aNil)))))))) (sRet (wVar 3))))
theorem q_joined_at : Qd w_joined_at 7 c_joined_at := by
  intro ds S R hc0
  obtain ⟨f, form, bs, rfl, hf, hfl, hB, hbs, hz, h⟩ := u_joined_at hc0
  have hm0 : ∀ m ∈ form, 0 ≤ m := fun m hm => by have := (hf.m m hm).1; omega
  obtain ⟨n0, hrun⟩ := ja_run hm0 hfl hbs hz
  generalize hr : ja f bs = r at hrun h
  intro p hp
  refine ⟨sz (Nat.zero_le _), fun q hq => ?_⟩
  obtain ⟨hqp, hq0⟩ := put_none hq
  refine ⟨fun m env S' => ∃ wp fp w fd x4 x5 x6, env = [some (.int (f : Int)), some (.lst (bs.map eB)), some (.loc wp), some (.loc fp), x4, x5, x6] ∧ wp ≠ fp ∧ S' wp = some (.lst (w.map eB)) ∧ S' fp = some (.lst (fd.map eB)) ∧ S wp = none ∧ S fp = none ∧ Ext S S' ∧ JI form w fd ∧ jrun f m w fd = some r, ⟨n0, p, q, bs, [], none, none, none, rfl, fun z => hqp z.symm, by rw [put_ne fun z => hqp z.symm]; exact put_same, put_same, hp, hq0, (Ext.put hp).trans (Ext.put hq), JI.start hbs hz, hrun⟩, ?_⟩
  rintro m env S' ⟨wp, fp, w, fd, x4, x5, x6, rfl, hne, hw, hfd, hwp, hfp, ext, ji, run⟩
  conv => whnf
  rw [seq_loc hw]
  have few := ji.few hm0
  have hmB : nB form * nB form ≤ 4000 * 4000 := Nat.mul_le_mul hB hB
  have hjm := ji.m
  have sl : sizeLine = 16777216 := sizeLine_eq
  rcases snoc_cases w with rfl | ⟨u, b, rfl⟩
  · rw [jrun_nil] at run
    cases run
    exact Fin.lst ext.wk hfd hfp h
  · obtain ⟨m', rfl⟩ : ∃ m', m = m' + 1 := by
      cases m with
      | zero => rw [jrun_zero] at run; cases run
      | succ m' => exact ⟨m', rfl⟩
    rw [jrun_snoc] at run
    show (match decide ((0 : Int) < (((u ++ [b]).map eB).length : Int)) with
      | true => _
      | false => _)
    rw [dT (by rw [List.length_map, List.length_append]; simp)]
    refine ⟨wp, u.map eB, eB b, rfl, by rw [hw, List.map_append]; rfl, ?_⟩
    have hb := ji.vw b (by simp)
    have hfd2 : (put S' wp (.lst (u.map eB))) fp = some (.lst (fd.map eB)) := by rw [put_ne fun z => hne z.symm]; exact hfd
    have ext2 : Ext S (put S' wp (.lst (u.map eB))) := Ext.put' ext hwp
    rw [List.length_append, List.length_singleton] at hjm
    conv => whnf
    rw [seq_loc hfd2]
    refine lc_all fd eB (fun o => .bl (lies b o)) (by omega) (fun _ x => x _ _ hfd2) ?_ ?_
    · intro o ho S2 x Kt Kf k
      exact lies_i hf hb k
    · refine dAny_fn ?_
      cases hc : fd.any fun o => lies b o with
      | true =>
        rw [if_pos hc] at run
        exact ⟨m', Nat.lt_succ_self _, wp, fp, u, fd, _, _, _, rfl, hne, put_same, hfd2, hwp, hfp, ext2, ji.skip, run⟩
      | false =>
        rw [if_neg (by rw [hc]; decide)] at run
        have ji2 := ji.go (f := f) hm0 hfl hc
        conv => whnf
        rw [seq_loc hfd2]
        refine lcN_filter fd eB (fun o => !lies o b) (by omega) (fun _ x => x _ _ hfd2) ?_ ?_
        · intro o ho S2 x Kt Kf k
          refine lies_i hf (ji.vf o ho) ?_
          cases q : lies o b with
          | true => rw [q] at k; exact k
          | false => rw [q] at k; exact k
        · intro T hT
          obtain ⟨hTw, hT1⟩ := put_none hT
          have hT0 : S T = none := by
            cases e : S T with
            | none => rfl
            | some o => rw [ext T o e] at hT1; cases hT1
          generalize hfd' : fd.filter (fun o => !lies o b) = fd' at ji2 run
          have few' : fd'.length ≤ fd.length := by rw [← hfd']; exact List.length_filter_le _ _
          conv => whnf
          rw [seq_loc put_same]
          refine for_by eB (fun rest env S2 => ∃ done x5 x6, fd' = done ++ rest ∧ env = [some (.int (f : Int)), some (.lst (bs.map eB)), some (.loc wp), some (.loc T), some (eB b), x5, x6] ∧ S2 = put (put S' T (.lst (fd'.map eB))) wp (.lst ((u ++ news f b done).map eB))) ?_ ?_ fd' _ _ ⟨[], _, _, rfl, rfl, ?_⟩
          · rintro env S2 ⟨done, y5, y6, hd, rfl, rfl⟩
            rw [List.append_nil] at hd
            subst hd
            have hT2 : (put (put S' T (.lst (fd'.map eB))) wp (.lst ((u ++ news f b fd').map eB))) T = some (.lst (fd'.map eB)) := by rw [put_ne hTw]; exact put_same
            refine ⟨hT2, ?_⟩
            refine ⟨⟨T, _, rfl, hT2⟩, T, _, _, rfl, rfl, hT2, by rw [List.length_map]; omega, ?_⟩
            refine ⟨m', Nat.lt_succ_self _, wp, T, u ++ news f b fd', fd' ++ [b], _, _, _, rfl, fun z => hTw z.symm, ?_, ?_, hwp, hT0, ?_, ji2, run⟩
            · rw [put_ne fun z => hTw z.symm]; exact put_same
            · rw [put_same, List.map_append]; rfl
            · exact Ext.put' (Ext.put' (Ext.put' ext hT0) hwp) hT0
          · rintro o rest env S2 N hN ⟨done, y5, y6, hd, rfl, rfl⟩
            have ho : o ∈ fd := by
              have : o ∈ fd' := by rw [hd]; simp
              rw [← hfd'] at this
              exact (List.mem_filter.mp this).1
            have hvo := ji.vf o ho
            have hT2 : (put (put S' T (.lst (fd'.map eB))) wp (.lst ((u ++ news f b done).map eB))) T = some (.lst (fd'.map eB)) := by rw [put_ne hTw]; exact put_same
            refine ⟨hT2, ?_⟩
            have hdl : done.length ≤ fd'.length := by rw [hd]; simp
            have hnl : (news f b done).length ≤ done.length := List.length_filterMap_le _ _
            have go : ∀ (z : Option Box) (y6 : Option D), newOf f b o = z → N [some (.int (f : Int)), some (.lst (bs.map eB)), some (.loc wp), some (.loc T), some (eB b), some (eB o), y6] (put (put S' T (.lst (fd'.map eB))) wp (.lst ((u ++ (news f b done ++ z.toList)).map eB))) := fun z y6 hz => by
              refine hN _ _ ⟨done ++ [o], _, _, by rw [hd]; simp, rfl, ?_⟩
              rw [news_snoc, hz]
            have no : ∀ (y6 : Option D), newOf f b o = none → N [some (.int (f : Int)), some (.lst (bs.map eB)), some (.loc wp), some (.loc T), some (eB b), some (eB o), y6] (put (put S' T (.lst (fd'.map eB))) wp (.lst ((u ++ news f b done).map eB))) := fun y6 hz => by
              have := go none y6 hz
              rwa [Option.toList_none, List.append_nil] at this
            refine i_joining ⟨f, b, o, rfl, by rw [hb.1, hvo.1], by rw [hb.1]; exact hfl, (hb.sz hf).1, (hb.sz hf).2, (hvo.sz hf).2, ?_⟩
            cases hj : joinB f b o with
            | none =>
              have e : newOf f b o = none := by unfold newOf; rw [hj]
              exact no _ e
            | some mm =>
              have hvm := VBox.join hb hvo hfl hj
              refine lies_i hf hvm ?_
              cases q1 : lies mm b with
              | true =>
                have e : newOf f b o = none := by unfold newOf; rw [hj]; simp [q1]
                exact no _ e
              | false =>
                refine lies_i hf hvm ?_
                cases q2 : lies mm o with
                | true =>
                  have e : newOf f b o = none := by unfold newOf; rw [hj]; simp [q1, q2]
                  exact no _ e
                | false =>
                  have e : newOf f b o = some mm := by unfold newOf; rw [hj]; simp [q1, q2]
                  have := go (some mm) (some (eB mm)) e
                  refine ⟨⟨wp, _, rfl, put_same⟩, wp, _, _, rfl, rfl, put_same, by rw [List.length_map, List.length_append]; omega, ?_⟩
                  rw [put_put]
                  rw [Option.toList_some, ← List.append_assoc, List.map_append] at this
                  exact this
          · rw [put_comm hTw]
            have : news f b [] = [] := rfl
            rw [this, List.append_nil]
@[irreducible] def c_greatest_boxes : DC := fun ds S R => ∃ a form rules, ds = [.loc a] ∧ S a = some (rawO form rules) ∧ VForm form ∧ (∀ b ∈ rules, VBox form b) ∧ rules.length ≤ 3900 ∧ nB form ≤ 4000 ∧ R (eRs (gbx form rules)) S
theorem i_greatest_boxes {ds : List D} {S : Sto} {R : DQ} (h : ∃ a form rules, ds = [.loc a] ∧ S a = some (rawO form rules) ∧ VForm form ∧ (∀ b ∈ rules, VBox form b) ∧ rules.length ≤ 3900 ∧ nB form ≤ 4000 ∧ R (eRs (gbx form rules)) S) : c_greatest_boxes ds S R := by unfold c_greatest_boxes; exact h
theorem u_greatest_boxes {ds : List D} {S : Sto} {R : DQ} (h : c_greatest_boxes ds S R) : ∃ a form rules, ds = [.loc a] ∧ S a = some (rawO form rules) ∧ VForm form ∧ (∀ b ∈ rules, VBox form b) ∧ rules.length ≤ 3900 ∧ nB form ≤ 4000 ∧ R (eRs (gbx form rules)) S := by unfold c_greatest_boxes at h; exact h
def w_greatest_boxes : DS := (sSeq (sAsg (wLst aNil) (gN 1)) (sSeq (sFor (iSeq (wFld "RawBook" "rules" (wVar 0))) (gN 2) (sAsg (wCall c_taken_in (aCons (wVar 1) (aCons (wVar 2) aNil))) (gN 1))) (sSeq (sFor (iR1 (aCons (wCall dLen (aCons (wFld "RawBook" "form" (wVar 0)) aNil)) aNil)) (gN 3) (sAsg (wCall c_joined_at (aCons (wVar 3) (aCons (wVar 1) aNil))) (gN 1))) (sRet (wCall dTuple (aCons (wCall dSortT (aCons (wVar 1) aNil)) aNil))))))
theorem raw_rules {S : Sto} {a : Addr} {form : List Int} {rules : List Box} {R : DQ} (h : S a = some (rawO form rules)) (k : R (eRs rules) S) : dFld "RawBook" "rules" (.loc a) S R := dFld_i h rfl fun x hx => by rw [List.mem_singleton] at hx; subst hx; exact k
theorem raw_form {S : Sto} {a : Addr} {form : List Int} {rules : List Box} {R : DQ} (h : S a = some (rawO form rules)) (k : R (eI form) S) : dFld "RawBook" "form" (.loc a) S R := dFld_i h rfl fun x hx => by rw [List.mem_singleton] at hx; subst hx; exact k
theorem q_greatest_boxes : Qd w_greatest_boxes 4 c_greatest_boxes := by
  intro ds S R hc0
  obtain ⟨a, form, rules, rfl, hS, hf, hr, hz, hB, h⟩ := u_greatest_boxes hc0
  have hm0 : ∀ m ∈ form, 0 ≤ m := fun m hm => by have := (hf.m m hm).1; omega
  refine ⟨sz (Nat.zero_le _), ?_⟩
  refine raw_rules hS ?_
  show forD _ _ _ _ (rules.map eB) _ S
  refine for_by eB (fun rest env S' => S' = S ∧ ∃ pre x2 x3, rules = pre ++ rest ∧ env = [some (.loc a), some (.lst ((pre.foldl takeIn []).map eB)), x2, x3]) ?_ ?_ rules _ _ ⟨rfl, [], _, _, rfl, rfl⟩
  · rintro env S' ⟨rfl, pre, x2, x3, hp, rfl⟩
    rw [List.append_nil] at hp
    subst hp
    refine ⟨trivial, ?_⟩
    refine raw_form hS ?_
    have h8 := hf.l8
    refine ⟨⟨by rw [List.length_map]; omega, by rw [List.length_map]; omega⟩, ?_⟩
    rw [Int.toNat_natCast, List.length_map]
    refine for_rng form.length (fun k env S2 => S2 = S' ∧ ∃ x2 x3, env = [some (.loc a), some (.lst (((List.range k).foldl (fun bs f => ja f bs) (rules.foldl takeIn [])).map eB)), x2, x3]) ?_ ?_ ⟨rfl, _, _, rfl⟩
    · rintro env S2 ⟨rfl, x2, x3, rfl⟩
      refine ⟨trivial, ?_⟩
      have gi := gbs_steps hm0 hr (by omega) hB form.length (Nat.le_refl _)
      have gb : (List.range form.length).foldl (fun bs f => ja f bs) (rules.foldl takeIn []) = gbs form rules := rfl
      rw [gb] at gi ⊢
      have nn : ∀ b ∈ gbs form rules, b ≠ [] := fun b hb z => by
        have := (gi.v b hb).1
        rw [z] at this
        have := hf.l1
        simp at *; omega
      show dSortT [.lst ((gbs form rules).map eB)] S2 _
      unfold dSortT
      refine ⟨_, _, rfl, rfl, (fun ys z => by cases z), okSort_boxes nn, ?_⟩
      rw [sortD_boxes]
      exact Fin.now h
    · rintro k env S2 N hk hN ⟨rfl, x2, x3, rfl⟩
      refine ⟨trivial, ?_⟩
      have gi := gbs_steps hm0 hr (by omega) hB k (by omega)
      refine i_joined_at ⟨k, form, _, rfl, hf, hk, hB, gi.v, gi.l, ?_⟩
      refine hN _ _ ⟨rfl, x2, some (.int (k : Int)), ?_⟩
      rw [List.range_succ, List.foldl_append]
      rfl
  · rintro b rest env S' N hN ⟨rfl, pre, x2, x3, hp, rfl⟩
    refine ⟨trivial, ?_⟩
    have hpl : pre.length ≤ rules.length := by rw [hp]; simp
    have hfl := fold_take_len pre []
    rw [List.length_nil] at hfl
    refine i_taken_in ⟨form, pre.foldl takeIn [], b, rfl, hf, fun x hx => ?_, hr b (by rw [hp]; simp), by omega, ?_⟩
    · rcases fold_take_mem hx with hx | hx
      · cases hx
      · exact hr x (by rw [hp]; exact List.mem_append_left _ hx)
    · refine hN _ _ ⟨rfl, pre ++ [b], some (eB b), x3, by rw [hp]; simp, ?_⟩
      rw [List.foldl_append]
      rfl
end K94
set_option Elab.async false
set_option linter.all false
set_option maxRecDepth 100000
set_option maxHeartbeats 1000000
namespace K94
open PySem PySem.Spec PyProof.Rows L2 Dd Mir K78
abbrev eFp (p : Bool × Box) : D := .tup [.bl p.1, eB p.2]
abbrev eF (fl : Fil) : D := .tup (fl.map eFp)
@[irreducible] def c_is_part_of : DC := fun ds S R => ∃ form p, ds = [eI form, eFp p] ∧ VForm form ∧ VBox form p.2 ∧ R (.bl true) S
theorem i_is_part_of {ds : List D} {S : Sto} {R : DQ} (h : ∃ form p, ds = [eI form, eFp p] ∧ VForm form ∧ VBox form p.2 ∧ R (.bl true) S) : c_is_part_of ds S R := by unfold c_is_part_of; exact h
theorem u_is_part_of {ds : List D} {S : Sto} {R : DQ} (h : c_is_part_of ds S R) : ∃ form p, ds = [eI form, eFp p] ∧ VForm form ∧ VBox form p.2 ∧ R (.bl true) S := by unfold c_is_part_of at h; exact h
def w_is_part_of : DS := (sRet (wAnd (wCall c_is_tuple (aCons (wVar 1) (aCons (wC (.int 2)) (aCons (wC (.int 2)) aNil)))) (wAnd (wIsi .bl (w2 dIx (wVar 1) (wC (.int 0)))) (wCall c_box_in (aCons (wVar 0) (aCons (w2 dIx (wVar 1) (wC (.int 1))) aNil))))))
theorem q_is_part_of : Qd w_is_part_of 2 c_is_part_of := by
  intro ds S R hc0
  obtain ⟨form, p, rfl, hf, hp, h⟩ := u_is_part_of hc0
  refine tuple_yes ⟨(by show (2 : Int) ≤ 2; decide), (by show (2 : Int) ≤ 2; decide)⟩ ?_
  refine dIx_at (d := eFp p) (i := 0) rfl rfl ?_
  refine dIx_at (d := eFp p) (i := 1) rfl rfl ?_
  exact i_box_in ⟨form, p.2, rfl, hf, hp, Fin.now h⟩
@[irreducible] def c_filter_in : DC := fun ds S R => ∃ form fl, ds = [eI form, eF fl] ∧ VForm form ∧ VFil form fl ∧ R (.bl true) S
theorem i_filter_in {ds : List D} {S : Sto} {R : DQ} (h : ∃ form fl, ds = [eI form, eF fl] ∧ VForm form ∧ VFil form fl ∧ R (.bl true) S) : c_filter_in ds S R := by unfold c_filter_in; exact h
theorem u_filter_in {ds : List D} {S : Sto} {R : DQ} (h : c_filter_in ds S R) : ∃ form fl, ds = [eI form, eF fl] ∧ VForm form ∧ VFil form fl ∧ R (.bl true) S := by unfold c_filter_in at h; exact h
def w_filter_in : DS := (sRet (wAnd (wCall c_is_tuple (aCons (wVar 1) (aCons (wC (.int 0)) (aCons (wC (.int 20)) aNil)))) (wCall dAll (aCons (wLc (iSeq (wVar 1)) (gN 2) tYes' (wCall c_is_part_of (aCons (wVar 0) (aCons (wVar 2) aNil))) [2]) aNil))))
theorem q_filter_in : Qd w_filter_in 3 c_filter_in := by
  intro ds S R hc0
  obtain ⟨form, fl, rfl, hf, hv, h⟩ := u_filter_in hc0
  have hl := hv.l
  refine tuple_yes ⟨?_, ?_⟩ ?_
  · exact Int.natCast_nonneg _
  · rw [List.length_map]; omega
  refine lc_flag (xs := fl) true (by omega) (fun _ _ => trivial) ?_ ?_
  · intro p hp S' x Kt Kf k
    exact i_is_part_of ⟨form, p, rfl, hf, hv.v p hp, k⟩
  · exact dAll_true (Fin.now h)
@[irreducible] def c_check_filter : DC := fun ds S R => ∃ form fl, ds = [eI form, eF fl] ∧ VForm form ∧ VFil form fl ∧ R .non S
theorem i_check_filter {ds : List D} {S : Sto} {R : DQ} (h : ∃ form fl, ds = [eI form, eF fl] ∧ VForm form ∧ VFil form fl ∧ R .non S) : c_check_filter ds S R := by unfold c_check_filter; exact h
theorem u_check_filter {ds : List D} {S : Sto} {R : DQ} (h : c_check_filter ds S R) : ∃ form fl, ds = [eI form, eF fl] ∧ VForm form ∧ VFil form fl ∧ R .non S := by unfold c_check_filter at h; exact h
def w_check_filter : DS := (sIf (tNot' (asB (wCall c_filter_in (aCons (wVar 0) (aCons (wVar 1) aNil))))) sNever sNil)
theorem q_check_filter : Qd w_check_filter 2 c_check_filter := by
  intro ds S R hc0
  obtain ⟨form, fl, rfl, hf, hv, h⟩ := u_check_filter hc0
  exact i_filter_in ⟨form, fl, rfl, hf, hv, Fin.now h⟩
@[irreducible] def c_lets : DC := fun ds S R => ∃ form fl u, ds = [eF fl, eI u] ∧ VForm form ∧ VFil form fl ∧ R (.bl (lets fl u)) S
theorem i_lets {ds : List D} {S : Sto} {R : DQ} (h : ∃ form fl u, ds = [eF fl, eI u] ∧ VForm form ∧ VFil form fl ∧ R (.bl (lets fl u)) S) : c_lets ds S R := by unfold c_lets; exact h
theorem u_lets {ds : List D} {S : Sto} {R : DQ} (h : c_lets ds S R) : ∃ form fl u, ds = [eF fl, eI u] ∧ VForm form ∧ VFil form fl ∧ R (.bl (lets fl u)) S := by unfold c_lets at h; exact h
def w_lets : DS := (sSeq (sAsg (wC (.bl false)) (gN 2)) (sSeq (sFor (iSeq (wVar 0)) (gT 2 (gCons' (gN 3) (gCons' (gN 4) gNil'))) (sIf (asB (wCall c_held (aCons (wVar 4) (aCons (wVar 1) aNil)))) (sAsg (wVar 3) (gN 2)) sNil)) (sRet (wVar 2))))
theorem q_lets : Qd w_lets 5 c_lets := by
  intro ds S R hc0
  obtain ⟨form, fl, u, rfl, hf, hv, h⟩ := u_lets hc0
  show forD _ _ _ _ (fl.map eFp) _ S
  refine for_by eFp (fun rest env S' => S' = S ∧ ∃ pre x3 x4, fl = pre ++ rest ∧ env = [some (eF fl), some (eI u), some (.bl (lets pre u)), x3, x4]) ?_ ?_ fl _ _ ⟨rfl, [], _, _, rfl, rfl⟩
  · rintro env S' ⟨rfl, pre, x3, x4, hp, rfl⟩
    rw [List.append_nil] at hp
    subst hp
    exact ⟨trivial, Fin.now h⟩
  · rintro p rest env S' N hN ⟨rfl, pre, x3, x4, hp, rfl⟩
    refine ⟨trivial, rfl, ?_⟩
    have hm : p ∈ fl := by rw [hp]; simp
    refine i_held ⟨p.2, u, rfl, by have := ((hv.v p hm).sz hf).1; omega, ?_⟩
    cases q : held p.2 u with
    | true =>
      refine hN _ _ ⟨rfl, pre ++ [p], some (.bl p.1), some (eB p.2), by rw [hp]; simp, ?_⟩
      rw [lets_snoc, if_pos q]; rfl
    | false =>
      refine hN _ _ ⟨rfl, pre ++ [p], some (.bl p.1), some (eB p.2), by rw [hp]; simp, ?_⟩
      rw [lets_snoc, if_neg (by rw [q]; decide)]; rfl
theorem notin_i {l : List Int} {v : Int} {S : Sto} {R : DQ} (h : R (.bl (!decide (v ∈ l))) S) : dNotIn (.int v) (eI l) S R := dNotIn_fn (E := D.int) (n := 0) eq_int (fun i => .int i) (by decide) (xs := l) rfl h
theorem in_i {l : List Int} {v : Int} {S : Sto} {R : DQ} (h : R (.bl (decide (v ∈ l))) S) : dIn (.int v) (eI l) S R := dIn_fn (E := D.int) (n := 0) eq_int (fun i => .int i) (by decide) (xs := l) rfl h
@[irreducible] def c_cut_out : DC := fun ds S R => ∃ form box other, ds = [eB box, eB other] ∧ VForm form ∧ VBox form box ∧ VBox form other ∧ R (.lst ((cutB box other).map eB)) S
theorem i_cut_out {ds : List D} {S : Sto} {R : DQ} (h : ∃ form box other, ds = [eB box, eB other] ∧ VForm form ∧ VBox form box ∧ VBox form other ∧ R (.lst ((cutB box other).map eB)) S) : c_cut_out ds S R := by unfold c_cut_out; exact h
theorem u_cut_out {ds : List D} {S : Sto} {R : DQ} (h : c_cut_out ds S R) : ∃ form box other, ds = [eB box, eB other] ∧ VForm form ∧ VBox form box ∧ VBox form other ∧ R (.lst ((cutB box other).map eB)) S := by unfold c_cut_out at h; exact h
def w_cut_out : DS := (sSeq (sIf (asB (w2 dIsN (wCall c_meeting (aCons (wVar 0) (aCons (wVar 1) aNil))) (wC .non))) (sRet (wLst (aCons (wVar 0) aNil))) sNil) (sSeq (sAsg (wNew aNil) (gN 2)) (sSeq (sFor (iEnum' (aCons (wVar 0) aNil)) (gT 2 (gCons' (gN 3) (gCons' (gN 4) gNil'))) (sSeq (sAsg (wCall dTuple (aCons (wLc (iSeq (wVar 4)) (gN 6) (asB (w2 dNotIn (wVar 6) (w2 dIx (wVar 1) (wVar 3)))) (wVar 6) [6]) aNil)) (gN 5)) (sSeq (sIf (asB (w2 dGt (wCall dLen (aCons (wVar 5) aNil)) (wC (.int 0)))) (sDrop (wMt dApp (wVar 2) (aCons (wCall c_with_lot (aCons (wVar 0) (aCons (wVar 3) (aCons (wVar 5) aNil)))) aNil))) sNil) (sAsg (wCall c_with_lot (aCons (wVar 0) (aCons (wVar 3) (aCons (wCall dTuple (aCons (wLc (iSeq (wVar 4)) (gN 6) (asB (w2 dIn (wVar 6) (w2 dIx (wVar 1) (wVar 3)))) (wVar 6) [6]) aNil)) aNil)))) (gN 0))))) (sRet (wVar 2)))))
theorem q_cut_out : Qd w_cut_out 7 c_cut_out := by
  intro ds S R hc0
  obtain ⟨form, box, other, rfl, hf, hb, ho, h⟩ := u_cut_out hc0
  have h8 := hf.l8
  have hbl := hb.1
  have hol := ho.1
  refine meeting_i hf hb ?_
  unfold meetN
  by_cases e : [] ∈ meet box other
  · rw [if_pos e]
    have e2 : cutB box other = [box] := by unfold cutB; rw [if_pos e]
    rw [e2] at h
    exact ⟨sz (Nat.le_of_ble_eq_true rfl), Fin.now h⟩
  · rw [if_neg e]
    have e2 : cutB box other = (cutGo other 0 box ([], box)).1 := by unfold cutB; rw [if_neg e]
    rw [e2] at h
    refine ⟨sz (Nat.zero_le _), fun q hq => ?_⟩
    refine ⟨trivial, ?_⟩
    refine for_enum eI box (fun k env S' => ∃ st x3 x4 x5 x6, env = [some (eB st.2), some (eB other), some (.loc q), x3, x4, x5, x6] ∧ S' = put S q (.lst (st.1.map eB)) ∧ cutGo other k (box.drop k) st = cutGo other 0 box ([], box) ∧ st.2.length = box.length ∧ st.1.length ≤ k) ?_ ?_ ⟨([], box), _, _, _, _, rfl, rfl, rfl, rfl, Nat.le_refl _⟩
    · rintro env S' ⟨st, x3, x4, x5, x6, rfl, rfl, hg, _, _⟩
      rw [List.drop_length] at hg
      refine ⟨trivial, ?_⟩
      rw [← hg] at h
      exact Fin.lst (Wk.put hq) put_same hq h
    · rintro k l env S' N hl hN ⟨st, x3, x4, x5, x6, rfl, rfl, hg, hs2, hs1⟩
      have hk : k < box.length := (List.getElem?_eq_some_iff.mp hl).1
      have hll : l.length ≤ 6 := (hb.sz hf).2 l (List.mem_of_getElem? hl)
      refine ⟨trivial, rfl, ?_⟩
      have gm : (other.map eI)[k]? = some (eI (other.getD k [])) := by
        rw [List.getElem?_map, List.getD_eq_getElem?_getD]
        rw [List.getElem?_eq_getElem (by omega)]; rfl
      have hd : box.drop k = l :: box.drop (k + 1) := drop_at hl
      rw [hd] at hg
      have nxt := hN
      refine lc_filter l D.int (fun v => !decide (v ∈ other.getD k [])) D.int (sz (by omega)) (fun _ _ => trivial) ?_ ?_
      · intro v hv S2 x Kt Kf kk
        refine dIx_nat (d := eB other) (i := k) rfl gm ?_
        refine notin_i ?_
        cases q1 : decide (v ∈ other.getD k []) with
        | true => rw [q1] at kk; exact kk
        | false => rw [q1] at kk; exact kk
      · -- the rest of the turn
        have tail : ∀ (fd : List Box) (x5 : Option D), fd.length ≤ k + 1 → (cutF other st k l).1 = fd → (sAsg (wCall c_with_lot (aCons (wVar 0) (aCons (wVar 3) (aCons (wCall dTuple (aCons (wLc (iSeq (wVar 4)) (gN 6) (asB (w2 dIn (wVar 6) (w2 dIx (wVar 1) (wVar 3)))) (wVar 6) [6]) aNil)) aNil)))) (gN 0)) { nx := N, rt := Dd.Fin R, bk := fun e s => sRet (wVar 2) { nx := fun x S' => Dd.Fin R D.non S', rt := Dd.Fin R } e s, ct := N } [some (eB st.2), some (eB other), some (.loc q), some (.int (k : Int)), some (eI l), x5, x6] (put S q (.lst (fd.map eB))) := fun fd x5 hfd hfe => by
          refine lc_filter l D.int (fun v => decide (v ∈ other.getD k [])) D.int (sz (by omega)) (fun _ _ => trivial) ?_ ?_
          · intro v hv S2 x Kt Kf kk
            refine dIx_nat (d := eB other) (i := k) rfl gm ?_
            refine in_i ?_
            cases q1 : decide (v ∈ other.getD k []) with
            | true => rw [q1] at kk; exact kk
            | false => rw [q1] at kk; exact kk
          · refine i_with_lot ⟨st.2, l.filter fun v => decide (v ∈ other.getD k []), k, rfl, by rw [hs2]; exact hk, by rw [hs2, hbl]; omega, ?_⟩
            refine hN _ _ ⟨cutF other st k l, _, _, x5, x6, rfl, by rw [hfe], hg, ?_, by rw [hfe]; exact hfd⟩
            show (withLot st.2 k _).length = _
            rw [withLot_len (by rw [hs2]; exact hk), hs2]
        show (match decide ((0 : Int) < (((l.filter fun v => !decide (v ∈ other.getD k [])).map D.int).length : Int)) with
          | true => _
          | false => _)
        by_cases z : l.filter (fun v => !decide (v ∈ other.getD k [])) = []
        · rw [dF (by rw [z]; decide)]
          refine tail st.1 _ (by omega) ?_
          show (if _ then st.1 else _) = _
          rw [if_pos z]
        · rw [dT (by rw [List.length_map]; have := List.length_pos_iff.mpr z; omega)]
          refine ⟨⟨q, _, rfl, put_same⟩, ?_⟩
          refine i_with_lot ⟨st.2, l.filter fun v => !decide (v ∈ other.getD k []), k, rfl, by rw [hs2]; exact hk, by rw [hs2, hbl]; omega, ?_⟩
          refine ⟨q, _, _, rfl, rfl, put_same, szl (by rw [List.length_map]; omega), ?_⟩
          rw [put_put]
          have := tail (st.1 ++ [withLot st.2 k (l.filter fun v => !decide (v ∈ other.getD k []))]) (some (eI (l.filter fun v => !decide (v ∈ other.getD k [])))) (by rw [List.length_append, List.length_singleton]; omega) (by
            show (if _ then st.1 else _) = _
            rw [if_neg z])
          rw [List.map_append] at this
          exact this
theorem eq_bl (a b : Bool) : eqD (.bl a) (.bl b) = decide (a = b) := by cases a <;> cases b <;> rfl
theorem dEq_bl {a b : Bool} {S : Sto} {R : DQ} (h : R (.bl (decide (a = b))) S) : dEq (.bl a) (.bl b) S R := dEq_i rfl rfl (by rw [eq_bl]; exact h)
theorem dNe_bl {a b : Bool} {S : Sto} {R : DQ} (h : R (.bl (!decide (a = b))) S) : dNe (.bl a) (.bl b) S R := dNe_i rfl rfl (by rw [eq_bl]; exact h)
@[irreducible] def c_region : DC := fun ds S R => ∃ form fl flag, ds = [eI form, eF fl, .bl flag] ∧ Sm form ∧ VFil form fl ∧ R (.lst ((region form fl flag).map eB)) S
theorem i_region {ds : List D} {S : Sto} {R : DQ} (h : ∃ form fl flag, ds = [eI form, eF fl, .bl flag] ∧ Sm form ∧ VFil form fl ∧ R (.lst ((region form fl flag).map eB)) S) : c_region ds S R := by unfold c_region; exact h
theorem u_region {ds : List D} {S : Sto} {R : DQ} (h : c_region ds S R) : ∃ form fl flag, ds = [eI form, eF fl, .bl flag] ∧ Sm form ∧ VFil form fl ∧ R (.lst ((region form fl flag).map eB)) S := by unfold c_region at h; exact h
def w_region : DS := (sSeq (sAsg (wIf (asB (wVar 2)) (wLst aNil) (wLst (aCons (wCall c_whole_box (aCons (wVar 0) aNil)) aNil))) (gN 3)) (sSeq (sFor (iSeq (wVar 1)) (gT 2 (gCons' (gN 4) (gCons' (gN 5) gNil'))) (sSeq (sAsg (wNew aNil) (gN 6)) (sSeq (sFor (iSeq (wVar 3)) (gN 7) (sDrop (wMt dExt (wVar 6) (aCons (wCall c_cut_out (aCons (wVar 7) (aCons (wVar 5) aNil))) aNil)))) (sAsg (wIf (asB (w2 dEq (wVar 4) (wVar 2))) (w2 dCatL (wVar 6) (wLst (aCons (wVar 5) aNil))) (wVar 6)) (gN 3))))) (sRet (wVar 3))))
theorem q_region : Qd w_region 8 c_region := by
  intro ds S R hc0
  obtain ⟨form, fl, flag, rfl, hs, hv, h⟩ := u_region hc0
  have hf := hs.v
  -- the loop
  have main : ∀ x3, x3 = D.lst ((reg0 form flag).map eB) → (sSeq (sFor (iSeq (wVar 1)) (gT 2 (gCons' (gN 4) (gCons' (gN 5) gNil'))) (sSeq (sAsg (wNew aNil) (gN 6)) (sSeq (sFor (iSeq (wVar 3)) (gN 7) (sDrop (wMt dExt (wVar 6) (aCons (wCall c_cut_out (aCons (wVar 7) (aCons (wVar 5) aNil))) aNil)))) (sAsg (wIf (asB (w2 dEq (wVar 4) (wVar 2))) (w2 dCatL (wVar 6) (wLst (aCons (wVar 5) aNil))) (wVar 6)) (gN 3))))) (sRet (wVar 3))) { nx := fun _ S' => Dd.Fin R .non S', rt := Dd.Fin R } [some (eI form), some (eF fl), some (.bl flag), some x3, none, none, none, none] S := fun x3 hx3 => by
    show forD _ _ _ _ (fl.map eFp) _ S
    refine for_by eFp (fun rest env S' => ∃ pre d fd x4 x5 x6 x7, fl = pre ++ rest ∧ env = [some (eI form), some (eF fl), some (.bl flag), some d, x4, x5, x6, x7] ∧ Ext S S' ∧ fd = pre.foldl (regF flag) (reg0 form flag) ∧ (d = .lst (fd.map eB) ∨ ∃ a, d = .loc a ∧ S a = none ∧ S' a = some (.lst (fd.map eB)))) ?_ ?_ fl _ _ ⟨[], x3, _, _, _, _, _, rfl, rfl, Ext.refl, rfl, .inl hx3⟩
    · rintro env S' ⟨pre, d, fd, x4, x5, x6, x7, hp, rfl, ext, hfd, hd⟩
      rw [List.append_nil] at hp
      subst hp
      refine ⟨trivial, ?_⟩
      have e : fd = region form fl flag := hfd
      rw [← e] at h
      rcases hd with rfl | ⟨a, rfl, ha, ha'⟩
      · exact Fin.to ext.wk h
      · exact Fin.lst ext.wk ha' ha h
    · rintro p rest env S' N hN ⟨pre, d, fd, x4, x5, x6, x7, hp, rfl, ext, hfd, hd⟩
      have hm : p ∈ fl := by rw [hp]; simp
      have hvp := hv.v p hm
      have ri : RI form pre flag fd := by
        have := region_ri (flag := flag) hf.l1 hs.l4 (fun m hm => by have := (hf.m m hm).1; omega) pre [] _ (RI.start fun m hm => by have := (hf.m m hm).1; omega) fun q hq => hv.v q (by rw [hp]; exact List.mem_append_left _ hq)
        rw [hfd]; exact this
      have hpl : pre.length ≤ 5 := by have := hv.l; rw [hp] at this; rw [List.length_append] at this; omega
      have few := ri.few hpl
      refine ⟨trivial, rfl, ?_⟩
      refine ⟨sz (Nat.zero_le _), fun q hq => ?_⟩
      have hq0 : S q = none := by
        cases e : S q with
        | none => rfl
        | some o => rw [ext q o e] at hq; cases hq
      have exq : ∀ o, Ext S (put S' q o) := fun o => Ext.put' ext hq0
      have hseq : ∀ o, seqOf d (put S' q o) = some (fd.map eB) := fun o => by
        rcases hd with rfl | ⟨a, rfl, ha, ha'⟩
        · rfl
        · exact seq_loc (by rw [put_ne fun z => by rw [z, hq] at ha'; cases ha']; exact ha')
      have hgd : ∀ o, gdOf d (fd.map eB) (put S' q o) := fun o => by
        rcases hd with rfl | ⟨a, rfl, ha, ha'⟩
        · trivial
        · show put S' q o a = _
          rw [put_ne fun z => by rw [z, hq] at ha'; cases ha']
          exact ha'
      conv => whnf
      rw [hseq]
      refine for_by eB (fun rest env S2 => ∃ done x7, fd = done ++ rest ∧ env = [some (eI form), some (eF fl), some (.bl flag), some d, some (.bl p.1), some (eB p.2), some (.loc q), x7] ∧ S2 = put S' q (.lst ((done.flatMap fun o => cutB o p.2).map eB))) ?_ ?_ fd _ _ ⟨[], x7, rfl, rfl, rfl⟩
      · rintro env S2 ⟨done, y7, hdn, rfl, rfl⟩
        rw [List.append_nil] at hdn
        subst hdn
        refine ⟨hgd _, ?_⟩
        refine dEq_bl ?_
        have hlen : (fd.flatMap fun o => cutB o p.2).length ≤ fd.length * 4 := flatMap_len fun o ho => Nat.le_trans (cutB_ok hf.l1 (ri.v o ho) hvp).2 hs.l4
        by_cases e : p.1 = flag
        · rw [dT e]
          refine ⟨sz (Nat.le_of_ble_eq_true rfl), ?_⟩
          refine dCatL_i (d := .loc q) (e := .lst [eB p.2]) (xs := (fd.flatMap fun o => cutB o p.2).map eB) (ys := [eB p.2]) ?_ rfl ?_ ?_
          · show (match put S' q _ q with
              | some (.lst xs) => some xs
              | _ => none) = _
            rw [put_same]
          · rw [List.length_map]; exact sz (by show _ + 1 ≤ _; omega)
          · refine hN _ _ ⟨pre ++ [p], _, regF flag fd p, _, _, _, _, by rw [hp]; simp, rfl, exq _, by rw [List.foldl_append, ← hfd]; rfl, .inl ?_⟩
            unfold regF
            rw [if_pos e, List.map_append]; rfl
        · rw [dF e]
          refine hN _ _ ⟨pre ++ [p], .loc q, regF flag fd p, _, _, _, _, by rw [hp]; simp, rfl, exq _, by rw [List.foldl_append, ← hfd]; rfl, .inr ⟨q, rfl, hq0, ?_⟩⟩
          unfold regF
          rw [if_neg e, put_same]
      · rintro o rest2 env S2 N2 hN2 ⟨done, y7, hdn, rfl, rfl⟩
        refine ⟨hgd _, ?_⟩
        have ho : o ∈ fd := by rw [hdn]; simp
        refine ⟨⟨q, _, rfl, put_same⟩, ?_⟩
        refine i_cut_out ⟨form, o, p.2, rfl, hf, ri.v o ho, hvp, ?_⟩
        have hdl : done.length ≤ fd.length := by rw [hdn]; simp
        have hlen : (done.flatMap fun o => cutB o p.2).length ≤ done.length * 4 := flatMap_len fun o ho => Nat.le_trans (cutB_ok hf.l1 (ri.v o (by rw [hdn]; exact List.mem_append_left _ ho)) hvp).2 hs.l4
        have hlo := (cutB_ok hf.l1 (ri.v o ho) hvp).2
        have h4 := hs.l4
        refine ⟨q, _, _, rfl, rfl, put_same, sz (by rw [List.length_map, List.length_map]; omega), ?_⟩
        rw [put_put]
        refine hN2 _ _ ⟨done ++ [o], _, by rw [hdn]; simp, rfl, ?_⟩
        rw [List.flatMap_append, List.map_append]
        simp
  cases flag with
  | true => exact ⟨sz (Nat.zero_le _), main _ rfl⟩
  | false =>
    refine i_whole_box ⟨form, rfl, hf, ?_⟩
    exact ⟨sz (Nat.le_of_ble_eq_true rfl), main _ rfl⟩
@[irreducible] def c_boxes_for : DC := fun ds S R => ∃ form fl flag, ds = [eI form, eF fl, .bl flag] ∧ Sm form ∧ VFil form fl ∧ R (eRs (bxf form fl flag)) S
theorem i_boxes_for {ds : List D} {S : Sto} {R : DQ} (h : ∃ form fl flag, ds = [eI form, eF fl, .bl flag] ∧ Sm form ∧ VFil form fl ∧ R (eRs (bxf form fl flag)) S) : c_boxes_for ds S R := by unfold c_boxes_for; exact h
theorem u_boxes_for {ds : List D} {S : Sto} {R : DQ} (h : c_boxes_for ds S R) : ∃ form fl flag, ds = [eI form, eF fl, .bl flag] ∧ Sm form ∧ VFil form fl ∧ R (eRs (bxf form fl flag)) S := by unfold c_boxes_for at h; exact h
def w_boxes_for : DS := (sSeq (sAsg (wCall c_greatest_boxes (aCons (wMake "RawBook" c_RawBook_dd__init_dd_ (aCons (wVar 0) (aCons (wCall dTuple (aCons (wCall c_region (aCons (wVar 0) (aCons (wVar 1) (aCons (wVar 2) aNil)))) aNil)) aNil))) aNil)) (gN 3)) (sSeq (sIf (asB (w2 dGt (wCall dLen (aCons (wVar 3) aNil)) (wC (.int 3000)))) sNever sNil) (sRet (wVar 3))))
theorem bxf_ok {form : List Int} {fl : Fil} {flag : Bool} (hs : Sm form) (hv : VFil form fl) : (∀ b ∈ bxf form fl flag, VBox form b) ∧ (∀ b ∈ bxf form fl flag, ∀ u : List Int, u.length = form.length → held b u = true → lets fl u = flag) ∧ (bxf form fl flag).length ≤ 3000 := by
  have ri := region_ok (flag := flag) hs hv
  have few := ri.few hv.l
  have nb := hs.nB
  obtain ⟨gi, gl⟩ := gbx_ok hs.v.l1 hs.m0 ri.v (by omega) (by omega)
  refine ⟨gi.v, fun b hb u hu hh => ?_, Nat.le_trans gl nb⟩
  obtain ⟨r, hr, hh⟩ := gi.s b hb u hu hh
  exact ri.s r hr u hu hh
theorem q_boxes_for : Qd w_boxes_for 4 c_boxes_for := by
  intro ds S R hc0
  obtain ⟨form, fl, flag, rfl, hs, hv, h⟩ := u_boxes_for hc0
  have ri := region_ok (flag := flag) hs hv
  have few := ri.few hv.l
  have nb := hs.nB
  obtain ⟨_, _, bl⟩ := bxf_ok (flag := flag) hs hv
  refine i_region ⟨form, fl, flag, rfl, hs, hv, ?_⟩
  intro x hx
  refine i_RawBook_dd__init_dd_ ⟨x, form, region form fl flag, rfl, put_same, ?_⟩
  refine ⟨rfl, ?_⟩
  rw [put_put]
  refine i_greatest_boxes ⟨x, form, region form fl flag, rfl, put_same, hs.v, ri.v, by omega, by omega, ?_⟩
  show (match decide ((3000 : Int) < (((bxf form fl flag).map eB).length : Int)) with
    | true => _
    | false => _)
  rw [dF (by rw [List.length_map]; omega)]
  exact Fin.to (Wk.put hx) h
@[irreducible] def c_inside : DC := fun ds S R => ∃ form fl, ds = [eI form, eF fl] ∧ Sm form ∧ VFil form fl ∧ R (eRs (bxf form fl true)) S
theorem i_inside {ds : List D} {S : Sto} {R : DQ} (h : ∃ form fl, ds = [eI form, eF fl] ∧ Sm form ∧ VFil form fl ∧ R (eRs (bxf form fl true)) S) : c_inside ds S R := by unfold c_inside; exact h
theorem u_inside {ds : List D} {S : Sto} {R : DQ} (h : c_inside ds S R) : ∃ form fl, ds = [eI form, eF fl] ∧ Sm form ∧ VFil form fl ∧ R (eRs (bxf form fl true)) S := by unfold c_inside at h; exact h
def w_inside : DS := (sSeq (sDrop (wCall c_check_form (aCons (wVar 0) aNil))) (sSeq (sDrop (wCall c_check_filter (aCons (wVar 0) (aCons (wVar 1) aNil)))) (sRet (wCall c_boxes_for (aCons (wVar 0) (aCons (wVar 1) (aCons (wC (.bl true)) aNil)))))))
theorem q_inside : Qd w_inside 2 c_inside := by
  intro ds S R hc0
  obtain ⟨form, fl, rfl, hs, hv, h⟩ := u_inside hc0
  refine i_check_form ⟨form, rfl, hs.v, ?_⟩
  refine i_check_filter ⟨form, fl, rfl, hs.v, hv, ?_⟩
  exact i_boxes_for ⟨form, fl, true, rfl, hs, hv, Fin.now h⟩
@[irreducible] def c_outside : DC := fun ds S R => ∃ form fl, ds = [eI form, eF fl] ∧ Sm form ∧ VFil form fl ∧ R (eRs (bxf form fl false)) S
theorem i_outside {ds : List D} {S : Sto} {R : DQ} (h : ∃ form fl, ds = [eI form, eF fl] ∧ Sm form ∧ VFil form fl ∧ R (eRs (bxf form fl false)) S) : c_outside ds S R := by unfold c_outside; exact h
theorem u_outside {ds : List D} {S : Sto} {R : DQ} (h : c_outside ds S R) : ∃ form fl, ds = [eI form, eF fl] ∧ Sm form ∧ VFil form fl ∧ R (eRs (bxf form fl false)) S := by unfold c_outside at h; exact h
def w_outside : DS := (sSeq (sDrop (wCall c_check_form (aCons (wVar 0) aNil))) (sSeq (sDrop (wCall c_check_filter (aCons (wVar 0) (aCons (wVar 1) aNil)))) (sRet (wCall c_boxes_for (aCons (wVar 0) (aCons (wVar 1) (aCons (wC (.bl false)) aNil)))))))
theorem q_outside : Qd w_outside 2 c_outside := by
  intro ds S R hc0
  obtain ⟨form, fl, rfl, hs, hv, h⟩ := u_outside hc0
  refine i_check_form ⟨form, rfl, hs.v, ?_⟩
  refine i_check_filter ⟨form, fl, rfl, hs.v, hv, ?_⟩
  exact i_boxes_for ⟨form, fl, false, rfl, hs, hv, Fin.now h⟩
@[irreducible] def c_met_boxes : DC := fun ds S R => ∃ form fl r flag, ds = [eI form, eF fl, eR r, .bl flag] ∧ Sm form ∧ VFil form fl ∧ VRep form r ∧ R (.lst ((metb form fl r flag).map eB)) S
theorem i_met_boxes {ds : List D} {S : Sto} {R : DQ} (h : ∃ form fl r flag, ds = [eI form, eF fl, eR r, .bl flag] ∧ Sm form ∧ VFil form fl ∧ VRep form r ∧ R (.lst ((metb form fl r flag).map eB)) S) : c_met_boxes ds S R := by unfold c_met_boxes; exact h
theorem u_met_boxes {ds : List D} {S : Sto} {R : DQ} (h : c_met_boxes ds S R) : ∃ form fl r flag, ds = [eI form, eF fl, eR r, .bl flag] ∧ Sm form ∧ VFil form fl ∧ VRep form r ∧ R (.lst ((metb form fl r flag).map eB)) S := by unfold c_met_boxes at h; exact h
def w_met_boxes : DS := (sSeq (sAsg (wCall c_report_box (aCons (wVar 0) (aCons (wVar 2) aNil))) (gN 4)) (sSeq (sAsg (wLc (iSeq (wCall c_boxes_for (aCons (wVar 0) (aCons (wVar 1) (aCons (wVar 3) aNil))))) (gN 6) tYes' (wCall c_meeting (aCons (wVar 4) (aCons (wVar 6) aNil))) [6]) (gN 5)) (sRet (wLc (iSeq (wVar 5)) (gN 6) (asB (w2 dNotN (wVar 6) (wC .non))) (wVar 6) [6]))))
theorem q_met_boxes : Qd w_met_boxes 7 c_met_boxes := by
  intro ds S R hc0
  obtain ⟨form, fl, r, flag, rfl, hs, hv, hr, h⟩ := u_met_boxes hc0
  have hf := hs.v
  have h8 := hf.l8
  obtain ⟨bv, _, bl⟩ := bxf_ok (flag := flag) hs hv
  have hrb := VBox.rep hf hr
  refine i_report_box ⟨form, r, rfl, by have := hr.1; omega, fun m hm => by have := hf.m m hm; omega, ?_⟩
  refine i_boxes_for ⟨form, fl, flag, rfl, hs, hv, ?_⟩
  show ∀ T, S T = none → compD T _ _ _ ([6].foldr (fun i e => e.set i none) _) _ _ [] ((bxf form fl flag).map eB) (put S T (.lst []))
  refine lc_all (bxf form fl flag) eB (fun b => meetN (repBox form r) b) (sz (by omega)) (fun _ _ => trivial) ?_ ?_
  · intro b hb S' x Kt Kf k
    exact meeting_i hf hrb k
  · refine lc_filter (bxf form fl flag) (fun b => meetN (repBox form r) b) (fun b => !decide ([] ∈ meet (repBox form r) b)) (fun b => eB (meet (repBox form r) b)) (sz (by omega)) (fun _ _ => trivial) ?_ ?_
    · intro b hb S' x Kt Kf k
      by_cases e : [] ∈ meet (repBox form r) b
      · rw [decide_eq_true e] at k
        have e2 : meetN (repBox form r) b = .non := by unfold meetN; rw [if_pos e]
        rw [e2]; exact k
      · rw [decide_eq_false e] at k
        have e2 : meetN (repBox form r) b = eB (meet (repBox form r) b) := by unfold meetN; rw [if_neg e]
        rw [e2]; exact k
    · have e : ((bxf form fl flag).filter fun b => !decide ([] ∈ meet (repBox form r) b)).map (fun b => eB (meet (repBox form r) b)) = (metb form fl r flag).map eB := by
        unfold metb
        rw [List.filter_map, List.map_map]
        rfl
      rw [e]
      exact Fin.now h
end K94
set_option Elab.async false
set_option linter.all false
set_option maxRecDepth 100000
set_option maxHeartbeats 1000000
namespace K94
open PySem PySem.Spec PyProof.Rows L2 Dd Mir K78
/-! ### notices, plain -/
def wS : Bool → Str
  | true => "never"
  | false => "must"
inductive NT where
  | sure (flag : Bool) (ps : List (List Stp)) | may (f g : List Int)
def eN : NT → D
  | .sure flag ps => .tup [.str (wS flag), .tup (ps.map eP)]
  | .may f g => .tup [.str "may", eI f, eI g]
def Note (form : List Int) (rules : List Box) (fl : Fil) (r : Rep) : NT → Prop
  | .sure flag ps => (∀ f ∈ agreed form rules r, lets fl f = !flag) ∧ Each (fun b s => Pap form rules b s) (metb form fl r flag) ps
  | .may f g => f ∈ agreed form rules r ∧ g ∈ agreed form rules r ∧ lets fl f = true ∧ lets fl g = false
theorem meet_box {form : List Int} {a b : Box} (ha : VBox form a) (hb : VBox form b) (hn : [] ∉ meet a b) : VBox form (meet a b) := by
  refine ⟨by rw [meet_len (by rw [ha.1, hb.1]), ha.1], fun i m l hm hl => ?_⟩
  have hi : i < form.length := (List.getElem?_eq_some_iff.mp hm).1
  have g1 : a[i]? = some (a[i]'(by rw [ha.1]; exact hi)) := List.getElem?_eq_getElem _
  have g2 : b[i]? = some (b[i]'(by rw [hb.1]; exact hi)) := List.getElem?_eq_getElem _
  have e := meet_at g1 g2
  rw [hl] at e
  have hv := ha.2 i m _ hm g1
  refine ⟨fun z => hn (z ▸ List.mem_of_getElem? hl), ?_, fun v hv' => ?_⟩
  · rw [Option.some.inj e]; exact hv.up.filter _
  · rw [Option.some.inj e] at hv'
    exact hv.mem v (List.mem_filter.mp hv').1
theorem held_meet {form : List Int} {a b : Box} {u : List Int} (ha : VBox form a) (hb : VBox form b) (hu : u.length = form.length) (h : held (meet a b) u = true) : held a u = true ∧ held b u = true := by
  rw [held_iff] at h
  rw [held_iff, held_iff]
  have key : ∀ (i : Nat) l m v, a[i]? = some l → b[i]? = some m → u[i]? = some v → v ∈ l ∧ v ∈ m := fun i l m v hl hm hv => by
    have := h i _ v (meet_at hl hm) hv
    exact ⟨(List.mem_filter.mp this).1, of_decide_eq_true (List.mem_filter.mp this).2⟩
  constructor
  · intro i l v hl hv
    have hi : i < b.length := by rw [hb.1, ← ha.1]; exact (List.getElem?_eq_some_iff.mp hl).1
    exact (key i l _ v hl (List.getElem?_eq_getElem hi) hv).1
  · intro i m v hm hv
    have hi : i < a.length := by rw [ha.1, ← hb.1]; exact (List.getElem?_eq_some_iff.mp hm).1
    exact (key i _ m v (List.getElem?_eq_getElem hi) hm hv).2
theorem metb_ok {form : List Int} {rules : List Box} {fl : Fil} {r : Rep} {flag : Bool} (hs : Sm form) (hv : VFil form fl) (hr : VRep form r) : (∀ b ∈ metb form fl r flag, VBox form b) ∧ (metb form fl r flag).length ≤ 3000 ∧ ((∀ f ∈ agreed form rules r, lets fl f = !flag) → ∀ b ∈ metb form fl r flag, NoLaw form rules b) := by
  obtain ⟨bv, bs, bl⟩ := bxf_ok (flag := flag) hs hv
  have hrb := VBox.rep hs.v hr
  have mem : ∀ b ∈ metb form fl r flag, ∃ o ∈ bxf form fl flag, b = meet (repBox form r) o ∧ [] ∉ b := fun b hb => by
    unfold metb at hb
    obtain ⟨h1, h2⟩ := List.mem_filter.mp hb
    obtain ⟨o, ho, rfl⟩ := List.mem_map.mp h1
    exact ⟨o, ho, rfl, by simpa using h2⟩
  refine ⟨fun b hb => ?_, ?_, fun hall b hb f hf => ?_⟩
  · obtain ⟨o, ho, rfl, hn⟩ := mem b hb
    exact meet_box hrb (bv o ho) hn
  · unfold metb
    refine Nat.le_trans (List.length_filter_le _ _) ?_
    rw [List.length_map]; exact bl
  · obtain ⟨o, ho, rfl, hn⟩ := mem b hb
    have hff := (mem_lawful.mp hf).1
    cases q : held (meet (repBox form r) o) f with
    | false => rfl
    | true =>
      obtain ⟨q1, q2⟩ := held_meet hrb (bv o ho) hff.1 q
      rw [held_rep hr hff] at q1
      have h1 := hall f (mem_agreed.mpr ⟨hf, q1⟩)
      have h2 := bs o ho f hff.1 q2
      rw [h2] at h1
      cases flag <;> cases h1
theorem agreed_few {form : List Int} {rules : List Box} {r : Rep} (h : VForm form) : (agreed form rules r).length ≤ 4000 := Nat.le_trans (List.length_filter_le _ _) (lawful_few h)
theorem card400s {form : List Int} {b : Box} (hs : Sm form) (hb : VBox form b) : card b ≤ 400 := card400 hs.v hb (by have := hs.p60; omega)
theorem at0 {α : Type} {x : α} {xs : List α} : atI (x :: xs) 0 = some x := atI_nat (i := 0) rfl
/-! ### the program -/
@[irreducible] def c_agreeing_faults : DCX := fun ds S R Z => ∃ a form rules r, ds = [.loc a, eR r] ∧ Bk S a form rules ∧ VRep form r ∧ (agreed form rules r = [] → Z "Barred" [] S) ∧ (agreed form rules r ≠ [] → R (.lst ((agreed form rules r).map eI)) S)
theorem i_agreeing_faults {ds : List D} {S : Sto} {R : DQ} {Z : DXf} (h : ∃ a form rules r, ds = [.loc a, eR r] ∧ Bk S a form rules ∧ VRep form r ∧ (agreed form rules r = [] → Z "Barred" [] S) ∧ (agreed form rules r ≠ [] → R (.lst ((agreed form rules r).map eI)) S)) : c_agreeing_faults ds S R Z := by unfold c_agreeing_faults; exact h
theorem u_agreeing_faults {ds : List D} {S : Sto} {R : DQ} {Z : DXf} (h : c_agreeing_faults ds S R Z) : ∃ a form rules r, ds = [.loc a, eR r] ∧ Bk S a form rules ∧ VRep form r ∧ (agreed form rules r = [] → Z "Barred" [] S) ∧ (agreed form rules r ≠ [] → R (.lst ((agreed form rules r).map eI)) S) := by unfold c_agreeing_faults at h; exact h
def w_agreeing_faults : DS := (sSeq (sAsg (wLc (iSeq (wCall c_listed (aCons (wVar 0) aNil))) (gN 3) (asB (wCall c_agreeing (aCons (wVar 1) (aCons (wVar 3) aNil)))) (wVar 3) [3]) (gN 2)) (sSeq (sIf (asB (w2 dEq (wCall dLen (aCons (wVar 2) aNil)) (wC (.int 0)))) (sRaise "Barred") sNil) (sRet (wVar 2))))
theorem q_agreeing_faults : QdX w_agreeing_faults 4 c_agreeing_faults := by
  intro ds S R Z hc0
  obtain ⟨a, form, rules, r, rfl, bk, hr, h1, h2⟩ := u_agreeing_faults hc0
  have hrl := hr.1
  have h8 := bk.2.1.l8
  refine i_listed ⟨a, form, rules, rfl, bk, ?_⟩
  refine lc_filter (lawful form rules) eI (agr r) eI (sz (Nat.le_trans (lawful_few bk.2.1) (by decide))) (fun _ _ => trivial) ?_ ?_
  · intro f hf S' x Kt Kf k
    refine i_agreeing ⟨r, f, rfl, by omega, ?_⟩
    cases q : agr r f with
    | true => rw [q] at k; exact k
    | false => rw [q] at k; exact k
  · have e : (lawful form rules).filter (agr r) = agreed form rules r := rfl
    rw [e]
    refine dEq_int ?_
    by_cases z : agreed form rules r = []
    · rw [dT (by rw [z]; rfl)]
      exact FinX.now (h1 z)
    · rw [dF (by rw [List.length_map]; have := List.length_pos_iff.mpr z; omega)]
      exact Fin.now (h2 z)
@[irreducible] def c_word_of : DC := fun ds S R => ∃ form fl us, ds = [eF fl, .lst (us.map eI)] ∧ VForm form ∧ VFil form fl ∧ us ≠ [] ∧ us.length ≤ 4000 ∧ (∀ f, f ∈ us → (∀ g ∈ us, lets fl g = true) → R (.tup [.str "must", eI f, .non]) S) ∧ (∀ f, f ∈ us → (∀ g ∈ us, lets fl g = false) → R (.tup [.str "never", .non, eI f]) S) ∧ (∀ f g, f ∈ us → g ∈ us → lets fl f = true → lets fl g = false → R (.tup [.str "may", eI f, eI g]) S)
theorem i_word_of {ds : List D} {S : Sto} {R : DQ} (h : ∃ form fl us, ds = [eF fl, .lst (us.map eI)] ∧ VForm form ∧ VFil form fl ∧ us ≠ [] ∧ us.length ≤ 4000 ∧ (∀ f, f ∈ us → (∀ g ∈ us, lets fl g = true) → R (.tup [.str "must", eI f, .non]) S) ∧ (∀ f, f ∈ us → (∀ g ∈ us, lets fl g = false) → R (.tup [.str "never", .non, eI f]) S) ∧ (∀ f g, f ∈ us → g ∈ us → lets fl f = true → lets fl g = false → R (.tup [.str "may", eI f, eI g]) S)) : c_word_of ds S R := by unfold c_word_of; exact h
theorem u_word_of {ds : List D} {S : Sto} {R : DQ} (h : c_word_of ds S R) : ∃ form fl us, ds = [eF fl, .lst (us.map eI)] ∧ VForm form ∧ VFil form fl ∧ us ≠ [] ∧ us.length ≤ 4000 ∧ (∀ f, f ∈ us → (∀ g ∈ us, lets fl g = true) → R (.tup [.str "must", eI f, .non]) S) ∧ (∀ f, f ∈ us → (∀ g ∈ us, lets fl g = false) → R (.tup [.str "never", .non, eI f]) S) ∧ (∀ f g, f ∈ us → g ∈ us → lets fl f = true → lets fl g = false → R (.tup [.str "may", eI f, eI g]) S) := by unfold c_word_of at h; exact h
def w_word_of : DS := (sSeq (sAsg (wLc (iSeq (wVar 1)) (gN 4) (asB (wCall c_lets (aCons (wVar 0) (aCons (wVar 4) aNil)))) (wVar 4) [4]) (gN 2)) (sSeq (sAsg (wLc (iSeq (wVar 1)) (gN 4) (tNot' (asB (wCall c_lets (aCons (wVar 0) (aCons (wVar 4) aNil))))) (wVar 4) [4]) (gN 3)) (sSeq (sIf (asB (w2 dEq (wCall dLen (aCons (wVar 3) aNil)) (wC (.int 0)))) (sRet (wTup (aCons (wC (.str "must")) (aCons (w2 dIx (wVar 2) (wC (.int 0))) (aCons (wC .non) aNil))))) sNil) (sRet (wIf (asB (w2 dEq (wCall dLen (aCons (wVar 2) aNil)) (wC (.int 0)))) (wTup (aCons (wC (.str "never")) (aCons (wC .non) (aCons (w2 dIx (wVar 3) (wC (.int 0))) aNil)))) (wTup (aCons (wC (.str "may")) (aCons (w2 dIx (wVar 2) (wC (.int 0))) (aCons (w2 dIx (wVar 3) (wC (.int 0))) aNil)))))))))
theorem q_word_of : Qd w_word_of 5 c_word_of := by
  intro ds S R hc0
  obtain ⟨form, fl, us, rfl, hf, hv, hn, hz, h1, h2, h3⟩ := u_word_of hc0
  refine lc_filter us eI (lets fl) eI (sz (by omega)) (fun _ _ => trivial) ?_ ?_
  · intro f _ S' x Kt Kf k
    refine i_lets ⟨form, fl, f, rfl, hf, hv, ?_⟩
    cases q : lets fl f with
    | true => rw [q] at k; exact k
    | false => rw [q] at k; exact k
  refine lc_filter us eI (fun f => !lets fl f) eI (sz (by omega)) (fun _ _ => trivial) ?_ ?_
  · intro f _ S' x Kt Kf k
    refine i_lets ⟨form, fl, f, rfl, hf, hv, ?_⟩
    cases q : lets fl f with
    | true => rw [q] at k; exact k
    | false => rw [q] at k; exact k
  refine dEq_int ?_
  cases ho : us.filter fun f => !lets fl f with
  | nil =>
    rw [dT (by rfl)]
    have all : ∀ g ∈ us, lets fl g = true := fun g hg => by
      cases q : lets fl g with
      | true => rfl
      | false =>
        have : g ∈ us.filter fun f => !lets fl f := List.mem_filter.mpr ⟨hg, by rw [q]; rfl⟩
        rw [ho] at this; cases this
    have e : us.filter (lets fl) = us := List.filter_eq_self.mpr all
    rw [e]
    cases us with
    | nil => exact absurd rfl hn
    | cons f us =>
      refine dIx_at (d := .lst ((f :: us).map eI)) (i := 0) rfl at0 ?_
      exact ⟨sz (Nat.le_of_ble_eq_true rfl), Fin.now (h1 f List.mem_cons_self all)⟩
  | cons g rest =>
    rw [dF (by rw [List.length_map, List.length_cons]; omega)]
    have hg : g ∈ us.filter fun f => !lets fl f := by rw [ho]; exact List.mem_cons_self
    obtain ⟨hgu, hgl⟩ := List.mem_filter.mp hg
    have hgl : lets fl g = false := by simpa using hgl
    refine dEq_int ?_
    cases hi : us.filter (lets fl) with
    | nil =>
      rw [dT (by rfl)]
      have all : ∀ g ∈ us, lets fl g = false := fun g hg => by
        cases q : lets fl g with
        | false => rfl
        | true =>
          have : g ∈ us.filter (lets fl) := List.mem_filter.mpr ⟨hg, q⟩
          rw [hi] at this; cases this
      refine dIx_at (d := .lst ((g :: rest).map eI)) (i := 0) rfl at0 ?_
      exact ⟨sz (Nat.le_of_ble_eq_true rfl), Fin.now (h2 g hgu all)⟩
    | cons f rest2 =>
      rw [dF (by rw [List.length_map, List.length_cons]; omega)]
      have hf' : f ∈ us.filter (lets fl) := by rw [hi]; exact List.mem_cons_self
      obtain ⟨hfu, hfl⟩ := List.mem_filter.mp hf'
      refine dIx_at (d := .lst ((f :: rest2).map eI)) (i := 0) rfl at0 ?_
      refine dIx_at (d := .lst ((g :: rest).map eI)) (i := 0) rfl at0 ?_
      exact ⟨sz (Nat.le_of_ble_eq_true rfl), Fin.now (h3 f g hfu hgu hfl hgl)⟩
@[irreducible] def c_notice : DCX := fun ds S R Z => ∃ a form rules fl r, ds = [.loc a, eF fl, eR r] ∧ Bk S a form rules ∧ Sm form ∧ VFil form fl ∧ VRep form r ∧ (agreed form rules r = [] → Z "Barred" [] S) ∧ (agreed form rules r ≠ [] → ∀ t, Note form rules fl r t → R (eN t) S)
theorem i_notice {ds : List D} {S : Sto} {R : DQ} {Z : DXf} (h : ∃ a form rules fl r, ds = [.loc a, eF fl, eR r] ∧ Bk S a form rules ∧ Sm form ∧ VFil form fl ∧ VRep form r ∧ (agreed form rules r = [] → Z "Barred" [] S) ∧ (agreed form rules r ≠ [] → ∀ t, Note form rules fl r t → R (eN t) S)) : c_notice ds S R Z := by unfold c_notice; exact h
theorem u_notice {ds : List D} {S : Sto} {R : DQ} {Z : DXf} (h : c_notice ds S R Z) : ∃ a form rules fl r, ds = [.loc a, eF fl, eR r] ∧ Bk S a form rules ∧ Sm form ∧ VFil form fl ∧ VRep form r ∧ (agreed form rules r = [] → Z "Barred" [] S) ∧ (agreed form rules r ≠ [] → ∀ t, Note form rules fl r t → R (eN t) S) := by unfold c_notice at h; exact h
def w_notice : DS := (sSeq (sDrop (wCall c_check_filter (aCons (wFld "Book" "form" (wVar 0)) (aCons (wVar 1) aNil)))) (sSeq (sDrop (wCall c_check_report (aCons (wFld "Book" "form" (wVar 0)) (aCons (wVar 2) aNil)))) (sSeq (sAsgX (wCallA c_word_of (aConsX (xUp (wVar 1)) (aConsX (wCallX c_agreeing_faults (aConsX (xUp (wVar 0)) (aConsX (xUp (wVar 2)) (aUp aNil)))) (aUp aNil)))) (gT 3 (gCons' (gN 4) (gCons' (gN 5) (gCons' (gN 6) gNil'))))) (sSeq (sIf (asB (w2 dEq (wVar 4) (wC (.str "may")))) (sRet (wTup (aCons (wVar 4) (aCons (wVar 5) (aCons (wVar 6) aNil))))) sNil) (sSeq (sAsg (wCall c_met_boxes (aCons (wFld "Book" "form" (wVar 0)) (aCons (wVar 1) (aCons (wVar 2) (aCons (w2 dEq (wVar 4) (wC (.str "never"))) aNil))))) (gN 3)) (sRet (wTup (aCons (wVar 4) (aCons (wCall dTuple (aCons (wLc (iSeq (wVar 3)) (gN 7) tYes' (wCall c_derivation_of (aCons (wVar 0) (aCons (wVar 7) aNil))) [7]) aNil)) aNil)))))))))
/-- the steps -/
theorem steps_of {S : Sto} {a : Addr} {form : List Int} {rules : List Box} {fl : Fil} {r : Rep} {flag : Bool} {env : Dd.Env} {R : DQ} (bk : Bk S a form rules) (hs : Sm form) (hv : VFil form fl) (hr : VRep form r) (hall : ∀ f ∈ agreed form rules r, lets fl f = !flag) (h0 : env[0]? = some (some (.loc a))) (hl : 7 < env.length)
    (h : ∀ ps, Each (fun b s => Pap form rules b s) (metb form fl r flag) ps → R (.lst (ps.map eP)) S) : ∀ T, S T = none → compD T (gN 7) tYes' (wCall c_derivation_of (aCons (wVar 0) (aCons (wVar 7) aNil))) ([7].foldr (fun i e => e.set i none) env) (fun _ => True) R [] ((metb form fl r flag).map eB) (put S T (.lst [])) := by
  obtain ⟨bv, bl, bn⟩ := metb_ok (rules := rules) (flag := flag) hs hv hr
  refine lc_rel (metb form fl r flag) eB eP (fun b s => Pap form rules b s) (fun S' => S' = S) (sz (by omega)) (fun _ _ _ _ _ => trivial) ?_ (fun ys S' he hS => by subst hS; exact h ys he) rfl
  rintro b hb S' T acc rfl hT Kt Kf k
  have hTa : a ≠ T := fun z => by rw [← z, bk.1] at hT; cases hT
  have e7 : (([7].foldr (fun i e => e.set i none) env).set 7 (some (eB b)))[7]? = some (some (eB b)) := by
    rw [List.getElem?_set_self]; simpa using hl
  have e0 : (([7].foldr (fun i e => e.set i none) env).set 7 (some (eB b)))[0]? = some (some (.loc a)) := by
    rw [List.getElem?_set_ne (by decide)]
    show (env.set 7 none)[0]? = _
    rw [List.getElem?_set_ne (by decide)]; exact h0
  show (match (([7].foldr (fun i e => e.set i none) env).set 7 (some (eB b)))[0]? with
    | some (some d) => _
    | _ => False)
  rw [e0]
  show (match (([7].foldr (fun i e => e.set i none) env).set 7 (some (eB b)))[7]? with
    | some (some d) => _
    | _ => False)
  rw [e7]
  exact i_derivation_of ⟨a, form, rules, b, rfl, ⟨by rw [put_ne hTa]; exact bk.1, bk.2⟩, bv b hb, bn hall b hb, card400s hs (bv b hb), fun steps hp => k steps S' hp rfl hT⟩
theorem q_notice : QdX w_notice 8 c_notice := by
  intro ds S R Z hc0
  obtain ⟨a, form, rules, fl, r, rfl, bk, hs, hv, hr, h1, h2⟩ := u_notice hc0
  refine fld_form bk.1 ?_
  refine i_check_filter ⟨form, fl, rfl, hs.v, hv, ?_⟩
  refine fld_form bk.1 ?_
  refine i_check_report ⟨form, r, rfl, hs.v, hr, ?_⟩
  refine i_agreeing_faults ⟨a, form, rules, r, rfl, bk, hr, fun e => FinX.now (h1 e), fun e => ?_⟩
  refine i_word_of ⟨form, fl, agreed form rules r, rfl, hs.v, hv, e, agreed_few hs.v, ?_, ?_, ?_⟩
  · intro f hf hall
    refine ⟨rfl, ?_⟩
    refine dEq_str ?_
    rw [dF (by decide)]
    refine fld_form bk.1 ?_
    refine dEq_str ?_
    rw [dF (by decide)]
    refine i_met_boxes ⟨form, fl, r, false, rfl, hs, hv, hr, ?_⟩
    refine steps_of bk hs hv hr (flag := false) hall rfl (Nat.lt_of_sub_eq_succ rfl) fun ps he => ?_
    exact ⟨sz (Nat.le_of_ble_eq_true rfl), Fin.now (h2 e (.sure false ps) ⟨hall, he⟩)⟩
  · intro f hf hall
    refine ⟨rfl, ?_⟩
    refine dEq_str ?_
    rw [dF (by decide)]
    refine fld_form bk.1 ?_
    refine dEq_str ?_
    rw [dT (by decide)]
    refine i_met_boxes ⟨form, fl, r, true, rfl, hs, hv, hr, ?_⟩
    refine steps_of bk hs hv hr (flag := true) hall rfl (Nat.lt_of_sub_eq_succ rfl) fun ps he => ?_
    exact ⟨sz (Nat.le_of_ble_eq_true rfl), Fin.now (h2 e (.sure true ps) ⟨hall, he⟩)⟩
  · intro f g hf hg hfl hgl
    refine ⟨rfl, ?_⟩
    refine dEq_str ?_
    rw [dT (by decide)]
    exact ⟨sz (Nat.le_of_ble_eq_true rfl), Fin.now (h2 e (.may f g) ⟨hf, hg, hfl, hgl⟩)⟩
@[irreducible] def c_are_shown : DC := fun ds S R => ∃ a form rules fl r flag ps, ds = [.loc a, eF fl, eR r, .str (wS flag), .tup (ps.map eP)] ∧ Bk S a form rules ∧ Sm form ∧ VFil form fl ∧ VRep form r ∧ Each (fun b s => Pap form rules b s) (metb form fl r flag) ps ∧ R (.bl true) S
theorem i_are_shown {ds : List D} {S : Sto} {R : DQ} (h : ∃ a form rules fl r flag ps, ds = [.loc a, eF fl, eR r, .str (wS flag), .tup (ps.map eP)] ∧ Bk S a form rules ∧ Sm form ∧ VFil form fl ∧ VRep form r ∧ Each (fun b s => Pap form rules b s) (metb form fl r flag) ps ∧ R (.bl true) S) : c_are_shown ds S R := by unfold c_are_shown; exact h
theorem u_are_shown {ds : List D} {S : Sto} {R : DQ} (h : c_are_shown ds S R) : ∃ a form rules fl r flag ps, ds = [.loc a, eF fl, eR r, .str (wS flag), .tup (ps.map eP)] ∧ Bk S a form rules ∧ Sm form ∧ VFil form fl ∧ VRep form r ∧ Each (fun b s => Pap form rules b s) (metb form fl r flag) ps ∧ R (.bl true) S := by unfold c_are_shown at h; exact h
def w_are_shown : DS := (sSeq (sAsg (wCall c_met_boxes (aCons (wFld "Book" "form" (wVar 0)) (aCons (wVar 1) (aCons (wVar 2) (aCons (w2 dEq (wVar 3) (wC (.str "never"))) aNil))))) (gN 5)) (sSeq (sIf (tNot' (asB (wCall c_is_tuple (aCons (wVar 4) (aCons (wCall dLen (aCons (wVar 5) aNil)) (aCons (wCall dLen (aCons (wVar 5) aNil)) aNil)))))) (sRet (wC (.bl false))) sNil) (sRet (wCall dAll (aCons (wLc (iEnum' (aCons (wVar 5) aNil)) (gT 2 (gCons' (gN 6) (gCons' (gN 7) gNil'))) tYes' (wCall c_bars (aCons (wVar 0) (aCons (wVar 7) (aCons (w2 dIx (wVar 4) (wVar 6)) aNil)))) [6, 7]) aNil)))))
theorem q_are_shown : Qd w_are_shown 8 c_are_shown := by
  intro ds S R hc0
  obtain ⟨a, form, rules, fl, r, flag, ps, rfl, bk, hs, hv, hr, he, h⟩ := u_are_shown hc0
  obtain ⟨bv, bl, bn⟩ := metb_ok (rules := rules) (flag := flag) hs hv hr
  have hpl := he.1
  refine fld_form bk.1 ?_
  refine dEq_str ?_ (by cases flag <;> decide +kernel)
  have ew : @decide (wS flag = "never") (instDecidableEqStr _ _) = flag := by cases flag <;> decide
  rw [show (decide (wS flag = "never")) = flag by cases flag <;> decide]
  refine i_met_boxes ⟨form, fl, r, flag, rfl, hs, hv, hr, ?_⟩
  refine tuple_yes ⟨?_, ?_⟩ ?_
  · rw [List.length_map, List.length_map, hpl]; exact Int.le_refl _
  · rw [List.length_map, List.length_map, hpl]; exact Int.le_refl _
  refine ⟨trivial, ?_⟩
  refine lc_enum (xs := metb form fl r flag) (E := eB) (fun _ => some (.bl true)) (by omega) (fun _ _ => trivial) ?_ ?_
  · intro i b hb S' x Kt Kf k
    have hi : i < ps.length := by rw [hpl]; exact (List.getElem?_eq_some_iff.mp hb).1
    have gp := List.getElem?_eq_getElem hi
    refine ⟨rfl, ?_⟩
    refine dIx_nat (d := .tup (ps.map eP)) (i := i) rfl (get_map gp) ?_
    obtain ⟨boxes, B, v, hB, hl, hz⟩ := he.2 i b _ hb gp
    refine i_bars ⟨a, form, rules, b, ⟨x _ _ bk.1, bk.2⟩, bv b (List.mem_of_getElem? hb), .inr (.inr ⟨_, boxes, B, rfl, v, hB, hz, ?_⟩)⟩
    rw [hl]; exact k
  · rw [List.filterMap_eq_map']
    exact dAll_true (Fin.now h)
inductive JudN (form : List Int) (rules : List Box) (fl : Fil) (r : Rep) : D → Bool → Prop
  | right (t : NT) : Note form rules fl r t → JudN form rules fl r (eN t) true
  | other (flag : Bool) (ps : List (List Stp)) : (∀ f ∈ agreed form rules r, lets fl f = !flag) → JudN form rules fl r (.tup [.str (wS (!flag)), .tup (ps.map eP)]) false
  | swap (f g : List Int) : f ∈ agreed form rules r → g ∈ agreed form rules r → lets fl f = true → lets fl g = false → JudN form rules fl r (.tup [.str "may", eI g, eI f]) false
@[irreducible] def c_is_notice : DC := fun ds S R => ∃ a form rules fl r d b, ds = [.loc a, eF fl, eR r, d] ∧ Bk S a form rules ∧ Sm form ∧ VFil form fl ∧ VRep form r ∧ agreed form rules r ≠ [] ∧ JudN form rules fl r d b ∧ R (.bl b) S
theorem i_is_notice {ds : List D} {S : Sto} {R : DQ} (h : ∃ a form rules fl r d b, ds = [.loc a, eF fl, eR r, d] ∧ Bk S a form rules ∧ Sm form ∧ VFil form fl ∧ VRep form r ∧ agreed form rules r ≠ [] ∧ JudN form rules fl r d b ∧ R (.bl b) S) : c_is_notice ds S R := by unfold c_is_notice; exact h
theorem u_is_notice {ds : List D} {S : Sto} {R : DQ} (h : c_is_notice ds S R) : ∃ a form rules fl r d b, ds = [.loc a, eF fl, eR r, d] ∧ Bk S a form rules ∧ Sm form ∧ VFil form fl ∧ VRep form r ∧ agreed form rules r ≠ [] ∧ JudN form rules fl r d b ∧ R (.bl b) S := by unfold c_is_notice at h; exact h
end K94
set_option Elab.async false
set_option linter.all false
set_option maxRecDepth 100000
set_option maxHeartbeats 1000000
namespace K94
open PySem PySem.Spec PyProof.Rows L2 Dd Mir K78
def w_is_notice : DS := (sSeq (sDrop (wCall c_check_filter (aCons (wFld "Book" "form" (wVar 0)) (aCons (wVar 1) aNil)))) (sSeq (sDrop (wCall c_check_report (aCons (wFld "Book" "form" (wVar 0)) (aCons (wVar 2) aNil)))) (sSeq (sAsg (wCall (fun ds S R => c_agreeing_faults ds S R fun _ _ _ => False) (aCons (wVar 0) (aCons (wVar 2) aNil))) (gN 4)) (sSeq (sAsg (w2 dIx (wCall c_word_of (aCons (wVar 1) (aCons (wVar 4) aNil))) (wC (.int 0))) (gN 5)) (sSeq (sIf (asB (w2 dNe (wVar 5) (wC (.str "may")))) (sDrop (wCall c_met_boxes (aCons (wFld "Book" "form" (wVar 0)) (aCons (wVar 1) (aCons (wVar 2) (aCons (w2 dEq (wVar 5) (wC (.str "never"))) aNil)))))) sNil) (sSeq (sIf (tOr' (tNot' (asB (wCall c_is_tuple (aCons (wVar 3) (aCons (wC (.int 2)) (aCons (wC (.int 3)) aNil)))))) (tOr' (tNot' (asB (wIsi .str (w2 dIx (wVar 3) (wC (.int 0)))))) (asB (w2 dNe (w2 dIx (wVar 3) (wC (.int 0))) (wVar 5))))) (sRet (wC (.bl false))) sNil) (sSeq (sIf (asB (w2 dNe (wVar 5) (wC (.str "may")))) (sRet (wAnd (w2 dEq (wCall dLen (aCons (wVar 3) aNil)) (wC (.int 2))) (wCall c_are_shown (aCons (wVar 0) (aCons (wVar 1) (aCons (wVar 2) (aCons (wVar 5) (aCons (w2 dIx (wVar 3) (wC (.int 1))) aNil)))))))) sNil) (sSeq (sIf (tOr' (asB (w2 dNe (wCall dLen (aCons (wVar 3) aNil)) (wC (.int 3)))) (tNot' (asB (wCall dAll (aCons (wLc (iSeq (wSl (wVar 3) (oSome (wC (.int 1))) oNone)) (gN 6) tYes' (wAnd (wCall c_fault_in (aCons (wFld "Book" "form" (wVar 0)) (aCons (wVar 6) aNil))) (w2 dIn (wVar 6) (wVar 4))) [6]) aNil))))) (sRet (wC (.bl false))) sNil) (sRet (wAnd (wCall c_lets (aCons (wVar 1) (aCons (w2 dIx (wVar 3) (wC (.int 1))) aNil))) (wNot (wCall c_lets (aCons (wVar 1) (aCons (w2 dIx (wVar 3) (wC (.int 2))) aNil))))))))))))))
theorem flag_of {us : List (List Int)} {fl : Fil} {a b : Bool} (hn : us ≠ []) (h : ∀ f ∈ us, lets fl f = a) (k : ∀ f ∈ us, lets fl f = b) : a = b := by
  cases us with
  | nil => exact absurd rfl hn
  | cons f us => rw [← h f List.mem_cons_self, k f List.mem_cons_self]
theorem q_is_notice : Qd w_is_notice 7 c_is_notice := by
  intro ds S R hc0
  obtain ⟨a, form, rules, fl, r, d, b, rfl, bk, hs, hv, hr, hne, hj, h⟩ := u_is_notice hc0
  have hl4 := (agreed_few (rules := rules) (r := r) hs.v)
  refine fld_form bk.1 ?_
  refine i_check_filter ⟨form, fl, rfl, hs.v, hv, ?_⟩
  refine fld_form bk.1 ?_
  refine i_check_report ⟨form, r, rfl, hs.v, hr, ?_⟩
  refine i_agreeing_faults ⟨a, form, rules, r, rfl, bk, hr, fun e => (hne e).elim, fun _ => ?_⟩
  refine i_word_of ⟨form, fl, agreed form rules r, rfl, hs.v, hv, hne, hl4, ?_, ?_, ?_⟩
  · intro f hf hall
    refine dIx_at (d := .tup _) (i := 0) rfl at0 ?_
    refine dNe_str ?_
    rw [dF (by decide)]
    refine fld_form bk.1 ?_
    refine dEq_str ?_
    rw [dF (by decide)]
    refine i_met_boxes ⟨form, fl, r, false, rfl, hs, hv, hr, ?_⟩
    cases hj with
    | right t ht =>
      cases t with
      | may f' g' => have := hall g' ht.2.1; rw [ht.2.2.2] at this; cases this
      | sure flag ps =>
        have e := flag_of hne hall ht.1
        have e : flag = false := by cases flag <;> first | rfl | cases e
        subst e
        refine tuple_yes ⟨(by show (2 : Int) ≤ 2; decide), (by show (2 : Int) ≤ 3; decide)⟩ ?_
        refine dIx_at (d := .tup _) (i := 0) rfl at0 ?_
        refine dIx_at (d := .tup _) (i := 0) rfl at0 ?_
        refine dNe_str ?_
        rw [dT (by decide)]
        refine dNe_str ?_
        rw [dF (by decide)]
        refine dEq_int ?_
        rw [dT (by rfl)]
        refine dIx_at (d := .tup _) (i := 1) rfl (atI_nat (i := 1) rfl) ?_
        exact i_are_shown ⟨a, form, rules, fl, r, false, ps, rfl, bk, hs, hv, hr, ht.2, Fin.now h⟩
    | other flag ps ht =>
      have e := flag_of hne hall ht
      have e : flag = false := by cases flag <;> first | rfl | cases e
      subst e
      refine tuple_yes ⟨(by show (2 : Int) ≤ 2; decide), (by show (2 : Int) ≤ 3; decide)⟩ ?_
      refine dIx_at (d := .tup _) (i := 0) rfl at0 ?_
      refine dIx_at (d := .tup _) (i := 0) rfl at0 ?_
      refine dNe_str ?_
      rw [dF (by decide)]
      exact Fin.now h
    | swap f' g' h1 h2 h3 h4 => have := hall g' h2; rw [h4] at this; cases this
  · intro f hf hall
    refine dIx_at (d := .tup _) (i := 0) rfl at0 ?_
    refine dNe_str ?_
    rw [dF (by decide)]
    refine fld_form bk.1 ?_
    refine dEq_str ?_
    rw [dT (by decide)]
    refine i_met_boxes ⟨form, fl, r, true, rfl, hs, hv, hr, ?_⟩
    cases hj with
    | right t ht =>
      cases t with
      | may f' g' => have := hall f' ht.1; rw [ht.2.2.1] at this; cases this
      | sure flag ps =>
        have e := flag_of hne hall ht.1
        have e : flag = true := by cases flag <;> first | rfl | cases e
        subst e
        refine tuple_yes ⟨(by show (2 : Int) ≤ 2; decide), (by show (2 : Int) ≤ 3; decide)⟩ ?_
        refine dIx_at (d := .tup _) (i := 0) rfl at0 ?_
        refine dIx_at (d := .tup _) (i := 0) rfl at0 ?_
        refine dNe_str ?_
        rw [dT (by decide)]
        refine dNe_str ?_
        rw [dF (by decide)]
        refine dEq_int ?_
        rw [dT (by rfl)]
        refine dIx_at (d := .tup _) (i := 1) rfl (atI_nat (i := 1) rfl) ?_
        exact i_are_shown ⟨a, form, rules, fl, r, true, ps, rfl, bk, hs, hv, hr, ht.2, Fin.now h⟩
    | other flag ps ht =>
      have e := flag_of hne hall ht
      have e : flag = true := by cases flag <;> first | rfl | cases e
      subst e
      refine tuple_yes ⟨(by show (2 : Int) ≤ 2; decide), (by show (2 : Int) ≤ 3; decide)⟩ ?_
      refine dIx_at (d := .tup _) (i := 0) rfl at0 ?_
      refine dIx_at (d := .tup _) (i := 0) rfl at0 ?_
      refine dNe_str ?_
      rw [dF (by decide)]
      exact Fin.now h
    | swap f' g' h1 h2 h3 h4 => have := hall f' h1; rw [h3] at this; cases this
  · intro f g hf hg hfl hgl
    obtain ⟨x, y, hx, hy, hd, hb⟩ : ∃ x y, x ∈ agreed form rules r ∧ y ∈ agreed form rules r ∧ d = .tup [.str "may", eI x, eI y] ∧ b = (lets fl x && !lets fl y) := by
      cases hj with
      | right t ht =>
        cases t with
        | may f' g' => exact ⟨f', g', ht.1, ht.2.1, rfl, by rw [ht.2.2.1, ht.2.2.2]; rfl⟩
        | sure flag ps =>
          have e1 := ht.1 f hf
          have e2 := ht.1 g hg
          rw [hfl] at e1; rw [hgl] at e2
          rw [← e1] at e2; cases e2
      | other flag ps ht =>
        have e1 := ht f hf
        have e2 := ht g hg
        rw [hfl] at e1; rw [hgl] at e2
        rw [← e1] at e2; cases e2
      | swap f' g' h1 h2 h3 h4 => exact ⟨g', f', h2, h1, rfl, by rw [h3, h4]; rfl⟩
    subst hd
    have hvx : VFlt form x := (mem_lawful.mp (mem_agreed.mp hx).1).1
    have hvy : VFlt form y := (mem_lawful.mp (mem_agreed.mp hy).1).1
    refine dIx_at (d := .tup _) (i := 0) rfl at0 ?_
    refine dNe_str ?_
    rw [dT (by decide)]
    refine tuple_yes ⟨(by show (2 : Int) ≤ 3; decide), (by show (3 : Int) ≤ 3; decide)⟩ ?_
    refine dIx_at (d := .tup _) (i := 0) rfl at0 ?_
    refine dIx_at (d := .tup _) (i := 0) rfl at0 ?_
    refine dNe_str ?_
    rw [dT (by decide)]
    refine dNe_str ?_
    rw [dT (by decide)]
    refine dNe_int ?_
    rw [dT (by rfl)]
    show ∀ T, S T = none → compD T _ _ _ ([6].foldr (fun i e => e.set i none) _) _ _ [] ([x, y].map eI) (put S T (.lst []))
    refine lc_flag (xs := [x, y]) true (Nat.le_of_ble_eq_true rfl) (fun _ _ => trivial) ?_ ?_
    · intro z hz S' ex Kt Kf k
      have hza : z ∈ agreed form rules r := by
        rcases List.mem_cons.mp hz with rfl | hz
        · exact hx
        · rw [List.mem_singleton.mp hz]; exact hy
      refine fld_form (ex _ _ bk.1) ?_
      refine i_fault_in ⟨form, _, rfl, hs.v, .inl ⟨z, rfl, (mem_lawful.mp (mem_agreed.mp hza).1).1, ?_⟩⟩
      refine dIn_fn (E := eI) (n := 1) eq_eI okI (by decide) (xs := agreed form rules r) rfl ?_
      rw [dT hza]
      exact k
    · refine dAll_true (xs := [x, y]) ?_
      refine dIx_at (d := .tup _) (i := 1) rfl (atI_nat (i := 1) rfl) ?_
      refine i_lets ⟨form, fl, x, rfl, hs.v, hv, ?_⟩
      rw [hb] at h
      cases qx : lets fl x with
      | false => rw [qx] at h; exact Fin.now h
      | true =>
        rw [qx, Bool.true_and] at h
        refine dIx_at (d := .tup _) (i := 2) rfl (atI_nat (i := 2) rfl) ?_
        refine i_lets ⟨form, fl, y, rfl, hs.v, hv, ?_⟩
        exact Fin.now h
end K94
set_option Elab.async false
set_option linter.all false
set_option maxRecDepth 100000
set_option maxHeartbeats 1000000
namespace K94
open PySem PySem.Spec PyProof.Rows L2 Dd Mir K78
/-! ### the hand -/
abbrev encH (cs : List Int) (p g a k : Int) : SO := .lst [.lst (cs.map D.int), .int p, .int g, .int a, .int k]
@[irreducible] def c__law_hand : DC := fun ds S R => ∃ ns : List Int, ds = [.seq (ns.map D.int)] ∧ ns.length ≤ 63 ∧ ∀ h cs a, S h = none → R (.loc h) (put S h (encH cs 0 0 a 0))
theorem i__law_hand {ds : List D} {S : Sto} {R : DQ} (h : ∃ ns : List Int, ds = [.seq (ns.map D.int)] ∧ ns.length ≤ 63 ∧ ∀ h cs a, S h = none → R (.loc h) (put S h (encH cs 0 0 a 0))) : c__law_hand ds S R := by unfold c__law_hand; exact h
theorem u__law_hand {ds : List D} {S : Sto} {R : DQ} (h : c__law_hand ds S R) : ∃ ns : List Int, ds = [.seq (ns.map D.int)] ∧ ns.length ≤ 63 ∧ ∀ h cs a, S h = none → R (.loc h) (put S h (encH cs 0 0 a 0)) := by unfold c__law_hand at h; exact h
def w__law_hand : DS := (sSeq (sAsg (wLc (iSeq (wSl (wVar 0) oNone (oSome (wC (.int 63))))) (gN 2) tYes' (wCall dAbs (aCons (wCall dInt (aCons (wVar 2) aNil)) aNil)) [2]) (gN 1)) (sRet (wNew (aCons (wVar 1) (aCons (wC (.int 0)) (aCons (wC (.int 0)) (aCons (wAdd (wC (.int 97)) (wMul (wC (.int 5)) (wCall dLen (aCons (wVar 1) aNil)))) (aCons (wC (.int 0)) aNil))))))))
theorem q__law_hand : Qd w__law_hand 3 c__law_hand := by
  intro ds S R hc0
  obtain ⟨ns, rfl, hz, h⟩ := u__law_hand hc0
  have e : cutL (ns.map D.int) none (some 63) = (ns.take 63).map D.int := by
    by_cases hl : 63 ≤ ns.length
    · rw [show (63 : Int) = ((63 : Nat) : Int) from rfl, cut_to (by rw [List.length_map]; exact hl), List.map_take]
    · unfold cutL
      have e1 : HT.sIx (ns.map D.int).length 0 none = 0 := rfl
      have e2 : HT.sIx (ns.map D.int).length (ns.map D.int).length (some 63) = ns.length := by
        show (if (63 : Int) < 0 then ((63 : Int) + (ns.map D.int).length).toNat else min (63 : Int).toNat (ns.map D.int).length) = ns.length
        rw [if_neg (by decide), List.length_map]
        omega
      rw [e1, e2, List.drop_zero, List.take_of_length_le (by rw [List.length_map]; omega), List.take_of_length_le (by omega)]
  conv => whnf
  show ∀ T, S T = none → compD T _ _ _ ([2].foldr (fun i e => e.set i none) (startD 3 [.seq (ns.map D.int)])) _ _ [] (cutL (ns.map D.int) none (some 63)) (put S T (.lst []))
  rw [e]
  refine lc_all (ns.take 63) D.int (fun v => .int (if v < 0 then -v else v)) (sz (by rw [List.length_take]; omega)) (fun _ _ => trivial) ?_ ?_
  · intro v _ S' ex Kt Kf k
    exact k
  · have e3 : (ns.take 63).map (fun v => D.int (if v < 0 then -v else v)) = ((ns.take 63).map fun v => if v < 0 then -v else v).map D.int := by rw [List.map_map]; rfl
    rw [e3]
    refine ⟨.inl ⟨by decide, by decide⟩, ?_⟩
    refine ⟨sz (Nat.le_of_ble_eq_true rfl), fun p hp => ?_⟩
    exact Fin.now (h p _ _ hp)
@[irreducible] def c__law_agrees : DC := fun ds S R => ∃ r f, ds = [eR r, eI f] ∧ r.length ≤ 100 ∧ R (.bl (agr r f)) S
theorem i__law_agrees {ds : List D} {S : Sto} {R : DQ} (h : ∃ r f, ds = [eR r, eI f] ∧ r.length ≤ 100 ∧ R (.bl (agr r f)) S) : c__law_agrees ds S R := by unfold c__law_agrees; exact h
theorem u__law_agrees {ds : List D} {S : Sto} {R : DQ} (h : c__law_agrees ds S R) : ∃ r f, ds = [eR r, eI f] ∧ r.length ≤ 100 ∧ R (.bl (agr r f)) S := by unfold c__law_agrees at h; exact h
def w__law_agrees : DS := (sRet (wCall dAll (aCons (wLc (iZip2 (aCons (wVar 0) (aCons (wVar 1) aNil))) (gT 2 (gCons' (gN 2) (gCons' (gN 3) gNil'))) tYes' (wOr (w2 dIsN (wVar 2) (wC .non)) (w2 dEq (wVar 2) (wVar 3))) [2, 3]) aNil)))
theorem q__law_agrees : Qd w__law_agrees 4 c__law_agrees := by
  intro ds S R hc0
  obtain ⟨r, f, rfl, hz, h⟩ := u__law_agrees hc0
  refine lc_zip (xs := r) (ys := f) (E := eO) (E' := D.int) (fun p => .bl (p.1.isNone || decide (p.1 = some p.2))) (by omega) (fun _ _ => trivial) ?_ ?_
  · rintro ⟨o, v⟩ hp S' x Kt Kf k
    refine ⟨rfl, ?_⟩
    cases o with
    | none => exact k
    | some u =>
      refine dEq_int ?_
      have e : (((some u : Option Int).isNone || decide (some u = some v))) = decide (u = v) := by simp
      have k : Kt (.bl ((some u : Option Int).isNone || decide (some u = some v))) S' := k
      rw [e] at k
      exact k
  · exact dAll_fn (Fin.now h)
@[irreducible] def c__law_draw : DC := fun ds S R => ∃ h cs, ∃ p g a k m : Int, ds = [.loc h, .int m] ∧ S h = some (encH cs p g a k) ∧ 0 ≤ p ∧ 0 < m ∧ m < 1000000 ∧ ∀ (v p' g' a' k' : Int), 0 ≤ v → v < m → 0 ≤ p' → R (.int v) (put S h (encH cs p' g' a' k'))
theorem i__law_draw {ds : List D} {S : Sto} {R : DQ} (h : ∃ h cs, ∃ p g a k m : Int, ds = [.loc h, .int m] ∧ S h = some (encH cs p g a k) ∧ 0 ≤ p ∧ 0 < m ∧ m < 1000000 ∧ ∀ (v p' g' a' k' : Int), 0 ≤ v → v < m → 0 ≤ p' → R (.int v) (put S h (encH cs p' g' a' k'))) : c__law_draw ds S R := by unfold c__law_draw; exact h
theorem u__law_draw {ds : List D} {S : Sto} {R : DQ} (h : c__law_draw ds S R) : ∃ h cs, ∃ p g a k m : Int, ds = [.loc h, .int m] ∧ S h = some (encH cs p g a k) ∧ 0 ≤ p ∧ 0 < m ∧ m < 1000000 ∧ ∀ (v p' g' a' k' : Int), 0 ≤ v → v < m → 0 ≤ p' → R (.int v) (put S h (encH cs p' g' a' k')) := by unfold c__law_draw at h; exact h
/-- numbers as they come: what is told of them alone -/
theorem lput {S : Sto} {h : Addr} {xs : List D} {N : Sto → Prop} {n : Int} {j : Nat} {y : D} (hS : S h = some (.lst xs)) (hj : ixN xs.length n = some j) (k : N (put S h (.lst (xs.set j y)))) : ∃ a xs n' j, D.loc h = .loc a ∧ D.int n = .int n' ∧ S a = some (.lst xs) ∧ ixN xs.length n' = some j ∧ N (put S a (.lst (xs.set j y))) := ⟨h, xs, n, j, rfl, rfl, hS, hj, k⟩
theorem i_mul {wa wb : DE} {env : Dd.Env} {S : Sto} {R : DQ} {x y : Int} (ha : ∀ Q : DQ, Q (.int x) S → wa env S Q) (hb : ∀ Q : DQ, Q (.int y) S → wb env S Q) (hc : CMul x y) (k : ∀ z, z = x * y → R (.int z) S) : wMul wa wb env S R := ha _ (hb _ ⟨hc, k _ rfl⟩)
theorem i_add {wa wb : DE} {env : Dd.Env} {S : Sto} {R : DQ} {x y : Int} (ha : ∀ Q : DQ, Q (.int x) S → wa env S Q) (hb : ∀ Q : DQ, Q (.int y) S → wb env S Q) (k : ∀ z, z = x + y → R (.int z) S) : wAdd wa wb env S R := ha _ (hb _ (k _ rfl))
theorem i_mod {wa wb : DE} {env : Dd.Env} {S : Sto} {R : DQ} {x y : Int} (ha : ∀ Q : DQ, Q (.int x) S → wa env S Q) (hb : ∀ Q : DQ, Q (.int y) S → wb env S Q) (hc : 0 < y) (k : ∀ z, 0 ≤ z → z < y → R (.int z) S) : wMod wa wb env S R := ha _ (hb _ ⟨hc, k _ (Int.emod_nonneg _ (by omega)) (Int.emod_lt_of_pos _ hc)⟩)
theorem i_div {wa wb : DE} {env : Dd.Env} {S : Sto} {R : DQ} {x y : Int} (ha : ∀ Q : DQ, Q (.int x) S → wa env S Q) (hb : ∀ Q : DQ, Q (.int y) S → wb env S Q) (hc : CDiv x y) (k : ∀ z, z = x / y → R (.int z) S) : wDiv wa wb env S R := ha _ (hb _ ⟨hc, k _ rfl⟩)
theorem i_int {wa : DE} {env : Dd.Env} {S : Sto} {R : DQ} {x : Int} (ha : ∀ Q : DQ, Q (.int x) S → wa env S Q) (k : R (.int x) S) : wCall dInt (aCons wa aNil) env S R := ha _ k
theorem lits : (∀ (i : Int) (env : Dd.Env) (S : Sto) (Q : DQ), Q (.int i) S → wC (.int i) env S Q) := fun _ _ _ _ k => k
section
variable {S : Sto} {h : Addr} {cs : List Int} {p g a k : Int} {env : Dd.Env} {m : D} {x2 x3 x4 : Option D}
theorem rd0 (e : S h = some (encH cs p g a k)) (Q : DQ) (q : Q (.lst (cs.map D.int)) S) : w2 dIx (wVar 0) (wC (.int 0)) (some (.loc h) :: env) S Q := dIx_at (d := .loc h) (i := 0) (seq_loc e) rfl q
theorem rd1 (e : S h = some (encH cs p g a k)) (Q : DQ) (q : Q (.int p) S) : w2 dIx (wVar 0) (wC (.int 1)) (some (.loc h) :: env) S Q := dIx_at (d := .loc h) (i := 1) (seq_loc e) rfl q
theorem rd2 (e : S h = some (encH cs p g a k)) (Q : DQ) (q : Q (.int g) S) : w2 dIx (wVar 0) (wC (.int 2)) (some (.loc h) :: env) S Q := dIx_at (d := .loc h) (i := 2) (seq_loc e) rfl q
theorem rd3 (e : S h = some (encH cs p g a k)) (Q : DQ) (q : Q (.int a) S) : w2 dIx (wVar 0) (wC (.int 3)) (some (.loc h) :: env) S Q := dIx_at (d := .loc h) (i := 3) (seq_loc e) rfl q
theorem rd4 (e : S h = some (encH cs p g a k)) (Q : DQ) (q : Q (.int k) S) : w2 dIx (wVar 0) (wC (.int 4)) (some (.loc h) :: env) S Q := dIx_at (d := .loc h) (i := 4) (seq_loc e) rfl q
end
/-- the number drawn at the end -/
theorem t_num {S : Sto} {h : Addr} {cs : List Int} {p g a k m : Int} {x2 x3 x4 : Option D} {F : DEnds} (e : S h = some (encH cs p g a k)) (hm : 0 < m) (q : ∀ v, 0 ≤ v → v < m → F.rt (.int v) S) :
    (sSeq (sAsg (wMod (wCall dInt (aCons (wMul (wCall dInt (aCons (wAdd (w2 dIx (wVar 0) (wC (.int 3))) (wMul (wC (.int 7919)) (w2 dIx (wVar 0) (wC (.int 4))))) aNil)) (wC (.int 48271))) aNil)) (wC (.int 2147483647))) (gN 2)) (sSeq (sAsg (wMod (wCall dInt (aCons (wMul (wVar 2) (wAdd (wDiv (wVar 2) (wC (.int 1009))) (wC (.int 69621)))) aNil)) (wC (.int 2147483647))) (gN 2)) (sSeq (sAsg (wMod (wCall dInt (aCons (wMul (wVar 2) (wAdd (wDiv (wVar 2) (wC (.int 2003))) (wC (.int 40692)))) aNil)) (wC (.int 2147483399))) (gN 2)) (sRet (wMod (wCall dInt (aCons (wDiv (wVar 2) (wC (.int 16))) aNil)) (wVar 1))))))
      F [some (.loc h), some (.int m), x2, x3, x4] S := by
  have small : ∀ z : Int, 0 ≤ z → z < 2147483648 → -(2 ^ 64) < z ∧ z < 2 ^ 64 := fun z h1 h2 => ⟨by omega, by omega⟩
  have v2 : ∀ (z : Int) (Q : DQ), Q (.int z) S → wVar 2 [some (.loc h), some (.int m), some (.int z), x3, x4] S Q := fun _ _ k => k
  have v1 : ∀ (z : Int) (Q : DQ), Q (.int m) S → wVar 1 [some (.loc h), some (.int m), some (.int z), x3, x4] S Q := fun _ _ k => k
  refine i_mod (y := 2147483647) (fun Q k1 => i_int (fun Q k2 => i_mul (y := 48271) (fun Q k3 => i_int (fun Q k4 => i_add (rd3 e) (fun Q k5 => i_mul (x := 7919) (lits _ _ _) (rd4 e) (.inl (small _ (by decide) (by decide))) fun z hz => by subst hz; exact k5) fun z hz => by subst hz; exact k4) k3) (lits _ _ _) (.inr (small _ (by decide) (by decide))) fun z hz => by subst hz; exact k2) k1) (lits _ _ _) (by decide) fun z1 h1 h2 => ?_
  refine i_mod (y := 2147483647) (fun Q k1 => i_int (fun Q k2 => i_mul (v2 z1) (fun Q k3 => i_add (fun Q k4 => i_div (v2 z1) (lits 1009 _ _) ⟨by decide, by decide⟩ fun z hz => by subst hz; exact k4) (lits 69621 _ _) fun z hz => by subst hz; exact k3) (.inl (small _ h1 (by omega))) fun z hz => by subst hz; exact k2) k1) (lits _ _ _) (by decide) fun z2 h3 h4 => ?_
  refine i_mod (y := 2147483399) (fun Q k1 => i_int (fun Q k2 => i_mul (v2 z2) (fun Q k3 => i_add (fun Q k4 => i_div (v2 z2) (lits 2003 _ _) ⟨by decide, by decide⟩ fun z hz => by subst hz; exact k4) (lits 40692 _ _) fun z hz => by subst hz; exact k3) (.inl (small _ h3 (by omega))) fun z hz => by subst hz; exact k2) k1) (lits _ _ _) (by decide) fun z3 h5 h6 => ?_
  refine i_mod (y := m) (fun Q k1 => i_int (fun Q k2 => i_div (v2 z3) (lits 16 _ _) ⟨by decide, by decide⟩ fun z hz => by subst hz; exact k2) k1) (v1 z3) hm fun v hv0 hv1 => ?_
  exact q v hv0 hv1
/-- the second half -/
theorem t_half {S : Sto} {h : Addr} {cs : List Int} {p g a k m : Int} {x2 x3 x4 : Option D} {F : DEnds} (e : S h = some (encH cs p g a k)) (hp : 0 ≤ p) (hm : 0 < m) (hm1 : m < 1000000) (q : ∀ v g' a' k', 0 ≤ v → v < m → F.rt (.int v) (put S h (encH cs p g' a' k'))) :
    (sSeq (sIf (asB (w2 dGt (w2 dIx (wVar 0) (wC (.int 2))) (wC (.int 0)))) (sSeq (sAsg (wMod (wCall dInt (aCons (w2 dIx (wVar 0) (wC (.int 2))) aNil)) (wVar 1)) (gN 4)) (sSeq (sLPut (wVar 0) (wC (.int 2)) (wDiv (w2 dIx (wVar 0) (wC (.int 2))) (wVar 1))) (sRet (wVar 4)))) sNil) (sSeq (sLPut (wVar 0) (wC (.int 4)) (wAdd (w2 dIx (wVar 0) (wC (.int 4))) (wC (.int 1)))) (sSeq (sAsg (wMod (wCall dInt (aCons (wMul (wCall dInt (aCons (wAdd (w2 dIx (wVar 0) (wC (.int 3))) (wMul (wC (.int 7919)) (w2 dIx (wVar 0) (wC (.int 4))))) aNil)) (wC (.int 48271))) aNil)) (wC (.int 2147483647))) (gN 2)) (sSeq (sAsg (wMod (wCall dInt (aCons (wMul (wVar 2) (wAdd (wDiv (wVar 2) (wC (.int 1009))) (wC (.int 69621)))) aNil)) (wC (.int 2147483647))) (gN 2)) (sSeq (sAsg (wMod (wCall dInt (aCons (wMul (wVar 2) (wAdd (wDiv (wVar 2) (wC (.int 2003))) (wC (.int 40692)))) aNil)) (wC (.int 2147483399))) (gN 2)) (sRet (wMod (wCall dInt (aCons (wDiv (wVar 2) (wC (.int 16))) aNil)) (wVar 1))))))))
      F [some (.loc h), some (.int m), x2, x3, x4] S := by
  have v1 : ∀ (x4 : Option D) (Q : DQ), Q (.int m) S → wVar 1 [some (.loc h), some (.int m), x2, x3, x4] S Q := fun _ _ k => k
  refine dIx_at (d := .loc h) (i := 2) (seq_loc e) rfl ?_
  by_cases hg : (0 : Int) < g
  · show (match decide ((0 : Int) < g) with
      | true => _
      | false => _)
    rw [dT hg]
    refine i_mod (y := m) (fun Q k1 => i_int (rd2 e) k1) (v1 x4) hm fun v hv0 hv1 => ?_
    refine i_div (fun Q k1 => rd2 e Q k1) (v1 _) ⟨hm, by omega⟩ fun z hz => ?_
    refine lput (n := 2) (j := 2) e rfl ?_
    exact q v z a k hv0 hv1
  · show (match decide ((0 : Int) < g) with
      | true => _
      | false => _)
    rw [dF hg]
    refine i_add (rd4 e) (lits 1 _ _) fun z hz => ?_
    refine lput (n := 4) (j := 4) e rfl ?_
    refine t_num (cs := cs) (p := p) (g := g) (a := a) (k := z) put_same hm fun v hv0 hv1 => ?_
    exact q v g a z hv0 hv1
def w__law_draw : DS := (sSeq (sIf (tAnd' (asB (w2 dEq (w2 dIx (wVar 0) (wC (.int 2))) (wC (.int 0)))) (asB (w2 dLt (w2 dIx (wVar 0) (wC (.int 1))) (wCall dLen (aCons (w2 dIx (wVar 0) (wC (.int 0))) aNil))))) (sSeq (sAsg (w2 dIx (w2 dIx (wVar 0) (wC (.int 0))) (w2 dIx (wVar 0) (wC (.int 1)))) (gN 3)) (sSeq (sLPut (wVar 0) (wC (.int 1)) (wAdd (w2 dIx (wVar 0) (wC (.int 1))) (wC (.int 1)))) (sSeq (sLPut (wVar 0) (wC (.int 3)) (wMod (wCall dInt (aCons (wAdd (wAdd (wMul (w2 dIx (wVar 0) (wC (.int 3))) (wC (.int 69621))) (wVar 3)) (wC (.int 29))) aNil)) (wC (.int 2147483629)))) (sIf (asB (w2 dGe (wVar 3) (wPow (wC (.int 10)) (wC (.int 18))))) (sLPut (wVar 0) (wC (.int 2)) (wVar 3)) sNil)))) sNil) (sSeq (sIf (asB (w2 dGt (w2 dIx (wVar 0) (wC (.int 2))) (wC (.int 0)))) (sSeq (sAsg (wMod (wCall dInt (aCons (w2 dIx (wVar 0) (wC (.int 2))) aNil)) (wVar 1)) (gN 4)) (sSeq (sLPut (wVar 0) (wC (.int 2)) (wDiv (w2 dIx (wVar 0) (wC (.int 2))) (wVar 1))) (sRet (wVar 4)))) sNil) (sSeq (sLPut (wVar 0) (wC (.int 4)) (wAdd (w2 dIx (wVar 0) (wC (.int 4))) (wC (.int 1)))) (sSeq (sAsg (wMod (wCall dInt (aCons (wMul (wCall dInt (aCons (wAdd (w2 dIx (wVar 0) (wC (.int 3))) (wMul (wC (.int 7919)) (w2 dIx (wVar 0) (wC (.int 4))))) aNil)) (wC (.int 48271))) aNil)) (wC (.int 2147483647))) (gN 2)) (sSeq (sAsg (wMod (wCall dInt (aCons (wMul (wVar 2) (wAdd (wDiv (wVar 2) (wC (.int 1009))) (wC (.int 69621)))) aNil)) (wC (.int 2147483647))) (gN 2)) (sSeq (sAsg (wMod (wCall dInt (aCons (wMul (wVar 2) (wAdd (wDiv (wVar 2) (wC (.int 2003))) (wC (.int 40692)))) aNil)) (wC (.int 2147483399))) (gN 2)) (sRet (wMod (wCall dInt (aCons (wDiv (wVar 2) (wC (.int 16))) aNil)) (wVar 1)))))))))
theorem q__law_draw : Qd w__law_draw 5 c__law_draw := by
  intro ds S R hc0
  unfold c__law_draw at hc0
  obtain ⟨h, cs, p, g, a, k, m, rfl, hS, hp, hm0, hm1, hk⟩ := hc0
  have tail : ∀ (p' g' a' k' : Int) (x2 x3 x4 : Option D), 0 ≤ p' → _ := fun p' g' a' k' x2 x3 x4 hp' => t_half (S := put S h (encH cs p' g' a' k')) (h := h) (cs := cs) (p := p') (g := g') (a := a') (k := k') (m := m) (x2 := x2) (x3 := x3) (x4 := x4) (F := { nx := fun _ S' => Fin R .non S', rt := Fin R }) put_same hp' hm0 hm1 fun v g2 a2 k2 h0 h1 => by rw [put_put]; exact Fin.now (hk v p' g2 a2 k2 h0 h1 hp')
  have self : put S h (encH cs p g a k) = S := put_self hS
  refine dIx_at (d := .loc h) (i := 2) (seq_loc hS) rfl ?_
  refine dEq_int ?_
  by_cases h1 : g = 0
  · rw [dT h1]
    refine dIx_at (d := .loc h) (i := 1) (seq_loc hS) rfl ?_
    refine dIx_at (d := .loc h) (i := 0) (seq_loc hS) rfl ?_
    show (match decide (p < ((cs.map D.int).length : Int)) with
      | true => _
      | false => _)
    by_cases h2 : p < ((cs.map D.int).length : Int)
    · rw [dT h2]
      rw [List.length_map] at h2
      obtain ⟨c, hc⟩ : ∃ c, cs[p.toNat]? = some c := ⟨_, List.getElem?_eq_getElem (by omega)⟩
      refine dIx_at (d := .loc h) (i := 0) (seq_loc hS) rfl ?_
      refine dIx_at (d := .loc h) (i := 1) (seq_loc hS) rfl ?_
      have hpp : p = ((p.toNat : Nat) : Int) := by omega
      refine dIx_at (d := .lst (cs.map D.int)) (i := p) (S := S) (x := .int c) rfl (by rw [hpp]; exact Dd.atI_nat (get_map hc)) ?_
      refine i_add (rd1 hS) (lits 1 _ _) fun z hz => ?_
      refine lput (n := 1) (j := 1) hS rfl ?_
      have e2 : put S h (.lst ([D.lst (cs.map D.int), .int p, .int g, .int a, .int k].set 1 (.int z))) = put S h (encH cs z g a k) := rfl
      rw [e2]
      have hS2 : (put S h (encH cs z g a k)) h = some (encH cs z g a k) := put_same
      refine i_mod (y := 2147483629) (fun Q k1 => i_int (fun Q k2 => i_add (fun Q k3 => i_add (fun Q k4 => i_mul (rd3 hS2) (lits 69621 _ _) (.inr ⟨by decide, by decide⟩) fun z hz => by subst hz; exact k4) (fun Q k => k) fun z hz => by subst hz; exact k3) (lits 29 _ _) fun z hz => by subst hz; exact k2) k1) (lits _ _ _) (by decide) fun y h3 h4 => ?_
      refine lput (n := 3) (j := 3) hS2 rfl ?_
      have e3 : put (put S h (encH cs z g a k)) h (.lst ([D.lst (cs.map D.int), .int z, .int g, .int a, .int k].set 3 (.int y))) = put S h (encH cs z g y k) := put_put
      rw [e3]
      have hS3 : (put S h (encH cs z g y k)) h = some (encH cs z g y k) := put_same
      refine ⟨⟨by decide, by decide, by decide⟩, ?_⟩
      show (match decide (((10 : Int) ^ (18 : Int).toNat) ≤ c) with
        | true => _
        | false => _)
      by_cases h5 : ((10 : Int) ^ (18 : Int).toNat) ≤ c
      · rw [dT h5]
        refine lput (n := 2) (j := 2) hS3 rfl ?_
        have e4 : put (put S h (encH cs z g y k)) h (.lst ([D.lst (cs.map D.int), .int z, .int g, .int y, .int k].set 2 (.int c))) = put S h (encH cs z c y k) := put_put
        rw [e4]
        exact tail z c y k _ _ _ (by omega)
      · rw [dF h5]
        exact tail z g y k _ _ _ (by omega)
    · rw [dF h2]
      have := tail p g a k none none none hp
      rw [self] at this
      exact this
  · rw [dF h1]
    have := tail p g a k none none none hp
    rw [self] at this
    exact this
end K94
set_option Elab.async false
set_option linter.all false
set_option maxRecDepth 100000
set_option maxHeartbeats 1000000
namespace K94
open PySem PySem.Spec PyProof.Rows L2 Dd Mir K78
/-! ### the hand's place -/
abbrev HS (S : Sto) (h : Addr) : Prop := ∃ cs p g a k, 0 ≤ p ∧ S h = some (encH cs p g a k)
abbrev Hn (S : Sto) (h : Addr) (S' : Sto) : Prop := ∃ cs p g a k, 0 ≤ p ∧ S' = put S h (encH cs p g a k)
section
variable {S S1 S2 S' : Sto} {h b T : Addr} {o : SO} {R : DQ} {m : Int}
theorem Hn.hs (x : Hn S h S') : HS S' h := by
  obtain ⟨cs, p, g, a, k, hp, rfl⟩ := x
  exact ⟨cs, p, g, a, k, hp, put_same⟩
theorem Hn.trans (x : Hn S h S1) (y : Hn S1 h S2) : Hn S h S2 := by
  obtain ⟨cs, p, g, a, k, hp, rfl⟩ := x
  obtain ⟨cs, p, g, a, k, hp, rfl⟩ := y
  exact ⟨cs, p, g, a, k, hp, by rw [put_put]⟩
theorem Hn.refl (x : HS S h) : Hn S h S := by
  obtain ⟨cs, p, g, a, k, hp, e⟩ := x
  exact ⟨cs, p, g, a, k, hp, (put_self e).symm⟩
theorem Hn.ne (x : Hn S h S') (e : b ≠ h) : S' b = S b := by
  obtain ⟨cs, p, g, a, k, hp, rfl⟩ := x
  rw [put_ne e]
theorem HS.nT (x : HS S h) (hT : S T = none) : T ≠ h := fun z => by
  obtain ⟨cs, p, g, a, k, hp, e⟩ := x
  rw [z, e] at hT; cases hT
theorem HS.under (x : HS S h) (hT : S T = none) : HS (put S T o) h := by
  have := x.nT hT
  obtain ⟨cs, p, g, a, k, hp, e⟩ := x
  exact ⟨cs, p, g, a, k, hp, by rw [put_ne fun z => this z.symm]; exact e⟩
theorem Hn.under (x : HS S h) (hT : S T = none) (y : Hn (put S T o) h S2) : ∃ S3, S2 = put S3 T o ∧ Hn S h S3 ∧ S3 T = none := by
  have ne := x.nT hT
  obtain ⟨cs, p, g, a, k, hp, rfl⟩ := y
  exact ⟨put S h (encH cs p g a k), put_comm ne, ⟨cs, p, g, a, k, hp, rfl⟩, by rw [put_ne ne]; exact hT⟩
theorem draw_i (x : HS S h) (h0 : 0 < m) (h1 : m < 1000000) (q : ∀ v S', 0 ≤ v → v < m → Hn S h S' → R (.int v) S') : c__law_draw [.loc h, .int m] S R := by
  obtain ⟨cs, p, g, a, k, hp, e⟩ := x
  exact i__law_draw ⟨h, cs, p, g, a, k, m, rfl, e, hp, h0, h1, fun v p' g' a' k' v0 v1 hp' => q v _ v0 v1 ⟨cs, p', g', a', k', hp', rfl⟩⟩
/-- .. under a list that is being made -/
theorem draw_u (x : Hn S1 h S) (hT : S T = none) (h0 : 0 < m) (h1 : m < 1000000) (q : ∀ v S', 0 ≤ v → v < m → Hn S1 h S' → S' T = none → R (.int v) (put S' T o)) : c__law_draw [.loc h, .int m] (put S T o) R :=
  draw_i (x.hs.under hT) h0 h1 fun v S2 v0 v1 hn => by
    obtain ⟨S3, rfl, y, hT3⟩ := Hn.under x.hs hT hn
    exact q v S3 v0 v1 (x.trans y) hT3
end
@[irreducible] def c__law_some : DC := fun ds S R => ∃ h xs, ds = [.loc h, .lst xs] ∧ HS S h ∧ xs ≠ [] ∧ xs.length < 1000000 ∧ ∀ x S', x ∈ xs → Hn S h S' → R x S'
theorem i__law_some {ds : List D} {S : Sto} {R : DQ} (h : ∃ h xs, ds = [.loc h, .lst xs] ∧ HS S h ∧ xs ≠ [] ∧ xs.length < 1000000 ∧ ∀ x S', x ∈ xs → Hn S h S' → R x S') : c__law_some ds S R := by unfold c__law_some; exact h
theorem u__law_some {ds : List D} {S : Sto} {R : DQ} (h : c__law_some ds S R) : ∃ h xs, ds = [.loc h, .lst xs] ∧ HS S h ∧ xs ≠ [] ∧ xs.length < 1000000 ∧ ∀ x S', x ∈ xs → Hn S h S' → R x S' := by unfold c__law_some at h; exact h
def w__law_some : DS := (sRet (w2 dIx (wVar 1) (wCall c__law_draw (aCons (wVar 0) (aCons (wCall dLen (aCons (wVar 1) aNil)) aNil)))))
theorem q__law_some : Qd w__law_some 2 c__law_some := by
  intro ds S R hc0
  obtain ⟨h, xs, rfl, hh, hn, hz, hk⟩ := u__law_some hc0
  have h0 : 0 < xs.length := List.length_pos_iff.mpr hn
  refine draw_i hh (m := (xs.length : Int)) (by omega) (by omega) fun v S' v0 v1 hS' => ?_
  have hx : xs[v.toNat]? = some (xs[v.toNat]'(by omega)) := List.getElem?_eq_getElem _
  have hv : v = ((v.toNat : Nat) : Int) := by omega
  refine dIx_at (d := .lst xs) (i := v) (x := xs[v.toNat]'(by omega)) rfl ?_ ?_
  · have := Dd.atI_nat hx
    rw [← hv] at this; exact this
  · exact Fin.now (hk _ _ (List.getElem_mem _) hS')
@[irreducible] def c__law_size : DC := fun ds S R => ∃ form : List Int, ds = [eI form] ∧ (∀ m ∈ form, 2 ≤ m ∧ m ≤ 6) ∧ R (.int (prod form)) S
theorem i__law_size {ds : List D} {S : Sto} {R : DQ} (h : ∃ form : List Int, ds = [eI form] ∧ (∀ m ∈ form, 2 ≤ m ∧ m ≤ 6) ∧ R (.int (prod form)) S) : c__law_size ds S R := by unfold c__law_size; exact h
theorem u__law_size {ds : List D} {S : Sto} {R : DQ} (h : c__law_size ds S R) : ∃ form : List Int, ds = [eI form] ∧ (∀ m ∈ form, 2 ≤ m ∧ m ≤ 6) ∧ R (.int (prod form)) S := by unfold c__law_size at h; exact h
def w__law_size : DS := (sSeq (sAsg (wC (.int 1)) (gN 1)) (sSeq (sFor (iSeq (wVar 0)) (gN 2) (sAsg (wMul (wVar 1) (wVar 2)) (gN 1))) (sRet (wVar 1))))
theorem q__law_size : Qd w__law_size 3 c__law_size := by
  intro ds S R hc0
  obtain ⟨form, rfl, hm, h⟩ := u__law_size hc0
  show forD _ _ _ _ (form.map D.int) [some (eI form), some (.int 1), none] S
  refine for_by D.int (fun r env S' => S' = S ∧ ∃ x p, env = [some (eI form), some (.int p), x] ∧ p * prod r = prod form ∧ ∀ x ∈ r, 2 ≤ x ∧ x ≤ 6) ?_ ?_ form _ S ?_
  · rintro env S' ⟨rfl, x, p, rfl, hp, -⟩
    refine ⟨trivial, ?_⟩
    have e : p = prod form := by simpa [prod] using hp
    subst e
    exact Fin.now h
  · rintro m r env S' N hN ⟨rfl, x, p, rfl, hp, hm⟩
    refine ⟨trivial, ?_⟩
    have := hm m List.mem_cons_self
    have e : p * m * prod r = p * prod (m :: r) := by show _ = p * (m * prod r); rw [Int.mul_assoc]
    refine ⟨.inr ⟨by omega, by omega⟩, hN _ _ ⟨rfl, some (.int m), p * m, rfl, by rw [e]; exact hp, fun x hx => hm x (List.mem_cons_of_mem _ hx)⟩⟩
  · exact ⟨rfl, none, 1, rfl, Int.one_mul _, hm⟩
theorem prod_snoc : ∀ (xs : List Int) (m : Int), prod (xs ++ [m]) = prod xs * m
  | [], m => by show m * 1 = 1 * m; omega
  | x :: xs, m => by show x * prod (xs ++ [m]) = x * prod xs * m; rw [prod_snoc, Int.mul_assoc]
@[irreducible] def c__law_form : DC := fun ds S R => ∃ h, ds = [.loc h, .int 4, .int 60] ∧ HS S h ∧ ∀ form S', Sm form → Hn S h S' → R (eI form) S'
theorem i__law_form {ds : List D} {S : Sto} {R : DQ} (h : ∃ h, ds = [.loc h, .int 4, .int 60] ∧ HS S h ∧ ∀ form S', Sm form → Hn S h S' → R (eI form) S') : c__law_form ds S R := by unfold c__law_form; exact h
theorem u__law_form {ds : List D} {S : Sto} {R : DQ} (h : c__law_form ds S R) : ∃ h, ds = [.loc h, .int 4, .int 60] ∧ HS S h ∧ ∀ form S', Sm form → Hn S h S' → R (eI form) S' := by unfold c__law_form at h; exact h
def w__law_form : DS := (sSeq (sAsg (wTup (aCons (wAdd (wC (.int 2)) (wCall c__law_draw (aCons (wVar 0) (aCons (wC (.int 3)) aNil)))) aNil)) (gN 3)) (sSeq (sFor (iR1 (aCons (wCall c__law_draw (aCons (wVar 0) (aCons (wVar 1) aNil))) aNil)) (gN 4) (sSeq (sAsg (wAdd (wC (.int 2)) (wCall c__law_draw (aCons (wVar 0) (aCons (wCall c__law_some (aCons (wVar 0) (aCons (wLst (aCons (wC (.int 1)) (aCons (wC (.int 2)) (aCons (wC (.int 3)) aNil)))) aNil))) aNil)))) (gN 5)) (sIf (asB (w2 dLe (wMul (wCall c__law_size (aCons (wVar 3) aNil)) (wVar 5)) (wVar 2))) (sAsg (wAdd (wVar 3) (wTup (aCons (wVar 5) aNil))) (gN 3)) sNil))) (sRet (wVar 3))))
theorem q__law_form : Qd w__law_form 6 c__law_form := by
  intro ds S R hc0
  obtain ⟨h, rfl, hh, hk⟩ := u__law_form hc0
  refine draw_i hh (by decide) (by decide) fun v S1 v0 v1 hn1 => ?_
  refine ⟨sz (Nat.le_of_ble_eq_true rfl), ?_⟩
  refine draw_i hn1.hs (by decide) (by decide) fun n S2 n0 n1 hn2 => ?_
  refine ⟨⟨by omega, by omega⟩, ?_⟩
  refine for_rng n.toNat (fun i env S' => Hn S h S' ∧ ∃ form x4 x5, env = [some (.loc h), some (.int 4), some (.int 60), some (eI form), x4, x5] ∧ 1 ≤ form.length ∧ form.length ≤ i + 1 ∧ (∀ m ∈ form, 2 ≤ m ∧ m ≤ 4) ∧ prod form ≤ 60) ?_ ?_ ⟨hn1.trans hn2, [2 + v], none, none, rfl, Nat.le_refl _, Nat.le_refl _, fun m hm => by rw [List.mem_singleton] at hm; omega, by show (2 + v) * 1 ≤ 60; omega⟩
  · rintro env S' ⟨hn, form, x4, x5, rfl, l1, l4, hm, hp⟩
    refine ⟨trivial, ?_⟩
    exact Fin.now (hk form S' ⟨⟨l1, by omega, fun m h => by have := hm m h; omega, by omega⟩, by omega, fun m h => (hm m h).2, hp⟩ hn)
  · rintro i env S' N hi hN ⟨hn, form, x4, x5, rfl, l1, l4, hm, hp⟩
    refine ⟨trivial, ?_⟩
    refine ⟨sz (Nat.le_of_ble_eq_true rfl), ?_⟩
    refine i__law_some ⟨h, _, rfl, hn.hs, by simp, Nat.lt_of_sub_eq_succ rfl, fun x S3 hx hn3 => ?_⟩
    obtain ⟨k, rfl, k1, k3⟩ : ∃ k : Int, x = .int k ∧ 1 ≤ k ∧ k ≤ 3 := by
      simp only [List.mem_cons, List.not_mem_nil, or_false] at hx
      rcases hx with rfl | rfl | rfl
      · exact ⟨1, rfl, by decide, by decide⟩
      · exact ⟨2, rfl, by decide, by decide⟩
      · exact ⟨3, rfl, by decide, by decide⟩
    refine draw_i hn3.hs (by omega) (by omega) fun w S4 w0 w1 hn4 => ?_
    refine i__law_size ⟨form, rfl, fun m h => by have := hm m h; omega, ?_⟩
    refine ⟨.inr ⟨by omega, by omega⟩, ?_⟩
    have hall := (hn.trans hn3).trans hn4
    show (match decide (prod form * (2 + w) ≤ 60) with
      | true => _
      | false => _)
    by_cases e : prod form * (2 + w) ≤ 60
    · rw [dT e]
      refine ⟨sz (Nat.le_of_ble_eq_true rfl), sz (by rw [List.length_map]; show _ + 1 ≤ _; omega), ?_⟩
      refine hN _ _ ⟨hall, form ++ [2 + w], some (.int (i : Int)), some (.int (2 + w)), ?_, by simp, by simp; omega, fun m h => ?_, by rw [prod_snoc]; exact e⟩
      · show [some (D.loc h), some (.int 4), some (.int 60), some (.tup (form.map D.int ++ [.int (2 + w)])), _, _] = _
        rw [show eI (form ++ [2 + w]) = .tup (form.map D.int ++ [.int (2 + w)]) by show D.tup ((form ++ [2 + w]).map D.int) = _; rw [List.map_append]; rfl]
      · rcases List.mem_append.mp h with h | h
        · exact hm m h
        · rw [List.mem_singleton] at h; omega
    · rw [dF e]
      exact hN _ _ ⟨hall, form, some (.int (i : Int)), some (.int (2 + w)), rfl, l1, by omega, hm, hp⟩
theorem each_sub {α : Type} : ∀ {xs : List α} {os : List (Option α)}, Each (fun x o => o = none ∨ o = some x) xs os → (os.filterMap id).Sublist xs := by
  intro xs os h
  refine Each.ind (C := fun xs os => (os.filterMap id).Sublist xs) (List.Sublist.refl _) (fun x o xs os hx _ ih => ?_) h
  rw [List.filterMap_cons]
  rcases hx with rfl | rfl
  · exact ih.cons x
  · exact ih.cons_cons x
@[irreducible] def c__law_lot : DC := fun ds S R => ∃ h, ∃ m : Int, ds = [.loc h, .int m] ∧ HS S h ∧ 2 ≤ m ∧ m ≤ 6 ∧ ∀ l S', VLot m l → Hn S h S' → R (eI l) S'
theorem i__law_lot {ds : List D} {S : Sto} {R : DQ} (h : ∃ h, ∃ m : Int, ds = [.loc h, .int m] ∧ HS S h ∧ 2 ≤ m ∧ m ≤ 6 ∧ ∀ l S', VLot m l → Hn S h S' → R (eI l) S') : c__law_lot ds S R := by unfold c__law_lot; exact h
theorem u__law_lot {ds : List D} {S : Sto} {R : DQ} (h : c__law_lot ds S R) : ∃ h, ∃ m : Int, ds = [.loc h, .int m] ∧ HS S h ∧ 2 ≤ m ∧ m ≤ 6 ∧ ∀ l S', VLot m l → Hn S h S' → R (eI l) S' := by unfold c__law_lot at h; exact h
def w__law_lot : DS := (sSeq (sAsg (wCall dTuple (aCons (wLc (iR1 (aCons (wVar 1) aNil)) (gN 3) (asB (w2 dEq (wCall c__law_draw (aCons (wVar 0) (aCons (wC (.int 2)) aNil))) (wC (.int 0)))) (wVar 3) [3]) aNil)) (gN 2)) (sRet (wIf (asB (w2 dGt (wCall dLen (aCons (wVar 2) aNil)) (wC (.int 0)))) (wVar 2) (wTup (aCons (wCall c__law_draw (aCons (wVar 0) (aCons (wVar 1) aNil))) aNil)))))
theorem q__law_lot : Qd w__law_lot 4 c__law_lot := by
  intro ds S R hc0
  obtain ⟨h, m, rfl, hh, m2, m6, hk⟩ := u__law_lot hc0
  refine ⟨⟨by omega, by omega⟩, ?_⟩
  rw [rngD_rng]
  refine lc_gen (rng m) D.int D.int (fun v o => o = none ∨ o = some v) (Hn S h) (sz (by rw [rng_len]; omega)) (fun _ _ _ _ _ => trivial) ?_ ?_ (Hn.refl hh)
  · intro v hv S' T acc hG hT Kt Kf kt kf
    refine draw_u hG hT (by decide) (by decide) fun u S2 u0 u1 hG2 hT2 => ?_
    refine dEq_int ?_
    by_cases e : u = 0
    · rw [dT e]; exact kt v S2 (.inr rfl) hG2 hT2
    · rw [dF e]; exact kf S2 (.inl rfl) hG2 hT2
  · intro os S' hos hG
    have sub := each_sub hos
    show (match decide ((0 : Int) < (((os.filterMap id).map D.int).length : Int)) with
      | true => _
      | false => _)
    by_cases e : os.filterMap id = []
    · rw [dF (by rw [e]; decide)]
      refine draw_i hG.hs (by omega) (by omega) fun u S2 u0 u1 hG2 => ?_
      exact ⟨sz (Nat.le_of_ble_eq_true rfl), Fin.now (hk [u] S2 (VLot.one ⟨u0, u1⟩) (hG.trans hG2))⟩
    · rw [dT (by rw [List.length_map]; have := List.length_pos_iff.mpr e; omega)]
      exact Fin.now (hk _ S' ⟨e, (rng_lt m).sublist sub, fun v hv => mem_rng.mp (sub.subset hv)⟩ hG)
@[irreducible] def c__law_box : DC := fun ds S R => ∃ h form, ds = [.loc h, eI form] ∧ HS S h ∧ VForm form ∧ ∀ b S', VBox form b → Hn S h S' → R (eB b) S'
theorem i__law_box {ds : List D} {S : Sto} {R : DQ} (h : ∃ h form, ds = [.loc h, eI form] ∧ HS S h ∧ VForm form ∧ ∀ b S', VBox form b → Hn S h S' → R (eB b) S') : c__law_box ds S R := by unfold c__law_box; exact h
theorem u__law_box {ds : List D} {S : Sto} {R : DQ} (h : c__law_box ds S R) : ∃ h form, ds = [.loc h, eI form] ∧ HS S h ∧ VForm form ∧ ∀ b S', VBox form b → Hn S h S' → R (eB b) S' := by unfold c__law_box at h; exact h
def w__law_box : DS := (sRet (wCall dTuple (aCons (wLc (iSeq (wVar 1)) (gN 2) tYes' (wIf (asB (w2 dEq (wCall c__law_draw (aCons (wVar 0) (aCons (wC (.int 2)) aNil))) (wC (.int 0)))) (wCall c__law_lot (aCons (wVar 0) (aCons (wVar 2) aNil))) (wCall dTuple (aCons (wLstRg (rg1 (wVar 2))) aNil))) [2]) aNil)))
theorem q__law_box : Qd w__law_box 3 c__law_box := by
  intro ds S R hc0
  obtain ⟨h, form, rfl, hh, hf, hk⟩ := u__law_box hc0
  have h8 := hf.l8
  refine lc_rel form D.int eI VLot (Hn S h) (sz (by omega)) (fun _ _ _ _ _ => trivial) ?_ (fun b S' hb hG => Fin.now (hk b S' hb hG)) (Hn.refl hh)
  intro m hm S' T acc hG hT Kt Kf kt
  have hm2 := hf.m m hm
  refine draw_u hG hT (by decide) (by decide) fun u S2 u0 u1 hG2 hT2 => ?_
  refine dEq_int ?_
  by_cases e : u = 0
  · rw [dT e]
    refine i__law_lot ⟨h, m, rfl, hG2.hs.under hT2, hm2.1, hm2.2, fun l S3 hl hn => ?_⟩
    obtain ⟨S4, rfl, y, hT4⟩ := Hn.under hG2.hs hT2 hn
    exact kt l S4 hl (hG2.trans y) hT4
  · rw [dF e]
    refine ⟨⟨by omega, by omega, by omega, by omega, by omega⟩, ?_⟩
    rw [Int.sub_zero, rngD_rng]
    exact kt (rng m) S2 (VLot.ofRng (by omega)) hG2 hT2
@[irreducible] def c__law_rules : DC := fun ds S R => ∃ h form, ds = [.loc h, eI form, .int 6] ∧ HS S h ∧ VForm form ∧ ∀ rules S', VRules form rules → Hn S h S' → R (eRs rules) S'
theorem i__law_rules {ds : List D} {S : Sto} {R : DQ} (h : ∃ h form, ds = [.loc h, eI form, .int 6] ∧ HS S h ∧ VForm form ∧ ∀ rules S', VRules form rules → Hn S h S' → R (eRs rules) S') : c__law_rules ds S R := by unfold c__law_rules; exact h
theorem u__law_rules {ds : List D} {S : Sto} {R : DQ} (h : c__law_rules ds S R) : ∃ h form, ds = [.loc h, eI form, .int 6] ∧ HS S h ∧ VForm form ∧ ∀ rules S', VRules form rules → Hn S h S' → R (eRs rules) S' := by unfold c__law_rules at h; exact h
def w__law_rules : DS := (sRet (wCall dTuple (aCons (wLc (iR1 (aCons (wCall c__law_draw (aCons (wVar 0) (aCons (wAdd (wVar 2) (wC (.int 1))) aNil))) aNil)) (gN 3) tYes' (wCall c__law_box (aCons (wVar 0) (aCons (wVar 1) aNil))) [3]) aNil)))
theorem q__law_rules : Qd w__law_rules 4 c__law_rules := by
  intro ds S R hc0
  obtain ⟨h, form, rfl, hh, hf, hk⟩ := u__law_rules hc0
  refine draw_i hh (by decide) (by decide) fun n S1 n0 n1 hn1 => ?_
  have n1 : n < 7 := n1
  refine ⟨⟨by omega, by omega⟩, ?_⟩
  rw [rngD_rng]
  refine lc_rel (rng n) D.int eB (fun _ b => VBox form b) (Hn S h) (sz (by rw [rng_len]; omega)) (fun _ _ _ _ _ => trivial) ?_ (fun bs S' hb hG => Fin.now (hk bs S' ⟨fun b hbm => ?_, by rw [hb.1, rng_len]; omega⟩ hG)) hn1
  · intro m hm S' T acc hG hT Kt Kf kt
    refine i__law_box ⟨h, form, rfl, hG.hs.under hT, hf, fun b S3 hb hn => ?_⟩
    obtain ⟨S4, rfl, y, hT4⟩ := Hn.under hG.hs hT hn
    exact kt b S4 hb (hG.trans y) hT4
  · obtain ⟨i, hi⟩ := List.getElem?_of_mem hbm
    have hlt : i < (rng n).length := by rw [← hb.1]; exact (List.getElem?_eq_some_iff.mp hi).1
    exact hb.2 i _ b (List.getElem?_eq_getElem hlt) hi
@[irreducible] def c__law_all : DC := fun ds S R => ∃ form, ds = [eI form] ∧ VForm form ∧ R (.lst ((faults form).map eI)) S
theorem i__law_all {ds : List D} {S : Sto} {R : DQ} (h : ∃ form, ds = [eI form] ∧ VForm form ∧ R (.lst ((faults form).map eI)) S) : c__law_all ds S R := by unfold c__law_all; exact h
theorem u__law_all {ds : List D} {S : Sto} {R : DQ} (h : c__law_all ds S R) : ∃ form, ds = [eI form] ∧ VForm form ∧ R (.lst ((faults form).map eI)) S := by unfold c__law_all at h; exact h
def w__law_all : DS := (sSeq (sAsg (wLst (aCons (wTup aNil) aNil)) (gN 1)) (sSeq (sFor (iSeq (wVar 0)) (gN 2) (sSeq (sAsg (wNew aNil) (gN 3)) (sSeq (sFor (iSeq (wVar 1)) (gN 4) (sDrop (wMt dExt (wVar 3) (aCons (wLc (iR1 (aCons (wVar 2) aNil)) (gN 5) tYes' (wAdd (wVar 4) (wTup (aCons (wVar 5) aNil))) [5]) aNil)))) (sAsg (wVar 3) (gN 1))))) (sRet (wVar 1))))
theorem q__law_all : Qd w__law_all 6 c__law_all := by
  intro ds S R hc0
  obtain ⟨form, rfl, hf, h⟩ := u__law_all hc0
  refine q_grid (E := D.int) (opts := rng) hf.l8 (fun a b e => Nat.le_trans (faults_few hf a b e) (by decide)) (fun m hm => ?_) h
  have := hf.m m hm
  refine ⟨by rw [rng_len]; omega, fun x1 x3 x4 x5 S Rk k => ?_⟩
  refine ⟨⟨by omega, by omega⟩, ?_⟩
  rw [rngD_rng]; exact k
@[irreducible] def c__law_holds : DC := fun ds S R => ∃ box f, ds = [eB box, eI f] ∧ box.length ≤ 100 ∧ R (.bl (held box f)) S
theorem i__law_holds {ds : List D} {S : Sto} {R : DQ} (h : ∃ box f, ds = [eB box, eI f] ∧ box.length ≤ 100 ∧ R (.bl (held box f)) S) : c__law_holds ds S R := by unfold c__law_holds; exact h
theorem u__law_holds {ds : List D} {S : Sto} {R : DQ} (h : c__law_holds ds S R) : ∃ box f, ds = [eB box, eI f] ∧ box.length ≤ 100 ∧ R (.bl (held box f)) S := by unfold c__law_holds at h; exact h
def w__law_holds : DS := (sRet (wCall dAll (aCons (wLc (iZip2 (aCons (wVar 0) (aCons (wVar 1) aNil))) (gT 2 (gCons' (gN 2) (gCons' (gN 3) gNil'))) tYes' (w2 dIn (wVar 3) (wVar 2)) [2, 3]) aNil)))
theorem q__law_holds : Qd w__law_holds 4 c__law_holds := by
  intro ds S R hc0
  obtain ⟨box, f, rfl, hz, h⟩ := u__law_holds hc0
  refine lc_zip (xs := box) (ys := f) (E := eI) (E' := D.int) (fun p => .bl (decide (p.2 ∈ p.1))) (by omega) (fun _ _ => trivial) ?_ ?_
  · rintro ⟨l, v⟩ hp S' x Kt Kf k
    refine ⟨rfl, ?_⟩
    exact dIn_fn (E := D.int) (n := 0) eq_int (fun i => .int i) (by decide) (xs := l) rfl k
  · exact dAll_fn (Fin.now h)
@[irreducible] def c__law_lawful : DC := fun ds S R => ∃ form rules, ds = [eI form, eRs rules] ∧ VForm form ∧ VRules form rules ∧ R (.lst ((lawful form rules).map eI)) S
theorem i__law_lawful {ds : List D} {S : Sto} {R : DQ} (h : ∃ form rules, ds = [eI form, eRs rules] ∧ VForm form ∧ VRules form rules ∧ R (.lst ((lawful form rules).map eI)) S) : c__law_lawful ds S R := by unfold c__law_lawful; exact h
theorem u__law_lawful {ds : List D} {S : Sto} {R : DQ} (h : c__law_lawful ds S R) : ∃ form rules, ds = [eI form, eRs rules] ∧ VForm form ∧ VRules form rules ∧ R (.lst ((lawful form rules).map eI)) S := by unfold c__law_lawful at h; exact h
def w__law_lawful : DS := (sRet (wLc (iSeq (wCall c__law_all (aCons (wVar 0) aNil))) (gN 2) (tNot' (asB (wCall dAny (aCons (wLc (iSeq (wVar 1)) (gN 3) tYes' (wCall c__law_holds (aCons (wVar 3) (aCons (wVar 2) aNil))) [3]) aNil)))) (wVar 2) [2]))
theorem q__law_lawful : Qd w__law_lawful 4 c__law_lawful := by
  intro ds S R hc0
  obtain ⟨form, rules, rfl, hf, hr, h⟩ := u__law_lawful hc0
  have h8 := hf.l8
  refine i__law_all ⟨form, rfl, hf, ?_⟩
  refine lc_filter (faults form) eI (law rules) eI (sz (Nat.le_trans (faults_few hf form [] (by simp)) (by decide))) (fun _ _ => trivial) ?_ ?_
  · intro f hff S' ex Kt Kf k
    refine lc_all rules eB (fun r => .bl (held r f)) (sz (Nat.le_trans hr.few (by decide))) (fun _ _ => trivial) ?_ ?_
    · intro b hb S2 x Kt2 Kf2 k2
      have := (hr.all b hb).1
      exact i__law_holds ⟨b, f, rfl, by omega, k2⟩
    · refine dAny_fn ?_
      have e : law rules f = !(rules.any fun r => held r f) := rfl
      cases q : rules.any fun r => held r f with
      | true => rw [e, q] at k; exact k
      | false => rw [e, q] at k; exact k
  · exact Fin.now h
@[irreducible] def c__law_report : DC := fun ds S R => ∃ h form rules, ds = [.loc h, eI form, .lst ((lawful form rules).map eI)] ∧ HS S h ∧ VForm form ∧ ∀ r S', VRep form r → Hn S h S' → R (eR r) S'
theorem i__law_report {ds : List D} {S : Sto} {R : DQ} (h : ∃ h form rules, ds = [.loc h, eI form, .lst ((lawful form rules).map eI)] ∧ HS S h ∧ VForm form ∧ ∀ r S', VRep form r → Hn S h S' → R (eR r) S') : c__law_report ds S R := by unfold c__law_report; exact h
theorem u__law_report {ds : List D} {S : Sto} {R : DQ} (h : c__law_report ds S R) : ∃ h form rules, ds = [.loc h, eI form, .lst ((lawful form rules).map eI)] ∧ HS S h ∧ VForm form ∧ ∀ r S', VRep form r → Hn S h S' → R (eR r) S' := by unfold c__law_report at h; exact h
def w__law_report : DS := (sSeq (sAsg (wCall dTuple (aCons (wLc (iSeq (wVar 1)) (gN 4) tYes' (wCall c__law_draw (aCons (wVar 0) (aCons (wVar 4) aNil))) [4]) aNil)) (gN 3)) (sSeq (sIf (tAnd' (asB (w2 dGt (wCall dLen (aCons (wVar 2) aNil)) (wC (.int 0)))) (asB (w2 dGt (wCall c__law_draw (aCons (wVar 0) (aCons (wC (.int 5)) aNil))) (wC (.int 0))))) (sAsg (wCall c__law_some (aCons (wVar 0) (aCons (wVar 2) aNil))) (gN 3)) sNil) (sRet (wCall dTuple (aCons (wLc (iSeq (wVar 3)) (gN 5) tYes' (wIf (asB (w2 dEq (wCall c__law_draw (aCons (wVar 0) (aCons (wC (.int 2)) aNil))) (wC (.int 0)))) (wVar 5) (wC .non)) [5]) aNil)))))
theorem q__law_report : Qd w__law_report 6 c__law_report := by
  intro ds S R hc0
  obtain ⟨h, form, rules, rfl, hh, hf, hk⟩ := u__law_report hc0
  have h8 := hf.l8
  refine lc_rel form D.int D.int (fun m v => 0 ≤ v ∧ v < m) (Hn S h) (sz (by omega)) (fun _ _ _ _ _ => trivial) ?_ ?_ (Hn.refl hh)
  · intro m hm S' T acc hG hT Kt Kf kt
    have hm2 := hf.m m hm
    exact draw_u hG hT (by omega) (by omega) fun u S2 u0 u1 hG2 hT2 => kt u S2 ⟨u0, u1⟩ hG2 hT2
  · intro f S1 hfl hG
    have fin : ∀ (f : List Int) (x4 x5 : Option D) (S2 : Sto), VFlt form f → Hn S h S2 → (sRet (wCall dTuple (aCons (wLc (iSeq (wVar 3)) (gN 5) tYes' (wIf (asB (w2 dEq (wCall c__law_draw (aCons (wVar 0) (aCons (wC (.int 2)) aNil))) (wC (.int 0)))) (wVar 5) (wC .non)) [5]) aNil))) { nx := fun _ S' => Dd.Fin R .non S', rt := Dd.Fin R } [some (.loc h), some (eI form), some (.lst ((lawful form rules).map eI)), some (eI f), x4, x5] S2 := fun f x4 x5 S2 hvf hG2 => by
      refine lc_rel f D.int eO (fun v o => o = none ∨ o = some v) (Hn S h) (sz (by rw [hvf.1]; omega)) (fun _ _ _ _ _ => trivial) ?_ ?_ hG2
      · intro v hv S' T acc hG hT Kt Kf kt
        refine draw_u hG hT (by decide) (by decide) fun u S2 u0 u1 hG2 hT2 => ?_
        refine dEq_int ?_
        by_cases e : u = 0
        · rw [dT e]; exact kt (some v) S2 (.inr rfl) hG2 hT2
        · rw [dF e]; exact kt none S2 (.inl rfl) hG2 hT2
      · intro r S' hr hG
        refine Fin.now (hk r S' ⟨by rw [hr.1, hvf.1], fun i m o hm ho v hv => ?_⟩ hG)
        have hi : i < f.length := by rw [← hr.1]; exact (List.getElem?_eq_some_iff.mp ho).1
        have g := List.getElem?_eq_getElem hi
        subst hv
        rcases hr.2 i _ _ g ho with z | z
        · cases z
        · have z := Option.some.inj z
          subst z
          exact hvf.2 i m _ hm g
    show (match decide ((0 : Int) < (((lawful form rules).map eI).length : Int)) with
      | true => _
      | false => _)
    by_cases e : lawful form rules = []
    · rw [dF (by rw [e]; decide)]
      exact fin f _ _ S1 hfl hG
    · rw [dT (by rw [List.length_map]; have := List.length_pos_iff.mpr e; omega)]
      refine draw_i hG.hs (by decide) (by decide) fun u S2 u0 u1 hG2 => ?_
      show (match decide ((0 : Int) < u) with
        | true => _
        | false => _)
      by_cases eu : 0 < u
      · rw [dT eu]
        refine i__law_some ⟨h, _, rfl, hG2.hs, by simpa using e, by rw [List.length_map]; have := lawful_few (rules := rules) hf; omega, fun x S3 hx hG3 => ?_⟩
        obtain ⟨g, hg, rfl⟩ := List.mem_map.mp hx
        exact fin g _ _ S3 (mem_lawful.mp hg).1 ((hG.trans hG2).trans hG3)
      · rw [dF eu]
        exact fin f _ _ S2 hfl (hG.trans hG2)
end K94
set_option Elab.async false
set_option linter.all false
set_option maxRecDepth 100000
set_option maxHeartbeats 4000000
namespace K94
open PySem PySem.Spec PyProof.Rows L2 Dd
abbrev TX (P : Program) (K : PySem.W.Frag) (mg : Str → Option Value) : Prop := TxX fa fn fx file K mg ∧ P.main.file = file ∧ (P.main.scope.names.lookup ("super" : Str)).isSome = false
section
variable {P : Program} {K : PySem.W.Frag} {mg : Str → Option Value}
theorem g_is_integer (T : TX P K mg) : mg "is_integer" = some (.ref (He.ga K "is_integer")) := T.1.1.glo 0
theorem g_is_within (T : TX P K mg) : mg "is_within" = some (.ref (He.ga K "is_within")) := T.1.1.glo 1
theorem g_is_tuple (T : TX P K mg) : mg "is_tuple" = some (.ref (He.ga K "is_tuple")) := T.1.1.glo 2
theorem g_is_lot (T : TX P K mg) : mg "is_lot" = some (.ref (He.ga K "is_lot")) := T.1.1.glo 3
theorem g_is_form (T : TX P K mg) : mg "is_form" = some (.ref (He.ga K "is_form")) := T.1.1.glo 4
theorem g_check_form (T : TX P K mg) : mg "check_form" = some (.ref (He.ga K "check_form")) := T.1.1.glo 5
theorem g_report_in (T : TX P K mg) : mg "report_in" = some (.ref (He.ga K "report_in")) := T.1.1.glo 6
theorem g_fault_in (T : TX P K mg) : mg "fault_in" = some (.ref (He.ga K "fault_in")) := T.1.1.glo 7
theorem g_box_in (T : TX P K mg) : mg "box_in" = some (.ref (He.ga K "box_in")) := T.1.1.glo 8
theorem g_check_box (T : TX P K mg) : mg "check_box" = some (.ref (He.ga K "check_box")) := T.1.1.glo 9
theorem g_check_report (T : TX P K mg) : mg "check_report" = some (.ref (He.ga K "check_report")) := T.1.1.glo 10
theorem g_held (T : TX P K mg) : mg "held" = some (.ref (He.ga K "held")) := T.1.1.glo 11
theorem g_agreeing (T : TX P K mg) : mg "agreeing" = some (.ref (He.ga K "agreeing")) := T.1.1.glo 12
theorem g_lies (T : TX P K mg) : mg "lies" = some (.ref (He.ga K "lies")) := T.1.1.glo 13
theorem g_meeting (T : TX P K mg) : mg "meeting" = some (.ref (He.ga K "meeting")) := T.1.1.glo 14
theorem g_whole_box (T : TX P K mg) : mg "whole_box" = some (.ref (He.ga K "whole_box")) := T.1.1.glo 15
theorem g_report_box (T : TX P K mg) : mg "report_box" = some (.ref (He.ga K "report_box")) := T.1.1.glo 16
theorem g_with_lot (T : TX P K mg) : mg "with_lot" = some (.ref (He.ga K "with_lot")) := T.1.1.glo 17
theorem g_all_faults (T : TX P K mg) : mg "all_faults" = some (.ref (He.ga K "all_faults")) := T.1.1.glo 18
theorem g_box_of (T : TX P K mg) : mg "box_of" = some (.ref (He.ga K "box_of")) := T.1.1.glo 19
theorem g_within (T : TX P K mg) : mg "within" = some (.ref (He.ga K "within")) := T.1.1.glo 20
theorem g_common (T : TX P K mg) : mg "common" = some (.ref (He.ga K "common")) := T.1.1.glo 21
theorem g_are_rules (T : TX P K mg) : mg "are_rules" = some (.ref (He.ga K "are_rules")) := T.1.1.glo 22
theorem g_is_lawful (T : TX P K mg) : mg "is_lawful" = some (.ref (He.ga K "is_lawful")) := T.1.1.glo 23
theorem g_listed (T : TX P K mg) : mg "listed" = some (.ref (He.ga K "listed")) := T.1.1.glo 24
theorem g_check_field (T : TX P K mg) : mg "check_field" = some (.ref (He.ga K "check_field")) := T.1.1.glo 25
theorem g_joining (T : TX P K mg) : mg "joining" = some (.ref (He.ga K "joining")) := T.1.1.glo 26
theorem g_box_of_step (T : TX P K mg) : mg "box_of_step" = some (.ref (He.ga K "box_of_step")) := T.1.1.glo 27
theorem g_box_derived (T : TX P K mg) : mg "box_derived" = some (.ref (He.ga K "box_derived")) := T.1.1.glo 28
theorem g_derived (T : TX P K mg) : mg "derived" = some (.ref (He.ga K "derived")) := T.1.1.glo 29
theorem g_derivation_of (T : TX P K mg) : mg "derivation_of" = some (.ref (He.ga K "derivation_of")) := T.1.1.glo 30
theorem g_cut (T : TX P K mg) : mg "cut" = some (.ref (He.ga K "cut")) := T.1.1.glo 31
theorem g_bars (T : TX P K mg) : mg "bars" = some (.ref (He.ga K "bars")) := T.1.1.glo 32
theorem g_taken_in (T : TX P K mg) : mg "taken_in" = some (.ref (He.ga K "taken_in")) := T.1.1.glo 33
theorem g_joined_at (T : TX P K mg) : mg "joined_at" = some (.ref (He.ga K "joined_at")) := T.1.1.glo 34
theorem g_greatest_boxes (T : TX P K mg) : mg "greatest_boxes" = some (.ref (He.ga K "greatest_boxes")) := T.1.1.glo 35
theorem g_is_part_of (T : TX P K mg) : mg "is_part_of" = some (.ref (He.ga K "is_part_of")) := T.1.1.glo 36
theorem g_filter_in (T : TX P K mg) : mg "filter_in" = some (.ref (He.ga K "filter_in")) := T.1.1.glo 37
theorem g_check_filter (T : TX P K mg) : mg "check_filter" = some (.ref (He.ga K "check_filter")) := T.1.1.glo 38
theorem g_lets (T : TX P K mg) : mg "lets" = some (.ref (He.ga K "lets")) := T.1.1.glo 39
theorem g_cut_out (T : TX P K mg) : mg "cut_out" = some (.ref (He.ga K "cut_out")) := T.1.1.glo 40
theorem g_region (T : TX P K mg) : mg "region" = some (.ref (He.ga K "region")) := T.1.1.glo 41
theorem g_boxes_for (T : TX P K mg) : mg "boxes_for" = some (.ref (He.ga K "boxes_for")) := T.1.1.glo 42
theorem g_inside (T : TX P K mg) : mg "inside" = some (.ref (He.ga K "inside")) := T.1.1.glo 43
theorem g_outside (T : TX P K mg) : mg "outside" = some (.ref (He.ga K "outside")) := T.1.1.glo 44
theorem g_met_boxes (T : TX P K mg) : mg "met_boxes" = some (.ref (He.ga K "met_boxes")) := T.1.1.glo 45
theorem g_agreeing_faults (T : TX P K mg) : mg "agreeing_faults" = some (.ref (He.ga K "agreeing_faults")) := T.1.1.glo 46
theorem g_word_of (T : TX P K mg) : mg "word_of" = some (.ref (He.ga K "word_of")) := T.1.1.glo 47
theorem g_notice (T : TX P K mg) : mg "notice" = some (.ref (He.ga K "notice")) := T.1.1.glo 48
theorem g_are_shown (T : TX P K mg) : mg "are_shown" = some (.ref (He.ga K "are_shown")) := T.1.1.glo 49
theorem g_is_notice (T : TX P K mg) : mg "is_notice" = some (.ref (He.ga K "is_notice")) := T.1.1.glo 50
theorem g_others_of (T : TX P K mg) : mg "others_of" = some (.ref (He.ga K "others_of")) := T.1.1.glo 51
theorem g_but_box (T : TX P K mg) : mg "but_box" = some (.ref (He.ga K "but_box")) := T.1.1.glo 52
theorem g_first_by_value (T : TX P K mg) : mg "first_by_value" = some (.ref (He.ga K "first_by_value")) := T.1.1.glo 53
theorem g_settling (T : TX P K mg) : mg "settling" = some (.ref (He.ga K "settling")) := T.1.1.glo 54
theorem g_settled (T : TX P K mg) : mg "settled" = some (.ref (He.ga K "settled")) := T.1.1.glo 55
theorem g__law_hand (T : TX P K mg) : mg "_law_hand" = some (.ref (He.ga K "_law_hand")) := T.1.1.glo 56
theorem g__law_draw (T : TX P K mg) : mg "_law_draw" = some (.ref (He.ga K "_law_draw")) := T.1.1.glo 57
theorem g__law_some (T : TX P K mg) : mg "_law_some" = some (.ref (He.ga K "_law_some")) := T.1.1.glo 58
theorem g__law_size (T : TX P K mg) : mg "_law_size" = some (.ref (He.ga K "_law_size")) := T.1.1.glo 59
theorem g__law_form (T : TX P K mg) : mg "_law_form" = some (.ref (He.ga K "_law_form")) := T.1.1.glo 60
theorem g__law_lot (T : TX P K mg) : mg "_law_lot" = some (.ref (He.ga K "_law_lot")) := T.1.1.glo 61
theorem g__law_box (T : TX P K mg) : mg "_law_box" = some (.ref (He.ga K "_law_box")) := T.1.1.glo 62
theorem g__law_rules (T : TX P K mg) : mg "_law_rules" = some (.ref (He.ga K "_law_rules")) := T.1.1.glo 63
theorem g__law_all (T : TX P K mg) : mg "_law_all" = some (.ref (He.ga K "_law_all")) := T.1.1.glo 64
theorem g__law_holds (T : TX P K mg) : mg "_law_holds" = some (.ref (He.ga K "_law_holds")) := T.1.1.glo 65
theorem g__law_lawful (T : TX P K mg) : mg "_law_lawful" = some (.ref (He.ga K "_law_lawful")) := T.1.1.glo 66
theorem g__law_agrees (T : TX P K mg) : mg "_law_agrees" = some (.ref (He.ga K "_law_agrees")) := T.1.1.glo 67
theorem g__law_report (T : TX P K mg) : mg "_law_report" = some (.ref (He.ga K "_law_report")) := T.1.1.glo 68
theorem g__law_in (T : TX P K mg) : mg "_law_in" = some (.ref (He.ga K "_law_in")) := T.1.1.glo 69
theorem g__law_word (T : TX P K mg) : mg "_law_word" = some (.ref (He.ga K "_law_word")) := T.1.1.glo 70
theorem g__law_steps_right (T : TX P K mg) : mg "_law_steps_right" = some (.ref (He.ga K "_law_steps_right")) := T.1.1.glo 71
theorem g__law_notice_right (T : TX P K mg) : mg "_law_notice_right" = some (.ref (He.ga K "_law_notice_right")) := T.1.1.glo 72
theorem g__law_values_right (T : TX P K mg) : mg "_law_values_right" = some (.ref (He.ga K "_law_values_right")) := T.1.1.glo 73
theorem g_law (T : TX P K mg) : mg "law" = some (.ref (He.ga K "law")) := T.1.1.glo 74
theorem f_abs (T : TX P K mg) : mg "abs" = none := T.1.1.free 75
theorem f_all (T : TX P K mg) : mg "all" = none := T.1.1.free 76
theorem f_any (T : TX P K mg) : mg "any" = none := T.1.1.free 77
theorem f_bool (T : TX P K mg) : mg "bool" = none := T.1.1.free 78
theorem f_enumerate (T : TX P K mg) : mg "enumerate" = none := T.1.1.free 79
theorem f_int (T : TX P K mg) : mg "int" = none := T.1.1.free 80
theorem f_isinstance (T : TX P K mg) : mg "isinstance" = none := T.1.1.free 81
theorem f_len (T : TX P K mg) : mg "len" = none := T.1.1.free 82
theorem f_list (T : TX P K mg) : mg "list" = none := T.1.1.free 83
theorem f_range (T : TX P K mg) : mg "range" = none := T.1.1.free 84
theorem f_set (T : TX P K mg) : mg "set" = none := T.1.1.free 85
theorem f_sorted (T : TX P K mg) : mg "sorted" = none := T.1.1.free 86
theorem f_str (T : TX P K mg) : mg "str" = none := T.1.1.free 87
theorem f_super (T : TX P K mg) : mg "super" = none := T.1.1.free 88
theorem f_tuple (T : TX P K mg) : mg "tuple" = none := T.1.1.free 89
theorem f_zip (T : TX P K mg) : mg "zip" = none := T.1.1.free 90
theorem k_MOST_FAULTS (T : TX P K mg) : ∃ t, mg "MOST_FAULTS" = some (.int 4000 t) := T.1.1.int 91
theorem k_MOST_RULES (T : TX P K mg) : ∃ t, mg "MOST_RULES" = some (.int 40 t) := T.1.1.int 92
theorem k_MOST_BOXES (T : TX P K mg) : ∃ t, mg "MOST_BOXES" = some (.int 3000 t) := T.1.1.int 93
theorem k_MOST_PAIRS (T : TX P K mg) : ∃ t, mg "MOST_PAIRS" = some (.int 20 t) := T.1.1.int 94
theorem cn_Book (T : TX P K mg) : ClsN K "Book" ["form", "rules", "listed"] := ⟨He.cls_ok (T.1.1.says.fact 95), by
  intro f hf
  simp only [List.mem_cons, List.mem_singleton, List.not_mem_nil, or_false] at hf
  rcases hf with rfl | rfl | rfl
  · exact He.noat_ok (T.1.1.says.fact 96)
  · exact He.noat_ok (T.1.1.says.fact 97)
  · exact He.noat_ok (T.1.1.says.fact 98)⟩
theorem mk_Book (T : TX P K mg) : MkN K mg "Book" := ⟨He.mkr_ok (T.1.1.says.fact 100), T.1.1.glo 99⟩
theorem cn_RawBook (T : TX P K mg) : ClsN K "RawBook" ["form", "rules", "listed"] := ⟨He.cls_ok (T.1.1.says.fact 101), by
  intro f hf
  simp only [List.mem_cons, List.mem_singleton, List.not_mem_nil, or_false] at hf
  rcases hf with rfl | rfl | rfl
  · exact He.noat_ok (T.1.1.says.fact 102)
  · exact He.noat_ok (T.1.1.says.fact 103)
  · exact He.noat_ok (T.1.1.says.fact 104)⟩
theorem mk_RawBook (T : TX P K mg) : MkN K mg "RawBook" := ⟨He.mkr_ok (T.1.1.says.fact 106), T.1.1.glo 105⟩
theorem cn_Deriver (T : TX P K mg) : ClsN K "Deriver" ["book", "steps", "boxes", "numbers"] := ⟨He.cls_ok (T.1.1.says.fact 107), by
  intro f hf
  simp only [List.mem_cons, List.mem_singleton, List.not_mem_nil, or_false] at hf
  rcases hf with rfl | rfl | rfl | rfl
  · exact He.noat_ok (T.1.1.says.fact 108)
  · exact He.noat_ok (T.1.1.says.fact 109)
  · exact He.noat_ok (T.1.1.says.fact 110)
  · exact He.noat_ok (T.1.1.says.fact 111)⟩
theorem mk_Deriver (T : TX P K mg) : MkN K mg "Deriver" := ⟨He.mkr_ok (T.1.1.says.fact 113), T.1.1.glo 112⟩
theorem mt_Deriver_step (T : TX P K mg) : Meth K (He.ga K "Deriver") "step" (He.fAd K ("Deriver", some "step")) := He.meth_ok (T.1.1.says.fact 114)
theorem mt_Deriver_rule_for (T : TX P K mg) : Meth K (He.ga K "Deriver") "rule_for" (He.fAd K ("Deriver", some "rule_for")) := He.meth_ok (T.1.1.says.fact 115)
theorem mt_Deriver_reach (T : TX P K mg) : Meth K (He.ga K "Deriver") "reach" (He.fAd K ("Deriver", some "reach")) := He.meth_ok (T.1.1.says.fact 116)
theorem g_Barred (T : TX P K mg) : mg "Barred" = some (.ref (He.ga K "Barred")) := T.1.1.glo 117
theorem ex_Barred (T : TX P K mg) : PySem.W.exmOne K (.ref (He.ga K "Barred")) (.ref (He.ga K "Barred")) = some true := He.exm_ok (T.1.1.says.fact 118)
def mt_Barred (c : Str) : Option Bool := if c = "Barred" then some true else none
theorem hmt_Barred (T : TX P K mg) : ∀ c b, mt_Barred c = some b → PySem.W.exmOne K (.ref (He.ga K c)) (.ref (He.ga K "Barred")) = some b := fun c b h => by
  unfold mt_Barred at h
  by_cases e : c = "Barred"
  · rw [if_pos e] at h; cases h; rw [e]; exact ex_Barred T
  · rw [if_neg e] at h; cases h
theorem mkx_Barred {X : Cx} (T : TX X.prog X.K X.mg) {k : Nat} (hr : Room (k + 1) X.A) {p pos : Pos} (hg : Gl X "Barred" := by rfl) : PMk X (.Call (.Name "Barred" p) [] [] pos) (fun _ H Q => Q (.ref (He.ga X.K "Barred")) none H) :=
  pmk_x0 (T.1.xc 0 T.2.1 (d := x_Barred)) ⟨rfl, rfl, rfl, rfl, by decide +kernel, rfl, rfl, fun y hy => by rw [List.mem_singleton.mp hy]; rfl⟩ rfl rfl rfl (fun _ _ _ _ _ _ => rfl) T.2.2 ⟨fun _ => ⟨_, rfl⟩, fun _ => rfl, fun _ => rfl⟩ hr hg (g_Barred T)
end
abbrev N_is_integer : List Str := ["thing"]
theorem sc_is_integer : FnScope N_is_integer ["thing"] (defScope (top 1)) := ⟨rfl, rfl, rfl, by decide +kernel, rfl, by decide +kernel, by decide +kernel⟩
abbrev N_is_within : List Str := ["thing", "low", "high"]
theorem sc_is_within : FnScope N_is_within ["thing", "low", "high"] (defScope (top 2)) := ⟨rfl, rfl, rfl, by decide +kernel, rfl, by decide +kernel, by decide +kernel⟩
abbrev N_is_tuple : List Str := ["thing", "least", "most"]
theorem sc_is_tuple : FnScope N_is_tuple ["thing", "least", "most"] (defScope (top 3)) := ⟨rfl, rfl, rfl, by decide +kernel, rfl, by decide +kernel, by decide +kernel⟩
abbrev N_is_lot : List Str := ["thing", "many", "one", "other"]
theorem sc_is_lot : FnScope N_is_lot ["thing", "many"] (defScope (top 4)) := ⟨rfl, rfl, rfl, by decide +kernel, rfl, by decide +kernel, by decide +kernel⟩
abbrev N_is_form : List Str := ["thing", "product", "many"]
theorem sc_is_form : FnScope N_is_form ["thing"] (defScope (top 18)) := ⟨rfl, rfl, rfl, by decide +kernel, rfl, by decide +kernel, by decide +kernel⟩
abbrev N_check_form : List Str := ["form"]
theorem sc_check_form : FnScope N_check_form ["form"] (defScope (top 19)) := ⟨rfl, rfl, rfl, by decide +kernel, rfl, by decide +kernel, by decide +kernel⟩
abbrev N_report_in : List Str := ["form", "thing", "value", "many"]
theorem sc_report_in : FnScope N_report_in ["form", "thing"] (defScope (top 20)) := ⟨rfl, rfl, rfl, by decide +kernel, rfl, by decide +kernel, by decide +kernel⟩
abbrev N_fault_in : List Str := ["form", "thing"]
theorem sc_fault_in : FnScope N_fault_in ["form", "thing"] (defScope (top 21)) := ⟨rfl, rfl, rfl, by decide +kernel, rfl, by decide +kernel, by decide +kernel⟩
abbrev N_box_in : List Str := ["form", "thing", "lot", "many"]
theorem sc_box_in : FnScope N_box_in ["form", "thing"] (defScope (top 22)) := ⟨rfl, rfl, rfl, by decide +kernel, rfl, by decide +kernel, by decide +kernel⟩
abbrev N_check_box : List Str := ["form", "box"]
theorem sc_check_box : FnScope N_check_box ["form", "box"] (defScope (top 23)) := ⟨rfl, rfl, rfl, by decide +kernel, rfl, by decide +kernel, by decide +kernel⟩
abbrev N_check_report : List Str := ["form", "report"]
theorem sc_check_report : FnScope N_check_report ["form", "report"] (defScope (top 24)) := ⟨rfl, rfl, rfl, by decide +kernel, rfl, by decide +kernel, by decide +kernel⟩
abbrev N_held : List Str := ["box", "fault", "lot", "value"]
theorem sc_held : FnScope N_held ["box", "fault"] (defScope (top 25)) := ⟨rfl, rfl, rfl, by decide +kernel, rfl, by decide +kernel, by decide +kernel⟩
abbrev N_agreeing : List Str := ["report", "fault", "said", "value"]
theorem sc_agreeing : FnScope N_agreeing ["report", "fault"] (defScope (top 26)) := ⟨rfl, rfl, rfl, by decide +kernel, rfl, by decide +kernel, by decide +kernel⟩
abbrev N_lies : List Str := ["one", "other", "lot", "whole", "value"]
theorem sc_lies : FnScope N_lies ["one", "other"] (defScope (top 27)) := ⟨rfl, rfl, rfl, by decide +kernel, rfl, by decide +kernel, by decide +kernel⟩
abbrev N_meeting : List Str := ["one", "other", "found", "lot", "more", "value"]
theorem sc_meeting : FnScope N_meeting ["one", "other"] (defScope (top 28)) := ⟨rfl, rfl, rfl, by decide +kernel, rfl, by decide +kernel, by decide +kernel⟩
abbrev N_whole_box : List Str := ["form", "many"]
theorem sc_whole_box : FnScope N_whole_box ["form"] (defScope (top 29)) := ⟨rfl, rfl, rfl, by decide +kernel, rfl, by decide +kernel, by decide +kernel⟩
abbrev N_report_box : List Str := ["form", "report", "value", "many"]
theorem sc_report_box : FnScope N_report_box ["form", "report"] (defScope (top 30)) := ⟨rfl, rfl, rfl, by decide +kernel, rfl, by decide +kernel, by decide +kernel⟩
abbrev N_with_lot : List Str := ["box", "field", "lot"]
theorem sc_with_lot : FnScope N_with_lot ["box", "field", "lot"] (defScope (top 31)) := ⟨rfl, rfl, rfl, by decide +kernel, rfl, by decide +kernel, by decide +kernel⟩
abbrev N_all_faults : List Str := ["form", "found", "many", "longer", "fault", "value"]
theorem sc_all_faults : FnScope N_all_faults ["form"] (defScope (top 32)) := ⟨rfl, rfl, rfl, by decide +kernel, rfl, by decide +kernel, by decide +kernel⟩
abbrev N_box_of : List Str := ["form", "report"]
theorem sc_box_of : FnScope N_box_of ["form", "report"] (defScope (top 33)) := ⟨rfl, rfl, rfl, by decide +kernel, rfl, by decide +kernel, by decide +kernel⟩
abbrev N_within : List Str := ["form", "one", "other"]
theorem sc_within : FnScope N_within ["form", "one", "other"] (defScope (top 34)) := ⟨rfl, rfl, rfl, by decide +kernel, rfl, by decide +kernel, by decide +kernel⟩
abbrev N_common : List Str := ["form", "one", "other"]
theorem sc_common : FnScope N_common ["form", "one", "other"] (defScope (top 35)) := ⟨rfl, rfl, rfl, by decide +kernel, rfl, by decide +kernel, by decide +kernel⟩
abbrev N_are_rules : List Str := ["form", "thing", "box"]
theorem sc_are_rules : FnScope N_are_rules ["form", "thing"] (defScope (top 38)) := ⟨rfl, rfl, rfl, by decide +kernel, rfl, by decide +kernel, by decide +kernel⟩
abbrev N_Book_dd__init_dd_ : List Str := ["self", "form", "rules"]
theorem sc_Book_dd__init_dd_ : FnScope N_Book_dd__init_dd_ ["self", "form", "rules"] (defScope (inClass (top 39) 0)) := ⟨rfl, rfl, rfl, by decide +kernel, rfl, by decide +kernel, by decide +kernel⟩
abbrev N_RawBook_dd__init_dd_ : List Str := ["self", "form", "rules"]
theorem sc_RawBook_dd__init_dd_ : FnScope N_RawBook_dd__init_dd_ ["self", "form", "rules"] (defScope (inClass (top 40) 0)) := ⟨rfl, rfl, rfl, by decide +kernel, rfl, by decide +kernel, by decide +kernel⟩
abbrev N_is_lawful : List Str := ["book", "fault", "rule"]
theorem sc_is_lawful : FnScope N_is_lawful ["book", "fault"] (defScope (top 41)) := ⟨rfl, rfl, rfl, by decide +kernel, rfl, by decide +kernel, by decide +kernel⟩
abbrev N_listed : List Str := ["book", "fault"]
theorem sc_listed : FnScope N_listed ["book"] (defScope (top 42)) := ⟨rfl, rfl, rfl, by decide +kernel, rfl, by decide +kernel, by decide +kernel⟩
abbrev N_check_field : List Str := ["form", "field"]
theorem sc_check_field : FnScope N_check_field ["form", "field"] (defScope (top 44)) := ⟨rfl, rfl, rfl, by decide +kernel, rfl, by decide +kernel, by decide +kernel⟩
abbrev N_joining : List Str := ["field", "one", "other", "lot"]
theorem sc_joining : FnScope N_joining ["field", "one", "other"] (defScope (top 45)) := ⟨rfl, rfl, rfl, by decide +kernel, rfl, by decide +kernel, by decide +kernel⟩
abbrev N_box_of_step : List Str := ["book", "boxes", "step", "is_rule", "word", "field", "one", "other"]
theorem sc_box_of_step : FnScope N_box_of_step ["book", "boxes", "step"] (defScope (top 46)) := ⟨rfl, rfl, rfl, by decide +kernel, rfl, by decide +kernel, by decide +kernel⟩
abbrev N_box_derived : List Str := ["book", "thing", "boxes", "step", "box"]
theorem sc_box_derived : FnScope N_box_derived ["book", "thing"] (defScope (top 47)) := ⟨rfl, rfl, rfl, by decide +kernel, rfl, by decide +kernel, by decide +kernel⟩
abbrev N_derived : List Str := ["book", "derivation", "box"]
theorem sc_derived : FnScope N_derived ["book", "derivation"] (defScope (top 48)) := ⟨rfl, rfl, rfl, by decide +kernel, rfl, by decide +kernel, by decide +kernel⟩
abbrev N_Deriver_dd__init_dd_ : List Str := ["self", "book"]
theorem sc_Deriver_dd__init_dd_ : FnScope N_Deriver_dd__init_dd_ ["self", "book"] (defScope (inClass (top 50) 0)) := ⟨rfl, rfl, rfl, by decide +kernel, rfl, by decide +kernel, by decide +kernel⟩
abbrev N_Deriver_step : List Str := ["self", "step", "box"]
theorem sc_Deriver_step : FnScope N_Deriver_step ["self", "step", "box"] (defScope (inClass (top 50) 1)) := ⟨rfl, rfl, rfl, by decide +kernel, rfl, by decide +kernel, by decide +kernel⟩
abbrev N_Deriver_rule_for : List Str := ["self", "box", "number", "rule"]
theorem sc_Deriver_rule_for : FnScope N_Deriver_rule_for ["self", "box"] (defScope (inClass (top 50) 2)) := ⟨rfl, rfl, rfl, by decide +kernel, rfl, by decide +kernel, by decide +kernel⟩
abbrev N_Deriver_reach : List Str := ["self", "box", "at", "field", "value", "more", "place", "lot"]
theorem sc_Deriver_reach : FnScope N_Deriver_reach ["self", "box"] (defScope (inClass (top 50) 3)) := ⟨rfl, rfl, rfl, by decide +kernel, rfl, by decide +kernel, by decide +kernel⟩
abbrev N_derivation_of : List Str := ["book", "box", "deriver", "at"]
theorem sc_derivation_of : FnScope N_derivation_of ["book", "box"] (defScope (top 51)) := ⟨rfl, rfl, rfl, by decide +kernel, rfl, by decide +kernel, by decide +kernel⟩
abbrev N_cut : List Str := ["steps", "wanted", "at", "numbers", "found", "step"]
theorem sc_cut : FnScope N_cut ["steps"] (defScope (top 52)) := ⟨rfl, rfl, rfl, by decide +kernel, rfl, by decide +kernel, by decide +kernel⟩
abbrev N_bars : List Str := ["book", "box", "thing", "found"]
theorem sc_bars : FnScope N_bars ["book", "box", "thing"] (defScope (top 53)) := ⟨rfl, rfl, rfl, by decide +kernel, rfl, by decide +kernel, by decide +kernel⟩
abbrev N_taken_in : List Str := ["boxes", "box", "other"]
theorem sc_taken_in : FnScope N_taken_in ["boxes", "box"] (defScope (top 56)) := ⟨rfl, rfl, rfl, by decide +kernel, rfl, by decide +kernel, by decide +kernel⟩
abbrev N_joined_at : List Str := ["field", "boxes", "waiting", "found", "box", "other", "more"]
theorem sc_joined_at : FnScope N_joined_at ["field", "boxes"] (defScope (top 57)) := ⟨rfl, rfl, rfl, by decide +kernel, rfl, by decide +kernel, by decide +kernel⟩
abbrev N_greatest_boxes : List Str := ["book", "boxes", "rule", "field"]
theorem sc_greatest_boxes : FnScope N_greatest_boxes ["book"] (defScope (top 58)) := ⟨rfl, rfl, rfl, by decide +kernel, rfl, by decide +kernel, by decide +kernel⟩
abbrev N_is_part_of : List Str := ["form", "thing"]
theorem sc_is_part_of : FnScope N_is_part_of ["form", "thing"] (defScope (top 61)) := ⟨rfl, rfl, rfl, by decide +kernel, rfl, by decide +kernel, by decide +kernel⟩
abbrev N_filter_in : List Str := ["form", "thing", "pair"]
theorem sc_filter_in : FnScope N_filter_in ["form", "thing"] (defScope (top 62)) := ⟨rfl, rfl, rfl, by decide +kernel, rfl, by decide +kernel, by decide +kernel⟩
abbrev N_check_filter : List Str := ["form", "thing"]
theorem sc_check_filter : FnScope N_check_filter ["form", "thing"] (defScope (top 63)) := ⟨rfl, rfl, rfl, by decide +kernel, rfl, by decide +kernel, by decide +kernel⟩
abbrev N_lets : List Str := ["parts", "fault", "found", "flag", "box"]
theorem sc_lets : FnScope N_lets ["parts", "fault"] (defScope (top 64)) := ⟨rfl, rfl, rfl, by decide +kernel, rfl, by decide +kernel, by decide +kernel⟩
abbrev N_cut_out : List Str := ["box", "other", "found", "field", "values", "left", "value"]
theorem sc_cut_out : FnScope N_cut_out ["box", "other"] (defScope (top 65)) := ⟨rfl, rfl, rfl, by decide +kernel, rfl, by decide +kernel, by decide +kernel⟩
abbrev N_region : List Str := ["form", "parts", "flag", "found", "sign", "box", "cut", "other"]
theorem sc_region : FnScope N_region ["form", "parts", "flag"] (defScope (top 66)) := ⟨rfl, rfl, rfl, by decide +kernel, rfl, by decide +kernel, by decide +kernel⟩
abbrev N_boxes_for : List Str := ["form", "parts", "flag", "found"]
theorem sc_boxes_for : FnScope N_boxes_for ["form", "parts", "flag"] (defScope (top 67)) := ⟨rfl, rfl, rfl, by decide +kernel, rfl, by decide +kernel, by decide +kernel⟩
abbrev N_inside : List Str := ["form", "parts"]
theorem sc_inside : FnScope N_inside ["form", "parts"] (defScope (top 68)) := ⟨rfl, rfl, rfl, by decide +kernel, rfl, by decide +kernel, by decide +kernel⟩
abbrev N_outside : List Str := ["form", "parts"]
theorem sc_outside : FnScope N_outside ["form", "parts"] (defScope (top 69)) := ⟨rfl, rfl, rfl, by decide +kernel, rfl, by decide +kernel, by decide +kernel⟩
abbrev N_met_boxes : List Str := ["form", "parts", "report", "flag", "mine", "found", "box"]
theorem sc_met_boxes : FnScope N_met_boxes ["form", "parts", "report", "flag"] (defScope (top 70)) := ⟨rfl, rfl, rfl, by decide +kernel, rfl, by decide +kernel, by decide +kernel⟩
abbrev N_agreeing_faults : List Str := ["book", "report", "found", "fault"]
theorem sc_agreeing_faults : FnScope N_agreeing_faults ["book", "report"] (defScope (top 71)) := ⟨rfl, rfl, rfl, by decide +kernel, rfl, by decide +kernel, by decide +kernel⟩
abbrev N_word_of : List Str := ["parts", "some", "ins", "outs", "fault"]
theorem sc_word_of : FnScope N_word_of ["parts", "some"] (defScope (top 72)) := ⟨rfl, rfl, rfl, by decide +kernel, rfl, by decide +kernel, by decide +kernel⟩
abbrev N_notice : List Str := ["book", "parts", "report", "some", "word", "one", "other", "box"]
theorem sc_notice : FnScope N_notice ["book", "parts", "report"] (defScope (top 73)) := ⟨rfl, rfl, rfl, by decide +kernel, rfl, by decide +kernel, by decide +kernel⟩
abbrev N_are_shown : List Str := ["book", "parts", "report", "word", "steps", "some", "number", "box"]
theorem sc_are_shown : FnScope N_are_shown ["book", "parts", "report", "word", "steps"] (defScope (top 74)) := ⟨rfl, rfl, rfl, by decide +kernel, rfl, by decide +kernel, by decide +kernel⟩
abbrev N_is_notice : List Str := ["book", "parts", "report", "thing", "some", "word", "fault"]
theorem sc_is_notice : FnScope N_is_notice ["book", "parts", "report", "thing"] (defScope (top 75)) := ⟨rfl, rfl, rfl, by decide +kernel, rfl, by decide +kernel, by decide +kernel⟩
abbrev N_others_of : List Str := ["form", "field", "value", "one"]
theorem sc_others_of : FnScope N_others_of ["form", "field", "value"] (defScope (top 77)) := ⟨rfl, rfl, rfl, by decide +kernel, rfl, by decide +kernel, by decide +kernel⟩
abbrev N_but_box : List Str := ["book", "report", "field", "value"]
theorem sc_but_box : FnScope N_but_box ["book", "report", "field", "value"] (defScope (top 78)) := ⟨rfl, rfl, rfl, by decide +kernel, rfl, by decide +kernel, by decide +kernel⟩
abbrev N_first_by_value : List Str := ["book", "report", "field", "found", "fault"]
theorem sc_first_by_value : FnScope N_first_by_value ["book", "report", "field"] (defScope (top 79)) := ⟨rfl, rfl, rfl, by decide +kernel, rfl, by decide +kernel, by decide +kernel⟩
abbrev N_settling : List Str := ["book", "report", "field", "found", "values"]
theorem sc_settling : FnScope N_settling ["book", "report", "field"] (defScope (top 80)) := ⟨rfl, rfl, rfl, by decide +kernel, rfl, by decide +kernel, by decide +kernel⟩
abbrev N_settled : List Str := ["book", "report", "field"]
theorem sc_settled : FnScope N_settled ["book", "report", "field"] (defScope (top 81)) := ⟨rfl, rfl, rfl, by decide +kernel, rfl, by decide +kernel, by decide +kernel⟩
abbrev N__law_hand : List Str := ["script", "cells", "cell"]
theorem sc__law_hand : FnScope N__law_hand ["script"] (defScope (top 83)) := ⟨rfl, rfl, rfl, by decide +kernel, rfl, by decide +kernel, by decide +kernel⟩
abbrev N__law_draw : List Str := ["hand", "many", "number", "cell", "digit"]
theorem sc__law_draw : FnScope N__law_draw ["hand", "many"] (defScope (top 84)) := ⟨rfl, rfl, rfl, by decide +kernel, rfl, by decide +kernel, by decide +kernel⟩
abbrev N__law_some : List Str := ["hand", "things"]
theorem sc__law_some : FnScope N__law_some ["hand", "things"] (defScope (top 85)) := ⟨rfl, rfl, rfl, by decide +kernel, rfl, by decide +kernel, by decide +kernel⟩
abbrev N__law_size : List Str := ["form", "product", "many"]
theorem sc__law_size : FnScope N__law_size ["form"] (defScope (top 86)) := ⟨rfl, rfl, rfl, by decide +kernel, rfl, by decide +kernel, by decide +kernel⟩
abbrev N__law_form : List Str := ["hand", "fields", "most", "form", "field", "many"]
theorem sc__law_form : FnScope N__law_form ["hand", "fields", "most"] (defScope (top 87)) := ⟨rfl, rfl, rfl, by decide +kernel, rfl, by decide +kernel, by decide +kernel⟩
abbrev N__law_lot : List Str := ["hand", "many", "lot", "value"]
theorem sc__law_lot : FnScope N__law_lot ["hand", "many"] (defScope (top 88)) := ⟨rfl, rfl, rfl, by decide +kernel, rfl, by decide +kernel, by decide +kernel⟩
abbrev N__law_box : List Str := ["hand", "form", "many"]
theorem sc__law_box : FnScope N__law_box ["hand", "form"] (defScope (top 89)) := ⟨rfl, rfl, rfl, by decide +kernel, rfl, by decide +kernel, by decide +kernel⟩
abbrev N__law_rules : List Str := ["hand", "form", "most", "rule"]
theorem sc__law_rules : FnScope N__law_rules ["hand", "form", "most"] (defScope (top 90)) := ⟨rfl, rfl, rfl, by decide +kernel, rfl, by decide +kernel, by decide +kernel⟩
abbrev N__law_all : List Str := ["form", "found", "many", "longer", "fault", "value"]
theorem sc__law_all : FnScope N__law_all ["form"] (defScope (top 91)) := ⟨rfl, rfl, rfl, by decide +kernel, rfl, by decide +kernel, by decide +kernel⟩
abbrev N__law_holds : List Str := ["box", "fault", "lot", "value"]
theorem sc__law_holds : FnScope N__law_holds ["box", "fault"] (defScope (top 92)) := ⟨rfl, rfl, rfl, by decide +kernel, rfl, by decide +kernel, by decide +kernel⟩
abbrev N__law_lawful : List Str := ["form", "rules", "fault", "rule"]
theorem sc__law_lawful : FnScope N__law_lawful ["form", "rules"] (defScope (top 93)) := ⟨rfl, rfl, rfl, by decide +kernel, rfl, by decide +kernel, by decide +kernel⟩
abbrev N__law_agrees : List Str := ["report", "fault", "said", "value"]
theorem sc__law_agrees : FnScope N__law_agrees ["report", "fault"] (defScope (top 94)) := ⟨rfl, rfl, rfl, by decide +kernel, rfl, by decide +kernel, by decide +kernel⟩
abbrev N__law_report : List Str := ["hand", "form", "some", "fault", "many", "value"]
theorem sc__law_report : FnScope N__law_report ["hand", "form", "some"] (defScope (top 95)) := ⟨rfl, rfl, rfl, by decide +kernel, rfl, by decide +kernel, by decide +kernel⟩
abbrev N__law_in : List Str := ["filter_so", "fault", "flags", "flag", "box"]
theorem sc__law_in : FnScope N__law_in ["filter_so", "fault"] (defScope (top 96)) := ⟨rfl, rfl, rfl, by decide +kernel, rfl, by decide +kernel, by decide +kernel⟩
abbrev N__law_word : List Str := ["some", "filter_so", "told", "fault"]
theorem sc__law_word : FnScope N__law_word ["some", "filter_so"] (defScope (top 97)) := ⟨rfl, rfl, rfl, by decide +kernel, rfl, by decide +kernel, by decide +kernel⟩
abbrev N__law_steps_right : List Str := ["book", "filter_so", "report", "told", "some", "form", "boxes", "box", "step"]
theorem sc__law_steps_right : FnScope N__law_steps_right ["book", "filter_so", "report", "told"] (defScope (top 98)) := ⟨rfl, rfl, rfl, by decide +kernel, rfl, by decide +kernel, by decide +kernel⟩
abbrev N__law_notice_right : List Str := ["book", "lawful_so", "filter_so", "report", "some", "word", "told", "other", "fault"]
theorem sc__law_notice_right : FnScope N__law_notice_right ["book", "lawful_so", "filter_so", "report"] (defScope (top 99)) := ⟨rfl, rfl, rfl, by decide +kernel, rfl, by decide +kernel, by decide +kernel⟩
abbrev N__law_values_right : List Str := ["book", "lawful_so", "report", "field", "value", "form", "some", "told", "whole", "box", "is_told", "fault", "many"]
theorem sc__law_values_right : FnScope N__law_values_right ["book", "lawful_so", "report", "field"] (defScope (top 100)) := ⟨rfl, rfl, rfl, by decide +kernel, rfl, by decide +kernel, by decide +kernel⟩
abbrev N_law : List Str := ["script", "hand", "turn", "form", "rules", "whole", "again", "book", "lawful_so", "report", "pairs", "many", "pair", "flag", "box"]
theorem sc_law : FnScope N_law ["script"] (defScope (top 101)) := ⟨rfl, rfl, rfl, by decide +kernel, rfl, by decide +kernel, by decide +kernel⟩
end K94
set_option Elab.async false
set_option linter.all false
set_option maxRecDepth 100000
set_option maxHeartbeats 1000000
namespace K94
open PySem PySem.Spec PyProof.Rows L2 Dd Mir K78
/-! ### plain -/
theorem asc_eq : ∀ {a b : List Int}, a.Pairwise (· < ·) → b.Pairwise (· < ·) → (∀ v, v ∈ a ↔ v ∈ b) → a = b
  | [], [], _, _, _ => rfl
  | [], y :: b, _, _, h => absurd ((h y).mpr List.mem_cons_self) List.not_mem_nil
  | x :: a, [], _, _, h => absurd ((h x).mp List.mem_cons_self) List.not_mem_nil
  | x :: a, y :: b, ha, hb, h => by
    obtain ⟨ha1, ha2⟩ := List.pairwise_cons.mp ha
    obtain ⟨hb1, hb2⟩ := List.pairwise_cons.mp hb
    have e : x = y := by
      rcases List.mem_cons.mp ((h x).mp List.mem_cons_self) with e | e
      · exact e
      · rcases List.mem_cons.mp ((h y).mpr List.mem_cons_self) with e2 | e2
        · exact e2.symm
        · have := hb1 x e; have := ha1 y e2; omega
    subst e
    rw [asc_eq ha2 hb2 fun v => ?_]
    have := h v
    rw [List.mem_cons, List.mem_cons] at this
    constructor
    · intro q
      rcases this.mp (.inr q) with e | e
      · have := ha1 v q; omega
      · exact e
    · intro q
      rcases this.mpr (.inr q) with e | e
      · have := hb1 v q; omega
      · exact e
theorem meet_comm {form : List Int} {a b : Box} (ha : VBox form a) (hb : VBox form b) : meet a b = meet b a := by
  refine List.ext_getElem? fun i => ?_
  by_cases hi : i < form.length
  · have g1 : a[i]? = some (a[i]'(by rw [ha.1]; exact hi)) := List.getElem?_eq_getElem _
    have g2 : b[i]? = some (b[i]'(by rw [hb.1]; exact hi)) := List.getElem?_eq_getElem _
    have g3 : form[i]? = some (form[i]'hi) := List.getElem?_eq_getElem _
    rw [meet_at g1 g2, meet_at g2 g1]
    have h1 := (ha.2 i _ _ g3 g1).up
    have h2 := (hb.2 i _ _ g3 g2).up
    refine congrArg some (asc_eq (h1.filter _) (h2.filter _) fun v => ?_)
    constructor
    · intro q
      have q := List.mem_filter.mp q
      exact List.mem_filter.mpr ⟨of_decide_eq_true q.2, decide_eq_true q.1⟩
    · intro q
      have q := List.mem_filter.mp q
      exact List.mem_filter.mpr ⟨of_decide_eq_true q.2, decide_eq_true q.1⟩
  · rw [List.getElem?_eq_none (by rw [meet_len (by rw [ha.1, hb.1]), ha.1]; omega), List.getElem?_eq_none (by rw [meet_len (by rw [ha.1, hb.1]), hb.1]; omega)]
theorem lets_last (u : List Int) : ∀ (fl : Fil) (d : Bool), fl.foldl (fun found p => if held p.2 u = true then p.1 else found) d = match (fl.filter fun p => held p.2 u).getLast? with
    | none => d
    | some p => p.1
  | [], d => rfl
  | p :: fl, d => by
    rw [List.foldl_cons, lets_last u fl, List.filter_cons]
    cases q : held p.2 u with
    | true =>
      rw [if_pos rfl, if_pos rfl, List.getLast?_cons]
      cases (fl.filter fun p => held p.2 u).getLast? <;> rfl
    | false => rw [if_neg Bool.false_ne_true, if_neg Bool.false_ne_true]
theorem eq_lst (xs ys : List (List Int)) : eqD (.lst (xs.map eI)) (.lst (ys.map eI)) = decide (xs = ys) := eqs_by eq_eI xs ys
theorem dEq_lst {xs ys : List (List Int)} {S : Sto} {R : DQ} (h : R (.bl (decide (xs = ys))) S) : dEq (.lst (xs.map eI)) (.lst (ys.map eI)) S R := dEq_i (okN.lst (okN.map okI xs)).eq (okN.lst (okN.map okI ys)).eq (by rw [eq_lst]; exact h)
theorem dNe_lst {xs ys : List (List Int)} {S : Sto} {R : DQ} (h : R (.bl (!decide (xs = ys))) S) : dNe (.lst (xs.map eI)) (.lst (ys.map eI)) S R := dNe_i (okN.lst (okN.map okI xs)).eq (okN.lst (okN.map okI ys)).eq (by rw [eq_lst]; exact h)
theorem and_bl {b : Bool} {wa wb : DE} {env : Dd.Env} {S : Sto} {R : DQ} (ha : ∀ Q : DQ, Q (.bl b) S → wa env S Q) (h1 : b = true → wb env S R) (h0 : b = false → R (.bl false) S) : wAnd wa wb env S R := ha _ (by
  cases b with
  | true => exact h1 rfl
  | false => exact h0 rfl)
/-! ### the program -/
@[irreducible] def c__law_in : DC := fun ds S R => ∃ form fl u, ds = [eF fl, eI u] ∧ VForm form ∧ VFil form fl ∧ R (.bl (lets fl u)) S
theorem i__law_in {ds : List D} {S : Sto} {R : DQ} (h : ∃ form fl u, ds = [eF fl, eI u] ∧ VForm form ∧ VFil form fl ∧ R (.bl (lets fl u)) S) : c__law_in ds S R := by unfold c__law_in; exact h
theorem u__law_in {ds : List D} {S : Sto} {R : DQ} (h : c__law_in ds S R) : ∃ form fl u, ds = [eF fl, eI u] ∧ VForm form ∧ VFil form fl ∧ R (.bl (lets fl u)) S := by unfold c__law_in at h; exact h
def w__law_in : DS := (sSeq (sAsg (wLc (iSeq (wVar 0)) (gT 2 (gCons' (gN 3) (gCons' (gN 4) gNil'))) (asB (wCall c__law_holds (aCons (wVar 4) (aCons (wVar 1) aNil)))) (wVar 3) [3, 4]) (gN 2)) (sRet (wAnd (w2 dGt (wCall dLen (aCons (wVar 2) aNil)) (wC (.int 0))) (w2 dIx (wVar 2) (wNeg (wC (.int 1)))))))
theorem q__law_in : Qd w__law_in 5 c__law_in := by
  intro ds S R hc0
  obtain ⟨form, fl, u, rfl, hf, hv, h⟩ := u__law_in hc0
  have hl := hv.l
  refine lc_filter fl eFp (fun p => held p.2 u) (fun p => .bl p.1) (sz (by omega)) (fun _ _ => trivial) ?_ ?_
  · intro p hp S' x Kt Kf k
    refine ⟨rfl, ?_⟩
    refine i__law_holds ⟨p.2, u, rfl, by have := ((hv.v p hp).sz hf).1; omega, ?_⟩
    cases q : held p.2 u with
    | true => rw [q] at k; exact k
    | false => rw [q] at k; exact k
  · have e := lets_last u fl false
    have e : lets fl u = _ := e
    refine and_bl (wa := w2 dGt (wCall dLen (aCons (wVar 2) aNil)) (wC (.int 0))) (wb := w2 dIx (wVar 2) (wNeg (wC (.int 1)))) (env := [some (eF fl), some (eI u), some (.lst ((fl.filter fun p : Bool × Box => held p.2 u).map fun p : Bool × Box => D.bl p.1)), none, none]) (b := decide ((0 : Int) < (((fl.filter fun p => held p.2 u).map fun p => D.bl p.1).length : Int))) (fun Q k => k) (fun z => ?_) fun z => ?_
    · have z := of_decide_eq_true z
      rw [List.length_map] at z
      obtain ⟨p, q⟩ : ∃ p, (fl.filter fun p => held p.2 u).getLast? = some p := ⟨_, List.getLast?_eq_some_getLast (List.length_pos_iff.mp (by omega))⟩
      rw [q] at e
      refine dIx_at (d := .lst ((fl.filter fun p => held p.2 u).map fun p => D.bl p.1)) (i := -1) (x := .bl p.1) rfl (atI_last (by rw [List.getLast?_map, q]; rfl)) ?_
      rw [e] at h
      exact Fin.now h
    · have z := of_decide_eq_false z
      rw [List.length_map] at z
      have hn : (fl.filter fun p => held p.2 u) = [] := List.length_eq_zero_iff.mp (by omega)
      rw [hn] at e
      rw [e] at h
      exact Fin.now h
def wordOf (fl : Fil) (us : List (List Int)) : Str := if us.all (lets fl) = true then "must" else if us.any (lets fl) = true then "may" else "never"
@[irreducible] def c__law_word : DC := fun ds S R => ∃ form fl us, ds = [.lst (us.map eI), eF fl] ∧ VForm form ∧ VFil form fl ∧ us.length ≤ 4000 ∧ R (.str (wordOf fl us)) S
theorem i__law_word {ds : List D} {S : Sto} {R : DQ} (h : ∃ form fl us, ds = [.lst (us.map eI), eF fl] ∧ VForm form ∧ VFil form fl ∧ us.length ≤ 4000 ∧ R (.str (wordOf fl us)) S) : c__law_word ds S R := by unfold c__law_word; exact h
theorem u__law_word {ds : List D} {S : Sto} {R : DQ} (h : c__law_word ds S R) : ∃ form fl us, ds = [.lst (us.map eI), eF fl] ∧ VForm form ∧ VFil form fl ∧ us.length ≤ 4000 ∧ R (.str (wordOf fl us)) S := by unfold c__law_word at h; exact h
def w__law_word : DS := (sSeq (sAsg (wLc (iSeq (wVar 0)) (gN 3) tYes' (wCall c__law_in (aCons (wVar 1) (aCons (wVar 3) aNil))) [3]) (gN 2)) (sRet (wIf (asB (wCall dAll (aCons (wVar 2) aNil))) (wC (.str "must")) (wIf (asB (wCall dAny (aCons (wVar 2) aNil))) (wC (.str "may")) (wC (.str "never"))))))
theorem q__law_word : Qd w__law_word 4 c__law_word := by
  intro ds S R hc0
  obtain ⟨form, fl, us, rfl, hf, hv, hz, h⟩ := u__law_word hc0
  refine lc_all us eI (fun u => .bl (lets fl u)) (sz (by omega)) (fun _ _ => trivial) ?_ ?_
  · intro u _ S' x Kt Kf k
    exact i__law_in ⟨form, fl, u, rfl, hf, hv, k⟩
  · refine dAll_fn ?_
    unfold wordOf at h
    cases q : us.all (lets fl) with
    | true => rw [q, if_pos rfl] at h; exact Fin.now h
    | false =>
      rw [q, if_neg Bool.false_ne_true] at h
      refine dAny_fn ?_
      cases q2 : us.any (lets fl) with
      | true => rw [q2, if_pos rfl] at h; exact Fin.now h
      | false => rw [q2, if_neg Bool.false_ne_true] at h; exact Fin.now h
def w__law_steps_right : DS := (sSeq (sAsg (wTup (aCons (wFld "Book" "form" (wVar 0)) (aCons (wIf (asB (w2 dEq (w2 dIx (wVar 3) (wC (.int 0))) (wC (.str "must")))) (wCall c_outside (aCons (wFld "Book" "form" (wVar 0)) (aCons (wVar 1) aNil))) (wCall c_inside (aCons (wFld "Book" "form" (wVar 0)) (aCons (wVar 1) aNil)))) aNil))) (gT 2 (gCons' (gN 5) (gCons' (gN 6) gNil')))) (sSeq (sAsg (wLc (iSeq (wVar 6)) (gN 7) tYes' (wCall c_common (aCons (wVar 5) (aCons (wVar 7) (aCons (wCall c_box_of (aCons (wVar 5) (aCons (wVar 2) aNil))) aNil)))) [7]) (gN 4)) (sSeq (sAsg (wLc (iSeq (wVar 4)) (gN 7) (asB (w2 dNotN (wVar 7) (wC .non))) (wVar 7) [7]) (gN 4)) (sSeq (sIf (tOr' (tNot' (asB (wIsi .tup (w2 dIx (wVar 3) (wC (.int 1)))))) (asB (w2 dNe (wCall dLen (aCons (w2 dIx (wVar 3) (wC (.int 1))) aNil)) (wCall dLen (aCons (wVar 4) aNil))))) (sRet (wC (.bl false))) sNil) (sRet (wCall dAll (aCons (wLc (iZipM (aCons (wVar 4) (aCons (w2 dIx (wVar 3) (wC (.int 1))) aNil))) (gT 2 (gCons' (gN 7) (gCons' (gN 8) gNil'))) tYes' (wCall c_within (aCons (wVar 5) (aCons (wVar 7) (aCons (wCall c_derived (aCons (wVar 0) (aCons (wVar 8) aNil))) aNil)))) [7, 8]) aNil)))))))
def w_steps_tail : DS := (sSeq (sAsg (wLc (iSeq (wVar 6)) (gN 7) tYes' (wCall c_common (aCons (wVar 5) (aCons (wVar 7) (aCons (wCall c_box_of (aCons (wVar 5) (aCons (wVar 2) aNil))) aNil)))) [7]) (gN 4)) (sSeq (sAsg (wLc (iSeq (wVar 4)) (gN 7) (asB (w2 dNotN (wVar 7) (wC .non))) (wVar 7) [7]) (gN 4)) (sSeq (sIf (tOr' (tNot' (asB (wIsi .tup (w2 dIx (wVar 3) (wC (.int 1)))))) (asB (w2 dNe (wCall dLen (aCons (w2 dIx (wVar 3) (wC (.int 1))) aNil)) (wCall dLen (aCons (wVar 4) aNil))))) (sRet (wC (.bl false))) sNil) (sRet (wCall dAll (aCons (wLc (iZipM (aCons (wVar 4) (aCons (w2 dIx (wVar 3) (wC (.int 1))) aNil))) (gT 2 (gCons' (gN 7) (gCons' (gN 8) gNil'))) tYes' (wCall c_within (aCons (wVar 5) (aCons (wVar 7) (aCons (wCall c_derived (aCons (wVar 0) (aCons (wVar 8) aNil))) aNil)))) [7, 8]) aNil))))))
theorem steps_tail {S : Sto} {R : DQ} {a : Addr} {form : List Int} {rules : List Box} {fl : Fil} {r : Rep} {flag : Bool} {ps : List (List Stp)} (bk : Bk S a form rules) (hs : Sm form) (hv : VFil form fl) (hr : VRep form r) (hn : Note form rules fl r (.sure flag ps)) (h : R (.bl true) S) :
    w_steps_tail { nx := fun _ S' => Fin R .non S', rt := Fin R } [some (.loc a), some (eF fl), some (eR r), some (eN (.sure flag ps)), none, some (eI form), some (eRs (bxf form fl flag)), none, none] S := by
  obtain ⟨bv, bs, bl⟩ := bxf_ok (flag := flag) hs hv
  obtain ⟨mv, ml, _⟩ := metb_ok (rules := rules) (flag := flag) hs hv hr
  have hf := hs.v
  have hrb := VBox.rep hf hr
  have he := hn.2
  have hpl := he.1
  refine lc_all (bxf form fl flag) eB (fun b => meetN b (repBox form r)) (sz (by omega)) (fun _ _ => trivial) ?_ ?_
  · intro b hb S' x Kt Kf k
    refine i_box_of ⟨form, r, rfl, hf, hr, ?_⟩
    exact i_common ⟨form, b, repBox form r, rfl, hf, bv b hb, hrb, k⟩
  refine lc_filter (bxf form fl flag) (fun b => meetN b (repBox form r)) (fun b => !decide ([] ∈ meet b (repBox form r))) (fun b => eB (meet b (repBox form r))) (sz (by omega)) (fun _ _ => trivial) ?_ ?_
  · intro b hb S' x Kt Kf k
    by_cases e : [] ∈ meet b (repBox form r)
    · rw [decide_eq_true e] at k
      have e2 : meetN b (repBox form r) = .non := by unfold meetN; rw [if_pos e]
      rw [e2]; exact k
    · rw [decide_eq_false e] at k
      have e2 : meetN b (repBox form r) = eB (meet b (repBox form r)) := by unfold meetN; rw [if_neg e]
      rw [e2]; exact k
  have e : ((bxf form fl flag).filter fun b => !decide ([] ∈ meet b (repBox form r))).map (fun b => eB (meet b (repBox form r))) = (metb form fl r flag).map eB := by
    unfold metb
    rw [List.filter_map, List.map_map]
    have e1 : (bxf form fl flag).filter (fun b => !decide ([] ∈ meet b (repBox form r))) = (bxf form fl flag).filter ((fun b => !decide ([] ∈ b)) ∘ fun b => meet (repBox form r) b) := List.filter_congr fun b hb => by
      show (!decide ([] ∈ meet b (repBox form r))) = !decide ([] ∈ meet (repBox form r) b)
      rw [meet_comm (bv b hb) hrb]
    rw [e1]
    refine List.map_congr_left fun b hb => ?_
    show eB (meet b (repBox form r)) = eB (meet (repBox form r) b)
    rw [meet_comm (bv b (List.mem_filter.mp hb).1) hrb]
  rw [e]
  refine dIx_at (d := eN (.sure flag ps)) (i := 1) rfl (atI_nat (i := 1) rfl) ?_
  refine dIx_at (d := eN (.sure flag ps)) (i := 1) rfl (atI_nat (i := 1) rfl) ?_
  refine dNe_int ?_
  rw [dT (by rw [List.length_map, List.length_map, hpl])]
  refine dIx_at (d := eN (.sure flag ps)) (i := 1) rfl (atI_nat (i := 1) rfl) ?_
  refine lc_zip (xs := metb form fl r flag) (ys := ps) (E := eB) (E' := eP) (fun _ => .bl true) (by omega) (fun _ _ => trivial) ?_ ?_
  · rintro ⟨b, s⟩ hp S' x Kt Kf k
    obtain ⟨i, hi⟩ := List.getElem?_of_mem hp
    obtain ⟨hb, hsq⟩ : (metb form fl r flag)[i]? = some b ∧ ps[i]? = some s := by
      rw [List.getElem?_zip_eq_some] at hi; exact hi
    obtain ⟨boxes, B, v, hB, hl, hz⟩ := he.2 i b s hb hsq
    refine ⟨rfl, ?_⟩
    refine i_derived ⟨a, form, rules, s, boxes, B, rfl, ⟨x _ _ bk.1, bk.2⟩, v, hB, hz, ?_⟩
    refine i_within ⟨form, b, B, rfl, hf, mv b (List.mem_of_getElem? hb), v.box bk.2.2 B (List.mem_of_getLast? hB), ?_⟩
    rw [hl]; exact k
  · exact dAll_true (Fin.now h)
@[irreducible] def c__law_steps_right : DC := fun ds S R => ∃ a form rules fl r flag ps, ds = [.loc a, eF fl, eR r, eN (.sure flag ps)] ∧ Bk S a form rules ∧ Sm form ∧ VFil form fl ∧ VRep form r ∧ Note form rules fl r (.sure flag ps) ∧ R (.bl true) S
theorem i__law_steps_right {ds : List D} {S : Sto} {R : DQ} (h : ∃ a form rules fl r flag ps, ds = [.loc a, eF fl, eR r, eN (.sure flag ps)] ∧ Bk S a form rules ∧ Sm form ∧ VFil form fl ∧ VRep form r ∧ Note form rules fl r (.sure flag ps) ∧ R (.bl true) S) : c__law_steps_right ds S R := by unfold c__law_steps_right; exact h
theorem u__law_steps_right {ds : List D} {S : Sto} {R : DQ} (h : c__law_steps_right ds S R) : ∃ a form rules fl r flag ps, ds = [.loc a, eF fl, eR r, eN (.sure flag ps)] ∧ Bk S a form rules ∧ Sm form ∧ VFil form fl ∧ VRep form r ∧ Note form rules fl r (.sure flag ps) ∧ R (.bl true) S := by unfold c__law_steps_right at h; exact h
theorem q__law_steps_right : Qd w__law_steps_right 9 c__law_steps_right := by
  intro ds S R hc0
  obtain ⟨a, form, rules, fl, r, flag, ps, rfl, bk, hs, hv, hr, hn, h⟩ := u__law_steps_right hc0
  refine fld_form bk.1 ?_
  refine dIx_at (d := eN (.sure flag ps)) (i := 0) rfl at0 ?_
  refine dEq_str ?_ (by cases flag <;> decide +kernel)
  cases flag with
  | false =>
    rw [dT (by decide)]
    refine fld_form bk.1 ?_
    refine i_outside ⟨form, fl, rfl, hs, hv, ?_⟩
    exact ⟨sz (Nat.le_of_ble_eq_true rfl), rfl, steps_tail bk hs hv hr hn h⟩
  | true =>
    rw [dF (by decide)]
    refine fld_form bk.1 ?_
    refine i_inside ⟨form, fl, rfl, hs, hv, ?_⟩
    exact ⟨sz (Nat.le_of_ble_eq_true rfl), rfl, steps_tail bk hs hv hr hn h⟩
end K94
set_option Elab.async false
set_option linter.all false
set_option maxRecDepth 100000
set_option maxHeartbeats 1000000
namespace K94
open PySem PySem.Spec PyProof.Rows L2 Dd Mir K78
theorem word_sure {form : List Int} {rules : List Box} {fl : Fil} {r : Rep} {flag : Bool} (e : agreed form rules r ≠ []) (h : ∀ f ∈ agreed form rules r, lets fl f = !flag) : wordOf fl (agreed form rules r) = wS flag := by
  unfold wordOf
  cases flag with
  | false => rw [List.all_eq_true.mpr h, if_pos rfl]; rfl
  | true =>
    obtain ⟨f, rest, ef⟩ := List.exists_cons_of_ne_nil e
    have hf : lets fl f = false := h f (by rw [ef]; exact List.mem_cons_self)
    have h1 : (agreed form rules r).all (lets fl) = false := by
      rw [List.all_eq_false]
      exact ⟨f, by rw [ef]; exact List.mem_cons_self, by rw [hf]; decide⟩
    have h2 : (agreed form rules r).any (lets fl) = false := by
      rw [List.any_eq_false]
      exact fun g hg => by rw [h g hg]; decide
    rw [h1, h2, if_neg Bool.false_ne_true, if_neg Bool.false_ne_true]; rfl
theorem word_may {form : List Int} {rules : List Box} {fl : Fil} {r : Rep} {f g : List Int} (hf : f ∈ agreed form rules r) (hg : g ∈ agreed form rules r) (h1 : lets fl f = true) (h2 : lets fl g = false) : wordOf fl (agreed form rules r) = "may" := by
  unfold wordOf
  have e1 : (agreed form rules r).all (lets fl) = false := by
    rw [List.all_eq_false]
    exact ⟨g, hg, by rw [h2]; decide⟩
  have e2 : (agreed form rules r).any (lets fl) = true := List.any_eq_true.mpr ⟨f, hf, h1⟩
  rw [e1, e2, if_neg Bool.false_ne_true, if_pos rfl]
@[irreducible] def c__law_notice_right : DC := fun ds S R => ∃ a form rules fl r, ds = [.loc a, .lst ((lawful form rules).map eI), eF fl, eR r] ∧ Bk S a form rules ∧ Sm form ∧ VFil form fl ∧ VRep form r ∧ R (.bl true) S
theorem i__law_notice_right {ds : List D} {S : Sto} {R : DQ} (h : ∃ a form rules fl r, ds = [.loc a, .lst ((lawful form rules).map eI), eF fl, eR r] ∧ Bk S a form rules ∧ Sm form ∧ VFil form fl ∧ VRep form r ∧ R (.bl true) S) : c__law_notice_right ds S R := by unfold c__law_notice_right; exact h
theorem u__law_notice_right {ds : List D} {S : Sto} {R : DQ} (h : c__law_notice_right ds S R) : ∃ a form rules fl r, ds = [.loc a, .lst ((lawful form rules).map eI), eF fl, eR r] ∧ Bk S a form rules ∧ Sm form ∧ VFil form fl ∧ VRep form r ∧ R (.bl true) S := by unfold c__law_notice_right at h; exact h
def w__law_notice_right : DS := (sSeq (sAsg (wLc (iSeq (wVar 1)) (gN 8) (asB (wCall c__law_agrees (aCons (wVar 3) (aCons (wVar 8) aNil)))) (wVar 8) [8]) (gN 4)) (sSeq (sTry mt_Barred (sAsgX (wCallX c_notice (aConsX (xUp (wVar 0)) (aConsX (xUp (wVar 2)) (aConsX (xUp (wVar 3)) (aUp aNil))))) (gN 6)) (sRet (w2 dEq (wVar 4) (wLst aNil)))) (sSeq (sAsg (wCall c__law_word (aCons (wVar 4) (aCons (wVar 2) aNil))) (gN 5)) (sSeq (sIf (tOr' (asB (w2 dEq (wVar 4) (wLst aNil))) (tOr' (asB (w2 dNe (w2 dIx (wVar 6) (wC (.int 0))) (wVar 5))) (asB (w2 dNotB (wCall c_is_notice (aCons (wVar 0) (aCons (wVar 2) (aCons (wVar 3) (aCons (wVar 6) aNil))))) (wC (.bl true)))))) (sRet (wC (.bl false))) sNil) (sSeq (sIf (asB (w2 dNe (wVar 5) (wC (.str "may")))) (sSeq (sIf (tOr' (asB (w2 dNe (wCall dLen (aCons (wVar 6) aNil)) (wC (.int 2)))) (tNot' (asB (wCall c__law_steps_right (aCons (wVar 0) (aCons (wVar 2) (aCons (wVar 3) (aCons (wVar 6) aNil)))))))) (sRet (wC (.bl false))) sNil) (sSeq (sAsg (wIf (asB (w2 dEq (wVar 5) (wC (.str "must")))) (wC (.str "never")) (wC (.str "must"))) (gN 7)) (sRet (w2 dIsB (wCall c_is_notice (aCons (wVar 0) (aCons (wVar 2) (aCons (wVar 3) (aCons (wTup (aCons (wVar 7) (aCons (w2 dIx (wVar 6) (wC (.int 1))) aNil))) aNil))))) (wC (.bl false)))))) sNil) (sSeq (sIf (tOr' (asB (w2 dNe (wCall dLen (aCons (wVar 6) aNil)) (wC (.int 3)))) (tOr' (asB (w2 dNotIn (w2 dIx (wVar 6) (wC (.int 1))) (wVar 4))) (asB (w2 dNotIn (w2 dIx (wVar 6) (wC (.int 2))) (wVar 4))))) (sRet (wC (.bl false))) sNil) (sSeq (sIf (tOr' (tNot' (asB (wCall c__law_in (aCons (wVar 2) (aCons (w2 dIx (wVar 6) (wC (.int 1))) aNil))))) (asB (wCall c__law_in (aCons (wVar 2) (aCons (w2 dIx (wVar 6) (wC (.int 2))) aNil))))) (sRet (wC (.bl false))) sNil) (sRet (w2 dIsB (wCall c_is_notice (aCons (wVar 0) (aCons (wVar 2) (aCons (wVar 3) (aCons (wTup (aCons (wC (.str "may")) (aCons (w2 dIx (wVar 6) (wC (.int 2))) (aCons (w2 dIx (wVar 6) (wC (.int 1))) aNil)))) aNil))))) (wC (.bl false)))))))))))
theorem q__law_notice_right : Qd w__law_notice_right 9 c__law_notice_right := by
  intro ds S R hc0
  obtain ⟨a, form, rules, fl, r, rfl, bk, hs, hv, hr, h⟩ := u__law_notice_right hc0
  have hf := hs.v
  have hl4 := agreed_few (rules := rules) (r := r) hf
  refine lc_filter (lawful form rules) eI (agr r) eI (sz (Nat.le_trans (lawful_few hf) (by decide))) (fun _ _ => trivial) ?_ ?_
  · intro f hff S' x Kt Kf k
    refine i__law_agrees ⟨r, f, rfl, by have := hr.1; have := hf.l8; omega, ?_⟩
    cases q : agr r f with
    | true => rw [q] at k; exact k
    | false => rw [q] at k; exact k
  rw [show (lawful form rules).filter (agr r) = agreed form rules r from rfl]
  refine i_notice ⟨a, form, rules, fl, r, rfl, bk, hs, hv, hr, fun e => .inl ⟨if_pos rfl, ?_⟩, fun e t ht => ?_⟩
  · refine ⟨sz (Nat.zero_le _), dEq_lst (ys := []) ?_⟩
    rw [dT e]
    exact Fin.now h
  · refine i__law_word ⟨form, fl, agreed form rules r, rfl, hf, hv, hl4, ?_⟩
    refine ⟨sz (Nat.zero_le _), dEq_lst (ys := []) ?_⟩
    rw [dF e]
    cases t with
    | sure flag ps =>
      rw [word_sure e ht.1]
      refine dIx_at (d := eN (.sure flag ps)) (i := 0) rfl at0 ?_
      refine dNe_str ?_ (by cases flag <;> decide +kernel) (by cases flag <;> decide +kernel)
      rw [dT rfl]
      refine i_is_notice ⟨a, form, rules, fl, r, _, true, rfl, bk, hs, hv, hr, e, .right (.sure flag ps) ht, ?_⟩
      refine dNe_str ?_ (by cases flag <;> decide +kernel)
      rw [dF (by cases flag <;> decide)]
      refine dNe_int ?_
      rw [dT (by rfl)]
      refine i__law_steps_right ⟨a, form, rules, fl, r, flag, ps, rfl, bk, hs, hv, hr, ht, ?_⟩
      refine dEq_str ?_ (by cases flag <;> decide +kernel)
      have fin : ∀ w, w = wS (!flag) → (sRet (w2 dIsB (wCall c_is_notice (aCons (wVar 0) (aCons (wVar 2) (aCons (wVar 3) (aCons (wTup (aCons (wVar 7) (aCons (w2 dIx (wVar 6) (wC (.int 1))) aNil))) aNil))))) (wC (.bl false)))) { nx := fun _ S' => Dd.Fin R .non S', rt := Dd.Fin R } [some (.loc a), some (.lst ((lawful form rules).map eI)), some (eF fl), some (eR r), some (.lst ((agreed form rules r).map eI)), some (.str (wS flag)), some (eN (.sure flag ps)), some (.str w), none] S := fun w ew => by
        refine dIx_at (d := eN (.sure flag ps)) (i := 1) rfl (atI_nat (i := 1) rfl) ?_
        refine ⟨sz (Nat.le_of_ble_eq_true rfl), ?_⟩
        refine i_is_notice ⟨a, form, rules, fl, r, .tup [.str w, .tup (ps.map eP)], false, rfl, bk, hs, hv, hr, e, ?_, ?_⟩
        · rw [ew]; exact .other flag ps ht.1
        · exact Fin.now h
      cases flag with
      | false => rw [dT (by decide)]; exact fin _ rfl
      | true => rw [dF (by decide)]; exact fin _ rfl
    | may f g =>
      obtain ⟨hfm, hgm, hfl, hgl⟩ := id ht
      rw [word_may hfm hgm hfl hgl]
      refine dIx_at (d := eN (.may f g)) (i := 0) rfl at0 ?_
      refine dNe_str ?_
      rw [dT rfl]
      refine i_is_notice ⟨a, form, rules, fl, r, _, true, rfl, bk, hs, hv, hr, e, .right (.may f g) ht, ?_⟩
      refine dNe_str ?_
      rw [dT rfl]
      refine dNe_int ?_
      rw [dT (by rfl)]
      refine dIx_at (d := eN (.may f g)) (i := 1) rfl (atI_nat (i := 1) rfl) ?_
      refine dNotIn_fn (E := eI) (n := 1) eq_eI okI (by decide) (xs := agreed form rules r) rfl ?_
      rw [dT hfm]
      refine dIx_at (d := eN (.may f g)) (i := 2) rfl (atI_nat (i := 2) rfl) ?_
      refine dNotIn_fn (E := eI) (n := 1) eq_eI okI (by decide) (xs := agreed form rules r) rfl ?_
      rw [dT hgm]
      refine dIx_at (d := eN (.may f g)) (i := 1) rfl (atI_nat (i := 1) rfl) ?_
      refine i__law_in ⟨form, fl, f, rfl, hf, hv, ?_⟩
      rw [hfl]
      refine dIx_at (d := eN (.may f g)) (i := 2) rfl (atI_nat (i := 2) rfl) ?_
      refine i__law_in ⟨form, fl, g, rfl, hf, hv, ?_⟩
      rw [hgl]
      refine dIx_at (d := eN (.may f g)) (i := 2) rfl (atI_nat (i := 2) rfl) ?_
      refine dIx_at (d := eN (.may f g)) (i := 1) rfl (atI_nat (i := 1) rfl) ?_
      refine ⟨sz (Nat.le_of_ble_eq_true rfl), ?_⟩
      exact i_is_notice ⟨a, form, rules, fl, r, _, false, rfl, bk, hs, hv, hr, e, .swap f g hfm hgm hfl hgl, Fin.now h⟩
end K94
set_option Elab.async false
set_option linter.all false
set_option maxRecDepth 100000
set_option maxHeartbeats 1000000
namespace K94
open PySem PySem.Spec PyProof.Rows L2 Dd Mir K78
abbrev wholeB (form : List Int) : Box := form.map rng
abbrev oneB (form : List Int) (i : Nat) (v : Int) : Box := withLot (wholeB form) i [v]
abbrev AllAt (form : List Int) (rules : List Box) (r : Rep) (i : Nat) (v : Int) : Prop := ∀ f ∈ agreed form rules r, f[i]? = some v
theorem one_ok {form : List Int} {i : Nat} {m v : Int} (hf : VForm form) (hm : form[i]? = some m) (h0 : 0 ≤ v) (h1 : v < m) : VBox form (oneB form i v) :=
  VBox.set (VBox.whole fun m hm => by have := (hf.m m hm).1; omega) hm (VLot.one ⟨h0, h1⟩)
theorem held_one {form : List Int} {i : Nat} {v : Int} {f : List Int} (hv : VFlt form f) (hi : i < form.length) : held (oneB form i v) f = decide (f[i]? = some v) := by
  have hl : i < (wholeB form).length := by rw [List.length_map]; exact hi
  have hu : f[i]? = some (f[i]'(by rw [hv.1]; exact hi)) := List.getElem?_eq_getElem _
  rw [Bool.eq_iff_iff, held_iff, decide_eq_true_iff]
  constructor
  · intro h
    have := h i [v] _ (by rw [withLot_get hl, if_pos rfl]) hu
    rw [hu, List.mem_singleton.mp this]
  · intro h j l u hl' hu'
    rw [withLot_get hl] at hl'
    by_cases e : j = i
    · rw [if_pos e] at hl'
      have hl' := Option.some.inj hl'
      rw [e, h] at hu'
      rw [← hl', Option.some.inj hu']
      exact List.mem_singleton.mpr rfl
    · rw [if_neg e, List.getElem?_map] at hl'
      cases hm : form[j]? with
      | none => rw [hm] at hl'; cases hl'
      | some m =>
        rw [hm] at hl'
        have hl' := Option.some.inj hl'
        rw [← hl']
        exact mem_rng.mpr (hv.2 j m u hm hu')
theorem fil_one {form : List Int} {i : Nat} {m v : Int} (hf : VForm form) (hm : form[i]? = some m) (h0 : 0 ≤ v) (h1 : v < m) : VFil form [(true, oneB form i v)] := by
  refine ⟨fun p hp => ?_, Nat.le_of_ble_eq_true rfl⟩
  rw [List.mem_singleton.mp hp]
  exact one_ok hf hm h0 h1
theorem fil_but {form : List Int} {i : Nat} {m v : Int} (hf : VForm form) (hm : form[i]? = some m) (h0 : 0 ≤ v) (h1 : v < m) : VFil form [(true, wholeB form), (false, oneB form i v)] := by
  refine ⟨fun p hp => ?_, Nat.le_of_ble_eq_true rfl⟩
  rcases List.mem_cons.mp hp with rfl | hp
  · exact VBox.whole fun m hm => by have := (hf.m m hm).1; omega
  · rw [List.mem_singleton.mp hp]
    exact one_ok hf hm h0 h1
theorem lets_one {form : List Int} {rules : List Box} {r : Rep} {i : Nat} {v : Int} {f : List Int} (hf : f ∈ agreed form rules r) (hi : i < form.length) : lets [(true, oneB form i v)] f = decide (f[i]? = some v) := by
  have hv : VFlt form f := (mem_lawful.mp (mem_agreed.mp hf).1).1
  rw [← held_one hv hi]
  show (if held (oneB form i v) f = true then true else false) = _
  cases held (oneB form i v) f <;> rfl
/-- what settled tells, of a value -/
def isTold (t : Thing) (v : Int) : Bool := match t with
  | .said u => decide (u = v)
  | .told u _ => decide (u = v)
  | _ => false
theorem told_all {form : List Int} {rules : List Box} {r : Rep} {i : Nat} {v : Int} {t : Thing} (hi : i < form.length) (hn : agreed form rules r ≠ []) (d : Due form rules r i t) : isTold t v = true ↔ AllAt form rules r i v := by
  obtain ⟨f0, rest, ef⟩ := List.exists_cons_of_ne_nil hn
  have m0 : f0 ∈ agreed form rules r := by rw [ef]; exact List.mem_cons_self
  have key : ∀ u, AllAt form rules r i u → (decide (u = v) = true ↔ AllAt form rules r i v) := fun u hu => by
    rw [decide_eq_true_iff]
    constructor
    · rintro rfl; exact hu
    · intro h
      have h1 := hu f0 m0
      rw [h f0 m0] at h1
      exact (Option.some.inj h1).symm
  cases t with
  | never s => exact absurd d.1 hn
  | said u =>
    refine key u fun f hf => ?_
    obtain ⟨hl, ha⟩ := mem_agreed.mp hf
    have hv := (mem_lawful.mp hl).1
    have hu : f[i]? = some (f[i]'(by rw [hv.1]; exact hi)) := List.getElem?_eq_getElem _
    rw [hu, agr_iff.mp ha i u _ d.2 hu]
  | told u s => exact key u d.2.2.1
  | opn f g =>
    obtain ⟨_, hf, hg, u, w, h1, h2, lt⟩ := d
    refine ⟨(fun z => absurd (show false = true from z) (by decide)), fun h => ?_⟩
    have e1 := h f hf
    have e2 := h g hg
    rw [h1] at e1; rw [h2] at e2
    have := Option.some.inj e1; have := Option.some.inj e2; omega
def nWord : NT → Str
  | .sure flag _ => wS flag
  | .may _ _ => "may"
theorem nWord_ok : ∀ t, PyData.strOk (nWord t) = true
  | .sure true _ => by show PyData.strOk "never" = true; decide +kernel
  | .sure false _ => by show PyData.strOk "must" = true; decide +kernel
  | .may _ _ => by show PyData.strOk "may" = true; decide +kernel
theorem must_all {form : List Int} {rules : List Box} {r : Rep} {i : Nat} {v : Int} {t : NT} (hi : i < form.length) (hn : agreed form rules r ≠ []) (d : Note form rules [(true, oneB form i v)] r t) : nWord t = "must" ↔ AllAt form rules r i v := by
  obtain ⟨f0, rest, ef⟩ := List.exists_cons_of_ne_nil hn
  have m0 : f0 ∈ agreed form rules r := by rw [ef]; exact List.mem_cons_self
  cases t with
  | sure flag ps =>
    cases flag with
    | false =>
      refine ⟨fun _ f hf => ?_, fun _ => rfl⟩
      have := d.1 f hf
      rw [lets_one hf hi] at this
      exact of_decide_eq_true this
    | true =>
      refine ⟨fun z => absurd (show wS true = "must" from z) (by decide), fun h => ?_⟩
      have := d.1 f0 m0
      rw [lets_one m0 hi, decide_eq_true (h f0 m0)] at this
      cases this
  | may f g =>
    refine ⟨fun z => absurd (show ("may" : Str) = "must" from z) (by decide), fun h => ?_⟩
    have := d.2.2.2
    rw [lets_one d.2.1 hi, decide_eq_true (h g d.2.1)] at this
    cases this
@[irreducible] def c__law_values_right : DC := fun ds S R => ∃ a form rules r, ∃ i : Nat, ds = [.loc a, .lst ((lawful form rules).map eI), eR r, .int i] ∧ Bk S a form rules ∧ Sm form ∧ VRep form r ∧ i < form.length ∧ R (.bl true) S
theorem i__law_values_right {ds : List D} {S : Sto} {R : DQ} (h : ∃ a form rules r, ∃ i : Nat, ds = [.loc a, .lst ((lawful form rules).map eI), eR r, .int i] ∧ Bk S a form rules ∧ Sm form ∧ VRep form r ∧ i < form.length ∧ R (.bl true) S) : c__law_values_right ds S R := by unfold c__law_values_right; exact h
theorem u__law_values_right {ds : List D} {S : Sto} {R : DQ} (h : c__law_values_right ds S R) : ∃ a form rules r, ∃ i : Nat, ds = [.loc a, .lst ((lawful form rules).map eI), eR r, .int i] ∧ Bk S a form rules ∧ Sm form ∧ VRep form r ∧ i < form.length ∧ R (.bl true) S := by unfold c__law_values_right at h; exact h
def w__law_values_right : DS := (sSeq (sPar 5 6 (aCons (wFld "Book" "form" (wVar 0)) (aCons (wLc (iSeq (wVar 1)) (gN 11) (asB (wCall c__law_agrees (aCons (wVar 2) (aCons (wVar 11) aNil)))) (wVar 11) [11]) aNil))) (sSeq (sPar 7 8 (aCons (wCall c_settled (aCons (wVar 0) (aCons (wVar 2) (aCons (wVar 3) aNil)))) (aCons (wCall dTuple (aCons (wLc (iSeq (wVar 5)) (gN 12) tYes' (wCall dTuple (aCons (wLstRg (rg1 (wVar 12))) aNil)) [12]) aNil)) aNil))) (sSeq (sIf (asB (w2 dNe (w2 dEq (w2 dIx (wVar 7) (wC (.int 0))) (wC (.str "never"))) (w2 dEq (wVar 6) (wLst aNil)))) (sRet (wC (.bl false))) sNil) (sSeq (sFor (iR1 (aCons (w2 dIx (wVar 5) (wVar 3)) aNil)) (gN 4) (sSeq (sAsg (wAdd (wAdd (wSl (wVar 8) oNone (oSome (wVar 3))) (wTup (aCons (wTup (aCons (wVar 4) aNil)) aNil))) (wSl (wVar 8) (oSome (wAdd (wVar 3) (wC (.int 1)))) oNone)) (gN 9)) (sSeq (sIf (tNot' (asB (wCall c__law_notice_right (aCons (wVar 0) (aCons (wVar 1) (aCons (wTup (aCons (wTup (aCons (wC (.bl true)) (aCons (wVar 9) aNil))) aNil)) (aCons (wVar 2) aNil))))))) (sRet (wC (.bl false))) sNil) (sSeq (sIf (tNot' (asB (wCall c__law_notice_right (aCons (wVar 0) (aCons (wVar 1) (aCons (wTup (aCons (wTup (aCons (wC (.bl true)) (aCons (wVar 8) aNil))) (aCons (wTup (aCons (wC (.bl false)) (aCons (wVar 9) aNil))) aNil))) (aCons (wVar 2) aNil))))))) (sRet (wC (.bl false))) sNil) (sIf (asB (w2 dNe (wVar 6) (wLst aNil))) (sSeq (sAsg (wAnd (w2 dIn (w2 dIx (wVar 7) (wC (.int 0))) (wTup (aCons (wC (.str "said")) (aCons (wC (.str "told")) aNil)))) (w2 dEq (w2 dIx (wVar 7) (wC (.int 1))) (wVar 4))) (gN 10)) (sIf (asB (w2 dNe (wVar 10) (w2 dEq (w2 dIx (wCall (fun ds S R => c_notice ds S R fun _ _ _ => False) (aCons (wVar 0) (aCons (wTup (aCons (wTup (aCons (wC (.bl true)) (aCons (wVar 9) aNil))) aNil)) (aCons (wVar 2) aNil)))) (wC (.int 0))) (wC (.str "must"))))) (sRet (wC (.bl false))) sNil)) sNil))))) (sRet (wC (.bl true)))))))
def w_values_tail : DS := (sSeq (sIf (asB (w2 dNe (w2 dEq (w2 dIx (wVar 7) (wC (.int 0))) (wC (.str "never"))) (w2 dEq (wVar 6) (wLst aNil)))) (sRet (wC (.bl false))) sNil) (sSeq (sFor (iR1 (aCons (w2 dIx (wVar 5) (wVar 3)) aNil)) (gN 4) (sSeq (sAsg (wAdd (wAdd (wSl (wVar 8) oNone (oSome (wVar 3))) (wTup (aCons (wTup (aCons (wVar 4) aNil)) aNil))) (wSl (wVar 8) (oSome (wAdd (wVar 3) (wC (.int 1)))) oNone)) (gN 9)) (sSeq (sIf (tNot' (asB (wCall c__law_notice_right (aCons (wVar 0) (aCons (wVar 1) (aCons (wTup (aCons (wTup (aCons (wC (.bl true)) (aCons (wVar 9) aNil))) aNil)) (aCons (wVar 2) aNil))))))) (sRet (wC (.bl false))) sNil) (sSeq (sIf (tNot' (asB (wCall c__law_notice_right (aCons (wVar 0) (aCons (wVar 1) (aCons (wTup (aCons (wTup (aCons (wC (.bl true)) (aCons (wVar 8) aNil))) (aCons (wTup (aCons (wC (.bl false)) (aCons (wVar 9) aNil))) aNil))) (aCons (wVar 2) aNil))))))) (sRet (wC (.bl false))) sNil) (sIf (asB (w2 dNe (wVar 6) (wLst aNil))) (sSeq (sAsg (wAnd (w2 dIn (w2 dIx (wVar 7) (wC (.int 0))) (wTup (aCons (wC (.str "said")) (aCons (wC (.str "told")) aNil)))) (w2 dEq (w2 dIx (wVar 7) (wC (.int 1))) (wVar 4))) (gN 10)) (sIf (asB (w2 dNe (wVar 10) (w2 dEq (w2 dIx (wCall (fun ds S R => c_notice ds S R fun _ _ _ => False) (aCons (wVar 0) (aCons (wTup (aCons (wTup (aCons (wC (.bl true)) (aCons (wVar 9) aNil))) aNil)) (aCons (wVar 2) aNil)))) (wC (.int 0))) (wC (.str "must"))))) (sRet (wC (.bl false))) sNil)) sNil))))) (sRet (wC (.bl true)))))
def w_values_end : DS := (sIf (asB (w2 dNe (wVar 6) (wLst aNil))) (sSeq (sAsg (wAnd (w2 dIn (w2 dIx (wVar 7) (wC (.int 0))) (wTup (aCons (wC (.str "said")) (aCons (wC (.str "told")) aNil)))) (w2 dEq (w2 dIx (wVar 7) (wC (.int 1))) (wVar 4))) (gN 10)) (sIf (asB (w2 dNe (wVar 10) (w2 dEq (w2 dIx (wCall (fun ds S R => c_notice ds S R fun _ _ _ => False) (aCons (wVar 0) (aCons (wTup (aCons (wTup (aCons (wC (.bl true)) (aCons (wVar 9) aNil))) aNil)) (aCons (wVar 2) aNil)))) (wC (.int 0))) (wC (.str "must"))))) (sRet (wC (.bl false))) sNil)) sNil)
theorem values_end {S : Sto} {F : DEnds} {a : Addr} {form : List Int} {rules : List Box} {r : Rep} {i : Nat} {m v : Int} {t : Thing} {lw x10 x11 x12 : Option D} (bk : Bk S a form rules) (hs : Sm form) (hr : VRep form r) (hi : i < form.length) (hm : form[i]? = some m) (h0 : 0 ≤ v) (h1 : v < m) (hd : Due form rules r i t)
    (h : ∀ y, F.nx [some (.loc a), lw, some (eR r), some (.int (i : Int)), some (.int v), some (eI form), some (.lst ((agreed form rules r).map eI)), some (eT t), some (eB (wholeB form)), some (eB (oneB form i v)), y, x11, x12] S) :
    w_values_end F [some (.loc a), lw, some (eR r), some (.int (i : Int)), some (.int v), some (eI form), some (.lst ((agreed form rules r).map eI)), some (eT t), some (eB (wholeB form)), some (eB (oneB form i v)), x10, x11, x12] S := by
  have hf := hs.v
  have hv := fil_one hf hm h0 h1
  refine ⟨sz (Nat.zero_le _), dNe_lst (ys := []) ?_⟩
  by_cases e : agreed form rules r = []
  · rw [dT e]
    exact h _
  · rw [dF e]
    have fin : ∀ b, b = isTold t v → (sIf (asB (w2 dNe (wVar 10) (w2 dEq (w2 dIx (wCall (fun ds S R => c_notice ds S R fun _ _ _ => False) (aCons (wVar 0) (aCons (wTup (aCons (wTup (aCons (wC (.bl true)) (aCons (wVar 9) aNil))) aNil)) (aCons (wVar 2) aNil)))) (wC (.int 0))) (wC (.str "must"))))) (sRet (wC (.bl false))) sNil) F [some (.loc a), lw, some (eR r), some (.int (i : Int)), some (.int v), some (eI form), some (.lst ((agreed form rules r).map eI)), some (eT t), some (eB (wholeB form)), some (eB (oneB form i v)), some (.bl b), x11, x12] S := fun b hb => by
      refine ⟨sz (Nat.le_of_ble_eq_true rfl), sz (Nat.le_of_ble_eq_true rfl), ?_⟩
      refine i_notice ⟨a, form, rules, [(true, oneB form i v)], r, rfl, bk, hs, hv, hr, fun z => absurd z e, fun _ t2 hn => ?_⟩
      refine dIx_at (d := eN t2) (i := 0) (x := .str (nWord t2)) (xs := match t2 with
        | .sure flag ps => [.str (wS flag), .tup (ps.map eP)]
        | .may f g => [.str "may", eI f, eI g]) (by cases t2 <;> rfl) (by cases t2 <;> rfl) ?_
      refine dEq_str ?_ (nWord_ok t2)
      refine dNe_bl ?_
      have q : b = decide (nWord t2 = "must") := by
        rw [Bool.eq_iff_iff, decide_eq_true_iff, hb, told_all hi e hd, must_all hi e hn]
      rw [dT q]
      exact h _
    cases t with
    | never s => exact absurd hd.1 e
    | said u =>
      refine dIx_at (d := eT (.said u)) (i := 0) rfl at0 ?_
      refine ⟨sz (Nat.le_of_ble_eq_true rfl), ?_⟩
      refine dIn_i (neg := false) (d := .str "said") (e := .tup [.str "said", .str "told"]) (xs := [.str "said", .str "told"]) rfl (by decide +kernel) (by decide +kernel) ?_
      rw [show xor false (([.str "said", .str "told"] : List D).any fun x => eqD x (.str "said")) = true by decide +kernel]
      refine dIx_at (d := eT (.said u)) (i := 1) rfl (atI_nat (i := 1) rfl) ?_
      refine dEq_int ?_
      exact fin _ rfl
    | told u s =>
      refine dIx_at (d := eT (.told u s)) (i := 0) rfl at0 ?_
      refine ⟨sz (Nat.le_of_ble_eq_true rfl), ?_⟩
      refine dIn_i (neg := false) (d := .str "told") (e := .tup [.str "said", .str "told"]) (xs := [.str "said", .str "told"]) rfl (by decide +kernel) (by decide +kernel) ?_
      rw [show xor false (([.str "said", .str "told"] : List D).any fun x => eqD x (.str "told")) = true by decide +kernel]
      refine dIx_at (d := eT (.told u s)) (i := 1) rfl (atI_nat (i := 1) rfl) ?_
      refine dEq_int ?_
      exact fin _ rfl
    | opn f g =>
      refine dIx_at (d := eT (.opn f g)) (i := 0) rfl at0 ?_
      refine ⟨sz (Nat.le_of_ble_eq_true rfl), ?_⟩
      refine dIn_i (neg := false) (d := .str "open") (e := .tup [.str "said", .str "told"]) (xs := [.str "said", .str "told"]) rfl (by decide +kernel) (by decide +kernel) ?_
      rw [show xor false (([.str "said", .str "told"] : List D).any fun x => eqD x (.str "open")) = false by decide +kernel]
      exact fin _ rfl
def tWord : Thing → Str
  | .never _ => "never"
  | .said _ => "said"
  | .told _ _ => "told"
  | .opn _ _ => "open"
theorem tWord_ok : ∀ t, PyData.strOk (tWord t) = true
  | .never _ => by show PyData.strOk "never" = true; decide +kernel
  | .said _ => by show PyData.strOk "said" = true; decide +kernel
  | .told _ _ => by show PyData.strOk "told" = true; decide +kernel
  | .opn _ _ => by show PyData.strOk "open" = true; decide +kernel
def tRest : Thing → List D
  | .never s => [eP s]
  | .said v => [.int v]
  | .told v s => [.int v, eP s]
  | .opn f g => [eI f, eI g]
theorem never_iff {form : List Int} {rules : List Box} {r : Rep} {i : Nat} {t : Thing} (hd : Due form rules r i t) : decide (tWord t = "never") = decide (agreed form rules r = []) := by
  cases t with
  | never s => rw [decide_eq_true (show tWord (.never s) = "never" from rfl), decide_eq_true hd.1]
  | said v => rw [decide_eq_false (show ¬ tWord (.said v) = "never" by show ¬ ("said" : Str) = "never"; decide), decide_eq_false hd.1]
  | told v s => rw [decide_eq_false (show ¬ tWord (.told v s) = "never" by show ¬ ("told" : Str) = "never"; decide), decide_eq_false hd.1]
  | opn f g => rw [decide_eq_false (show ¬ tWord (.opn f g) = "never" by show ¬ ("open" : Str) = "never"; decide), decide_eq_false fun z => by have := hd.2.1; rw [z] at this; cases this]
theorem values_tail {S : Sto} {R : DQ} {a : Addr} {form : List Int} {rules : List Box} {r : Rep} {i : Nat} {t : Thing} {x4 x9 x10 x11 x12 : Option D} (bk : Bk S a form rules) (hs : Sm form) (hr : VRep form r) (hi : i < form.length) (hd : Due form rules r i t) (h : R (.bl true) S) :
    w_values_tail { nx := fun _ S' => Fin R .non S', rt := Fin R } [some (.loc a), some (.lst ((lawful form rules).map eI)), some (eR r), some (.int (i : Int)), x4, some (eI form), some (.lst ((agreed form rules r).map eI)), some (eT t), some (eB (wholeB form)), x9, x10, x11, x12] S := by
  have hf := hs.v
  have h8 := hf.l8
  have hm := List.getElem?_eq_getElem hi
  obtain ⟨m, em⟩ : ∃ m, form[i] = m := ⟨_, rfl⟩
  rw [em] at hm
  have hm2 := hf.m m (List.mem_of_getElem? hm)
  refine dIx_at (d := eT t) (i := 0) (x := .str (tWord t)) (xs := .str (tWord t) :: tRest t) (by cases t <;> rfl) at0 ?_
  refine dEq_str ?_ (tWord_ok t)
  refine ⟨sz (Nat.zero_le _), dEq_lst (ys := []) ?_⟩
  refine dNe_bl ?_
  rw [dT (never_iff hd)]
  refine dIx_nat (d := eI form) (i := i) rfl (get_map hm) ?_
  refine ⟨⟨by omega, by omega⟩, ?_⟩
  refine for_rng m.toNat (fun k env S' => S' = S ∧ ∃ y4 y9 y10, env = [some (.loc a), some (.lst ((lawful form rules).map eI)), some (eR r), some (.int (i : Int)), y4, some (eI form), some (.lst ((agreed form rules r).map eI)), some (eT t), some (eB (wholeB form)), y9, y10, x11, x12]) ?_ ?_ ⟨rfl, _, _, _, rfl⟩
  · rintro env S' ⟨rfl, y4, y9, y10, rfl⟩
    exact ⟨trivial, Fin.now h⟩
  · rintro k env S' N hk hN ⟨rfl, y4, y9, y10, rfl⟩
    refine ⟨trivial, ?_⟩
    have hk1 : (k : Int) < m := by omega
    have hwl : (wholeB form).length = form.length := List.length_map _
    have hl : ((wholeB form).map eI).length = form.length := by rw [List.length_map, hwl]
    have a1 : cutL ((wholeB form).map eI) none (some (i : Int)) = ((wholeB form).take i).map eI := by rw [cut_to (by omega), List.map_take]
    have a2 : cutL ((wholeB form).map eI) (some ((i : Int) + 1)) none = ((wholeB form).drop (i + 1)).map eI := by
      rw [show ((i : Int) + 1) = ((i + 1 : Nat) : Int) by omega, cut_from (by omega), List.map_drop]
    have t1 : (((wholeB form).take i).map eI).length = i := by rw [List.length_map, List.length_take]; omega
    have t2 : (((wholeB form).drop (i + 1)).map eI).length = form.length - (i + 1) := by rw [List.length_map, List.length_drop, hwl]
    refine ⟨sz (Nat.le_of_ble_eq_true rfl), sz (Nat.le_of_ble_eq_true rfl), ?_, ?_, ?_⟩
    · rw [a1, t1]; exact sz (by simp; omega)
    · rw [a1, a2, List.length_append, t1, t2]; exact sz (by simp; omega)
    · rw [a1, a2]
      have e : D.tup (((wholeB form).take i).map eI ++ [.tup [.int (k : Int)]] ++ ((wholeB form).drop (i + 1)).map eI) = eB (oneB form i (k : Int)) := by
        show _ = D.tup ((((wholeB form).take i) ++ [[(k : Int)]] ++ ((wholeB form).drop (i + 1))).map eI)
        rw [List.map_append, List.map_append]; rfl
      rw [e]
      have v1 := fil_one hf hm (Int.natCast_nonneg k) hk1
      have v2 := fil_but hf hm (Int.natCast_nonneg k) hk1
      refine ⟨sz (Nat.le_of_ble_eq_true rfl), sz (Nat.le_of_ble_eq_true rfl), ?_⟩
      refine i__law_notice_right ⟨a, form, rules, [(true, oneB form i (k : Int))], r, rfl, bk, hs, v1, hr, ?_⟩
      refine ⟨sz (Nat.le_of_ble_eq_true rfl), sz (Nat.le_of_ble_eq_true rfl), sz (Nat.le_of_ble_eq_true rfl), ?_⟩
      refine i__law_notice_right ⟨a, form, rules, [(true, wholeB form), (false, oneB form i (k : Int))], r, rfl, bk, hs, v2, hr, ?_⟩
      exact values_end bk hs hr hi hm (Int.natCast_nonneg k) hk1 hd fun y => hN _ _ ⟨rfl, _, _, _, rfl⟩
theorem q__law_values_right : Qd w__law_values_right 13 c__law_values_right := by
  intro ds S R hc0
  obtain ⟨a, form, rules, r, i, rfl, bk, hs, hr, hi, h⟩ := u__law_values_right hc0
  have hf := hs.v
  have hl4 := agreed_few (rules := rules) (r := r) hf
  have h60 := hs.p60
  refine fld_form bk.1 ?_
  refine lc_filter (lawful form rules) eI (agr r) eI (sz (Nat.le_trans (lawful_few hf) (by decide))) (fun _ _ => trivial) ?_ ?_
  · intro f hff S' x Kt Kf k
    refine i__law_agrees ⟨r, f, rfl, by have := hr.1; have := hf.l8; omega, ?_⟩
    cases q : agr r f with
    | true => rw [q] at k; exact k
    | false => rw [q] at k; exact k
  rw [show (lawful form rules).filter (agr r) = agreed form rules r from rfl]
  refine i_settled ⟨a, form, rules, r, i, rfl, bk, by omega, hr, hi, fun t hd => ?_⟩
  refine lc_all form D.int (fun m => eI (rng m)) (sz (by have := hf.l8; omega)) (fun _ _ => trivial) ?_ ?_
  · intro m hmm S' x Kt Kf k
    have := hf.m m hmm
    refine ⟨⟨by omega, by omega, by omega, by omega, by omega⟩, ?_⟩
    rw [Int.sub_zero, rngD_rng]
    exact k
  have ew : D.tup (form.map fun m => eI (rng m)) = eB (wholeB form) := by
    show _ = D.tup ((form.map rng).map eI)
    rw [List.map_map]; rfl
  have q := values_tail (x4 := none) (x9 := none) (x10 := none) (x11 := none) (x12 := none) bk hs hr hi hd h
  rw [← ew] at q
  exact q
end K94
set_option Elab.async false
set_option linter.all false
set_option maxRecDepth 100000
set_option maxHeartbeats 1000000
namespace K94
open PySem PySem.Spec PyProof.Rows L2 Dd Mir K78
theorem ext_none {S S' : Sto} {x : Addr} (ex : Ext S S') (h : S' x = none) : S x = none := by
  cases e : S x with
  | none => rfl
  | some o => have := ex x o e; rw [h] at this; cases this
theorem Hn.ext {S S1 S2 : Sto} {h : Addr} (ex : Ext S S1) (h0 : S h = none) (y : Hn S1 h S2) : Ext S S2 := by
  obtain ⟨cs, p, g, a, k, hp, rfl⟩ := y
  exact Ext.put' ex h0
def w_law_turn : DS := (sSeq (sAsg (wCall c__law_report (aCons (wVar 1) (aCons (wVar 3) (aCons (wVar 8) aNil)))) (gN 9)) (sSeq (sIf (tNot' (asB (wCall c__law_values_right (aCons (wVar 7) (aCons (wVar 8) (aCons (wVar 9) (aCons (wCall c__law_draw (aCons (wVar 1) (aCons (wCall dLen (aCons (wVar 3) aNil)) aNil))) aNil))))))) (sRet (wC (.bl false))) sNil) (sSeq (sAsg (wCall dTuple (aCons (wLc (iR1 (aCons (wCall c__law_draw (aCons (wVar 1) (aCons (wC (.int 5)) aNil))) aNil)) (gN 12) tYes' (wTup (aCons (w2 dEq (wCall c__law_draw (aCons (wVar 1) (aCons (wC (.int 2)) aNil))) (wC (.int 0))) (aCons (wCall c__law_box (aCons (wVar 1) (aCons (wVar 3) aNil))) aNil))) [12]) aNil)) (gN 10)) (sSeq (sIf (tNot' (asB (wCall c__law_notice_right (aCons (wVar 7) (aCons (wVar 8) (aCons (wVar 10) (aCons (wVar 9) aNil))))))) (sRet (wC (.bl false))) sNil) (sSeq (sAsg (wAdd (wTup (aCons (wTup (aCons (wC (.bl true)) (aCons (wVar 5) aNil))) aNil)) (wCall dTuple (aCons (wLc (iSeq (wVar 10)) (gT 2 (gCons' (gN 13) (gCons' (gN 14) gNil'))) tYes' (wTup (aCons (wNot (wVar 13)) (aCons (wVar 14) aNil))) [13, 14]) aNil))) (gN 10)) (sIf (tNot' (asB (wCall c__law_notice_right (aCons (wVar 7) (aCons (wVar 8) (aCons (wVar 10) (aCons (wVar 9) aNil))))))) (sRet (wC (.bl false))) sNil))))))
def w_law_tail : DS := (sSeq (sPar 7 8 (aCons (wMake "Book" c_Book_dd__init_dd_ (aCons (wVar 3) (aCons (wVar 4) aNil))) (aCons (wCall c__law_lawful (aCons (wVar 3) (aCons (wVar 4) aNil))) aNil))) (sSeq (sAsg (wCall dTuple (aCons (wLc (iSeq (wVar 3)) (gN 11) tYes' (wCall dTuple (aCons (wLstRg (rg1 (wVar 11))) aNil)) [11]) aNil)) (gN 5)) (sFor (iR1 (aCons (wC (.int 3)) aNil)) (gN 6) (sSeq (sAsg (wCall c__law_report (aCons (wVar 1) (aCons (wVar 3) (aCons (wVar 8) aNil)))) (gN 9)) (sSeq (sIf (tNot' (asB (wCall c__law_values_right (aCons (wVar 7) (aCons (wVar 8) (aCons (wVar 9) (aCons (wCall c__law_draw (aCons (wVar 1) (aCons (wCall dLen (aCons (wVar 3) aNil)) aNil))) aNil))))))) (sRet (wC (.bl false))) sNil) (sSeq (sAsg (wCall dTuple (aCons (wLc (iR1 (aCons (wCall c__law_draw (aCons (wVar 1) (aCons (wC (.int 5)) aNil))) aNil)) (gN 12) tYes' (wTup (aCons (w2 dEq (wCall c__law_draw (aCons (wVar 1) (aCons (wC (.int 2)) aNil))) (wC (.int 0))) (aCons (wCall c__law_box (aCons (wVar 1) (aCons (wVar 3) aNil))) aNil))) [12]) aNil)) (gN 10)) (sSeq (sIf (tNot' (asB (wCall c__law_notice_right (aCons (wVar 7) (aCons (wVar 8) (aCons (wVar 10) (aCons (wVar 9) aNil))))))) (sRet (wC (.bl false))) sNil) (sSeq (sAsg (wAdd (wTup (aCons (wTup (aCons (wC (.bl true)) (aCons (wVar 5) aNil))) aNil)) (wCall dTuple (aCons (wLc (iSeq (wVar 10)) (gT 2 (gCons' (gN 13) (gCons' (gN 14) gNil'))) tYes' (wTup (aCons (wNot (wVar 13)) (aCons (wVar 14) aNil))) [13, 14]) aNil))) (gN 10)) (sIf (tNot' (asB (wCall c__law_notice_right (aCons (wVar 7) (aCons (wVar 8) (aCons (wVar 10) (aCons (wVar 9) aNil))))))) (sRet (wC (.bl false))) sNil)))))))))
theorem law_turn {S : Sto} {h x : Addr} {F : DEnds} {form : List Int} {rules : List Box} {sc tn ag x9 x10 x11 x12 x13 x14 : Option D} (hh : HS S h) (hx : x ≠ h) (hs : Sm form) (hr : VRules form rules) (hb : S x = some (bookO form rules))
    (hF : ∀ (y9 y10 : Option D) (S2 : Sto), Hn S h S2 → F.nx [sc, some (.loc h), tn, some (eI form), some (eRs rules), some (eB (wholeB form)), ag, some (.loc x), some (.lst ((lawful form rules).map eI)), y9, y10, x11, x12, x13, x14] S2) :
    w_law_turn F [sc, some (.loc h), tn, some (eI form), some (eRs rules), some (eB (wholeB form)), ag, some (.loc x), some (.lst ((lawful form rules).map eI)), x9, x10, x11, x12, x13, x14] S := by
  have hf := hs.v
  have h1 := hf.l1
  have h8 := hf.l8
  have bk : ∀ {S2}, Hn S h S2 → Bk S2 x form rules := fun hn => ⟨by rw [hn.ne hx]; exact hb, hf, hr⟩
  refine i__law_report ⟨h, form, rules, rfl, hh, hf, fun r S1 hrr n1 => ?_⟩
  refine draw_i (m := ((form.map D.int).length : Int)) n1.hs (by rw [List.length_map]; omega) (by rw [List.length_map]; omega) fun v S2 v0 v1 n2 => ?_
  rw [List.length_map] at v1
  have n2 := n1.trans n2
  obtain ⟨k, rfl⟩ : ∃ k : Nat, v = (k : Int) := ⟨v.toNat, by omega⟩
  refine i__law_values_right ⟨x, form, rules, r, k, rfl, bk n2, hs, hrr, by omega, ?_⟩
  refine draw_i n2.hs (by decide) (by decide) fun n S3 n0 n5 n3 => ?_
  have n3 := n2.trans n3
  refine ⟨⟨by omega, by omega⟩, ?_⟩
  rw [rngD_rng]
  refine lc_rel (rng n) D.int eFp (fun _ p => VBox form p.2) (Hn S h) (sz (by rw [rng_len]; omega)) (fun _ _ _ _ _ => trivial) ?_ ?_ n3
  · intro m hm S' T acc hG hT Kt Kf kt
    refine draw_u hG hT (by decide) (by decide) fun u S4 u0 u1 hG2 hT2 => ?_
    refine dEq_int ?_
    refine i__law_box ⟨h, form, rfl, hG2.hs.under hT2, hf, fun b S5 hbx hn => ?_⟩
    obtain ⟨S6, rfl, y, hT6⟩ := Hn.under hG2.hs hT2 hn
    refine ⟨sz (Nat.le_of_ble_eq_true rfl), ?_⟩
    exact kt (decide (u = 0), b) S6 hbx (hG2.trans y) hT6
  · intro ps S4 hps n4
    have pl : ps.length ≤ 4 := by rw [hps.1, rng_len]; omega
    have pv : ∀ p ∈ ps, VBox form p.2 := fun p hp => by
      obtain ⟨i, hi⟩ := List.getElem?_of_mem hp
      have hlt : i < (rng n).length := by rw [← hps.1]; exact (List.getElem?_eq_some_iff.mp hi).1
      exact hps.2 i _ p (List.getElem?_eq_getElem hlt) hi
    refine i__law_notice_right ⟨x, form, rules, ps, r, rfl, bk n4, hs, ⟨pv, by omega⟩, hrr, ?_⟩
    refine ⟨sz (Nat.le_of_ble_eq_true rfl), sz (Nat.le_of_ble_eq_true rfl), ?_⟩
    refine lc_all ps eFp (fun p => eFp (!p.1, p.2)) (sz (by omega)) (fun _ _ => trivial) ?_ ?_
    · intro p hp S' e Kt Kf kk
      refine ⟨rfl, ?_⟩
      exact ⟨sz (Nat.le_of_ble_eq_true rfl), kk⟩
    · refine ⟨sz (by rw [List.length_map]; show 1 + _ ≤ _; omega), ?_⟩
      have e : D.tup ([.tup [.bl true, eB (wholeB form)]] ++ ps.map fun p => eFp (!p.1, p.2)) = eF ((true, wholeB form) :: ps.map fun p => (!p.1, p.2)) := by
        show _ = D.tup (((true, wholeB form) :: ps.map fun p => (!p.1, p.2)).map eFp)
        rw [List.map_cons, List.map_map]; rfl
      rw [e]
      refine i__law_notice_right ⟨x, form, rules, _, r, rfl, bk n4, hs, ⟨fun p hp => ?_, by rw [List.length_cons, List.length_map]; omega⟩, hrr, ?_⟩
      · rcases List.mem_cons.mp hp with rfl | hp
        · exact VBox.whole fun m hm => by have := (hf.m m hm).1; omega
        · obtain ⟨q, hq, rfl⟩ := List.mem_map.mp hp
          exact pv q hq
      · exact hF _ _ S4 n4
theorem law_tail {S0 S : Sto} {h : Addr} {F : DEnds} {form : List Int} {rules : List Box} {sc tn x5 x6 x7 x8 x9 x10 x11 x12 x13 x14 : Option D} (h0 : S0 h = none) (ex : Ext S0 S) (hh : HS S h) (hs : Sm form) (hr : VRules form rules)
    (hF : ∀ (y5 y6 y7 y8 y9 y10 : Option D) (S2 : Sto), Ext S0 S2 → HS S2 h → F.nx [sc, some (.loc h), tn, some (eI form), some (eRs rules), y5, y6, y7, y8, y9, y10, x11, x12, x13, x14] S2) :
    w_law_tail F [sc, some (.loc h), tn, some (eI form), some (eRs rules), x5, x6, x7, x8, x9, x10, x11, x12, x13, x14] S := by
  have hf := hs.v
  have h8 := hf.l8
  intro x hx
  have hxh : x ≠ h := hh.nT hx
  refine i_Book_dd__init_dd_ ⟨x, form, rules, rfl, put_same, hf, hr, ⟨rfl, ?_⟩⟩
  rw [put_put]
  obtain ⟨S1, hS1⟩ : ∃ S1, S1 = put S x (bookO form rules) := ⟨_, rfl⟩
  rw [← hS1]
  have ex1 : Ext S0 S1 := by rw [hS1]; exact Ext.put' ex (ext_none ex hx)
  have hh1 : HS S1 h := by rw [hS1]; exact hh.under hx
  have hx1 : S1 x = some (bookO form rules) := by rw [hS1, put_same]
  refine i__law_lawful ⟨form, rules, rfl, hf, hr, ?_⟩
  refine lc_all form D.int (fun m => eI (rng m)) (sz (by omega)) (fun _ _ => trivial) ?_ ?_
  · intro m hmm S' e Kt Kf k
    have := hf.m m hmm
    refine ⟨⟨by omega, by omega, by omega, by omega, by omega⟩, ?_⟩
    rw [Int.sub_zero, rngD_rng]
    exact k
  have ew : D.tup (form.map fun m => eI (rng m)) = eB (wholeB form) := by
    show _ = D.tup ((form.map rng).map eI)
    rw [List.map_map]; rfl
  refine ⟨⟨by decide, by decide⟩, ?_⟩
  rw [ew]
  refine for_rng 3 (fun i env S2 => (∃ y6 y9 y10, env = [sc, some (.loc h), tn, some (eI form), some (eRs rules), some (eB (wholeB form)), y6, some (.loc x), some (.lst ((lawful form rules).map eI)), y9, y10, x11, x12, x13, x14]) ∧ Ext S0 S2 ∧ S2 x = some (bookO form rules) ∧ HS S2 h) ?_ ?_ ⟨⟨_, _, _, rfl⟩, ex1, hx1, hh1⟩
  · rintro env S2 ⟨⟨y6, y9, y10, rfl⟩, e2, -, hh2⟩
    exact ⟨trivial, hF _ _ _ _ _ _ S2 e2 hh2⟩
  · rintro i env S2 N hi hN ⟨⟨y6, y9, y10, rfl⟩, e2, hx2, hh2⟩
    refine ⟨trivial, ?_⟩
    exact law_turn hh2 hxh hs hr hx2 fun y9 y10 S3 n3 => hN _ _ ⟨⟨_, _, _, rfl⟩, n3.ext e2 h0, by rw [n3.ne hxh]; exact hx2, n3.hs⟩
@[irreducible] def c_law : DC := fun ds S R => ∃ ns : List Int, ds = [.seq (ns.map D.int)] ∧ ns.length ≤ 63 ∧ R (.bl true) S
theorem i_law {ds : List D} {S : Sto} {R : DQ} (h : ∃ ns : List Int, ds = [.seq (ns.map D.int)] ∧ ns.length ≤ 63 ∧ R (.bl true) S) : c_law ds S R := by unfold c_law; exact h
theorem u_law {ds : List D} {S : Sto} {R : DQ} (h : c_law ds S R) : ∃ ns : List Int, ds = [.seq (ns.map D.int)] ∧ ns.length ≤ 63 ∧ R (.bl true) S := by unfold c_law at h; exact h
def w_law : DS := (sSeq (sAsg (wCall c__law_hand (aCons (wVar 0) aNil)) (gN 1)) (sSeq (sFor (iR1 (aCons (wC (.int 2)) aNil)) (gN 2) (sSeq (sAsg (wCall c__law_form (aCons (wVar 1) (aCons (wC (.int 4)) (aCons (wC (.int 60)) aNil)))) (gN 3)) (sSeq (sAsg (wCall c__law_rules (aCons (wVar 1) (aCons (wVar 3) (aCons (wC (.int 6)) aNil)))) (gN 4)) (sSeq (sPar 7 8 (aCons (wMake "Book" c_Book_dd__init_dd_ (aCons (wVar 3) (aCons (wVar 4) aNil))) (aCons (wCall c__law_lawful (aCons (wVar 3) (aCons (wVar 4) aNil))) aNil))) (sSeq (sAsg (wCall dTuple (aCons (wLc (iSeq (wVar 3)) (gN 11) tYes' (wCall dTuple (aCons (wLstRg (rg1 (wVar 11))) aNil)) [11]) aNil)) (gN 5)) (sFor (iR1 (aCons (wC (.int 3)) aNil)) (gN 6) (sSeq (sAsg (wCall c__law_report (aCons (wVar 1) (aCons (wVar 3) (aCons (wVar 8) aNil)))) (gN 9)) (sSeq (sIf (tNot' (asB (wCall c__law_values_right (aCons (wVar 7) (aCons (wVar 8) (aCons (wVar 9) (aCons (wCall c__law_draw (aCons (wVar 1) (aCons (wCall dLen (aCons (wVar 3) aNil)) aNil))) aNil))))))) (sRet (wC (.bl false))) sNil) (sSeq (sAsg (wCall dTuple (aCons (wLc (iR1 (aCons (wCall c__law_draw (aCons (wVar 1) (aCons (wC (.int 5)) aNil))) aNil)) (gN 12) tYes' (wTup (aCons (w2 dEq (wCall c__law_draw (aCons (wVar 1) (aCons (wC (.int 2)) aNil))) (wC (.int 0))) (aCons (wCall c__law_box (aCons (wVar 1) (aCons (wVar 3) aNil))) aNil))) [12]) aNil)) (gN 10)) (sSeq (sIf (tNot' (asB (wCall c__law_notice_right (aCons (wVar 7) (aCons (wVar 8) (aCons (wVar 10) (aCons (wVar 9) aNil))))))) (sRet (wC (.bl false))) sNil) (sSeq (sAsg (wAdd (wTup (aCons (wTup (aCons (wC (.bl true)) (aCons (wVar 5) aNil))) aNil)) (wCall dTuple (aCons (wLc (iSeq (wVar 10)) (gT 2 (gCons' (gN 13) (gCons' (gN 14) gNil'))) tYes' (wTup (aCons (wNot (wVar 13)) (aCons (wVar 14) aNil))) [13, 14]) aNil))) (gN 10)) (sIf (tNot' (asB (wCall c__law_notice_right (aCons (wVar 7) (aCons (wVar 8) (aCons (wVar 10) (aCons (wVar 9) aNil))))))) (sRet (wC (.bl false))) sNil)))))))))))) (sRet (wC (.bl true)))))
theorem q_law : Qd w_law 15 c_law := by
  intro ds S R hc0
  obtain ⟨ns, rfl, hz, hR⟩ := u_law hc0
  refine i__law_hand ⟨ns, rfl, hz, fun h cs a0 h0 => ?_⟩
  refine ⟨⟨by decide, by decide⟩, ?_⟩
  refine for_rng 2 (fun i env S' => (∃ y2 y3 y4 y5 y6 y7 y8 y9 y10 y11 y12 y13 y14 : Option D, env = [some (.seq (ns.map D.int)), some (.loc h), y2, y3, y4, y5, y6, y7, y8, y9, y10, y11, y12, y13, y14]) ∧ Ext S S' ∧ HS S' h) ?_ ?_ ⟨⟨none, none, none, none, none, none, none, none, none, none, none, none, none, rfl⟩, Ext.put h0, cs, 0, 0, a0, 0, by decide, put_same⟩
  · rintro env S' ⟨-, ex, -⟩
    refine ⟨trivial, ?_⟩
    exact Fin.to (Wk.of ex) hR
  · rintro i env S' N hi hN ⟨⟨y2, y3, y4, y5, y6, y7, y8, y9, y10, y11, y12, y13, y14, rfl⟩, ex, hh⟩
    refine ⟨trivial, ?_⟩
    refine i__law_form ⟨h, rfl, hh, fun form S1 hs n1 => ?_⟩
    refine i__law_rules ⟨h, form, rfl, n1.hs, hs.v, fun rules S2 hr n2 => ?_⟩
    exact law_tail h0 ((n1.trans n2).ext ex h0) n2.hs hs hr fun z5 z6 z7 z8 z9 z10 S3 e3 h3 => hN _ _ ⟨⟨_, _, _, _, _, _, _, _, _, _, _, _, _, rfl⟩, e3, h3⟩
end K94
set_option Elab.async false
set_option linter.all false
set_option maxRecDepth 100000
set_option maxHeartbeats 4000000
namespace K94
open PySem PySem.Spec PyProof.Rows L2 Dd Mir K78

theorem l_is_integer : ∀ ds S R, c_is_integer ds S R → ds.length = 1 := by
  intro ds S R h
  have h := u_is_integer h
  repeat' first | (rcases h with ⟨rfl, _⟩; rfl) | (refine Or.elim h ?_ ?_ <;> (clear h; intro h)) | (obtain ⟨_, h⟩ := h)
theorem l_is_within : ∀ ds S R, c_is_within ds S R → ds.length = 3 := by
  intro ds S R h
  have h := u_is_within h
  repeat' first | (rcases h with ⟨rfl, _⟩; rfl) | (refine Or.elim h ?_ ?_ <;> (clear h; intro h)) | (obtain ⟨_, h⟩ := h)
theorem l_is_tuple : ∀ ds S R, c_is_tuple ds S R → ds.length = 3 := by
  intro ds S R h
  have h := u_is_tuple h
  repeat' first | (rcases h with ⟨rfl, _⟩; rfl) | (refine Or.elim h ?_ ?_ <;> (clear h; intro h)) | (obtain ⟨_, h⟩ := h)
theorem l_is_lot : ∀ ds S R, c_is_lot ds S R → ds.length = 2 := by
  intro ds S R h
  have h := u_is_lot h
  repeat' first | (rcases h with ⟨rfl, _⟩; rfl) | (refine Or.elim h ?_ ?_ <;> (clear h; intro h)) | (obtain ⟨_, h⟩ := h)
theorem l_is_form : ∀ ds S R, c_is_form ds S R → ds.length = 1 := by
  intro ds S R h
  have h := u_is_form h
  repeat' first | (rcases h with ⟨rfl, _⟩; rfl) | (refine Or.elim h ?_ ?_ <;> (clear h; intro h)) | (obtain ⟨_, h⟩ := h)
theorem l_check_form : ∀ ds S R, c_check_form ds S R → ds.length = 1 := by
  intro ds S R h
  have h := u_check_form h
  repeat' first | (rcases h with ⟨rfl, _⟩; rfl) | (refine Or.elim h ?_ ?_ <;> (clear h; intro h)) | (obtain ⟨_, h⟩ := h)
theorem l_report_in : ∀ ds S R, c_report_in ds S R → ds.length = 2 := by
  intro ds S R h
  have h := u_report_in h
  repeat' first | (rcases h with ⟨rfl, _⟩; rfl) | (refine Or.elim h ?_ ?_ <;> (clear h; intro h)) | (obtain ⟨_, h⟩ := h)
theorem l_fault_in : ∀ ds S R, c_fault_in ds S R → ds.length = 2 := by
  intro ds S R h
  have h := u_fault_in h
  repeat' first | (rcases h with ⟨rfl, _⟩; rfl) | (refine Or.elim h ?_ ?_ <;> (clear h; intro h)) | (obtain ⟨_, h⟩ := h)
theorem l_box_in : ∀ ds S R, c_box_in ds S R → ds.length = 2 := by
  intro ds S R h
  have h := u_box_in h
  repeat' first | (rcases h with ⟨rfl, _⟩; rfl) | (refine Or.elim h ?_ ?_ <;> (clear h; intro h)) | (obtain ⟨_, h⟩ := h)
theorem l_check_box : ∀ ds S R, c_check_box ds S R → ds.length = 2 := by
  intro ds S R h
  have h := u_check_box h
  repeat' first | (rcases h with ⟨rfl, _⟩; rfl) | (refine Or.elim h ?_ ?_ <;> (clear h; intro h)) | (obtain ⟨_, h⟩ := h)
theorem l_check_report : ∀ ds S R, c_check_report ds S R → ds.length = 2 := by
  intro ds S R h
  have h := u_check_report h
  repeat' first | (rcases h with ⟨rfl, _⟩; rfl) | (refine Or.elim h ?_ ?_ <;> (clear h; intro h)) | (obtain ⟨_, h⟩ := h)
theorem l_held : ∀ ds S R, c_held ds S R → ds.length = 2 := by
  intro ds S R h
  have h := u_held h
  repeat' first | (rcases h with ⟨rfl, _⟩; rfl) | (refine Or.elim h ?_ ?_ <;> (clear h; intro h)) | (obtain ⟨_, h⟩ := h)
theorem l_agreeing : ∀ ds S R, c_agreeing ds S R → ds.length = 2 := by
  intro ds S R h
  have h := u_agreeing h
  repeat' first | (rcases h with ⟨rfl, _⟩; rfl) | (refine Or.elim h ?_ ?_ <;> (clear h; intro h)) | (obtain ⟨_, h⟩ := h)
theorem l_lies : ∀ ds S R, c_lies ds S R → ds.length = 2 := by
  intro ds S R h
  have h := u_lies h
  repeat' first | (rcases h with ⟨rfl, _⟩; rfl) | (refine Or.elim h ?_ ?_ <;> (clear h; intro h)) | (obtain ⟨_, h⟩ := h)
theorem l_meeting : ∀ ds S R, c_meeting ds S R → ds.length = 2 := by
  intro ds S R h
  have h := u_meeting h
  repeat' first | (rcases h with ⟨rfl, _⟩; rfl) | (refine Or.elim h ?_ ?_ <;> (clear h; intro h)) | (obtain ⟨_, h⟩ := h)
theorem l_whole_box : ∀ ds S R, c_whole_box ds S R → ds.length = 1 := by
  intro ds S R h
  have h := u_whole_box h
  repeat' first | (rcases h with ⟨rfl, _⟩; rfl) | (refine Or.elim h ?_ ?_ <;> (clear h; intro h)) | (obtain ⟨_, h⟩ := h)
theorem l_report_box : ∀ ds S R, c_report_box ds S R → ds.length = 2 := by
  intro ds S R h
  have h := u_report_box h
  repeat' first | (rcases h with ⟨rfl, _⟩; rfl) | (refine Or.elim h ?_ ?_ <;> (clear h; intro h)) | (obtain ⟨_, h⟩ := h)
theorem l_with_lot : ∀ ds S R, c_with_lot ds S R → ds.length = 3 := by
  intro ds S R h
  have h := u_with_lot h
  repeat' first | (rcases h with ⟨rfl, _⟩; rfl) | (refine Or.elim h ?_ ?_ <;> (clear h; intro h)) | (obtain ⟨_, h⟩ := h)
theorem l_all_faults : ∀ ds S R, c_all_faults ds S R → ds.length = 1 := by
  intro ds S R h
  have h := u_all_faults h
  repeat' first | (rcases h with ⟨rfl, _⟩; rfl) | (refine Or.elim h ?_ ?_ <;> (clear h; intro h)) | (obtain ⟨_, h⟩ := h)
theorem l_box_of : ∀ ds S R, c_box_of ds S R → ds.length = 2 := by
  intro ds S R h
  have h := u_box_of h
  repeat' first | (rcases h with ⟨rfl, _⟩; rfl) | (refine Or.elim h ?_ ?_ <;> (clear h; intro h)) | (obtain ⟨_, h⟩ := h)
theorem l_within : ∀ ds S R, c_within ds S R → ds.length = 3 := by
  intro ds S R h
  have h := u_within h
  repeat' first | (rcases h with ⟨rfl, _⟩; rfl) | (refine Or.elim h ?_ ?_ <;> (clear h; intro h)) | (obtain ⟨_, h⟩ := h)
theorem l_common : ∀ ds S R, c_common ds S R → ds.length = 3 := by
  intro ds S R h
  have h := u_common h
  repeat' first | (rcases h with ⟨rfl, _⟩; rfl) | (refine Or.elim h ?_ ?_ <;> (clear h; intro h)) | (obtain ⟨_, h⟩ := h)
theorem l_are_rules : ∀ ds S R, c_are_rules ds S R → ds.length = 2 := by
  intro ds S R h
  have h := u_are_rules h
  repeat' first | (rcases h with ⟨rfl, _⟩; rfl) | (refine Or.elim h ?_ ?_ <;> (clear h; intro h)) | (obtain ⟨_, h⟩ := h)
theorem l_Book_dd__init_dd_ : ∀ ds S R, c_Book_dd__init_dd_ ds S R → ds.length = 3 := by
  intro ds S R h
  have h := u_Book_dd__init_dd_ h
  repeat' first | (rcases h with ⟨rfl, _⟩; rfl) | (refine Or.elim h ?_ ?_ <;> (clear h; intro h)) | (obtain ⟨_, h⟩ := h)
theorem l_RawBook_dd__init_dd_ : ∀ ds S R, c_RawBook_dd__init_dd_ ds S R → ds.length = 3 := by
  intro ds S R h
  have h := u_RawBook_dd__init_dd_ h
  repeat' first | (rcases h with ⟨rfl, _⟩; rfl) | (refine Or.elim h ?_ ?_ <;> (clear h; intro h)) | (obtain ⟨_, h⟩ := h)
theorem l_is_lawful : ∀ ds S R, c_is_lawful ds S R → ds.length = 2 := by
  intro ds S R h
  have h := u_is_lawful h
  repeat' first | (rcases h with ⟨rfl, _⟩; rfl) | (refine Or.elim h ?_ ?_ <;> (clear h; intro h)) | (obtain ⟨_, h⟩ := h)
theorem l_listed : ∀ ds S R, c_listed ds S R → ds.length = 1 := by
  intro ds S R h
  have h := u_listed h
  repeat' first | (rcases h with ⟨rfl, _⟩; rfl) | (refine Or.elim h ?_ ?_ <;> (clear h; intro h)) | (obtain ⟨_, h⟩ := h)
theorem l_check_field : ∀ ds S R, c_check_field ds S R → ds.length = 2 := by
  intro ds S R h
  have h := u_check_field h
  repeat' first | (rcases h with ⟨rfl, _⟩; rfl) | (refine Or.elim h ?_ ?_ <;> (clear h; intro h)) | (obtain ⟨_, h⟩ := h)
theorem l_joining : ∀ ds S R, c_joining ds S R → ds.length = 3 := by
  intro ds S R h
  have h := u_joining h
  repeat' first | (rcases h with ⟨rfl, _⟩; rfl) | (refine Or.elim h ?_ ?_ <;> (clear h; intro h)) | (obtain ⟨_, h⟩ := h)
theorem l_box_of_step : ∀ ds S R, c_box_of_step ds S R → ds.length = 3 := by
  intro ds S R h
  have h := u_box_of_step h
  repeat' first | (rcases h with ⟨rfl, _⟩; rfl) | (refine Or.elim h ?_ ?_ <;> (clear h; intro h)) | (obtain ⟨_, h⟩ := h)
theorem l_box_derived : ∀ ds S R, c_box_derived ds S R → ds.length = 2 := by
  intro ds S R h
  have h := u_box_derived h
  repeat' first | (rcases h with ⟨rfl, _⟩; rfl) | (refine Or.elim h ?_ ?_ <;> (clear h; intro h)) | (obtain ⟨_, h⟩ := h)
theorem l_derived : ∀ ds S R, c_derived ds S R → ds.length = 2 := by
  intro ds S R h
  have h := u_derived h
  repeat' first | (rcases h with ⟨rfl, _⟩; rfl) | (refine Or.elim h ?_ ?_ <;> (clear h; intro h)) | (obtain ⟨_, h⟩ := h)
theorem l_Deriver_dd__init_dd_ : ∀ ds S R, c_Deriver_dd__init_dd_ ds S R → ds.length = 2 := by
  intro ds S R h
  have h := u_Deriver_dd__init_dd_ h
  repeat' first | (rcases h with ⟨rfl, _⟩; rfl) | (refine Or.elim h ?_ ?_ <;> (clear h; intro h)) | (obtain ⟨_, h⟩ := h)
theorem l_Deriver_step : ∀ ds S R, c_Deriver_step ds S R → ds.length = 3 := by
  intro ds S R h
  have h := u_Deriver_step h
  repeat' first | (rcases h with ⟨rfl, _⟩; rfl) | (refine Or.elim h ?_ ?_ <;> (clear h; intro h)) | (obtain ⟨_, h⟩ := h)
theorem l_Deriver_rule_for : ∀ ds S R, c_Deriver_rule_for ds S R → ds.length = 2 := by
  intro ds S R h
  have h := u_Deriver_rule_for h
  repeat' first | (rcases h with ⟨rfl, _⟩; rfl) | (refine Or.elim h ?_ ?_ <;> (clear h; intro h)) | (obtain ⟨_, h⟩ := h)
theorem l_cut : ∀ ds S R, c_cut ds S R → ds.length = 1 := by
  intro ds S R h
  have h := u_cut h
  repeat' first | (rcases h with ⟨rfl, _⟩; rfl) | (refine Or.elim h ?_ ?_ <;> (clear h; intro h)) | (obtain ⟨_, h⟩ := h)
theorem l_derivation_of : ∀ ds S R, c_derivation_of ds S R → ds.length = 2 := by
  intro ds S R h
  have h := u_derivation_of h
  repeat' first | (rcases h with ⟨rfl, _⟩; rfl) | (refine Or.elim h ?_ ?_ <;> (clear h; intro h)) | (obtain ⟨_, h⟩ := h)
theorem l_bars : ∀ ds S R, c_bars ds S R → ds.length = 3 := by
  intro ds S R h
  have h := u_bars h
  repeat' first | (rcases h with ⟨rfl, _⟩; rfl) | (refine Or.elim h ?_ ?_ <;> (clear h; intro h)) | (obtain ⟨_, h⟩ := h)
theorem l_taken_in : ∀ ds S R, c_taken_in ds S R → ds.length = 2 := by
  intro ds S R h
  have h := u_taken_in h
  repeat' first | (rcases h with ⟨rfl, _⟩; rfl) | (refine Or.elim h ?_ ?_ <;> (clear h; intro h)) | (obtain ⟨_, h⟩ := h)
theorem l_joined_at : ∀ ds S R, c_joined_at ds S R → ds.length = 2 := by
  intro ds S R h
  have h := u_joined_at h
  repeat' first | (rcases h with ⟨rfl, _⟩; rfl) | (refine Or.elim h ?_ ?_ <;> (clear h; intro h)) | (obtain ⟨_, h⟩ := h)
theorem l_greatest_boxes : ∀ ds S R, c_greatest_boxes ds S R → ds.length = 1 := by
  intro ds S R h
  have h := u_greatest_boxes h
  repeat' first | (rcases h with ⟨rfl, _⟩; rfl) | (refine Or.elim h ?_ ?_ <;> (clear h; intro h)) | (obtain ⟨_, h⟩ := h)
theorem l_is_part_of : ∀ ds S R, c_is_part_of ds S R → ds.length = 2 := by
  intro ds S R h
  have h := u_is_part_of h
  repeat' first | (rcases h with ⟨rfl, _⟩; rfl) | (refine Or.elim h ?_ ?_ <;> (clear h; intro h)) | (obtain ⟨_, h⟩ := h)
theorem l_filter_in : ∀ ds S R, c_filter_in ds S R → ds.length = 2 := by
  intro ds S R h
  have h := u_filter_in h
  repeat' first | (rcases h with ⟨rfl, _⟩; rfl) | (refine Or.elim h ?_ ?_ <;> (clear h; intro h)) | (obtain ⟨_, h⟩ := h)
theorem l_check_filter : ∀ ds S R, c_check_filter ds S R → ds.length = 2 := by
  intro ds S R h
  have h := u_check_filter h
  repeat' first | (rcases h with ⟨rfl, _⟩; rfl) | (refine Or.elim h ?_ ?_ <;> (clear h; intro h)) | (obtain ⟨_, h⟩ := h)
theorem l_lets : ∀ ds S R, c_lets ds S R → ds.length = 2 := by
  intro ds S R h
  have h := u_lets h
  repeat' first | (rcases h with ⟨rfl, _⟩; rfl) | (refine Or.elim h ?_ ?_ <;> (clear h; intro h)) | (obtain ⟨_, h⟩ := h)
theorem l_cut_out : ∀ ds S R, c_cut_out ds S R → ds.length = 2 := by
  intro ds S R h
  have h := u_cut_out h
  repeat' first | (rcases h with ⟨rfl, _⟩; rfl) | (refine Or.elim h ?_ ?_ <;> (clear h; intro h)) | (obtain ⟨_, h⟩ := h)
theorem l_region : ∀ ds S R, c_region ds S R → ds.length = 3 := by
  intro ds S R h
  have h := u_region h
  repeat' first | (rcases h with ⟨rfl, _⟩; rfl) | (refine Or.elim h ?_ ?_ <;> (clear h; intro h)) | (obtain ⟨_, h⟩ := h)
theorem l_boxes_for : ∀ ds S R, c_boxes_for ds S R → ds.length = 3 := by
  intro ds S R h
  have h := u_boxes_for h
  repeat' first | (rcases h with ⟨rfl, _⟩; rfl) | (refine Or.elim h ?_ ?_ <;> (clear h; intro h)) | (obtain ⟨_, h⟩ := h)
theorem l_inside : ∀ ds S R, c_inside ds S R → ds.length = 2 := by
  intro ds S R h
  have h := u_inside h
  repeat' first | (rcases h with ⟨rfl, _⟩; rfl) | (refine Or.elim h ?_ ?_ <;> (clear h; intro h)) | (obtain ⟨_, h⟩ := h)
theorem l_outside : ∀ ds S R, c_outside ds S R → ds.length = 2 := by
  intro ds S R h
  have h := u_outside h
  repeat' first | (rcases h with ⟨rfl, _⟩; rfl) | (refine Or.elim h ?_ ?_ <;> (clear h; intro h)) | (obtain ⟨_, h⟩ := h)
theorem l_met_boxes : ∀ ds S R, c_met_boxes ds S R → ds.length = 4 := by
  intro ds S R h
  have h := u_met_boxes h
  repeat' first | (rcases h with ⟨rfl, _⟩; rfl) | (refine Or.elim h ?_ ?_ <;> (clear h; intro h)) | (obtain ⟨_, h⟩ := h)
theorem l_agreeing_faults : ∀ ds S R Z, c_agreeing_faults ds S R Z → ds.length = 2 := by
  intro ds S R Z h
  have h := u_agreeing_faults h
  repeat' first | (rcases h with ⟨rfl, _⟩; rfl) | (refine Or.elim h ?_ ?_ <;> (clear h; intro h)) | (obtain ⟨_, h⟩ := h)
theorem l_word_of : ∀ ds S R, c_word_of ds S R → ds.length = 2 := by
  intro ds S R h
  have h := u_word_of h
  repeat' first | (rcases h with ⟨rfl, _⟩; rfl) | (refine Or.elim h ?_ ?_ <;> (clear h; intro h)) | (obtain ⟨_, h⟩ := h)
theorem l_notice : ∀ ds S R Z, c_notice ds S R Z → ds.length = 3 := by
  intro ds S R Z h
  have h := u_notice h
  repeat' first | (rcases h with ⟨rfl, _⟩; rfl) | (refine Or.elim h ?_ ?_ <;> (clear h; intro h)) | (obtain ⟨_, h⟩ := h)
theorem l_are_shown : ∀ ds S R, c_are_shown ds S R → ds.length = 5 := by
  intro ds S R h
  have h := u_are_shown h
  repeat' first | (rcases h with ⟨rfl, _⟩; rfl) | (refine Or.elim h ?_ ?_ <;> (clear h; intro h)) | (obtain ⟨_, h⟩ := h)
theorem l_is_notice : ∀ ds S R, c_is_notice ds S R → ds.length = 4 := by
  intro ds S R h
  have h := u_is_notice h
  repeat' first | (rcases h with ⟨rfl, _⟩; rfl) | (refine Or.elim h ?_ ?_ <;> (clear h; intro h)) | (obtain ⟨_, h⟩ := h)
theorem l_others_of : ∀ ds S R, c_others_of ds S R → ds.length = 3 := by
  intro ds S R h
  have h := u_others_of h
  repeat' first | (rcases h with ⟨rfl, _⟩; rfl) | (refine Or.elim h ?_ ?_ <;> (clear h; intro h)) | (obtain ⟨_, h⟩ := h)
theorem l_but_box : ∀ ds S R, c_but_box ds S R → ds.length = 4 := by
  intro ds S R h
  have h := u_but_box h
  repeat' first | (rcases h with ⟨rfl, _⟩; rfl) | (refine Or.elim h ?_ ?_ <;> (clear h; intro h)) | (obtain ⟨_, h⟩ := h)
theorem l_first_by_value : ∀ ds S R, c_first_by_value ds S R → ds.length = 3 := by
  intro ds S R h
  have h := u_first_by_value h
  repeat' first | (rcases h with ⟨rfl, _⟩; rfl) | (refine Or.elim h ?_ ?_ <;> (clear h; intro h)) | (obtain ⟨_, h⟩ := h)
theorem l_settling : ∀ ds S R, c_settling ds S R → ds.length = 3 := by
  intro ds S R h
  have h := u_settling h
  repeat' first | (rcases h with ⟨rfl, _⟩; rfl) | (refine Or.elim h ?_ ?_ <;> (clear h; intro h)) | (obtain ⟨_, h⟩ := h)
theorem l_settled : ∀ ds S R, c_settled ds S R → ds.length = 3 := by
  intro ds S R h
  have h := u_settled h
  repeat' first | (rcases h with ⟨rfl, _⟩; rfl) | (refine Or.elim h ?_ ?_ <;> (clear h; intro h)) | (obtain ⟨_, h⟩ := h)
theorem l__law_hand : ∀ ds S R, c__law_hand ds S R → ds.length = 1 := by
  intro ds S R h
  have h := u__law_hand h
  repeat' first | (rcases h with ⟨rfl, _⟩; rfl) | (refine Or.elim h ?_ ?_ <;> (clear h; intro h)) | (obtain ⟨_, h⟩ := h)
theorem l__law_draw : ∀ ds S R, c__law_draw ds S R → ds.length = 2 := by
  intro ds S R h
  have h := u__law_draw h
  repeat' first | (rcases h with ⟨rfl, _⟩; rfl) | (refine Or.elim h ?_ ?_ <;> (clear h; intro h)) | (obtain ⟨_, h⟩ := h)
theorem l__law_some : ∀ ds S R, c__law_some ds S R → ds.length = 2 := by
  intro ds S R h
  have h := u__law_some h
  repeat' first | (rcases h with ⟨rfl, _⟩; rfl) | (refine Or.elim h ?_ ?_ <;> (clear h; intro h)) | (obtain ⟨_, h⟩ := h)
theorem l__law_size : ∀ ds S R, c__law_size ds S R → ds.length = 1 := by
  intro ds S R h
  have h := u__law_size h
  repeat' first | (rcases h with ⟨rfl, _⟩; rfl) | (refine Or.elim h ?_ ?_ <;> (clear h; intro h)) | (obtain ⟨_, h⟩ := h)
theorem l__law_form : ∀ ds S R, c__law_form ds S R → ds.length = 3 := by
  intro ds S R h
  have h := u__law_form h
  repeat' first | (rcases h with ⟨rfl, _⟩; rfl) | (refine Or.elim h ?_ ?_ <;> (clear h; intro h)) | (obtain ⟨_, h⟩ := h)
theorem l__law_lot : ∀ ds S R, c__law_lot ds S R → ds.length = 2 := by
  intro ds S R h
  have h := u__law_lot h
  repeat' first | (rcases h with ⟨rfl, _⟩; rfl) | (refine Or.elim h ?_ ?_ <;> (clear h; intro h)) | (obtain ⟨_, h⟩ := h)
theorem l__law_box : ∀ ds S R, c__law_box ds S R → ds.length = 2 := by
  intro ds S R h
  have h := u__law_box h
  repeat' first | (rcases h with ⟨rfl, _⟩; rfl) | (refine Or.elim h ?_ ?_ <;> (clear h; intro h)) | (obtain ⟨_, h⟩ := h)
theorem l__law_rules : ∀ ds S R, c__law_rules ds S R → ds.length = 3 := by
  intro ds S R h
  have h := u__law_rules h
  repeat' first | (rcases h with ⟨rfl, _⟩; rfl) | (refine Or.elim h ?_ ?_ <;> (clear h; intro h)) | (obtain ⟨_, h⟩ := h)
theorem l__law_all : ∀ ds S R, c__law_all ds S R → ds.length = 1 := by
  intro ds S R h
  have h := u__law_all h
  repeat' first | (rcases h with ⟨rfl, _⟩; rfl) | (refine Or.elim h ?_ ?_ <;> (clear h; intro h)) | (obtain ⟨_, h⟩ := h)
theorem l__law_holds : ∀ ds S R, c__law_holds ds S R → ds.length = 2 := by
  intro ds S R h
  have h := u__law_holds h
  repeat' first | (rcases h with ⟨rfl, _⟩; rfl) | (refine Or.elim h ?_ ?_ <;> (clear h; intro h)) | (obtain ⟨_, h⟩ := h)
theorem l__law_lawful : ∀ ds S R, c__law_lawful ds S R → ds.length = 2 := by
  intro ds S R h
  have h := u__law_lawful h
  repeat' first | (rcases h with ⟨rfl, _⟩; rfl) | (refine Or.elim h ?_ ?_ <;> (clear h; intro h)) | (obtain ⟨_, h⟩ := h)
theorem l__law_agrees : ∀ ds S R, c__law_agrees ds S R → ds.length = 2 := by
  intro ds S R h
  have h := u__law_agrees h
  repeat' first | (rcases h with ⟨rfl, _⟩; rfl) | (refine Or.elim h ?_ ?_ <;> (clear h; intro h)) | (obtain ⟨_, h⟩ := h)
theorem l__law_report : ∀ ds S R, c__law_report ds S R → ds.length = 3 := by
  intro ds S R h
  have h := u__law_report h
  repeat' first | (rcases h with ⟨rfl, _⟩; rfl) | (refine Or.elim h ?_ ?_ <;> (clear h; intro h)) | (obtain ⟨_, h⟩ := h)
theorem l__law_in : ∀ ds S R, c__law_in ds S R → ds.length = 2 := by
  intro ds S R h
  have h := u__law_in h
  repeat' first | (rcases h with ⟨rfl, _⟩; rfl) | (refine Or.elim h ?_ ?_ <;> (clear h; intro h)) | (obtain ⟨_, h⟩ := h)
theorem l__law_word : ∀ ds S R, c__law_word ds S R → ds.length = 2 := by
  intro ds S R h
  have h := u__law_word h
  repeat' first | (rcases h with ⟨rfl, _⟩; rfl) | (refine Or.elim h ?_ ?_ <;> (clear h; intro h)) | (obtain ⟨_, h⟩ := h)
theorem l__law_steps_right : ∀ ds S R, c__law_steps_right ds S R → ds.length = 4 := by
  intro ds S R h
  have h := u__law_steps_right h
  repeat' first | (rcases h with ⟨rfl, _⟩; rfl) | (refine Or.elim h ?_ ?_ <;> (clear h; intro h)) | (obtain ⟨_, h⟩ := h)
theorem l__law_notice_right : ∀ ds S R, c__law_notice_right ds S R → ds.length = 4 := by
  intro ds S R h
  have h := u__law_notice_right h
  repeat' first | (rcases h with ⟨rfl, _⟩; rfl) | (refine Or.elim h ?_ ?_ <;> (clear h; intro h)) | (obtain ⟨_, h⟩ := h)
theorem l__law_values_right : ∀ ds S R, c__law_values_right ds S R → ds.length = 4 := by
  intro ds S R h
  have h := u__law_values_right h
  repeat' first | (rcases h with ⟨rfl, _⟩; rfl) | (refine Or.elim h ?_ ?_ <;> (clear h; intro h)) | (obtain ⟨_, h⟩ := h)
theorem l_law : ∀ ds S R, c_law ds S R → ds.length = 1 := by
  intro ds S R h
  have h := u_law h
  repeat' first | (rcases h with ⟨rfl, _⟩; rfl) | (refine Or.elim h ?_ ?_ <;> (clear h; intro h)) | (obtain ⟨_, h⟩ := h)
theorem zero_Deriver_reach : ∀ ds S R, ¬ c_reachK 0 ds S R := fun ds S R h => by
  obtain ⟨x, a, s, b, n, steps, boxes, form, rules, bx, _, _, _, _, _, _, hm, _⟩ := u_reachK h
  exact absurd hm (Nat.not_lt_zero _)
theorem len_Deriver_reach (k : Nat) : ∀ ds S R, c_reachK k ds S R → ds.length = 2 := fun ds S R h => by
  obtain ⟨x, a, s, b, n, steps, boxes, form, rules, bx, rfl, _⟩ := u_reachK h
  rfl

section
variable {P : Program} {w : World} {K : PySem.W.Frag} {mg : Str → Option Value} {base : Heap}
theorem ok_is_integer (T : TX P K mg) : FnAt P w K mg base 1 ("is_integer", none) ["thing"] c_is_integer :=
  okD (k := 0) N_is_integer (T.1.1.def_ 0 (d := d_is_integer)) sc_is_integer (fun _ _ _ _ _ _ us hl => match us, hl with | [_], _ => rfl) l_is_integer fun cdv A outer s H E hr =>
    ⟨w_is_integer, (ss_one (s_ret (e_and (e_isi .int (f_isinstance T) (f_int T) (e_var (pv 0))) (e_one (e_not (e_isi .bl (f_isinstance T) (f_bool T) (e_var (pv 0)))))))), q_is_integer⟩
theorem ok_is_within (T : TX P K mg) : FnAt P w K mg base 2 ("is_within", none) ["thing", "low", "high"] c_is_within :=
  okD (k := 1) N_is_within (T.1.1.def_ 1 (d := d_is_within)) sc_is_within (fun _ _ _ _ _ _ us hl => match us, hl with | [_, _, _], _ => rfl) l_is_within fun cdv A outer s H E hr =>
    ⟨w_is_within, (ss_one (s_ret (e_and (e_call (ok_is_integer T) hr (g_is_integer T) (a_cons (e_var (pv 0)) a_nil)) (e_one (e_chain op_le f_intB op_le f_intB (e_var (pv 1)) (e_var (pv 0)) (e_var (pv 2))))))), q_is_within⟩
theorem ok_is_tuple (T : TX P K mg) : FnAt P w K mg base 1 ("is_tuple", none) ["thing", "least", "most"] c_is_tuple :=
  okD (k := 0) N_is_tuple (T.1.1.def_ 2 (d := d_is_tuple)) sc_is_tuple (fun _ _ _ _ _ _ us hl => match us, hl with | [_, _, _], _ => rfl) l_is_tuple fun cdv A outer s H E hr =>
    ⟨w_is_tuple, (ss_one (s_ret (e_and (e_isi .tup (f_isinstance T) (f_tuple T) (e_var (pv 0))) (e_one (e_chain op_le f_intB op_le f_intB (e_var (pv 1)) (e_len (f_len T) (a_cons (e_var (pv 0)) a_nil)) (e_var (pv 2))))))), q_is_tuple⟩
theorem ok_is_lot (T : TX P K mg) : FnAt P w K mg base 3 ("is_lot", none) ["thing", "many"] c_is_lot :=
  okD (k := 2) N_is_lot (T.1.1.def_ 3 (d := d_is_lot)) sc_is_lot (fun _ _ _ _ _ _ us hl => match us, hl with | [_, _], _ => rfl) l_is_lot fun cdv A outer s H E hr =>
    ⟨w_is_lot, (ss_cons (s_if (t_bop (w_or (t_not (t_val (e_isi .tup (f_isinstance T) (f_tuple T) (e_var (pv 0))))) (w_or1 (t_not (t_val (e_all (f_all T) (a_cons (e_lc [("one", 2)] sc_is_lot.nd (i_seq (e_var (pv 0))) (blkOk_by (N := N_is_lot) (sc := (defScope (top 4))) (by decide +kernel)) (fun _ _ _ _ _ => (g_name 2 sc_is_lot.nd)) (fun _ _ _ _ _ => ts_nil) (fun _ _ _ _ _ => (e_call (ok_is_within T) hr (g_is_within T) (a_cons (e_var (pv 2)) (a_cons e_int (a_cons (e_sub (e_var (pv 1)) e_int) a_nil)))))) a_nil))))))) (ss_one (s_ret e_bl)) ss_nil) (ss_one (s_ret (e_all (f_all T) (a_cons (e_lc [("one", 2), ("other", 3)] sc_is_lot.nd (i_zip (f_zip T) (a_cons (e_var (pv 0)) (a_cons (e_sl (e_var (pv 0)) (o_some e_int) o_none) a_nil))) (blkOk_by (N := N_is_lot) (sc := (defScope (top 4))) (by decide +kernel)) (fun _ _ _ _ _ => (g_tup rfl (gs_cons (g_name 2 sc_is_lot.nd) (gs_cons (g_name 3 sc_is_lot.nd) gs_nil)))) (fun _ _ _ _ _ => ts_nil) (fun _ _ _ _ _ => (e_lt (e_var (pv 2)) (e_var (pv 3))))) a_nil))))), q_is_lot⟩
theorem ok_is_form (T : TX P K mg) : FnAt P w K mg base 3 ("is_form", none) ["thing"] c_is_form :=
  okD (k := 2) N_is_form (T.1.1.def_ 4 (d := d_is_form)) sc_is_form (fun _ _ _ _ _ _ us hl => match us, hl with | [_], _ => rfl) l_is_form fun cdv A outer s H E hr =>
    ⟨w_is_form, (ss_cons (s_if (t_bop (w_or (t_not (t_val (e_call (ok_is_tuple T) hr (g_is_tuple T) (a_cons (e_var (pv 0)) (a_cons e_int (a_cons e_int a_nil)))))) (w_or1 (t_not (t_val (e_all (f_all T) (a_cons (e_lc [("many", 2)] sc_is_form.nd (i_seq (e_var (pv 0))) (blkOk_by (N := N_is_form) (sc := (defScope (top 18))) (by decide +kernel)) (fun _ _ _ _ _ => (g_name 2 sc_is_form.nd)) (fun _ _ _ _ _ => ts_nil) (fun _ _ _ _ _ => (e_call (ok_is_within T) hr (g_is_within T) (a_cons (e_var (pv 2)) (a_cons e_int (a_cons e_int a_nil)))))) a_nil))))))) (ss_one (s_ret e_bl)) ss_nil) (ss_cons (s_set 1 sc_is_form.nd e_int) (ss_cons (s_for (i_seq (e_var (pv 0))) (g_name 2 sc_is_form.nd) (ss_one (s_set 1 sc_is_form.nd (e_mul (e_var (pv 1)) (e_var (pv 2)))))) (ss_one (s_ret (e_le (e_var (pv 1)) (e_gint (k_MOST_FAULTS T)))))))), q_is_form⟩
theorem ok_check_form (T : TX P K mg) : FnAt P w K mg base 4 ("check_form", none) ["form"] c_check_form :=
  okD (k := 3) N_check_form (T.1.1.def_ 5 (d := d_check_form)) sc_check_form (fun _ _ _ _ _ _ us hl => match us, hl with | [_], _ => rfl) l_check_form fun cdv A outer s H E hr =>
    ⟨w_check_form, (ss_one (s_if (t_not (t_val (e_call (ok_is_form T) hr (g_is_form T) (a_cons (e_var (pv 0)) a_nil)))) (ss_one s_never) ss_nil)), q_check_form⟩
theorem ok_report_in (T : TX P K mg) : FnAt P w K mg base 3 ("report_in", none) ["form", "thing"] c_report_in :=
  okD (k := 2) N_report_in (T.1.1.def_ 6 (d := d_report_in)) sc_report_in (fun _ _ _ _ _ _ us hl => match us, hl with | [_, _], _ => rfl) l_report_in fun cdv A outer s H E hr =>
    ⟨w_report_in, (ss_cons (s_if (t_not (t_val (e_call (ok_is_tuple T) hr (g_is_tuple T) (a_cons (e_var (pv 1)) (a_cons (e_len (f_len T) (a_cons (e_var (pv 0)) a_nil)) (a_cons (e_len (f_len T) (a_cons (e_var (pv 0)) a_nil)) a_nil)))))) (ss_one (s_ret e_bl)) ss_nil) (ss_one (s_ret (e_all (f_all T) (a_cons (e_lc [("value", 2), ("many", 3)] sc_report_in.nd (i_zip (f_zip T) (a_cons (e_var (pv 1)) (a_cons (e_var (pv 0)) a_nil))) (blkOk_by (N := N_report_in) (sc := (defScope (top 20))) (by decide +kernel)) (fun _ _ _ _ _ => (g_tup rfl (gs_cons (g_name 2 sc_report_in.nd) (gs_cons (g_name 3 sc_report_in.nd) gs_nil)))) (fun _ _ _ _ _ => ts_nil) (fun _ _ _ _ _ => (e_or (e_isN (e_var (pv 2)) e_non) (e_one (e_call (ok_is_within T) hr (g_is_within T) (a_cons (e_var (pv 2)) (a_cons e_int (a_cons (e_sub (e_var (pv 3)) e_int) a_nil)))))))) a_nil))))), q_report_in⟩
theorem ok_fault_in (T : TX P K mg) : FnAt P w K mg base 4 ("fault_in", none) ["form", "thing"] c_fault_in :=
  okD (k := 3) N_fault_in (T.1.1.def_ 7 (d := d_fault_in)) sc_fault_in (fun _ _ _ _ _ _ us hl => match us, hl with | [_, _], _ => rfl) l_fault_in fun cdv A outer s H E hr =>
    ⟨w_fault_in, (ss_one (s_ret (e_and (e_call (ok_report_in T) hr (g_report_in T) (a_cons (e_var (pv 0)) (a_cons (e_var (pv 1)) a_nil))) (e_one (e_notIn hr e_non (e_var (pv 1))))))), q_fault_in⟩
theorem ok_box_in (T : TX P K mg) : FnAt P w K mg base 4 ("box_in", none) ["form", "thing"] c_box_in :=
  okD (k := 3) N_box_in (T.1.1.def_ 8 (d := d_box_in)) sc_box_in (fun _ _ _ _ _ _ us hl => match us, hl with | [_, _], _ => rfl) l_box_in fun cdv A outer s H E hr =>
    ⟨w_box_in, (ss_cons (s_if (t_not (t_val (e_call (ok_is_tuple T) hr (g_is_tuple T) (a_cons (e_var (pv 1)) (a_cons (e_len (f_len T) (a_cons (e_var (pv 0)) a_nil)) (a_cons (e_len (f_len T) (a_cons (e_var (pv 0)) a_nil)) a_nil)))))) (ss_one (s_ret e_bl)) ss_nil) (ss_one (s_ret (e_all (f_all T) (a_cons (e_lc [("lot", 2), ("many", 3)] sc_box_in.nd (i_zip (f_zip T) (a_cons (e_var (pv 1)) (a_cons (e_var (pv 0)) a_nil))) (blkOk_by (N := N_box_in) (sc := (defScope (top 22))) (by decide +kernel)) (fun _ _ _ _ _ => (g_tup rfl (gs_cons (g_name 2 sc_box_in.nd) (gs_cons (g_name 3 sc_box_in.nd) gs_nil)))) (fun _ _ _ _ _ => ts_nil) (fun _ _ _ _ _ => (e_and (e_call (ok_is_lot T) hr (g_is_lot T) (a_cons (e_var (pv 2)) (a_cons (e_var (pv 3)) a_nil))) (e_one (e_gt (e_len (f_len T) (a_cons (e_var (pv 2)) a_nil)) e_int))))) a_nil))))), q_box_in⟩
theorem ok_check_box (T : TX P K mg) : FnAt P w K mg base 5 ("check_box", none) ["form", "box"] c_check_box :=
  okD (k := 4) N_check_box (T.1.1.def_ 9 (d := d_check_box)) sc_check_box (fun _ _ _ _ _ _ us hl => match us, hl with | [_, _], _ => rfl) l_check_box fun cdv A outer s H E hr =>
    ⟨w_check_box, (ss_one (s_if (t_not (t_val (e_call (ok_box_in T) hr (g_box_in T) (a_cons (e_var (pv 0)) (a_cons (e_var (pv 1)) a_nil))))) (ss_one s_never) ss_nil)), q_check_box⟩
theorem ok_check_report (T : TX P K mg) : FnAt P w K mg base 4 ("check_report", none) ["form", "report"] c_check_report :=
  okD (k := 3) N_check_report (T.1.1.def_ 10 (d := d_check_report)) sc_check_report (fun _ _ _ _ _ _ us hl => match us, hl with | [_, _], _ => rfl) l_check_report fun cdv A outer s H E hr =>
    ⟨w_check_report, (ss_one (s_if (t_not (t_val (e_call (ok_report_in T) hr (g_report_in T) (a_cons (e_var (pv 0)) (a_cons (e_var (pv 1)) a_nil))))) (ss_one s_never) ss_nil)), q_check_report⟩
theorem ok_held (T : TX P K mg) : FnAt P w K mg base 1 ("held", none) ["box", "fault"] c_held :=
  okD (k := 0) N_held (T.1.1.def_ 11 (d := d_held)) sc_held (fun _ _ _ _ _ _ us hl => match us, hl with | [_, _], _ => rfl) l_held fun cdv A outer s H E hr =>
    ⟨w_held, (ss_one (s_ret (e_all (f_all T) (a_cons (e_lc [("lot", 2), ("value", 3)] sc_held.nd (i_zip (f_zip T) (a_cons (e_var (pv 0)) (a_cons (e_var (pv 1)) a_nil))) (blkOk_by (N := N_held) (sc := (defScope (top 25))) (by decide +kernel)) (fun _ _ _ _ _ => (g_tup rfl (gs_cons (g_name 2 sc_held.nd) (gs_cons (g_name 3 sc_held.nd) gs_nil)))) (fun _ _ _ _ _ => ts_nil) (fun _ _ _ _ _ => (e_in hr (e_var (pv 3)) (e_var (pv 2))))) a_nil)))), q_held⟩
theorem ok_agreeing (T : TX P K mg) : FnAt P w K mg base 1 ("agreeing", none) ["report", "fault"] c_agreeing :=
  okD (k := 0) N_agreeing (T.1.1.def_ 12 (d := d_agreeing)) sc_agreeing (fun _ _ _ _ _ _ us hl => match us, hl with | [_, _], _ => rfl) l_agreeing fun cdv A outer s H E hr =>
    ⟨w_agreeing, (ss_one (s_ret (e_all (f_all T) (a_cons (e_lc [("said", 2), ("value", 3)] sc_agreeing.nd (i_zip (f_zip T) (a_cons (e_var (pv 0)) (a_cons (e_var (pv 1)) a_nil))) (blkOk_by (N := N_agreeing) (sc := (defScope (top 26))) (by decide +kernel)) (fun _ _ _ _ _ => (g_tup rfl (gs_cons (g_name 2 sc_agreeing.nd) (gs_cons (g_name 3 sc_agreeing.nd) gs_nil)))) (fun _ _ _ _ _ => ts_nil) (fun _ _ _ _ _ => (e_or (e_isN (e_var (pv 2)) e_non) (e_one (e_eq hr (e_var (pv 2)) (e_var (pv 3))))))) a_nil)))), q_agreeing⟩
theorem ok_lies (T : TX P K mg) : FnAt P w K mg base 1 ("lies", none) ["one", "other"] c_lies :=
  okD (k := 0) N_lies (T.1.1.def_ 13 (d := d_lies)) sc_lies (fun _ _ _ _ _ _ us hl => match us, hl with | [_, _], _ => rfl) l_lies fun cdv A outer s H E hr =>
    ⟨w_lies, (ss_one (s_ret (e_all (f_all T) (a_cons (e_lc [("lot", 2), ("whole", 3)] sc_lies.nd (i_zip (f_zip T) (a_cons (e_var (pv 0)) (a_cons (e_var (pv 1)) a_nil))) (blkOk_by (N := N_lies) (sc := (defScope (top 27))) (by decide +kernel)) (fun _ _ _ _ _ => (g_tup rfl (gs_cons (g_name 2 sc_lies.nd) (gs_cons (g_name 3 sc_lies.nd) gs_nil)))) (fun _ _ _ _ _ => ts_nil) (fun _ _ _ _ _ => (e_all (f_all T) (a_cons (e_lc [("value", 4)] sc_lies.nd (i_seq (e_var (pv 2))) (blkOk_by (N := N_lies) (sc := (relS _ (defScope (top 27)))) (by decide +kernel)) (fun _ _ _ _ _ => (g_name 4 sc_lies.nd)) (fun _ _ _ _ _ => ts_nil) (fun _ _ _ _ _ => (e_in hr (e_var (pv 4)) (e_var (pv 3))))) a_nil)))) a_nil)))), q_lies⟩
theorem ok_meeting (T : TX P K mg) : FnAt P w K mg base 1 ("meeting", none) ["one", "other"] c_meeting :=
  okD (k := 0) N_meeting (T.1.1.def_ 14 (d := d_meeting)) sc_meeting (fun _ _ _ _ _ _ us hl => match us, hl with | [_, _], _ => rfl) l_meeting fun cdv A outer s H E hr =>
    ⟨w_meeting, (ss_cons (s_set 2 sc_meeting.nd (e_tuple (f_tuple T) (a_cons (e_lc [("lot", 3), ("more", 4)] sc_meeting.nd (i_zip (f_zip T) (a_cons (e_var (pv 0)) (a_cons (e_var (pv 1)) a_nil))) (blkOk_by (N := N_meeting) (sc := (defScope (top 28))) (by decide +kernel)) (fun _ _ _ _ _ => (g_tup rfl (gs_cons (g_name 3 sc_meeting.nd) (gs_cons (g_name 4 sc_meeting.nd) gs_nil)))) (fun _ _ _ _ _ => ts_nil) (fun _ _ _ _ _ => (e_tuple (f_tuple T) (a_cons (e_lc [("value", 5)] sc_meeting.nd (i_seq (e_var (pv 3))) (blkOk_by (N := N_meeting) (sc := (relS _ (defScope (top 28)))) (by decide +kernel)) (fun _ _ _ _ _ => (g_name 5 sc_meeting.nd)) (fun _ _ _ _ _ => (ts_one (t_in hr (e_var (pv 5)) (e_var (pv 4))))) (fun _ _ _ _ _ => (e_var (pv 5)))) a_nil)))) a_nil))) (ss_one (s_ret (e_if (t_in hr (e_tup a_nil) (e_var (pv 2))) e_non (e_var (pv 2)))))), q_meeting⟩
theorem ok_whole_box (T : TX P K mg) : FnAt P w K mg base 1 ("whole_box", none) ["form"] c_whole_box :=
  okD (k := 0) N_whole_box (T.1.1.def_ 15 (d := d_whole_box)) sc_whole_box (fun _ _ _ _ _ _ us hl => match us, hl with | [_], _ => rfl) l_whole_box fun cdv A outer s H E hr =>
    ⟨w_whole_box, (ss_one (s_ret (e_tuple (f_tuple T) (a_cons (e_lc [("many", 1)] sc_whole_box.nd (i_seq (e_var (pv 0))) (blkOk_by (N := N_whole_box) (sc := (defScope (top 29))) (by decide +kernel)) (fun _ _ _ _ _ => (g_name 1 sc_whole_box.nd)) (fun _ _ _ _ _ => ts_nil) (fun _ _ _ _ _ => (e_tupRg (f_tuple T) (r_1 (f_range T) (e_var (pv 1)))))) a_nil)))), q_whole_box⟩
theorem ok_report_box (T : TX P K mg) : FnAt P w K mg base 1 ("report_box", none) ["form", "report"] c_report_box :=
  okD (k := 0) N_report_box (T.1.1.def_ 16 (d := d_report_box)) sc_report_box (fun _ _ _ _ _ _ us hl => match us, hl with | [_, _], _ => rfl) l_report_box fun cdv A outer s H E hr =>
    ⟨w_report_box, (ss_one (s_ret (e_tuple (f_tuple T) (a_cons (e_lc [("value", 2), ("many", 3)] sc_report_box.nd (i_zip (f_zip T) (a_cons (e_var (pv 1)) (a_cons (e_var (pv 0)) a_nil))) (blkOk_by (N := N_report_box) (sc := (defScope (top 30))) (by decide +kernel)) (fun _ _ _ _ _ => (g_tup rfl (gs_cons (g_name 2 sc_report_box.nd) (gs_cons (g_name 3 sc_report_box.nd) gs_nil)))) (fun _ _ _ _ _ => ts_nil) (fun _ _ _ _ _ => (e_if (t_isN (e_var (pv 2)) e_non) (e_tupRg (f_tuple T) (r_1 (f_range T) (e_var (pv 3)))) (e_tup (a_cons (e_var (pv 2)) a_nil))))) a_nil)))), q_report_box⟩
theorem ok_with_lot (T : TX P K mg) : FnAt P w K mg base 1 ("with_lot", none) ["box", "field", "lot"] c_with_lot :=
  okD (k := 0) N_with_lot (T.1.1.def_ 17 (d := d_with_lot)) sc_with_lot (fun _ _ _ _ _ _ us hl => match us, hl with | [_, _, _], _ => rfl) l_with_lot fun cdv A outer s H E hr =>
    ⟨w_with_lot, (ss_one (s_ret (e_add (e_add (e_sl (e_var (pv 0)) o_none (o_some (e_var (pv 1)))) (e_tup (a_cons (e_var (pv 2)) a_nil))) (e_sl (e_var (pv 0)) (o_some (e_add (e_var (pv 1)) e_int)) o_none)))), q_with_lot⟩
theorem ok_all_faults (T : TX P K mg) : FnAt P w K mg base 1 ("all_faults", none) ["form"] c_all_faults :=
  okD (k := 0) N_all_faults (T.1.1.def_ 18 (d := d_all_faults)) sc_all_faults (fun _ _ _ _ _ _ us hl => match us, hl with | [_], _ => rfl) l_all_faults fun cdv A outer s H E hr =>
    ⟨w_all_faults, (ss_cons (s_set 1 sc_all_faults.nd (e_lst (a_cons (e_tup a_nil) a_nil))) (ss_cons (s_for (i_seq (e_var (pv 0))) (g_name 2 sc_all_faults.nd) (ss_cons (s_set 3 sc_all_faults.nd (e_new a_nil)) (ss_cons (s_for (i_seq (e_var (pv 1))) (g_name 4 sc_all_faults.nd) (ss_one (s_expr (e_ext (e_var (pv 3)) (a_cons (e_lc [("value", 5)] sc_all_faults.nd (i_range1 (f_range T) (a_cons (e_var (pv 2)) a_nil)) (blkOk_by (N := N_all_faults) (sc := (defScope (top 32))) (by decide +kernel)) (fun _ _ _ _ _ => (g_name 5 sc_all_faults.nd)) (fun _ _ _ _ _ => ts_nil) (fun _ _ _ _ _ => (e_add (e_var (pv 4)) (e_tup (a_cons (e_var (pv 5)) a_nil))))) a_nil))))) (ss_one (s_set 1 sc_all_faults.nd (e_var (pv 3))))))) (ss_one (s_ret (e_var (pv 1)))))), q_all_faults⟩
theorem ok_box_of (T : TX P K mg) : FnAt P w K mg base 5 ("box_of", none) ["form", "report"] c_box_of :=
  okD (k := 4) N_box_of (T.1.1.def_ 19 (d := d_box_of)) sc_box_of (fun _ _ _ _ _ _ us hl => match us, hl with | [_, _], _ => rfl) l_box_of fun cdv A outer s H E hr =>
    ⟨w_box_of, (ss_cons (s_expr (e_call (ok_check_form T) hr (g_check_form T) (a_cons (e_var (pv 0)) a_nil))) (ss_cons (s_expr (e_call (ok_check_report T) hr (g_check_report T) (a_cons (e_var (pv 0)) (a_cons (e_var (pv 1)) a_nil)))) (ss_one (s_ret (e_call (ok_report_box T) hr (g_report_box T) (a_cons (e_var (pv 0)) (a_cons (e_var (pv 1)) a_nil))))))), q_box_of⟩
theorem ok_within (T : TX P K mg) : FnAt P w K mg base 6 ("within", none) ["form", "one", "other"] c_within :=
  okD (k := 5) N_within (T.1.1.def_ 20 (d := d_within)) sc_within (fun _ _ _ _ _ _ us hl => match us, hl with | [_, _, _], _ => rfl) l_within fun cdv A outer s H E hr =>
    ⟨w_within, (ss_cons (s_expr (e_call (ok_check_form T) hr (g_check_form T) (a_cons (e_var (pv 0)) a_nil))) (ss_cons (s_expr (e_call (ok_check_box T) hr (g_check_box T) (a_cons (e_var (pv 0)) (a_cons (e_var (pv 1)) a_nil)))) (ss_cons (s_expr (e_call (ok_check_box T) hr (g_check_box T) (a_cons (e_var (pv 0)) (a_cons (e_var (pv 2)) a_nil)))) (ss_one (s_ret (e_call (ok_lies T) hr (g_lies T) (a_cons (e_var (pv 1)) (a_cons (e_var (pv 2)) a_nil)))))))), q_within⟩
theorem ok_common (T : TX P K mg) : FnAt P w K mg base 6 ("common", none) ["form", "one", "other"] c_common :=
  okD (k := 5) N_common (T.1.1.def_ 21 (d := d_common)) sc_common (fun _ _ _ _ _ _ us hl => match us, hl with | [_, _, _], _ => rfl) l_common fun cdv A outer s H E hr =>
    ⟨w_common, (ss_cons (s_expr (e_call (ok_check_form T) hr (g_check_form T) (a_cons (e_var (pv 0)) a_nil))) (ss_cons (s_expr (e_call (ok_check_box T) hr (g_check_box T) (a_cons (e_var (pv 0)) (a_cons (e_var (pv 1)) a_nil)))) (ss_cons (s_expr (e_call (ok_check_box T) hr (g_check_box T) (a_cons (e_var (pv 0)) (a_cons (e_var (pv 2)) a_nil)))) (ss_one (s_ret (e_call (ok_meeting T) hr (g_meeting T) (a_cons (e_var (pv 1)) (a_cons (e_var (pv 2)) a_nil)))))))), q_common⟩
theorem ok_are_rules (T : TX P K mg) : FnAt P w K mg base 5 ("are_rules", none) ["form", "thing"] c_are_rules :=
  okD (k := 4) N_are_rules (T.1.1.def_ 22 (d := d_are_rules)) sc_are_rules (fun _ _ _ _ _ _ us hl => match us, hl with | [_, _], _ => rfl) l_are_rules fun cdv A outer s H E hr =>
    ⟨w_are_rules, (ss_one (s_ret (e_and (e_isi .tup (f_isinstance T) (f_tuple T) (e_var (pv 1))) (e_one (e_all (f_all T) (a_cons (e_lc [("box", 2)] sc_are_rules.nd (i_seq (e_var (pv 1))) (blkOk_by (N := N_are_rules) (sc := (defScope (top 38))) (by decide +kernel)) (fun _ _ _ _ _ => (g_name 2 sc_are_rules.nd)) (fun _ _ _ _ _ => ts_nil) (fun _ _ _ _ _ => (e_call (ok_box_in T) hr (g_box_in T) (a_cons (e_var (pv 0)) (a_cons (e_var (pv 2)) a_nil))))) a_nil)))))), q_are_rules⟩
theorem ok_Book_dd__init_dd_ (T : TX P K mg) : FnAt P w K mg base 6 ("Book", some "__init__") ["self", "form", "rules"] c_Book_dd__init_dd_ :=
  okD (k := 5) N_Book_dd__init_dd_ (T.1.1.def_ 23 (d := d_Book_dd__init_dd_)) sc_Book_dd__init_dd_ (fun _ _ _ _ _ _ us hl => match us, hl with | [_, _, _], _ => rfl) l_Book_dd__init_dd_ fun cdv A outer s H E hr =>
    ⟨w_Book_dd__init_dd_, (ss_cons (s_if (t_not (t_val (e_call (ok_is_form T) hr (g_is_form T) (a_cons (e_var (pv 1)) a_nil)))) (ss_one s_never) ss_nil) (ss_cons (s_if (t_bop (w_or (t_not (t_val (e_call (ok_are_rules T) hr (g_are_rules T) (a_cons (e_var (pv 1)) (a_cons (e_var (pv 2)) a_nil))))) (w_or1 (t_not (t_val (e_call (ok_is_tuple T) hr (g_is_tuple T) (a_cons (e_var (pv 2)) (a_cons e_int (a_cons (e_gint (k_MOST_RULES T)) a_nil))))))))) (ss_one s_never) ss_nil) (ss_cons (s_asg (e_tup (a_cons (e_var (pv 1)) (a_cons (e_var (pv 2)) a_nil))) (g_tup rfl (gs_cons (g_fld (cn_Book T) (e_var (pv 0))) (gs_cons (g_fld (cn_Book T) (e_var (pv 0))) gs_nil)))) (ss_one (s_fld (cn_Book T) (e_var (pv 0)) e_non))))), q_Book_dd__init_dd_⟩
theorem ok_RawBook_dd__init_dd_ (T : TX P K mg) : FnAt P w K mg base 1 ("RawBook", some "__init__") ["self", "form", "rules"] c_RawBook_dd__init_dd_ :=
  okD (k := 0) N_RawBook_dd__init_dd_ (T.1.1.def_ 24 (d := d_RawBook_dd__init_dd_)) sc_RawBook_dd__init_dd_ (fun _ _ _ _ _ _ us hl => match us, hl with | [_, _, _], _ => rfl) l_RawBook_dd__init_dd_ fun cdv A outer s H E hr =>
    ⟨w_RawBook_dd__init_dd_, (ss_cons (s_asg (e_tup (a_cons (e_var (pv 1)) (a_cons (e_var (pv 2)) a_nil))) (g_tup rfl (gs_cons (g_fld (cn_RawBook T) (e_var (pv 0))) (gs_cons (g_fld (cn_RawBook T) (e_var (pv 0))) gs_nil)))) (ss_one (s_fld (cn_RawBook T) (e_var (pv 0)) e_non))), q_RawBook_dd__init_dd_⟩
theorem ok_is_lawful (T : TX P K mg) : FnAt P w K mg base 2 ("is_lawful", none) ["book", "fault"] c_is_lawful :=
  okD (k := 1) N_is_lawful (T.1.1.def_ 25 (d := d_is_lawful)) sc_is_lawful (fun _ _ _ _ _ _ us hl => match us, hl with | [_, _], _ => rfl) l_is_lawful fun cdv A outer s H E hr =>
    ⟨w_is_lawful, (ss_one (s_ret (e_not (e_any (f_any T) (a_cons (e_lc [("rule", 2)] sc_is_lawful.nd (i_seq (e_fld (cn_Book T) (e_var (pv 0)))) (blkOk_by (N := N_is_lawful) (sc := (defScope (top 41))) (by decide +kernel)) (fun _ _ _ _ _ => (g_name 2 sc_is_lawful.nd)) (fun _ _ _ _ _ => ts_nil) (fun _ _ _ _ _ => (e_call (ok_held T) hr (g_held T) (a_cons (e_var (pv 2)) (a_cons (e_var (pv 1)) a_nil))))) a_nil))))), q_is_lawful⟩
theorem ok_listed (T : TX P K mg) : FnAt P w K mg base 3 ("listed", none) ["book"] c_listed :=
  okD (k := 2) N_listed (T.1.1.def_ 26 (d := d_listed)) sc_listed (fun _ _ _ _ _ _ us hl => match us, hl with | [_], _ => rfl) l_listed fun cdv A outer s H E hr =>
    ⟨w_listed, (ss_spl (ss_cons (s_if (t_isN (e_fld (cn_Book T) (e_var (pv 0))) e_non) (ss_one (s_fld (cn_Book T) (e_var (pv 0)) (e_lc [("fault", 1)] sc_listed.nd (i_seq (e_call (ok_all_faults T) hr (g_all_faults T) (a_cons (e_fld (cn_Book T) (e_var (pv 0))) a_nil))) (blkOk_by (N := N_listed) (sc := (defScope (top 42))) (by decide +kernel)) (fun _ _ _ _ _ => (g_name 1 sc_listed.nd)) (fun _ _ _ _ _ => (ts_one (t_val (e_call (ok_is_lawful T) hr (g_is_lawful T) (a_cons (e_var (pv 0)) (a_cons (e_var (pv 1)) a_nil)))))) (fun _ _ _ _ _ => (e_var (pv 1)))))) ss_nil) (ss_one (s_ret (e_fld (cn_Book T) (e_var (pv 0))))))), q_listed⟩
theorem ok_check_field (T : TX P K mg) : FnAt P w K mg base 3 ("check_field", none) ["form", "field"] c_check_field :=
  okD (k := 2) N_check_field (T.1.1.def_ 27 (d := d_check_field)) sc_check_field (fun _ _ _ _ _ _ us hl => match us, hl with | [_, _], _ => rfl) l_check_field fun cdv A outer s H E hr =>
    ⟨w_check_field, (ss_one (s_if (t_not (t_val (e_call (ok_is_within T) hr (g_is_within T) (a_cons (e_var (pv 1)) (a_cons e_int (a_cons (e_sub (e_len (f_len T) (a_cons (e_var (pv 0)) a_nil)) e_int) a_nil)))))) (ss_one s_never) ss_nil)), q_check_field⟩
theorem ok_joining (T : TX P K mg) : FnAt P w K mg base 2 ("joining", none) ["field", "one", "other"] c_joining :=
  okD (k := 1) N_joining (T.1.1.def_ 28 (d := d_joining)) sc_joining (fun _ _ _ _ _ _ us hl => match us, hl with | [_, _, _], _ => rfl) l_joining fun cdv A outer s H E hr =>
    ⟨w_joining, (ss_cons (s_set 3 sc_joining.nd (e_tuple (f_tuple T) (a_cons (e_sortedSet (f_sorted T) (f_set T) (e_add (e_ix (e_var (pv 1)) (e_var (pv 0))) (e_ix (e_var (pv 2)) (e_var (pv 0))))) a_nil))) (ss_one (s_ret (e_call (ok_meeting T) hr (g_meeting T) (a_cons (e_call (ok_with_lot T) hr (g_with_lot T) (a_cons (e_var (pv 1)) (a_cons (e_var (pv 0)) (a_cons (e_var (pv 3)) a_nil)))) (a_cons (e_call (ok_with_lot T) hr (g_with_lot T) (a_cons (e_var (pv 2)) (a_cons (e_var (pv 0)) (a_cons (e_var (pv 3)) a_nil)))) a_nil)))))), q_joining⟩
theorem ok_box_of_step (T : TX P K mg) : FnAt P w K mg base 3 ("box_of_step", none) ["book", "boxes", "step"] c_box_of_step :=
  okD (k := 2) N_box_of_step (T.1.1.def_ 29 (d := d_box_of_step)) sc_box_of_step (fun _ _ _ _ _ _ us hl => match us, hl with | [_, _, _], _ => rfl) l_box_of_step fun cdv A outer s H E hr =>
    ⟨w_box_of_step, (ss_cons (s_if (t_bop (w_or (t_not (t_val (e_isi .tup (f_isinstance T) (f_tuple T) (e_var (pv 2))))) (w_or1 (t_notIn hr (e_len (f_len T) (a_cons (e_var (pv 2)) a_nil)) (e_tup (a_cons e_int (a_cons e_int a_nil))))))) (ss_one (s_ret e_non)) ss_nil) (ss_cons (s_if (t_eq hr (e_len (f_len T) (a_cons (e_var (pv 2)) a_nil)) e_int) (ss_cons (s_set 3 sc_box_of_step.nd (e_and (e_eq hr (e_ix (e_var (pv 2)) e_int) e_str) (e_and (e_isi .str (f_isinstance T) (f_str T) (e_ix (e_var (pv 2)) e_int)) (e_one (e_call (ok_is_within T) hr (g_is_within T) (a_cons (e_ix (e_var (pv 2)) e_int) (a_cons e_int (a_cons (e_sub (e_len (f_len T) (a_cons (e_fld (cn_Book T) (e_var (pv 0))) a_nil)) e_int) a_nil)))))))) (ss_one (s_ret (e_if (t_val (e_var (pv 3))) (e_ix (e_fld (cn_Book T) (e_var (pv 0))) (e_ix (e_var (pv 2)) e_int)) e_non)))) ss_nil) (ss_cons (s_asg (e_var (pv 2)) (g_tup rfl (gs_cons (g_name 4 sc_box_of_step.nd) (gs_cons (g_name 5 sc_box_of_step.nd) (gs_cons (g_name 6 sc_box_of_step.nd) (gs_cons (g_name 7 sc_box_of_step.nd) gs_nil)))))) (ss_cons (s_if (t_bop (w_or (t_not (t_val (e_isi .str (f_isinstance T) (f_str T) (e_var (pv 4))))) (w_or (t_ne hr (e_var (pv 4)) e_str) (w_or1 (t_not (t_val (e_call (ok_is_within T) hr (g_is_within T) (a_cons (e_var (pv 5)) (a_cons e_int (a_cons (e_sub (e_len (f_len T) (a_cons (e_fld (cn_Book T) (e_var (pv 0))) a_nil)) e_int) a_nil)))))))))) (ss_one (s_ret e_non)) ss_nil) (ss_cons (s_if (t_bop (w_or (t_not (t_val (e_call (ok_is_within T) hr (g_is_within T) (a_cons (e_var (pv 6)) (a_cons e_int (a_cons (e_sub (e_len (f_len T) (a_cons (e_var (pv 1)) a_nil)) e_int) a_nil)))))) (w_or1 (t_not (t_val (e_call (ok_is_within T) hr (g_is_within T) (a_cons (e_var (pv 7)) (a_cons e_int (a_cons (e_sub (e_len (f_len T) (a_cons (e_var (pv 1)) a_nil)) e_int) a_nil))))))))) (ss_one (s_ret e_non)) ss_nil) (ss_one (s_ret (e_call (ok_joining T) hr (g_joining T) (a_cons (e_var (pv 5)) (a_cons (e_ix (e_var (pv 1)) (e_var (pv 6))) (a_cons (e_ix (e_var (pv 1)) (e_var (pv 7))) a_nil))))))))))), q_box_of_step⟩
theorem ok_box_derived (T : TX P K mg) : FnAt P w K mg base 4 ("box_derived", none) ["book", "thing"] c_box_derived :=
  okD (k := 3) N_box_derived (T.1.1.def_ 30 (d := d_box_derived)) sc_box_derived (fun _ _ _ _ _ _ us hl => match us, hl with | [_, _], _ => rfl) l_box_derived fun cdv A outer s H E hr =>
    ⟨w_box_derived, (ss_cons (s_if (t_bop (w_or (t_not (t_val (e_isi .tup (f_isinstance T) (f_tuple T) (e_var (pv 1))))) (w_or1 (t_eq hr (e_len (f_len T) (a_cons (e_var (pv 1)) a_nil)) e_int)))) (ss_one (s_ret e_non)) ss_nil) (ss_cons (s_set 2 sc_box_derived.nd (e_new a_nil)) (ss_cons (s_for (i_seq (e_var (pv 1))) (g_name 3 sc_box_derived.nd) (ss_cons (s_set 4 sc_box_derived.nd (e_call (ok_box_of_step T) hr (g_box_of_step T) (a_cons (e_var (pv 0)) (a_cons (e_var (pv 2)) (a_cons (e_var (pv 3)) a_nil))))) (ss_cons (s_if (t_isN (e_var (pv 4)) e_non) (ss_one (s_ret e_non)) ss_nil) (ss_one (s_expr (e_app (e_var (pv 2)) (a_cons (e_var (pv 4)) a_nil))))))) (ss_one (s_ret (e_ix (e_var (pv 2)) (e_neg e_int))))))), q_box_derived⟩
theorem ok_derived (T : TX P K mg) : FnAt P w K mg base 5 ("derived", none) ["book", "derivation"] c_derived :=
  okD (k := 4) N_derived (T.1.1.def_ 31 (d := d_derived)) sc_derived (fun _ _ _ _ _ _ us hl => match us, hl with | [_, _], _ => rfl) l_derived fun cdv A outer s H E hr =>
    ⟨w_derived, (ss_cons (s_set 2 sc_derived.nd (e_call (ok_box_derived T) hr (g_box_derived T) (a_cons (e_var (pv 0)) (a_cons (e_var (pv 1)) a_nil)))) (ss_cons (s_if (t_isN (e_var (pv 2)) e_non) (ss_one s_never) ss_nil) (ss_one (s_ret (e_var (pv 2)))))), q_derived⟩
theorem ok_Deriver_dd__init_dd_ (T : TX P K mg) : FnAt P w K mg base 1 ("Deriver", some "__init__") ["self", "book"] c_Deriver_dd__init_dd_ :=
  okD (k := 0) N_Deriver_dd__init_dd_ (T.1.1.def_ 32 (d := d_Deriver_dd__init_dd_)) sc_Deriver_dd__init_dd_ (fun _ _ _ _ _ _ us hl => match us, hl with | [_, _], _ => rfl) l_Deriver_dd__init_dd_ fun cdv A outer s H E hr =>
    ⟨w_Deriver_dd__init_dd_, (ss_cons (s_fld (cn_Deriver T) (e_var (pv 0)) (e_var (pv 1))) (ss_cons (s_asg (e_tup (a_cons (e_new a_nil) (a_cons (e_new a_nil) a_nil))) (g_tup rfl (gs_cons (g_fld (cn_Deriver T) (e_var (pv 0))) (gs_cons (g_fld (cn_Deriver T) (e_var (pv 0))) gs_nil)))) (ss_one (s_fld (cn_Deriver T) (e_var (pv 0)) e_dnewT)))), q_Deriver_dd__init_dd_⟩
theorem ok_Deriver_step (T : TX P K mg) : FnAt P w K mg base 1 ("Deriver", some "step") ["self", "step", "box"] c_Deriver_step :=
  okD (k := 0) N_Deriver_step (T.1.1.def_ 33 (d := d_Deriver_step)) sc_Deriver_step (fun _ _ _ _ _ _ us hl => match us, hl with | [_, _, _], _ => rfl) l_Deriver_step fun cdv A outer s H E hr =>
    ⟨w_Deriver_step, (ss_cons (s_if (t_dnotin hr (e_var (pv 1)) (e_fld (cn_Deriver T) (e_var (pv 0)))) (ss_cons (s_dput hr (e_fld (cn_Deriver T) (e_var (pv 0))) (e_var (pv 1)) (e_len (f_len T) (a_cons (e_fld (cn_Deriver T) (e_var (pv 0))) a_nil))) (ss_cons (s_expr (e_app (e_fld (cn_Deriver T) (e_var (pv 0))) (a_cons (e_var (pv 1)) a_nil))) (ss_one (s_expr (e_app (e_fld (cn_Deriver T) (e_var (pv 0))) (a_cons (e_var (pv 2)) a_nil)))))) ss_nil) (ss_one (s_ret (e_dget hr (e_fld (cn_Deriver T) (e_var (pv 0))) (e_var (pv 1)))))), q_Deriver_step⟩
theorem ok_Deriver_rule_for (T : TX P K mg) : FnAt P w K mg base 2 ("Deriver", some "rule_for") ["self", "box"] c_Deriver_rule_for :=
  okD (k := 1) N_Deriver_rule_for (T.1.1.def_ 34 (d := d_Deriver_rule_for)) sc_Deriver_rule_for (fun _ _ _ _ _ _ us hl => match us, hl with | [_, _], _ => rfl) l_Deriver_rule_for fun cdv A outer s H E hr =>
    ⟨w_Deriver_rule_for, (ss_cons (s_for (i_enum (f_enumerate T) (a_cons (e_fld (cn_Book T) (e_fld (cn_Deriver T) (e_var (pv 0)))) a_nil)) (g_tup rfl (gs_cons (g_name 2 sc_Deriver_rule_for.nd) (gs_cons (g_name 3 sc_Deriver_rule_for.nd) gs_nil))) (ss_one (s_if (t_val (e_call (ok_lies T) hr (g_lies T) (a_cons (e_var (pv 1)) (a_cons (e_var (pv 3)) a_nil)))) (ss_one (s_ret (e_meth (e_var (pv 0)) (cn_Deriver T) (mt_Deriver_step T) (ok_Deriver_step T) hr (a_cons (e_tup (a_cons e_str (a_cons (e_var (pv 2)) a_nil))) (a_cons (e_var (pv 3)) a_nil))))) ss_nil))) (ss_one (s_ret e_non))), q_Deriver_rule_for⟩
theorem rec_Deriver_reach (T : TX P K mg) {cs c : DC} {j : Nat} (G : FnAt P w K mg base j ("Deriver", some "reach") ["self", "box"] cs) (hj : 2 ≤ j) (len : ∀ ds S R, c ds S R → ds.length = 2)
    (q : ∀ ds S R, c ds S R → w_Deriver_reach cs { nx := fun _ S' => Fin R .non S', rt := Fin R } (startD 8 ds) S) : FnAt P w K mg base (j + 1) ("Deriver", some "reach") ["self", "box"] c :=
  okD (k := j) N_Deriver_reach (T.1.1.def_ 35 (d := d_Deriver_reach)) sc_Deriver_reach (fun _ _ _ _ _ _ us hl => match us, hl with | [_, _], _ => rfl) len fun cdv A outer s H E hr' =>
    have hr := hr'.mono hj
    ⟨w_Deriver_reach cs, (ss_cons (s_set 2 sc_Deriver_reach.nd (e_meth (e_var (pv 0)) (cn_Deriver T) (mt_Deriver_rule_for T) (ok_Deriver_rule_for T) hr (a_cons (e_var (pv 1)) a_nil))) (ss_cons (s_if (t_notN (e_var (pv 2)) e_non) (ss_one (s_ret (e_var (pv 2)))) ss_nil) (ss_cons (s_set 3 sc_Deriver_reach.nd (e_ix (e_lc [("place", 6), ("lot", 7)] sc_Deriver_reach.nd (i_enum (f_enumerate T) (a_cons (e_var (pv 1)) a_nil)) (blkOk_by (N := N_Deriver_reach) (sc := (defScope (inClass (top 50) 3))) (by decide +kernel)) (fun _ _ _ _ _ => (g_tup rfl (gs_cons (g_name 6 sc_Deriver_reach.nd) (gs_cons (g_name 7 sc_Deriver_reach.nd) gs_nil)))) (fun _ _ _ _ _ => (ts_one (t_gt (e_len (f_len T) (a_cons (e_var (pv 7)) a_nil)) e_int))) (fun _ _ _ _ _ => (e_var (pv 6)))) e_int)) (ss_cons (s_for (i_seq (e_ix (e_var (pv 1)) (e_var (pv 3)))) (g_name 4 sc_Deriver_reach.nd) (ss_one (s_if (t_isN (e_var (pv 2)) e_non) (ss_one (s_set 2 sc_Deriver_reach.nd (e_meth (e_var (pv 0)) (cn_Deriver T) (mt_Deriver_reach T) G hr' (a_cons (e_call (ok_with_lot T) hr (g_with_lot T) (a_cons (e_var (pv 1)) (a_cons (e_var (pv 3)) (a_cons (e_tup (a_cons (e_var (pv 4)) a_nil)) a_nil)))) a_nil) (hj := Nat.le_refl _)))) (ss_one (s_if (t_notIn hr (e_var (pv 4)) (e_ix (e_ix (e_fld (cn_Deriver T) (e_var (pv 0))) (e_var (pv 2))) (e_var (pv 3)))) (ss_cons (s_set 5 sc_Deriver_reach.nd (e_meth (e_var (pv 0)) (cn_Deriver T) (mt_Deriver_reach T) G hr' (a_cons (e_call (ok_with_lot T) hr (g_with_lot T) (a_cons (e_var (pv 1)) (a_cons (e_var (pv 3)) (a_cons (e_tup (a_cons (e_var (pv 4)) a_nil)) a_nil)))) a_nil) (hj := Nat.le_refl _))) (ss_one (s_set 2 sc_Deriver_reach.nd (e_meth (e_var (pv 0)) (cn_Deriver T) (mt_Deriver_step T) (ok_Deriver_step T) hr (a_cons (e_tup (a_cons e_str (a_cons (e_var (pv 3)) (a_cons (e_var (pv 2)) (a_cons (e_var (pv 5)) a_nil))))) (a_cons (e_call (ok_joining T) hr (g_joining T) (a_cons (e_var (pv 3)) (a_cons (e_ix (e_fld (cn_Deriver T) (e_var (pv 0))) (e_var (pv 2))) (a_cons (e_ix (e_fld (cn_Deriver T) (e_var (pv 0))) (e_var (pv 5))) a_nil)))) a_nil)))))) ss_nil))))) (ss_one (s_ret (e_var (pv 2)))))))), q⟩
theorem base_Deriver_reach (T : TX P K mg) {c : DC} (z : ∀ ds S R, ¬ c ds S R) : FnAt P w K mg base 2 ("Deriver", some "reach") ["self", "box"] c :=
  okD (k := 1) N_Deriver_reach (T.1.1.def_ 35 (d := d_Deriver_reach)) sc_Deriver_reach (fun _ _ _ _ _ _ us hl => match us, hl with | [_, _], _ => rfl) (fun ds S R h => (z ds S R h).elim) fun cdv A outer s H E hr => ⟨fun _ _ _ => False, ss_no, fun ds S R h => (z ds S R h).elim⟩
theorem lvl_Deriver_reach (T : TX P K mg) : ∀ k : Nat, FnAt P w K mg base (2 + k) ("Deriver", some "reach") ["self", "box"] (c_reachK k)
  | 0 => base_Deriver_reach T zero_Deriver_reach
  | k + 1 => rec_Deriver_reach T (lvl_Deriver_reach T k) (Nat.le_add_right _ _) (len_Deriver_reach (k + 1)) (q_Deriver_reach k)
theorem ok_Deriver_reach (T : TX P K mg) : FnAt P w K mg base 12 ("Deriver", some "reach") ["self", "box"] c_Deriver_reach := (lvl_Deriver_reach T 9).mono (by decide)
theorem ok_cut (T : TX P K mg) : FnAt P w K mg base 1 ("cut", none) ["steps"] c_cut :=
  okD (k := 0) N_cut (T.1.1.def_ 37 (d := d_cut)) sc_cut (fun _ _ _ _ _ _ us hl => match us, hl with | [_], _ => rfl) l_cut fun cdv A outer s H E hr =>
    ⟨w_cut, (ss_cons (s_set 1 sc_cut.nd (e_disp1 (e_sub (e_len (f_len T) (a_cons (e_var (pv 0)) a_nil)) e_int) e_bl)) (ss_cons (s_for (i_range3 (f_range T) (a_cons (e_sub (e_len (f_len T) (a_cons (e_var (pv 0)) a_nil)) e_int) (a_cons (e_neg e_int) (a_cons (e_neg e_int) a_nil)))) (g_name 2 sc_cut.nd) (ss_one (s_if (t_bop (w_and (t_din hr (e_var (pv 2)) (e_var (pv 1))) (w_and1 (t_eq hr (e_ix (e_ix (e_var (pv 0)) (e_var (pv 2))) e_int) e_str)))) (ss_cons (s_dput hr (e_var (pv 1)) (e_ix (e_ix (e_var (pv 0)) (e_var (pv 2))) e_int) e_bl) (ss_one (s_dput hr (e_var (pv 1)) (e_ix (e_ix (e_var (pv 0)) (e_var (pv 2))) e_int) e_bl))) ss_nil))) (ss_cons (s_par 3 4 rfl sc_cut.nd (a_cons e_dnewK (a_cons (e_new a_nil) a_nil))) (ss_cons (s_for (i_enum (f_enumerate T) (a_cons (e_var (pv 0)) a_nil)) (g_tup rfl (gs_cons (g_name 2 sc_cut.nd) (gs_cons (g_name 5 sc_cut.nd) gs_nil))) (ss_one (s_if (t_din hr (e_var (pv 2)) (e_var (pv 1))) (ss_cons (s_dput hr (e_var (pv 3)) (e_var (pv 2)) (e_len (f_len T) (a_cons (e_var (pv 4)) a_nil))) (ss_one (s_expr (e_app (e_var (pv 4)) (a_cons (e_if (t_eq hr (e_ix (e_var (pv 5)) e_int) e_str) (e_var (pv 5)) (e_add (e_sl (e_var (pv 5)) o_none (o_some e_int)) (e_tup (a_cons (e_dget hr (e_var (pv 3)) (e_ix (e_var (pv 5)) e_int)) (a_cons (e_dget hr (e_var (pv 3)) (e_ix (e_var (pv 5)) e_int)) a_nil))))) a_nil))))) ss_nil))) (ss_one (s_ret (e_tuple (f_tuple T) (a_cons (e_var (pv 4)) a_nil)))))))), q_cut⟩
theorem ok_derivation_of (T : TX P K mg) : FnAt P w K mg base 13 ("derivation_of", none) ["book", "box"] c_derivation_of :=
  okD (k := 12) N_derivation_of (T.1.1.def_ 36 (d := d_derivation_of)) sc_derivation_of (fun _ _ _ _ _ _ us hl => match us, hl with | [_, _], _ => rfl) l_derivation_of fun cdv A outer s H E hr =>
    ⟨w_derivation_of, (ss_cons (s_set 2 sc_derivation_of.nd (e_make (mk_Deriver T) (ok_Deriver_dd__init_dd_ T) hr (a_cons (e_var (pv 0)) a_nil))) (ss_cons (s_set 3 sc_derivation_of.nd (e_meth (e_var (pv 2)) (cn_Deriver T) (mt_Deriver_reach T) (ok_Deriver_reach T) hr (a_cons (e_var (pv 1)) a_nil))) (ss_one (s_ret (e_call (ok_cut T) hr (g_cut T) (a_cons (e_tuple (f_tuple T) (a_cons (e_sl (e_fld (cn_Deriver T) (e_var (pv 2))) o_none (o_some (e_add (e_var (pv 3)) e_int))) a_nil)) a_nil)))))), q_derivation_of⟩
theorem ok_bars (T : TX P K mg) : FnAt P w K mg base 5 ("bars", none) ["book", "box", "thing"] c_bars :=
  okD (k := 4) N_bars (T.1.1.def_ 38 (d := d_bars)) sc_bars (fun _ _ _ _ _ _ us hl => match us, hl with | [_, _, _], _ => rfl) l_bars fun cdv A outer s H E hr =>
    ⟨w_bars, (ss_cons (s_set 3 sc_bars.nd (e_call (ok_box_derived T) hr (g_box_derived T) (a_cons (e_var (pv 0)) (a_cons (e_var (pv 2)) a_nil)))) (ss_one (s_ret (e_and (e_notN (e_var (pv 3)) e_non) (e_one (e_call (ok_lies T) hr (g_lies T) (a_cons (e_var (pv 1)) (a_cons (e_var (pv 3)) a_nil)))))))), q_bars⟩
theorem ok_taken_in (T : TX P K mg) : FnAt P w K mg base 2 ("taken_in", none) ["boxes", "box"] c_taken_in :=
  okD (k := 1) N_taken_in (T.1.1.def_ 39 (d := d_taken_in)) sc_taken_in (fun _ _ _ _ _ _ us hl => match us, hl with | [_, _], _ => rfl) l_taken_in fun cdv A outer s H E hr =>
    ⟨w_taken_in, (ss_cons (s_if (t_val (e_any (f_any T) (a_cons (e_lc [("other", 2)] sc_taken_in.nd (i_seq (e_var (pv 0))) (blkOk_by (N := N_taken_in) (sc := (defScope (top 56))) (by decide +kernel)) (fun _ _ _ _ _ => (g_name 2 sc_taken_in.nd)) (fun _ _ _ _ _ => ts_nil) (fun _ _ _ _ _ => (e_call (ok_lies T) hr (g_lies T) (a_cons (e_var (pv 1)) (a_cons (e_var (pv 2)) a_nil))))) a_nil))) (ss_one (s_ret (e_var (pv 0)))) ss_nil) (ss_one (s_ret (e_add (e_lc [("other", 2)] sc_taken_in.nd (i_seq (e_var (pv 0))) (blkOk_by (N := N_taken_in) (sc := (defScope (top 56))) (by decide +kernel)) (fun _ _ _ _ _ => (g_name 2 sc_taken_in.nd)) (fun _ _ _ _ _ => (ts_one (t_not (t_val (e_call (ok_lies T) hr (g_lies T) (a_cons (e_var (pv 2)) (a_cons (e_var (pv 1)) a_nil))))))) (fun _ _ _ _ _ => (e_var (pv 2)))) (e_lst (a_cons (e_var (pv 1)) a_nil)))))), q_taken_in⟩
theorem ok_joined_at (T : TX P K mg) : FnAt P w K mg base 3 ("joined_at", none) ["field", "boxes"] c_joined_at :=
  okD (k := 2) N_joined_at (T.1.1.def_ 40 (d := d_joined_at)) sc_joined_at (fun _ _ _ _ _ _ us hl => match us, hl with | [_, _], _ => rfl) l_joined_at fun cdv A outer s H E hr =>
    ⟨w_joined_at, (ss_cons (s_par 2 3 rfl sc_joined_at.nd (a_cons (e_listN (f_list T) (a_cons (e_var (pv 1)) a_nil)) (a_cons (e_new a_nil) a_nil))) (ss_cons (s_while (t_gt (e_len (f_len T) (a_cons (e_var (pv 2)) a_nil)) e_int) (ss_cons (s_set 4 sc_joined_at.nd (e_pop (e_var (pv 2)))) (ss_cons (s_if (t_val (e_any (f_any T) (a_cons (e_lc [("other", 5)] sc_joined_at.nd (i_seq (e_var (pv 3))) (blkOk_by (N := N_joined_at) (sc := (defScope (top 57))) (by decide +kernel)) (fun _ _ _ _ _ => (g_name 5 sc_joined_at.nd)) (fun _ _ _ _ _ => ts_nil) (fun _ _ _ _ _ => (e_call (ok_lies T) hr (g_lies T) (a_cons (e_var (pv 4)) (a_cons (e_var (pv 5)) a_nil))))) a_nil))) (ss_one s_cont) ss_nil) (ss_cons (s_setLcN 3 [("other", 5)] sc_joined_at.nd (i_seq (e_var (pv 3))) (blkOk_by (N := N_joined_at) (sc := (defScope (top 57))) (by decide +kernel)) (fun _ _ _ _ _ => (g_name 5 sc_joined_at.nd)) (fun _ _ _ _ _ => (ts_one (t_not (t_val (e_call (ok_lies T) hr (g_lies T) (a_cons (e_var (pv 5)) (a_cons (e_var (pv 4)) a_nil))))))) (fun _ _ _ _ _ => (e_var (pv 5)))) (ss_cons (s_for (i_seq (e_var (pv 3))) (g_name 5 sc_joined_at.nd) (ss_cons (s_set 6 sc_joined_at.nd (e_call (ok_joining T) hr (g_joining T) (a_cons (e_var (pv 0)) (a_cons (e_var (pv 4)) (a_cons (e_var (pv 5)) a_nil))))) (ss_one (s_if (t_bop (w_and (t_notN (e_var (pv 6)) e_non) (w_and (t_not (t_val (e_call (ok_lies T) hr (g_lies T) (a_cons (e_var (pv 6)) (a_cons (e_var (pv 4)) a_nil))))) (w_and1 (t_not (t_val (e_call (ok_lies T) hr (g_lies T) (a_cons (e_var (pv 6)) (a_cons (e_var (pv 5)) a_nil))))))))) (ss_one (s_expr (e_app (e_var (pv 2)) (a_cons (e_var (pv 6)) a_nil)))) ss_nil)))) (ss_one (s_expr (e_app (e_var (pv 3)) (a_cons (e_var (pv 4)) a_nil))))))))) (ss_one (s_ret (e_var (pv 3)))))), q_joined_at⟩
theorem ok_greatest_boxes (T : TX P K mg) : FnAt P w K mg base 4 ("greatest_boxes", none) ["book"] c_greatest_boxes :=
  okD (k := 3) N_greatest_boxes (T.1.1.def_ 41 (d := d_greatest_boxes)) sc_greatest_boxes (fun _ _ _ _ _ _ us hl => match us, hl with | [_], _ => rfl) l_greatest_boxes fun cdv A outer s H E hr =>
    ⟨w_greatest_boxes, (ss_cons (s_set 1 sc_greatest_boxes.nd (e_lst a_nil)) (ss_cons (s_for (i_seq (e_fld (cn_RawBook T) (e_var (pv 0)))) (g_name 2 sc_greatest_boxes.nd) (ss_one (s_set 1 sc_greatest_boxes.nd (e_call (ok_taken_in T) hr (g_taken_in T) (a_cons (e_var (pv 1)) (a_cons (e_var (pv 2)) a_nil)))))) (ss_cons (s_for (i_range1 (f_range T) (a_cons (e_len (f_len T) (a_cons (e_fld (cn_RawBook T) (e_var (pv 0))) a_nil)) a_nil)) (g_name 3 sc_greatest_boxes.nd) (ss_one (s_set 1 sc_greatest_boxes.nd (e_call (ok_joined_at T) hr (g_joined_at T) (a_cons (e_var (pv 3)) (a_cons (e_var (pv 1)) a_nil)))))) (ss_one (s_ret (e_tuple (f_tuple T) (a_cons (e_sortT hr (f_sorted T) (a_cons (e_var (pv 1)) a_nil)) a_nil))))))), q_greatest_boxes⟩
theorem ok_is_part_of (T : TX P K mg) : FnAt P w K mg base 5 ("is_part_of", none) ["form", "thing"] c_is_part_of :=
  okD (k := 4) N_is_part_of (T.1.1.def_ 42 (d := d_is_part_of)) sc_is_part_of (fun _ _ _ _ _ _ us hl => match us, hl with | [_, _], _ => rfl) l_is_part_of fun cdv A outer s H E hr =>
    ⟨w_is_part_of, (ss_one (s_ret (e_and (e_call (ok_is_tuple T) hr (g_is_tuple T) (a_cons (e_var (pv 1)) (a_cons e_int (a_cons e_int a_nil)))) (e_and (e_isi .bl (f_isinstance T) (f_bool T) (e_ix (e_var (pv 1)) e_int)) (e_one (e_call (ok_box_in T) hr (g_box_in T) (a_cons (e_var (pv 0)) (a_cons (e_ix (e_var (pv 1)) e_int) a_nil)))))))), q_is_part_of⟩
theorem ok_filter_in (T : TX P K mg) : FnAt P w K mg base 6 ("filter_in", none) ["form", "thing"] c_filter_in :=
  okD (k := 5) N_filter_in (T.1.1.def_ 43 (d := d_filter_in)) sc_filter_in (fun _ _ _ _ _ _ us hl => match us, hl with | [_, _], _ => rfl) l_filter_in fun cdv A outer s H E hr =>
    ⟨w_filter_in, (ss_one (s_ret (e_and (e_call (ok_is_tuple T) hr (g_is_tuple T) (a_cons (e_var (pv 1)) (a_cons e_int (a_cons (e_gint (k_MOST_PAIRS T)) a_nil)))) (e_one (e_all (f_all T) (a_cons (e_lc [("pair", 2)] sc_filter_in.nd (i_seq (e_var (pv 1))) (blkOk_by (N := N_filter_in) (sc := (defScope (top 62))) (by decide +kernel)) (fun _ _ _ _ _ => (g_name 2 sc_filter_in.nd)) (fun _ _ _ _ _ => ts_nil) (fun _ _ _ _ _ => (e_call (ok_is_part_of T) hr (g_is_part_of T) (a_cons (e_var (pv 0)) (a_cons (e_var (pv 2)) a_nil))))) a_nil)))))), q_filter_in⟩
theorem ok_check_filter (T : TX P K mg) : FnAt P w K mg base 7 ("check_filter", none) ["form", "thing"] c_check_filter :=
  okD (k := 6) N_check_filter (T.1.1.def_ 44 (d := d_check_filter)) sc_check_filter (fun _ _ _ _ _ _ us hl => match us, hl with | [_, _], _ => rfl) l_check_filter fun cdv A outer s H E hr =>
    ⟨w_check_filter, (ss_one (s_if (t_not (t_val (e_call (ok_filter_in T) hr (g_filter_in T) (a_cons (e_var (pv 0)) (a_cons (e_var (pv 1)) a_nil))))) (ss_one s_never) ss_nil)), q_check_filter⟩
theorem ok_lets (T : TX P K mg) : FnAt P w K mg base 2 ("lets", none) ["parts", "fault"] c_lets :=
  okD (k := 1) N_lets (T.1.1.def_ 45 (d := d_lets)) sc_lets (fun _ _ _ _ _ _ us hl => match us, hl with | [_, _], _ => rfl) l_lets fun cdv A outer s H E hr =>
    ⟨w_lets, (ss_cons (s_set 2 sc_lets.nd e_bl) (ss_cons (s_for (i_seq (e_var (pv 0))) (g_tup rfl (gs_cons (g_name 3 sc_lets.nd) (gs_cons (g_name 4 sc_lets.nd) gs_nil))) (ss_one (s_if (t_val (e_call (ok_held T) hr (g_held T) (a_cons (e_var (pv 4)) (a_cons (e_var (pv 1)) a_nil)))) (ss_one (s_set 2 sc_lets.nd (e_var (pv 3)))) ss_nil))) (ss_one (s_ret (e_var (pv 2)))))), q_lets⟩
theorem ok_cut_out (T : TX P K mg) : FnAt P w K mg base 2 ("cut_out", none) ["box", "other"] c_cut_out :=
  okD (k := 1) N_cut_out (T.1.1.def_ 46 (d := d_cut_out)) sc_cut_out (fun _ _ _ _ _ _ us hl => match us, hl with | [_, _], _ => rfl) l_cut_out fun cdv A outer s H E hr =>
    ⟨w_cut_out, (ss_cons (s_if (t_isN (e_call (ok_meeting T) hr (g_meeting T) (a_cons (e_var (pv 0)) (a_cons (e_var (pv 1)) a_nil))) e_non) (ss_one (s_ret (e_lst (a_cons (e_var (pv 0)) a_nil)))) ss_nil) (ss_cons (s_set 2 sc_cut_out.nd (e_new a_nil)) (ss_cons (s_for (i_enum (f_enumerate T) (a_cons (e_var (pv 0)) a_nil)) (g_tup rfl (gs_cons (g_name 3 sc_cut_out.nd) (gs_cons (g_name 4 sc_cut_out.nd) gs_nil))) (ss_cons (s_set 5 sc_cut_out.nd (e_tuple (f_tuple T) (a_cons (e_lc [("value", 6)] sc_cut_out.nd (i_seq (e_var (pv 4))) (blkOk_by (N := N_cut_out) (sc := (defScope (top 65))) (by decide +kernel)) (fun _ _ _ _ _ => (g_name 6 sc_cut_out.nd)) (fun _ _ _ _ _ => (ts_one (t_notIn hr (e_var (pv 6)) (e_ix (e_var (pv 1)) (e_var (pv 3)))))) (fun _ _ _ _ _ => (e_var (pv 6)))) a_nil))) (ss_cons (s_if (t_gt (e_len (f_len T) (a_cons (e_var (pv 5)) a_nil)) e_int) (ss_one (s_expr (e_app (e_var (pv 2)) (a_cons (e_call (ok_with_lot T) hr (g_with_lot T) (a_cons (e_var (pv 0)) (a_cons (e_var (pv 3)) (a_cons (e_var (pv 5)) a_nil)))) a_nil)))) ss_nil) (ss_one (s_set 0 sc_cut_out.nd (e_call (ok_with_lot T) hr (g_with_lot T) (a_cons (e_var (pv 0)) (a_cons (e_var (pv 3)) (a_cons (e_tuple (f_tuple T) (a_cons (e_lc [("value", 6)] sc_cut_out.nd (i_seq (e_var (pv 4))) (blkOk_by (N := N_cut_out) (sc := (defScope (top 65))) (by decide +kernel)) (fun _ _ _ _ _ => (g_name 6 sc_cut_out.nd)) (fun _ _ _ _ _ => (ts_one (t_in hr (e_var (pv 6)) (e_ix (e_var (pv 1)) (e_var (pv 3)))))) (fun _ _ _ _ _ => (e_var (pv 6)))) a_nil)) a_nil))))))))) (ss_one (s_ret (e_var (pv 2))))))), q_cut_out⟩
theorem ok_region (T : TX P K mg) : FnAt P w K mg base 3 ("region", none) ["form", "parts", "flag"] c_region :=
  okD (k := 2) N_region (T.1.1.def_ 47 (d := d_region)) sc_region (fun _ _ _ _ _ _ us hl => match us, hl with | [_, _, _], _ => rfl) l_region fun cdv A outer s H E hr =>
    ⟨w_region, (ss_cons (s_set 3 sc_region.nd (e_if (t_val (e_var (pv 2))) (e_lst a_nil) (e_lst (a_cons (e_call (ok_whole_box T) hr (g_whole_box T) (a_cons (e_var (pv 0)) a_nil)) a_nil)))) (ss_cons (s_for (i_seq (e_var (pv 1))) (g_tup rfl (gs_cons (g_name 4 sc_region.nd) (gs_cons (g_name 5 sc_region.nd) gs_nil))) (ss_cons (s_set 6 sc_region.nd (e_new a_nil)) (ss_cons (s_for (i_seq (e_var (pv 3))) (g_name 7 sc_region.nd) (ss_one (s_expr (e_ext (e_var (pv 6)) (a_cons (e_call (ok_cut_out T) hr (g_cut_out T) (a_cons (e_var (pv 7)) (a_cons (e_var (pv 5)) a_nil))) a_nil))))) (ss_one (s_set 3 sc_region.nd (e_if (t_eq hr (e_var (pv 4)) (e_var (pv 2))) (e_catL (e_var (pv 6)) (e_lst (a_cons (e_var (pv 5)) a_nil))) (e_var (pv 6)))))))) (ss_one (s_ret (e_var (pv 3)))))), q_region⟩
theorem ok_boxes_for (T : TX P K mg) : FnAt P w K mg base 5 ("boxes_for", none) ["form", "parts", "flag"] c_boxes_for :=
  okD (k := 4) N_boxes_for (T.1.1.def_ 48 (d := d_boxes_for)) sc_boxes_for (fun _ _ _ _ _ _ us hl => match us, hl with | [_, _, _], _ => rfl) l_boxes_for fun cdv A outer s H E hr =>
    ⟨w_boxes_for, (ss_cons (s_set 3 sc_boxes_for.nd (e_call (ok_greatest_boxes T) hr (g_greatest_boxes T) (a_cons (e_make (mk_RawBook T) (ok_RawBook_dd__init_dd_ T) hr (a_cons (e_var (pv 0)) (a_cons (e_tuple (f_tuple T) (a_cons (e_call (ok_region T) hr (g_region T) (a_cons (e_var (pv 0)) (a_cons (e_var (pv 1)) (a_cons (e_var (pv 2)) a_nil)))) a_nil)) a_nil))) a_nil))) (ss_cons (s_if (t_gt (e_len (f_len T) (a_cons (e_var (pv 3)) a_nil)) (e_gint (k_MOST_BOXES T))) (ss_one s_never) ss_nil) (ss_one (s_ret (e_var (pv 3)))))), q_boxes_for⟩
theorem ok_inside (T : TX P K mg) : FnAt P w K mg base 8 ("inside", none) ["form", "parts"] c_inside :=
  okD (k := 7) N_inside (T.1.1.def_ 49 (d := d_inside)) sc_inside (fun _ _ _ _ _ _ us hl => match us, hl with | [_, _], _ => rfl) l_inside fun cdv A outer s H E hr =>
    ⟨w_inside, (ss_cons (s_expr (e_call (ok_check_form T) hr (g_check_form T) (a_cons (e_var (pv 0)) a_nil))) (ss_cons (s_expr (e_call (ok_check_filter T) hr (g_check_filter T) (a_cons (e_var (pv 0)) (a_cons (e_var (pv 1)) a_nil)))) (ss_one (s_ret (e_call (ok_boxes_for T) hr (g_boxes_for T) (a_cons (e_var (pv 0)) (a_cons (e_var (pv 1)) (a_cons e_bl a_nil)))))))), q_inside⟩
theorem ok_outside (T : TX P K mg) : FnAt P w K mg base 8 ("outside", none) ["form", "parts"] c_outside :=
  okD (k := 7) N_outside (T.1.1.def_ 50 (d := d_outside)) sc_outside (fun _ _ _ _ _ _ us hl => match us, hl with | [_, _], _ => rfl) l_outside fun cdv A outer s H E hr =>
    ⟨w_outside, (ss_cons (s_expr (e_call (ok_check_form T) hr (g_check_form T) (a_cons (e_var (pv 0)) a_nil))) (ss_cons (s_expr (e_call (ok_check_filter T) hr (g_check_filter T) (a_cons (e_var (pv 0)) (a_cons (e_var (pv 1)) a_nil)))) (ss_one (s_ret (e_call (ok_boxes_for T) hr (g_boxes_for T) (a_cons (e_var (pv 0)) (a_cons (e_var (pv 1)) (a_cons e_bl a_nil)))))))), q_outside⟩
theorem ok_met_boxes (T : TX P K mg) : FnAt P w K mg base 6 ("met_boxes", none) ["form", "parts", "report", "flag"] c_met_boxes :=
  okD (k := 5) N_met_boxes (T.1.1.def_ 51 (d := d_met_boxes)) sc_met_boxes (fun _ _ _ _ _ _ us hl => match us, hl with | [_, _, _, _], _ => rfl) l_met_boxes fun cdv A outer s H E hr =>
    ⟨w_met_boxes, (ss_cons (s_set 4 sc_met_boxes.nd (e_call (ok_report_box T) hr (g_report_box T) (a_cons (e_var (pv 0)) (a_cons (e_var (pv 2)) a_nil)))) (ss_cons (s_setLc 5 [("box", 6)] sc_met_boxes.nd (i_seq (e_call (ok_boxes_for T) hr (g_boxes_for T) (a_cons (e_var (pv 0)) (a_cons (e_var (pv 1)) (a_cons (e_var (pv 3)) a_nil))))) (blkOk_by (N := N_met_boxes) (sc := (defScope (top 70))) (by decide +kernel)) (fun _ _ _ _ _ => (g_name 6 sc_met_boxes.nd)) (fun _ _ _ _ _ => ts_nil) (fun _ _ _ _ _ => (e_call (ok_meeting T) hr (g_meeting T) (a_cons (e_var (pv 4)) (a_cons (e_var (pv 6)) a_nil))))) (ss_one (s_ret (e_lc [("box", 6)] sc_met_boxes.nd (i_seq (e_var (pv 5))) (blkOk_by (N := N_met_boxes) (sc := (defScope (top 70))) (by decide +kernel)) (fun _ _ _ _ _ => (g_name 6 sc_met_boxes.nd)) (fun _ _ _ _ _ => (ts_one (t_notN (e_var (pv 6)) e_non))) (fun _ _ _ _ _ => (e_var (pv 6)))))))), q_met_boxes⟩
theorem ok_agreeing_faults (T : TX P K mg) : FnAtX P w K mg base 4 ("agreeing_faults", none) ["book", "report"] c_agreeing_faults :=
  okDX (k := 3) N_agreeing_faults (T.1.1.def_ 52 (d := d_agreeing_faults)) sc_agreeing_faults (fun _ _ _ _ _ _ us hl => match us, hl with | [_, _], _ => rfl) l_agreeing_faults fun cdv A outer s H E hr hp =>
    ⟨w_agreeing_faults, (ss_cons (s_setLc 2 [("fault", 3)] sc_agreeing_faults.nd (i_seq (e_call (ok_listed T) hr (g_listed T) (a_cons (e_var (pv 0)) a_nil))) (blkOk_by (N := N_agreeing_faults) (sc := (defScope (top 71))) (by decide +kernel)) (fun _ _ _ _ _ => (g_name 3 sc_agreeing_faults.nd)) (fun _ _ _ _ _ => (ts_one (t_val (e_call (ok_agreeing T) hr (g_agreeing T) (a_cons (e_var (pv 1)) (a_cons (e_var (pv 3)) a_nil)))))) (fun _ _ _ _ _ => (e_var (pv 3)))) (ss_cons (s_if (t_eq hr (e_len (f_len T) (a_cons (e_var (pv 2)) a_nil)) e_int) (ss_one (s_raise rfl (mkx_Barred T hr))) ss_nil) (ss_one (s_ret (e_var (pv 2)))))), q_agreeing_faults⟩
theorem ok_word_of (T : TX P K mg) : FnAt P w K mg base 3 ("word_of", none) ["parts", "some"] c_word_of :=
  okD (k := 2) N_word_of (T.1.1.def_ 53 (d := d_word_of)) sc_word_of (fun _ _ _ _ _ _ us hl => match us, hl with | [_, _], _ => rfl) l_word_of fun cdv A outer s H E hr =>
    ⟨w_word_of, (ss_cons (s_setLc 2 [("fault", 4)] sc_word_of.nd (i_seq (e_var (pv 1))) (blkOk_by (N := N_word_of) (sc := (defScope (top 72))) (by decide +kernel)) (fun _ _ _ _ _ => (g_name 4 sc_word_of.nd)) (fun _ _ _ _ _ => (ts_one (t_val (e_call (ok_lets T) hr (g_lets T) (a_cons (e_var (pv 0)) (a_cons (e_var (pv 4)) a_nil)))))) (fun _ _ _ _ _ => (e_var (pv 4)))) (ss_cons (s_setLc 3 [("fault", 4)] sc_word_of.nd (i_seq (e_var (pv 1))) (blkOk_by (N := N_word_of) (sc := (defScope (top 72))) (by decide +kernel)) (fun _ _ _ _ _ => (g_name 4 sc_word_of.nd)) (fun _ _ _ _ _ => (ts_one (t_not (t_val (e_call (ok_lets T) hr (g_lets T) (a_cons (e_var (pv 0)) (a_cons (e_var (pv 4)) a_nil))))))) (fun _ _ _ _ _ => (e_var (pv 4)))) (ss_cons (s_if (t_eq hr (e_len (f_len T) (a_cons (e_var (pv 3)) a_nil)) e_int) (ss_one (s_ret (e_tup (a_cons e_str (a_cons (e_ix (e_var (pv 2)) e_int) (a_cons e_non a_nil)))))) ss_nil) (ss_one (s_ret (e_if (t_eq hr (e_len (f_len T) (a_cons (e_var (pv 2)) a_nil)) e_int) (e_tup (a_cons e_str (a_cons e_non (a_cons (e_ix (e_var (pv 3)) e_int) a_nil)))) (e_tup (a_cons e_str (a_cons (e_ix (e_var (pv 2)) e_int) (a_cons (e_ix (e_var (pv 3)) e_int) a_nil)))))))))), q_word_of⟩
theorem ok_notice (T : TX P K mg) : FnAtX P w K mg base 14 ("notice", none) ["book", "parts", "report"] c_notice :=
  okDX (k := 13) N_notice (T.1.1.def_ 54 (d := d_notice)) sc_notice (fun _ _ _ _ _ _ us hl => match us, hl with | [_, _, _], _ => rfl) l_notice fun cdv A outer s H E hr hp =>
    ⟨w_notice, (ss_cons (s_expr (e_call (ok_check_filter T) hr (g_check_filter T) (a_cons (e_fld (cn_Book T) (e_var (pv 0))) (a_cons (e_var (pv 1)) a_nil)))) (ss_cons (s_expr (e_call (ok_check_report T) hr (g_check_report T) (a_cons (e_fld (cn_Book T) (e_var (pv 0))) (a_cons (e_var (pv 2)) a_nil)))) (ss_cons (s_asgX (x_callA (ok_word_of T) hr (g_word_of T) (ax_cons (x_up (e_var (pv 1))) (ax_cons (x_callX (ok_agreeing_faults T) hr (g_agreeing_faults T) (ax_cons (x_up (e_var (pv 0))) (ax_cons (x_up (e_var (pv 2))) (ax_up a_nil)))) (ax_up a_nil)))) (g_tup rfl (gs_cons (g_name 4 sc_notice.nd) (gs_cons (g_name 5 sc_notice.nd) (gs_cons (g_name 6 sc_notice.nd) gs_nil))))) (ss_cons (s_if (t_eq hr (e_var (pv 4)) e_str) (ss_one (s_ret (e_tup (a_cons (e_var (pv 4)) (a_cons (e_var (pv 5)) (a_cons (e_var (pv 6)) a_nil)))))) ss_nil) (ss_cons (s_set 3 sc_notice.nd (e_call (ok_met_boxes T) hr (g_met_boxes T) (a_cons (e_fld (cn_Book T) (e_var (pv 0))) (a_cons (e_var (pv 1)) (a_cons (e_var (pv 2)) (a_cons (e_eq hr (e_var (pv 4)) e_str) a_nil)))))) (ss_one (s_ret (e_tup (a_cons (e_var (pv 4)) (a_cons (e_tuple (f_tuple T) (a_cons (e_lc [("box", 7)] sc_notice.nd (i_seq (e_var (pv 3))) (blkOk_by (N := N_notice) (sc := (defScope (top 73))) (by decide +kernel)) (fun _ _ _ _ _ => (g_name 7 sc_notice.nd)) (fun _ _ _ _ _ => ts_nil) (fun _ _ _ _ _ => (e_call (ok_derivation_of T) hr (g_derivation_of T) (a_cons (e_var (pv 0)) (a_cons (e_var (pv 7)) a_nil))))) a_nil)) a_nil)))))))))), q_notice⟩
theorem ok_are_shown (T : TX P K mg) : FnAt P w K mg base 7 ("are_shown", none) ["book", "parts", "report", "word", "steps"] c_are_shown :=
  okD (k := 6) N_are_shown (T.1.1.def_ 55 (d := d_are_shown)) sc_are_shown (fun _ _ _ _ _ _ us hl => match us, hl with | [_, _, _, _, _], _ => rfl) l_are_shown fun cdv A outer s H E hr =>
    ⟨w_are_shown, (ss_cons (s_set 5 sc_are_shown.nd (e_call (ok_met_boxes T) hr (g_met_boxes T) (a_cons (e_fld (cn_Book T) (e_var (pv 0))) (a_cons (e_var (pv 1)) (a_cons (e_var (pv 2)) (a_cons (e_eq hr (e_var (pv 3)) e_str) a_nil)))))) (ss_cons (s_if (t_not (t_val (e_call (ok_is_tuple T) hr (g_is_tuple T) (a_cons (e_var (pv 4)) (a_cons (e_len (f_len T) (a_cons (e_var (pv 5)) a_nil)) (a_cons (e_len (f_len T) (a_cons (e_var (pv 5)) a_nil)) a_nil)))))) (ss_one (s_ret e_bl)) ss_nil) (ss_one (s_ret (e_all (f_all T) (a_cons (e_lc [("number", 6), ("box", 7)] sc_are_shown.nd (i_enum (f_enumerate T) (a_cons (e_var (pv 5)) a_nil)) (blkOk_by (N := N_are_shown) (sc := (defScope (top 74))) (by decide +kernel)) (fun _ _ _ _ _ => (g_tup rfl (gs_cons (g_name 6 sc_are_shown.nd) (gs_cons (g_name 7 sc_are_shown.nd) gs_nil)))) (fun _ _ _ _ _ => ts_nil) (fun _ _ _ _ _ => (e_call (ok_bars T) hr (g_bars T) (a_cons (e_var (pv 0)) (a_cons (e_var (pv 7)) (a_cons (e_ix (e_var (pv 4)) (e_var (pv 6))) a_nil)))))) a_nil)))))), q_are_shown⟩
theorem ok_is_notice (T : TX P K mg) : FnAt P w K mg base 8 ("is_notice", none) ["book", "parts", "report", "thing"] c_is_notice :=
  okD (k := 7) N_is_notice (T.1.1.def_ 56 (d := d_is_notice)) sc_is_notice (fun _ _ _ _ _ _ us hl => match us, hl with | [_, _, _, _], _ => rfl) l_is_notice fun cdv A outer s H E hr =>
    ⟨w_is_notice, (ss_cons (s_expr (e_call (ok_check_filter T) hr (g_check_filter T) (a_cons (e_fld (cn_Book T) (e_var (pv 0))) (a_cons (e_var (pv 1)) a_nil)))) (ss_cons (s_expr (e_call (ok_check_report T) hr (g_check_report T) (a_cons (e_fld (cn_Book T) (e_var (pv 0))) (a_cons (e_var (pv 2)) a_nil)))) (ss_cons (s_set 4 sc_is_notice.nd (e_call (ok_agreeing_faults T).no hr (g_agreeing_faults T) (a_cons (e_var (pv 0)) (a_cons (e_var (pv 2)) a_nil)))) (ss_cons (s_set 5 sc_is_notice.nd (e_ix (e_call (ok_word_of T) hr (g_word_of T) (a_cons (e_var (pv 1)) (a_cons (e_var (pv 4)) a_nil))) e_int)) (ss_cons (s_if (t_ne hr (e_var (pv 5)) e_str) (ss_one (s_expr (e_call (ok_met_boxes T) hr (g_met_boxes T) (a_cons (e_fld (cn_Book T) (e_var (pv 0))) (a_cons (e_var (pv 1)) (a_cons (e_var (pv 2)) (a_cons (e_eq hr (e_var (pv 5)) e_str) a_nil))))))) ss_nil) (ss_cons (s_if (t_bop (w_or (t_not (t_val (e_call (ok_is_tuple T) hr (g_is_tuple T) (a_cons (e_var (pv 3)) (a_cons e_int (a_cons e_int a_nil)))))) (w_or (t_not (t_val (e_isi .str (f_isinstance T) (f_str T) (e_ix (e_var (pv 3)) e_int)))) (w_or1 (t_ne hr (e_ix (e_var (pv 3)) e_int) (e_var (pv 5))))))) (ss_one (s_ret e_bl)) ss_nil) (ss_cons (s_if (t_ne hr (e_var (pv 5)) e_str) (ss_one (s_ret (e_and (e_eq hr (e_len (f_len T) (a_cons (e_var (pv 3)) a_nil)) e_int) (e_one (e_call (ok_are_shown T) hr (g_are_shown T) (a_cons (e_var (pv 0)) (a_cons (e_var (pv 1)) (a_cons (e_var (pv 2)) (a_cons (e_var (pv 5)) (a_cons (e_ix (e_var (pv 3)) e_int) a_nil)))))))))) ss_nil) (ss_cons (s_if (t_bop (w_or (t_ne hr (e_len (f_len T) (a_cons (e_var (pv 3)) a_nil)) e_int) (w_or1 (t_not (t_val (e_all (f_all T) (a_cons (e_lc [("fault", 6)] sc_is_notice.nd (i_seq (e_sl (e_var (pv 3)) (o_some e_int) o_none)) (blkOk_by (N := N_is_notice) (sc := (defScope (top 75))) (by decide +kernel)) (fun _ _ _ _ _ => (g_name 6 sc_is_notice.nd)) (fun _ _ _ _ _ => ts_nil) (fun _ _ _ _ _ => (e_and (e_call (ok_fault_in T) hr (g_fault_in T) (a_cons (e_fld (cn_Book T) (e_var (pv 0))) (a_cons (e_var (pv 6)) a_nil))) (e_one (e_in hr (e_var (pv 6)) (e_var (pv 4))))))) a_nil))))))) (ss_one (s_ret e_bl)) ss_nil) (ss_one (s_ret (e_and (e_call (ok_lets T) hr (g_lets T) (a_cons (e_var (pv 1)) (a_cons (e_ix (e_var (pv 3)) e_int) a_nil))) (e_one (e_not (e_call (ok_lets T) hr (g_lets T) (a_cons (e_var (pv 1)) (a_cons (e_ix (e_var (pv 3)) e_int) a_nil)))))))))))))))), q_is_notice⟩
theorem ok_others_of (T : TX P K mg) : FnAt P w K mg base 1 ("others_of", none) ["form", "field", "value"] c_others_of :=
  okD (k := 0) N_others_of (T.1.1.def_ 57 (d := d_others_of)) sc_others_of (fun _ _ _ _ _ _ us hl => match us, hl with | [_, _, _], _ => rfl) l_others_of fun cdv A outer s H E hr =>
    ⟨w_others_of, (ss_one (s_ret (e_tuple (f_tuple T) (a_cons (e_lc [("one", 3)] sc_others_of.nd (i_range1 (f_range T) (a_cons (e_ix (e_var (pv 0)) (e_var (pv 1))) a_nil)) (blkOk_by (N := N_others_of) (sc := (defScope (top 77))) (by decide +kernel)) (fun _ _ _ _ _ => (g_name 3 sc_others_of.nd)) (fun _ _ _ _ _ => (ts_one (t_ne hr (e_var (pv 3)) (e_var (pv 2))))) (fun _ _ _ _ _ => (e_var (pv 3)))) a_nil)))), q_others_of⟩
theorem ok_but_box (T : TX P K mg) : FnAt P w K mg base 2 ("but_box", none) ["book", "report", "field", "value"] c_but_box :=
  okD (k := 1) N_but_box (T.1.1.def_ 58 (d := d_but_box)) sc_but_box (fun _ _ _ _ _ _ us hl => match us, hl with | [_, _, _, _], _ => rfl) l_but_box fun cdv A outer s H E hr =>
    ⟨w_but_box, (ss_one (s_ret (e_call (ok_with_lot T) hr (g_with_lot T) (a_cons (e_call (ok_report_box T) hr (g_report_box T) (a_cons (e_fld (cn_Book T) (e_var (pv 0))) (a_cons (e_var (pv 1)) a_nil))) (a_cons (e_var (pv 2)) (a_cons (e_call (ok_others_of T) hr (g_others_of T) (a_cons (e_fld (cn_Book T) (e_var (pv 0))) (a_cons (e_var (pv 2)) (a_cons (e_var (pv 3)) a_nil)))) a_nil)))))), q_but_box⟩
theorem ok_first_by_value (T : TX P K mg) : FnAt P w K mg base 4 ("first_by_value", none) ["book", "report", "field"] c_first_by_value :=
  okD (k := 3) N_first_by_value (T.1.1.def_ 59 (d := d_first_by_value)) sc_first_by_value (fun _ _ _ _ _ _ us hl => match us, hl with | [_, _, _], _ => rfl) l_first_by_value fun cdv A outer s H E hr =>
    ⟨w_first_by_value, (ss_cons (s_set 3 sc_first_by_value.nd e_dnewK) (ss_cons (s_for (i_seq (e_call (ok_listed T) hr (g_listed T) (a_cons (e_var (pv 0)) a_nil))) (g_name 4 sc_first_by_value.nd) (ss_one (s_if (t_val (e_call (ok_agreeing T) hr (g_agreeing T) (a_cons (e_var (pv 1)) (a_cons (e_var (pv 4)) a_nil)))) (ss_one (s_expr (e_dsetd (e_var (pv 3)) (e_ix (e_var (pv 4)) (e_var (pv 2))) (e_var (pv 4))))) ss_nil))) (ss_one (s_ret (e_var (pv 3)))))), q_first_by_value⟩
theorem ok_settling (T : TX P K mg) : FnAt P w K mg base 14 ("settling", none) ["book", "report", "field"] c_settling :=
  okD (k := 13) N_settling (T.1.1.def_ 60 (d := d_settling)) sc_settling (fun _ _ _ _ _ _ us hl => match us, hl with | [_, _, _], _ => rfl) l_settling fun cdv A outer s H E hr =>
    ⟨w_settling, (ss_cons (s_set 3 sc_settling.nd (e_call (ok_first_by_value T) hr (g_first_by_value T) (a_cons (e_var (pv 0)) (a_cons (e_var (pv 1)) (a_cons (e_var (pv 2)) a_nil))))) (ss_cons (s_if (t_eq hr (e_len (f_len T) (a_cons (e_var (pv 3)) a_nil)) e_int) (ss_one (s_ret (e_tup (a_cons e_str (a_cons (e_call (ok_derivation_of T) hr (g_derivation_of T) (a_cons (e_var (pv 0)) (a_cons (e_call (ok_report_box T) hr (g_report_box T) (a_cons (e_fld (cn_Book T) (e_var (pv 0))) (a_cons (e_var (pv 1)) a_nil))) a_nil))) a_nil))))) ss_nil) (ss_cons (s_if (t_notN (e_ix (e_var (pv 1)) (e_var (pv 2))) e_non) (ss_one (s_ret (e_tup (a_cons e_str (a_cons (e_ix (e_var (pv 1)) (e_var (pv 2))) a_nil))))) ss_nil) (ss_cons (s_set 4 sc_settling.nd (e_sorted (f_sorted T) (a_cons (e_var (pv 3)) a_nil))) (ss_cons (s_if (t_eq hr (e_len (f_len T) (a_cons (e_var (pv 4)) a_nil)) e_int) (ss_one (s_ret (e_tup (a_cons e_str (a_cons (e_ix (e_var (pv 4)) e_int) (a_cons (e_call (ok_derivation_of T) hr (g_derivation_of T) (a_cons (e_var (pv 0)) (a_cons (e_call (ok_but_box T) hr (g_but_box T) (a_cons (e_var (pv 0)) (a_cons (e_var (pv 1)) (a_cons (e_var (pv 2)) (a_cons (e_ix (e_var (pv 4)) e_int) a_nil))))) a_nil))) a_nil)))))) ss_nil) (ss_one (s_ret (e_tup (a_cons e_str (a_cons (e_dget hr (e_var (pv 3)) (e_ix (e_var (pv 4)) e_int)) (a_cons (e_dget hr (e_var (pv 3)) (e_ix (e_var (pv 4)) e_int)) a_nil))))))))))), q_settling⟩
theorem ok_settled (T : TX P K mg) : FnAt P w K mg base 15 ("settled", none) ["book", "report", "field"] c_settled :=
  okD (k := 14) N_settled (T.1.1.def_ 61 (d := d_settled)) sc_settled (fun _ _ _ _ _ _ us hl => match us, hl with | [_, _, _], _ => rfl) l_settled fun cdv A outer s H E hr =>
    ⟨w_settled, (ss_cons (s_expr (e_call (ok_check_report T) hr (g_check_report T) (a_cons (e_fld (cn_Book T) (e_var (pv 0))) (a_cons (e_var (pv 1)) a_nil)))) (ss_cons (s_expr (e_call (ok_check_field T) hr (g_check_field T) (a_cons (e_fld (cn_Book T) (e_var (pv 0))) (a_cons (e_var (pv 2)) a_nil)))) (ss_one (s_ret (e_call (ok_settling T) hr (g_settling T) (a_cons (e_var (pv 0)) (a_cons (e_var (pv 1)) (a_cons (e_var (pv 2)) a_nil)))))))), q_settled⟩
theorem ok__law_hand (T : TX P K mg) : FnAt P w K mg base 1 ("_law_hand", none) ["script"] c__law_hand :=
  okD (k := 0) N__law_hand (T.1.1.def_ 62 (d := d__law_hand)) sc__law_hand (fun _ _ _ _ _ _ us hl => match us, hl with | [_], _ => rfl) l__law_hand fun cdv A outer s H E hr =>
    ⟨w__law_hand, (ss_cons (s_setLc 1 [("cell", 2)] sc__law_hand.nd (i_seq (e_sl (e_var (pv 0)) o_none (o_some e_int))) (blkOk_by (N := N__law_hand) (sc := (defScope (top 83))) (by decide +kernel)) (fun _ _ _ _ _ => (g_name 2 sc__law_hand.nd)) (fun _ _ _ _ _ => ts_nil) (fun _ _ _ _ _ => (e_abs (f_abs T) (a_cons (e_int' (f_int T) (a_cons (e_var (pv 2)) a_nil)) a_nil)))) (ss_one (s_ret (e_new (a_cons (e_var (pv 1)) (a_cons e_int (a_cons e_int (a_cons (e_add e_int (e_mul e_int (e_len (f_len T) (a_cons (e_var (pv 1)) a_nil)))) (a_cons e_int a_nil))))))))), q__law_hand⟩
theorem ok__law_draw (T : TX P K mg) : FnAt P w K mg base 1 ("_law_draw", none) ["hand", "many"] c__law_draw :=
  okD (k := 0) N__law_draw (T.1.1.def_ 63 (d := d__law_draw)) sc__law_draw (fun _ _ _ _ _ _ us hl => match us, hl with | [_, _], _ => rfl) l__law_draw fun cdv A outer s H E hr =>
    ⟨w__law_draw, (ss_cons (s_if (t_bop (w_and (t_eq hr (e_ix (e_var (pv 0)) e_int) e_int) (w_and1 (t_lt (e_ix (e_var (pv 0)) e_int) (e_len (f_len T) (a_cons (e_ix (e_var (pv 0)) e_int) a_nil)))))) (ss_cons (s_set 3 sc__law_draw.nd (e_ix (e_ix (e_var (pv 0)) e_int) (e_ix (e_var (pv 0)) e_int))) (ss_cons (s_lput (e_var (pv 0)) e_int (e_add (e_ix (e_var (pv 0)) e_int) e_int)) (ss_cons (s_lput (e_var (pv 0)) e_int (e_mod (e_int' (f_int T) (a_cons (e_add (e_add (e_mul (e_ix (e_var (pv 0)) e_int) e_int) (e_var (pv 3))) e_int) a_nil)) e_int)) (ss_one (s_if (t_ge (e_var (pv 3)) (e_pow e_int e_int)) (ss_one (s_lput (e_var (pv 0)) e_int (e_var (pv 3)))) ss_nil))))) ss_nil) (ss_cons (s_if (t_gt (e_ix (e_var (pv 0)) e_int) e_int) (ss_cons (s_set 4 sc__law_draw.nd (e_mod (e_int' (f_int T) (a_cons (e_ix (e_var (pv 0)) e_int) a_nil)) (e_var (pv 1)))) (ss_cons (s_lput (e_var (pv 0)) e_int (e_div (e_ix (e_var (pv 0)) e_int) (e_var (pv 1)))) (ss_one (s_ret (e_var (pv 4)))))) ss_nil) (ss_cons (s_lput (e_var (pv 0)) e_int (e_add (e_ix (e_var (pv 0)) e_int) e_int)) (ss_cons (s_set 2 sc__law_draw.nd (e_mod (e_int' (f_int T) (a_cons (e_mul (e_int' (f_int T) (a_cons (e_add (e_ix (e_var (pv 0)) e_int) (e_mul e_int (e_ix (e_var (pv 0)) e_int))) a_nil)) e_int) a_nil)) e_int)) (ss_cons (s_set 2 sc__law_draw.nd (e_mod (e_int' (f_int T) (a_cons (e_mul (e_var (pv 2)) (e_add (e_div (e_var (pv 2)) e_int) e_int)) a_nil)) e_int)) (ss_cons (s_set 2 sc__law_draw.nd (e_mod (e_int' (f_int T) (a_cons (e_mul (e_var (pv 2)) (e_add (e_div (e_var (pv 2)) e_int) e_int)) a_nil)) e_int)) (ss_one (s_ret (e_mod (e_int' (f_int T) (a_cons (e_div (e_var (pv 2)) e_int) a_nil)) (e_var (pv 1))))))))))), q__law_draw⟩
theorem ok__law_some (T : TX P K mg) : FnAt P w K mg base 2 ("_law_some", none) ["hand", "things"] c__law_some :=
  okD (k := 1) N__law_some (T.1.1.def_ 64 (d := d__law_some)) sc__law_some (fun _ _ _ _ _ _ us hl => match us, hl with | [_, _], _ => rfl) l__law_some fun cdv A outer s H E hr =>
    ⟨w__law_some, (ss_one (s_ret (e_ix (e_var (pv 1)) (e_call (ok__law_draw T) hr (g__law_draw T) (a_cons (e_var (pv 0)) (a_cons (e_len (f_len T) (a_cons (e_var (pv 1)) a_nil)) a_nil)))))), q__law_some⟩
theorem ok__law_size (T : TX P K mg) : FnAt P w K mg base 1 ("_law_size", none) ["form"] c__law_size :=
  okD (k := 0) N__law_size (T.1.1.def_ 65 (d := d__law_size)) sc__law_size (fun _ _ _ _ _ _ us hl => match us, hl with | [_], _ => rfl) l__law_size fun cdv A outer s H E hr =>
    ⟨w__law_size, (ss_cons (s_set 1 sc__law_size.nd e_int) (ss_cons (s_for (i_seq (e_var (pv 0))) (g_name 2 sc__law_size.nd) (ss_one (s_set 1 sc__law_size.nd (e_mul (e_var (pv 1)) (e_var (pv 2)))))) (ss_one (s_ret (e_var (pv 1)))))), q__law_size⟩
theorem ok__law_form (T : TX P K mg) : FnAt P w K mg base 3 ("_law_form", none) ["hand", "fields", "most"] c__law_form :=
  okD (k := 2) N__law_form (T.1.1.def_ 66 (d := d__law_form)) sc__law_form (fun _ _ _ _ _ _ us hl => match us, hl with | [_, _, _], _ => rfl) l__law_form fun cdv A outer s H E hr =>
    ⟨w__law_form, (ss_cons (s_set 3 sc__law_form.nd (e_tup (a_cons (e_add e_int (e_call (ok__law_draw T) hr (g__law_draw T) (a_cons (e_var (pv 0)) (a_cons e_int a_nil)))) a_nil))) (ss_cons (s_for (i_range1 (f_range T) (a_cons (e_call (ok__law_draw T) hr (g__law_draw T) (a_cons (e_var (pv 0)) (a_cons (e_var (pv 1)) a_nil))) a_nil)) (g_name 4 sc__law_form.nd) (ss_cons (s_set 5 sc__law_form.nd (e_add e_int (e_call (ok__law_draw T) hr (g__law_draw T) (a_cons (e_var (pv 0)) (a_cons (e_call (ok__law_some T) hr (g__law_some T) (a_cons (e_var (pv 0)) (a_cons (e_lst (a_cons e_int (a_cons e_int (a_cons e_int a_nil)))) a_nil))) a_nil))))) (ss_one (s_if (t_le (e_mul (e_call (ok__law_size T) hr (g__law_size T) (a_cons (e_var (pv 3)) a_nil)) (e_var (pv 5))) (e_var (pv 2))) (ss_one (s_set 3 sc__law_form.nd (e_add (e_var (pv 3)) (e_tup (a_cons (e_var (pv 5)) a_nil))))) ss_nil)))) (ss_one (s_ret (e_var (pv 3)))))), q__law_form⟩
theorem ok__law_lot (T : TX P K mg) : FnAt P w K mg base 2 ("_law_lot", none) ["hand", "many"] c__law_lot :=
  okD (k := 1) N__law_lot (T.1.1.def_ 67 (d := d__law_lot)) sc__law_lot (fun _ _ _ _ _ _ us hl => match us, hl with | [_, _], _ => rfl) l__law_lot fun cdv A outer s H E hr =>
    ⟨w__law_lot, (ss_cons (s_set 2 sc__law_lot.nd (e_tuple (f_tuple T) (a_cons (e_lc [("value", 3)] sc__law_lot.nd (i_range1 (f_range T) (a_cons (e_var (pv 1)) a_nil)) (blkOk_by (N := N__law_lot) (sc := (defScope (top 88))) (by decide +kernel)) (fun _ _ _ _ _ => (g_name 3 sc__law_lot.nd)) (fun _ _ _ _ _ => (ts_one (t_eq hr (e_call (ok__law_draw T) hr (g__law_draw T) (a_cons (e_var (pv 0)) (a_cons e_int a_nil))) e_int))) (fun _ _ _ _ _ => (e_var (pv 3)))) a_nil))) (ss_one (s_ret (e_if (t_gt (e_len (f_len T) (a_cons (e_var (pv 2)) a_nil)) e_int) (e_var (pv 2)) (e_tup (a_cons (e_call (ok__law_draw T) hr (g__law_draw T) (a_cons (e_var (pv 0)) (a_cons (e_var (pv 1)) a_nil))) a_nil)))))), q__law_lot⟩
theorem ok__law_box (T : TX P K mg) : FnAt P w K mg base 3 ("_law_box", none) ["hand", "form"] c__law_box :=
  okD (k := 2) N__law_box (T.1.1.def_ 68 (d := d__law_box)) sc__law_box (fun _ _ _ _ _ _ us hl => match us, hl with | [_, _], _ => rfl) l__law_box fun cdv A outer s H E hr =>
    ⟨w__law_box, (ss_one (s_ret (e_tuple (f_tuple T) (a_cons (e_lc [("many", 2)] sc__law_box.nd (i_seq (e_var (pv 1))) (blkOk_by (N := N__law_box) (sc := (defScope (top 89))) (by decide +kernel)) (fun _ _ _ _ _ => (g_name 2 sc__law_box.nd)) (fun _ _ _ _ _ => ts_nil) (fun _ _ _ _ _ => (e_if (t_eq hr (e_call (ok__law_draw T) hr (g__law_draw T) (a_cons (e_var (pv 0)) (a_cons e_int a_nil))) e_int) (e_call (ok__law_lot T) hr (g__law_lot T) (a_cons (e_var (pv 0)) (a_cons (e_var (pv 2)) a_nil))) (e_tuple (f_tuple T) (a_cons (e_lstRg (f_list T) (r_1 (f_range T) (e_var (pv 2)))) a_nil))))) a_nil)))), q__law_box⟩
theorem ok__law_rules (T : TX P K mg) : FnAt P w K mg base 4 ("_law_rules", none) ["hand", "form", "most"] c__law_rules :=
  okD (k := 3) N__law_rules (T.1.1.def_ 69 (d := d__law_rules)) sc__law_rules (fun _ _ _ _ _ _ us hl => match us, hl with | [_, _, _], _ => rfl) l__law_rules fun cdv A outer s H E hr =>
    ⟨w__law_rules, (ss_one (s_ret (e_tuple (f_tuple T) (a_cons (e_lc [("rule", 3)] sc__law_rules.nd (i_range1 (f_range T) (a_cons (e_call (ok__law_draw T) hr (g__law_draw T) (a_cons (e_var (pv 0)) (a_cons (e_add (e_var (pv 2)) e_int) a_nil))) a_nil)) (blkOk_by (N := N__law_rules) (sc := (defScope (top 90))) (by decide +kernel)) (fun _ _ _ _ _ => (g_name 3 sc__law_rules.nd)) (fun _ _ _ _ _ => ts_nil) (fun _ _ _ _ _ => (e_call (ok__law_box T) hr (g__law_box T) (a_cons (e_var (pv 0)) (a_cons (e_var (pv 1)) a_nil))))) a_nil)))), q__law_rules⟩
theorem ok__law_all (T : TX P K mg) : FnAt P w K mg base 1 ("_law_all", none) ["form"] c__law_all :=
  okD (k := 0) N__law_all (T.1.1.def_ 70 (d := d__law_all)) sc__law_all (fun _ _ _ _ _ _ us hl => match us, hl with | [_], _ => rfl) l__law_all fun cdv A outer s H E hr =>
    ⟨w__law_all, (ss_cons (s_set 1 sc__law_all.nd (e_lst (a_cons (e_tup a_nil) a_nil))) (ss_cons (s_for (i_seq (e_var (pv 0))) (g_name 2 sc__law_all.nd) (ss_cons (s_set 3 sc__law_all.nd (e_new a_nil)) (ss_cons (s_for (i_seq (e_var (pv 1))) (g_name 4 sc__law_all.nd) (ss_one (s_expr (e_ext (e_var (pv 3)) (a_cons (e_lc [("value", 5)] sc__law_all.nd (i_range1 (f_range T) (a_cons (e_var (pv 2)) a_nil)) (blkOk_by (N := N__law_all) (sc := (defScope (top 91))) (by decide +kernel)) (fun _ _ _ _ _ => (g_name 5 sc__law_all.nd)) (fun _ _ _ _ _ => ts_nil) (fun _ _ _ _ _ => (e_add (e_var (pv 4)) (e_tup (a_cons (e_var (pv 5)) a_nil))))) a_nil))))) (ss_one (s_set 1 sc__law_all.nd (e_var (pv 3))))))) (ss_one (s_ret (e_var (pv 1)))))), q__law_all⟩
theorem ok__law_holds (T : TX P K mg) : FnAt P w K mg base 1 ("_law_holds", none) ["box", "fault"] c__law_holds :=
  okD (k := 0) N__law_holds (T.1.1.def_ 71 (d := d__law_holds)) sc__law_holds (fun _ _ _ _ _ _ us hl => match us, hl with | [_, _], _ => rfl) l__law_holds fun cdv A outer s H E hr =>
    ⟨w__law_holds, (ss_one (s_ret (e_all (f_all T) (a_cons (e_lc [("lot", 2), ("value", 3)] sc__law_holds.nd (i_zip (f_zip T) (a_cons (e_var (pv 0)) (a_cons (e_var (pv 1)) a_nil))) (blkOk_by (N := N__law_holds) (sc := (defScope (top 92))) (by decide +kernel)) (fun _ _ _ _ _ => (g_tup rfl (gs_cons (g_name 2 sc__law_holds.nd) (gs_cons (g_name 3 sc__law_holds.nd) gs_nil)))) (fun _ _ _ _ _ => ts_nil) (fun _ _ _ _ _ => (e_in hr (e_var (pv 3)) (e_var (pv 2))))) a_nil)))), q__law_holds⟩
theorem ok__law_lawful (T : TX P K mg) : FnAt P w K mg base 2 ("_law_lawful", none) ["form", "rules"] c__law_lawful :=
  okD (k := 1) N__law_lawful (T.1.1.def_ 72 (d := d__law_lawful)) sc__law_lawful (fun _ _ _ _ _ _ us hl => match us, hl with | [_, _], _ => rfl) l__law_lawful fun cdv A outer s H E hr =>
    ⟨w__law_lawful, (ss_one (s_ret (e_lc [("fault", 2)] sc__law_lawful.nd (i_seq (e_call (ok__law_all T) hr (g__law_all T) (a_cons (e_var (pv 0)) a_nil))) (blkOk_by (N := N__law_lawful) (sc := (defScope (top 93))) (by decide +kernel)) (fun _ _ _ _ _ => (g_name 2 sc__law_lawful.nd)) (fun _ _ _ _ _ => (ts_one (t_not (t_val (e_any (f_any T) (a_cons (e_lc [("rule", 3)] sc__law_lawful.nd (i_seq (e_var (pv 1))) (blkOk_by (N := N__law_lawful) (sc := (relS _ (defScope (top 93)))) (by decide +kernel)) (fun _ _ _ _ _ => (g_name 3 sc__law_lawful.nd)) (fun _ _ _ _ _ => ts_nil) (fun _ _ _ _ _ => (e_call (ok__law_holds T) hr (g__law_holds T) (a_cons (e_var (pv 3)) (a_cons (e_var (pv 2)) a_nil))))) a_nil)))))) (fun _ _ _ _ _ => (e_var (pv 2)))))), q__law_lawful⟩
theorem ok__law_agrees (T : TX P K mg) : FnAt P w K mg base 1 ("_law_agrees", none) ["report", "fault"] c__law_agrees :=
  okD (k := 0) N__law_agrees (T.1.1.def_ 73 (d := d__law_agrees)) sc__law_agrees (fun _ _ _ _ _ _ us hl => match us, hl with | [_, _], _ => rfl) l__law_agrees fun cdv A outer s H E hr =>
    ⟨w__law_agrees, (ss_one (s_ret (e_all (f_all T) (a_cons (e_lc [("said", 2), ("value", 3)] sc__law_agrees.nd (i_zip (f_zip T) (a_cons (e_var (pv 0)) (a_cons (e_var (pv 1)) a_nil))) (blkOk_by (N := N__law_agrees) (sc := (defScope (top 94))) (by decide +kernel)) (fun _ _ _ _ _ => (g_tup rfl (gs_cons (g_name 2 sc__law_agrees.nd) (gs_cons (g_name 3 sc__law_agrees.nd) gs_nil)))) (fun _ _ _ _ _ => ts_nil) (fun _ _ _ _ _ => (e_or (e_isN (e_var (pv 2)) e_non) (e_one (e_eq hr (e_var (pv 2)) (e_var (pv 3))))))) a_nil)))), q__law_agrees⟩
theorem ok__law_report (T : TX P K mg) : FnAt P w K mg base 3 ("_law_report", none) ["hand", "form", "some"] c__law_report :=
  okD (k := 2) N__law_report (T.1.1.def_ 74 (d := d__law_report)) sc__law_report (fun _ _ _ _ _ _ us hl => match us, hl with | [_, _, _], _ => rfl) l__law_report fun cdv A outer s H E hr =>
    ⟨w__law_report, (ss_cons (s_set 3 sc__law_report.nd (e_tuple (f_tuple T) (a_cons (e_lc [("many", 4)] sc__law_report.nd (i_seq (e_var (pv 1))) (blkOk_by (N := N__law_report) (sc := (defScope (top 95))) (by decide +kernel)) (fun _ _ _ _ _ => (g_name 4 sc__law_report.nd)) (fun _ _ _ _ _ => ts_nil) (fun _ _ _ _ _ => (e_call (ok__law_draw T) hr (g__law_draw T) (a_cons (e_var (pv 0)) (a_cons (e_var (pv 4)) a_nil))))) a_nil))) (ss_cons (s_if (t_bop (w_and (t_gt (e_len (f_len T) (a_cons (e_var (pv 2)) a_nil)) e_int) (w_and1 (t_gt (e_call (ok__law_draw T) hr (g__law_draw T) (a_cons (e_var (pv 0)) (a_cons e_int a_nil))) e_int)))) (ss_one (s_set 3 sc__law_report.nd (e_call (ok__law_some T) hr (g__law_some T) (a_cons (e_var (pv 0)) (a_cons (e_var (pv 2)) a_nil))))) ss_nil) (ss_one (s_ret (e_tuple (f_tuple T) (a_cons (e_lc [("value", 5)] sc__law_report.nd (i_seq (e_var (pv 3))) (blkOk_by (N := N__law_report) (sc := (defScope (top 95))) (by decide +kernel)) (fun _ _ _ _ _ => (g_name 5 sc__law_report.nd)) (fun _ _ _ _ _ => ts_nil) (fun _ _ _ _ _ => (e_if (t_eq hr (e_call (ok__law_draw T) hr (g__law_draw T) (a_cons (e_var (pv 0)) (a_cons e_int a_nil))) e_int) (e_var (pv 5)) e_non))) a_nil)))))), q__law_report⟩
theorem ok__law_in (T : TX P K mg) : FnAt P w K mg base 2 ("_law_in", none) ["filter_so", "fault"] c__law_in :=
  okD (k := 1) N__law_in (T.1.1.def_ 75 (d := d__law_in)) sc__law_in (fun _ _ _ _ _ _ us hl => match us, hl with | [_, _], _ => rfl) l__law_in fun cdv A outer s H E hr =>
    ⟨w__law_in, (ss_cons (s_setLc 2 [("flag", 3), ("box", 4)] sc__law_in.nd (i_seq (e_var (pv 0))) (blkOk_by (N := N__law_in) (sc := (defScope (top 96))) (by decide +kernel)) (fun _ _ _ _ _ => (g_tup rfl (gs_cons (g_name 3 sc__law_in.nd) (gs_cons (g_name 4 sc__law_in.nd) gs_nil)))) (fun _ _ _ _ _ => (ts_one (t_val (e_call (ok__law_holds T) hr (g__law_holds T) (a_cons (e_var (pv 4)) (a_cons (e_var (pv 1)) a_nil)))))) (fun _ _ _ _ _ => (e_var (pv 3)))) (ss_one (s_ret (e_and (e_gt (e_len (f_len T) (a_cons (e_var (pv 2)) a_nil)) e_int) (e_one (e_ix (e_var (pv 2)) (e_neg e_int))))))), q__law_in⟩
theorem ok__law_word (T : TX P K mg) : FnAt P w K mg base 3 ("_law_word", none) ["some", "filter_so"] c__law_word :=
  okD (k := 2) N__law_word (T.1.1.def_ 76 (d := d__law_word)) sc__law_word (fun _ _ _ _ _ _ us hl => match us, hl with | [_, _], _ => rfl) l__law_word fun cdv A outer s H E hr =>
    ⟨w__law_word, (ss_cons (s_setLc 2 [("fault", 3)] sc__law_word.nd (i_seq (e_var (pv 0))) (blkOk_by (N := N__law_word) (sc := (defScope (top 97))) (by decide +kernel)) (fun _ _ _ _ _ => (g_name 3 sc__law_word.nd)) (fun _ _ _ _ _ => ts_nil) (fun _ _ _ _ _ => (e_call (ok__law_in T) hr (g__law_in T) (a_cons (e_var (pv 1)) (a_cons (e_var (pv 3)) a_nil))))) (ss_one (s_ret (e_if (t_val (e_all (f_all T) (a_cons (e_var (pv 2)) a_nil))) e_str (e_if (t_val (e_any (f_any T) (a_cons (e_var (pv 2)) a_nil))) e_str e_str))))), q__law_word⟩
theorem ok__law_steps_right (T : TX P K mg) : FnAt P w K mg base 9 ("_law_steps_right", none) ["book", "filter_so", "report", "told"] c__law_steps_right :=
  okD (k := 8) N__law_steps_right (T.1.1.def_ 77 (d := d__law_steps_right)) sc__law_steps_right (fun _ _ _ _ _ _ us hl => match us, hl with | [_, _, _, _], _ => rfl) l__law_steps_right fun cdv A outer s H E hr =>
    ⟨w__law_steps_right, (ss_cons (s_asg (e_tup (a_cons (e_fld (cn_Book T) (e_var (pv 0))) (a_cons (e_if (t_eq hr (e_ix (e_var (pv 3)) e_int) e_str) (e_call (ok_outside T) hr (g_outside T) (a_cons (e_fld (cn_Book T) (e_var (pv 0))) (a_cons (e_var (pv 1)) a_nil))) (e_call (ok_inside T) hr (g_inside T) (a_cons (e_fld (cn_Book T) (e_var (pv 0))) (a_cons (e_var (pv 1)) a_nil)))) a_nil))) (g_tup rfl (gs_cons (g_name 5 sc__law_steps_right.nd) (gs_cons (g_name 6 sc__law_steps_right.nd) gs_nil)))) (ss_cons (s_setLc 4 [("box", 7)] sc__law_steps_right.nd (i_seq (e_var (pv 6))) (blkOk_by (N := N__law_steps_right) (sc := (defScope (top 98))) (by decide +kernel)) (fun _ _ _ _ _ => (g_name 7 sc__law_steps_right.nd)) (fun _ _ _ _ _ => ts_nil) (fun _ _ _ _ _ => (e_call (ok_common T) hr (g_common T) (a_cons (e_var (pv 5)) (a_cons (e_var (pv 7)) (a_cons (e_call (ok_box_of T) hr (g_box_of T) (a_cons (e_var (pv 5)) (a_cons (e_var (pv 2)) a_nil))) a_nil)))))) (ss_cons (s_setLc 4 [("box", 7)] sc__law_steps_right.nd (i_seq (e_var (pv 4))) (blkOk_by (N := N__law_steps_right) (sc := (defScope (top 98))) (by decide +kernel)) (fun _ _ _ _ _ => (g_name 7 sc__law_steps_right.nd)) (fun _ _ _ _ _ => (ts_one (t_notN (e_var (pv 7)) e_non))) (fun _ _ _ _ _ => (e_var (pv 7)))) (ss_cons (s_if (t_bop (w_or (t_not (t_val (e_isi .tup (f_isinstance T) (f_tuple T) (e_ix (e_var (pv 3)) e_int)))) (w_or1 (t_ne hr (e_len (f_len T) (a_cons (e_ix (e_var (pv 3)) e_int) a_nil)) (e_len (f_len T) (a_cons (e_var (pv 4)) a_nil)))))) (ss_one (s_ret e_bl)) ss_nil) (ss_one (s_ret (e_all (f_all T) (a_cons (e_lc [("box", 7), ("step", 8)] sc__law_steps_right.nd (i_zipM (f_zip T) (a_cons (e_var (pv 4)) (a_cons (e_ix (e_var (pv 3)) e_int) a_nil))) (blkOk_by (N := N__law_steps_right) (sc := (defScope (top 98))) (by decide +kernel)) (fun _ _ _ _ _ => (g_tup rfl (gs_cons (g_name 7 sc__law_steps_right.nd) (gs_cons (g_name 8 sc__law_steps_right.nd) gs_nil)))) (fun _ _ _ _ _ => ts_nil) (fun _ _ _ _ _ => (e_call (ok_within T) hr (g_within T) (a_cons (e_var (pv 5)) (a_cons (e_var (pv 7)) (a_cons (e_call (ok_derived T) hr (g_derived T) (a_cons (e_var (pv 0)) (a_cons (e_var (pv 8)) a_nil))) a_nil)))))) a_nil)))))))), q__law_steps_right⟩
theorem ok__law_notice_right (T : TX P K mg) : FnAt P w K mg base 15 ("_law_notice_right", none) ["book", "lawful_so", "filter_so", "report"] c__law_notice_right :=
  okD (k := 14) N__law_notice_right (T.1.1.def_ 78 (d := d__law_notice_right)) sc__law_notice_right (fun _ _ _ _ _ _ us hl => match us, hl with | [_, _, _, _], _ => rfl) l__law_notice_right fun cdv A outer s H E hr =>
    ⟨w__law_notice_right, (ss_cons (s_setLc 4 [("fault", 8)] sc__law_notice_right.nd (i_seq (e_var (pv 1))) (blkOk_by (N := N__law_notice_right) (sc := (defScope (top 99))) (by decide +kernel)) (fun _ _ _ _ _ => (g_name 8 sc__law_notice_right.nd)) (fun _ _ _ _ _ => (ts_one (t_val (e_call (ok__law_agrees T) hr (g__law_agrees T) (a_cons (e_var (pv 3)) (a_cons (e_var (pv 8)) a_nil)))))) (fun _ _ _ _ _ => (e_var (pv 8)))) (ss_cons (s_try mt_Barred (hmt_Barred T) (g_Barred T) (fun pn xe hp => (ss_one (s_setX 6 sc__law_notice_right.nd (x_callX (ok_notice T) hr (g_notice T) (ax_cons (x_up (e_var (pv 0))) (ax_cons (x_up (e_var (pv 2))) (ax_cons (x_up (e_var (pv 3))) (ax_up a_nil)))))))) (fun a oe pn => (ss_one (s_ret (e_eqU hr.units (e_var (pv 4)) (e_lst a_nil)))))) (ss_cons (s_set 5 sc__law_notice_right.nd (e_call (ok__law_word T) hr (g__law_word T) (a_cons (e_var (pv 4)) (a_cons (e_var (pv 2)) a_nil)))) (ss_cons (s_if (t_bop (w_or (t_eq hr (e_var (pv 4)) (e_lst a_nil)) (w_or (t_ne hr (e_ix (e_var (pv 6)) e_int) (e_var (pv 5))) (w_or1 (t_notB (e_call (ok_is_notice T) hr (g_is_notice T) (a_cons (e_var (pv 0)) (a_cons (e_var (pv 2)) (a_cons (e_var (pv 3)) (a_cons (e_var (pv 6)) a_nil))))) e_bl))))) (ss_one (s_ret e_bl)) ss_nil) (ss_cons (s_if (t_ne hr (e_var (pv 5)) e_str) (ss_cons (s_if (t_bop (w_or (t_ne hr (e_len (f_len T) (a_cons (e_var (pv 6)) a_nil)) e_int) (w_or1 (t_not (t_val (e_call (ok__law_steps_right T) hr (g__law_steps_right T) (a_cons (e_var (pv 0)) (a_cons (e_var (pv 2)) (a_cons (e_var (pv 3)) (a_cons (e_var (pv 6)) a_nil)))))))))) (ss_one (s_ret e_bl)) ss_nil) (ss_cons (s_set 7 sc__law_notice_right.nd (e_if (t_eq hr (e_var (pv 5)) e_str) e_str e_str)) (ss_one (s_ret (e_isB (e_call (ok_is_notice T) hr (g_is_notice T) (a_cons (e_var (pv 0)) (a_cons (e_var (pv 2)) (a_cons (e_var (pv 3)) (a_cons (e_tup (a_cons (e_var (pv 7)) (a_cons (e_ix (e_var (pv 6)) e_int) a_nil))) a_nil))))) e_bl))))) ss_nil) (ss_cons (s_if (t_bop (w_or (t_ne hr (e_len (f_len T) (a_cons (e_var (pv 6)) a_nil)) e_int) (w_or (t_notIn hr (e_ix (e_var (pv 6)) e_int) (e_var (pv 4))) (w_or1 (t_notIn hr (e_ix (e_var (pv 6)) e_int) (e_var (pv 4))))))) (ss_one (s_ret e_bl)) ss_nil) (ss_cons (s_if (t_bop (w_or (t_not (t_val (e_call (ok__law_in T) hr (g__law_in T) (a_cons (e_var (pv 2)) (a_cons (e_ix (e_var (pv 6)) e_int) a_nil))))) (w_or1 (t_val (e_call (ok__law_in T) hr (g__law_in T) (a_cons (e_var (pv 2)) (a_cons (e_ix (e_var (pv 6)) e_int) a_nil))))))) (ss_one (s_ret e_bl)) ss_nil) (ss_one (s_ret (e_isB (e_call (ok_is_notice T) hr (g_is_notice T) (a_cons (e_var (pv 0)) (a_cons (e_var (pv 2)) (a_cons (e_var (pv 3)) (a_cons (e_tup (a_cons e_str (a_cons (e_ix (e_var (pv 6)) e_int) (a_cons (e_ix (e_var (pv 6)) e_int) a_nil)))) a_nil))))) e_bl)))))))))), q__law_notice_right⟩
theorem ok__law_values_right (T : TX P K mg) : FnAt P w K mg base 16 ("_law_values_right", none) ["book", "lawful_so", "report", "field"] c__law_values_right :=
  okD (k := 15) N__law_values_right (T.1.1.def_ 79 (d := d__law_values_right)) sc__law_values_right (fun _ _ _ _ _ _ us hl => match us, hl with | [_, _, _, _], _ => rfl) l__law_values_right fun cdv A outer s H E hr =>
    ⟨w__law_values_right, (ss_cons (s_par 5 6 rfl sc__law_values_right.nd (a_cons (e_fld (cn_Book T) (e_var (pv 0))) (a_cons (e_lc [("fault", 11)] sc__law_values_right.nd (i_seq (e_var (pv 1))) (blkOk_by (N := N__law_values_right) (sc := (defScope (top 100))) (by decide +kernel)) (fun _ _ _ _ _ => (g_name 11 sc__law_values_right.nd)) (fun _ _ _ _ _ => (ts_one (t_val (e_call (ok__law_agrees T) hr (g__law_agrees T) (a_cons (e_var (pv 2)) (a_cons (e_var (pv 11)) a_nil)))))) (fun _ _ _ _ _ => (e_var (pv 11)))) a_nil))) (ss_cons (s_par 7 8 rfl sc__law_values_right.nd (a_cons (e_call (ok_settled T) hr (g_settled T) (a_cons (e_var (pv 0)) (a_cons (e_var (pv 2)) (a_cons (e_var (pv 3)) a_nil)))) (a_cons (e_tuple (f_tuple T) (a_cons (e_lc [("many", 12)] sc__law_values_right.nd (i_seq (e_var (pv 5))) (blkOk_by (N := N__law_values_right) (sc := (defScope (top 100))) (by decide +kernel)) (fun _ _ _ _ _ => (g_name 12 sc__law_values_right.nd)) (fun _ _ _ _ _ => ts_nil) (fun _ _ _ _ _ => (e_tuple (f_tuple T) (a_cons (e_lstRg (f_list T) (r_1 (f_range T) (e_var (pv 12)))) a_nil)))) a_nil)) a_nil))) (ss_cons (s_if (t_ne hr (e_eq hr (e_ix (e_var (pv 7)) e_int) e_str) (e_eq hr (e_var (pv 6)) (e_lst a_nil))) (ss_one (s_ret e_bl)) ss_nil) (ss_cons (s_for (i_range1 (f_range T) (a_cons (e_ix (e_var (pv 5)) (e_var (pv 3))) a_nil)) (g_name 4 sc__law_values_right.nd) (ss_cons (s_set 9 sc__law_values_right.nd (e_add (e_add (e_sl (e_var (pv 8)) o_none (o_some (e_var (pv 3)))) (e_tup (a_cons (e_tup (a_cons (e_var (pv 4)) a_nil)) a_nil))) (e_sl (e_var (pv 8)) (o_some (e_add (e_var (pv 3)) e_int)) o_none))) (ss_cons (s_if (t_not (t_val (e_call (ok__law_notice_right T) hr (g__law_notice_right T) (a_cons (e_var (pv 0)) (a_cons (e_var (pv 1)) (a_cons (e_tup (a_cons (e_tup (a_cons e_bl (a_cons (e_var (pv 9)) a_nil))) a_nil)) (a_cons (e_var (pv 2)) a_nil))))))) (ss_one (s_ret e_bl)) ss_nil) (ss_cons (s_if (t_not (t_val (e_call (ok__law_notice_right T) hr (g__law_notice_right T) (a_cons (e_var (pv 0)) (a_cons (e_var (pv 1)) (a_cons (e_tup (a_cons (e_tup (a_cons e_bl (a_cons (e_var (pv 8)) a_nil))) (a_cons (e_tup (a_cons e_bl (a_cons (e_var (pv 9)) a_nil))) a_nil))) (a_cons (e_var (pv 2)) a_nil))))))) (ss_one (s_ret e_bl)) ss_nil) (ss_one (s_if (t_ne hr (e_var (pv 6)) (e_lst a_nil)) (ss_cons (s_set 10 sc__law_values_right.nd (e_and (e_in hr (e_ix (e_var (pv 7)) e_int) (e_tup (a_cons e_str (a_cons e_str a_nil)))) (e_one (e_eq hr (e_ix (e_var (pv 7)) e_int) (e_var (pv 4)))))) (ss_one (s_if (t_ne hr (e_var (pv 10)) (e_eq hr (e_ix (e_call (ok_notice T).no hr (g_notice T) (a_cons (e_var (pv 0)) (a_cons (e_tup (a_cons (e_tup (a_cons e_bl (a_cons (e_var (pv 9)) a_nil))) a_nil)) (a_cons (e_var (pv 2)) a_nil)))) e_int) e_str)) (ss_one (s_ret e_bl)) ss_nil))) ss_nil)))))) (ss_one (s_ret e_bl)))))), q__law_values_right⟩
theorem ok_law (T : TX P K mg) : FnAt P w K mg base 17 ("law", none) ["script"] c_law :=
  okD (k := 16) N_law (T.1.1.def_ 80 (d := d_law)) sc_law (fun _ _ _ _ _ _ us hl => match us, hl with | [_], _ => rfl) l_law fun cdv A outer s H E hr =>
    ⟨w_law, (ss_cons (s_set 1 sc_law.nd (e_call (ok__law_hand T) hr (g__law_hand T) (a_cons (e_var (pv 0)) a_nil))) (ss_cons (s_for (i_range1 (f_range T) (a_cons e_int a_nil)) (g_name 2 sc_law.nd) (ss_cons (s_set 3 sc_law.nd (e_call (ok__law_form T) hr (g__law_form T) (a_cons (e_var (pv 1)) (a_cons e_int (a_cons e_int a_nil))))) (ss_cons (s_set 4 sc_law.nd (e_call (ok__law_rules T) hr (g__law_rules T) (a_cons (e_var (pv 1)) (a_cons (e_var (pv 3)) (a_cons e_int a_nil))))) (ss_cons (s_par 7 8 rfl sc_law.nd (a_cons (e_make (mk_Book T) (ok_Book_dd__init_dd_ T) hr (a_cons (e_var (pv 3)) (a_cons (e_var (pv 4)) a_nil))) (a_cons (e_call (ok__law_lawful T) hr (g__law_lawful T) (a_cons (e_var (pv 3)) (a_cons (e_var (pv 4)) a_nil))) a_nil))) (ss_cons (s_set 5 sc_law.nd (e_tuple (f_tuple T) (a_cons (e_lc [("many", 11)] sc_law.nd (i_seq (e_var (pv 3))) (blkOk_by (N := N_law) (sc := (defScope (top 101))) (by decide +kernel)) (fun _ _ _ _ _ => (g_name 11 sc_law.nd)) (fun _ _ _ _ _ => ts_nil) (fun _ _ _ _ _ => (e_tuple (f_tuple T) (a_cons (e_lstRg (f_list T) (r_1 (f_range T) (e_var (pv 11)))) a_nil)))) a_nil))) (ss_one (s_for (i_range1 (f_range T) (a_cons e_int a_nil)) (g_name 6 sc_law.nd) (ss_cons (s_set 9 sc_law.nd (e_call (ok__law_report T) hr (g__law_report T) (a_cons (e_var (pv 1)) (a_cons (e_var (pv 3)) (a_cons (e_var (pv 8)) a_nil))))) (ss_cons (s_if (t_not (t_val (e_call (ok__law_values_right T) hr (g__law_values_right T) (a_cons (e_var (pv 7)) (a_cons (e_var (pv 8)) (a_cons (e_var (pv 9)) (a_cons (e_call (ok__law_draw T) hr (g__law_draw T) (a_cons (e_var (pv 1)) (a_cons (e_len (f_len T) (a_cons (e_var (pv 3)) a_nil)) a_nil))) a_nil))))))) (ss_one (s_ret e_bl)) ss_nil) (ss_cons (s_set 10 sc_law.nd (e_tuple (f_tuple T) (a_cons (e_lc [("pair", 12)] sc_law.nd (i_range1 (f_range T) (a_cons (e_call (ok__law_draw T) hr (g__law_draw T) (a_cons (e_var (pv 1)) (a_cons e_int a_nil))) a_nil)) (blkOk_by (N := N_law) (sc := (defScope (top 101))) (by decide +kernel)) (fun _ _ _ _ _ => (g_name 12 sc_law.nd)) (fun _ _ _ _ _ => ts_nil) (fun _ _ _ _ _ => (e_tup (a_cons (e_eq hr (e_call (ok__law_draw T) hr (g__law_draw T) (a_cons (e_var (pv 1)) (a_cons e_int a_nil))) e_int) (a_cons (e_call (ok__law_box T) hr (g__law_box T) (a_cons (e_var (pv 1)) (a_cons (e_var (pv 3)) a_nil))) a_nil))))) a_nil))) (ss_cons (s_if (t_not (t_val (e_call (ok__law_notice_right T) hr (g__law_notice_right T) (a_cons (e_var (pv 7)) (a_cons (e_var (pv 8)) (a_cons (e_var (pv 10)) (a_cons (e_var (pv 9)) a_nil))))))) (ss_one (s_ret e_bl)) ss_nil) (ss_cons (s_set 10 sc_law.nd (e_add (e_tup (a_cons (e_tup (a_cons e_bl (a_cons (e_var (pv 5)) a_nil))) a_nil)) (e_tuple (f_tuple T) (a_cons (e_lc [("flag", 13), ("box", 14)] sc_law.nd (i_seq (e_var (pv 10))) (blkOk_by (N := N_law) (sc := (defScope (top 101))) (by decide +kernel)) (fun _ _ _ _ _ => (g_tup rfl (gs_cons (g_name 13 sc_law.nd) (gs_cons (g_name 14 sc_law.nd) gs_nil)))) (fun _ _ _ _ _ => ts_nil) (fun _ _ _ _ _ => (e_tup (a_cons (e_not (e_var (pv 13))) (a_cons (e_var (pv 14)) a_nil))))) a_nil)))) (ss_one (s_if (t_not (t_val (e_call (ok__law_notice_right T) hr (g__law_notice_right T) (a_cons (e_var (pv 7)) (a_cons (e_var (pv 8)) (a_cons (e_var (pv 10)) (a_cons (e_var (pv 9)) a_nil))))))) (ss_one (s_ret e_bl)) ss_nil)))))))))))))) (ss_one (s_ret e_bl)))), q_law⟩
theorem okF_law (T : TX P K mg) {fd : FuncData} (F : FunD K d_law.name d_law.qual d_law.params d_law.body d_law.scope [] [] (He.fAd K d_law.at_) fd) : FnOk P w K mg base CX0 17 (He.fAd K d_law.at_) fd ["script"] (spL K c_law) :=
  okF (k := 16) N_law F sc_law l_law fun cdv A outer s H E hr =>
    ⟨w_law, (ss_cons (s_set 1 sc_law.nd (e_call (ok__law_hand T) hr (g__law_hand T) (a_cons (e_var (pv 0)) a_nil))) (ss_cons (s_for (i_range1 (f_range T) (a_cons e_int a_nil)) (g_name 2 sc_law.nd) (ss_cons (s_set 3 sc_law.nd (e_call (ok__law_form T) hr (g__law_form T) (a_cons (e_var (pv 1)) (a_cons e_int (a_cons e_int a_nil))))) (ss_cons (s_set 4 sc_law.nd (e_call (ok__law_rules T) hr (g__law_rules T) (a_cons (e_var (pv 1)) (a_cons (e_var (pv 3)) (a_cons e_int a_nil))))) (ss_cons (s_par 7 8 rfl sc_law.nd (a_cons (e_make (mk_Book T) (ok_Book_dd__init_dd_ T) hr (a_cons (e_var (pv 3)) (a_cons (e_var (pv 4)) a_nil))) (a_cons (e_call (ok__law_lawful T) hr (g__law_lawful T) (a_cons (e_var (pv 3)) (a_cons (e_var (pv 4)) a_nil))) a_nil))) (ss_cons (s_set 5 sc_law.nd (e_tuple (f_tuple T) (a_cons (e_lc [("many", 11)] sc_law.nd (i_seq (e_var (pv 3))) (blkOk_by (N := N_law) (sc := (defScope (top 101))) (by decide +kernel)) (fun _ _ _ _ _ => (g_name 11 sc_law.nd)) (fun _ _ _ _ _ => ts_nil) (fun _ _ _ _ _ => (e_tuple (f_tuple T) (a_cons (e_lstRg (f_list T) (r_1 (f_range T) (e_var (pv 11)))) a_nil)))) a_nil))) (ss_one (s_for (i_range1 (f_range T) (a_cons e_int a_nil)) (g_name 6 sc_law.nd) (ss_cons (s_set 9 sc_law.nd (e_call (ok__law_report T) hr (g__law_report T) (a_cons (e_var (pv 1)) (a_cons (e_var (pv 3)) (a_cons (e_var (pv 8)) a_nil))))) (ss_cons (s_if (t_not (t_val (e_call (ok__law_values_right T) hr (g__law_values_right T) (a_cons (e_var (pv 7)) (a_cons (e_var (pv 8)) (a_cons (e_var (pv 9)) (a_cons (e_call (ok__law_draw T) hr (g__law_draw T) (a_cons (e_var (pv 1)) (a_cons (e_len (f_len T) (a_cons (e_var (pv 3)) a_nil)) a_nil))) a_nil))))))) (ss_one (s_ret e_bl)) ss_nil) (ss_cons (s_set 10 sc_law.nd (e_tuple (f_tuple T) (a_cons (e_lc [("pair", 12)] sc_law.nd (i_range1 (f_range T) (a_cons (e_call (ok__law_draw T) hr (g__law_draw T) (a_cons (e_var (pv 1)) (a_cons e_int a_nil))) a_nil)) (blkOk_by (N := N_law) (sc := (defScope (top 101))) (by decide +kernel)) (fun _ _ _ _ _ => (g_name 12 sc_law.nd)) (fun _ _ _ _ _ => ts_nil) (fun _ _ _ _ _ => (e_tup (a_cons (e_eq hr (e_call (ok__law_draw T) hr (g__law_draw T) (a_cons (e_var (pv 1)) (a_cons e_int a_nil))) e_int) (a_cons (e_call (ok__law_box T) hr (g__law_box T) (a_cons (e_var (pv 1)) (a_cons (e_var (pv 3)) a_nil))) a_nil))))) a_nil))) (ss_cons (s_if (t_not (t_val (e_call (ok__law_notice_right T) hr (g__law_notice_right T) (a_cons (e_var (pv 7)) (a_cons (e_var (pv 8)) (a_cons (e_var (pv 10)) (a_cons (e_var (pv 9)) a_nil))))))) (ss_one (s_ret e_bl)) ss_nil) (ss_cons (s_set 10 sc_law.nd (e_add (e_tup (a_cons (e_tup (a_cons e_bl (a_cons (e_var (pv 5)) a_nil))) a_nil)) (e_tuple (f_tuple T) (a_cons (e_lc [("flag", 13), ("box", 14)] sc_law.nd (i_seq (e_var (pv 10))) (blkOk_by (N := N_law) (sc := (defScope (top 101))) (by decide +kernel)) (fun _ _ _ _ _ => (g_tup rfl (gs_cons (g_name 13 sc_law.nd) (gs_cons (g_name 14 sc_law.nd) gs_nil)))) (fun _ _ _ _ _ => ts_nil) (fun _ _ _ _ _ => (e_tup (a_cons (e_not (e_var (pv 13))) (a_cons (e_var (pv 14)) a_nil))))) a_nil)))) (ss_one (s_if (t_not (t_val (e_call (ok__law_notice_right T) hr (g__law_notice_right T) (a_cons (e_var (pv 7)) (a_cons (e_var (pv 8)) (a_cons (e_var (pv 10)) (a_cons (e_var (pv 9)) a_nil))))))) (ss_one (s_ret e_bl)) ss_nil)))))))))))))) (ss_one (s_ret e_bl)))), q_law⟩

end
end K94
set_option Elab.async false
set_option linter.all false
set_option maxRecDepth 100000
set_option maxHeartbeats 0
namespace K94
open PySem PySem.Spec PyProof.Rows L2 Dd
theorem facts {P : Program} {w : World} {K : PySem.W.Frag} {h : Heap} {mg : Str → Option Value} {f : Addr} (X : K.In h) (G : h.Ns mainGlobals mg) (hfa : mg ("law" : Str) = some (.ref f)) (c : SaysX fa fn fx file K) (hfile : P.main.file = file) (hsup : (P.main.scope.names.lookup ("super" : Str)).isSome = false) :
    ∃ fd : FuncData, (∀ (s : Shared) (v : Value), BindsTo s fd ⟨[v], []⟩ [("script", v)]) ∧ ∀ base : Heap, K.In base → base.Ns mainGlobals mg → FnOk P w K mg base CX0 17 f fd ["script"] (spL K c_law) := by
  have T : TX P K mg := ⟨⟨⟨h, X, G, c.d⟩, c⟩, hfile, hsup⟩
  obtain ⟨fd, F⟩ := T.1.1.def_ 80 (d := d_law)
  have e := hfa.symm.trans (g_law T)
  cases e
  have b := FunD.bindsA (ps := ["script"]) F fun _ _ _ _ _ _ us hl => match us, hl with | [_], _ => rfl
  exact ⟨fd, fun s v => b s [v] rfl, fun base _ _ => okF_law T F⟩
end K94
open PySem PySem.W PySem.W.X PyProof.Rows
theorem PySem.Challenge.cw_samefault_k94_whole_notices_and_settled_holds : PySem.Challenge.rw_samefault_k94_whole_notices_and_settled.Holds := by
  w_on; o_law
  refine HandSHeadRun.head_any (r := K94.R) (q := view K94.R.prog [101]) (H := K94.hk) (ob := K94.ob) (M := 8000) (loose := K94.loose) (d := HandSHeadRun.topDef K94.R.prog 101) (kwd := []) K94.ob_eq
    (by kernel_rfl) (fun s => by kernel_rfl) K94.run (by kernel_rfl) (by kernel_rfl) (by kernel_rfl) (by rfl) (by first | assumption | decide +kernel) (by decide +kernel) ⟨rfl, rfl, rfl, rfl, rfl, by decide +kernel⟩ ?hw ?hc
  case hw => w_witness2
  case hc =>
    refine L2.walk_ofE (l := PySem.Challenge.rw_samefault_k94_whole_notices_and_settled) (n := 63) (k := 17) (x := "script") (CX := L2.CX0) rfl (by decide) (by kernel_rfl) ⟨rfl, by decide, by decide⟩ ?F (fun _ _ _ _ z => z)
    intro w mg fa h Y G hmg0
    obtain ⟨K, KX, c⟩ := Y
    have hmg : mg ("law" : PySem.Str) = some (.ref fa) := by
      have e : (HandSHeadRun.topDef K94.R.prog 101).name = ("law" : PySem.Str) := by kernel_rfl
      rw [← e]
      exact hmg0
    obtain ⟨fd, hb, hF⟩ := K94.facts (P := (PySem.Challenge.rw_samefault_k94_whole_notices_and_settled).prog) (w := w) KX G hmg c (by kernel_rfl) (by kernel_rfl)
    exact ⟨K, fd, Dd.spL K K94.c_law, KX, hb, fun H a ns hl ho hS => Dd.sp_start ho hS fun R hR => K94.i_law ⟨ns, rfl, hl, hR⟩, hF⟩
