import PyProof.Rows.All
import Wide.All
import OpenK.AllK
import Wide.FinOn
import HandS.ForMost
import HandS.TupAny
import HandS.TupMul
import HandS.IsInst
import HandS.DictComp
import HandS.Conv
import KE.KDictKeyed
import KE.KDictWalk
import PySem.Challenge.RW_rowwalkers_k75_whole_answers
set_option Elab.async false
set_option linter.all false
set_option maxRecDepth 100000
set_option maxHeartbeats 4000000
/-! D1: values as data (tuples by value), the heap of what changes, and the lifted judgements. -/
namespace DL
open PySem PySem.Spec PyProof.Rows L2

/-- a value as data: a tuple by its items; a list, a dict, an instance by where it stands -/
inductive D where
  | non | bl (b : Bool) | int (i : Int) | str (x : Str) | ref (a : Addr) | tup (ds : List D) | rol (ds : List D) | ty (n : String)

/-- what stands where a thing changes -/
inductive DO where
  | lst (ds : List D) | dct (kvs : List (D × D)) | ins (C : Addr) (fs : List (Str × D))

abbrev DH := Addr → Option DO
def put (h : DH) (a : Addr) (o : DO) : DH := fun b => if b = a then some o else h b
theorem put_same {h : DH} {a : Addr} {o : DO} : put h a o a = some o := by unfold put; rw [if_pos rfl]
theorem put_ne {h : DH} {a b : Addr} {o : DO} (e : b ≠ a) : put h a o b = h b := by unfold put; rw [if_neg e]

abbrev DSt := List (Option D)
abbrev DK := D → DH → Prop
abbrev DTE := DSt → DH → DK → Prop
abbrev DTT := DSt → DH → (Bool → DH → Prop) → Prop
abbrev DTA := DSt → DH → (List D → DH → Prop) → Prop

/-- a list that never changes: locked, or of the written part -/
def SqF (K : PySem.W.Frag) (H : Hp) (a : Addr) (xs : List V) : Prop :=
  (∃ o, H a = some (.frz o (.lst xs))) ∨
    ∃ (o : Obj) (its : Array Value) (n : Nat), K.lookup a = some o ∧ o.cls = .type "list" ∧ o.dict = none ∧ o.data = .seq its n ∧ its.size ≤ sizeLine ∧ Vals xs its.toList
theorem SqF.sq {K : PySem.W.Frag} {H : Hp} {a : Addr} {xs : List V} (h : SqF K H a xs) : SqL K H a xs := by
  rcases h with ⟨o, e⟩ | h
  · exact .inl (.inr ⟨o, e⟩)
  · exact .inr h

mutual
def RD (K : PySem.W.Frag) (H : Hp) : D → V → Prop
  | .non, v => v = .non
  | .bl b, v => v = .bl b
  | .int i, v => v = .int i
  | .str x, v => v = .str x
  | .ref a, v => v = .ref a
  | .ty n, v => v = .ty n
  | .tup ds, v => ∃ a vs, v = .ref a ∧ SqT K H a vs ∧ RDs K H ds vs
  | .rol ds, v => ∃ a vs, v = .ref a ∧ SqF K H a vs ∧ RDs K H ds vs
def RDs (K : PySem.W.Frag) (H : Hp) : List D → List V → Prop
  | [], vs => vs = []
  | d :: ds, vs => ∃ v r, vs = v :: r ∧ RD K H d v ∧ RDs K H ds r
end

/-- tuples and locked things stay -/
def Keeps (H H' : Hp) : Prop := (∀ b xs, H b = some (.tup xs) → H' b = some (.tup xs)) ∧ ∀ b o u, H b = some (.frz o u) → H' b = some (.frz o u)
theorem Keeps.refl (H : Hp) : Keeps H H := ⟨fun _ _ e => e, fun _ _ _ e => e⟩
theorem Keeps.trans {H H1 H2 : Hp} (a : Keeps H H1) (b : Keeps H1 H2) : Keeps H H2 := ⟨fun c xs e => b.1 c xs (a.1 c xs e), fun c o u e => b.2 c o u (a.2 c o u e)⟩
theorem Keeps.new {H : Hp} {a : Addr} {o : HO} (n : H a = none) : Keeps H (upd H a o) := ⟨fun b xs e => by rw [upd_ne (ne_of_none e n)]; exact e, fun b z u e => by rw [upd_ne (ne_of_none e n)]; exact e⟩
/-- what may be written over -/
def Soft : HO → Prop
  | .tup _ => False
  | .frz _ _ => False
  | _ => True
theorem Keeps.over {H : Hp} {a : Addr} {o o' : HO} (e : H a = some o) (s : Soft o) : Keeps H (upd H a o') := by
  refine ⟨fun b xs q => ?_, fun b z u q => ?_⟩
  · by_cases hb : b = a
    · subst hb; rw [e] at q; cases q; exact s.elim
    · rw [upd_ne hb]; exact q
  · by_cases hb : b = a
    · subst hb; rw [e] at q; cases q; exact s.elim
    · rw [upd_ne hb]; exact q
theorem SqT.keep {K : PySem.W.Frag} {H H' : Hp} {a : Addr} {xs : List V} (k : Keeps H H') (h : SqT K H a xs) : SqT K H' a xs := by
  rcases h with (h | ⟨o, h⟩) | h
  · exact .inl (.inl (k.1 _ _ h))
  · exact .inl (.inr ⟨o, k.2 _ _ _ h⟩)
  · exact .inr h
theorem SqF.keep {K : PySem.W.Frag} {H H' : Hp} {a : Addr} {xs : List V} (k : Keeps H H') (h : SqF K H a xs) : SqF K H' a xs := by
  rcases h with ⟨o, h⟩ | h
  · exact .inl ⟨o, k.2 _ _ _ h⟩
  · exact .inr h
section
variable {K : PySem.W.Frag} {H H' : Hp}
mutual
theorem RD.keep (k : Keeps H H') : ∀ (d : D) (v : V), RD K H d v → RD K H' d v
  | .non, _, h => h
  | .bl _, _, h => h
  | .int _, _, h => h
  | .str _, _, h => h
  | .ref _, _, h => h
  | .ty _, _, h => h
  | .tup ds, _, ⟨a, vs, e, s, r⟩ => ⟨a, vs, e, SqT.keep k s, RDs.keep k ds vs r⟩
  | .rol ds, _, ⟨a, vs, e, s, r⟩ => ⟨a, vs, e, SqF.keep k s, RDs.keep k ds vs r⟩
theorem RDs.keep (k : Keeps H H') : ∀ (ds : List D) (vs : List V), RDs K H ds vs → RDs K H' ds vs
  | [], _, h => h
  | d :: ds, _, ⟨v, r, e, h1, h2⟩ => ⟨v, r, e, RD.keep k d v h1, RDs.keep k ds r h2⟩
end
theorem RDs.nil_ {vs : List V} (h : RDs K H [] vs) : vs = [] := h
theorem RDs.cons {d : D} {v : V} {ds : List D} {vs : List V} (h : RD K H d v) (t : RDs K H ds vs) : RDs K H (d :: ds) (v :: vs) := ⟨v, vs, rfl, h, t⟩
theorem RDs.length : ∀ {ds : List D} {vs : List V}, RDs K H ds vs → vs.length = ds.length
  | [], _, h => by rw [RDs.nil_ h]; rfl
  | d :: ds, _, ⟨v, r, e, h1, h2⟩ => by rw [e, List.length_cons, List.length_cons, RDs.length h2]
theorem RDs.append : ∀ {ds es : List D} {vs us : List V}, RDs K H ds vs → RDs K H es us → RDs K H (ds ++ es) (vs ++ us)
  | [], _, _, _, h, q => by rw [RDs.nil_ h]; exact q
  | d :: ds, _, _, _, ⟨v, r, e, h1, h2⟩, q => by rw [e]; exact ⟨v, r ++ _, rfl, h1, RDs.append h2 q⟩
theorem RDs.get : ∀ {ds : List D} {vs : List V} {i : Nat} {d : D}, RDs K H ds vs → ds[i]? = some d → ∃ v, vs[i]? = some v ∧ RD K H d v
  | [], _, _, _, _, e => by simp at e
  | d :: ds, _, 0, _, ⟨v, r, e, h1, h2⟩, q => by
    simp at q; subst q; subst e; exact ⟨v, rfl, h1⟩
  | d :: ds, _, i + 1, _, ⟨v, r, e, h1, h2⟩, q => by
    obtain ⟨u, a, b⟩ := RDs.get (i := i) h2 (by simpa using q)
    subst e
    exact ⟨u, by simpa using a, b⟩
theorem RDs.back : ∀ {ds : List D} {vs : List V} {i : Nat} {v : V}, RDs K H ds vs → vs[i]? = some v → ∃ d, ds[i]? = some d ∧ RD K H d v
  | [], _, _, _, h, e => by rw [RDs.nil_ h] at e; simp at e
  | d :: ds, _, 0, _, ⟨v, r, e, h1, h2⟩, q => by
    subst e; simp at q; subst q; exact ⟨d, rfl, h1⟩
  | d :: ds, _, i + 1, _, ⟨v, r, e, h1, h2⟩, q => by
    subst e
    obtain ⟨u, a, b⟩ := RDs.back (i := i) h2 (by simpa using q)
    exact ⟨u, by simpa using a, b⟩
theorem RDs.set {d : D} {v : V} (h : RD K H d v) : ∀ {ds : List D} {vs : List V} (i : Nat), RDs K H ds vs → RDs K H (ds.set i d) (vs.set i v)
  | [], _, _, q => by rw [RDs.nil_ q]; exact rfl
  | _ :: ds, _, 0, ⟨u, r, e, h1, h2⟩ => by subst e; exact ⟨v, r, rfl, h, h2⟩
  | _ :: ds, _, i + 1, ⟨u, r, e, h1, h2⟩ => by subst e; exact ⟨u, r.set i v, rfl, h1, RDs.set h i h2⟩
theorem RDs.take : ∀ {ds : List D} {vs : List V} (n : Nat), RDs K H ds vs → RDs K H (ds.take n) (vs.take n)
  | _, _, 0, _ => rfl
  | [], _, _ + 1, q => by rw [RDs.nil_ q]; exact rfl
  | d :: ds, _, n + 1, ⟨u, r, e, h1, h2⟩ => by subst e; exact ⟨u, r.take n, rfl, h1, RDs.take n h2⟩
theorem RDs.drop : ∀ {ds : List D} {vs : List V} (n : Nat), RDs K H ds vs → RDs K H (ds.drop n) (vs.drop n)
  | _, _, 0, q => q
  | [], _, _ + 1, q => by rw [RDs.nil_ q]; exact rfl
  | d :: ds, _, n + 1, ⟨u, r, e, h1, h2⟩ => by subst e; exact RDs.drop n h2
end

/-! ### keys of dicts -/
mutual
/-- what a key is, where it is one (flags are none: they would be numbers) -/
def keyOf : D → Option NestedKey
  | .non => some .none
  | .int i => some (.num i)
  | .str x => some (.text x)
  | .tup ds => (keysOf ds).map .tup
  | _ => none
def keysOf : List D → Option (List NestedKey)
  | [] => some []
  | d :: ds => (keyOf d).bind fun k => (keysOf ds).map fun ks => k :: ks
end
/-- the dict object at a with these entries -/
def isDict (w : World) (a : Addr) (xs : List (NestedKey × Value × Value)) : Heap → Prop := fun h =>
  ∃ o es ep, h.get? a = some o ∧ o.ExactDict ∧ o.data = .dict es ep ∧ es.toList = xs.map fun x => (⟨x.1.hash w, x.2.1, x.2.2⟩ : DictEntry)
/-- an entry as data -/
structure REnt (K : PySem.W.Frag) (H : Hp) (p : D × D) (x : NestedKey × Value × Value) : Prop where
  key : keyOf p.1 = some x.1
  deep : x.1.depth ≤ 7
  kv : ∃ v, RelV v x.2.1 ∧ RD K H p.1 v
  vv : ∃ v, RelV v x.2.2 ∧ RD K H p.2 v
theorem REnt.keep {K : PySem.W.Frag} {H H' : Hp} {p : D × D} {x : NestedKey × Value × Value} (k : Keeps H H') (r : REnt K H p x) : REnt K H' p x :=
  ⟨r.key, r.deep, let ⟨v, a, b⟩ := r.kv; ⟨v, a, RD.keep k _ _ b⟩, let ⟨v, a, b⟩ := r.vv; ⟨v, a, RD.keep k _ _ b⟩⟩
abbrev REnts (K : PySem.W.Frag) (H : Hp) : List (D × D) → List (NestedKey × Value × Value) → Prop := Paired (REnt K H)
abbrev RFs (K : PySem.W.Frag) (H : Hp) : List (Str × D) → List (Str × V) → Prop := Paired fun p q => p.1 = q.1 ∧ RD K H p.2 q.2

def RO (K : PySem.W.Frag) (w : World) (H : Hp) (a : Addr) : DO → Prop
  | .lst ds => ∃ vs, H a = some (.lst vs) ∧ RDs K H ds vs
  | .ins C fs => ∃ dx vfs, H a = some (.ins C dx vfs) ∧ RFs K H fs vfs
  | .dct kvs => ∃ xs, H a = some (.ext (isDict w a xs)) ∧ (a == sysModules) = false ∧ kvs.length ≤ sizeLine ∧ (xs.map (·.1)).Nodup ∧ REnts K H kvs xs

def RH (K : PySem.W.Frag) (w : World) (H : Hp) (h : DH) : Prop := ∀ a o, h a = some o → RO K w H a o
section
variable {K : PySem.W.Frag} {w : World} {H H' : Hp} {h h' : DH} {a b : Addr} {o : DO}
theorem RFs.keep (k : Keeps H H') {fs : List (Str × D)} {vs : List (Str × V)} (r : RFs K H fs vs) : RFs K H' fs vs := Paired.mapP r fun _ _ z => ⟨z.1, RD.keep k _ _ z.2⟩
theorem REnts.keep (k : Keeps H H') {fs : List (D × D)} {vs : List (NestedKey × Value × Value)} (r : REnts K H fs vs) : REnts K H' fs vs := Paired.mapP r fun _ _ z => z.keep k
theorem RO.keep (k : Keeps H H') (e : H' a = H a) (r : RO K w H a o) : RO K w H' a o := by
  cases o with
  | lst ds => obtain ⟨vs, h1, h2⟩ := r; exact ⟨vs, e.trans h1, RDs.keep k _ _ h2⟩
  | ins C fs => obtain ⟨dx, vs, h1, h2⟩ := r; exact ⟨dx, vs, e.trans h1, RFs.keep k h2⟩
  | dct kvs => obtain ⟨xs, h1, h2, h3, h4, h5⟩ := r; exact ⟨xs, e.trans h1, h2, h3, h4, h5.keep k⟩
theorem RO.some (r : RO K w H a o) : ∃ u, H a = some u ∧ Soft u := by
  cases o with
  | lst ds => obtain ⟨vs, h1, h2⟩ := r; exact ⟨_, h1, True.intro⟩
  | ins C fs => obtain ⟨dx, vs, h1, h2⟩ := r; exact ⟨_, h1, True.intro⟩
  | dct kvs => obtain ⟨xs, h1, h2, h3, h4, h5⟩ := r; exact ⟨_, h1, True.intro⟩
theorem RH.free (r : RH K w H h) (n : H a = none) : h a = none := by
  cases q : h a with
  | none => rfl
  | some o => obtain ⟨u, e, _⟩ := (r a o q).some; rw [n] at e; cases e
theorem RH.wr {u : HO} (r : RH K w H h) (k : Keeps H (upd H a u)) (n : RO K w (upd H a u) a o) : RH K w (upd H a u) (put h a o) := fun b ob e => by
  by_cases hb : b = a
  · subst hb; rw [put_same] at e; cases e; exact n
  · rw [put_ne hb] at e
    exact (r b ob e).keep k (upd_ne hb)
/-- an address that the data does not tell may change -/
theorem RH.hide {u : HO} (r : RH K w H h) (n : h a = none) (k : Keeps H (upd H a u)) : RH K w (upd H a u) h := fun b ob e =>
  (r b ob e).keep k (upd_ne (fun q => by rw [q, n] at e; cases e))
theorem RH.less (r : RH K w H h) (s : ∀ a o, h' a = some o → h a = some o) : RH K w H h' := fun a o e => r a o (s a o e)
end

/-- the frame's values -/
def RS (K : PySem.W.Frag) (H : Hp) (dσ : DSt) (σ : L2.St) : Prop := dσ.length = σ.length ∧ ∀ (i : Nat) d, dσ[i]? = some (some d) → ∃ v, σ[i]? = some (some v) ∧ RD K H d v
theorem RS.keep {K : PySem.W.Frag} {H H' : Hp} {dσ : DSt} {σ : L2.St} (k : Keeps H H') (r : RS K H dσ σ) : RS K H' dσ σ := ⟨r.1, fun i d e => let ⟨v, a, b⟩ := r.2 i d e; ⟨v, a, RD.keep k _ _ b⟩⟩
theorem RS.set {K : PySem.W.Frag} {H : Hp} {dσ : DSt} {σ : L2.St} {d : D} {v : V} (r : RS K H dσ σ) (i : Nat) (h : RD K H d v) : RS K H (dσ.set i (some d)) (σ.set i (some v)) := by
  refine ⟨by rw [List.length_set, List.length_set]; exact r.1, fun j e q => ?_⟩
  by_cases hj : i = j
  · subst hj
    by_cases hl : i < dσ.length
    · rw [List.getElem?_set_self hl] at q; cases q
      exact ⟨v, List.getElem?_set_self (by rw [← r.1]; exact hl), h⟩
    · rw [List.getElem?_eq_none (by simpa using hl)] at q; cases q
  · rw [List.getElem?_set_ne hj] at q
    rw [List.getElem?_set_ne hj]
    exact r.2 j e q
theorem RS.wipe1 {K : PySem.W.Frag} {H : Hp} {dσ : DSt} {σ : L2.St} (r : RS K H dσ σ) (i : Nat) : RS K H (dσ.set i none) (σ.set i none) := by
  refine ⟨by rw [List.length_set, List.length_set]; exact r.1, fun j e q => ?_⟩
  by_cases hj : i = j
  · subst hj
    by_cases hl : i < dσ.length
    · rw [List.getElem?_set_self hl] at q; cases q
    · rw [List.getElem?_eq_none (by simpa using hl)] at q; cases q
  · rw [List.getElem?_set_ne hj] at q
    rw [List.getElem?_set_ne hj]
    exact r.2 j e q

/-! ### the lifted readings -/
abbrev Fin (K : PySem.W.Frag) (w : World) (H : Hp) (P : DK) (Q : VK) : Prop := ∀ d h v H', P d h → Keeps H H' → RH K w H' h → RD K H' d v → Q v H'
def LE (K : PySem.W.Frag) (w : World) (t : DTE) : TE := fun σ H Q => ∃ dσ h P, RS K H dσ σ ∧ RH K w H h ∧ t dσ h P ∧ Fin K w H P Q
def LT (K : PySem.W.Frag) (w : World) (t : DTT) : TT := fun σ H Q => ∃ dσ h P, RS K H dσ σ ∧ RH K w H h ∧ t dσ h P ∧ ∀ b h' H', P b h' → Keeps H H' → RH K w H' h' → Q b H'
def LA (K : PySem.W.Frag) (w : World) (t : DTA) : TA := fun σ H Q => ∃ dσ h P, RS K H dσ σ ∧ RH K w H h ∧ t dσ h P ∧ ∀ ds h' vs H', P ds h' → Keeps H H' → RH K w H' h' → RDs K H' ds vs → Q vs H'
structure DE (X : Cx) (e : Expr) (t : DTE) : Prop where
  pe : PE X e (LE X.K X.w t)
structure DT (X : Cx) (e : Expr) (t : DTT) : Prop where
  pt : PT X e (LT X.K X.w t)
structure DA (X : Cx) (es : List Expr) (t : DTA) : Prop where
  pa : PA X es (LA X.K X.w t)
theorem peImp {X : Cx} {e : Expr} {t t' : TE} (h : PE X e t) (i : ∀ σ H Q, t' σ H Q → t σ H Q) : PE X e t' := ⟨fun pins s σ H Q I q => h.run pins s σ H Q I (i σ H Q q)⟩
theorem ptImp {X : Cx} {e : Expr} {t t' : TT} (h : PT X e t) (i : ∀ σ H Q, t' σ H Q → t σ H Q) : PT X e t' := ⟨fun pins s σ H Q I q => h.run pins s σ H Q I (i σ H Q q)⟩
theorem paImp {X : Cx} {e : List Expr} {t t' : TA} (h : PA X e t) (i : ∀ σ H Q, t' σ H Q → t σ H Q) : PA X e t' := ⟨fun pos pins s σ H Q I q => h.run pos pins s σ H Q I (i σ H Q q)⟩
theorem psImp {X : Cx} {e : Stmt} {t t' : TS} (h : PS X e t) (i : ∀ D σ H, t' D σ H → t D σ H) : PS X e t' := ⟨fun pins s σ H D I q => h.run pins s σ H D I (i D σ H q)⟩
theorem pssImp {X : Cx} {e : List Stmt} {t t' : TS} (h : PSs X e t) (i : ∀ D σ H, t' D σ H → t D σ H) : PSs X e t' := ⟨fun pins s σ H D I q => h.run pins s σ H D I (i D σ H q)⟩

/-! ### statements -/
structure DEnds where
  nx : DSt → DH → Prop
  rt : DK
  bk : DSt → DH → Prop := fun _ _ => False
  ct : DSt → DH → Prop := fun _ _ => False
abbrev DTS := DEnds → DSt → DH → Prop
abbrev FinS (K : PySem.W.Frag) (w : World) (H : Hp) (p : DSt → DH → Prop) (q : L2.St → Hp → Prop) : Prop := ∀ dσ h σ H', p dσ h → Keeps H H' → RH K w H' h → RS K H' dσ σ → q σ H'
structure Ends4 (K : PySem.W.Frag) (w : World) (H : Hp) (E : DEnds) (Q : Ends) : Prop where
  nx : FinS K w H E.nx Q.nx
  rt : Fin K w H E.rt Q.rt
  bk : FinS K w H E.bk Q.bk
  ct : FinS K w H E.ct Q.ct
def LS (K : PySem.W.Frag) (w : World) (t : DTS) : TS := fun Q σ H => ∃ dσ h E, RS K H dσ σ ∧ RH K w H h ∧ t E dσ h ∧ Ends4 K w H E Q
structure DS (X : Cx) (s : Stmt) (t : DTS) : Prop where
  ps : PS X s (LS X.K X.w t)
structure DSs (X : Cx) (s : List Stmt) (t : DTS) : Prop where
  pss : PSs X s (LS X.K X.w t)
section
variable {K : PySem.W.Frag} {w : World} {H H' : Hp}
theorem Fin.keep {P : DK} {Q : VK} (k : Keeps H H') (f : Fin K w H P Q) : Fin K w H' P Q := fun d h v H2 p k2 => f d h v H2 p (k.trans k2)
theorem FinS.keep {P : DSt → DH → Prop} {Q : L2.St → Hp → Prop} (k : Keeps H H') (f : FinS K w H P Q) : FinS K w H' P Q := fun d h v H2 p k2 => f d h v H2 p (k.trans k2)
theorem Ends4.keep {E : DEnds} {Q : Ends} (k : Keeps H H') (f : Ends4 K w H E Q) : Ends4 K w H' E Q := ⟨f.nx.keep k, f.rt.keep k, f.bk.keep k, f.ct.keep k⟩
end
end DL
/-! D2: expressions. -/
namespace DL
open PySem PySem.Spec PyProof.Rows L2

section
variable {X : Cx} {a b c e : Expr} {ta tb tc t : DTE} {pos : Pos}

/-! ### names, constants -/
def dVar (i : Nat) : DTE := fun σ h P => match σ[i]? with
  | some (some d) => P d h
  | _ => False
def dC (d : D) : DTE := fun _ h P => P d h
theorem de_var (i : Nat) {x : Str} (hN : X.N[i]? = some x := by rfl) (hv : Vis X.env.scope x := by first | exact Or.inl rfl | exact Or.inr (Or.inl rfl) | exact Or.inr (Or.inr rfl)) (hd : (x == ("__debug__" : Str)) = false := by decide)
    (hcd : (x == ("__classdict__" : Str)) = false := by decide) : DE X (.Name x pos) (dVar i) := by
  refine ⟨peImp (pe_var hN hv hd hcd) ?_⟩
  rintro σ H Q ⟨dσ, h, P, rs, rh, q, f⟩
  unfold dVar at q
  split at q
  · rename_i d e
    obtain ⟨v, e2, r⟩ := rs.2 i d e
    exact ⟨v, e2, f d h v H q (Keeps.refl _) rh r⟩
  · exact q.elim
theorem de_con {v : V} {d : D} (h : PE X e (tC v)) (r : ∀ H, RD X.K H d v) : DE X e (dC d) := by
  refine ⟨peImp h ?_⟩
  rintro σ H Q ⟨dσ, h, P, rs, rh, q, f⟩
  exact f d h v H q (Keeps.refl _) rh (r H)
theorem de_int {i j pos} : DE X (.Constant (.int i) j pos) (dC (.int i)) := de_con pe_int fun _ => rfl
theorem de_bl {i j pos} : DE X (.Constant (.bool i) j pos) (dC (.bl i)) := de_con pe_bl fun _ => rfl
theorem de_non {j pos} : DE X (.Constant .none j pos) (dC .non) := de_con pe_non fun _ => rfl
theorem de_str {x j pos} : DE X (.Constant (.str x) j pos) (dC (.str x)) := de_con pe_str fun _ => rfl
/-- a module's constant -/
theorem de_gInt {x : Str} {i : Int} {tk : Tok} (hg : Gl X x) (hm : X.mg x = some (.int i tk)) (hd : (x == ("__debug__" : Str)) = false := by decide) : DE X (.Name x pos) (dC (.int i)) := de_con (pe_glob (v := .int i) hg hm ⟨_, rfl⟩ hd) fun _ => rfl
theorem de_gStr {x s : Str} {tk : Tok} (hg : Gl X x) (hm : X.mg x = some (.str s tk)) (hd : (x == ("__debug__" : Str)) = false := by decide) : DE X (.Name x pos) (dC (.str s)) := de_con (pe_glob (v := .str s) hg hm ⟨_, rfl⟩ hd) fun _ => rfl
theorem de_gTy {x : Str} {n : String} (hg : Gl X x) (hm : X.mg x = none) (hv : bootBuiltins x = some (.type n)) (hn : x ≠ "__name__" := by decide) (hd : (x == ("__debug__" : Str)) = false := by decide) : DE X (.Name x pos) (dC (.ty n)) :=
  de_con (pe_bltn (v := .ty n) hg hm hv rfl hn hd) fun _ => rfl
theorem de_gRef {x : Str} {a : Addr} (hg : Gl X x) (hm : X.mg x = some (.ref a)) (hd : (x == ("__debug__" : Str)) = false := by decide) : DE X (.Name x pos) (dC (.ref a)) := de_con (pe_glob (v := .ref a) hg hm rfl hd) fun _ => rfl

/-! ### operations by values -/
abbrev DR2 := D → D → DH → DK → Prop
def LR (K : PySem.W.Frag) (w : World) (r : DR2) : R2 := fun x y H Q => ∃ dx dy h P, RD K H dx x ∧ RD K H dy y ∧ RH K w H h ∧ r dx dy h P ∧ Fin K w H P Q
def DOp (X : Cx) (f : Value → Value → Sem Value) (r : DR2) : Prop := OpR X f (LR X.K X.w r)
def dOp (r : DR2) (ta tb : DTE) : DTE := fun σ h P => ta σ h fun x h1 => tb σ h1 fun y h2 => r x y h2 P
/-- two readings in a row, lifted -/
theorem lift2 {K : PySem.W.Frag} {w : World} {r : DR2} {σ : L2.St} {H : Hp} {Q : VK} (q : LE K w (dOp r ta tb) σ H Q) : tOp (LR K w r) (LE K w ta) (LE K w tb) σ H Q := by
  obtain ⟨dσ, h, P, rs, rh, q, f⟩ := q
  refine ⟨dσ, h, _, rs, rh, q, fun x h1 v H1 q1 k1 rh1 rx => ?_⟩
  refine ⟨dσ, h1, _, rs.keep k1, rh1, q1, fun y h2 u H2 q2 k2 rh2 ry => ?_⟩
  exact ⟨x, y, h2, P, RD.keep k2 _ _ rx, ry, rh2, q2, f.keep (k1.trans k2)⟩
theorem de_op {op : Operator} {r : DR2} (ho : DOp X (binaryOp op) r) (ha : DE X a ta) (hb : DE X b tb) : DE X (.BinOp a op b pos) (dOp r ta tb) :=
  ⟨peImp (pe_op ho ha.pe hb.pe) fun _ _ _ q => lift2 q⟩
theorem de_cmp {op : CmpOp} {r : DR2} (ho : DOp X (compareOp op) r) (ha : DE X a ta) (hb : DE X b tb) (hm : behindInMarks op b = false) : DE X (.Compare a [op] [b] pos) (dOp r ta tb) :=
  ⟨peImp (pe_cmpR ho ha.pe hb.pe hm) fun _ _ _ q => lift2 q⟩
/-- the value is a flag -/
def asB (k : Bool → DH → Prop) : DK := fun d h => match d with
  | .bl b => k b h
  | _ => False
theorem asB_of {k : Bool → DH → Prop} {d : D} {h : DH} (q : asB k d h) : ∃ b, d = .bl b ∧ k b h := by
  unfold asB at q
  split at q
  · exact ⟨_, rfl, q⟩
  · exact q.elim
def dTest (t : DTE) : DTT := fun σ h P => t σ h (asB P)
theorem dt_cmp {op : CmpOp} {r : DR2} (ho : DOp X (compareOp op) r) (ha : DE X a ta) (hb : DE X b tb) (hm : behindInMarks op b = false) : DT X (.Compare a [op] [b] pos) (dTest (dOp r ta tb)) := by
  refine ⟨ptImp (pt_cmpR ho ha.pe hb.pe hm) ?_⟩
  rintro σ H Q ⟨dσ, h, P, rs, rh, q, f⟩
  refine lift2 ⟨dσ, h, _, rs, rh, q, fun d h' v H' p k rh' r' => ?_⟩
  obtain ⟨b, rfl, p'⟩ := asB_of p
  exact ⟨b, r', f b h' H' p' k rh'⟩
theorem dt_val (he : DE X e t) (hs : ∀ whole, isTrue e X.env whole = (do let v ← whole; standAt e.pos; holding [v] (truthy v)) := by intro _; rfl) : DT X e (dTest t) := by
  refine ⟨ptImp (pt_val he.pe hs) ?_⟩
  rintro σ H Q ⟨dσ, h, P, rs, rh, q, f⟩
  refine ⟨dσ, h, _, rs, rh, q, fun d h' v H' p k rh' r' => ?_⟩
  obtain ⟨b, rfl, p'⟩ := asB_of p
  exact ⟨b, r', f b h' H' p' k rh'⟩
/-! chains -/
def dChain (r r' : DR2) (ta tb tc : DTE) : DTE := fun σ h P => ta σ h fun x h1 => tb σ h1 fun y h2 => r x y h2 (asB fun k h3 => if k = true then tc σ h3 (fun z h4 => r' y z h4 P) else P (.bl false) h3)
theorem liftC {K : PySem.W.Frag} {w : World} {r r' : DR2} {σ : L2.St} {H : Hp} {Q : VK} (q : LE K w (dChain r r' ta tb tc) σ H Q) : tChain (LR K w r) (LR K w r') (LE K w ta) (LE K w tb) (LE K w tc) σ H Q := by
  obtain ⟨dσ, h, P, rs, rh, q, f⟩ := q
  refine ⟨dσ, h, _, rs, rh, q, fun x h1 v H1 q1 k1 rh1 rx => ?_⟩
  refine ⟨dσ, h1, _, rs.keep k1, rh1, q1, fun y h2 u H2 q2 k2 rh2 ry => ?_⟩
  refine ⟨x, y, h2, _, RD.keep k2 _ _ rx, ry, rh2, q2, fun z h3 zv H3 q3 k3 rh3 rz => ?_⟩
  obtain ⟨k, rfl, q4⟩ := asB_of q3
  refine ⟨k, rz, ?_⟩
  cases k with
  | true =>
    rw [if_pos rfl]
    rw [if_pos rfl] at q4
    refine ⟨dσ, h3, _, rs.keep (k1.trans (k2.trans k3)), rh3, q4, fun z h4 zv H4 q5 k4 rh4 rz => ?_⟩
    exact ⟨y, z, h4, P, RD.keep (k3.trans k4) _ _ ry, rz, rh4, q5, f.keep (k1.trans (k2.trans (k3.trans k4)))⟩
  | false =>
    rw [if_neg Bool.false_ne_true]
    rw [if_neg Bool.false_ne_true] at q4
    exact f _ _ _ _ q4 (k1.trans (k2.trans k3)) rh3 rfl
theorem de_chain {op op' : CmpOp} {r r' : DR2} (ho : DOp X (compareOp op) r) (ho' : DOp X (compareOp op') r') (ha : DE X a ta) (hb : DE X b tb) (hc : DE X c tc) (hm : lastMarks [op, op'] [b, c] = false := by with_unfolding_all rfl) :
    DE X (.Compare a [op, op'] [b, c] pos) (dChain r r' ta tb tc) := ⟨peImp (pe_chain ho ho' ha.pe hb.pe hc.pe hm) fun _ _ _ q => liftC q⟩
theorem dt_chain {op op' : CmpOp} {r r' : DR2} (ho : DOp X (compareOp op) r) (ho' : DOp X (compareOp op') r') (ha : DE X a ta) (hb : DE X b tb) (hc : DE X c tc) (hm : lastMarks [op, op'] [b, c] = false := by with_unfolding_all rfl) :
    DT X (.Compare a [op, op'] [b, c] pos) (dTest (dChain r r' ta tb tc)) := by
  refine ⟨ptImp (pt_chain ho ho' ha.pe hb.pe hc.pe hm) ?_⟩
  rintro σ H Q ⟨dσ, h, P, rs, rh, q, f⟩
  refine liftC ⟨dσ, h, _, rs, rh, q, fun d h' v H' p k rh' r' => ?_⟩
  obtain ⟨b, rfl, p'⟩ := asB_of p
  exact ⟨b, r', f b h' H' p' k rh'⟩

/-! ### and, or, not, if else -/
structure DW (X : Cx) (e : Expr) (t : DTT) : Prop where
  pw : PW X e (LT X.K X.w t)
variable {tA tB : DTT} {rest : List Expr}
def dAnd (t u : DTT) : DTT := fun σ h P => t σ h fun c h1 => if c = true then u σ h1 P else P false h1
def dOr (t u : DTT) : DTT := fun σ h P => t σ h fun c h1 => if c = true then P true h1 else u σ h1 P
def dNot (t : DTT) : DTT := fun σ h P => t σ h fun c h1 => P (!c) h1
theorem DW.dt (h : DW X e tA) : DT X e tA := ⟨h.pw.pt⟩
theorem dw_and1 (ha : DT X a tA) : DW X (.BoolOp .And [a] pos) tA := ⟨pw_and1 ha.pt⟩
theorem dw_or1 (ha : DT X a tA) : DW X (.BoolOp .Or [a] pos) tA := ⟨pw_or1 ha.pt⟩
theorem dw_and (ha : DT X a tA) (hb : DW X (.BoolOp .And (b :: rest) pos) tB) : DW X (.BoolOp .And (a :: b :: rest) pos) (dAnd tA tB) := by
  refine ⟨⟨fun wh pins s σ H Q I q => (pw_and ha.pt hb.pw).run wh pins s σ H Q I ?_⟩⟩
  obtain ⟨dσ, h, P, rs, rh, q, f⟩ := q
  refine ⟨dσ, h, _, rs, rh, q, fun c h1 H1 q1 k1 rh1 => ?_⟩
  cases c with
  | true =>
    rw [if_pos rfl] at q1 ⊢
    exact ⟨dσ, h1, P, rs.keep k1, rh1, q1, fun b h2 H2 p k2 r2 => f b h2 H2 p (k1.trans k2) r2⟩
  | false =>
    rw [if_neg Bool.false_ne_true] at q1 ⊢
    exact f _ _ _ q1 k1 rh1
theorem dw_or (ha : DT X a tA) (hb : DW X (.BoolOp .Or (b :: rest) pos) tB) : DW X (.BoolOp .Or (a :: b :: rest) pos) (dOr tA tB) := by
  refine ⟨⟨fun wh pins s σ H Q I q => (pw_or ha.pt hb.pw).run wh pins s σ H Q I ?_⟩⟩
  obtain ⟨dσ, h, P, rs, rh, q, f⟩ := q
  refine ⟨dσ, h, _, rs, rh, q, fun c h1 H1 q1 k1 rh1 => ?_⟩
  cases c with
  | true =>
    rw [if_pos rfl] at q1 ⊢
    exact f _ _ _ q1 k1 rh1
  | false =>
    rw [if_neg Bool.false_ne_true] at q1 ⊢
    exact ⟨dσ, h1, P, rs.keep k1, rh1, q1, fun b h2 H2 p k2 r2 => f b h2 H2 p (k1.trans k2) r2⟩
theorem dt_not (ha : DT X a tA) : DT X (.UnaryOp .Not a pos) (dNot tA) := by
  refine ⟨ptImp (pt_not ha.pt) ?_⟩
  rintro σ H Q ⟨dσ, h, P, rs, rh, q, f⟩
  exact ⟨dσ, h, _, rs, rh, q, fun c h1 H1 q1 k1 rh1 => f _ _ _ q1 k1 rh1⟩
def dAndV (ta tb : DTE) : DTE := fun σ h P => ta σ h (asB fun c h1 => if c = true then tb σ h1 P else P (.bl false) h1)
def dOrV (ta tb : DTE) : DTE := fun σ h P => ta σ h (asB fun c h1 => if c = true then P (.bl true) h1 else tb σ h1 P)
def dNotV (ta : DTE) : DTE := fun σ h P => ta σ h (asB fun c h1 => P (.bl (!c)) h1)
theorem de_one {op} (h : DE X a t) : DE X (.BoolOp op [a] pos) t := ⟨pe_one h.pe⟩
theorem de_and (ha : DE X a ta) (hb : DE X (.BoolOp .And (b :: rest) pos) tb) : DE X (.BoolOp .And (a :: b :: rest) pos) (dAndV ta tb) := by
  refine ⟨peImp (pe_and ha.pe hb.pe) ?_⟩
  rintro σ H Q ⟨dσ, h, P, rs, rh, q, f⟩
  refine ⟨dσ, h, _, rs, rh, q, fun d h1 v H1 q1 k1 rh1 r1 => ?_⟩
  obtain ⟨c, rfl, q2⟩ := asB_of q1
  refine ⟨c, r1, ?_⟩
  cases c with
  | true => rw [if_pos rfl] at q2 ⊢; exact ⟨dσ, h1, P, rs.keep k1, rh1, q2, f.keep k1⟩
  | false => rw [if_neg Bool.false_ne_true] at q2 ⊢; exact f _ _ _ _ q2 k1 rh1 rfl
theorem de_or (ha : DE X a ta) (hb : DE X (.BoolOp .Or (b :: rest) pos) tb) : DE X (.BoolOp .Or (a :: b :: rest) pos) (dOrV ta tb) := by
  refine ⟨peImp (pe_or ha.pe hb.pe) ?_⟩
  rintro σ H Q ⟨dσ, h, P, rs, rh, q, f⟩
  refine ⟨dσ, h, _, rs, rh, q, fun d h1 v H1 q1 k1 rh1 r1 => ?_⟩
  obtain ⟨c, rfl, q2⟩ := asB_of q1
  refine ⟨c, r1, ?_⟩
  cases c with
  | true => rw [if_pos rfl] at q2 ⊢; exact f _ _ _ _ q2 k1 rh1 rfl
  | false => rw [if_neg Bool.false_ne_true] at q2 ⊢; exact ⟨dσ, h1, P, rs.keep k1, rh1, q2, f.keep k1⟩
theorem de_not (ha : DE X a ta) : DE X (.UnaryOp .Not a pos) (dNotV ta) := by
  refine ⟨peImp (pe_not ha.pe) ?_⟩
  rintro σ H Q ⟨dσ, h, P, rs, rh, q, f⟩
  refine ⟨dσ, h, _, rs, rh, q, fun d h1 v H1 q1 k1 rh1 r1 => ?_⟩
  obtain ⟨c, rfl, q2⟩ := asB_of q1
  exact ⟨c, r1, f _ _ _ _ q2 k1 rh1 rfl⟩
def dIf (t : DTT) (ta tb : DTE) : DTE := fun σ h P => t σ h fun c h1 => if c = true then ta σ h1 P else tb σ h1 P
theorem de_ifExp (hc : DT X c tA) (ha : DE X a ta) (hb : DE X b tb) : DE X (.IfExp c a b pos) (dIf tA ta tb) := by
  refine ⟨peImp (pe_ifExp hc.pt ha.pe hb.pe) ?_⟩
  rintro σ H Q ⟨dσ, h, P, rs, rh, q, f⟩
  refine ⟨dσ, h, _, rs, rh, q, fun c h1 H1 q1 k1 rh1 => ?_⟩
  cases c with
  | true => rw [if_pos rfl] at q1 ⊢; exact ⟨dσ, h1, P, rs.keep k1, rh1, q1, f.keep k1⟩
  | false => rw [if_neg Bool.false_ne_true] at q1 ⊢; exact ⟨dσ, h1, P, rs.keep k1, rh1, q1, f.keep k1⟩
end
end DL
/-! D3: operators, subscripts, slices, calls of built-ins, methods: by data. -/
namespace DL
open PySem PySem.Spec PyProof.Rows L2

def lstAt (h : DH) (a : Addr) (k : List D → Prop) : Prop := match h a with
  | some (.lst xs) => k xs
  | _ => False
theorem lstAt_of {h : DH} {a : Addr} {k : List D → Prop} {xs : List D} (e : h a = some (.lst xs)) (q : k xs) : lstAt h a k := by unfold lstAt; rw [e]; exact q
theorem of_lstAt {h : DH} {a : Addr} {k : List D → Prop} (q : lstAt h a k) : ∃ xs, h a = some (.lst xs) ∧ k xs := by
  unfold lstAt at q
  split at q
  · rename_i xs e; exact ⟨xs, e, q⟩
  · exact q.elim
def insAt (h : DH) (a : Addr) (k : Addr → List (Str × D) → Prop) : Prop := match h a with
  | some (.ins C fs) => k C fs
  | _ => False
theorem insAt_of {h : DH} {a : Addr} {k : Addr → List (Str × D) → Prop} {C fs} (e : h a = some (.ins C fs)) (q : k C fs) : insAt h a k := by unfold insAt; rw [e]; exact q
theorem of_insAt {h : DH} {a : Addr} {k : Addr → List (Str × D) → Prop} (q : insAt h a k) : ∃ C fs, h a = some (.ins C fs) ∧ k C fs := by
  unfold insAt at q
  split at q
  · rename_i C fs e; exact ⟨C, fs, e, q⟩
  · exact q.elim
def dctAt (h : DH) (a : Addr) (k : List (D × D) → Prop) : Prop := match h a with
  | some (.dct xs) => k xs
  | _ => False
theorem dctAt_of {h : DH} {a : Addr} {k : List (D × D) → Prop} {xs : List (D × D)} (e : h a = some (.dct xs)) (q : k xs) : dctAt h a k := by unfold dctAt; rw [e]; exact q
theorem of_dctAt {h : DH} {a : Addr} {k : List (D × D) → Prop} (q : dctAt h a k) : ∃ xs, h a = some (.dct xs) ∧ k xs := by
  unfold dctAt at q
  split at q
  · rename_i xs e; exact ⟨xs, e, q⟩
  · exact q.elim
/-- a new thing -/
def fresh (h : DH) (o : DO) (k : Addr → DH → Prop) : Prop := ∀ p, h p = none → k p (put h p o)

section
variable {K : PySem.W.Frag} {w : World} {H : Hp} {h : DH} {a : Addr}
theorem RH.lst {ds : List D} (r : RH K w H h) (e : h a = some (.lst ds)) : ∃ vs, H a = some (.lst vs) ∧ RDs K H ds vs := r a _ e
/-- a list is new -/
theorem RH.newL {p : Addr} {ds : List D} {vs : List V} (r : RH K w H h) (n : H p = none) (q : RDs K H ds vs) : Keeps H (upd H p (.lst vs)) ∧ RH K w (upd H p (.lst vs)) (put h p (.lst ds)) :=
  ⟨Keeps.new n, r.wr (Keeps.new n) ⟨vs, upd_same, RDs.keep (Keeps.new n) _ _ q⟩⟩
theorem RH.newT {p : Addr} {vs : List V} (r : RH K w H h) (n : H p = none) : Keeps H (upd H p (.tup vs)) ∧ RH K w (upd H p (.tup vs)) h := ⟨Keeps.new n, r.hide (r.free n) (Keeps.new n)⟩
theorem RD.newT {p : Addr} {ds : List D} {vs : List V} (n : H p = none) (q : RDs K H ds vs) : RD K (upd H p (.tup vs)) (.tup ds) (.ref p) := ⟨p, vs, rfl, .inl (.inl upd_same), RDs.keep (Keeps.new n) _ _ q⟩
/-- a list is written -/
theorem RH.setL {ds' : List D} {vs vs' : List V} (r : RH K w H h) (e : H a = some (.lst vs)) (q : RDs K H ds' vs') : Keeps H (upd H a (.lst vs')) ∧ RH K w (upd H a (.lst vs')) (put h a (.lst ds')) :=
  have k := Keeps.over (o' := .lst vs') e True.intro
  ⟨k, r.wr k ⟨vs', upd_same, RDs.keep k _ _ q⟩⟩
theorem RDs.rep {ds : List D} {vs : List V} (q : RDs K H ds vs) : ∀ n : Nat, RDs K H (List.replicate n ds).flatten (List.replicate n vs).flatten
  | 0 => rfl
  | n + 1 => by
    rw [List.replicate_succ, List.replicate_succ, List.flatten_cons, List.flatten_cons]
    exact RDs.append q (RDs.rep q n)
theorem RDs.eq_nil {ds : List D} {vs : List V} (q : RDs K H ds vs) : vs = [] ↔ ds = [] := by
  rw [← List.length_eq_zero_iff, ← List.length_eq_zero_iff, q.length]
end

section
variable {X : Cx}
/-! ### + - * // % ** -/
def dAdd : DR2
  | .int i, .int j, h, P => P (.int (i + j)) h
  | .str i, .str j, h, P => i.length + j.length ≤ sizeLine ∧ P (.str (i ++ j)) h
  | .tup a, .tup b, h, P => a.length + b.length ≤ sizeLine ∧ P (.tup (a ++ b)) h
  | .ref a, .ref b, h, P => lstAt h a fun xs => lstAt h b fun ys => xs.length + ys.length ≤ sizeLine ∧ fresh h (.lst (xs ++ ys)) fun p h' => P (.ref p) h'
  | _, _, _, _ => False
theorem op_dAdd : DOp X (binaryOp .Add) dAdd := by
  intro pins s σ H x y v u Q I rx ry q
  obtain ⟨dx, dy, h, P, r1, r2, rh, q, f⟩ := q
  unfold dAdd at q
  split at q
  · cases r1; cases r2
    exact op_add pins s σ H _ _ v u Q I rx ry ⟨_, _, rfl, rfl, f _ _ _ _ q (Keeps.refl _) rh rfl⟩
  · cases r1; cases r2
    exact op_add_str pins s σ H _ _ v u Q I rx ry ⟨_, _, rfl, rfl, q.1, f _ _ _ _ q.2 (Keeps.refl _) rh rfl⟩
  · obtain ⟨a, vs, rfl, s1, t1⟩ := r1
    obtain ⟨b, us, rfl, s2, t2⟩ := r2
    refine op_catA pins s σ H _ _ v u Q I rx ry ⟨a, b, vs, us, rfl, rfl, s1, s2, by rw [t1.length, t2.length]; exact q.1, fun e => ?_, fun _ e => ?_, fun _ _ p np => ?_⟩
    · refine f _ _ _ _ q.2 (Keeps.refl _) rh ⟨b, us, rfl, s2, ?_⟩
      have := t1.append t2
      rw [e] at this
      exact this
    · refine f _ _ _ _ q.2 (Keeps.refl _) rh ⟨a, vs, rfl, s1, ?_⟩
      have := t1.append t2
      rw [e, List.append_nil] at this
      exact this
    · have n := RH.newT (vs := vs ++ us) rh np
      exact f _ _ _ _ q.2 n.1 n.2 (RD.newT np (t1.append t2))
  · cases r1; cases r2
    obtain ⟨xs, e1, q⟩ := of_lstAt q
    obtain ⟨ys, e2, q⟩ := of_lstAt q
    obtain ⟨vs, g1, t1⟩ := rh.lst e1
    obtain ⟨us, g2, t2⟩ := rh.lst e2
    refine op_cat pins s σ H _ _ v u Q I rx ry ⟨_, _, vs, us, rfl, rfl, g1, g2, by rw [t1.length, t2.length]; exact q.1, fun p np => ?_⟩
    have n := RH.newL rh np (t1.append t2)
    exact f _ _ _ _ (q.2 p (rh.free np)) n.1 n.2 rfl
  · exact q.elim
def dI2 (C : Int → Int → Prop) (g : Int → Int → D) : DR2
  | .int i, .int j, h, P => C i j ∧ P (g i j) h
  | _, _, _, _ => False
theorem op_dI {f : Value → Value → Sem Value} {C : Int → Int → Prop} {g : Int → Int → Int} (ho : OpR X f (rI C fun i j => .int (g i j))) : DOp X f (dI2 C fun i j => .int (g i j)) := by
  intro pins s σ H x y v u Q I rx ry q
  obtain ⟨dx, dy, h, P, r1, r2, rh, q, fn⟩ := q
  unfold dI2 at q
  split at q
  · cases r1; cases r2
    exact ho pins s σ H _ _ v u Q I rx ry ⟨_, _, rfl, rfl, q.1, fn _ _ _ _ q.2 (Keeps.refl _) rh rfl⟩
  · exact q.elim
abbrev CTrue : Int → Int → Prop := fun _ _ => True
theorem op_dI0 {f : Value → Value → Sem Value} {g : Int → Int → Int} (ho : OpR X f (rI0 fun i j => .int (g i j))) : DOp X f (dI2 CTrue fun i j => .int (g i j)) := by
  intro pins s σ H x y v u Q I rx ry q
  obtain ⟨dx, dy, h, P, r1, r2, rh, q, fn⟩ := q
  unfold dI2 at q
  split at q
  · cases r1; cases r2
    exact ho pins s σ H _ _ v u Q I rx ry ⟨_, _, rfl, rfl, fn _ _ _ _ q.2 (Keeps.refl _) rh rfl⟩
  · exact q.elim
abbrev dSub : DR2 := dI2 CTrue fun i j => .int (i - j)
abbrev dFdiv : DR2 := dI2 CDiv fun i j => .int (i / j)
abbrev dMod : DR2 := dI2 (fun _ j => 0 < j) fun i j => .int (i % j)
abbrev dPow : DR2 := dI2 CPow fun i j => .int (i ^ j.toNat)
theorem op_dSub : DOp X (binaryOp .Sub) dSub := op_dI0 op_sub
theorem op_dFdiv : DOp X (binaryOp .FloorDiv) dFdiv := op_dI op_fdiv
theorem op_dMod : DOp X (binaryOp .Mod) dMod := op_dI op_mod
theorem op_dPow : DOp X (binaryOp .Pow) dPow := op_dI op_pow
def dMul : DR2
  | .int i, .int j, h, P => CMul i j ∧ P (.int (i * j)) h
  | .tup xs, .int k, h, P => (xs ≠ [] ∧ 2 ≤ k ∧ k ≤ 1000 ∧ xs.length ≤ 1000) ∧ P (.tup (List.replicate k.toNat xs).flatten) h
  | .ref a, .int k, h, P => lstAt h a fun xs => (-(2 ^ 63) ≤ k ∧ k < 2 ^ 63 ∧ xs.length * k.toNat ≤ sizeLine) ∧ fresh h (.lst (List.replicate k.toNat xs).flatten) fun p h' => P (.ref p) h'
  | _, _, _, _ => False
theorem op_dMul : DOp X (binaryOp .Mult) dMul := by
  intro pins s σ H x y v u Q I rx ry q
  obtain ⟨dx, dy, h, P, r1, r2, rh, q, f⟩ := q
  unfold dMul at q
  split at q
  · cases r1; cases r2
    exact op_mul pins s σ H _ _ v u Q I rx ry ⟨_, _, rfl, rfl, q.1, f _ _ _ _ q.2 (Keeps.refl _) rh rfl⟩
  · obtain ⟨a, vs, rfl, s1, t1⟩ := r1
    cases r2
    obtain ⟨⟨c1, c2, c3, c4⟩, q⟩ := q
    rename_i k
    refine op_repT pins s σ H _ _ v u Q I rx ry ⟨a, k, vs, rfl, rfl, s1, fun e => c1 (t1.eq_nil.mp e), c2, c3, by rw [t1.length]; exact c4, fun p np => ?_⟩
    have n := RH.newT (vs := (List.replicate k.toNat vs).flatten) rh np
    exact f _ _ _ _ q n.1 n.2 (RD.newT np (t1.rep _))
  · cases r1; cases r2
    obtain ⟨xs, e1, ⟨c1, c2, c3⟩, q⟩ := of_lstAt q
    obtain ⟨vs, g1, t1⟩ := rh.lst e1
    refine op_rep pins s σ H _ _ v u Q I rx ry ⟨_, _, vs, rfl, rfl, g1, c1, c2, by rw [t1.length]; exact c3, fun p np => ?_⟩
    rename_i k _
    have n := RH.newL rh np (t1.rep k.toNat)
    exact f _ _ _ _ (q p (rh.free np)) n.1 n.2 rfl
  · exact q.elim
def dNeg : D → DH → DK → Prop
  | .int i, h, P => P (.int (-i)) h
  | _, _, _ => False
def dUn (r : D → DH → DK → Prop) (t : DTE) : DTE := fun σ h P => t σ h fun x h1 => r x h1 P
theorem de_neg {a : Expr} {ta : DTE} {pos : Pos} (ha : DE X a ta) : DE X (.UnaryOp .USub a pos) (dUn dNeg ta) := by
  refine ⟨peImp (pe_un un_neg ha.pe) ?_⟩
  rintro σ H Q ⟨dσ, h, P, rs, rh, q, f⟩
  refine ⟨dσ, h, _, rs, rh, q, fun d h1 v H1 q1 k1 rh1 r1 => ?_⟩
  unfold dNeg at q1
  split at q1
  · cases r1; exact ⟨_, rfl, f _ _ _ _ q1 k1 rh1 rfl⟩
  · exact q1.elim

/-! ### comparisons -/
def eqS : D → D → Option Bool
  | .int i, .int j => some (decide (i = j))
  | .str i, .str j => some (decide (i = j))
  | .bl i, .bl j => some (decide (i = j))
  | .non, .non => some true
  | .non, .int _ => some false
  | .int _, .non => some false
  | .non, .str _ => some false
  | .str _, .non => some false
  | .non, .bl _ => some false
  | .bl _, .non => some false
  | .int _, .str _ => some false
  | .str _, .int _ => some false
  | .bl _, .str _ => some false
  | .str _, .bl _ => some false
  | _, _ => none
def vS : D → Option V
  | .int i => some (.int i)
  | .str i => some (.str i)
  | .bl i => some (.bl i)
  | .non => some .non
  | _ => none
theorem eqS_ok {x y : D} {b : Bool} (h : eqS x y = some b) : ∃ v u, vS x = some v ∧ vS y = some u ∧ scal v u = true ∧ decide (v = u) = b := by
  unfold eqS at h
  split at h <;> first
    | (cases h; exact ⟨_, _, rfl, rfl, rfl, by simp⟩)
    | cases h
theorem vS_ok {K : PySem.W.Frag} {H : Hp} {x : D} {v w : V} (h : vS x = some v) (r : RD K H x w) : w = v := by
  unfold vS at h
  split at h <;> first
    | (cases h; exact r)
    | cases h
def dEq : DR2 := fun x y h P => match eqS x y with
  | some b => P (.bl b) h
  | none => False
def dNe : DR2 := fun x y h P => match eqS x y with
  | some b => P (.bl (!b)) h
  | none => False
theorem op_dEq : DOp X (compareOp .Eq) dEq := by
  intro pins s σ H x y v u Q I rx ry q
  obtain ⟨dx, dy, h, P, r1, r2, rh, q, f⟩ := q
  unfold dEq at q
  split at q
  · rename_i b e
    obtain ⟨v', u', e1, e2, sc, ed⟩ := eqS_ok e
    rw [vS_ok e1 r1] at rx; rw [vS_ok e2 r2] at ry
    exact op_eq pins s σ H _ _ v u Q I rx ry ⟨sc, by rw [ed]; exact f _ _ _ _ q (Keeps.refl _) rh rfl⟩
  · exact q.elim
theorem op_dNe : DOp X (compareOp .NotEq) dNe := by
  intro pins s σ H x y v u Q I rx ry q
  obtain ⟨dx, dy, h, P, r1, r2, rh, q, f⟩ := q
  unfold dNe at q
  split at q
  · rename_i b e
    obtain ⟨v', u', e1, e2, sc, ed⟩ := eqS_ok e
    rw [vS_ok e1 r1] at rx; rw [vS_ok e2 r2] at ry
    exact op_ne pins s σ H _ _ v u Q I rx ry ⟨sc, by rw [ed]; exact f _ _ _ _ q (Keeps.refl _) rh rfl⟩
  · exact q.elim
def dB2 (g : Int → Int → Bool) : DR2
  | .int i, .int j, h, P => P (.bl (g i j)) h
  | _, _, _, _ => False
theorem op_dB {f : Value → Value → Sem Value} {g : Int → Int → Bool} (ho : OpR X f (rI0 fun i j => .bl (g i j))) : DOp X f (dB2 g) := by
  intro pins s σ H x y v u Q I rx ry q
  obtain ⟨dx, dy, h, P, r1, r2, rh, q, fn⟩ := q
  unfold dB2 at q
  split at q
  · cases r1; cases r2
    exact ho pins s σ H _ _ v u Q I rx ry ⟨_, _, rfl, rfl, fn _ _ _ _ q (Keeps.refl _) rh rfl⟩
  · exact q.elim
abbrev dLt : DR2 := dB2 fun i j => decide (i < j)
abbrev dLe : DR2 := dB2 fun i j => decide (i ≤ j)
abbrev dGt : DR2 := dB2 fun i j => decide (j < i)
abbrev dGe : DR2 := dB2 fun i j => decide (j ≤ i)
theorem op_dLt : DOp X (compareOp .Lt) dLt := op_dB op_lt
theorem op_dLe : DOp X (compareOp .LtE) dLe := op_dB op_le
theorem op_dGt : DOp X (compareOp .Gt) dGt := op_dB op_gt
theorem op_dGe : DOp X (compareOp .GtE) dGe := op_dB op_ge
/-- is None -/
def isN : D → Bool
  | .non => true
  | _ => false
theorem isN_ok {K : PySem.W.Frag} {H : Hp} {x : D} {v : V} (r : RD K H x v) : decide (v = .non) = isN x := by
  cases x with
  | non => cases r; rfl
  | bl _ => cases r; rfl
  | int _ => cases r; rfl
  | str _ => cases r; rfl
  | ref _ => cases r; rfl
  | ty _ => cases r; rfl
  | tup _ => obtain ⟨a, vs, rfl, _⟩ := r; rfl
  | rol _ => obtain ⟨a, vs, rfl, _⟩ := r; rfl
def dIs : DR2
  | x, .non, h, P => P (.bl (isN x)) h
  | _, _, _, _ => False
def dIsNot : DR2
  | x, .non, h, P => P (.bl (!isN x)) h
  | _, _, _, _ => False
theorem op_dIs : DOp X (compareOp .Is) dIs := by
  intro pins s σ H x y v u Q I rx ry q
  obtain ⟨dx, dy, h, P, r1, r2, rh, q, fn⟩ := q
  unfold dIs at q
  split at q
  · cases r2
    exact op_isN pins s σ H _ _ v u Q I rx ry ⟨rfl, fn _ _ _ _ q (Keeps.refl _) rh (by rw [isN_ok r1]; rfl)⟩
  · exact q.elim
theorem op_dIsNot : DOp X (compareOp .IsNot) dIsNot := by
  intro pins s σ H x y v u Q I rx ry q
  obtain ⟨dx, dy, h, P, r1, r2, rh, q, fn⟩ := q
  unfold dIsNot at q
  split at q
  · cases r2
    exact op_notN pins s σ H _ _ v u Q I rx ry ⟨rfl, fn _ _ _ _ q (Keeps.refl _) rh (by rw [isN_ok r1]; rfl)⟩
  · exact q.elim
/-- one text within another -/
def inStr (x y : Str) : Bool := !(Builtin.Str.occurrences y x 0 y.length 1).isEmpty
theorem inStr_one (c : Nat) (z : Str) : inStr ⟨#[c]⟩ z = decide (c ∈ z.cps.toList) := PySem.StrLaws.found_one z c
end
end DL
/-! D4: subscripts, slices, displays, calls of built-ins, methods: by data. -/
namespace DL
open PySem PySem.Spec PyProof.Rows L2

section
variable {X : Cx} {a b c e : Expr} {ta tb tc t : DTE} {pos : Pos}

theorem RDs.atI {K : PySem.W.Frag} {H : Hp} {ds : List D} {vs : List V} {i : Int} {d : D} (r : RDs K H ds vs) (e : atI ds i = some d) : ∃ v, L2.atI vs i = some v ∧ RD K H d v := by
  unfold L2.atI at e ⊢
  rw [r.length]
  cases q : ixN ds.length i with
  | none => rw [q] at e; cases e
  | some j =>
    rw [q] at e
    exact RDs.get r e

/-! ### subscripts -/
def oAt (o : Option D) (k : D → Prop) : Prop := match o with
  | some d => k d
  | none => False
theorem of_oAt {o : Option D} {k : D → Prop} (q : oAt o k) : ∃ d, o = some d ∧ k d := by
  unfold oAt at q
  split at q
  · exact ⟨_, rfl, q⟩
  · exact q.elim
theorem oAt_of {o : Option D} {k : D → Prop} {d : D} (e : o = some d) (q : k d) : oAt o k := by rw [e]; exact q
def dIx : DR2
  | .tup xs, .int i, h, P => oAt (atI xs i) fun d => P d h
  | .rol xs, .int i, h, P => oAt (atI xs i) fun d => P d h
  | .ref a, .int i, h, P => lstAt h a fun xs => oAt (atI xs i) fun d => P d h
  | .str z, .int i, h, P => z.length ≤ sizeLine ∧ (match atI z.cps.toList i with | some c => P (.str ⟨#[c]⟩) h | none => False)
  | _, _, _, _ => False
theorem ix_d : IxR X (LR X.K X.w dIx) := by
  intro value slice pins s σ H x y v u Q I rx ry q hs
  obtain ⟨dx, dy, h, P, r1, r2, rh, q, f⟩ := q
  unfold dIx at q
  split at q
  · obtain ⟨a, vs, rfl, s1, t1⟩ := r1
    cases r2
    obtain ⟨d, e, q⟩ := of_oAt q
    obtain ⟨v', e', r⟩ := t1.atI e
    exact ix_tup value slice pins s σ H _ _ v u Q I rx ry ⟨a, vs, _, v', rfl, rfl, s1, e', f _ _ _ _ q (Keeps.refl _) rh r⟩ hs
  · obtain ⟨a, vs, rfl, s1, t1⟩ := r1
    cases r2
    obtain ⟨d, e, q⟩ := of_oAt q
    obtain ⟨v', e', r⟩ := t1.atI e
    exact ix_list value slice pins s σ H _ _ v u Q I rx ry ⟨a, vs, _, v', rfl, rfl, s1.sq, e', f _ _ _ _ q (Keeps.refl _) rh r⟩ hs
  · cases r1; cases r2
    obtain ⟨xs, e1, q⟩ := of_lstAt q
    obtain ⟨d, e, q⟩ := of_oAt q
    obtain ⟨vs, g1, t1⟩ := rh.lst e1
    obtain ⟨v', e', r⟩ := t1.atI e
    exact ix_list value slice pins s σ H _ _ v u Q I rx ry ⟨_, vs, _, v', rfl, rfl, SqL.of g1, e', f _ _ _ _ q (Keeps.refl _) rh r⟩ hs
  · cases r1; cases r2
    obtain ⟨z1, q⟩ := q
    split at q
    · rename_i c e
      exact ix_str value slice pins s σ H _ _ v u Q I rx ry ⟨_, _, c, rfl, rfl, z1, e, f _ _ _ _ q (Keeps.refl _) rh rfl⟩ hs
    · exact q.elim
  · exact q.elim
theorem de_ix (ha : DE X a ta) (hb : DE X b tb) (hs : PlainIx b := by intro _ _; rfl) : DE X (.Subscript a b pos) (dOp dIx ta tb) := ⟨peImp (pe_ix ix_d ha.pe hb.pe hs) fun _ _ _ q => lift2 q⟩

/-! ### slices -/
abbrev DTO := DSt → DH → (Option Int → DH → Prop) → Prop
def LO (K : PySem.W.Frag) (w : World) (t : DTO) : TO := fun σ H Q => ∃ dσ h P, RS K H dσ σ ∧ RH K w H h ∧ t dσ h P ∧ ∀ b h' H', P b h' → Keeps H H' → RH K w H' h' → Q b H'
structure DOp' (X : Cx) (e : Option Expr) (t : DTO) : Prop where
  po : PO X e (LO X.K X.w t)
theorem poImp {X : Cx} {e : Option Expr} {t t' : TO} (h : PO X e t) (i : ∀ σ H Q, t' σ H Q → t σ H Q) : PO X e t' := ⟨fun pins s σ H Q I q => h.run pins s σ H Q I (i σ H Q q)⟩
def asI (k : Int → DH → Prop) : DK := fun d h => match d with
  | .int b => k b h
  | _ => False
theorem asI_of {k : Int → DH → Prop} {d : D} {h : DH} (q : asI k d h) : ∃ b, d = .int b ∧ k b h := by
  unfold asI at q
  split at q
  · exact ⟨_, rfl, q⟩
  · exact q.elim
def dNoPart : DTO := fun _ h P => P none h
def dPart (t : DTE) : DTO := fun σ h P => t σ h (asI fun i h' => P (some i) h')
theorem do_none : DOp' X none dNoPart := ⟨poImp po_none fun σ H Q ⟨dσ, h, P, rs, rh, q, f⟩ => f _ _ _ q (Keeps.refl _) rh⟩
theorem do_some (he : DE X e t) : DOp' X (some e) (dPart t) := by
  refine ⟨poImp (po_some he.pe) ?_⟩
  rintro σ H Q ⟨dσ, h, P, rs, rh, q, f⟩
  refine ⟨dσ, h, _, rs, rh, q, fun d h1 v H1 q1 k1 rh1 r1 => ?_⟩
  obtain ⟨i, rfl, q2⟩ := asI_of q1
  exact ⟨i, r1, f _ _ _ q2 k1 rh1⟩
def cutD (xs : List D) (lo hi : Option Int) : List D := (xs.drop (HT.sIx xs.length 0 lo)).take (HT.sIx xs.length xs.length hi - HT.sIx xs.length 0 lo)
theorem RDs.cut {K : PySem.W.Frag} {H : Hp} {ds : List D} {vs : List V} (r : RDs K H ds vs) (lo hi : Option Int) : RDs K H (cutD ds lo hi) (cutV vs lo hi) := by
  unfold cutD cutV
  rw [r.length]
  exact RDs.take _ (RDs.drop _ r)
def dCut (x : D) (lo hi : Option Int) (h : DH) (P : DK) : Prop := match x with
  | .tup xs => P (.tup (cutD xs lo hi)) h
  | .rol xs => fresh h (.lst (cutD xs lo hi)) fun p h' => P (.ref p) h'
  | .ref a => lstAt h a fun xs => fresh h (.lst (cutD xs lo hi)) fun p h' => P (.ref p) h'
  | .str z => z.length ≤ sizeLine ∧ P (.str (cutS z lo hi)) h
  | _ => False
theorem cut_whole {vs : List V} {lo hi : Option Int} (e : HT.sIx vs.length 0 lo = 0 ∧ HT.sIx vs.length vs.length hi = vs.length) : cutV vs lo hi = vs := by
  unfold cutV
  rw [e.1, e.2, Nat.sub_zero, List.drop_zero, List.take_length]
theorem sl_d : SlR X (fun x lo hi H Q => ∃ dx h P, RD X.K H dx x ∧ RH X.K X.w H h ∧ dCut dx lo hi h P ∧ Fin X.K X.w H P Q) := by
  intro pins s σ H x v vl vu lo hi sl Q I rx hs pl pu q
  obtain ⟨dx, h, P, r1, rh, q, f⟩ := q
  unfold dCut at q
  split at q
  · obtain ⟨a, vs, rfl, s1, t1⟩ := r1
    refine sl_tupA pins s σ H _ v vl vu lo hi sl Q I rx hs pl pu ⟨a, vs, rfl, s1, fun e => ?_, fun e p np => ?_⟩
    · refine f _ _ _ _ q (Keeps.refl _) rh ⟨a, vs, rfl, s1, ?_⟩
      have := t1.cut lo hi
      rw [cut_whole e] at this
      exact this
    · have n := RH.newT (vs := cutV vs lo hi) rh np
      exact f _ _ _ _ q n.1 n.2 (RD.newT np (t1.cut lo hi))
  · obtain ⟨a, vs, rfl, s1, t1⟩ := r1
    refine sl_list pins s σ H _ v vl vu lo hi sl Q I rx hs pl pu ⟨a, vs, rfl, s1.sq, fun p np => ?_⟩
    have n := RH.newL rh np (t1.cut lo hi)
    exact f _ _ _ _ (q p (rh.free np)) n.1 n.2 rfl
  · cases r1
    obtain ⟨xs, e1, q⟩ := of_lstAt q
    obtain ⟨vs, g1, t1⟩ := rh.lst e1
    refine sl_list pins s σ H _ v vl vu lo hi sl Q I rx hs pl pu ⟨_, vs, rfl, SqL.of g1, fun p np => ?_⟩
    have n := RH.newL rh np (t1.cut lo hi)
    exact f _ _ _ _ (q p (rh.free np)) n.1 n.2 rfl
  · cases r1
    exact sl_str pins s σ H _ v vl vu lo hi sl Q I rx hs pl pu ⟨_, rfl, q.1, f _ _ _ _ q.2 (Keeps.refl _) rh rfl⟩
  · exact q.elim
def dSl (t : DTE) (tl th : DTO) : DTE := fun σ h P => t σ h fun x h1 => tl σ h1 fun l h2 => th σ h2 fun u h3 => dCut x l u h3 P
theorem de_sl {lo hi : Option Expr} {tl th : DTO} {p2 : Pos} (he : DE X e t) (hl : DOp' X lo tl) (hu : DOp' X hi th) : DE X (.Subscript e (.Slice lo hi none p2) pos) (dSl t tl th) := by
  refine ⟨peImp (pe_slice sl_d he.pe hl.po hu.po) ?_⟩
  rintro σ H Q ⟨dσ, h, P, rs, rh, q, f⟩
  refine ⟨dσ, h, _, rs, rh, q, fun x h1 v H1 q1 k1 rh1 rx => ?_⟩
  refine ⟨dσ, h1, _, rs.keep k1, rh1, q1, fun l h2 H2 q2 k2 rh2 => ?_⟩
  refine ⟨dσ, h2, _, rs.keep (k1.trans k2), rh2, q2, fun u h3 H3 q3 k3 rh3 => ?_⟩
  exact ⟨x, h3, P, RD.keep (k2.trans k3) _ _ rx, rh3, q3, f.keep (k1.trans (k2.trans k3))⟩

/-! ### arguments, displays -/
def dNil : DTA := fun _ h P => P [] h
def dCons (t : DTE) (r : DTA) : DTA := fun σ h P => t σ h fun x h1 => r σ h1 fun xs h2 => P (x :: xs) h2
theorem da_nil : DA X [] dNil := ⟨paImp pa_nil fun σ H Q ⟨dσ, h, P, rs, rh, q, f⟩ => f _ _ _ _ q (Keeps.refl _) rh rfl⟩
theorem da_cons {es : List Expr} {r : DTA} (he : DE X e t) (hr : DA X es r) (hs : starEach (e :: es) X.env = (false, eval e X.env) :: starEach es X.env := by rfl) : DA X (e :: es) (dCons t r) := by
  refine ⟨paImp (pa_cons he.pe hr.pa hs) ?_⟩
  rintro σ H Q ⟨dσ, h, P, rs, rh, q, f⟩
  refine ⟨dσ, h, _, rs, rh, q, fun x h1 v H1 q1 k1 rh1 rx => ?_⟩
  refine ⟨dσ, h1, _, rs.keep k1, rh1, q1, fun xs h2 vs H2 q2 k2 rh2 rxs => ?_⟩
  exact f _ _ _ _ q2 (k1.trans k2) rh2 ⟨v, vs, rfl, RD.keep k2 _ _ rx, rxs⟩
def dTup (t : DTA) : DTE := fun σ h P => t σ h fun xs h1 => xs.length ≤ sizeLine ∧ P (.tup xs) h1
def dLst (t : DTA) : DTE := fun σ h P => t σ h fun xs h1 => xs.length ≤ sizeLine ∧ fresh h1 (.lst xs) fun p h' => P (.ref p) h'
theorem de_tup {es : List Expr} {t : DTA} {x1} (h : DA X es t) : DE X (.Tuple es x1 pos) (dTup t) := by
  refine ⟨peImp (pe_tup h.pa) ?_⟩
  rintro σ H Q ⟨dσ, h, P, rs, rh, q, f⟩
  refine ⟨dσ, h, _, rs, rh, q, fun xs h1 vs H1 q1 k1 rh1 r => ⟨by rw [r.length]; exact q1.1, fun p np => ?_⟩⟩
  have n := RH.newT (vs := vs) rh1 np
  exact f _ _ _ _ q1.2 (k1.trans n.1) n.2 (RD.newT np r)
theorem de_lst {es : List Expr} {t : DTA} (h : DA X es t) : DE X (.List es pos) (dLst t) := by
  refine ⟨peImp (pe_lst h.pa) ?_⟩
  rintro σ H Q ⟨dσ, h, P, rs, rh, q, f⟩
  refine ⟨dσ, h, _, rs, rh, q, fun xs h1 vs H1 q1 k1 rh1 r => ⟨by rw [r.length]; exact q1.1, fun p np => ?_⟩⟩
  have n := RH.newL rh1 np r
  exact f _ _ _ _ (q1.2 p (rh1.free np)) (k1.trans n.1) n.2 rfl

/-! ### calls of what is built in -/
abbrev DRC := List D → DH → DK → Prop
def LC (K : PySem.W.Frag) (w : World) (r : DRC) : List V → Hp → VK → Prop := fun xs H Q => ∃ ds h P, RDs K H ds xs ∧ RH K w H h ∧ r ds h P ∧ Fin K w H P Q
abbrev DCall (X : Cx) (f : Value) (r : DRC) : Prop := CallR X f (LC X.K X.w r)
def dCall (r : DRC) (t : DTA) : DTE := fun σ h P => t σ h fun xs h1 => r xs h1 P
theorem liftCB {K : PySem.W.Frag} {w : World} {r : DRC} {t : DTA} {σ : L2.St} {H : Hp} {Q : VK} (q : LE K w (dCall r t) σ H Q) : tCB (LC K w r) (LA K w t) σ H Q := by
  obtain ⟨dσ, h, P, rs, rh, q, f⟩ := q
  refine ⟨dσ, h, _, rs, rh, q, fun xs h1 vs H1 q1 k1 rh1 rx => ?_⟩
  exact ⟨xs, h1, P, rx, rh1, q1, f.keep k1⟩
theorem de_callB {id : String} {r : DRC} {x : Str} {es : List Expr} {t : DTA} {p : Pos} (hc : DCall X (.builtin id) r) (hg : Gl X x) (hm : X.mg x = none) (hv : bootBuiltins x = some (.builtin id)) (ha : DA X (e :: es) t) (hn : x ≠ "__name__" := by decide) (hdb : (x == ("__debug__" : Str)) = false := by decide)
    (he : starEach (e :: es) X.env = (false, eval e X.env) :: starEach es X.env := by rfl) (hpl : (backTo pos (starEach es X.env)).any (·.1) = false := by rfl) : DE X (.Call (.Name x p) (e :: es) [] pos) (dCall r t) :=
  ⟨peImp (pe_callB hc hg hm hv ha.pa hn hdb he hpl) fun _ _ _ q => liftCB q⟩
theorem de_callTy {T : String} {r : DRC} {x : Str} {es : List Expr} {t : DTA} {p : Pos} (hc : DCall X (.type T) r) (hg : Gl X x) (hm : X.mg x = none) (hv : bootBuiltins x = some (.type T)) (ha : DA X (e :: es) t) (hn : x ≠ "__name__" := by decide) (hdb : (x == ("__debug__" : Str)) = false := by decide)
    (he : starEach (e :: es) X.env = (false, eval e X.env) :: starEach es X.env := by rfl) (hpl : (backTo pos (starEach es X.env)).any (·.1) = false := by rfl) : DE X (.Call (.Name x p) (e :: es) [] pos) (dCall r t) :=
  ⟨peImp (pe_callTy hc hg hm hv ha.pa hn hdb he hpl) fun _ _ _ q => liftCB q⟩
theorem RDs.one {K : PySem.W.Frag} {H : Hp} {d : D} {vs : List V} (r : RDs K H [d] vs) : ∃ v, vs = [v] ∧ RD K H d v := by
  obtain ⟨v, r', e, h1, h2⟩ := r
  rw [RDs.nil_ h2] at e
  exact ⟨v, e, h1⟩
theorem RDs.two {K : PySem.W.Frag} {H : Hp} {d d' : D} {vs : List V} (r : RDs K H [d, d'] vs) : ∃ v u, vs = [v, u] ∧ RD K H d v ∧ RD K H d' u := by
  obtain ⟨v, r', e, h1, h2⟩ := r
  obtain ⟨u, e2, h3⟩ := h2.one
  subst e2
  exact ⟨v, u, e, h1, h3⟩

def dLen : DRC
  | [.str z], h, P => z.length ≤ sizeLine ∧ P (.int z.length) h
  | [.tup xs], h, P => P (.int xs.length) h
  | [.rol xs], h, P => P (.int xs.length) h
  | [.ref a], h, P => lstAt h a fun xs => P (.int xs.length) h
  | _, _, _ => False
theorem call_dLen : DCall X (.builtin "len") dLen := by
  intro pins s σ H xs us Q I rx q
  obtain ⟨ds, h, P, r, rh, q, f⟩ := q
  unfold dLen at q
  split at q
  · obtain ⟨v, rfl, rv⟩ := r.one
    cases rv
    exact call_len_str pins s σ H _ us Q I rx ⟨_, rfl, q.1, f _ _ _ _ q.2 (Keeps.refl _) rh rfl⟩
  · obtain ⟨v, rfl, a, vs, rfl, s1, t1⟩ := r.one
    exact call_len_seq pins s σ H _ us Q I rx ⟨a, vs, rfl, .inr s1, f _ _ _ _ q (Keeps.refl _) rh (by rw [t1.length]; rfl)⟩
  · obtain ⟨v, rfl, a, vs, rfl, s1, t1⟩ := r.one
    exact call_len_seq pins s σ H _ us Q I rx ⟨a, vs, rfl, .inl s1.sq, f _ _ _ _ q (Keeps.refl _) rh (by rw [t1.length]; rfl)⟩
  · obtain ⟨v, rfl, rv⟩ := r.one
    cases rv
    obtain ⟨ys, e1, q⟩ := of_lstAt q
    obtain ⟨vs, g1, t1⟩ := rh.lst e1
    exact call_len_seq pins s σ H _ us Q I rx ⟨_, vs, rfl, .inl (SqL.of g1), f _ _ _ _ q (Keeps.refl _) rh (by rw [t1.length]; rfl)⟩
  · exact q.elim
def dAbs : DRC
  | [.int i], h, P => P (.int (if i < 0 then -i else i)) h
  | _, _, _ => False
theorem call_dAbs : DCall X (.builtin "abs") dAbs := by
  intro pins s σ H xs us Q I rx q
  obtain ⟨ds, h, P, r, rh, q, f⟩ := q
  unfold dAbs at q
  split at q
  · obtain ⟨v, rfl, rv⟩ := r.one
    cases rv
    exact call_abs pins s σ H _ us Q I rx ⟨_, rfl, f _ _ _ _ q (Keeps.refl _) rh rfl⟩
  · exact q.elim
def dInt : DRC
  | [.int i], h, P => P (.int i) h
  | [.bl k], h, P => P (.int (if k = true then 1 else 0)) h
  | _, _, _ => False
theorem call_dInt : DCall X (.type "int") dInt := by
  intro pins s σ H xs us Q I rx q
  obtain ⟨ds, h, P, r, rh, q, f⟩ := q
  unfold dInt at q
  split at q
  · obtain ⟨v, rfl, rv⟩ := r.one
    cases rv
    exact call_int1 pins s σ H _ us Q I rx (.inl ⟨_, rfl, f _ _ _ _ q (Keeps.refl _) rh rfl⟩)
  · obtain ⟨v, rfl, rv⟩ := r.one
    cases rv
    exact call_int1 pins s σ H _ us Q I rx (.inr ⟨_, rfl, f _ _ _ _ q (Keeps.refl _) rh rfl⟩)
  · exact q.elim
/-- tuple(xs) -/
def dTupOf : DRC
  | [.tup xs], h, P => P (.tup xs) h
  | [.rol xs], h, P => P (.tup xs) h
  | [.ref a], h, P => lstAt h a fun xs => P (.tup xs) h
  | _, _, _ => False
theorem call_dTupOf : DCall X (.type "tuple") dTupOf := by
  intro pins s σ H xs us Q I rx q
  obtain ⟨ds, h, P, r, rh, q, f⟩ := q
  unfold dTupOf at q
  split at q
  · obtain ⟨v, rfl, a, vs, rfl, s1, t1⟩ := r.one
    exact call_tuple_of pins s σ H _ us Q I rx ⟨a, vs, rfl, .inr ⟨s1, f _ _ _ _ q (Keeps.refl _) rh ⟨a, vs, rfl, s1, t1⟩⟩⟩
  · obtain ⟨v, rfl, a, vs, rfl, s1, t1⟩ := r.one
    refine call_tuple_of pins s σ H _ us Q I rx ⟨a, vs, rfl, .inl ⟨s1.sq, fun p np => ?_⟩⟩
    have n := RH.newT (vs := vs) rh np
    exact f _ _ _ _ q n.1 n.2 (RD.newT np t1)
  · obtain ⟨v, rfl, rv⟩ := r.one
    cases rv
    obtain ⟨ys, e1, q⟩ := of_lstAt q
    obtain ⟨vs, g1, t1⟩ := rh.lst e1
    refine call_tuple_of pins s σ H _ us Q I rx ⟨_, vs, rfl, .inl ⟨SqL.of g1, fun p np => ?_⟩⟩
    have n := RH.newT (vs := vs) rh np
    exact f _ _ _ _ q n.1 n.2 (RD.newT np t1)
  · exact q.elim
/-- all the items are flags -/
def allB : List D → Option (List Bool)
  | [] => some []
  | .bl b :: r => (allB r).map fun bs => b :: bs
  | _ :: _ => none
def allI : List D → Option (List Int)
  | [] => some []
  | .int b :: r => (allI r).map fun bs => b :: bs
  | _ :: _ => none
def allS : List D → Option (List Str)
  | [] => some []
  | .str b :: r => (allS r).map fun bs => b :: bs
  | _ :: _ => none
theorem allB_map : ∀ bs : List Bool, allB (bs.map D.bl) = some bs
  | [] => rfl
  | b :: r => by rw [List.map_cons, allB, allB_map r]; rfl
theorem allI_map : ∀ bs : List Int, allI (bs.map D.int) = some bs
  | [] => rfl
  | b :: r => by rw [List.map_cons, allI, allI_map r]; rfl
theorem allS_map : ∀ bs : List Str, allS (bs.map D.str) = some bs
  | [] => rfl
  | b :: r => by rw [List.map_cons, allS, allS_map r]; rfl
theorem allB_vs {K : PySem.W.Frag} {H : Hp} : ∀ {ds : List D} {vs : List V} {bs : List Bool}, allB ds = some bs → RDs K H ds vs → vs = bs.map V.bl
  | [], _, _, e, r => by cases e; rw [RDs.nil_ r]; rfl
  | .bl b :: ds, _, _, e, ⟨v, vs, e', h1, h2⟩ => by
    rw [allB] at e
    obtain ⟨bs', e1, rfl⟩ := Option.map_eq_some_iff.mp e
    cases h1
    rw [e', allB_vs e1 h2]; rfl
theorem allI_vs {K : PySem.W.Frag} {H : Hp} : ∀ {ds : List D} {vs : List V} {bs : List Int}, allI ds = some bs → RDs K H ds vs → vs = bs.map V.int
  | [], _, _, e, r => by cases e; rw [RDs.nil_ r]; rfl
  | .int b :: ds, _, _, e, ⟨v, vs, e', h1, h2⟩ => by
    rw [allI] at e
    obtain ⟨bs', e1, rfl⟩ := Option.map_eq_some_iff.mp e
    cases h1
    rw [e', allI_vs e1 h2]; rfl
theorem allS_vs {K : PySem.W.Frag} {H : Hp} : ∀ {ds : List D} {vs : List V} {bs : List Str}, allS ds = some bs → RDs K H ds vs → vs = bs.map V.str
  | [], _, _, e, r => by cases e; rw [RDs.nil_ r]; rfl
  | .str b :: ds, _, _, e, ⟨v, vs, e', h1, h2⟩ => by
    rw [allS] at e
    obtain ⟨bs', e1, rfl⟩ := Option.map_eq_some_iff.mp e
    cases h1
    rw [e', allS_vs e1 h2]; rfl
def dAll : DRC
  | [.ref a], h, P => lstAt h a fun xs => ∃ bs, allB xs = some bs ∧ P (.bl (bs.all id)) h
  | _, _, _ => False
def dAny : DRC
  | [.ref a], h, P => lstAt h a fun xs => ∃ bs, allB xs = some bs ∧ P (.bl (bs.any id)) h
  | _, _, _ => False
theorem call_dAll (hc : X.calm = true) : DCall X (.builtin "all") dAll := by
  intro pins s σ H xs us Q I rx q
  obtain ⟨ds, h, P, r, rh, q, f⟩ := q
  unfold dAll at q
  split at q
  · obtain ⟨v, rfl, rv⟩ := r.one
    cases rv
    obtain ⟨ys, e1, bs, e2, q⟩ := of_lstAt q
    obtain ⟨vs, g1, t1⟩ := rh.lst e1
    rw [allB_vs e2 t1] at g1
    exact cr_all hc pins s σ H _ us Q I rx ⟨_, bs, rfl, SqL.of g1, f _ _ _ _ q (Keeps.refl _) rh rfl⟩
  · exact q.elim
theorem call_dAny (hc : X.calm = true) : DCall X (.builtin "any") dAny := by
  intro pins s σ H xs us Q I rx q
  obtain ⟨ds, h, P, r, rh, q, f⟩ := q
  unfold dAny at q
  split at q
  · obtain ⟨v, rfl, rv⟩ := r.one
    cases rv
    obtain ⟨ys, e1, bs, e2, q⟩ := of_lstAt q
    obtain ⟨vs, g1, t1⟩ := rh.lst e1
    rw [allB_vs e2 t1] at g1
    exact cr_any hc pins s σ H _ us Q I rx ⟨_, bs, rfl, SqL.of g1, f _ _ _ _ q (Keeps.refl _) rh rfl⟩
  · exact q.elim
/-- the greatest of some numbers -/
def maxL : List Int → Int
  | [] => 0
  | x :: r => r.foldl max x
theorem foldl_max : ∀ (r : List Int) (x m : Int), (m = x ∨ m ∈ r) → x ≤ m → (∀ y ∈ r, y ≤ m) → r.foldl max x = m
  | [], x, m, h, h1, _ => by
    rcases h with h | h
    · exact h.symm
    · simp at h
  | y :: r, x, m, h, h1, h2 => by
    show r.foldl max (max x y) = m
    have hy := h2 y List.mem_cons_self
    refine foldl_max r (max x y) m ?_ (by omega) fun z hz => h2 z (List.mem_cons_of_mem _ hz)
    rcases h with h | h
    · left; omega
    · rcases List.mem_cons.mp h with h | h
      · left; omega
      · exact .inr h
theorem maxL_eq {ns : List Int} {m : Int} (h : m ∈ ns) (hm : ∀ y ∈ ns, y ≤ m) : maxL ns = m := by
  cases ns with
  | nil => simp at h
  | cons x r =>
    refine foldl_max r x m ?_ (hm x List.mem_cons_self) fun y hy => hm y (List.mem_cons_of_mem _ hy)
    exact List.mem_cons.mp h
def dMax : DRC
  | [.ref a], h, P => lstAt h a fun xs => ∃ ns, allI xs = some ns ∧ 0 < ns.length ∧ P (.int (maxL ns)) h
  | [.int i, .int j], h, P => P (.int (if j > i then j else i)) h
  | _, _, _ => False
theorem call_dMax (hc : X.calm = true) : DCall X (.builtin "max") dMax := by
  intro pins s σ H xs us Q I rx q
  obtain ⟨ds, h, P, r, rh, q, f⟩ := q
  unfold dMax at q
  split at q
  · obtain ⟨v, rfl, rv⟩ := r.one
    cases rv
    obtain ⟨ys, e1, ns, e2, hl, q⟩ := of_lstAt q
    obtain ⟨vs, g1, t1⟩ := rh.lst e1
    rw [allI_vs e2 t1] at g1
    exact cr_max hc pins s σ H _ us Q I rx ⟨_, ns, rfl, SqL.of g1, hl, fun m hm hle => f _ _ _ _ q (Keeps.refl _) rh (by rw [maxL_eq hm hle]; rfl)⟩
  · obtain ⟨v, v', rfl, rv, rv'⟩ := r.two
    cases rv
    cases rv'
    exact call_max2 hc pins s σ H _ us Q I rx ⟨_, _, rfl, f _ _ _ _ q (Keeps.refl _) rh rfl⟩
  · exact q.elim
end
end DL
/-! D5: statements, targets, loops, list comprehensions. -/
namespace DL
open PySem PySem.Spec PyProof.Rows L2

section
variable {X : Cx} {st : Stmt} {rest : List Stmt} {t u : DTS} {e : Expr} {te : DTE} {pos : Pos}
def sNext : DTS := fun E σ h => E.nx σ h
def sSeq (t u : DTS) : DTS := fun E σ h => t { E with nx := u E } σ h
theorem dss_nil : DSs X [] sNext := ⟨pssImp pss_nil fun Q σ H ⟨dσ, h, E, rs, rh, q, f⟩ => f.nx _ _ _ _ q (Keeps.refl _) rh rs⟩
theorem dss_cons (h1 : DS X st t) (h2 : DSs X rest u) : DSs X (st :: rest) (sSeq t u) := by
  refine ⟨pssImp (pss_cons h1.ps h2.pss) ?_⟩
  rintro Q σ H ⟨dσ, h, E, rs, rh, q, f⟩
  refine ⟨dσ, h, _, rs, rh, q, ⟨fun dσ1 h1 σ1 H1 q1 k1 rh1 rs1 => ?_, f.rt, f.bk, f.ct⟩⟩
  exact ⟨dσ1, h1, E, rs1, rh1, q1, f.keep k1⟩
theorem dss_one (h1 : DS X st t) : DSs X [st] t := ⟨pssImp (pss_one h1.ps) fun _ _ _ q => q⟩
theorem ds_pass : DS X (.Pass pos) sNext := ⟨psImp ps_pass fun Q σ H ⟨dσ, h, E, rs, rh, q, f⟩ => f.nx _ _ _ _ q (Keeps.refl _) rh rs⟩
def sBreak : DTS := fun E σ h => E.bk σ h
def sCont : DTS := fun E σ h => E.ct σ h
theorem ds_break : DS X (.Break pos) sBreak := ⟨psImp ps_break fun Q σ H ⟨dσ, h, E, rs, rh, q, f⟩ => f.bk _ _ _ _ q (Keeps.refl _) rh rs⟩
theorem ds_continue : DS X (.Continue pos) sCont := ⟨psImp ps_continue fun Q σ H ⟨dσ, h, E, rs, rh, q, f⟩ => f.ct _ _ _ _ q (Keeps.refl _) rh rs⟩
theorem ds_doc {x j pos pos'} : DS X (.Expr (.Constant (.str x) j pos) pos') sNext := ⟨psImp ps_doc fun Q σ H ⟨dσ, h, E, rs, rh, q, f⟩ => f.nx _ _ _ _ q (Keeps.refl _) rh rs⟩
def sDrop (te : DTE) : DTS := fun E σ h => te σ h fun _ h1 => E.nx σ h1
theorem ds_expr (he : DE X e te) (hs : swapsWith e none pos.line X.env = pure false := by rfl) : DS X (.Expr e pos) (sDrop te) := by
  refine ⟨psImp (ps_expr he.pe hs) ?_⟩
  rintro Q σ H ⟨dσ, h, E, rs, rh, q, f⟩
  exact ⟨dσ, h, _, rs, rh, q, fun d h1 v H1 q1 k1 rh1 r1 => f.nx _ _ _ _ q1 k1 rh1 (rs.keep k1)⟩
def sRet (te : DTE) : DTS := fun E σ h => te σ h E.rt
theorem ds_ret (he : DE X e te) : DS X (.Return (some e) pos) (sRet te) := by
  refine ⟨psImp (ps_ret he.pe) ?_⟩
  rintro Q σ H ⟨dσ, h, E, rs, rh, q, f⟩
  exact ⟨dσ, h, _, rs, rh, q, f.rt⟩
def sRetN : DTS := fun E _ h => E.rt .non h
theorem ds_retN : DS X (.Return none pos) sRetN := ⟨psImp ps_retN fun Q σ H ⟨dσ, h, E, rs, rh, q, f⟩ => f.rt _ _ _ _ q (Keeps.refl _) rh rfl⟩
def sIf (c : DTT) (t u : DTS) : DTS := fun E σ h => c σ h fun b h1 => if b = true then t E σ h1 else u E σ h1
theorem ds_if {c : Expr} {a b : List Stmt} {tc : DTT} (hc : DT X c tc) (ha : DSs X a t) (hb : DSs X b u) : DS X (.If c a b pos) (sIf tc t u) := by
  refine ⟨psImp (ps_if hc.pt ha.pss hb.pss) ?_⟩
  rintro Q σ H ⟨dσ, h, E, rs, rh, q, f⟩
  refine ⟨dσ, h, _, rs, rh, q, fun b h1 H1 q1 k1 rh1 => ?_⟩
  cases b with
  | true => rw [if_pos rfl] at q1 ⊢; exact ⟨dσ, h1, E, rs.keep k1, rh1, q1, f.keep k1⟩
  | false => rw [if_neg Bool.false_ne_true] at q1 ⊢; exact ⟨dσ, h1, E, rs.keep k1, rh1, q1, f.keep k1⟩
def sNever : DTS := fun _ _ _ => False
theorem ds_never : DS X st sNever := ⟨psImp ps_never fun Q σ H ⟨dσ, h, E, rs, rh, q, f⟩ => q.elim⟩
theorem dss_never {sts : List Stmt} : DSs X sts sNever := ⟨pssImp pss_never fun Q σ H ⟨dσ, h, E, rs, rh, q, f⟩ => q.elim⟩
end

/-! ### targets -/
def SameOff (vs : List Nat) (σ σ' : L2.St) : Prop := σ'.length = σ.length ∧ ∀ j, j ∉ vs → σ'[j]? = σ[j]?
theorem SameOff.refl (vs : List Nat) (σ : L2.St) : SameOff vs σ σ := ⟨rfl, fun _ _ => rfl⟩
theorem SameOff.trans {vs ws : List Nat} {σ σ1 σ2 : L2.St} (a : SameOff vs σ σ1) (b : SameOff ws σ1 σ2) : SameOff (vs ++ ws) σ σ2 :=
  ⟨b.1.trans a.1, fun j hj => by rw [List.mem_append, not_or] at hj; rw [b.2 j hj.2, a.2 j hj.1]⟩
abbrev DTG := D → DSt → DH → (DSt → DH → Prop) → Prop
abbrev DTGs := List D → DSt → DH → (DSt → DH → Prop) → Prop
abbrev FinG (K : PySem.W.Frag) (w : World) (H : Hp) (vs : List Nat) (σ : L2.St) (P : DSt → DH → Prop) (Q : L2.St → Hp → Prop) : Prop :=
  ∀ dσ' h' σ' H', P dσ' h' → Keeps H H' → RH K w H' h' → RS K H' dσ' σ' → SameOff vs σ σ' → Q σ' H'
def LG (K : PySem.W.Frag) (w : World) (vs : List Nat) (t : DTG) : TG := fun v σ H Q => ∃ d dσ h P, RD K H d v ∧ RS K H dσ σ ∧ RH K w H h ∧ t d dσ h P ∧ FinG K w H vs σ P Q
def LGs (K : PySem.W.Frag) (w : World) (vs : List Nat) (t : DTGs) : TGs := fun v σ H Q => ∃ d dσ h P, RDs K H d v ∧ RS K H dσ σ ∧ RH K w H h ∧ t d dσ h P ∧ FinG K w H vs σ P Q
structure DG (X : Cx) (vs : List Nat) (tg : Expr) (t : DTG) : Prop where
  pg : PG X tg (LG X.K X.w vs t)
structure DGs (X : Cx) (vs : List Nat) (tg : List Expr) (t : DTGs) : Prop where
  pgs : PGs X tg (LGs X.K X.w vs t)
theorem pgImp {X : Cx} {tg : Expr} {t t' : TG} (h : PG X tg t) (i : ∀ v σ H Q, t' v σ H Q → t v σ H Q) : PG X tg t' := ⟨fun pins s σ H v u Q I r q => h.run pins s σ H v u Q I r (i v σ H Q q)⟩
theorem pgsImp {X : Cx} {tg : List Expr} {t t' : TGs} (h : PGs X tg t) (i : ∀ v σ H Q, t' v σ H Q → t v σ H Q) : PGs X tg t' := ⟨fun pins s σ H v u Q I r q => h.run pins s σ H v u Q I r (i v σ H Q q)⟩
section
variable {X : Cx} {pos : Pos}
def gNm (i : Nat) : DTG := fun d σ h P => P (σ.set i (some d)) h
theorem dg_name {i : Nat} {x : Str} (hN : X.N.Nodup) (hi : X.N[i]? = some x) (hx : Loc X.env.scope x) (hf : X.fn x = true ∨ X.env.scope.names.lookup x = some .local := by first | exact .inl rfl | exact .inr rfl | assumption) : DG X [i] (.Name x pos) (gNm i) := by
  refine ⟨pgImp (pg_name hN hi hx hf) ?_⟩
  rintro v σ H Q ⟨d, dσ, h, P, r, rs, rh, q, f⟩
  exact f _ _ _ _ q (Keeps.refl _) rh (rs.set i r) ⟨by rw [List.length_set], fun j hj => List.getElem?_set_ne fun e => hj (by rw [e]; exact List.mem_singleton.mpr rfl)⟩
def gNl : DTGs := fun ds σ h P => match ds with
  | [] => P σ h
  | _ => False
def gCn (t : DTG) (u : DTGs) : DTGs := fun ds σ h P => match ds with
  | d :: r => t d σ h fun σ' h' => u r σ' h' P
  | _ => False
theorem dgs_nil : DGs X [] [] gNl := by
  refine ⟨pgsImp pgs_nil ?_⟩
  rintro v σ H Q ⟨d, dσ, h, P, r, rs, rh, q, f⟩
  unfold gNl at q
  split at q
  · exact ⟨r, f _ _ _ _ q (Keeps.refl _) rh rs (SameOff.refl _ _)⟩
  · exact q.elim
theorem dgs_cons {e : Expr} {es : List Expr} {vs ws : List Nat} {t : DTG} {u : DTGs} (h1 : DG X vs e t) (h2 : DGs X ws es u) (hs : (assignEach (e :: es) X.env).map (·.2) = assign e X.env :: (assignEach es X.env).map (·.2) := by rfl) :
    DGs X (vs ++ ws) (e :: es) (gCn t u) := by
  refine ⟨pgsImp (pgs_cons h1.pg h2.pgs hs) ?_⟩
  rintro v σ H Q ⟨d, dσ, h, P, r, rs, rh, q, f⟩
  unfold gCn at q
  split at q
  · obtain ⟨x, y, rfl, r1, r2⟩ := r
    refine ⟨x, y, rfl, _, dσ, h, _, r1, rs, rh, q, fun dσ1 h1 σ1 H1 q1 k1 rh1 rs1 so1 => ?_⟩
    exact ⟨_, dσ1, h1, P, RDs.keep k1 _ _ r2, rs1, rh1, q1, fun dσ2 h2 σ2 H2 q2 k2 rh2 rs2 so2 => f _ _ _ _ q2 (k1.trans k2) rh2 rs2 (so1.trans so2)⟩
  · exact q.elim
def gTp (n : Nat) (t : DTGs) : DTG := fun d σ h P => match d with
  | .tup ds => ds.length = n ∧ t ds σ h P
  | _ => False
theorem dg_tup {es : List Expr} {k : Nat} {vs : List Nat} {t : DTGs} {n : Nat} (hc : X.calm = true) (h : DGs X vs es t) (hn : (assignEach es X.env).length = n := by rfl) (hst : (assignEach es X.env).findIdx? (·.1) = none := by rfl) :
    DG X vs (.Tuple es k pos) (gTp n t) := by
  refine ⟨pgImp (pg_tup hc h.pgs hn hst) ?_⟩
  rintro v σ H Q ⟨d, dσ, h, P, r, rs, rh, q, f⟩
  unfold gTp at q
  split at q
  · obtain ⟨a, us, rfl, s, t1⟩ := r
    exact ⟨a, us, rfl, s, t1.length.trans q.1, _, dσ, h, P, t1, rs, rh, q.2, f⟩
  · exact q.elim
/-- o[i] = .. of a list -/
abbrev DSet := D → D → D → DH → (DH → Prop) → Prop
def LSet (K : PySem.W.Frag) (w : World) (r : DSet) : TSet := fun o i v H Q => ∃ d1 d2 d3 h P, RD K H d1 o ∧ RD K H d2 i ∧ RD K H d3 v ∧ RH K w H h ∧ r d1 d2 d3 h P ∧ ∀ h' H', P h' → Keeps H H' → RH K w H' h' → Q H'
def gSb (to ti : DTE) (t : DSet) : DTG := fun v σ h P => to σ h fun o h1 => ti σ h1 fun i h2 => t o i v h2 fun h3 => P σ h3
theorem dg_sub {o i : Expr} {to ti : DTE} {t : DSet} (ho : DE X o to) (hi : DE X i ti) (hs : PSet X (LSet X.K X.w t))
    (ha : ∀ v, assign (.Subscript o i pos) X.env v = (do
      let ov ← holding [v] (eval o X.env)
      let iv ← holding [v, ov] (eval i X.env)
      standAt pos
      holding [v, ov, iv] (setItem ov iv v)
      release [v, ov, iv] []) := by intro _; rfl) : DG X [] (.Subscript o i pos) (gSb to ti t) := by
  refine ⟨pgImp (pg_sub ho.pe hi.pe hs ha) ?_⟩
  rintro v σ H Q ⟨d, dσ, h, P, r, rs, rh, q, f⟩
  refine ⟨dσ, h, _, rs, rh, q, fun x h1 v1 H1 q1 k1 rh1 r1 => ?_⟩
  refine ⟨dσ, h1, _, rs.keep k1, rh1, q1, fun y h2 v2 H2 q2 k2 rh2 r2 => ?_⟩
  refine ⟨x, y, d, h2, _, RD.keep k2 _ _ r1, r2, RD.keep (k1.trans k2) _ _ r, rh2, q2, fun h3 H3 q3 k3 rh3 => ?_⟩
  have k := k1.trans (k2.trans k3)
  exact f _ _ _ _ q3 k rh3 (rs.keep k) (SameOff.refl _ _)
def dSetL : DSet
  | .ref a, .int i, d, h, P => lstAt h a fun xs => ∃ j, ixN xs.length i = some j ∧ P (put h a (.lst (xs.set j d)))
  | _, _, _, _, _ => False
theorem set_d : PSet X (LSet X.K X.w dSetL) := by
  intro pins s σ H o i v ov iv u Q I ro ri rv q
  obtain ⟨d1, d2, d3, h, P, r1, r2, r3, rh, q, f⟩ := q
  unfold dSetL at q
  split at q
  · cases r1; cases r2
    obtain ⟨xs, e1, j, ej, q⟩ := of_lstAt q
    obtain ⟨vs, g1, t1⟩ := rh.lst e1
    have n := RH.setL rh g1 (t1.set r3 j)
    exact set_list pins s σ H _ _ v ov iv u Q I ro ri rv ⟨_, vs, _, j, rfl, rfl, g1, by rw [t1.length]; exact ej, f _ _ q n.1 n.2⟩
  · exact q.elim

/-! ### assignments -/
def sAsg (te : DTE) (g : DTG) : DTS := fun E σ h => te σ h fun d h1 => g d σ h1 E.nx
theorem ds_asg {tg e : Expr} {te : DTE} {vs : List Nat} {g : DTG} (he : DE X e te) (hg : DG X vs tg g) (hs : swapsWithSole [tg] e pos.line X.env = pure false := by rfl) (hw : swappedStores [tg] e X.env = pure none := by rfl)
    (h1 : (assignEach [tg] X.env).map (·.2) = [assign tg X.env] := by rfl) : DS X (.Assign [tg] e pos) (sAsg te g) := by
  refine ⟨psImp (ps_asg he.pe hg.pg hs hw h1) ?_⟩
  rintro Q σ H ⟨dσ, h, E, rs, rh, q, f⟩
  refine ⟨dσ, h, _, rs, rh, q, fun d h1 v H1 q1 k1 rh1 r1 => ?_⟩
  exact ⟨d, dσ, h1, _, r1, rs.keep k1, rh1, q1, fun dσ2 h2 σ2 H2 q2 k2 rh2 rs2 _ => f.nx _ _ _ _ q2 (k1.trans k2) rh2 rs2⟩
theorem ds_set {i : Nat} {x : Str} {e : Expr} {te : DTE} {pos' : Pos} (hN : X.N.Nodup) (hi : X.N[i]? = some x) (hx : Loc X.env.scope x) (he : DE X e te) (hs : swapsWith e (some (.Name x pos')) pos.line X.env = pure false := by rfl)
    (hf : X.fn x = true ∨ X.env.scope.names.lookup x = some .local := by first | exact .inl rfl | exact .inr rfl | assumption) : DS X (.Assign [.Name x pos'] e pos) (sAsg te (gNm i)) := by
  refine ⟨psImp (ps_set hN hi hx he.pe hs hf) ?_⟩
  rintro Q σ H ⟨dσ, h, E, rs, rh, q, f⟩
  exact ⟨dσ, h, _, rs, rh, q, fun d h1 v H1 q1 k1 rh1 r1 => f.nx _ _ _ _ q1 k1 rh1 ((rs.keep k1).set i r1)⟩
def sPar (i j : Nat) (ta : DTA) : DTS := fun E σ h => ta σ h fun ds h1 => match ds with
  | [v, w] => E.nx ((σ.set i (some v)).set j (some w)) h1
  | _ => False
theorem ds_par {i j : Nat} {x y : Str} {a b : Expr} {ta : DTA} {px py pt : Pos} {kt k2 pt2} (hc : X.calm = true) (hN : X.N.Nodup) (hi : X.N[i]? = some x) (hj : X.N[j]? = some y) (hij : i ≠ j)
    (hx : X.env.scope.names.lookup x = some .local) (hy : X.env.scope.names.lookup y = some .local) (ha : DA X [a, b] ta)
    (hw : swappedStores [.Tuple [.Name x px, .Name y py] kt pt] (.Tuple [a, b] k2 pt2) X.env = pure (some [x, y]))
    (hs : swapsWithSole [.Tuple [.Name x px, .Name y py] kt pt] (.Tuple [a, b] k2 pt2) pos.line X.env = pure false := by rfl) :
    DS X (.Assign [.Tuple [.Name x px, .Name y py] kt pt] (.Tuple [a, b] k2 pt2) pos) (sPar i j ta) := by
  refine ⟨psImp (ps_par hc hN hi hj hij hx hy ha.pa hw hs) ?_⟩
  rintro Q σ H ⟨dσ, h, E, rs, rh, q, f⟩
  refine ⟨dσ, h, _, rs, rh, q, fun ds h1 vs H1 q1 k1 rh1 r1 => ?_⟩
  split at q1
  · obtain ⟨v, u, rfl, r2, r3⟩ := r1.two
    exact ⟨v, u, rfl, f.nx _ _ _ _ q1 k1 rh1 (((rs.keep k1).set i r2).set j r3)⟩
  · exact q1.elim
/-- name op= e -/
def sAug (i : Nat) (te : DTE) (r : DR2) : DTS := fun E σ h => match σ[i]? with
  | some (some x) => te σ h fun y h1 => r x y h1 fun z h2 => E.nx (σ.set i (some z)) h2
  | _ => False
theorem ds_aug {i : Nat} {x : Str} {e : Expr} {te : DTE} {op : Operator} {r : DR2} {pos' : Pos} (hN : X.N.Nodup) (hi : X.N[i]? = some x) (hx : Loc X.env.scope x) (he : DE X e te) (ho : DOp X (inplaceOp op) r)
    (hf : X.fn x = true ∨ X.env.scope.names.lookup x = some .local := by first | exact .inl rfl | exact .inr rfl | assumption) : DS X (.AugAssign (.Name x pos') op e pos) (sAug i te r) := by
  refine ⟨psImp (ps_aug hN hi hx he.pe (ti := LR X.K X.w r) ho hf) ?_⟩
  rintro Q σ H ⟨dσ, h, E, rs, rh, q, f⟩
  unfold sAug at q
  split at q
  · rename_i d ed
    obtain ⟨v, ev, rv⟩ := rs.2 _ _ ed
    refine ⟨v, ev, dσ, h, _, rs, rh, q, fun y h1 u H1 q1 k1 rh1 r1 => ?_⟩
    refine ⟨d, y, h1, _, RD.keep k1 _ _ rv, r1, rh1, q1, fun z h2 zv H2 q2 k2 rh2 r2 => ?_⟩
    exact f.nx _ _ _ _ q2 (k1.trans k2) rh2 ((rs.keep (k1.trans k2)).set i r2)
  · exact q.elim
end

/-! ### what is walked -/
abbrev DTI := DSt → DH → (List D → (DH → Prop) → DH → Prop) → Prop
/-- the iterator gives the items xs, one by one, while st holds -/
def ItOk (K : PySem.W.Frag) (w : World) (H1 : Hp) (J : It) (xs : List D) (st : DH → Prop) : Prop := ∀ H h, Keeps H1 H → RH K w H h → st h →
  (∀ i d, xs[i]? = some d → J.go i H ∧ ∀ x H', J.yld i H x H' → Keeps H H' ∧ RH K w H' h ∧ RD K H' d x) ∧ J.stop xs.length H
def LI (K : PySem.W.Frag) (w : World) (t : DTI) : TI := fun σ H R => ∃ dσ h P, RS K H dσ σ ∧ RH K w H h ∧ t dσ h P ∧ ∀ xs st h1 J H1, P xs st h1 → Keeps H H1 → RH K w H1 h1 → ItOk K w H1 J xs st → R J H1
structure DI (X : Cx) (tg e : Expr) (t : DTI) : Prop where
  pi : PI X tg e (LI X.K X.w t)
theorem piImp {X : Cx} {tg e : Expr} {t t' : TI} (h : PI X tg e t) (i : ∀ σ H R, t' σ H R → t σ H R) : PI X tg e t' := ⟨fun pins s σ H R I q => h.run pins s σ H R I (i σ H R q)⟩
section
variable {X : Cx} {tg e : Expr} {te : DTE} {pos : Pos}
/-- a list that stands -/
def iLs (te : DTE) : DTI := fun σ h P => te σ h fun d h1 => match d with
  | .ref a => lstAt h1 a fun xs => P xs (fun h => h a = some (.lst xs)) h1
  | .rol xs => P xs (fun _ => True) h1
  | _ => False
theorem di_list (he : DE X e te) : DI X tg e (iLs te) := by
  refine ⟨piImp (pi_list he.pe) ?_⟩
  rintro σ H R ⟨dσ, h, P, rs, rh, q, f⟩
  refine ⟨dσ, h, _, rs, rh, q, fun d h1 v H1 q1 k1 rh1 r1 => ?_⟩
  split at q1
  · cases r1
    obtain ⟨xs, e1, q1⟩ := of_lstAt q1
    obtain ⟨vs, g1, t1⟩ := rh1.lst e1
    refine ⟨_, rfl, ⟨vs, SqL.of g1⟩, f _ _ _ _ _ q1 k1 rh1 fun H2 h2 k2 rh2 s2 => ?_⟩
    obtain ⟨us, g2, t2⟩ := rh2.lst s2
    refine ⟨fun i d ed => ?_, ⟨us, SqL.of g2, by rw [t2.length]; exact Nat.le_refl _⟩⟩
    obtain ⟨u, eu, ru⟩ := t2.get ed
    refine ⟨⟨us, u, SqL.of g2, eu⟩, fun x H' y => ?_⟩
    obtain ⟨rfl, y⟩ := y
    have e3 : some u = some x := eu.symm.trans (y us (SqL.of g2))
    cases e3
    exact ⟨Keeps.refl _, rh2, ru⟩
  · obtain ⟨a, vs, rfl, s1, t1⟩ := r1
    refine ⟨_, rfl, ⟨vs, s1.sq⟩, f _ _ _ _ _ q1 k1 rh1 fun H2 h2 k2 rh2 _ => ?_⟩
    have s2 := SqF.keep k2 s1
    have t2 := RDs.keep k2 _ _ t1
    refine ⟨fun i d ed => ?_, ⟨vs, s2.sq, by rw [t1.length]; exact Nat.le_refl _⟩⟩
    obtain ⟨u, eu, ru⟩ := t2.get ed
    refine ⟨⟨vs, u, s2.sq, eu⟩, fun x H' y => ?_⟩
    obtain ⟨rfl, y⟩ := y
    have e3 : some u = some x := eu.symm.trans (y vs s2.sq)
    cases e3
    exact ⟨Keeps.refl _, rh2, ru⟩
  · exact q1.elim
def iTp (te : DTE) : DTI := fun σ h P => te σ h fun d h1 => match d with
  | .tup xs => P xs (fun _ => True) h1
  | _ => False
theorem di_tup (he : DE X e te) : DI X tg e (iTp te) := by
  refine ⟨piImp (pi_tup he.pe) ?_⟩
  rintro σ H R ⟨dσ, h, P, rs, rh, q, f⟩
  refine ⟨dσ, h, _, rs, rh, q, fun d h1 v H1 q1 k1 rh1 r1 => ?_⟩
  split at q1
  · obtain ⟨a, vs, rfl, s1, t1⟩ := r1
    refine ⟨_, rfl, ⟨vs, s1⟩, f _ _ _ _ _ q1 k1 rh1 fun H2 h2 k2 rh2 _ => ?_⟩
    have s2 := SqT.keep k2 s1
    have t2 := RDs.keep k2 _ _ t1
    refine ⟨fun i d ed => ?_, ⟨vs, s2, by rw [t1.length]; exact Nat.le_refl _⟩⟩
    obtain ⟨u, eu, ru⟩ := t2.get ed
    refine ⟨⟨vs, u, s2, eu⟩, fun x H' y => ?_⟩
    obtain ⟨rfl, y⟩ := y
    have e3 : some u = some x := eu.symm.trans (y vs s2)
    cases e3
    exact ⟨Keeps.refl _, rh2, ru⟩
  · exact q1.elim
/-- the signs of a text -/
def signs (x : Str) : List D := x.cps.toList.map fun c => .str ⟨#[c]⟩
def iSt (te : DTE) : DTI := fun σ h P => te σ h fun d h1 => match d with
  | .str x => P (signs x) (fun _ => True) h1
  | _ => False
theorem di_str (he : DE X e te) : DI X tg e (iSt te) := by
  refine ⟨piImp (pi_str he.pe) ?_⟩
  rintro σ H R ⟨dσ, h, P, rs, rh, q, f⟩
  refine ⟨dσ, h, _, rs, rh, q, fun d h1 v H1 q1 k1 rh1 r1 => ?_⟩
  split at q1
  · rename_i x
    cases r1
    refine ⟨x, rfl, f _ _ _ _ _ q1 k1 rh1 fun H2 h2 k2 rh2 _ => ?_⟩
    refine ⟨fun i d ed => ?_, ?_⟩
    · unfold signs at ed
      rw [List.getElem?_map] at ed
      obtain ⟨c, ec, rfl⟩ := Option.map_eq_some_iff.mp ed
      rw [Array.getElem?_toList] at ec
      have hi : i < x.cps.size := (Array.getElem?_eq_some_iff.mp ec).1
      refine ⟨hi, fun y H' z => ?_⟩
      obtain ⟨rfl, c', ec', rfl⟩ := z
      rw [ec] at ec'; cases ec'
      exact ⟨Keeps.refl _, rh2, rfl⟩
    · show x.cps.size ≤ (signs x).length
      unfold signs
      rw [List.length_map, Array.length_toList]
      exact Nat.le_refl _
  · exact q1.elim
/-- numbers in order -/
def numsFrom (lo : Int) (n : Nat) : List D := (List.range n).map fun (i : Nat) => .int (lo + i)
def iR1 (ta : DTA) : DTI := fun σ h P => ta σ h fun ds h1 => match ds with
  | [.int j] => (-(2 ^ 62) ≤ j ∧ j < 2 ^ 62) ∧ P (numsFrom 0 j.toNat) (fun _ => True) h1
  | _ => False
def iR2 (ta : DTA) : DTI := fun σ h P => ta σ h fun ds h1 => match ds with
  | [.int i, .int j] => (-(2 ^ 62) ≤ i ∧ i < 2 ^ 62 ∧ -(2 ^ 62) ≤ j ∧ j < 2 ^ 62) ∧ P (numsFrom i (j - i).toNat) (fun _ => True) h1
  | _ => False
theorem itr_ok {K : PySem.W.Frag} {w : World} {H1 : Hp} {lo : Int} {n : Nat} : ItOk K w H1 (Itr lo n) (numsFrom lo n) (fun _ => True) := by
  intro H2 h2 k2 rh2 _
  refine ⟨fun i d ed => ?_, ?_⟩
  · unfold numsFrom at ed
    rw [List.getElem?_map] at ed
    obtain ⟨c, ec, rfl⟩ := Option.map_eq_some_iff.mp ed
    obtain ⟨hi, hc⟩ := List.getElem?_eq_some_iff.mp ec
    rw [List.length_range] at hi
    rw [List.getElem_range] at hc
    subst hc
    refine ⟨hi, fun y H' z => ?_⟩
    obtain ⟨rfl, rfl⟩ := z
    exact ⟨Keeps.refl _, rh2, rfl⟩
  · show n ≤ (numsFrom lo n).length
    unfold numsFrom
    rw [List.length_map, List.length_range]
    exact Nat.le_refl _
theorem di_range1 {a : Expr} {ta : DTA} {p : Pos} (hg : Gl X "range") (hm : X.mg "range" = none) (ha : DA X [a] ta) (hs : starEach [a] X.env = [(false, eval a X.env)] := by rfl) : DI X tg (.Call (.Name "range" p) [a] [] pos) (iR1 ta) := by
  refine ⟨piImp (pi_range1 hg hm ha.pa hs) ?_⟩
  rintro σ H R ⟨dσ, h, P, rs, rh, q, f⟩
  refine ⟨dσ, h, _, rs, rh, q, fun ds h1 vs H1 q1 k1 rh1 r1 => ?_⟩
  split at q1
  · obtain ⟨v, rfl, rv⟩ := r1.one
    cases rv
    exact ⟨_, rfl, q1.1.1, q1.1.2, f _ _ _ _ _ q1.2 k1 rh1 itr_ok⟩
  · exact q1.elim
theorem di_range2 {a b : Expr} {ta : DTA} {p : Pos} (hg : Gl X "range") (hm : X.mg "range" = none) (ha : DA X [a, b] ta) (hs : starEach [a, b] X.env = [(false, eval a X.env), (false, eval b X.env)] := by rfl) (hs2 : starEach [b] X.env = [(false, eval b X.env)] := by rfl) :
    DI X tg (.Call (.Name "range" p) [a, b] [] pos) (iR2 ta) := by
  refine ⟨piImp (pi_range2 hg hm ha.pa hs hs2) ?_⟩
  rintro σ H R ⟨dσ, h, P, rs, rh, q, f⟩
  refine ⟨dσ, h, _, rs, rh, q, fun ds h1 vs H1 q1 k1 rh1 r1 => ?_⟩
  split at q1
  · obtain ⟨v, u, rfl, rv, ru⟩ := r1.two
    cases rv; cases ru
    exact ⟨_, _, rfl, q1.1, f _ _ _ _ _ q1.2 k1 rh1 itr_ok⟩
  · exact q1.elim
/-- enumerate(list) to a written pair -/
def numbered (xs : List D) : List D := (List.range xs.length).zipWith (fun (i : Nat) d => .tup [.int (i : Int), d]) xs
theorem numbered_get {xs : List D} {i : Nat} {d : D} (e : (numbered xs)[i]? = some d) : ∃ x, xs[i]? = some x ∧ d = .tup [.int (i : Int), x] := by
  unfold numbered at e
  rw [List.getElem?_zipWith_eq_some] at e
  obtain ⟨j, x, e1, e2, rfl⟩ := e
  obtain ⟨hi, hc⟩ := List.getElem?_eq_some_iff.mp e1
  rw [List.getElem_range] at hc
  subst hc
  exact ⟨x, e2, rfl⟩
theorem numbered_length (xs : List D) : (numbered xs).length = xs.length := by unfold numbered; rw [List.length_zipWith, List.length_range, Nat.min_self]
def iEn (ta : DTA) : DTI := fun σ h P => ta σ h fun ds h1 => match ds with
  | [.ref a] => lstAt h1 a fun xs => P (numbered xs) (fun h => h a = some (.lst xs)) h1
  | _ => False
theorem di_enum {ta : DTA} {p tpos : Pos} {elts : List Expr} {kk : Nat} (hg : Gl X "enumerate") (hm : X.mg "enumerate" = none) (ha : DA X [e] ta) (hs : starEach [e] X.env = [(false, eval e X.env)] := by rfl) :
    DI X (.Tuple elts kk tpos) (.Call (.Name "enumerate" p) [e] [] pos) (iEn ta) := by
  refine ⟨piImp (pi_enum hg hm ha.pa hs) ?_⟩
  rintro σ H R ⟨dσ, h, P, rs, rh, q, f⟩
  refine ⟨dσ, h, _, rs, rh, q, fun ds h1 vs H1 q1 k1 rh1 r1 => ?_⟩
  split at q1
  · obtain ⟨v, rfl, rv⟩ := r1.one
    cases rv
    obtain ⟨xs, e1, q1⟩ := of_lstAt q1
    obtain ⟨vs, g1, t1⟩ := rh1.lst e1
    refine ⟨_, vs, rfl, SqL.of g1, f _ _ _ _ _ q1 k1 rh1 fun H2 h2 k2 rh2 s2 => ?_⟩
    obtain ⟨us, g2, t2⟩ := rh2.lst s2
    refine ⟨fun i d ed => ?_, ⟨us, SqL.of g2, by rw [t2.length, numbered_length]; exact Nat.le_refl _⟩⟩
    obtain ⟨y, ey, rfl⟩ := numbered_get ed
    obtain ⟨u, eu, ru⟩ := t2.get ey
    refine ⟨⟨us, u, SqL.of g2, eu⟩, fun x H' z => ?_⟩
    obtain ⟨T, x', rfl, nT, rfl, hx⟩ := z
    have e3 : some u = some x' := eu.symm.trans (hx us (SqL.of g2))
    cases e3
    have n := RH.newT (vs := [V.int (i : Nat), u]) rh2 nT
    exact ⟨n.1, n.2, RD.newT nT ⟨_, _, rfl, rfl, _, _, rfl, ru, rfl⟩⟩
  · exact q1.elim

/-! ### for -/
def forGo (g : DTG) (tb : DTS) (st : DH → Prop) (E : DEnds) : List D → DSt → DH → Prop
  | [], σ, h => st h ∧ E.nx σ h
  | x :: xs, σ, h => st h ∧ g x σ h fun σ1 h1 => tb { nx := forGo g tb st E xs, rt := E.rt, bk := E.nx, ct := forGo g tb st E xs } σ1 h1
theorem forGo_st {g : DTG} {tb : DTS} {st : DH → Prop} {E : DEnds} {xs : List D} {σ : DSt} {h : DH} (q : forGo g tb st E xs σ h) : st h := by
  cases xs with
  | nil => exact q.1
  | cons x xs => exact q.1
def sFor (ti : DTI) (g : DTG) (tb : DTS) : DTS := fun E σ h => ti σ h fun xs st h1 => forGo g tb st E xs σ h1
theorem ds_for {iter : Expr} {body : List Stmt} {ti : DTI} {vs : List Nat} {g : DTG} {tb : DTS} (hp : PassesOwn (model X.prog X.w) X.A X.env X.xe) (hc : X.calm = true) (hi : DI X tg iter ti) (hg : DG X vs tg g) (hb : DSs X body tb)
    (hs : ∀ x, foldedSetIterable iter X.env x = pure x := by intro _; rfl) : DS X (.For tg iter body [] pos) (sFor ti g tb) := by
  refine ⟨psImp (ps_for hp hc hi.pi hg.pg hb.pss hs) ?_⟩
  rintro Q σ H ⟨dσ, h, E, rs, rh, q, f⟩
  refine ⟨dσ, h, _, rs, rh, q, fun xs st h1 J H1 q1 k1 rh1 ok => ?_⟩
  refine ⟨fun i m σ' H' => ∃ dσ' h', m = xs.length - i ∧ i ≤ xs.length ∧ Keeps H1 H' ∧ RH X.K X.w H' h' ∧ RS X.K H' dσ' σ' ∧ forGo g tb st E (xs.drop i) dσ' h',
    ⟨xs.length, dσ, h1, by simp, Nat.zero_le _, Keeps.refl _, rh1, rs.keep k1, q1⟩, ?_⟩
  rintro i m σ' H' ⟨dσ', h', rfl, hi', k', rh', rs', q'⟩
  obtain ⟨o1, o2⟩ := ok H' h' k' rh' (forGo_st q')
  by_cases hlt : i < xs.length
  · rw [List.drop_eq_getElem_cons hlt] at q'
    obtain ⟨p1, p2⟩ := o1 i _ (List.getElem?_eq_getElem hlt)
    refine .inr ⟨p1, fun σ2 H2 => ∃ dσ2 h2, Keeps H1 H2 ∧ RH X.K X.w H2 h2 ∧ RS X.K H2 dσ2 σ2 ∧ forGo g tb st E (xs.drop (i + 1)) dσ2 h2, ?_, fun x H2 y => ?_⟩
    · rintro σ2 H2 ⟨dσ2, h2, z⟩
      exact ⟨xs.length - (i + 1), by omega, dσ2, h2, rfl, hlt, z⟩
    · obtain ⟨k2, rh2, r2⟩ := p2 x H2 y
      refine ⟨_, dσ', h', _, r2, rs'.keep k2, rh2, q'.2, fun dσ3 h3 σ3 H3 q3 k3 rh3 rs3 _ => ?_⟩
      have kk := k1.trans (k'.trans (k2.trans k3))
      refine ⟨dσ3, h3, _, rs3, rh3, q3, ⟨fun dσ4 h4 σ4 H4 q4 k4 rh4 rs4 => ?_, f.rt.keep kk, f.nx.keep kk, fun dσ4 h4 σ4 H4 q4 k4 rh4 rs4 => ?_⟩⟩
      · exact ⟨dσ4, h4, k'.trans (k2.trans (k3.trans k4)), rh4, rs4, q4⟩
      · exact ⟨dσ4, h4, k'.trans (k2.trans (k3.trans k4)), rh4, rs4, q4⟩
  · have e : i = xs.length := by omega
    subst e
    rw [List.drop_length] at q'
    exact .inl ⟨o2, f.nx _ _ _ _ q'.2 (k1.trans k') rh' rs'⟩
/-- the loop by what holds between two turns -/
theorem forGo_inv {g : DTG} {tb : DTS} {st : DH → Prop} {E : DEnds} {σ : DSt} {h : DH} (I : List D → DSt → DH → Prop) : ∀ (xs : List D), I xs σ h →
    (∀ ys σ h, I ys σ h → st h) → (∀ σ h, I [] σ h → E.nx σ h) →
    (∀ x ys σ h, x ∈ xs → I (x :: ys) σ h → g x σ h fun σ1 h1 => ∀ nx : DSt → DH → Prop, (∀ σ h, I ys σ h → nx σ h) → tb { nx := nx, rt := E.rt, bk := E.nx, ct := nx } σ1 h1) →
    (∀ x σ h (P P' : DSt → DH → Prop), (∀ σ h, P σ h → P' σ h) → g x σ h P → g x σ h P') → forGo g tb st E xs σ h := by
  intro xs h0 hst hend hstep mono
  induction xs generalizing σ h with
  | nil => exact ⟨hst _ _ _ h0, hend _ _ h0⟩
  | cons x ys ih =>
    refine ⟨hst _ _ _ h0, mono _ _ _ _ _ (fun σ1 h1 q => ?_) (hstep x ys σ h List.mem_cons_self h0)⟩
    exact q _ fun σ2 h2 i2 => ih i2 fun y zs σ h hy => hstep y zs σ h (List.mem_cons_of_mem _ hy)

/-! ### while -/
def whGo (c : DTT) (tb : DTS) (E : DEnds) : Nat → DSt → DH → Prop
  | 0, _, _ => False
  | n + 1, σ, h => c σ h fun b h1 => if b = true then tb { nx := whGo c tb E n, rt := E.rt, bk := E.nx, ct := whGo c tb E n } σ h1 else E.nx σ h1
def sWhile (c : DTT) (tb : DTS) : DTS := fun E σ h => ∃ n, whGo c tb E n σ h
theorem ds_while {c : Expr} {body : List Stmt} {tc : DTT} {tb : DTS} (hp : PassesOwn (model X.prog X.w) X.A X.env X.xe) (hc : DT X c tc) (hb : DSs X body tb) : DS X (.While c body [] pos) (sWhile tc tb) := by
  refine ⟨psImp (ps_while hp hc.pt hb.pss) ?_⟩
  rintro Q σ H ⟨dσ, h, E, rs, rh, ⟨n, q⟩, f⟩
  refine ⟨fun m σ' H' => ∃ dσ' h', Keeps H H' ∧ RH X.K X.w H' h' ∧ RS X.K H' dσ' σ' ∧ whGo tc tb E m dσ' h', ⟨n, dσ, h, Keeps.refl _, rh, rs, q⟩, ?_⟩
  rintro m σ' H' ⟨dσ', h', k', rh', rs', q'⟩
  cases m with
  | zero => exact q'.elim
  | succ m =>
    refine ⟨dσ', h', _, rs', rh', q', fun b h1 H1 q1 k1 rh1 => ?_⟩
    cases b with
    | false =>
      rw [if_neg Bool.false_ne_true] at q1 ⊢
      exact f.nx _ _ _ _ q1 (k'.trans k1) rh1 (rs'.keep k1)
    | true =>
      rw [if_pos rfl] at q1 ⊢
      have kk := k'.trans k1
      refine ⟨fun σ2 H2 => ∃ dσ2 h2, Keeps H H2 ∧ RH X.K X.w H2 h2 ∧ RS X.K H2 dσ2 σ2 ∧ whGo tc tb E m dσ2 h2, fun σ2 H2 z => ⟨m, Nat.lt_succ_self _, z⟩, ?_⟩
      refine ⟨dσ', h1, _, rs'.keep k1, rh1, q1, ⟨fun dσ4 h4 σ4 H4 q4 k4 rh4 rs4 => ?_, f.rt.keep kk, f.nx.keep kk, fun dσ4 h4 σ4 H4 q4 k4 rh4 rs4 => ?_⟩⟩
      · exact ⟨dσ4, h4, kk.trans k4, rh4, rs4, q4⟩
      · exact ⟨dσ4, h4, kk.trans k4, rh4, rs4, q4⟩
end
end DL
/-! D6: list comprehensions, methods, own defs and classes. -/
namespace DL
open PySem PySem.Spec PyProof.Rows L2

/-! ### list comprehensions -/
def dwipe (σ : DSt) : List Nat → DSt
  | [] => σ
  | v :: vs => (dwipe σ vs).set v none
theorem RS.wipe {K : PySem.W.Frag} {H : Hp} {dσ : DSt} {σ : L2.St} (r : RS K H dσ σ) : ∀ vs, RS K H (dwipe dσ vs) (L2.wipe σ vs)
  | [] => r
  | v :: vs => (RS.wipe r vs).wipe1 v
theorem wipe_in {σ : L2.St} {i : Nat} : ∀ {vs : List Nat}, i ∈ vs → i < σ.length → (wipe σ vs)[i]? = some none
  | [], h, _ => by simp at h
  | v :: vs, h, hl => by
    show ((wipe σ vs).set v none)[i]? = some none
    by_cases e : v = i
    · subst e
      exact List.getElem?_set_self (by rw [wipe_length]; exact hl)
    · rw [List.getElem?_set_ne e]
      rcases List.mem_cons.mp h with h | h
      · exact absurd h.symm e
      · exact wipe_in h hl
theorem wipe_same {σ σ2 : L2.St} {vs ws : List Nat} (s : SameOff ws (wipe σ vs) σ2) (hw : ∀ i ∈ ws, i ∈ vs) : wipe σ2 vs = wipe σ vs := by
  have hl : σ2.length = σ.length := s.1.trans (wipe_length σ vs)
  refine List.ext_getElem? fun j => ?_
  by_cases hj : j ∈ vs
  · by_cases h : j < σ.length
    · rw [wipe_in hj h, wipe_in hj (by rw [hl]; exact h)]
    · rw [List.getElem?_eq_none (by rw [wipe_length]; omega), List.getElem?_eq_none (by rw [wipe_length]; omega)]
  · rw [wipe_out hj, s.2 j (fun z => hj (hw j z))]
structure DTs (X : Cx) (ifs : List Expr) (t : DTT) : Prop where
  pts : PTs X ifs (LT X.K X.w t)
def dYes : DTT := fun _ h P => P true h
section
variable {X : Cx} {pos : Pos}
theorem dts_nil : DTs X [] dYes := ⟨⟨fun pins s σ H Q I ⟨dσ, h, P, rs, rh, q, f⟩ => pts_nil.run pins s σ H Q I (f _ _ _ q (Keeps.refl _) rh)⟩⟩
theorem dts_one {c : Expr} {t : DTT} (h : DT X c t) : DTs X [c] t := ⟨pts_one h.pt⟩
def lcGo (g : DTG) (tt : DTT) (te : DTE) (st : DH → Prop) (σ : DSt) (L : Addr) : List D → DH → (DH → Prop) → Prop
  | [], h, P => st h ∧ P h
  | x :: xs, h, P => st h ∧ g x σ h fun σ2 h2 => tt σ2 h2 fun b h3 => if b = true then te σ2 h3 fun y h4 => lstAt h4 L fun acc => acc.length < sizeLine ∧ lcGo g tt te st σ L xs (put h4 L (.lst (acc ++ [y]))) P
    else lcGo g tt te st σ L xs h3 P
theorem lcGo_st {g : DTG} {tt : DTT} {te : DTE} {st : DH → Prop} {σ : DSt} {L : Addr} {xs : List D} {h : DH} {P : DH → Prop} (q : lcGo g tt te st σ L xs h P) : st h := by
  cases xs with
  | nil => exact q.1
  | cons x xs => exact q.1
def dLc (ti : DTI) (g : DTG) (tt : DTT) (te : DTE) (vs : List Nat) : DTE := fun σ h P => ti σ h fun xs st h1 => fresh h1 (.lst []) fun L h2 => lcGo g tt te st (dwipe σ vs) L xs h2 (P (.ref L))
theorem liftLc {K : PySem.W.Frag} {w : World} {ti : DTI} {g : DTG} {tt : DTT} {te : DTE} {vs ws : List Nat} (hw : ∀ i ∈ ws, i ∈ vs) {σ : L2.St} {H : Hp} {Q : VK} (q : LE K w (dLc ti g tt te vs) σ H Q) :
    tLc (LI K w ti) (LG K w ws g) (LT K w tt) (LE K w te) vs σ H Q := by
  obtain ⟨dσ, h, P, rs, rh, q, f⟩ := q
  refine ⟨dσ, h, _, rs, rh, q, fun xs st h1 J H1 q1 k1 rh1 ok L nL => ?_⟩
  have n := RH.newL (ds := []) (vs := []) rh1 nL rfl
  have rsw := (rs.keep (k1.trans n.1)).wipe vs
  refine ⟨fun i m H' => ∃ h', m = xs.length - i ∧ i ≤ xs.length ∧ Keeps (upd H1 L (.lst [])) H' ∧ RH K w H' h' ∧ lcGo g tt te st (dwipe dσ vs) L (xs.drop i) h' (P (.ref L)),
    ⟨xs.length, put h1 L (.lst []), by simp, Nat.zero_le _, Keeps.refl _, n.2, q1 L (rh1.free nL)⟩, ?_⟩
  rintro i m H' ⟨h', rfl, hi', k', rh', q'⟩
  obtain ⟨o1, o2⟩ := ok H' h' (n.1.trans k') rh' (lcGo_st q')
  by_cases hlt : i < xs.length
  · rw [List.drop_eq_getElem_cons hlt] at q'
    obtain ⟨p1, p2⟩ := o1 i _ (List.getElem?_eq_getElem hlt)
    refine .inr ⟨p1, fun H2 => ∃ h2, Keeps (upd H1 L (.lst [])) H2 ∧ RH K w H2 h2 ∧ lcGo g tt te st (dwipe dσ vs) L (xs.drop (i + 1)) h2 (P (.ref L)), ?_, fun x H2 y => ?_⟩
    · rintro H2 ⟨h2, z⟩
      exact ⟨xs.length - (i + 1), by omega, h2, rfl, hlt, z⟩
    · obtain ⟨k2, rh2, r2⟩ := p2 x H2 y
      refine ⟨_, dwipe dσ vs, h', _, r2, rsw.keep (k'.trans k2), rh2, q'.2, fun dσ3 h3 σ3 H3 q3 k3 rh3 rs3 so => ⟨wipe_same so hw, ?_⟩⟩
      refine ⟨dσ3, h3, _, rs3, rh3, q3, fun b h4 H4 q4 k4 rh4 => ?_⟩
      cases b with
      | false =>
        rw [if_neg Bool.false_ne_true] at q4 ⊢
        exact ⟨h4, k'.trans (k2.trans (k3.trans k4)), rh4, q4⟩
      | true =>
        rw [if_pos rfl] at q4 ⊢
        refine ⟨dσ3, h4, _, rs3.keep k4, rh4, q4, fun d h5 v H5 q5 k5 rh5 r5 => ?_⟩
        obtain ⟨acc, e5, z5, q5⟩ := of_lstAt q5
        obtain ⟨us, g5, t5⟩ := rh5.lst e5
        have n5 := RH.setL rh5 g5 (t5.append (RDs.cons r5 (show RDs K H5 [] [] from rfl)))
        exact ⟨us, g5, by rw [t5.length]; exact z5, _, k'.trans (k2.trans (k3.trans (k4.trans (k5.trans n5.1)))), n5.2, q5⟩
  · have e : i = xs.length := by omega
    subst e
    rw [List.drop_length] at q'
    exact .inl ⟨o2, f _ _ _ _ q'.2 (k1.trans (n.1.trans k')) rh' rfl⟩
theorem de_lc {elt tg iter : Expr} {ifs : List Expr} {scope : Scope} {own : List (Str × Nat)} {ws : List Nat} {ti : DTI} {g : DTG} {tt : DTT} {te : DTE} (hc : X.calm = true) (hN : X.N.Nodup) (hi : DI X tg iter ti) (ok : BlkOk X.N X.env.scope scope own) (hw : ∀ i ∈ ws, i ∈ own.map (·.2))
    (hg : ∀ (s : Shared) (H : Hp) (C : Addr) (cl : List (Str × Addr)) (fp : List Addr), DG (X.blk s H scope (compEnvC scope cl C X.env) fp) ws tg g) (ht : ∀ (s : Shared) (H : Hp) (C : Addr) (cl : List (Str × Addr)) (fp : List Addr), DTs (X.blk s H scope (compEnvC scope cl C X.env) fp) ifs tt)
    (he : ∀ (s : Shared) (H : Hp) (C : Addr) (cl : List (Str × Addr)) (fp : List Addr), DE (X.blk s H scope (compEnvC scope cl C X.env) fp) elt te) (hs : ∀ x, foldedSetIterable iter X.env x = pure x := by intro _; rfl) :
    DE X (.ListComp elt [⟨tg, iter, ifs, 0⟩] scope pos) (dLc ti g tt te (own.map (·.2))) :=
  ⟨peImp (pe_lc (te := LE X.K X.w te) hc hN hi.pi ok (fun s H C cl fp => (hg s H C cl fp).pg) (fun s H C cl fp => (ht s H C cl fp).pts) (fun s H C cl fp => (he s H C cl fp).pe) hs) fun _ _ _ q => liftLc hw q⟩
theorem ds_setLc {i : Nat} {y : Str} {py : Pos} {elt tg iter : Expr} {ifs : List Expr} {scope : Scope} {own : List (Str × Nat)} {ws : List Nat} {spos : Pos} {ti : DTI} {g : DTG} {tt : DTT} {te : DTE} (hc : X.calm = true) (hN : X.N.Nodup) (hy : X.N[i]? = some y) (hyl : X.env.scope.names.lookup y = some .local)
    (hsw : swapsWith (.ListComp elt [⟨tg, iter, ifs, 0⟩] scope pos) (some (.Name y py)) spos.line X.env = pure true) (hi : DI X tg iter ti) (ok : BlkOk X.N X.env.scope scope own) (hw : ∀ i ∈ ws, i ∈ own.map (·.2))
    (hg : ∀ (s : Shared) (H : Hp) (C : Addr) (cl : List (Str × Addr)) (fp : List Addr), DG (X.blk s H scope (compEnvC scope cl C X.env) fp) ws tg g) (ht : ∀ (s : Shared) (H : Hp) (C : Addr) (cl : List (Str × Addr)) (fp : List Addr), DTs (X.blk s H scope (compEnvC scope cl C X.env) fp) ifs tt)
    (he : ∀ (s : Shared) (H : Hp) (C : Addr) (cl : List (Str × Addr)) (fp : List Addr), DE (X.blk s H scope (compEnvC scope cl C X.env) fp) elt te) (hs : ∀ x, foldedSetIterable iter X.env x = pure x := by intro _; rfl) :
    DS X (.Assign [.Name y py] (.ListComp elt [⟨tg, iter, ifs, 0⟩] scope pos) spos) (sAsg (dLc ti g tt te (own.map (·.2))) (gNm i)) := by
  refine ⟨psImp (ps_setLc (te := LE X.K X.w te) (tt := LT X.K X.w tt) (g := LG X.K X.w ws g) hc hN hy hyl hsw hi.pi ok (fun s H C cl fp => (hg s H C cl fp).pg) (fun s H C cl fp => (ht s H C cl fp).pts) (fun s H C cl fp => (he s H C cl fp).pe) hs) ?_⟩
  rintro Q σ H ⟨dσ, h, E, rs, rh, q, f⟩
  exact liftLc hw ⟨dσ, h, _, rs, rh, q, fun d h1 v H1 q1 k1 rh1 r1 => f.nx _ _ _ _ q1 k1 rh1 ((rs.keep k1).set i r1)⟩
/-- two fors -/
def lc2Go (g : DTG) (tt : DTT) (ti1 : DTI) (g1 : DTG) (tt1 : DTT) (te : DTE) (vs1 : List Nat) (st : DH → Prop) (σ : DSt) (L : Addr) : List D → DH → (DH → Prop) → Prop
  | [], h, P => st h ∧ P h
  | x :: xs, h, P => st h ∧ g x σ h fun σ2 h2 => tt σ2 h2 fun b h3 => if b = true then ti1 σ2 h3 fun ys st1 h4 => lcGo g1 tt1 te st1 (dwipe σ2 vs1) L ys h4 fun h5 => lc2Go g tt ti1 g1 tt1 te vs1 st σ L xs h5 P
    else lc2Go g tt ti1 g1 tt1 te vs1 st σ L xs h3 P
theorem lc2Go_st {g : DTG} {tt : DTT} {ti1 : DTI} {g1 : DTG} {tt1 : DTT} {te : DTE} {vs1 : List Nat} {st : DH → Prop} {σ : DSt} {L : Addr} {xs : List D} {h : DH} {P : DH → Prop} (q : lc2Go g tt ti1 g1 tt1 te vs1 st σ L xs h P) : st h := by
  cases xs with
  | nil => exact q.1
  | cons x xs => exact q.1
def dLc2 (ti : DTI) (g : DTG) (tt : DTT) (ti1 : DTI) (g1 : DTG) (tt1 : DTT) (te : DTE) (vs vs1 : List Nat) : DTE := fun σ h P => ti σ h fun xs st h1 => fresh h1 (.lst []) fun L h2 => lc2Go g tt ti1 g1 tt1 te vs1 st (dwipe σ vs) L xs h2 (P (.ref L))
theorem liftLc2 {K : PySem.W.Frag} {w : World} {ti ti1 : DTI} {g g1 : DTG} {tt tt1 : DTT} {te : DTE} {vs vs1 ws ws1 : List Nat} (hw : ∀ i ∈ ws, i ∈ vs) (hw1 : ∀ i ∈ ws1, i ∈ vs1) {σ : L2.St} {H : Hp} {Q : VK} (q : LE K w (dLc2 ti g tt ti1 g1 tt1 te vs vs1) σ H Q) :
    tLc2 (LI K w ti) (LG K w ws g) (LT K w tt) (LI K w ti1) (LG K w ws1 g1) (LT K w tt1) (LE K w te) vs vs1 σ H Q := by
  obtain ⟨dσ, h, P, rs, rh, q, f⟩ := q
  refine ⟨dσ, h, _, rs, rh, q, fun xs st h1 J H1 q1 k1 rh1 ok L nL => ?_⟩
  have n := RH.newL (ds := []) (vs := []) rh1 nL rfl
  have rsw := (rs.keep (k1.trans n.1)).wipe vs
  refine ⟨fun i m H' => ∃ h', m = xs.length - i ∧ i ≤ xs.length ∧ Keeps (upd H1 L (.lst [])) H' ∧ RH K w H' h' ∧ lc2Go g tt ti1 g1 tt1 te vs1 st (dwipe dσ vs) L (xs.drop i) h' (P (.ref L)),
    ⟨xs.length, put h1 L (.lst []), by simp, Nat.zero_le _, Keeps.refl _, n.2, q1 L (rh1.free nL)⟩, ?_⟩
  rintro i m H' ⟨h', rfl, hi', k', rh', q'⟩
  obtain ⟨o1, o2⟩ := ok H' h' (n.1.trans k') rh' (lc2Go_st q')
  by_cases hlt : i < xs.length
  · rw [List.drop_eq_getElem_cons hlt] at q'
    obtain ⟨p1, p2⟩ := o1 i _ (List.getElem?_eq_getElem hlt)
    refine .inr ⟨p1, fun H2 => ∃ h2, Keeps (upd H1 L (.lst [])) H2 ∧ RH K w H2 h2 ∧ lc2Go g tt ti1 g1 tt1 te vs1 st (dwipe dσ vs) L (xs.drop (i + 1)) h2 (P (.ref L)), ?_, fun x H2 y => ?_⟩
    · rintro H2 ⟨h2, z⟩
      exact ⟨xs.length - (i + 1), by omega, h2, rfl, hlt, z⟩
    · obtain ⟨k2, rh2, r2⟩ := p2 x H2 y
      refine ⟨_, dwipe dσ vs, h', _, r2, rsw.keep (k'.trans k2), rh2, q'.2, fun dσ3 h3 σ3 H3 q3 k3 rh3 rs3 so => ⟨wipe_same so hw, ?_⟩⟩
      refine ⟨dσ3, h3, _, rs3, rh3, q3, fun b h4 H4 q4 k4 rh4 => ?_⟩
      cases b with
      | false =>
        rw [if_neg Bool.false_ne_true] at q4 ⊢
        exact ⟨h4, k'.trans (k2.trans (k3.trans k4)), rh4, q4⟩
      | true =>
        rw [if_pos rfl] at q4 ⊢
        have kA := k'.trans (k2.trans (k3.trans k4))
        refine ⟨dσ3, h4, _, rs3.keep k4, rh4, q4, fun ys st1 h5 J1 H5 q5 k5 rh5 ok1 => ?_⟩
        have rsw1 := (rs3.keep (k4.trans k5)).wipe vs1
        refine ⟨fun j m H' => ∃ h', m = ys.length - j ∧ j ≤ ys.length ∧ Keeps H5 H' ∧ RH K w H' h' ∧ lcGo g1 tt1 te st1 (dwipe dσ3 vs1) L (ys.drop j) h' (fun h5 => lc2Go g tt ti1 g1 tt1 te vs1 st (dwipe dσ vs) L (xs.drop (i + 1)) h5 (P (.ref L))),
          ⟨ys.length, h5, by simp, Nat.zero_le _, Keeps.refl _, rh5, q5⟩, ?_⟩
        rintro j m H6 ⟨h6, rfl, hj, k6, rh6, q6⟩
        obtain ⟨o3, o4⟩ := ok1 H6 h6 k6 rh6 (lcGo_st q6)
        by_cases hlj : j < ys.length
        · rw [List.drop_eq_getElem_cons hlj] at q6
          obtain ⟨p3, p4⟩ := o3 j _ (List.getElem?_eq_getElem hlj)
          refine .inr ⟨p3, fun H7 => ∃ h7, Keeps H5 H7 ∧ RH K w H7 h7 ∧ lcGo g1 tt1 te st1 (dwipe dσ3 vs1) L (ys.drop (j + 1)) h7 (fun h5 => lc2Go g tt ti1 g1 tt1 te vs1 st (dwipe dσ vs) L (xs.drop (i + 1)) h5 (P (.ref L))), ?_, fun x7 H7 y7 => ?_⟩
          · rintro H7 ⟨h7, z⟩
            exact ⟨ys.length - (j + 1), by omega, h7, rfl, hlj, z⟩
          · obtain ⟨k7, rh7, r7⟩ := p4 x7 H7 y7
            refine ⟨_, dwipe dσ3 vs1, h6, _, r7, rsw1.keep (k6.trans k7), rh7, q6.2, fun dσ8 h8 σ8 H8 q8 k8 rh8 rs8 so8 => ⟨wipe_same so8 hw1, ?_⟩⟩
            refine ⟨dσ8, h8, _, rs8, rh8, q8, fun b h9 H9 q9 k9 rh9 => ?_⟩
            cases b with
            | false =>
              rw [if_neg Bool.false_ne_true] at q9 ⊢
              exact ⟨h9, k6.trans (k7.trans (k8.trans k9)), rh9, q9⟩
            | true =>
              rw [if_pos rfl] at q9 ⊢
              refine ⟨dσ8, h9, _, rs8.keep k9, rh9, q9, fun d hx v Hx qx kx rhx rx => ?_⟩
              obtain ⟨acc, ex, zx, qx⟩ := of_lstAt qx
              obtain ⟨us, gx, tx⟩ := rhx.lst ex
              have nx := RH.setL rhx gx (tx.append (RDs.cons rx (show RDs K Hx [] [] from rfl)))
              exact ⟨us, gx, by rw [tx.length]; exact zx, _, k6.trans (k7.trans (k8.trans (k9.trans (kx.trans nx.1)))), nx.2, qx⟩
        · have e : j = ys.length := by omega
          subst e
          rw [List.drop_length] at q6
          exact .inl ⟨o4, _, kA.trans (k5.trans k6), rh6, q6.2⟩
  · have e : i = xs.length := by omega
    subst e
    rw [List.drop_length] at q'
    exact .inl ⟨o2, f _ _ _ _ q'.2 (k1.trans (n.1.trans k')) rh' rfl⟩
abbrev InBlk (X : Cx) (scope : Scope) (p : Cx → Prop) : Prop := ∀ (s : Shared) (H : Hp) (C : Addr) (cl : List (Str × Addr)) (fp : List Addr), p (X.blk s H scope (compEnvC scope cl C X.env) fp)
theorem de_lc2 {elt tg iter tg1 iter1 : Expr} {ifs ifs1 : List Expr} {scope : Scope} {own : List (Str × Nat)} {vs1 ws ws1 : List Nat} {ti ti1 : DTI} {g g1 : DTG} {tt tt1 : DTT} {te : DTE} (hc : X.calm = true) (hN : X.N.Nodup) (hi : DI X tg iter ti) (ok : BlkOk X.N X.env.scope scope own)
    (hv : ∀ i ∈ vs1, i ∈ own.map (·.2)) (hw : ∀ i ∈ ws, i ∈ own.map (·.2)) (hw1 : ∀ i ∈ ws1, i ∈ vs1)
    (hg : InBlk X scope fun Y => DG Y ws tg g) (ht : InBlk X scope fun Y => DTs Y ifs tt) (hi1 : InBlk X scope fun Y => DI Y tg1 iter1 ti1) (hg1 : InBlk X scope fun Y => DG Y ws1 tg1 g1) (ht1 : InBlk X scope fun Y => DTs Y ifs1 tt1) (he : InBlk X scope fun Y => DE Y elt te)
    (hs : ∀ x, foldedSetIterable iter X.env x = pure x := by intro _; rfl) (hs1 : ∀ env x, foldedSetIterable iter1 env x = pure x := by intro _ _; rfl) :
    DE X (.ListComp elt [⟨tg, iter, ifs, 0⟩, ⟨tg1, iter1, ifs1, 0⟩] scope pos) (dLc2 ti g tt ti1 g1 tt1 te (own.map (·.2)) vs1) :=
  ⟨peImp (pe_lc2 (te := LE X.K X.w te) hc hN hi.pi ok hv (fun s H C cl fp => (hg s H C cl fp).pg) (fun s H C cl fp => (ht s H C cl fp).pts) (fun s H C cl fp => (hi1 s H C cl fp).pi) (fun s H C cl fp => (hg1 s H C cl fp).pg) (fun s H C cl fp => (ht1 s H C cl fp).pts) (fun s H C cl fp => (he s H C cl fp).pe) hs hs1) fun _ _ _ q => liftLc2 hw hw1 q⟩
theorem ds_setLc2 {i : Nat} {y : Str} {py : Pos} {elt tg iter tg1 iter1 : Expr} {ifs ifs1 : List Expr} {scope : Scope} {own : List (Str × Nat)} {vs1 ws ws1 : List Nat} {spos : Pos} {ti ti1 : DTI} {g g1 : DTG} {tt tt1 : DTT} {te : DTE} (hc : X.calm = true) (hN : X.N.Nodup) (hy : X.N[i]? = some y) (hyl : X.env.scope.names.lookup y = some .local)
    (hsw : swapsWith (.ListComp elt [⟨tg, iter, ifs, 0⟩, ⟨tg1, iter1, ifs1, 0⟩] scope pos) (some (.Name y py)) spos.line X.env = pure true) (hi : DI X tg iter ti) (ok : BlkOk X.N X.env.scope scope own)
    (hv : ∀ i ∈ vs1, i ∈ own.map (·.2)) (hw : ∀ i ∈ ws, i ∈ own.map (·.2)) (hw1 : ∀ i ∈ ws1, i ∈ vs1)
    (hg : InBlk X scope fun Y => DG Y ws tg g) (ht : InBlk X scope fun Y => DTs Y ifs tt) (hi1 : InBlk X scope fun Y => DI Y tg1 iter1 ti1) (hg1 : InBlk X scope fun Y => DG Y ws1 tg1 g1) (ht1 : InBlk X scope fun Y => DTs Y ifs1 tt1) (he : InBlk X scope fun Y => DE Y elt te)
    (hs : ∀ x, foldedSetIterable iter X.env x = pure x := by intro _; rfl) (hs1 : ∀ env x, foldedSetIterable iter1 env x = pure x := by intro _ _; rfl) :
    DS X (.Assign [.Name y py] (.ListComp elt [⟨tg, iter, ifs, 0⟩, ⟨tg1, iter1, ifs1, 0⟩] scope pos) spos) (sAsg (dLc2 ti g tt ti1 g1 tt1 te (own.map (·.2)) vs1) (gNm i)) := by
  refine ⟨psImp (ps_setLc2 (te := LE X.K X.w te) (tt := LT X.K X.w tt) (g := LG X.K X.w ws g) (tt1 := LT X.K X.w tt1) (g1 := LG X.K X.w ws1 g1) (wi1 := LI X.K X.w ti1) hc hN hy hyl hsw hi.pi ok hv (fun s H C cl fp => (hg s H C cl fp).pg) (fun s H C cl fp => (ht s H C cl fp).pts) (fun s H C cl fp => (hi1 s H C cl fp).pi) (fun s H C cl fp => (hg1 s H C cl fp).pg) (fun s H C cl fp => (ht1 s H C cl fp).pts) (fun s H C cl fp => (he s H C cl fp).pe) hs hs1) ?_⟩
  rintro Q σ H ⟨dσ, h, E, rs, rh, q, f⟩
  exact liftLc2 hw hw1 ⟨dσ, h, _, rs, rh, q, fun d h1 v H1 q1 k1 rh1 r1 => f.nx _ _ _ _ q1 k1 rh1 ((rs.keep k1).set i r1)⟩
end

/-! ### methods of what is built in -/
abbrev DRM := D → List D → DH → DK → Prop
def LM (K : PySem.W.Frag) (w : World) (r : DRM) : V → List V → Hp → VK → Prop := fun x xs H Q => ∃ d ds h P, RD K H d x ∧ RDs K H ds xs ∧ RH K w H h ∧ r d ds h P ∧ Fin K w H P Q
section
variable {X : Cx} {o e : Expr} {es : List Expr} {to te : DTE} {t : DTA} {name : Str} {id : String} {apos cpos : Pos} {r : DRM}
/-- a list's method with arguments -/
def dML (r : DRM) (to : DTE) (t : DTA) : DTE := fun σ h P => to σ h fun x h1 => match x with
  | .ref a => lstAt h1 a fun _ => t σ h1 fun ds h2 => r x ds h2 P
  | _ => False
theorem de_ml (slot : Slot "list" name id) (hty : typeOf (.builtin id) = pure (.type "method_descriptor")) (hm : MtR X id (LM X.K X.w r)) (ho : DE X o to) (ha : DA X (e :: es) t)
    (hbase : attributeBase o name X.env (eval o X.env) = eval o X.env := by rfl)
    (hfew : ((backTo cpos (starEach (e :: es) X.env)).all (fun x => !x.1) && (backToKw cpos (keywordEach [] X.env)).all (fun x => x.1.isSome)
      && decide ((e :: es).length + ([] : List Keyword).length + (if ([] : List Keyword).isEmpty then 0 else 1) < 30)) = true := by rfl)
    (hline : (apos.endLine == cpos.line) = true := by rfl) (hs : starEach (e :: es) X.env = (false, eval e X.env) :: starEach es X.env := by rfl) (hplain : (backTo cpos (starEach es X.env)).any (·.1) = false := by rfl) :
    DE X (.Call (.Attribute o name apos) (e :: es) [] cpos) (dML r to t) := by
  refine ⟨peImp (pe_bm PySem.F.plainAttrs_list slot hty hm ho.pe ha.pa hbase hfew hline hs hplain) ?_⟩
  rintro σ H Q ⟨dσ, h, P, rs, rh, q, f⟩
  refine ⟨dσ, h, _, rs, rh, q, fun d h1 v H1 q1 k1 rh1 r1 => ?_⟩
  split at q1
  · rename_i a
    cases r1
    obtain ⟨xs, e1, q1⟩ := of_lstAt q1
    obtain ⟨vs, g1, t1⟩ := rh1.lst e1
    refine ⟨.inl ⟨rfl, vs, SqL.of g1⟩, dσ, h1, _, rs.keep k1, rh1, q1, fun ds h2 us H2 q2 k2 rh2 r2 => ?_⟩
    exact ⟨.ref a, ds, h2, P, rfl, r2, rh2, q2, f.keep (k1.trans k2)⟩
  · exact q1.elim
def dML0 (r : DRM) (to : DTE) : DTE := fun σ h P => to σ h fun x h1 => match x with
  | .ref a => lstAt h1 a fun _ => r x [] h1 P
  | _ => False
theorem de_ml0 (slot : Slot "list" name id) (hty : typeOf (.builtin id) = pure (.type "method_descriptor")) (hm : MtR X id (LM X.K X.w r)) (ho : DE X o to)
    (hbase : attributeBase o name X.env (eval o X.env) = eval o X.env := by rfl) (hline : (apos.endLine == cpos.line) = true := by rfl) : DE X (.Call (.Attribute o name apos) [] [] cpos) (dML0 r to) := by
  refine ⟨peImp (pe_bm0 PySem.F.plainAttrs_list slot hty hm ho.pe hbase hline) ?_⟩
  rintro σ H Q ⟨dσ, h, P, rs, rh, q, f⟩
  refine ⟨dσ, h, _, rs, rh, q, fun d h1 v H1 q1 k1 rh1 r1 => ?_⟩
  split at q1
  · rename_i a
    cases r1
    obtain ⟨xs, e1, q1⟩ := of_lstAt q1
    obtain ⟨vs, g1, t1⟩ := rh1.lst e1
    exact ⟨.inl ⟨rfl, vs, SqL.of g1⟩, .ref a, [], h1, P, rfl, rfl, rh1, q1, f.keep k1⟩
  · exact q1.elim
def dAppend : DRM
  | .ref a, [d], h, P => lstAt h a fun xs => xs.length < sizeLine ∧ P .non (put h a (.lst (xs ++ [d])))
  | _, _, _, _ => False
theorem mt_dAppend : MtR X "list.append" (LM X.K X.w dAppend) := by
  intro pins s σ H x xs v us Q I rx rs q
  obtain ⟨d, ds, h, P, r1, r2, rh, q, f⟩ := q
  unfold dAppend at q
  split at q
  · cases r1
    obtain ⟨u, rfl, ru⟩ := r2.one
    obtain ⟨ys, e1, z, q⟩ := of_lstAt q
    obtain ⟨vs, g1, t1⟩ := rh.lst e1
    have n := RH.setL rh g1 (t1.append (RDs.cons ru (show RDs X.K H [] [] from rfl)))
    exact mt_append pins s σ H _ _ v us Q I rx rs ⟨_, vs, u, rfl, rfl, g1, by rw [t1.length]; exact z, f _ _ _ _ q n.1 n.2 rfl⟩
  · exact q.elim
def dExtend : DRM
  | .ref a, [.ref b], h, P => lstAt h a fun xs => lstAt h b fun ys => xs.length + ys.length ≤ sizeLine ∧ P .non (put h a (.lst (xs ++ ys)))
  | _, _, _, _ => False
theorem mt_dExtend : MtR X "list.extend" (LM X.K X.w dExtend) := by
  intro pins s σ H x xs v us Q I rx rs q
  obtain ⟨d, ds, h, P, r1, r2, rh, q, f⟩ := q
  unfold dExtend at q
  split at q
  · cases r1
    obtain ⟨u, rfl, ru⟩ := r2.one
    cases ru
    obtain ⟨xs, e1, q⟩ := of_lstAt q
    obtain ⟨ys, e2, z, q⟩ := of_lstAt q
    obtain ⟨vs, g1, t1⟩ := rh.lst e1
    obtain ⟨ws, g2, t2⟩ := rh.lst e2
    have n := RH.setL rh g1 (t1.append t2)
    exact mt_extend pins s σ H _ _ v us Q I rx rs ⟨_, _, vs, ws, rfl, rfl, g1, g2, by rw [t1.length, t2.length]; exact z, f _ _ _ _ q n.1 n.2 rfl⟩
  · exact q.elim
/-- a text's method with one argument -/
def dMS (r : DRM) (to te : DTE) : DTE := fun σ h P => to σ h fun x h1 => match x with
  | .str _ => te σ h1 fun d h2 => r x [d] h2 P
  | _ => False
theorem de_ms (slot : Slot "str" name id) (ty : typeOf (.builtin id) = pure (.type "method_descriptor")) (hm : MtR X id (LM X.K X.w r)) (ho : DE X o to) (he : DE X e te)
    (hs : starEach [e] X.env = [(false, eval e X.env)] := by rfl) (hbase : attributeBase o name X.env (eval o X.env) = eval o X.env := by rfl) (hline : (apos.endLine == cpos.line) = true := by rfl) :
    DE X (.Call (.Attribute o name apos) [e] [] cpos) (dMS r to te) := by
  refine ⟨peImp (pe_m1 slot ty hm ho.pe he.pe hs hbase hline) ?_⟩
  rintro σ H Q ⟨dσ, h, P, rs, rh, q, f⟩
  refine ⟨dσ, h, _, rs, rh, q, fun d h1 v H1 q1 k1 rh1 r1 => ?_⟩
  split at q1
  · rename_i z
    cases r1
    refine ⟨⟨_, rfl⟩, dσ, h1, _, rs.keep k1, rh1, q1, fun d2 h2 u H2 q2 k2 rh2 r2 => ?_⟩
    exact ⟨.str z, [d2], h2, P, rfl, RDs.cons r2 (show RDs X.K H2 [] [] from rfl), rh2, q2, f.keep (k1.trans k2)⟩
  · exact q1.elim
def dFind : DRM
  | .str a, [.str b], h, P => P (.int (Txt.find a b)) h
  | _, _, _, _ => False
theorem mt_dFind : MtR X "str.find" (LM X.K X.w dFind) := by
  intro pins s σ H x xs v us Q I rx rs q
  obtain ⟨d, ds, h, P, r1, r2, rh, q, f⟩ := q
  unfold dFind at q
  split at q
  · cases r1
    obtain ⟨u, rfl, ru⟩ := r2.one
    cases ru
    exact mt_find pins s σ H _ _ v us Q I rx rs ⟨_, _, rfl, rfl, f _ _ _ _ q (Keeps.refl _) rh rfl⟩
  · exact q.elim
def dJoin : DRM
  | .str a, [.ref p], h, P => lstAt h p fun xs => ∃ ys, allS xs = some ys ∧ (ys.map (·.length)).sum + ys.length * a.length ≤ 16777216 ∧ P (.str (Txt.join a ys)) h
  | _, _, _, _ => False
theorem mt_dJoin : MtR X "str.join" (LM X.K X.w dJoin) := by
  intro pins s σ H x xs v us Q I rx rs q
  obtain ⟨d, ds, h, P, r1, r2, rh, q, f⟩ := q
  unfold dJoin at q
  split at q
  · cases r1
    obtain ⟨u, rfl, ru⟩ := r2.one
    cases ru
    obtain ⟨xs, e1, ys, e2, z, q⟩ := of_lstAt q
    obtain ⟨vs, g1, t1⟩ := rh.lst e1
    rw [allS_vs e2 t1] at g1
    exact mt_join pins s σ H _ _ v us Q I rx rs ⟨_, _, ys, rfl, rfl, .inl (SqL.of g1), z, f _ _ _ _ q (Keeps.refl _) rh rfl⟩
  · exact q.elim
end

/-! ### own defs -/
abbrev DSp := List D → DH → DK → Prop
def LSp (K : PySem.W.Frag) (w : World) (sp : DSp) : Sp := fun vs H Q _ => ∃ ds h P, RDs K H ds vs ∧ RH K w H h ∧ sp ds h P ∧ Fin K w H P Q
def Sub (h h' : DH) : Prop := ∀ a o, h a = some o → h' a = some o
theorem Sub.refl (h : DH) : Sub h h := fun _ _ e => e
theorem Sub.trans {a b c : DH} (x : Sub a b) (y : Sub b c) : Sub a c := fun p o e => y p o (x p o e)
theorem Sub.new {h : DH} {a : Addr} {o : DO} (n : h a = none) : Sub h (put h a o) := fun b u e => by
  rw [put_ne (fun q => by rw [q, n] at e; cases e)]; exact e
theorem Sub.put {h h' : DH} {a : Addr} {o : DO} (s : Sub h h') : Sub (DL.put h a o) (DL.put h' a o) := fun b u e => by
  by_cases q : b = a
  · subst q; rw [put_same] at e ⊢; exact e
  · rw [put_ne q] at e ⊢; exact s b u e
/-- what is wanted, of less of the heap -/
def Wk (P : DK) : DK := fun d h => ∃ h0, Sub h0 h ∧ P d h0
theorem Wk.of {P : DK} {d : D} {h : DH} (q : P d h) : Wk P d h := ⟨h, Sub.refl h, q⟩
theorem Wk.to {P : DK} {d : D} {h h0 : DH} (s : Sub h0 h) (q : P d h0) : Wk P d h := ⟨h0, s, q⟩
def dstart (N : List Str) (ds : List D) : DSt := ds.map some ++ List.replicate (N.length - ds.length) none
theorem rs_start {K : PySem.W.Frag} {H : Hp} {N : List Str} {ds : List D} {vs : List V} (r : RDs K H ds vs) : RS K H (dstart N ds) (L2.start N vs) := by
  refine ⟨by unfold dstart L2.start; simp [r.length], fun i d e => ?_⟩
  unfold dstart at e
  unfold L2.start
  by_cases hi : i < ds.length
  · rw [List.getElem?_append_left (by simpa using hi), List.getElem?_map] at e
    rw [List.getElem?_append_left (by simpa [r.length] using hi), List.getElem?_map]
    cases q : ds[i]? with
    | none => rw [q] at e; cases e
    | some x =>
      rw [q] at e; cases e
      obtain ⟨v, ev, rv⟩ := r.get q
      exact ⟨v, by rw [ev]; rfl, rv⟩
  · rw [List.getElem?_append_right (by simpa using hi), List.getElem?_replicate] at e
    split at e <;> cases e
section
variable {P : Program} {w : World} {K : PySem.W.Frag} {mg : Str → Option Value} {base : Heap}
abbrev DFn (P : Program) (w : World) (K : PySem.W.Frag) (mg : Str → Option Value) (base : Heap) (k : Nat) (f : Addr) (fd : FuncData) (ps : List Str) (sp : DSp) : Prop := FnOk P w K mg base CX0 k f fd ps (LSp K w sp)
/-- THE RULE for a def of data -/
theorem dfn_ok {x qual : Str} {st : Stmt} {f : Addr} {fd : FuncData} {N ps : List Str} {k : Nat} {sp : DSp} (F : Fun K x qual st f fd) (S : FnScope N ps (defScope st)) (len : ∀ ds h Q, sp ds h Q → ds.length = ps.length)
    (hbody : ∀ (cdv : Value) (A : Around) (outer : List Env) (s : Shared) (H : Hp) (E : XK), Room k (A.deeper (envOfC qual (defScope st) s.heap.objs.size f cdv)) →
      ∃ t, DSs (cxOf CX0 P w K mg base N qual (defScope st) f cdv A outer s H E).nox (defBody st) t ∧ ∀ ds h Q, sp ds h Q → t { nx := fun _ => Wk Q .non, rt := Wk Q } (dstart N ds) h) : DFn P w K mg base (k + 1) f fd ps sp := by
  refine F.ok S (fun vs H Q E h => ?_) fun cdv A outer s H vs Q E hr h => ?_
  · obtain ⟨ds, dh, P', r, _, q, _⟩ := h
    rw [r.length]
    exact len _ _ _ q
  · obtain ⟨t, ht, hq⟩ := hbody cdv A outer s H E hr
    obtain ⟨ds, dh, P', r, rh, q, f⟩ := h
    refine ⟨_, ht.pss, dstart N ds, dh, _, rs_start r, rh, hq ds dh P' q, ⟨fun dσ h1 σ H1 q1 k1 rh1 rs1 => ?_, fun d h1 v H1 q1 k1 rh1 r1 => ?_, fun dσ h1 σ H1 q1 k1 rh1 rs1 => q1.elim, fun dσ h1 σ H1 q1 k1 rh1 rs1 => q1.elim⟩⟩
    · obtain ⟨h0, s0, q0⟩ := q1
      exact f _ _ _ _ q0 k1 (rh1.less s0) rfl
    · obtain ⟨h0, s0, q0⟩ := q1
      exact f _ _ _ _ q0 k1 (rh1.less s0) r1
end
section
variable {X : Cx} {k : Nat} {f C : Addr} {fd : FuncData} {ps : List Str} {sp : DSp} {x m : Str} {p pos apos : Pos} {e o : Expr} {es : List Expr} {ta : DTE} {t : DTA}
theorem de_call (F : DFn X.prog X.w X.K X.mg X.base k f fd ps sp) (hr : Room k X.A) (hg : Gl X x) (hm : X.mg x = some (.ref f)) (hk : PySem.W.keepIn X.K (.ref f) = true) (hb : Binds X.K fd ps [])
    (ha : DA X (e :: es) t) (hdb : (x == ("__debug__" : Str)) = false := by decide) (he : starEach (e :: es) X.env = (false, eval e X.env) :: starEach es X.env := by rfl) (hpl : (backTo pos (starEach es X.env)).any (·.1) = false := by rfl) :
    DE X (.Call (.Name x p) (e :: es) [] pos) (dCall sp t) := by
  refine ⟨peImp (pe_call F hr hg hm hk hb .nil pass0 ha.pa hdb he hpl) ?_⟩
  rintro σ H Q ⟨dσ, h, P, rs, rh, q, f⟩
  refine ⟨dσ, h, _, rs, rh, q, fun ds h1 vs H1 q1 k1 rh1 r1 => ?_⟩
  exact ⟨ds, h1, P, by rw [List.append_nil]; exact r1, rh1, q1, f.keep k1⟩
theorem de_call0 (F : DFn X.prog X.w X.K X.mg X.base k f fd ps sp) (hr : Room k X.A) (hg : Gl X x) (hm : X.mg x = some (.ref f)) (hk : PySem.W.keepIn X.K (.ref f) = true) (hb : Binds X.K fd ps [])
    (hdb : (x == ("__debug__" : Str)) = false := by decide) : DE X (.Call (.Name x p) [] [] pos) (dCall sp dNil) := by
  refine ⟨peImp (pe_call0 F hr hg hm hk hb .nil pass0 hdb) ?_⟩
  rintro σ H Q ⟨dσ, h, P, rs, rh, q, f⟩
  exact ⟨[], h, P, rfl, rh, q, f⟩
/-- o.m(..) of an own class -/
def dMeth (C : Addr) (m : Str) (sp : DSp) (ta : DTE) (t : DTA) : DTE := fun σ h P => ta σ h fun d h1 => match d with
  | .ref a => insAt h1 a fun C' fs => (C' = C ∧ fs.lookup m = none) ∧ t σ h1 fun ds h2 => sp (.ref a :: ds) h2 P
  | _ => False
theorem RFs.none {K : PySem.W.Frag} {H : Hp} {fs : List (Str × D)} {vs : List (Str × V)} (r : RFs K H fs vs) {m : Str} (e : fs.lookup m = none) : vs.lookup m = none := by
  induction r with
  | nil => rfl
  | @cons p q ps qs h t ih =>
    obtain ⟨a, b⟩ := p
    obtain ⟨c, d⟩ := q
    obtain ⟨h1, _⟩ := h
    simp only at h1
    subst h1
    rw [List.lookup_cons] at e ⊢
    cases z : m == a with
    | true => rw [z] at e; cases e
    | false => rw [z] at e; exact ih e
theorem RFs.look {K : PySem.W.Frag} {H : Hp} {fs : List (Str × D)} {vs : List (Str × V)} (r : RFs K H fs vs) {m : Str} {d : D} (e : fs.lookup m = some d) : ∃ v, vs.lookup m = some v ∧ RD K H d v := by
  induction r with
  | nil => cases e
  | @cons p q ps qs h t ih =>
    obtain ⟨a, b⟩ := p
    obtain ⟨c, d'⟩ := q
    obtain ⟨h1, h2⟩ := h
    simp only at h1 h2
    subst h1
    rw [List.lookup_cons] at e ⊢
    cases z : m == a with
    | true => rw [z] at e; cases e; exact ⟨d', rfl, h2⟩
    | false => rw [z] at e; exact ih e
theorem de_meth {pl : Sem Bool} (he : DE X o ta) (c : Cls X.K C) (hm : Meth X.K C m f) (F : DFn X.prog X.w X.K X.mg X.base k f fd ps sp) (hr : Room k X.A) (hb : Binds X.K fd ps []) (ha : DA X (e :: es) t)
    (hst : starEach (e :: es) X.env = (false, eval e X.env) :: starEach es X.env := by rfl) (hpl : (backTo pos (starEach es X.env)).any (·.1) = false := by rfl)
    (ht : eval (.Call (.Attribute o m apos) (e :: es) [] pos) X.env = (do
      let ov ← eval o X.env
      standAt apos.atName
      let (f, first) ← holding [ov] (getMethod ov m pl)
      callWith pos f first (backTo pos (starEach (e :: es) X.env)) (backToKw pos (keywordEach [] X.env))) := by rfl) :
    DE X (.Call (.Attribute o m apos) (e :: es) [] pos) (dMeth C m sp ta t) := by
  refine ⟨peImp (pe_meth he.pe c hm F hr hb .nil pass0 ha.pa hst hpl ht) ?_⟩
  rintro σ H Q ⟨dσ, h, P, rs, rh, q, f⟩
  refine ⟨dσ, h, _, rs, rh, q, fun d h1 v H1 q1 k1 rh1 r1 => ?_⟩
  split at q1
  · cases r1
    obtain ⟨C', fs, e1, ⟨rfl, lk⟩, q3⟩ := of_insAt q1
    obtain ⟨dx, vfs, g1, t1⟩ := rh1 _ _ e1
    refine ⟨_, dx, vfs, rfl, g1, t1.none lk, dσ, h1, _, rs.keep k1, rh1, q3, fun ds h2 us H2 q2 k2 rh2 r2 => ?_⟩
    exact ⟨_ :: ds, h2, P, by rw [List.append_nil]; exact RDs.cons (d := .ref _) rfl r2, rh2, q2, f.keep (k1.trans k2)⟩
  · exact q1.elim
theorem de_meth0 {pl : Sem Bool} (he : DE X o ta) (c : Cls X.K C) (hm : Meth X.K C m f) (F : DFn X.prog X.w X.K X.mg X.base k f fd ps sp) (hr : Room k X.A) (hb : Binds X.K fd ps [])
    (ht : eval (.Call (.Attribute o m apos) [] [] pos) X.env = (do
      let ov ← eval o X.env
      standAt apos.atName
      let (f, first) ← holding [ov] (getMethod ov m pl)
      callWith pos f first (backTo pos (starEach [] X.env)) (backToKw pos (keywordEach [] X.env))) := by rfl) :
    DE X (.Call (.Attribute o m apos) [] [] pos) (dMeth C m sp ta dNil) := by
  refine ⟨peImp (pe_meth0 he.pe c hm F hr hb .nil pass0 ht) ?_⟩
  rintro σ H Q ⟨dσ, h, P, rs, rh, q, f⟩
  refine ⟨dσ, h, _, rs, rh, q, fun d h1 v H1 q1 k1 rh1 r1 => ?_⟩
  split at q1
  · cases r1
    obtain ⟨C', fs, e1, ⟨rfl, lk⟩, q3⟩ := of_insAt q1
    obtain ⟨dx, vfs, g1, t1⟩ := rh1 _ _ e1
    exact ⟨_, dx, vfs, rfl, g1, t1.none lk, [.ref _], h1, P, RDs.cons (d := .ref _) rfl rfl, rh1, q3, f.keep k1⟩
  · exact q1.elim
/-- C(..) -/
def dMake (C : Addr) (sp : DSp) (t : DTA) : DTE := fun σ h P => t σ h fun ds h1 => ∀ x, h1 x = none → sp (.ref x :: ds) (put h1 x (.ins C [])) fun d h2 => d = .non ∧ P (.ref x) h2
theorem RH.made {K : PySem.W.Frag} {w : World} {H : Hp} {h : DH} {x dx : Addr} (r : RH K w H h) (nx : H x = none) (nd : H dx = none) (ne : dx ≠ x) :
    Keeps H (upd (upd H dx (.own x)) x (.ins C dx [])) ∧ RH K w (upd (upd H dx (.own x)) x (.ins C dx [])) (put h x (.ins C [])) := by
  have k1 : Keeps H (upd H dx (.own x)) := Keeps.new nd
  have k2 : Keeps (upd H dx (.own x)) (upd (upd H dx (.own x)) x (.ins C dx [])) := Keeps.new (by rw [upd_ne ne.symm]; exact nx)
  exact ⟨k1.trans k2, (r.hide (r.free nd) k1).wr k2 ⟨dx, [], upd_same, .nil⟩⟩
theorem de_make (M : Mk X.K C f) (F : DFn X.prog X.w X.K X.mg X.base k f fd ps sp) (hr : Room (k + 1) X.A) (hg : Gl X x) (hm : X.mg x = some (.ref C)) (hb : Binds X.K fd ps [])
    (ha : DA X (e :: es) t) (hdb : (x == ("__debug__" : Str)) = false := by decide) (he : starEach (e :: es) X.env = (false, eval e X.env) :: starEach es X.env := by rfl) (hpl : (backTo pos (starEach es X.env)).any (·.1) = false := by rfl) :
    DE X (.Call (.Name x p) (e :: es) [] pos) (dMake C sp t) := by
  refine ⟨peImp (pe_make M F hr hg hm hb .nil pass0 ha.pa hdb he hpl) ?_⟩
  rintro σ H Q ⟨dσ, h, P, rs, rh, q, f⟩
  refine ⟨dσ, h, _, rs, rh, q, fun ds h1 vs H1 q1 k1 rh1 r1 y dy ny nd ne => ?_⟩
  have n := RH.made (C := C) rh1 ny nd ne
  refine ⟨.ref y :: ds, _, _, by rw [List.append_nil]; exact RDs.cons (d := .ref y) rfl (RDs.keep n.1 _ _ r1), n.2, q1 y (rh1.free ny), fun d h2 v H2 q2 k2 rh2 r2 => ?_⟩
  obtain ⟨rfl, q2⟩ := q2
  exact ⟨r2, f _ _ _ _ q2 (k1.trans (n.1.trans k2)) rh2 rfl⟩
theorem de_make0 (M : Mk X.K C f) (F : DFn X.prog X.w X.K X.mg X.base k f fd ps sp) (hr : Room (k + 1) X.A) (hg : Gl X x) (hm : X.mg x = some (.ref C)) (hb : Binds X.K fd ps [])
    (hdb : (x == ("__debug__" : Str)) = false := by decide) : DE X (.Call (.Name x p) [] [] pos) (dMake C sp dNil) := by
  refine ⟨peImp (pe_make0 M F hr hg hm hb .nil pass0 hdb) ?_⟩
  rintro σ H Q ⟨dσ, h, P, rs, rh, q, f⟩ y dy ny nd ne
  have n := RH.made (C := C) rh ny nd ne
  refine ⟨[.ref y], _, _, RDs.cons (d := .ref y) rfl rfl, n.2, q y (rh.free ny), fun d h2 v H2 q2 k2 rh2 r2 => ?_⟩
  obtain ⟨rfl, q2⟩ := q2
  exact ⟨r2, f _ _ _ _ q2 (n.1.trans k2) rh2 rfl⟩
/-- the class lets its instances have this attribute -/
structure HasA (K : PySem.W.Frag) (C : Addr) (f : Str) : Prop where
  cl : Cls K C
  na : NoAttr K C f
def dFld (K : PySem.W.Frag) (ta : DTE) (f : Str) : DTE := fun σ h P => ta σ h fun d h1 => match d with
  | .ref a => insAt h1 a fun C fs => HasA K C f ∧ oAt (fs.lookup f) fun d => P d h1
  | _ => False
theorem de_fld {f : Str} (he : DE X o ta) (hb : attributeBase o f X.env (eval o X.env) = eval o X.env := by rfl) : DE X (.Attribute o f pos) (dFld X.K ta f) := by
  refine ⟨peImp (pe_fld he.pe hb) ?_⟩
  rintro σ H Q ⟨dσ, h, P, rs, rh, q, fn⟩
  refine ⟨dσ, h, _, rs, rh, q, fun d h1 v H1 q1 k1 rh1 r1 => ?_⟩
  split at q1
  · cases r1
    obtain ⟨C', fs, e1, hA, q1⟩ := of_insAt q1
    obtain ⟨d, lk, q1⟩ := of_oAt q1
    obtain ⟨dx, vfs, g1, t1⟩ := rh1 _ _ e1
    obtain ⟨v, lv, rv⟩ := t1.look lk
    exact ⟨_, C', dx, vfs, v, rfl, g1, hA.cl, hA.na, lv, fn _ _ _ _ q1 k1 rh1 rv⟩
  · exact q1.elim
def putA (f : Str) (d : D) : List (Str × D) → List (Str × D)
  | [] => [(f, d)]
  | p :: r => if p.1 = f then (p.1, d) :: r else p :: putA f d r
theorem RFs.put {K : PySem.W.Frag} {H : Hp} {f : Str} {d : D} {v : V} (h : RD K H d v) {fs : List (Str × D)} {vs : List (Str × V)} (r : RFs K H fs vs) : RFs K H (putA f d fs) (putF f v vs) := by
  induction r with
  | nil => exact .cons ⟨rfl, h⟩ .nil
  | @cons p q ps qs h' t ih =>
    obtain ⟨a, b⟩ := p
    obtain ⟨c, e⟩ := q
    obtain ⟨h1, h2⟩ := h'
    simp only at h1 h2
    subst h1
    show Paired _ (if a = f then (a, d) :: ps else (a, b) :: putA f d ps) (if a = f then (a, v) :: qs else (a, e) :: putF f v qs)
    by_cases z : a = f
    · rw [if_pos z, if_pos z]; exact .cons ⟨rfl, h⟩ t
    · rw [if_neg z, if_neg z]; exact .cons ⟨rfl, h2⟩ ih
def sFld (K : PySem.W.Frag) (ta tv : DTE) (f : Str) : DTS := fun E σ h => tv σ h fun y h1 => ta σ h1 fun d h2 => match d with
  | .ref a => insAt h2 a fun C fs => HasA K C f ∧ fs.length < 1000 ∧ E.nx σ (put h2 a (.ins C (putA f y fs)))
  | _ => False
theorem ds_fld {f : Str} {value : Expr} {tv : DTE} {pos' : Pos} (ha : DE X o ta) (hv : DE X value tv) (hs : swapsWith value (some (.Attribute o f pos')) pos.line X.env = pure false := by rfl) : DS X (.Assign [.Attribute o f pos'] value pos) (sFld X.K ta tv f) := by
  refine ⟨psImp (ps_fld ha.pe hv.pe hs) ?_⟩
  rintro Q σ H ⟨dσ, h, E, rs, rh, q, fn⟩
  refine ⟨dσ, h, _, rs, rh, q, fun y h1 v H1 q1 k1 rh1 r1 => ?_⟩
  refine ⟨dσ, h1, _, rs.keep k1, rh1, q1, fun d h2 u H2 q2 k2 rh2 r2 => ?_⟩
  split at q2
  · cases r2
    obtain ⟨C', fs, e1, hA, z, q2⟩ := of_insAt q2
    obtain ⟨dx, vfs, g1, t1⟩ := rh2 _ _ e1
    have ry := RD.keep k2 _ _ r1
    have kk : Keeps H2 (upd H2 _ (.ins C' dx (putF f v vfs))) := Keeps.over g1 True.intro
    refine ⟨_, C', dx, vfs, rfl, g1, hA.cl, hA.na, by rw [← Paired.length t1]; exact z, ?_⟩
    exact fn.nx _ _ _ _ q2 (k1.trans (k2.trans kk)) (rh2.wr kk ⟨dx, _, upd_same, (t1.put ry).keep kk⟩) (rs.keep (k1.trans (k2.trans kk)))
  · exact q2.elim
end
end DL
/-! D7: dicts whose keys are data of any kind (numbers, texts, None, tuples of such), at the machine's level. -/
namespace DL
open PySem PySem.Spec PyProof.Rows L2

abbrev Ent := NestedKey × Value × Value
abbrev entG (w : World) (x : Ent) : DictEntry := ⟨x.1.hash w, x.2.1, x.2.2⟩
theorem arr_find {α : Type} (es : Array α) (p : α → Bool) : es.findIdx? p = es.toList.findIdx? p := by
  cases es with | mk l => simp
/-- where the key stands among the entries -/
abbrev ixOf (xs : List Ent) (k : NestedKey) : Option Nat := xs.findIdx? fun x => decide (x.1 = k)
theorem ix_none {xs : List Ent} {k : NestedKey} (h : ∀ (j : Nat) (x : Ent), xs[j]? = some x → x.1 ≠ k) : ixOf xs k = none := by
  rw [ixOf, List.findIdx?_eq_none_iff]
  intro x hx
  obtain ⟨j, hj⟩ := List.mem_iff_getElem?.mp hx
  exact decide_eq_false (h j x hj)
theorem ix_some {xs : List Ent} {k : NestedKey} (hn : (xs.map (·.1)).Nodup) {j : Nat} {x : Ent} (h : xs[j]? = some x) (e : x.1 = k) : ixOf xs k = some j := by
  obtain ⟨hj, ej⟩ := List.getElem?_eq_some_iff.mp h
  rw [ixOf, List.findIdx?_eq_some_iff_getElem]
  refine ⟨hj, by rw [ej]; exact decide_eq_true e, fun i hi => ?_⟩
  have hi' : i < xs.length := Nat.lt_trans hi hj
  have ne : ¬ xs[i].1 = k := fun z => by
    have a1 : (xs.map (·.1))[i]'(by simpa using hi') = (xs.map (·.1))[j]'(by simpa using hj) := by simp [z, ej, e]
    have := (List.getElem_inj hn).mp a1
    omega
  simp [ne]
section
variable {prog : Program} {w : World} {A : Around} {E : Value → Shared → Prop} {s : Shared} {d : Addr} {o : Obj} {es : Array DictEntry} {ep : Nat} {xs : List Ent} {k : NestedKey} {v : Value}

/-- the keys are keys -/
abbrev KeysIn (h : Heap) (xs : List Ent) : Prop := ∀ x ∈ xs, NestedIs h x.1 x.2.1 ∧ x.1.depth ≤ 7
theorem es_at (he : es.toList = xs.map (entG w)) (j : Nat) : es[j]? = (xs[j]?).map (entG w) := by
  rw [← Array.getElem?_toList, he, List.getElem?_map]
theorem es_size (he : es.toList = xs.map (entG w)) : es.size = xs.length := by
  rw [← Array.length_toList, he, List.length_map]
theorem eqB_key {x : NestedKey} {u : Value} {Q : Bool → Shared → Prop} (hu : A.units + 8 < cLine) (hx : NestedIs s.heap x u) (dx : x.depth ≤ 7) (hk : NestedIs s.heap k v) (h : Q (decide (x = k)) s) : wpAny (model prog w) A (eqBool u v) Q E s :=
  eqAt_key x k A s u v hx hk (by omega) _ _ _ _ (by rw [← NestedKey.decide_eq]; exact h)
theorem str_key {h : Heap} {x : NestedKey} {u : Value} (y : Str) (hx : NestedIs h x u) : u.isStr y = decide (x = .text y) := by
  cases hx with
  | none => simp [Value.isStr]
  | bool _ => simp [Value.isStr]
  | int i t => simp [Value.isStr]
  | text z t =>
    by_cases e : z = y
    · subst e; simp [Value.isStr]
    · simp [Value.isStr, e]
  | tup _ _ _ _ => simp [Value.isStr]
/-- the state of the search: nothing found ahead of i -/
structure Upto (w : World) (es : Array DictEntry) (xs : List Ent) (k : NestedKey) (rest : List Nat) (i : Nat) : Prop where
  le : i ≤ es.size
  rest : rest = (List.range' i (es.size - i)).filter fun i => (es[i]?.map (·.hash)) == some (k.hash w)
/-- the next place to look at -/
theorem Upto.step {rest : List Nat} {i x : Nat} (he : es.toList = xs.map (entG w)) (u : Upto w es xs k (x :: rest) i) :
    i ≤ x ∧ (∃ y, xs[x]? = some y ∧ es[x]? = some (entG w y)) ∧ Upto w es xs k rest (x + 1) ∧ ∀ j y, i ≤ j → j < x → xs[j]? = some y → y.1 ≠ k := by
  obtain ⟨h1, h2, _, h4, h5⟩ := filter_range'_cons _ _ _ _ _ u.rest.symm
  have le := u.le
  have hx : x < es.size := by omega
  have hx' : x < xs.length := by rw [← es_size he]; exact hx
  refine ⟨h1, ⟨xs[x], List.getElem?_eq_getElem hx', by rw [es_at he, List.getElem?_eq_getElem hx']; rfl⟩, ⟨hx, ?_⟩, fun j y hj1 hj2 ey z => ?_⟩
  · rw [h5]; congr 2; omega
  · have q := h4 j hj1 hj2
    rw [es_at he, ey] at q
    simp [z] at q
theorem Upto.stop {i : Nat} (he : es.toList = xs.map (entG w)) (u : Upto w es xs k [] i) : ∀ j y, i ≤ j → xs[j]? = some y → y.1 ≠ k := by
  intro j y hj ey z
  have hl : j < xs.length := (List.getElem?_eq_some_iff.mp ey).1
  have le := u.le
  rw [← es_size he] at hl
  have q := List.filter_eq_nil_iff.mp u.rest.symm j (List.mem_range'_1.mpr ⟨hj, by omega⟩)
  rw [es_at he, ey] at q
  simp [z] at q
theorem Upto.begin_ : Upto w es xs k (placesWithHash es.size (fun i => es[i]?.map (·.hash)) (k.hash w)) 0 :=
  ⟨Nat.zero_le _, by rw [placesWithHash, List.range_eq_range', Nat.sub_zero]⟩

/-- THE SEARCH -/
theorem find_g {Q : Option Nat → Shared → Prop} (hu : A.units + 8 < cLine) (hv : NestedIs s.heap k v) (hk : k.depth ≤ 7) (ho : s.heap.get? d = some o) (hd : o.data = .dict es ep) (he : es.toList = xs.map (entG w))
    (his : KeysIn s.heap xs) (hn : (xs.map (·.1)).Nodup) (h : Q (ixOf xs k) s) : wpAny (model prog w) A (dictFind d v (k.hash w)) Q E s := by
  have memE : ∀ e ∈ es, ∃ x ∈ xs, e = entG w x := fun e hin => by
    have z : e ∈ xs.map (entG w) := he ▸ Array.mem_toList_iff.mpr hin
    obtain ⟨x, hx, rfl⟩ := List.mem_map.mp z
    exact ⟨x, hx, rfl⟩
  have memS : ∀ u ∈ (placesWithHash es.size (fun i => es[i]?.map (·.hash)) (k.hash w)).filterMap (fun i => es[i]?.map (·.key)), ∃ x ∈ xs, u = x.2.1 := fun u hin => by
    obtain ⟨i, _, hi⟩ := List.mem_filterMap.mp hin
    cases q : es[i]? with
    | none => rw [q] at hi; cases hi
    | some e =>
      rw [q] at hi
      obtain ⟨x, hx, rfl⟩ := memE e (Array.mem_of_getElem? q)
      exact ⟨x, hx, (Option.some.inj hi).symm⟩
  -- the walk with or without the table
  have plain : wpAny (model prog w) A (dictWalkPlain d v (k.hash w) es (placesWithHash es.size (fun i => es[i]?.map (·.hash)) (k.hash w))) Q E s := by
    unfold dictWalkPlain
    refine wpAny_bind ?_
    refine wpAny_forIn_list _ (fun rest b s' => s' = s ∧ b = (none, ()) ∧ ∃ i, Upto w es xs k rest i ∧ ∀ j y, j < i → xs[j]? = some y → y.1 ≠ k) _ ?_ ?_ _ _ ⟨rfl, rfl, 0, Upto.begin_, fun _ _ z => absurd z (Nat.not_lt_zero _)⟩
    · rintro x rest b s' ⟨rfl, rfl, i, u, no⟩
      obtain ⟨hix, ⟨y, ey, ee⟩, u', no'⟩ := u.step he
      have ahead : ∀ j z, j < x → xs[j]? = some z → z.1 ≠ k := fun j z hj ez => by
        by_cases q : j < i
        · exact no j z q ez
        · exact no' j z (by omega) hj ez
      obtain ⟨hy, hyd⟩ := his y (List.mem_of_getElem? ey)
      rw [ee]
      dsimp only
      by_cases hh : (y.1.hash w == k.hash w) = true
      · rw [if_pos hh]
        refine wpAny_bind (wpAny_dictEpoch ho hd (wpAny_bind (eqB_key hu hy hyd hv (wpAny_bind (wpAny_dictEpoch ho hd ?_)))))
        rw [if_neg (show ¬ (ep != ep) = true by simp)]
        by_cases yk : y.1 = k
        · rw [decide_eq_true yk]
          rw [ix_some hn ey yk] at h
          exact wpAny_bind (wpAny_rule (wpAny_pure (wpAny_pure h)))
        · rw [decide_eq_false yk]
          refine wpAny_bind (wpAny_rule (wpAny_pure ⟨rfl, rfl, x + 1, u', fun j z hj ez => ?_⟩))
          by_cases q : j < x
          · exact ahead j z q ez
          · have : j = x := by omega
            subst this; rw [ey] at ez; cases ez; exact yk
      · rw [if_neg hh]
        refine wpAny_pure ⟨rfl, rfl, x + 1, u', fun j z hj ez => ?_⟩
        by_cases q : j < x
        · exact ahead j z q ez
        · have : j = x := by omega
          subst this; rw [ey] at ez; cases ez
          intro yk; rw [yk] at hh; simp at hh
    · rintro b s' ⟨rfl, rfl, i, u, no⟩
      rw [ix_none fun j y ey => by
        by_cases q : j < i
        · exact no j y q ey
        · exact u.stop he j y (by omega) ey] at h
      exact wpAny_pure h
  have rest_ : wpAny (model prog w) A (do
      let stored := (placesWithHash es.size (fun i => es[i]?.map (·.hash)) (k.hash w)).filterMap fun i => es[i]?.map (·.key)
      let tells ← if stored == [v] then pure false else tableMayTell v stored
      if tells && stored.length ≥ 2 then unsupported "dict.find:order-among-keys-of-one-hash"
      let mut hit : Option Nat := none
      for i in placesWithHash es.size (fun i => es[i]?.map (·.hash)) (k.hash w) do
        if let some e := es[i]? then
          if e.hash == k.hash w then
            let before ← dictEpoch d (keyPart v)
            let same ← eqBool e.key v
            if (← dictEpoch d (keyPart v)) != before then unsupported "dict.changed-during-lookup"
            if same then
              if hit.isSome then unsupported "dict.find:order-among-keys-of-one-hash"
              rule "dict.find.hit"
              if stored.length < 2 then return some i
              hit := some i
            else
              rule "dict.find.same-hash-other-key"
              if tells && !(0 ≤ k.hash w && k.hash w < 32) then unsupported "dict.find:asked-again-or-not-hangs-on-the-table"
      return hit : Sem (Option Nat)) Q E s := by
    dsimp only
    have quiet : ∀ {P : Bool → Shared → Prop}, P false s → wpAny (model prog w) A (tableMayTell v ((placesWithHash es.size (fun i => es[i]?.map (·.hash)) (k.hash w)).filterMap fun i => es[i]?.map (·.key))) P E s := fun {P} hP => by
      unfold tableMayTell
      split
      · exact wpAny_pure hP
      · refine wpAny_bind (quiet_key k v 8 s hv (by omega) A E _ ?_)
        rw [if_neg (by simp)]
        refine wpAny_bind ?_
        refine wpAny_forIn_list _ (fun rest r s' => s' = s ∧ r = (none, ()) ∧ ∀ u ∈ rest, ∃ x ∈ xs, u = x.2.1) _ ?_ ?_ _ _ ⟨rfl, rfl, memS⟩
        · rintro x rest r s' ⟨rfl, rfl, hr⟩
          obtain ⟨y, hy, rfl⟩ := hr x List.mem_cons_self
          refine wpAny_bind (quiet_key y.1 _ 8 s' (his y hy).1 (by have := (his y hy).2; omega) A E _ ?_)
          rw [if_neg (by simp)]
          exact wpAny_pure ⟨rfl, rfl, fun u hu' => hr u (List.mem_cons_of_mem _ hu')⟩
        · rintro r s' ⟨rfl, rfl, _⟩
          exact wpAny_pure hP
    by_cases hone : (((placesWithHash es.size (fun i => es[i]?.map (·.hash)) (k.hash w)).filterMap fun i => es[i]?.map (·.key)) == [v]) = true <;> (first | rw [if_pos hone] | rw [if_neg hone]) <;> (first | refine wpAny_bind (wpAny_pure ?_) | refine wpAny_bind (quiet ?_)) <;> (
    rw [if_neg (by simp)]
    refine wpAny_bind ?_
    refine wpAny_forIn_list _ (fun rest b s' => s' = s ∧ ∃ i hit, b = (none, hit) ∧ Upto w es xs k rest i ∧ ((hit = none ∧ ∀ j y, j < i → xs[j]? = some y → y.1 ≠ k) ∨ ∃ j y, hit = some j ∧ j < i ∧ xs[j]? = some y ∧ y.1 = k)) _ ?_ ?_ _ _
      ⟨rfl, 0, none, rfl, Upto.begin_, .inl ⟨rfl, fun _ _ z => absurd z (Nat.not_lt_zero _)⟩⟩
    · rintro x rest b s' ⟨rfl, i, hit, rfl, u, st⟩
      obtain ⟨hix, ⟨y, ey, ee⟩, u', no'⟩ := u.step he
      obtain ⟨hy, hyd⟩ := his y (List.mem_of_getElem? ey)
      have st1 : (hit = none ∧ ∀ j z, j < x → xs[j]? = some z → z.1 ≠ k) ∨ ∃ j z, hit = some j ∧ j < x ∧ xs[j]? = some z ∧ z.1 = k := by
        rcases st with ⟨e0, no⟩ | ⟨j, z, e0, hj, ez, zk⟩
        · refine .inl ⟨e0, fun j z hj ez => ?_⟩
          by_cases q : j < i
          · exact no j z q ez
          · exact no' j z (by omega) hj ez
        · exact .inr ⟨j, z, e0, by omega, ez, zk⟩
      have other : y.1 ≠ k → ((hit = none ∧ ∀ j z, j < x + 1 → xs[j]? = some z → z.1 ≠ k) ∨ ∃ j z, hit = some j ∧ j < x + 1 ∧ xs[j]? = some z ∧ z.1 = k) := fun yk => by
        rcases st1 with ⟨e0, no⟩ | ⟨j, z, e0, hj, ez, zk⟩
        · refine .inl ⟨e0, fun j z hj ez => ?_⟩
          by_cases q : j < x
          · exact no j z q ez
          · have : j = x := by omega
            subst this; rw [ey] at ez; cases ez; exact yk
        · exact .inr ⟨j, z, e0, by omega, ez, zk⟩
      rw [ee]
      dsimp only
      by_cases hh : (y.1.hash w == k.hash w) = true
      · rw [if_pos hh]
        refine wpAny_bind (wpAny_dictEpoch ho hd (wpAny_bind (eqB_key hu hy hyd hv (wpAny_bind (wpAny_dictEpoch ho hd ?_)))))
        rw [if_neg (show ¬ (ep != ep) = true by simp)]
        by_cases yk : y.1 = k
        · rw [decide_eq_true yk]
          rcases st1 with ⟨rfl, _⟩ | ⟨j, z, _, hj, ez, zk⟩
          · simp only [Option.isSome_none, Bool.false_eq_true, if_false, if_true]
            refine wpAny_bind (wpAny_rule ?_)
            split
            · refine wpAny_pure (wpAny_pure ?_)
              rw [ix_some hn ey yk] at h
              exact h
            · exact wpAny_pure ⟨rfl, x + 1, some x, rfl, u', .inr ⟨x, y, rfl, Nat.lt_succ_self x, ey, yk⟩⟩
          · exfalso
            have a1 := ix_some hn ey yk
            rw [ix_some hn ez zk] at a1
            have := Option.some.inj a1
            omega
        · rw [decide_eq_false yk]
          simp only [Bool.false_eq_true, if_false]
          refine wpAny_bind (wpAny_rule ?_)
          first
            | exact wpAny_pure ⟨rfl, x + 1, hit, rfl, u', other yk⟩
            | exact wpAny_bind (wpAny_pure (wpAny_pure ⟨rfl, x + 1, hit, rfl, u', other yk⟩))
            | (rw [if_neg (by simp)]; exact wpAny_pure ⟨rfl, x + 1, hit, rfl, u', other yk⟩)
      · rw [if_neg hh]
        refine wpAny_pure ⟨rfl, x + 1, hit, rfl, u', other ?_⟩
        intro yk; rw [yk] at hh; simp at hh
    · rintro b s' ⟨rfl, i, hit, rfl, u, st⟩
      rcases st with ⟨rfl, no⟩ | ⟨j, y, rfl, hj, ey, yk⟩
      · rw [ix_none fun j y ey => by
          by_cases q : j < i
          · exact no j y q ey
          · exact u.stop he j y (by omega) ey] at h
        exact wpAny_pure h
      · rw [ix_some hn ey yk] at h
        exact wpAny_pure h)
  unfold dictFind
  try with_reducible refine wpAny_holding ?_
  refine wpAny_bind (wpAny_dictEntries ho hd ?_)
  dsimp only
  cases hv with
  | none =>
    dsimp only
    by_cases hall : (((Value.none) :: (placesWithHash es.size (fun i => es[i]?.map (·.hash)) (NestedKey.hash w (.none))).filterMap fun i => es[i]?.map (·.key)).all carriedByValue) = true
    · rw [if_pos hall]; exact plain
    · rw [if_neg hall]; exact rest_
  | bool _ =>
    rename_i b i eb
    dsimp only
    by_cases hall : (((Value.bool b) :: (placesWithHash es.size (fun i => es[i]?.map (·.hash)) (NestedKey.hash w (.num i))).filterMap fun i => es[i]?.map (·.key)).all carriedByValue) = true
    · rw [if_pos hall]; exact plain
    · rw [if_neg hall]; exact rest_
  | int i t =>
    dsimp only
    by_cases hall : (((Value.int i t) :: (placesWithHash es.size (fun i => es[i]?.map (·.hash)) (NestedKey.hash w (.num i))).filterMap fun i => es[i]?.map (·.key)).all carriedByValue) = true
    · rw [if_pos hall]; exact plain
    · rw [if_neg hall]; exact rest_
  | text y t =>
    dsimp only
    by_cases hs : (es.all fun e => isExactStrKey e.key) = true
    · rw [if_pos hs]
      have hfun : (es.findIdx? fun e : DictEntry => e.key.isStr y) = ixOf xs (.text y) := by
        have q : ∀ l : List Ent, (∀ x ∈ l, NestedIs s.heap x.1 x.2.1 ∧ x.1.depth ≤ 7) → (l.map (entG w)).findIdx? (fun e : DictEntry => e.key.isStr y) = ixOf l (.text y) := by
          intro l
          induction l with
          | nil => intro _; rfl
          | cons x l ih =>
            intro hl
            rw [List.map_cons, ixOf, List.findIdx?_cons, List.findIdx?_cons]
            have e1 : (entG w x).key.isStr y = decide (x.1 = .text y) := str_key y (hl x List.mem_cons_self).1
            rw [e1, ih fun z hz => hl z (List.mem_cons_of_mem _ hz)]
        rw [← q xs his, ← he]
        exact arr_find es _
      unfold foundByValue
      rw [hfun]
      cases hf : ixOf xs (.text y) with
      | none =>
        rw [hf] at h
        exact wpAny_pure h
      | some i =>
        obtain ⟨hi, hp, _⟩ := List.findIdx?_eq_some_iff_getElem.mp hf
        have yk : xs[i].1 = .text y := of_decide_eq_true hp
        obtain ⟨hy, hyd⟩ := his xs[i] (List.getElem_mem hi)
        have ee : es[i]? = some (entG w xs[i]) := by rw [es_at he, List.getElem?_eq_getElem hi]; rfl
        simp only [ee]
        refine wpAny_bind (wpAny_dictEpoch ho hd (wpAny_bind (eqB_key hu hy hyd (NestedIs.text y t) (wpAny_bind (wpAny_dictEpoch ho hd ?_)))))
        rw [if_neg (show ¬ (ep != ep) = true by simp), decide_eq_true yk]
        rw [hf] at h
        exact wpAny_bind (wpAny_rule (wpAny_pure h))
    · rw [if_neg hs]
      by_cases hall : (((Value.str y t) :: (placesWithHash es.size (fun i => es[i]?.map (·.hash)) (NestedKey.hash w (.text y))).filterMap fun i => es[i]?.map (·.key)).all carriedByValue) = true
      · rw [if_pos hall]; exact plain
      · rw [if_neg hall]; exact rest_
  | tup h1 h2 h3 h4 =>
    rename_i a o' vs n ks
    dsimp only
    by_cases hall : (((Value.ref a) :: (placesWithHash es.size (fun i => es[i]?.map (·.hash)) (NestedKey.hash w (.tup ks))).filterMap fun i => es[i]?.map (·.key)).all carriedByValue) = true
    · rw [if_pos hall]; exact plain
    · rw [if_neg hall]
      have hany : ¬ (es.any fun e => e.key == Value.ref a && e.hash != NestedKey.hash w (.tup ks)) = true := by
        rw [← Array.any_toList, List.any_eq_true]
        rintro ⟨e, hin, hc⟩
        obtain ⟨x, hx, rfl⟩ := memE e (Array.mem_toList_iff.mp hin)
        simp only [entG, Bool.and_eq_true, beq_iff_eq, bne_iff_ne, ne_eq] at hc
        have z := (his x hx).1
        rw [hc.1] at z
        exact hc.2 (by rw [NestedIs.inj _ _ _ z (NestedIs.tup h1 h2 h3 h4)])
      rw [if_neg hany]
      exact rest_
end
end DL
/-! D8: dicts as data. -/
namespace DL
open PySem PySem.Spec PyProof.Rows L2

/-! ### equality of data (for tables) -/
noncomputable instance decD : DecidableEq D := fun a b => Classical.propDecidable (a = b)
noncomputable def dlook (kvs : List (D × D)) (k : D) : Option D := (kvs.find? fun p => decide (p.1 = k)).map (·.2)
noncomputable def dput (kvs : List (D × D)) (k v : D) : List (D × D) :=
  if (dlook kvs k).isSome = true then kvs.map (fun p => if p.1 = k then (p.1, v) else p) else kvs ++ [(k, v)]
theorem dlook_nil (k : D) : dlook [] k = none := rfl
theorem dlook_cons (p : D × D) (r : List (D × D)) (k : D) : dlook (p :: r) k = if p.1 = k then some p.2 else dlook r k := by
  unfold dlook
  rw [List.find?_cons]
  by_cases e : p.1 = k
  · rw [if_pos e, decide_eq_true e]; rfl
  · rw [if_neg e, decide_eq_false e]
theorem dput_length (kvs : List (D × D)) (k v : D) : (dput kvs k v).length ≤ kvs.length + 1 := by
  unfold dput
  split
  · rw [List.length_map]; omega
  · rw [List.length_append]; simp
theorem dput_new {kvs : List (D × D)} {k v : D} (h : dlook kvs k = none) : dput kvs k v = kvs ++ [(k, v)] := by
  unfold dput
  rw [h]
  exact if_neg (by decide)
theorem dlook_append (a b : List (D × D)) (k : D) : dlook (a ++ b) k = (dlook a k).or (dlook b k) := by
  induction a with
  | nil => rfl
  | cons p r ih =>
    rw [List.cons_append, dlook_cons, dlook_cons]
    by_cases e : p.1 = k
    · rw [if_pos e, if_pos e]; rfl
    · rw [if_neg e, if_neg e]; exact ih
theorem dlook_map (k j v : D) : ∀ kvs : List (D × D), dlook (kvs.map fun p => if p.1 = k then (p.1, v) else p) j = if j = k then (dlook kvs j).map (fun _ => v) else dlook kvs j
  | [] => by simp [dlook]
  | p :: r => by
    rw [List.map_cons, dlook_cons, dlook_cons, dlook_map k j v r]
    by_cases e : p.1 = k
    · rw [if_pos e]
      by_cases q : p.1 = j
      · rw [if_pos q, if_pos q, if_pos (q.symm.trans e)]; rfl
      · rw [if_neg q, if_neg q]
    · rw [if_neg e]
      by_cases q : p.1 = j
      · rw [if_pos q, if_pos q, if_neg (fun z => e (q.trans z))]
      · rw [if_neg q, if_neg q]
theorem dlook_dput (kvs : List (D × D)) (k v j : D) : dlook (dput kvs k v) j = if j = k then some v else dlook kvs j := by
  unfold dput
  by_cases h : (dlook kvs k).isSome = true
  · rw [if_pos h, dlook_map]
    by_cases e : j = k
    · rw [if_pos e, if_pos e, e]
      obtain ⟨x, hx⟩ := Option.isSome_iff_exists.mp h
      rw [hx]; rfl
    · rw [if_neg e, if_neg e]
  · rw [if_neg h, dlook_append]
    have hn : dlook kvs k = none := by
      cases q : dlook kvs k with
      | none => rfl
      | some x => rw [q] at h; exact absurd rfl h
    rw [dlook_cons, dlook_nil]
    by_cases e : j = k
    · subst e; rw [hn, if_pos rfl]; rfl
    · rw [if_neg e, if_neg (fun z => e z.symm)]
      cases dlook kvs j <;> rfl

mutual
theorem keyOf_inj : ∀ (a b : D) (k : NestedKey), keyOf a = some k → keyOf b = some k → a = b
  | .non, b, k, h1, h2 => by
    cases h1
    cases b <;> first
      | rfl
      | (simp [keyOf] at h2; done)
      | (simp only [keyOf, Option.map_eq_some_iff] at h2; obtain ⟨_, _, q⟩ := h2; cases q)
  | .int i, b, k, h1, h2 => by
    cases h1
    cases b <;> first
      | (simp [keyOf] at h2; done)
      | (simp only [keyOf, Option.map_eq_some_iff] at h2; obtain ⟨_, _, q⟩ := h2; cases q)
      | (simp only [keyOf, Option.some.injEq, NestedKey.num.injEq] at h2; rw [h2])
  | .str i, b, k, h1, h2 => by
    cases h1
    cases b <;> first
      | (simp [keyOf] at h2; done)
      | (simp only [keyOf, Option.map_eq_some_iff] at h2; obtain ⟨_, _, q⟩ := h2; cases q)
      | (simp only [keyOf, Option.some.injEq, NestedKey.text.injEq] at h2; rw [h2])
  | .tup ds, b, k, h1, h2 => by
    simp only [keyOf, Option.map_eq_some_iff] at h1
    obtain ⟨ks, e1, rfl⟩ := h1
    cases b <;> first
      | (simp [keyOf] at h2; done)
      | skip
    simp only [keyOf, Option.map_eq_some_iff, NestedKey.tup.injEq] at h2
    obtain ⟨ks2, e2, rfl⟩ := h2
    rw [keysOf_inj ds _ _ e1 e2]
  | .bl _, _, _, h1, _ => by simp [keyOf] at h1
  | .ref _, _, _, h1, _ => by simp [keyOf] at h1
  | .rol _, _, _, h1, _ => by simp [keyOf] at h1
  | .ty _, _, _, h1, _ => by simp [keyOf] at h1
theorem keysOf_inj : ∀ (a b : List D) (k : List NestedKey), keysOf a = some k → keysOf b = some k → a = b
  | [], [], _, _, _ => rfl
  | [], b :: bs, k, h1, h2 => by
    cases h1
    simp only [keysOf, Option.bind_eq_some_iff, Option.map_eq_some_iff] at h2
    obtain ⟨_, _, _, _, q⟩ := h2
    cases q
  | a :: as, [], k, h1, h2 => by
    cases h2
    simp only [keysOf, Option.bind_eq_some_iff, Option.map_eq_some_iff] at h1
    obtain ⟨_, _, _, _, q⟩ := h1
    cases q
  | a :: as, b :: bs, k, h1, h2 => by
    simp only [keysOf, Option.bind_eq_some_iff, Option.map_eq_some_iff] at h1 h2
    obtain ⟨x, ex, xs, exs, rfl⟩ := h1
    obtain ⟨y, ey, ys, eys, q⟩ := h2
    injection q with q1 q2
    subst q1 q2
    rw [keyOf_inj a b _ ex ey, keysOf_inj as bs _ exs eys]
end

section
variable {X : Cx} {pins : List (Addr × Obj)} {σ : L2.St} {H : Hp} {s : Shared}
mutual
/-- data that is a key, in the machine's heap -/
theorem key_is (I : Inv X pins σ H s) : ∀ (d : D) (k : NestedKey) (v : V) (u : Value), keyOf d = some k → RD X.K H d v → RelV v u → NestedIs s.heap k u
  | .non, _, _, _, e, r, q => by cases e; cases r; cases q; exact .none
  | .int i, _, _, _, e, r, q => by cases e; cases r; obtain ⟨t, rfl⟩ := q; exact .int i t
  | .str x, _, _, _, e, r, q => by cases e; cases r; obtain ⟨t, rfl⟩ := q; exact .text x t
  | .tup ds, _, _, _, e, ⟨a, vs, ev, st, rs⟩, q => by
    simp only [keyOf, Option.map_eq_some_iff] at e
    obtain ⟨ks, e1, rfl⟩ := e
    subst ev
    cases q
    obtain ⟨its, rv, ⟨o, ho, hc, n, hd⟩, _⟩ := I.tuple st
    exact .tup ho hc hd (by simpa using keys_is I ds ks vs its e1 rs rv)
  | .bl _, _, _, _, e, _, _ => by simp [keyOf] at e
  | .ref _, _, _, _, e, _, _ => by simp [keyOf] at e
  | .rol _, _, _, _, e, _, _ => by simp [keyOf] at e
  | .ty _, _, _, _, e, _, _ => by simp [keyOf] at e
theorem keys_is (I : Inv X pins σ H s) : ∀ (ds : List D) (ks : List NestedKey) (vs : List V) (us : List Value), keysOf ds = some ks → RDs X.K H ds vs → Vals vs us → NestedAll s.heap ks us
  | [], _, _, _, e, r, q => by cases e; rw [RDs.nil_ r] at q; cases q; exact .nil
  | d :: ds, _, _, _, e, ⟨v, r, ev, h1, h2⟩, q => by
    simp only [keysOf, Option.bind_eq_some_iff, Option.map_eq_some_iff] at e
    obtain ⟨x, ex, xs, exs, rfl⟩ := e
    subst ev
    cases q with
    | cons q1 q2 => exact .cons (key_is I d x v _ ex h1 q1) (keys_is I ds xs r _ exs h2 q2)
end
end

/-! ### tables of both kinds -/
section
variable {K : PySem.W.Frag} {H : Hp} {kvs : List (D × D)} {xs : List Ent} {k : NestedKey} {d : D}
theorem REnts.key_iff {p : D × D} {x : Ent} (r : REnt K H p x) (hk : keyOf d = some k) : p.1 = d ↔ x.1 = k := by
  constructor
  · intro e
    have h1 := r.key
    rw [e, hk] at h1
    exact (Option.some.inj h1).symm
  · intro e
    exact keyOf_inj _ _ k (by rw [← e]; exact r.key) hk
/-- what is found -/
theorem REnts.find (r : REnts K H kvs xs) (hk : keyOf d = some k) : (dlook kvs d = none ∧ ixOf xs k = none) ∨
    ∃ i x dv, ixOf xs k = some i ∧ xs[i]? = some x ∧ dlook kvs d = some dv ∧ ∃ v, RelV v x.2.2 ∧ RD K H dv v := by
  induction r with
  | nil => exact .inl ⟨rfl, rfl⟩
  | @cons p x ps ys h t ih =>
    rw [dlook_cons]
    by_cases e : p.1 = d
    · have e' : x.1 = k := (REnts.key_iff h hk).mp e
      obtain ⟨v, h1, h2⟩ := h.vv
      refine .inr ⟨0, x, p.2, ?_, rfl, if_pos e, v, h1, h2⟩
      rw [ixOf, List.findIdx?_cons, decide_eq_true e']
      rfl
    · have e' : ¬ x.1 = k := fun z => e ((REnts.key_iff h hk).mpr z)
      rw [if_neg e, ixOf, List.findIdx?_cons, decide_eq_false e']
      rcases ih with ⟨h1, h2⟩ | ⟨i, y, dv, h1, h2, h3, h4⟩
      · refine .inl ⟨h1, ?_⟩
        show Option.map (· + 1) (ixOf ys k) = none
        rw [h2]; rfl
      · refine .inr ⟨i + 1, y, dv, ?_, by simpa using h2, h3, h4⟩
        show Option.map (· + 1) (ixOf ys k) = some (i + 1)
        rw [h1]; rfl
/-- the table behind a store -/
def setE (xs : List Ent) (k : NestedKey) (u v : Value) : List Ent := match ixOf xs k with
  | some i => xs.modify i fun x => (x.1, x.2.1, v)
  | none => xs ++ [(k, u, v)]
theorem setE_keys {u v : Value} (hn : (xs.map (·.1)).Nodup) : ((setE xs k u v).map (·.1)).Nodup := by
  unfold setE
  cases q : ixOf xs k with
  | some i =>
    have e : (xs.modify i fun x => (x.1, x.2.1, v)).map (·.1) = xs.map (·.1) := by
      refine List.ext_getElem? fun j => ?_
      rw [List.getElem?_map, List.getElem?_map, List.getElem?_modify]
      cases xs[j]? with
      | none => rfl
      | some x => by_cases z : i = j <;> simp [z]
    simp only [e]; exact hn
  | none =>
    rw [List.map_append, List.nodup_append]
    refine ⟨hn, by simp, fun x hx y hy => ?_⟩
    simp only [List.map_cons, List.map_nil, List.mem_singleton] at hy
    subst hy
    rintro rfl
    obtain ⟨e, he, rfl⟩ := List.mem_map.mp hx
    have := List.findIdx?_eq_none_iff.mp q e he
    simp at this
theorem REnts.put (r : REnts K H kvs xs) (hn : (xs.map (·.1)).Nodup) (hk : keyOf d = some k) (dk : k.depth ≤ 7) {ku kv : Value} {vk vv : V} {dv : D} (r1 : RelV vk ku) (r2 : RD K H d vk) (r3 : RelV vv kv) (r4 : RD K H dv vv) :
    REnts K H (dput kvs d dv) (setE xs k ku kv) := by
  unfold dput setE
  rcases r.find hk with ⟨h1, h2⟩ | ⟨i, x, w, h1, h2, h3, h4⟩
  · rw [h1, h2]
    rw [if_neg (by decide)]
    exact Paired.snoc r ⟨hk, dk, ⟨vk, r1, r2⟩, ⟨vv, r3, r4⟩⟩
  · rw [h3, h1]
    rw [if_pos (show (some w).isSome = true from rfl)]
    show REnts K H (kvs.map fun p => if p.1 = d then (p.1, dv) else p) (xs.modify i fun x => (x.1, x.2.1, kv))
    have hi : ∀ (j : Nat) (y : Ent), xs[j]? = some y → (y.1 = k ↔ j = i) := fun j y ey => by
      constructor
      · intro e
        have := ix_some hn ey e
        rw [h1] at this
        exact (Option.some.inj this).symm
      · rintro rfl
        obtain ⟨q1, q2, _⟩ := List.findIdx?_eq_some_iff_getElem.mp h1
        rw [List.getElem?_eq_getElem q1] at ey
        cases ey
        exact of_decide_eq_true q2
    clear h1 h2 h3 h4
    have gen : ∀ {ps : List (D × D)} {ys : List Ent} (i : Nat), REnts K H ps ys → (∀ (j : Nat) (y : Ent), ys[j]? = some y → (y.1 = k ↔ j = i)) → REnts K H (ps.map fun p => if p.1 = d then (p.1, dv) else p) (ys.modify i fun x => (x.1, x.2.1, kv)) := by
      intro ps ys i t
      induction t generalizing i with
      | nil => intro _; rw [List.modify_nil]; exact .nil
      | @cons p x ps ys h t ih =>
        intro hj
        rw [List.map_cons]
        cases i with
        | zero =>
          have e : x.1 = k := (hj 0 x rfl).mpr rfl
          rw [List.modify_zero_cons, if_pos ((REnts.key_iff h hk).mpr e)]
          refine .cons ⟨h.key, h.deep, h.kv, ⟨vv, r3, r4⟩⟩ ?_
          have same : ps.map (fun p => if p.1 = d then (p.1, dv) else p) = ps := by
            have all : ∀ {qs : List (D × D)} {zs : List Ent} (n : Nat), REnts K H qs zs → (∀ (j : Nat) (y : Ent), zs[j]? = some y → ¬ y.1 = k) → qs.map (fun p => if p.1 = d then (p.1, dv) else p) = qs := by
              intro qs zs n t2
              induction t2 with
              | nil => intro _; rfl
              | @cons p2 x2 ps2 ys2 h2 t2 ih2 =>
                intro hz
                have ne : ¬ p2.1 = d := fun z => hz 0 x2 rfl ((REnts.key_iff h2 hk).mp z)
                rw [List.map_cons, if_neg ne, ih2 fun j y ey => hz (j + 1) y (by simpa using ey)]
            exact all 0 t fun j y ey z => by
              have := (hj (j + 1) y (by simpa using ey)).mp z
              omega
          rw [same]
          exact t
        | succ i =>
          have ne : ¬ p.1 = d := fun z => by
            have := (hj 0 x rfl).mp ((REnts.key_iff h hk).mp z)
            omega
          rw [List.modify_succ_cons, if_neg ne]
          exact .cons h (ih i fun j y ey => by
            have := hj (j + 1) y (by simpa using ey)
            rw [this]
            omega)
    exact gen i r hi
end

/-! ### the machine's operations -/
section
variable {prog : Program} {w : World} {A : Around} {E : Value → Shared → Prop} {s : Shared} {d : Addr} {xs : List Ent} {k : NestedKey} {v : Value}
/-- the dict, its keys keys -/
structure DictG (w : World) (h : Heap) (d : Addr) (xs : List Ent) : Prop where
  ob : isDict w d xs h
  keys : KeysIn h xs
  nd : (xs.map (·.1)).Nodup
theorem DictG.ty (m : DictG w s.heap d xs) : s.TypeIs (.ref d) "dict" := let ⟨o, _, _, ho, hc, _⟩ := m.ob; ⟨o, ho, hc.1⟩
theorem get_g {Q : Option Value → Shared → Prop} (hu : A.units + 8 < cLine) (hv : NestedIs s.heap k v) (hk : k.depth ≤ 7) (m : DictG w s.heap d xs)
    (h : Q ((ixOf xs k).bind fun i => (xs[i]?).map (·.2.2)) { s with toks := s.toks + k.draws }) : wpAny (model prog w) A (dictGet d v) Q E s := by
  obtain ⟨⟨o, es, ep, ho, hc, hd, he⟩, his, hn⟩ := m
  unfold dictGet
  try with_reducible refine wpAny_holding ?_
  refine wpAny_bind (pyHash_key k v A s _ hv (by omega) (wpAny_bind (find_g (s := { s with toks := s.toks + k.draws }) hu hv hk ho hd he his hn ?_)))
  cases q : ixOf xs k with
  | none => rw [q] at h; exact wpAny_pure h
  | some i =>
    rw [q] at h
    refine wpAny_bind (wpAny_dictEntries (s := { s with toks := s.toks + k.draws }) ho hd ?_)
    rw [es_at he]
    have e2 : Option.map (fun x => x.val) (Option.map (entG w) xs[i]?) = (xs[i]?).map (·.2.2) := by
      cases xs[i]? <;> rfl
    rw [e2]
    exact wpAny_pure h
theorem set_g {u : Value} {Q : Unit → Shared → Prop} (hu : A.units + 8 < cLine) (hv : NestedIs s.heap k v) (hk : k.depth ≤ 7) (m : DictG w s.heap d xs) (hz : xs.length ≤ sizeLine)
    (h : ∀ h', isDict w d (setE xs k v u) h' → Heap.SameBut d s.heap h' → Q () { s with heap := h', toks := s.toks + k.draws }) : wpAny (model prog w) A (dictSet d v u) Q E s := by
  obtain ⟨⟨o, es, ep, ho, hc, hd, he⟩, his, hn⟩ := m
  have hs := es_size he
  unfold dictSet
  try with_reducible refine wpAny_holding ?_
  refine wpAny_bind (pyHash_key k v A s _ hv (by omega) ?_)
  unfold dictSetHashed
  try with_reducible refine wpAny_holding ?_
  refine wpAny_bind (find_g (s := { s with toks := s.toks + k.draws }) hu hv hk ho hd he his hn ?_)
  cases q : ixOf xs k with
  | none =>
    refine wpAny_bind (wpAny_rule (wpAny_updateDictKeys (hz := by omega) (s := { s with toks := s.toks + k.draws }) ho hd (h _ ⟨_, _, ep + 1, Heap.get?_update_self _ ho (Obj.isFreed_of_dict (Obj.data_mapDictKeys hd _)), hc.mapDictKeys _, Obj.data_mapDictKeys hd _, ?_⟩ (Heap.SameBut.update ..))))
    unfold setE
    rw [q]
    simp [he]
  | some i =>
    refine wpAny_bind (wpAny_rule (wpAny_bind (wpAny_updateDict (s := { s with toks := s.toks + k.draws }) ho hd (wpAny_point (h _ ⟨_, _, ep, Heap.get?_update_self _ ho (Obj.isFreed_of_dict (Obj.data_mapDict hd _)), hc.mapDict _, Obj.data_mapDict hd _, ?_⟩ (Heap.SameBut.update ..))))))
    unfold setE
    rw [q]
    rw [Array.toList_modify, he]
    refine List.ext_getElem? fun j => ?_
    rw [List.getElem?_modify, List.getElem?_map, List.getElem?_map, List.getElem?_modify]
    cases xs[j]? with
    | none => rfl
    | some x => by_cases z : i = j <;> simp [z]
theorem contains_g {Q : Bool → Shared → Prop} (hu : A.units + 9 < cLine) (hv : NestedIs s.heap k v) (hk : k.depth ≤ 7) (hS : (d == sysModules) = false) (m : DictG w s.heap d xs)
    (h : Q (ixOf xs k).isSome { s with toks := s.toks + k.draws }) : wpAny (model prog w) A (contains (.ref d) v) Q E s := by
  refine wpAny_contains_slot m.ty PySem.F.slot_dict_contains (call_meetsIn PySem.F.slot_dict_contains m.ty PySem.F.entry_dict_contains (PySem.F.args_dict_contains_2 _ _)
    (S := fun A' R s' => A' = A ∧ s' = s ∧ R (.ok (.ret (.bool (ixOf xs k).isSome))) { s with toks := s.toks + k.draws }) (fun A' R s' z => ?_) ⟨rfl, rfl, wpAny_truthy_bool h⟩)
  obtain ⟨rfl, rfl, z⟩ := z
  show wpAny _ _ (dictGet d v >>= _) _ _ _
  refine wpAny_bind (get_g (by rw [Around.in1_units]; omega) hv hk m ?_)
  cases q : ixOf xs k with
  | none =>
    rw [q] at z
    exact wpAny_bind (wpAny_pendingKey_other hS (wpAny_pure z))
  | some i =>
    rw [q] at z
    obtain ⟨hi, _⟩ := List.findIdx?_eq_some_iff_getElem.mp q
    have e3 : ((some i).bind fun i => (xs[i]?).map (·.2.2)) = some xs[i].2.2 := by
      show (xs[i]?).map _ = _
      rw [List.getElem?_eq_getElem hi]; rfl
    rw [e3]
    exact wpAny_pure z
theorem getItem_g {u : Value} {Q : Value → Shared → Prop} (hu : A.units + 9 < cLine) (hv : NestedIs s.heap k v) (hk : k.depth ≤ 7) (m : DictG w s.heap d xs) {i : Nat} {x : Ent} (e1 : ixOf xs k = some i) (e2 : xs[i]? = some x)
    (h : Q x.2.2 { s with toks := s.toks + k.draws }) : wpAny (model prog w) A (getItem (.ref d) v) Q E s := by
  unfold getItem
  try with_reducible refine wpAny_holding ?_
  refine wpAny_bind (wpAny_sequenceKey m.ty (by decide) ?_)
  refine wpAny_bind (wpAny_callSpecial?_slot (name := Str.ofString "__getitem__") m.ty slot_dict_getitem (wpAny_call_entry slot_dict_getitem m.ty entry_dict_getitem ?_ (args_dict_getitem _ _)))
  show wpAny _ _ (dictGet d v >>= _) _ _ s
  refine wpAny_bind (get_g (by rw [Around.in1_units]; omega) hv hk m ?_)
  have e3 : ((ixOf xs k).bind fun i => (xs[i]?).map (·.2.2)) = some x.2.2 := by
    rw [e1]
    show (xs[i]?).map _ = _
    rw [e2]; rfl
  rw [e3]
  exact wpAny_pure ⟨x.2.2, rfl, wpAny_pure h⟩
theorem setItem_g {u : Value} {Q : Unit → Shared → Prop} (hu : A.units + 9 < cLine) (hv : NestedIs s.heap k v) (hk : k.depth ≤ 7) (m : DictG w s.heap d xs) (hz : xs.length ≤ sizeLine)
    (h : ∀ h', isDict w d (setE xs k v u) h' → Heap.SameBut d s.heap h' → Q () { s with heap := h', toks := s.toks + k.draws }) : wpAny (model prog w) A (setItem (.ref d) v u) Q E s := by
  unfold setItem
  try with_reducible refine wpAny_holding ?_
  refine wpAny_bind (wpAny_sequenceKey m.ty (by decide) ?_)
  refine wpAny_bind (wpAny_callSpecial?_slot (name := Str.ofString "__setitem__") m.ty slot_dict_setitem (wpAny_call_entry slot_dict_setitem m.ty entry_dict_setitem ?_ (args_dict_setitem _ _ _)))
  show wpAny _ _ (Builtin.Dict.notOrdered "__setitem__" ⟨[.ref d, v, u], []⟩ >>= _) _ _ s
  refine wpAny_bind (wpAny_notOrdered_dict m.ty ?_)
  show wpAny _ _ (dictSet d v u >>= _) _ _ s
  exact wpAny_bind (set_g (by rw [Around.in1_units]; omega) hv hk m hz fun h' a b => wpAny_pure ⟨.none, rfl, wpAny_pure (h h' a b)⟩)
/-- d.get(k), d.get(k, x) -/
theorem dget_g {more : List Value} {dflt : Value} {Q : Value → Shared → Prop} (hm : (more = [] ∧ dflt = .none) ∨ more = [dflt]) (hu : A.units + 9 < cLine) (hv : NestedIs s.heap k v) (hk : k.depth ≤ 7) (hS : (d == sysModules) = false) (m : DictG w s.heap d xs)
    (h : Q (((ixOf xs k).bind fun i => (xs[i]?).map (·.2.2)).getD dflt) { s with toks := s.toks + k.draws }) : wpAny (model prog w) A (call (.builtin "dict.get") (.ref d :: v :: more)) Q E s := by
  rcases hm with ⟨rfl, rfl⟩ | rfl
  · refine call_meetsIn PySem.F.slot_dict_get m.ty PySem.F.entry_dict_get (PySem.F.args_dict_get_2 _ _)
      (S := fun A' R s' => A' = A ∧ s' = s ∧ R (.ok (.ret (((ixOf xs k).bind fun i => (xs[i]?).map (·.2.2)).getD .none))) { s with toks := s.toks + k.draws }) (fun A' R s' z => ?_) ⟨rfl, rfl, h⟩
    obtain ⟨rfl, rfl, z⟩ := z
    show wpAny _ _ (dictGet d v >>= _) _ _ _
    refine wpAny_bind (get_g (by rw [Around.in1_units]; omega) hv hk m ?_)
    cases q : (ixOf xs k).bind fun i => (xs[i]?).map (·.2.2) with
    | some y => rw [q] at z; exact wpAny_pure z
    | none =>
      rw [q] at z
      show wpAny _ _ (Builtin.Dict.missed d v >>= _) _ _ _
      exact wpAny_bind (wpAny_missed_other hS (wpAny_pure z))
  · refine call_meetsIn PySem.F.slot_dict_get m.ty PySem.F.entry_dict_get (PySem.F.args_dict_get_3 _ _ _)
      (S := fun A' R s' => A' = A ∧ s' = s ∧ R (.ok (.ret (((ixOf xs k).bind fun i => (xs[i]?).map (·.2.2)).getD dflt))) { s with toks := s.toks + k.draws }) (fun A' R s' z => ?_) ⟨rfl, rfl, h⟩
    obtain ⟨rfl, rfl, z⟩ := z
    show wpAny _ _ (dictGet d v >>= _) _ _ _
    refine wpAny_bind (get_g (by rw [Around.in1_units]; omega) hv hk m ?_)
    cases q : (ixOf xs k).bind fun i => (xs[i]?).map (·.2.2) with
    | some y => rw [q] at z; exact wpAny_pure z
    | none =>
      rw [q] at z
      show wpAny _ _ (Builtin.Dict.missed d v >>= _) _ _ _
      exact wpAny_bind (wpAny_missed_other hS (wpAny_pure z))
end
end DL
/-! D9: the data rules of dicts. -/
namespace DL
open PySem PySem.Spec PyProof.Rows L2

section
variable {X : Cx} {pins : List (Addr × Obj)} {σ : L2.St} {H : Hp} {s : Shared} {a : Addr} {kvs : List (D × D)} {h : DH}
theorem REnts.keysIn (I : Inv X pins σ H s) : ∀ {kvs : List (D × D)} {xs : List Ent}, REnts X.K H kvs xs → KeysIn s.heap xs := by
  intro kvs xs r
  induction r with
  | nil => intro x hx; cases hx
  | @cons p y ps ys q t ih =>
    intro x hx
    rcases List.mem_cons.mp hx with e | hx
    · subst e
      obtain ⟨v, r1, r2⟩ := q.kv
      exact ⟨key_is I _ _ _ _ q.key r2 r1, q.deep⟩
    · exact ih x hx
theorem RH.dict (rh : RH X.K X.w H h) (I : Inv X pins σ H s) (e : h a = some (.dct kvs)) :
    ∃ xs, H a = some (.ext (isDict X.w a xs)) ∧ (a == sysModules) = false ∧ kvs.length ≤ sizeLine ∧ REnts X.K H kvs xs ∧ DictG X.w s.heap a xs := by
  obtain ⟨xs, h1, h2, h3, h4, h5⟩ := rh a _ e
  have q := I.hok a _ h1
  exact ⟨xs, h1, h2, h3, h5, q.1, REnts.keysIn I h5, h4⟩
/-- a dict's object, by its entries -/
theorem ext_ok {P : Program} {w : World} {H' : Hp} {h' : Heap} {xs : List Ent} (q : isDict w a xs h') : ObjOk P w H' h' a (.ext (isDict w a xs)) := by
  refine ⟨q, ?_, fun h1 h2 x k => ?_⟩
  · obtain ⟨o, _, _, ho, _⟩ := q
    exact ⟨o, ho⟩
  · obtain ⟨o, es, ep, ho, r⟩ := x
    exact ⟨o, es, ep, k o ho, r⟩
/-- may be a key -/
def isKey (d : D) : Prop := ∃ k, keyOf d = some k ∧ k.depth ≤ 7
/-- the table is written -/
theorem dict_put {xs : List Ent} {h' : Heap} {t' : Nat} {k : NestedKey} {d dv : D} {vk vv : V} {ku kv : Value} (I : Inv X pins σ H s) (rh : RH X.K X.w H h) (e : h a = some (.dct kvs)) (h1 : H a = some (.ext (isDict X.w a xs))) (z : kvs.length < sizeLine) (r : REnts X.K H kvs xs) (hn : (xs.map (·.1)).Nodup)
    (hS : (a == sysModules) = false) (hk : keyOf d = some k) (dk : k.depth ≤ 7) (r1 : RelV vk ku) (r2 : RD X.K H d vk) (r3 : RelV vv kv) (r4 : RD X.K H dv vv) (new : isDict X.w a (setE xs k ku kv) h') (sb : Heap.SameBut a s.heap h') :
    Inv X pins σ (upd H a (.ext (isDict X.w a (setE xs k ku kv)))) { s with heap := h', toks := t' } ∧ Keeps H (upd H a (.ext (isDict X.w a (setE xs k ku kv)))) ∧ RH X.K X.w (upd H a (.ext (isDict X.w a (setE xs k ku kv)))) (put h a (.dct (dput kvs d dv))) := by
  have kp : Keeps H (upd H a (.ext (isDict X.w a (setE xs k ku kv)))) := Keeps.over h1 True.intro
  have eo := new
  obtain ⟨o, _, _, ho, _⟩ := eo
  refine ⟨I.write (x := a) (e := a) (by rw [h1]; exact True.intro) (.inl rfl) (fun b q hb w => (sb.2 b hb).trans w) ⟨o, ho⟩ (ext_ok new), kp, rh.wr kp ⟨_, upd_same, hS, ?_, setE_keys hn, (r.put hn hk dk r1 r2 r3 r4).keep kp⟩⟩
  have := dput_length kvs d dv
  omega
end

section
variable {X : Cx} {a b c e : Expr} {ta tb tc t : DTE} {pos : Pos}
def dDNew : DTE := fun _ h P => fresh h (.dct []) fun p h' => P (.ref p) h'
theorem de_dnew : DE X (.Dict [] [] pos) dDNew := by
  refine ⟨⟨fun pins s σ H Q I ⟨dσ, h, P, rs, rh, q, f⟩ => wpAny_Dict_empty ?_⟩⟩
  have nf : H s.heap.objs.size = none := I.hok.fresh (Nat.le_refl _)
  have new : isDict X.w s.heap.objs.size [] (s.heap.push { cls := .type "dict", data := .dict #[] }) := ⟨_, #[], 0, Heap.get?_push_size _ rfl, ⟨rfl, rfl, rfl⟩, rfl, rfl⟩
  have kp : Keeps H (upd H s.heap.objs.size (.ext (isDict X.w s.heap.objs.size []))) := Keeps.new nf
  refine ⟨.ref s.heap.objs.size, _, I.laid (a := s.heap.objs.size) (o := .ext (isDict X.w s.heap.objs.size [])) (t' := s.toks) (fun _ _ q => Heap.get?_push_of_some _ q) (Nat.le_refl _) (ext_ok new), rfl, ?_⟩
  exact f _ _ _ _ (q _ (rh.free nf)) kp (rh.wr kp ⟨[], upd_same, beq_eq_false_iff_ne.mpr (Ne.symm (Nat.ne_of_lt I.big)), Nat.zero_le _, List.nodup_nil, .nil⟩) rfl

/-! ### in, not in -/
def inD (h : DH) (x y : D) (k : Bool → Prop) : Prop := match x, y with
  | .str x, .str y => k (inStr x y)
  | x, .ref a => dctAt h a fun kvs => isKey x ∧ k (dlook kvs x).isSome
  | _, _ => False
def dIn : DR2 := fun x y h P => inD h x y fun b => P (.bl b) h
def dNotIn : DR2 := fun x y h P => inD h x y fun b => P (.bl (!b)) h
theorem op_dIn (hu : X.A.units + 64 < cLine) : DOp X (compareOp .In) dIn := by
  intro pins s σ H x y v u Q I rx ry q
  obtain ⟨dx, dy, h, P, r1, r2, rh, q, f⟩ := q
  unfold dIn inD at q
  split at q
  · cases r1; cases r2
    exact op_in_str pins s σ H _ _ v u Q I rx ry ⟨_, _, rfl, rfl, f _ _ _ _ q (Keeps.refl _) rh rfl⟩
  · cases r2
    obtain ⟨kvs, e1, ⟨k, hk, dk⟩, q⟩ := of_dctAt q
    obtain ⟨xs, g1, hS, hz, re, m⟩ := rh.dict I e1
    cases ry
    refine wpAny_bind (contains_g (by omega) (key_is I _ _ _ _ hk r1 rx) dk hS m (wpAny_pure ?_))
    refine ⟨.bl (ixOf xs k).isSome, H, I.tok _, rfl, ?_⟩
    have e2 : (ixOf xs k).isSome = (dlook kvs dx).isSome := by
      rcases re.find hk with ⟨h1, h2⟩ | ⟨i, z, w, h1, h2, h3, h4⟩
      · rw [h1, h2]; rfl
      · rw [h1, h3]; rfl
    rw [e2]
    exact f _ _ _ _ q (Keeps.refl _) rh rfl
  · exact q.elim
theorem op_dNotIn (hu : X.A.units + 64 < cLine) : DOp X (compareOp .NotIn) dNotIn := by
  intro pins s σ H x y v u Q I rx ry q
  obtain ⟨dx, dy, h, P, r1, r2, rh, q, f⟩ := q
  unfold dNotIn inD at q
  split at q
  · cases r1; cases r2
    exact L2.op_notIn_str pins s σ H _ _ v u Q I rx ry ⟨_, _, rfl, rfl, f _ _ _ _ q (Keeps.refl _) rh rfl⟩
  · cases r2
    obtain ⟨kvs, e1, ⟨k, hk, dk⟩, q⟩ := of_dctAt q
    obtain ⟨xs, g1, hS, hz, re, m⟩ := rh.dict I e1
    cases ry
    refine wpAny_bind (contains_g (by omega) (key_is I _ _ _ _ hk r1 rx) dk hS m (wpAny_pure ?_))
    refine ⟨.bl (!(ixOf xs k).isSome), H, I.tok _, rfl, ?_⟩
    have e2 : (ixOf xs k).isSome = (dlook kvs dx).isSome := by
      rcases re.find hk with ⟨h1, h2⟩ | ⟨i, z, w, h1, h2, h3, h4⟩
      · rw [h1, h2]; rfl
      · rw [h1, h3]; rfl
    rw [e2]
    exact f _ _ _ _ q (Keeps.refl _) rh rfl
  · exact q.elim

/-! ### d[k] -/
def dIxD : DR2
  | .ref a, x, h, P => dctAt h a fun kvs => isKey x ∧ oAt (dlook kvs x) fun d => P d h
  | _, _, _, _ => False
theorem ix_dD (hu : X.A.units + 64 < cLine) : IxR X (LR X.K X.w dIxD) := by
  intro value slice pins s σ H x y v u Q I rx ry q hs
  obtain ⟨dx, dy, h, P, r1, r2, rh, q, f⟩ := q
  unfold dIxD at q
  split at q
  · cases r1
    obtain ⟨kvs, e1, ⟨k, hk, dk⟩, q⟩ := of_dctAt q
    obtain ⟨d, ed, q⟩ := of_oAt q
    obtain ⟨xs, g1, hS, hz, re, m⟩ := rh.dict I e1
    cases rx
    rcases re.find hk with ⟨h1, h2⟩ | ⟨i, z, w, h1, h2, h3, w', rw', rd'⟩
    · rw [h1] at ed; cases ed
    · rw [h3] at ed; cases ed
      exact tail_any m.ty slot_dict_getitem.lookup (getItem_g (u := u) (by omega) (key_is I _ _ _ _ hk r2 ry) dk m h1 h2 ⟨w', H, I.tok _, rw', f _ _ _ _ q (Keeps.refl _) rh rd'⟩) hs
  · exact q.elim
theorem de_ixD (hu : X.A.units + 64 < cLine) (ha : DE X a ta) (hb : DE X b tb) (hs : PlainIx b := by intro _ _; rfl) : DE X (.Subscript a b pos) (dOp dIxD ta tb) := ⟨peImp (pe_ix (ix_dD hu) ha.pe hb.pe hs) fun _ _ _ q => lift2 q⟩
/-! ### d[k] = v -/
def dSetD : DSet
  | .ref a, x, d, h, P => dctAt h a fun kvs => (isKey x ∧ kvs.length < sizeLine) ∧ P (put h a (.dct (dput kvs x d)))
  | _, _, _, _, _ => False
theorem set_dD (hu : X.A.units + 64 < cLine) : PSet X (LSet X.K X.w dSetD) := by
  intro pins s σ H o i v ov iv u Q I ro ri rv q
  obtain ⟨d1, d2, d3, h, P, r1, r2, r3, rh, q, f⟩ := q
  unfold dSetD at q
  split at q
  · cases r1
    obtain ⟨kvs, e1, ⟨⟨k, hk, dk⟩, z⟩, q⟩ := of_dctAt q
    obtain ⟨xs, g1, hS, hz, re, m⟩ := rh.dict I e1
    cases ro
    refine setItem_g (by omega) (key_is I _ _ _ _ hk r2 ri) dk m (by rw [← Paired.length re]; omega) fun h' new sb => ?_
    have n := dict_put (t' := s.toks + k.draws) I rh e1 g1 z re m.nd hS hk dk ri r2 rv r3 new sb
    exact ⟨_, n.1, f _ _ q n.2.1 n.2.2⟩
  · exact q.elim

/-! ### methods -/
def dMD (r : DRM) (to : DTE) (t : DTA) : DTE := fun σ h P => to σ h fun x h1 => match x with
  | .ref a => dctAt h1 a fun _ => t σ h1 fun ds h2 => r x ds h2 P
  | _ => False
theorem de_md {o e : Expr} {es : List Expr} {to : DTE} {t : DTA} {name : Str} {id : String} {apos cpos : Pos} {r : DRM} (slot : Slot "dict" name id) (hty : typeOf (.builtin id) = pure (.type "method_descriptor")) (hm : MtR X id (LM X.K X.w r)) (ho : DE X o to) (ha : DA X (e :: es) t)
    (hbase : attributeBase o name X.env (eval o X.env) = eval o X.env := by rfl)
    (hfew : ((backTo cpos (starEach (e :: es) X.env)).all (fun x => !x.1) && (backToKw cpos (keywordEach [] X.env)).all (fun x => x.1.isSome)
      && decide ((e :: es).length + ([] : List Keyword).length + (if ([] : List Keyword).isEmpty then 0 else 1) < 30)) = true := by rfl)
    (hline : (apos.endLine == cpos.line) = true := by rfl) (hs : starEach (e :: es) X.env = (false, eval e X.env) :: starEach es X.env := by rfl) (hplain : (backTo cpos (starEach es X.env)).any (·.1) = false := by rfl) :
    DE X (.Call (.Attribute o name apos) (e :: es) [] cpos) (dMD r to t) := by
  refine ⟨⟨fun pins s σ H Q I ⟨dσ, h, P, rs, rh, q, f⟩ => ?_⟩⟩
  refine wpAny_Call_method_late hbase hfew hline rfl (thn (ho.pe.run pins s σ H (fun x H1 => ∃ d h1, RD X.K H1 d x ∧ RH X.K X.w H1 h1 ∧ Keeps H H1 ∧ (match d with
    | .ref a => dctAt h1 a fun _ => t dσ h1 fun ds h2 => r d ds h2 P
    | _ => False)) I ⟨dσ, h, _, rs, rh, q, fun d h1 v H1 q1 k1 rh1 r1 => ⟨d, h1, r1, rh1, k1, q1⟩⟩) fun v s1 ⟨x, H1, I1, r1, d, h1, rd, rh1, k1, q1⟩ => ?_)
  split at q1
  · rename_i a
    cases rd
    obtain ⟨kvs, e1, q1⟩ := of_dctAt q1
    obtain ⟨xs, g1, hS, hz, re, m⟩ := rh1.dict I1 e1
    cases r1
    refine ⟨"dict", id, PySem.F.plainAttrs_dict, slot, hty, m.ty, fun b eb => ?_, ?_⟩
    · cases eb
      obtain ⟨o, _, _, h1, h2, _⟩ := m.ob
      exact ⟨o, h1, h2.2.1⟩
    · have hA := ha.pa.run cpos pins s1 σ H1 (fun xs H2 => LM X.K X.w r (V.ref a) xs H2 Q) I1 ⟨dσ, h1, _, rs.keep k1, rh1, q1, fun ds h2 us H2 q2 k2 rh2 r2 => ⟨.ref a, ds, h2, P, rfl, r2, rh2, q2, f.keep (k1.trans k2)⟩⟩
      rw [hs] at hA ⊢
      refine Calls.callWith_builtin (by show (false || (backTo cpos (starEach es X.env)).any (·.1)) = false; rw [hplain] <;> rfl) (Calls.evalArgs_plain ?_)
      exact thn hA fun us s2 ⟨vs, H2, I2, r2, q2⟩ => hm pins s2 σ H2 (.ref a) vs _ us Q I2 rfl r2 q2
  · exact q1.elim
noncomputable def dGet : DRM
  | .ref a, [x], h, P => dctAt h a fun kvs => isKey x ∧ P ((dlook kvs x).getD .non) h
  | .ref a, [x, y], h, P => dctAt h a fun kvs => isKey x ∧ P ((dlook kvs x).getD y) h
  | _, _, _, _ => False
theorem get_rel {K : PySem.W.Frag} {H : Hp} {kvs : List (D × D)} {xs : List Ent} {k : NestedKey} {x y : D} {v : V} {u : Value} (re : REnts K H kvs xs) (hk : keyOf x = some k) (ry : RelV v u) (rd : RD K H y v) :
    ∃ w, RelV w (((ixOf xs k).bind fun i => (xs[i]?).map (·.2.2)).getD u) ∧ RD K H ((dlook kvs x).getD y) w := by
  rcases re.find hk with ⟨h1, h2⟩ | ⟨i, z, w, h1, h2, h3, w', rw', rd'⟩
  · rw [h1, h2]; exact ⟨v, ry, rd⟩
  · rw [h3, h1]
    have e : ((some i).bind fun i => (xs[i]?).map (·.2.2)) = some z.2.2 := by
      show (xs[i]?).map _ = _
      rw [h2]; rfl
    rw [e]
    exact ⟨w', rw', rd'⟩
theorem mt_dGet (hu : X.A.units + 64 < cLine) : MtR X "dict.get" (LM X.K X.w dGet) := by
  intro pins s σ H x xs v us Q I rx rs q
  obtain ⟨d, ds, h, P, r1, r2, rh, q, f⟩ := q
  unfold dGet at q
  split at q
  · cases r1
    obtain ⟨y, rfl, ry⟩ := r2.one
    obtain ⟨u, rfl, ru⟩ := vals1 rs
    obtain ⟨kvs, e1, ⟨k, hk, dk⟩, q⟩ := of_dctAt q
    obtain ⟨zs, g1, hS, hz, re, m⟩ := rh.dict I e1
    cases rx
    refine dget_g (more := []) (dflt := .none) (.inl ⟨rfl, rfl⟩) (by omega) (key_is I _ _ _ _ hk ry ru) dk hS m ?_
    obtain ⟨w, w1, w2⟩ := get_rel re hk (y := .non) (v := .non) (u := .none) rfl rfl
    exact ⟨w, H, I.tok _, w1, f _ _ _ _ q (Keeps.refl _) rh w2⟩
  · cases r1
    obtain ⟨y, y', rfl, ry, ry'⟩ := r2.two
    obtain ⟨u, u', rfl, ru, ru'⟩ := vals2 rs
    obtain ⟨kvs, e1, ⟨k, hk, dk⟩, q⟩ := of_dctAt q
    obtain ⟨zs, g1, hS, hz, re, m⟩ := rh.dict I e1
    cases rx
    refine dget_g (more := [u']) (dflt := u') (.inr rfl) (by omega) (key_is I _ _ _ _ hk ry ru) dk hS m ?_
    obtain ⟨w, w1, w2⟩ := get_rel re hk ru' ry'
    exact ⟨w, H, I.tok _, w1, f _ _ _ _ q (Keeps.refl _) rh w2⟩
  · exact q.elim
end

/-! ### dict comprehensions -/
section
variable {X : Cx} {pos : Pos}
noncomputable def dcGo (g : DTG) (tt : DTT) (tk tv : DTE) (st : DH → Prop) (σ : DSt) (L : Addr) : List D → DH → (DH → Prop) → Prop
  | [], h, P => st h ∧ P h
  | x :: xs, h, P => st h ∧ g x σ h fun σ2 h2 => tt σ2 h2 fun b h3 => if b = true then tk σ2 h3 fun y h4 => tv σ2 h4 fun z h5 => dctAt h5 L fun kvs => (isKey y ∧ kvs.length < sizeLine) ∧ dcGo g tt tk tv st σ L xs (put h5 L (.dct (dput kvs y z))) P
    else dcGo g tt tk tv st σ L xs h3 P
theorem dcGo_st {g : DTG} {tt : DTT} {tk tv : DTE} {st : DH → Prop} {σ : DSt} {L : Addr} {xs : List D} {h : DH} {P : DH → Prop} (q : dcGo g tt tk tv st σ L xs h P) : st h := by
  cases xs with
  | nil => exact q.1
  | cons x xs => exact q.1
noncomputable def dDc (ti : DTI) (g : DTG) (tt : DTT) (tk tv : DTE) (vs : List Nat) : DTE := fun σ h P => ti σ h fun xs st h1 => fresh h1 (.dct []) fun L h2 => dcGo g tt tk tv st (dwipe σ vs) L xs h2 (P (.ref L))
theorem de_dc {kx vx tg iter : Expr} {ifs : List Expr} {scope : Scope} {own : List (Str × Nat)} {ws : List Nat} {ti : DTI} {g : DTG} {tt : DTT} {tk tv : DTE} (hu : X.A.units + 64 < cLine) (hc : X.calm = true) (hN : X.N.Nodup) (hi : DI X tg iter ti) (ok : BlkOk X.N X.env.scope scope own) (hw : ∀ i ∈ ws, i ∈ own.map (·.2))
    (hg : InBlk X scope fun Y => DG Y ws tg g) (ht : InBlk X scope fun Y => DTs Y ifs tt) (hk : InBlk X scope fun Y => DE Y kx tk) (he : InBlk X scope fun Y => DE Y vx tv) (hs : ∀ x, foldedSetIterable iter X.env x = pure x := by intro _; rfl) :
    DE X (.DictComp kx vx [⟨tg, iter, ifs, 0⟩] scope pos) (dDc ti g tt tk tv (own.map (·.2))) := by
  refine ⟨⟨fun pins s σ H Q I q => ?_⟩⟩
  rw [arm_eval_DictComp]
  obtain ⟨dσ, h, P, rs, rh, q, f⟩ := q
  have closed : ∀ y ∈ scope.names, y.2 = .free → ∃ c, X.env.cells.lookup y.1 = some c := fun y hy e => (ok.free y hy e).elim (fun k => I.ok.has _ (.inl k)) fun k => I.ok.has _ (.inr k)
  refine wpAny_comprehension_free (use := none) rfl hs (closure_ok closed) ok.kind (fun y hy e => by rw [ok.uniq y hy, e]) ?_
  have src := hi.pi.run pins s σ H (fun J H1 => ∃ xs st h1, Keeps H H1 ∧ RH X.K X.w H1 h1 ∧ ItOk X.K X.w H1 J xs st ∧ fresh h1 (.dct []) fun L h2 => dcGo g tt tk tv st (dwipe dσ (own.map (·.2))) L xs h2 (P (.ref L))) I
    ⟨dσ, h, _, rs, rh, q, fun xs st h1 J H1 q1 k1 rh1 o1 => ⟨xs, st, h1, k1, rh1, o1, q1⟩⟩
  refine thn src fun xv s1 hx => thn hx fun itv s2 h2 => ?_
  obtain ⟨it, fp, tn, J, H2, rfl, I2, T, st2, f2, xs, st, h1, k1, rh1, o1, q1⟩ := h2
  refine wpAny_newObj_type (newEnv_comp ?_)
  -- the new dict stands at L
  generalize hL : s2.heap.objs.size = L
  have nL : H2 L = none := I2.hok.fresh (Nat.le_of_eq hL)
  have q2 := q1 L (rh1.free nL)
  generalize e3 : ({ s2 with heap := s2.heap.push { cls := .type "dict", data := .dict #[] } } : Shared) = s3
  have heap3 : s3.heap = s2.heap.push { cls := .type "dict", data := .dict #[] } := by rw [← e3]
  have made : isDict X.w L [] s3.heap := by
    rw [heap3, ← hL]
    exact ⟨_, #[], 0, Heap.get?_push_size _ rfl, ⟨rfl, rfl, rfl⟩, rfl, rfl⟩
  have kN : Keeps H2 (upd H2 L (.ext (isDict X.w L []))) := Keeps.new nL
  have rhN : RH X.K X.w (upd H2 L (.ext (isDict X.w L []))) (put h1 L (.dct [])) := rh1.wr kN ⟨[], upd_same, by rw [← hL]; exact beq_eq_false_iff_ne.mpr (Ne.symm (Nat.ne_of_lt I2.big)), Nat.zero_le _, List.nodup_nil, .nil⟩
  have I3 : Inv X pins σ (upd H2 L (.ext (isDict X.w L []))) s3 := by
    have m2 := made
    rw [heap3] at m2
    rw [← e3]
    exact I2.laid (a := L) (t' := s2.toks) (fun b o e => Heap.get?_push_of_some _ e) (Nat.le_of_eq hL) (ext_ok m2)
  have low : ∀ b ∈ fp, b < s2.heap.objs.size := fun b hb => let ⟨o, eo, _⟩ := T.obj _ _ st2 b hb; Heap.lt_size eo
  have f3 : ∀ b ∈ fp, FpOk X pins (upd H2 L (.ext (isDict X.w L []))) b ∧ b < s3.heap.objs.size := fun b hb => by
    have lt := low b hb
    refine ⟨⟨?_, (f2 b hb).2⟩, by rw [heap3, Heap.size_push]; exact Nat.lt_succ_of_lt lt⟩
    rw [upd_ne (by rw [← hL]; exact Nat.ne_of_lt lt)]
    exact (f2 b hb).1
  have t3 : tn 0 s3.heap := T.keep _ _ _ st2 fun b _ o eo => by rw [heap3]; exact Heap.get?_push_of_some _ eo
  have I4 := block_start I3 ok hN f3
  generalize eH : upd H2 L (.ext (isDict X.w L [])) = H3 at I3 I4 f3 kN rhN
  generalize eC : compEnvC scope (cellsFrom (s3.heap.objs.size + 1) scope.names (cloFrom X.env.cells scope.names [])) s3.heap.objs.size X.env = ce at I4
  have pg : DG (X.blk s3 H3 scope ce fp) ws tg g := by rw [← eC]; exact hg s3 H3 _ _ fp
  have pt : DTs (X.blk s3 H3 scope ce fp) ifs tt := by rw [← eC]; exact ht s3 H3 _ _ fp
  have pk : DE (X.blk s3 H3 scope ce fp) kx tk := by rw [← eC]; exact hk s3 H3 _ _ fp
  have pe : DE (X.blk s3 H3 scope ce fp) vx tv := by rw [← eC]; exact he s3 H3 _ _ fp
  have frame : ce.locals = s3.heap.objs.size := by rw [← eC]; rfl
  show codeAny _ _ (.compStart (.DictComp kx vx [⟨tg, iter, ifs, 0⟩] scope pos) 0 (.ref it) (.ref L) (compEnvC scope (cellsFrom (s3.heap.objs.size + 1) scope.names (cloFrom X.env.cells scope.names [])) s3.heap.objs.size X.env)) (compPost (model X.prog X.w) X.A X.xe none _ (.ref L) s3.heap.objs.size) { s3 with heap := pushCells (s3.heap.push { cls := .type "dict", data := .dict #[] }) scope.names }
  rw [eC]
  generalize e4 : ({ s3 with heap := pushCells (s3.heap.push { cls := .type "dict", data := .dict #[] }) scope.names } : Shared) = s4 at I4 ⊢
  have t4 : tn 0 s4.heap := T.keep _ _ _ t3 fun b _ o eo => by rw [← e4]; exact pushCells_keeps _ _ _ _ (Heap.get?_push_of_some _ eo)
  have ours : ∀ {σ' : L2.St} {H' : Hp} {s' : Shared}, Inv (X.blk s3 H3 scope ce fp) [] σ' H' s' → (∀ b ∈ fp, H' b = none) → ∀ b ∈ fp, FpOk (X.blk s3 H3 scope ce fp) [] H' b := fun {σ' H' s'} J' none_ b hb =>
    ⟨none_ b hb, (J'.ok.exf b hb).1, J'.ok.exfs b hb, .inl hb, fun x c eo => (J'.ok.exf b hb).2 x c eo, fun p hp => absurd (show p ∈ ([] : List (Addr × Obj)) ++ [] from hp) (by simp)⟩
  have rsw : RS X.K H3 (dwipe dσ (own.map (·.2))) (L2.wipe σ (own.map (·.2))) := (rs.keep (k1.trans kN)).wipe _
  have loop : codeAny (model X.prog X.w) X.A (.compLoop (.DictComp kx vx [⟨tg, iter, ifs, 0⟩] scope pos) 0 (.ref it) (.ref L) ce) (compPost (model X.prog X.w) X.A X.xe none (EP X pins σ Q) (.ref L) s3.heap.objs.size) s4 := by
    refine compLoop_anyD (fun n s' => ∃ i H' h', Inv (X.blk s3 H3 scope ce fp) [] (L2.wipe σ (own.map (·.2))) H' s' ∧ tn i s'.heap ∧ (∀ b ∈ fp, H' b = none) ∧ n = xs.length - i ∧ i ≤ xs.length ∧ Keeps H3 H' ∧ RH X.K X.w H' h' ∧ dcGo g tt tk tv st (dwipe dσ (own.map (·.2))) L (xs.drop i) h' (P (.ref L))) ?_ xs.length
      ⟨0, H3, _, I4, t4, fun b hb => (f3 b hb).1.1, by simp, Nat.zero_le _, Keeps.refl _, rhN, q2⟩
    rintro n s5 ⟨i, H5, h5, I5, t5, n5, rfl, hi5, k5, rh5, q5⟩
    obtain ⟨goes, stops⟩ := o1 H5 h5 (kN.trans k5) rh5 (dcGo_st q5)
    by_cases hlt : i < xs.length
    · rw [List.drop_eq_getElem_cons hlt] at q5
      obtain ⟨p1, p2⟩ := goes i _ (List.getElem?_eq_getElem hlt)
      refine thnF (T.item (X.blk s3 H3 scope ce fp) rfl rfl rfl hc i [] s5 _ H5 (fun _ _ => False) I5 (ours I5 n5) t5 p1) fun r s6 ⟨u, hr, g6⟩ => ?_
      subst hr
      refine thnF g6 fun _ s7 ⟨x, H7, I7, r7, y7, t7, n7⟩ => ?_
      obtain ⟨k7, rh7, rd7⟩ := p2 x H7 y7
      have I7p := I7.pinned (ours I7 n7) (T.obj _ _ t7)
      refine thnF (pg.pg.run _ s7 _ H7 x u (fun σ8 H8 => ∃ dσ8 h8, Keeps H7 H8 ∧ RH X.K X.w H8 h8 ∧ RS X.K H8 dσ8 σ8 ∧ SameOff ws (L2.wipe σ (own.map (·.2))) σ8 ∧ tt dσ8 h8 fun b h3 => if b = true then tk dσ8 h3 fun y h4 => tv dσ8 h4 fun z h5 => dctAt h5 L fun kvs => (isKey y ∧ kvs.length < sizeLine) ∧ dcGo g tt tk tv st (dwipe dσ (own.map (·.2))) L (xs.drop (i + 1)) (put h5 L (.dct (dput kvs y z))) (P (.ref L))
        else dcGo g tt tk tv st (dwipe dσ (own.map (·.2))) L (xs.drop (i + 1)) h3 (P (.ref L))) I7p r7 ⟨_, _, h5, _, rd7, rsw.keep (k5.trans k7), rh7, q5.2, fun dσ8 h8 σ8 H8 q8 k8 rh8 rs8 so8 => ⟨dσ8, h8, k8, rh8, rs8, so8, q8⟩⟩) fun _ s8 ⟨σ8, H8, I8, dσ8, h8, k8, rh8, rs8, so8, q8⟩ => ?_
      have w8 := wipe_same so8 hw
      refine thnF (pt.pts.run _ s8 σ8 H8 (fun b H9 => ∃ h9, Keeps H8 H9 ∧ RH X.K X.w H9 h9 ∧ if b = true then tk dσ8 h9 fun y h4 => tv dσ8 h4 fun z h5 => dctAt h5 L fun kvs => (isKey y ∧ kvs.length < sizeLine) ∧ dcGo g tt tk tv st (dwipe dσ (own.map (·.2))) L (xs.drop (i + 1)) (put h5 L (.dct (dput kvs y z))) (P (.ref L))
        else dcGo g tt tk tv st (dwipe dσ (own.map (·.2))) L (xs.drop (i + 1)) h9 (P (.ref L))) I8 ⟨dσ8, h8, _, rs8, rh8, q8, fun b h9 H9 q9 k9 rh9 => ⟨h9, k9, rh9, q9⟩⟩) fun b s9 ⟨H9, I9, h9, k9, rh9, q9⟩ => ?_
      have next : ∀ {s' : Shared} {H' : Hp} {h' : DH}, Inv (X.blk s3 H3 scope ce fp) ([] ++ pinsAt fp s7.heap) σ8 H' s' → Keeps H9 H' → RH X.K X.w H' h' → dcGo g tt tk tv st (dwipe dσ (own.map (·.2))) L (xs.drop (i + 1)) h' (P (.ref L)) →
          ∃ m, m < xs.length - i ∧ ∃ i H' h', Inv (X.blk s3 H3 scope ce fp) [] (L2.wipe σ (own.map (·.2))) H' s' ∧ tn i s'.heap ∧ (∀ b ∈ fp, H' b = none) ∧ m = xs.length - i ∧ i ≤ xs.length ∧ Keeps H3 H' ∧ RH X.K X.w H' h' ∧ dcGo g tt tk tv st (dwipe dσ (own.map (·.2))) L (xs.drop i) h' (P (.ref L)) := fun {s' H' h'} J' kk rr qq => by
        have pin : ∀ b ∈ fp, ∀ o, s7.heap.get? b = some o → s'.heap.get? b = some o ∧ H' b = none := fun b hb o eo =>
          have z := J'.pin (b, o) (List.mem_append_right _ (List.mem_append_right _ (mem_pinsAt hb eo)))
          ⟨z.1, z.2.1⟩
        have len8 : (L2.wipe σ (own.map (·.2))).length = σ8.length := by rw [← w8, wipe_length]
        refine ⟨xs.length - (i + 1), by omega, i + 1, H', h', (J'.unpinned (pins := [])).weak len8 (fun j v ej => ?_), T.keep _ _ _ t7 fun b hb o eo => (pin b hb o eo).1, fun b hb => ?_, rfl, hlt, k5.trans (k7.trans (k8.trans (k9.trans kk))), rr, qq⟩
        · rw [← w8] at ej
          exact (wipe_some ej).1
        · obtain ⟨o, eo, _⟩ := T.obj _ _ t7 b hb
          exact (pin b hb o eo).2
      cases b with
      | false =>
        rw [if_neg Bool.false_ne_true] at q9
        exact next I9 (Keeps.refl _) rh9 q9
      | true =>
        rw [if_pos rfl] at q9
        refine thnF (pk.pe.run _ s9 σ8 H9 (fun v H10 => ∃ y h10, Keeps H9 H10 ∧ RH X.K X.w H10 h10 ∧ RD X.K H10 y v ∧ tv dσ8 h10 fun z h5 => dctAt h5 L fun kvs => (isKey y ∧ kvs.length < sizeLine) ∧ dcGo g tt tk tv st (dwipe dσ (own.map (·.2))) L (xs.drop (i + 1)) (put h5 L (.dct (dput kvs y z))) (P (.ref L))) I9
          ⟨dσ8, h9, _, rs8.keep k9, rh9, q9, fun d h10 v H10 q10 k10 rh10 r10 => ⟨d, h10, k10, rh10, r10, q10⟩⟩) fun kv s10 ⟨yk, H10, I10, r10, y, h10, k10, rh10, rd10, q10⟩ => ?_
        refine thnF (pe.pe.run _ s10 σ8 H10 (fun v H11 => ∃ z h11, Keeps H10 H11 ∧ RH X.K X.w H11 h11 ∧ RD X.K H11 z v ∧ dctAt h11 L fun kvs => (isKey y ∧ kvs.length < sizeLine) ∧ dcGo g tt tk tv st (dwipe dσ (own.map (·.2))) L (xs.drop (i + 1)) (put h11 L (.dct (dput kvs y z))) (P (.ref L))) I10
          ⟨dσ8, h10, _, rs8.keep (k9.trans k10), rh10, q10, fun d h11 v H11 q11 k11 rh11 r11 => ⟨d, h11, k11, rh11, r11, q11⟩⟩) fun vv s11 ⟨yv, H11, I11, r11, z, h11, k11, rh11, rd11, q11⟩ => ?_
        obtain ⟨kvs, e11, ⟨⟨k, hk11, dk11⟩, z11⟩, q12⟩ := of_dctAt q11
        obtain ⟨es, g11, hS, hz, re, m⟩ := RH.dict (X := X.blk s3 H3 scope ce fp) rh11 I11 e11
        have ry := RD.keep k11 _ _ rd10
        refine set_g (show X.A.units + 8 < cLine by omega) (key_is I11 _ _ _ _ hk11 ry r10) dk11 m (by rw [← Paired.length re]; omega) fun h' new sb => ?_
        have n := dict_put (X := X.blk s3 H3 scope ce fp) (t' := s11.toks + k.draws) I11 rh11 e11 g11 z11 re m.nd hS hk11 dk11 r10 ry r11 rd11 new sb
        exact next n.1 (k10.trans (k11.trans n.2.1)) n.2.2 q12
    · have ei : i = xs.length := by omega
      subst ei
      rw [List.drop_length] at q5
      refine thnF (T.done (X.blk s3 H3 scope ce fp) rfl rfl rfl hc xs.length [] s5 _ H5 (fun _ _ => False) I5 (ours I5 n5) t5 stops) fun r s6 ⟨hr, I6⟩ => ?_
      subst hr
      have I7 : Inv X pins σ H5 s6 := I3.call' (ch := fp) I6.os I6.base I6.hok I6.bare fun b hb => ⟨(f3 b hb).1.2.2.2.1, (f3 b hb).1.2.1, (f3 b hb).1.2.2.2.2.1, (f3 b hb).1.2.2.2.2.2⟩
      have gone : H5 s3.heap.objs.size = none := by
        have z : H5 ce.locals = none := I6.free
        rw [frame] at z
        exact z
      obtain ⟨mm, hn, _⟩ := I6.loc
      have hn2 : s6.heap.Ns ce.locals mm := hn
      rw [frame] at hn2
      refine ⟨mm, hn2, fun h'' sb => ?_⟩
      obtain ⟨c0, c1, c2, c3, c4, c5⟩ := I3.fpOk (H' := H5) (Nat.le_refl _) gone
      exact ⟨.ref L, H5, I7.turned (t' := s6.toks) (fun b o hb eo => (sb.2 b hb).trans eo) c0 c1 c3 c4 c5, rfl, f _ _ _ _ q5.2 (k1.trans (kN.trans k5)) rh5 rfl⟩
  exact codeAny_compStart_dict loop (T.self X.A 0 _ _ _ t4 loop)
end
end DL
/-! D10: isinstance, the law's own entry, promises by the number of arguments. -/
namespace DL
open PySem PySem.Spec PyProof.Rows L2

section
variable {X : Cx}
def tyName (d : D) (h : DH) : Option String := match d with
  | .non => some "NoneType"
  | .bl _ => some "bool"
  | .int _ => some "int"
  | .str _ => some "str"
  | .tup _ => some "tuple"
  | .rol _ => some "list"
  | .ref a => match h a with
    | some (.lst _) => some "list"
    | _ => none
  | .ty _ => none
theorem tyName_ok {K : PySem.W.Frag} {w : World} {H : Hp} {h : DH} {d : D} {v : V} {t : String} (rh : RH K w H h) (r : RD K H d v) (e : tyName d h = some t) : TyX K H v (.type t) := by
  cases d with
  | non => cases r; cases e; exact .base .non
  | bl b => cases r; cases e; exact .base (.bl b)
  | int b => cases r; cases e; exact .base (.int b)
  | str b => cases r; cases e; exact .base (.str b)
  | ty n => cases e
  | tup ds =>
    cases e
    obtain ⟨a, vs, rfl, s, _⟩ := r
    rcases s with (s | ⟨o, s⟩) | ⟨o, its, n, s, c, _⟩
    · exact .base (.tup s)
    · exact .fTuple s
    · exact .kTuple s c
  | rol ds =>
    cases e
    obtain ⟨a, vs, rfl, s, _⟩ := r
    rcases s with ⟨o, s⟩ | ⟨o, its, n, s, c, _⟩
    · exact .base (.frz s)
    · exact .kList s c
  | ref a =>
    cases r
    unfold tyName at e
    dsimp only at e
    split at e
    · rename_i xs q
      cases e
      obtain ⟨vs, g, _⟩ := rh.lst q
      exact .base (.lst g)
    · cases e
/-- isinstance(x, T), T a built-in type -/
def dIsi : DRC
  | [d, .ty n], h, P => match tyName d h with
    | some t => ∃ b, kitB t n = some b ∧ P (.bl b) h
    | none => False
  | _, _, _ => False
theorem call_dIsi : DCall X (.builtin "isinstance") dIsi := by
  intro pins s σ H xs us Q I rx q
  obtain ⟨ds, h, P, r, rh, q, f⟩ := q
  unfold dIsi at q
  split at q
  · split at q
    · rename_i t et
      obtain ⟨b, eb, q⟩ := q
      obtain ⟨v, c, rfl, rv, rc⟩ := r.two
      cases rc
      exact call_isi pins s σ H _ us Q I rx ⟨v, .ty _, .type t, .type _, b, rfl, .ty _, tyName_ok rh rv et, kit_ty eb, f _ _ _ _ q (Keeps.refl _) rh rfl⟩
    · exact q.elim
  · exact q.elim
theorem kit_int_int : kitB "int" "int" = some true := by decide +kernel
theorem kit_int_bool : kitB "int" "bool" = some false := by decide +kernel
theorem kit_int_str : kitB "int" "str" = some false := by decide +kernel
theorem kit_int_tuple : kitB "int" "tuple" = some false := by decide +kernel
theorem kit_bool_bool : kitB "bool" "bool" = some true := by decide +kernel
theorem kit_bool_int : kitB "bool" "int" = some true := by decide +kernel
theorem kit_str_str : kitB "str" "str" = some true := by decide +kernel
theorem kit_str_int : kitB "str" "int" = some false := by decide +kernel
theorem kit_str_tuple : kitB "str" "tuple" = some false := by decide +kernel
theorem kit_tuple_tuple : kitB "tuple" "tuple" = some true := by decide +kernel
theorem kit_tuple_int : kitB "tuple" "int" = some false := by decide +kernel
theorem kit_tuple_str : kitB "tuple" "str" = some false := by decide +kernel
theorem kit_list_tuple : kitB "list" "tuple" = some false := by decide +kernel
theorem kit_none_tuple : kitB "NoneType" "tuple" = some false := by decide +kernel
end

/-! ### the law's entry -/
def lawSp : DSp := fun ds h P => ∃ ns : List Int, ds = [.rol (ns.map .int)] ∧ ns.length ≤ 63 ∧ ∀ h', P (.bl true) h'
theorem rds_ints {K : PySem.W.Frag} {H : Hp} : ∀ ns : List Int, RDs K H (ns.map D.int) (ns.map V.int)
  | [] => rfl
  | n :: r => ⟨.int n, r.map V.int, rfl, rfl, rds_ints r⟩
theorem law_in {K : PySem.W.Frag} {w : World} {H : Hp} {a : Addr} {ns : List Int} (hl : ns.length ≤ 63) (hO : Only H) (hS : SqL K H a (ns.map V.int)) : LSp K w lawSp [.ref a] H (fun v _ => v = .bl true) fun _ _ _ => False := by
  refine ⟨[.rol (ns.map .int)], fun _ => none, fun d _ => d = .bl true, ⟨.ref a, [], rfl, ⟨a, ns.map V.int, rfl, ?_, rds_ints ns⟩, rfl⟩, (fun b o e => by cases e), ⟨ns, rfl, hl, fun _ => rfl⟩, fun d h v H' p _ _ r => ?_⟩
  · rcases hS with (s | ⟨o, s⟩) | s
    · rcases hO a with z | ⟨o, xs, z⟩
      · rw [s] at z; cases z
      · rw [s] at z; cases z
    · exact .inl ⟨o, s⟩
    · exact .inr s
  · subst p
    exact r

/-! ### promises by the number of arguments -/
def sp0 (f : DH → DK → Prop) : DSp := fun ds h P => match ds with
  | [] => f h P
  | _ => False
def sp1 (f : D → DH → DK → Prop) : DSp := fun ds h P => match ds with
  | [a] => f a h P
  | _ => False
def sp2 (f : D → D → DH → DK → Prop) : DSp := fun ds h P => match ds with
  | [a, b] => f a b h P
  | _ => False
def sp3 (f : D → D → D → DH → DK → Prop) : DSp := fun ds h P => match ds with
  | [a, b, c] => f a b c h P
  | _ => False
def sp4 (f : D → D → D → D → DH → DK → Prop) : DSp := fun ds h P => match ds with
  | [a, b, c, d] => f a b c d h P
  | _ => False
def sp5 (f : D → D → D → D → D → DH → DK → Prop) : DSp := fun ds h P => match ds with
  | [a, b, c, d, e] => f a b c d e h P
  | _ => False
section
variable {P : Program} {w : World} {K : PySem.W.Frag} {mg : Str → Option Value} {base : Heap} {x qual : Str} {st : Stmt} {f : Addr} {fd : FuncData} {N ps : List Str} {k : Nat}
abbrev Body (P : Program) (w : World) (K : PySem.W.Frag) (mg : Str → Option Value) (base : Heap) (N : List Str) (qual : Str) (st : Stmt) (f : Addr) (k : Nat) (p : DTS → Prop) : Prop :=
  ∀ (cdv : Value) (A : Around) (outer : List Env) (s : Shared) (H : Hp) (E : XK), Room k (A.deeper (envOfC qual (defScope st) s.heap.objs.size f cdv)) →
      ∃ t, DSs (cxOf CX0 P w K mg base N qual (defScope st) f cdv A outer s H E).nox (defBody st) t ∧ p t
abbrev ends (Q : DK) : DEnds := { nx := fun _ => Wk Q .non, rt := Wk Q }
theorem dfn0 {g : DH → DK → Prop} (F : Fun K x qual st f fd) (S : FnScope N ps (defScope st)) (hl : ps.length = 0) (b : Body P w K mg base N qual st f k fun t => ∀ h Q, g h Q → t (ends Q) (dstart N []) h) : DFn P w K mg base (k + 1) f fd ps (sp0 g) := by
  refine dfn_ok F S (fun ds h Q q => ?_) fun cdv A outer s H E hr => ?_
  · unfold sp0 at q
    split at q
    · exact hl.symm
    · exact q.elim
  · obtain ⟨t, ht, hq⟩ := b cdv A outer s H E hr
    refine ⟨t, ht, fun ds h Q q => ?_⟩
    unfold sp0 at q
    split at q
    · exact hq _ _ q
    · exact q.elim
theorem dfn1 {g : D → DH → DK → Prop} (F : Fun K x qual st f fd) (S : FnScope N ps (defScope st)) (hl : ps.length = 1) (b : Body P w K mg base N qual st f k fun t => ∀ p0 h Q, g p0 h Q → t (ends Q) (dstart N [p0]) h) : DFn P w K mg base (k + 1) f fd ps (sp1 g) := by
  refine dfn_ok F S (fun ds h Q q => ?_) fun cdv A outer s H E hr => ?_
  · unfold sp1 at q
    split at q
    · exact hl.symm
    · exact q.elim
  · obtain ⟨t, ht, hq⟩ := b cdv A outer s H E hr
    refine ⟨t, ht, fun ds h Q q => ?_⟩
    unfold sp1 at q
    split at q
    · exact hq _ _ _ q
    · exact q.elim
theorem dfn2 {g : D → D → DH → DK → Prop} (F : Fun K x qual st f fd) (S : FnScope N ps (defScope st)) (hl : ps.length = 2) (b : Body P w K mg base N qual st f k fun t => ∀ p0 p1 h Q, g p0 p1 h Q → t (ends Q) (dstart N [p0, p1]) h) : DFn P w K mg base (k + 1) f fd ps (sp2 g) := by
  refine dfn_ok F S (fun ds h Q q => ?_) fun cdv A outer s H E hr => ?_
  · unfold sp2 at q
    split at q
    · exact hl.symm
    · exact q.elim
  · obtain ⟨t, ht, hq⟩ := b cdv A outer s H E hr
    refine ⟨t, ht, fun ds h Q q => ?_⟩
    unfold sp2 at q
    split at q
    · exact hq _ _ _ _ q
    · exact q.elim
theorem dfn3 {g : D → D → D → DH → DK → Prop} (F : Fun K x qual st f fd) (S : FnScope N ps (defScope st)) (hl : ps.length = 3) (b : Body P w K mg base N qual st f k fun t => ∀ p0 p1 p2 h Q, g p0 p1 p2 h Q → t (ends Q) (dstart N [p0, p1, p2]) h) : DFn P w K mg base (k + 1) f fd ps (sp3 g) := by
  refine dfn_ok F S (fun ds h Q q => ?_) fun cdv A outer s H E hr => ?_
  · unfold sp3 at q
    split at q
    · exact hl.symm
    · exact q.elim
  · obtain ⟨t, ht, hq⟩ := b cdv A outer s H E hr
    refine ⟨t, ht, fun ds h Q q => ?_⟩
    unfold sp3 at q
    split at q
    · exact hq _ _ _ _ _ q
    · exact q.elim
theorem dfn4 {g : D → D → D → D → DH → DK → Prop} (F : Fun K x qual st f fd) (S : FnScope N ps (defScope st)) (hl : ps.length = 4) (b : Body P w K mg base N qual st f k fun t => ∀ p0 p1 p2 p3 h Q, g p0 p1 p2 p3 h Q → t (ends Q) (dstart N [p0, p1, p2, p3]) h) : DFn P w K mg base (k + 1) f fd ps (sp4 g) := by
  refine dfn_ok F S (fun ds h Q q => ?_) fun cdv A outer s H E hr => ?_
  · unfold sp4 at q
    split at q
    · exact hl.symm
    · exact q.elim
  · obtain ⟨t, ht, hq⟩ := b cdv A outer s H E hr
    refine ⟨t, ht, fun ds h Q q => ?_⟩
    unfold sp4 at q
    split at q
    · exact hq _ _ _ _ _ _ q
    · exact q.elim
theorem dfn5 {g : D → D → D → D → D → DH → DK → Prop} (F : Fun K x qual st f fd) (S : FnScope N ps (defScope st)) (hl : ps.length = 5) (b : Body P w K mg base N qual st f k fun t => ∀ p0 p1 p2 p3 p4 h Q, g p0 p1 p2 p3 p4 h Q → t (ends Q) (dstart N [p0, p1, p2, p3, p4]) h) : DFn P w K mg base (k + 1) f fd ps (sp5 g) := by
  refine dfn_ok F S (fun ds h Q q => ?_) fun cdv A outer s H E hr => ?_
  · unfold sp5 at q
    split at q
    · exact hl.symm
    · exact q.elim
  · obtain ⟨t, ht, hq⟩ := b cdv A outer s H E hr
    refine ⟨t, ht, fun ds h Q q => ?_⟩
    unfold sp5 at q
    split at q
    · exact hq _ _ _ _ _ _ _ q
    · exact q.elim
end

/-! ### reckoning with the readings -/
theorem atI_n {α : Type} (xs : List α) (i : Nat) : atI xs (i : Int) = xs[i]? := by
  cases e : xs[i]? with
  | some v => exact atI_nat e
  | none =>
    have h : xs.length ≤ i := List.getElem?_eq_none_iff.mp e
    unfold atI ixN
    rw [if_pos (Int.natCast_nonneg i), if_neg (by omega)]
    rfl
theorem atI_0 {α : Type} (x : α) (xs : List α) : atI (x :: xs) 0 = some x := atI_n (x :: xs) 0
theorem atI_1 {α : Type} (x y : α) (xs : List α) : atI (x :: y :: xs) 1 = some y := atI_n (x :: y :: xs) 1
theorem atI_2 {α : Type} (x y z : α) (xs : List α) : atI (x :: y :: z :: xs) 2 = some z := atI_n (x :: y :: z :: xs) 2
theorem atI_3 {α : Type} (x y z u : α) (xs : List α) : atI (x :: y :: z :: u :: xs) 3 = some u := atI_n (x :: y :: z :: u :: xs) 3
theorem oAt_some {d : D} {k : D → Prop} : oAt (some d) k = k d := rfl
theorem lstAt_eq {h : DH} {a : Addr} {k : List D → Prop} {xs : List D} (e : h a = some (.lst xs)) : lstAt h a k = k xs := by unfold lstAt; rw [e]
theorem insAt_eq {h : DH} {a : Addr} {k : Addr → List (Str × D) → Prop} {C fs} (e : h a = some (.ins C fs)) : insAt h a k = k C fs := by unfold insAt; rw [e]
theorem dctAt_eq {h : DH} {a : Addr} {k : List (D × D) → Prop} {xs : List (D × D)} (e : h a = some (.dct xs)) : dctAt h a k = k xs := by unfold dctAt; rw [e]
theorem ite_tt {p : Prop} {q : Prop} : (if true = true then p else q) = p := if_pos rfl
theorem ite_ff {p : Prop} {q : Prop} : (if false = true then p else q) = q := if_neg Bool.false_ne_true

/-! ### comprehensions whose items leave the heap -/
/-- each item is told by f, kept by p; the heap is h0 with the new list -/
theorem lcGo_map {g : DTG} {tt : DTT} {te : DTE} {st : DH → Prop} {σ : DSt} {L : Addr} {h0 : DH} {P : DH → Prop} (f : D → D) (p : D → Bool) : ∀ (xs : List D) (acc : List D),
    (∀ acc, st (put h0 L (.lst acc))) →
    (∀ x ∈ xs, ∀ acc (R : D → DH → Prop) (R' : DH → Prop), (p x = true → R (f x) (put h0 L (.lst acc))) → (p x = false → R' (put h0 L (.lst acc))) →
      g x σ (put h0 L (.lst acc)) fun σ2 h2 => tt σ2 h2 fun b h3 => if b = true then te σ2 h3 R else R' h3) →
    acc.length + xs.length ≤ sizeLine → P (put h0 L (.lst (acc ++ (xs.filter p).map f))) → lcGo g tt te st σ L xs (put h0 L (.lst acc)) P
  | [], acc, hst, _, _, hP => ⟨hst acc, by simpa using hP⟩
  | x :: xs, acc, hst, hs, hz, hP => by
    refine ⟨hst acc, hs x List.mem_cons_self acc _ _ (fun hp => ?_) (fun hp => ?_)⟩
    · refine lstAt_of put_same ⟨by rw [List.length_cons] at hz; omega, ?_⟩
      have e : put (put h0 L (.lst acc)) L (.lst (acc ++ [f x])) = put h0 L (.lst (acc ++ [f x])) := by
        funext b; unfold put; split <;> rfl
      rw [e]
      refine lcGo_map f p xs (acc ++ [f x]) hst (fun y hy => hs y (List.mem_cons_of_mem _ hy)) (by rw [List.length_append, List.length_singleton]; rw [List.length_cons] at hz; omega) ?_
      rw [List.filter_cons, if_pos hp, List.map_cons] at hP
      rw [List.append_assoc]
      exact hP
    · refine lcGo_map f p xs acc hst (fun y hy => hs y (List.mem_cons_of_mem _ hy)) (by rw [List.length_cons] at hz; omega) ?_
      rw [List.filter_cons, if_neg (by rw [hp]; exact Bool.false_ne_true)] at hP
      exact hP
end DL
/-! D11: loops and comprehensions by what holds, for one name at a time. -/
namespace DL
open PySem PySem.Spec PyProof.Rows L2

theorem put_put {h : DH} {a : Addr} {o u : DO} : put (put h a o) a u = put h a u := by
  funext b; unfold put; split <;> rfl
theorem Sub.into {h h' : DH} {p : Addr} {o : DO} (s : Sub h h') (e : h' p = some o) : Sub (DL.put h p o) h' := fun a u q => by
  by_cases z : a = p
  · subst z; rw [put_same] at q; cases q; exact e
  · rw [put_ne z] at q; exact s a u q
theorem Sub.free {h h' : DH} {p : Addr} (s : Sub h h') (e : h' p = none) : h p = none := by
  cases q : h p with
  | none => rfl
  | some o => rw [s p o q] at e; cases e
theorem Sub.putN {h h' : DH} {p : Addr} {o : DO} (s : Sub h h') (e : h p = none) : Sub h (DL.put h' p o) := fun a u q => by
  rw [put_ne (fun z => by rw [z, e] at q; cases q)]; exact s a u q
theorem ne_none {h : DH} {a b : Addr} {o : DO} (e : h a = some o) (n : h b = none) : a ≠ b := fun z => by rw [z, n] at e; cases e
theorem ne_obj {h : DH} {a b : Addr} {o u : DO} (e : h a = some o) (n : h b = some u) (d : o ≠ u) : a ≠ b := fun z => by rw [z, n] at e; exact d (Option.some.inj e).symm
/-- for over a list of items, one name -/
theorem for_each {j : Nat} {tb : DTS} {st : DH → Prop} {E : DEnds} {σ : DSt} {h : DH} (I : Nat → DSt → DH → Prop) (xs : List D) (h0 : I 0 σ h) (hst : ∀ i σ h, I i σ h → st h)
    (step : ∀ i x σ h, xs[i]? = some x → I i σ h → ∀ nx : DSt → DH → Prop, (∀ σ h, I (i + 1) σ h → nx σ h) → tb { nx := nx, rt := E.rt, bk := E.nx, ct := nx } (σ.set j (some x)) h)
    (hend : ∀ σ h, I xs.length σ h → E.nx σ h) : forGo (gNm j) tb st E xs σ h := by
  have gen : ∀ (ys : List D) (i : Nat) (σ : DSt) (h : DH), i + ys.length = xs.length → (∀ k, ys[k]? = xs[i + k]?) → I i σ h → forGo (gNm j) tb st E ys σ h := by
    intro ys
    induction ys with
    | nil =>
      intro i σ h e _ hi
      have e' : i = xs.length := by simpa using e
      subst e'
      exact ⟨hst _ _ _ hi, hend _ _ hi⟩
    | cons y ys ih =>
      intro i σ h e q hi
      refine ⟨hst _ _ _ hi, ?_⟩
      have q0 : xs[i]? = some y := by have := q 0; simpa using this.symm
      exact step i y σ h q0 hi _ fun σ2 h2 i2 => ih (i + 1) σ2 h2 (by rw [List.length_cons] at e; omega) (fun k => by
        have := q (k + 1)
        rw [List.getElem?_cons_succ] at this
        rw [this]
        congr 1
        omega) i2
  exact gen xs 0 σ h (by simp) (fun k => by simp) h0
theorem nums_at {lo : Int} {n i : Nat} {x : D} (e : (numsFrom lo n)[i]? = some x) : i < n ∧ x = .int (lo + i) := by
  unfold numsFrom at e
  rw [List.getElem?_map] at e
  obtain ⟨c, ec, rfl⟩ := Option.map_eq_some_iff.mp e
  obtain ⟨hi, hc⟩ := List.getElem?_eq_some_iff.mp ec
  rw [List.length_range] at hi
  rw [List.getElem_range] at hc
  subst hc
  exact ⟨hi, rfl⟩
theorem nums_len (lo : Int) (n : Nat) : (numsFrom lo n).length = n := by unfold numsFrom; rw [List.length_map, List.length_range]
/-- for over a range -/
theorem for_nums {j : Nat} {tb : DTS} {E : DEnds} {σ : DSt} {h : DH} {lo : Int} {n : Nat} (I : Nat → DSt → DH → Prop) (h0 : I 0 σ h)
    (step : ∀ (i : Nat) σ h, i < n → I i σ h → ∀ nx : DSt → DH → Prop, (∀ σ h, I (i + 1) σ h → nx σ h) → tb { nx := nx, rt := E.rt, bk := E.nx, ct := nx } (σ.set j (some (.int (lo + i)))) h)
    (hend : ∀ σ h, I n σ h → E.nx σ h) : forGo (gNm j) tb (fun _ => True) E (numsFrom lo n) σ h := by
  refine for_each I _ h0 (fun _ _ _ _ => trivial) (fun i x σ h e hi nx hnx => ?_) (fun σ h hi => hend σ h (by rw [nums_len] at hi; exact hi))
  obtain ⟨hl, rfl⟩ := nums_at e
  exact step i σ h hl hi nx hnx
/-- two fors in a comprehension, nothing else changed -/
theorem lc2Go_map {j j1 : Nat} {ti1 : DTI} {te : DTE} {vs1 : List Nat} {st : DH → Prop} {σ : DSt} {L : Addr} {h0 : DH} {P : DH → Prop} (ys : D → List D) (f : D → D → D) : ∀ (xs : List D) (acc : List D),
    (∀ acc, st (put h0 L (.lst acc))) →
    (∀ x ∈ xs, ∀ acc (R : List D → (DH → Prop) → DH → Prop), R (ys x) (fun _ => True) (put h0 L (.lst acc)) → ti1 (σ.set j (some x)) (put h0 L (.lst acc)) R) →
    (∀ x ∈ xs, ∀ y ∈ ys x, ∀ acc (R : DK), R (f x y) (put h0 L (.lst acc)) → te ((dwipe (σ.set j (some x)) vs1).set j1 (some y)) (put h0 L (.lst acc)) R) →
    acc.length + (xs.flatMap fun x => (ys x).map (f x)).length ≤ sizeLine → P (put h0 L (.lst (acc ++ xs.flatMap fun x => (ys x).map (f x)))) →
    lc2Go (gNm j) dYes ti1 (gNm j1) dYes te vs1 st σ L xs (put h0 L (.lst acc)) P
  | [], acc, hst, _, _, _, hP => ⟨hst acc, by simpa using hP⟩
  | x :: xs, acc, hst, hti, hte, hz, hP => by
    refine ⟨hst acc, ?_⟩
    simp only [gNm, dYes, ite_tt]
    refine hti x List.mem_cons_self acc _ ?_
    rw [List.flatMap_cons, List.length_append, List.length_map] at hz
    have inner := lcGo_map (g := gNm j1) (tt := dYes) (te := te) (st := fun _ => True) (σ := dwipe (σ.set j (some x)) vs1) (L := L) (h0 := h0) (P := fun h5 => lc2Go (gNm j) dYes ti1 (gNm j1) dYes te vs1 st σ L xs h5 P) (f x) (fun _ => true) (ys x) acc
      (fun _ => trivial) (fun y hy acc R R' hR _ => by
        simp only [gNm, dYes, ite_tt]
        exact hte x List.mem_cons_self y hy acc R (hR rfl)) (by omega) (by
        rw [show (ys x).filter (fun _ => true) = ys x from List.filter_eq_self.mpr fun _ _ => rfl]
        refine lc2Go_map ys f xs _ hst (fun y hy => hti y (List.mem_cons_of_mem _ hy)) (fun y hy => hte y (List.mem_cons_of_mem _ hy)) ?_ ?_
        · rw [List.length_append, List.length_map]; omega
        · rw [List.flatMap_cons, ← List.append_assoc] at hP
          exact hP)
    exact inner
/-- a comprehension of one name, without a test, nothing else changed -/
theorem lc_pure {j : Nat} {te : DTE} {st : DH → Prop} {σ : DSt} {L : Addr} {h0 : DH} {P : DH → Prop} (f : D → D) (xs : List D) (hst : ∀ acc, st (put h0 L (.lst acc)))
    (hte : ∀ x ∈ xs, ∀ acc (R : DK), R (f x) (put h0 L (.lst acc)) → te (σ.set j (some x)) (put h0 L (.lst acc)) R) (hz : xs.length ≤ sizeLine) (hP : P (put h0 L (.lst (xs.map f)))) : lcGo (gNm j) dYes te st σ L xs (put h0 L (.lst [])) P := by
  refine lcGo_map f (fun _ => true) xs [] hst (fun x hx acc R R' hR _ => ?_) (by simpa using hz) ?_
  · simp only [gNm, dYes, ite_tt]
    exact hte x hx acc R (hR rfl)
  · rw [show xs.filter (fun _ => true) = xs from List.filter_eq_self.mpr fun _ _ => rfl]
    exact hP
/-- a comprehension of one name, without a test, its items changing what stands: I holds ahead of the i-th -/
theorem lc_each {j : Nat} {te : DTE} {st : DH → Prop} {σ : DSt} {L : Addr} {P : DH → Prop} (I : Nat → List D → DH → Prop) (xs : List D) {h : DH} (h0 : I 0 [] h) (hst : ∀ i acc h, I i acc h → st h)
    (step : ∀ i x acc h, xs[i]? = some x → I i acc h → te (σ.set j (some x)) h fun y h' => h' L = some (.lst acc) ∧ acc.length < sizeLine ∧ I (i + 1) (acc ++ [y]) (put h' L (.lst (acc ++ [y]))))
    (mono : ∀ σ h (R R' : DK), (∀ d h, R d h → R' d h) → te σ h R → te σ h R')
    (hend : ∀ acc h, I xs.length acc h → P h) : lcGo (gNm j) dYes te st σ L xs h P := by
  have gen : ∀ (ys : List D) (i : Nat) (acc : List D) (h : DH), i + ys.length = xs.length → (∀ k, ys[k]? = xs[i + k]?) → I i acc h → lcGo (gNm j) dYes te st σ L ys h P := by
    intro ys
    induction ys with
    | nil =>
      intro i acc h e _ hi
      have e' : i = xs.length := by simpa using e
      subst e'
      exact ⟨hst _ _ _ hi, hend _ _ hi⟩
    | cons y ys ih =>
      intro i acc h e q hi
      refine ⟨hst _ _ _ hi, ?_⟩
      simp only [gNm, dYes, ite_tt]
      have q0 : xs[i]? = some y := by have := q 0; simpa using this.symm
      refine mono _ _ _ _ (fun d h' z => ?_) (step i y acc h q0 hi)
      obtain ⟨z1, z2, z3⟩ := z
      refine lstAt_of z1 ⟨z2, ih (i + 1) _ _ (by rw [List.length_cons] at e; omega) (fun k => by
        have := q (k + 1)
        rw [List.getElem?_cons_succ] at this
        rw [this]
        congr 1
        omega) z3⟩
  exact gen xs 0 [] h (by simp) (fun k => by simp) h0
/-! ### dicts -/
theorem dlook_none {kvs : List (D × D)} {k : D} (h : k ∉ kvs.map (·.1)) : dlook kvs k = none := by
  induction kvs with
  | nil => rfl
  | cons p r ih =>
    rw [List.map_cons, List.mem_cons, not_or] at h
    rw [dlook_cons, if_neg (fun e => h.1 e.symm)]
    exact ih h.2
theorem dlook_at {kvs : List (D × D)} {k v : D} : ∀ {i : Nat}, (kvs.map (·.1)).Nodup → kvs[i]? = some (k, v) → dlook kvs k = some v := by
  induction kvs with
  | nil => intro i _ h; simp at h
  | cons p r ih =>
    intro i hn h
    rw [List.map_cons, List.nodup_cons] at hn
    rw [dlook_cons]
    cases i with
    | zero =>
      simp at h; subst h
      exact if_pos rfl
    | succ i =>
      rw [List.getElem?_cons_succ] at h
      rw [if_neg (fun e => hn.1 (by rw [e]; exact List.mem_map.mpr ⟨_, List.mem_of_getElem? h, rfl⟩))]
      exact ih hn.2 h
theorem dcGo_map {g : DTG} {tk tv : DTE} {st : DH → Prop} {σ : DSt} {L : Addr} {h0 : DH} {P : DH → Prop} (kf vf : D → D) : ∀ (xs : List D) (acc : List (D × D)),
    (∀ acc, st (put h0 L (.dct acc))) →
    (∀ x ∈ xs, ∀ acc (R : D → D → DH → Prop), R (kf x) (vf x) (put h0 L (.dct acc)) → g x σ (put h0 L (.dct acc)) fun σ2 h2 => tk σ2 h2 fun y h4 => tv σ2 h4 fun z h5 => R y z h5) →
    (∀ x ∈ xs, isKey (kf x)) → acc.length + xs.length ≤ sizeLine → (acc.map (·.1) ++ xs.map kf).Nodup →
    P (put h0 L (.dct (acc ++ xs.map fun x => (kf x, vf x)))) → (∀ x σ h (R R' : DSt → DH → Prop), (∀ σ h, R σ h → R' σ h) → g x σ h R → g x σ h R') → dcGo g dYes tk tv st σ L xs (put h0 L (.dct acc)) P
  | [], acc, hst, _, _, _, _, hP, _ => ⟨hst acc, by simpa using hP⟩
  | x :: xs, acc, hst, hs, hk, hz, hn, hP, mono => by
    refine ⟨hst acc, mono _ _ _ _ _ (fun σ2 h2 q => ?_) (hs x List.mem_cons_self acc (fun y z h5 => dctAt h5 L fun kvs => (isKey y ∧ kvs.length < sizeLine) ∧ dcGo g dYes tk tv st σ L xs (put h5 L (.dct (dput kvs y z))) P) ?_)⟩
    · simp only [dYes, ite_tt]
      exact q
    · rw [List.length_cons] at hz
      refine dctAt_of put_same ⟨⟨hk x List.mem_cons_self, by omega⟩, ?_⟩
      have nk : kf x ∉ acc.map (·.1) := fun z => by
        rw [List.map_cons, List.nodup_append] at hn
        exact hn.2.2 _ z _ List.mem_cons_self rfl
      rw [put_put, dput_new (dlook_none nk)]
      refine dcGo_map kf vf xs _ hst (fun y hy => hs y (List.mem_cons_of_mem _ hy)) (fun y hy => hk y (List.mem_cons_of_mem _ hy)) (by rw [List.length_append, List.length_singleton]; omega) ?_ ?_ mono
      · rw [List.map_append, List.append_assoc]
        exact hn
      · rw [List.map_cons] at hP
        rw [List.append_assoc]
        exact hP
/-! ### attributes -/
theorem fld_at {K : PySem.W.Frag} {h : DH} {o C : Addr} {f : Str} {fs : List (Str × D)} {d : D} {R : D → Prop} (e : h o = some (.ins C fs)) (hA : HasA K C f) (l : fs.lookup f = some d) (q : R d) : insAt h o fun C fs => HasA K C f ∧ oAt (fs.lookup f) R :=
  insAt_of e ⟨hA, oAt_of l q⟩
theorem lkS {f g : Str} {d : D} {r : List (Str × D)} (h : (f == g) = true) : List.lookup f ((g, d) :: r) = some d := by rw [List.lookup_cons, h]
theorem lkN {f g : Str} {d : D} {r : List (Str × D)} (h : (f == g) = false) : List.lookup f ((g, d) :: r) = List.lookup f r := by rw [List.lookup_cons, h]
/-! ### targets are monotone -/
def MonoG (g : DTG) : Prop := ∀ x σ h (R R' : DSt → DH → Prop), (∀ σ h, R σ h → R' σ h) → g x σ h R → g x σ h R'
def MonoGs (g : DTGs) : Prop := ∀ x σ h (R R' : DSt → DH → Prop), (∀ σ h, R σ h → R' σ h) → g x σ h R → g x σ h R'
theorem mono_nm (i : Nat) : MonoG (gNm i) := fun _ _ _ _ _ m z => m _ _ z
theorem mono_nl : MonoGs gNl := fun x σ h R R' m z => by
  cases x with
  | nil => exact m _ _ z
  | cons _ _ => exact z.elim
theorem mono_cn {t : DTG} {u : DTGs} (a : MonoG t) (b : MonoGs u) : MonoGs (gCn t u) := fun x σ h R R' m z => by
  cases x with
  | nil => exact z.elim
  | cons d r => exact a d σ h _ _ (fun σ2 h2 z2 => b r σ2 h2 R R' m z2) z
theorem mono_tp {n : Nat} {t : DTGs} (a : MonoGs t) : MonoG (gTp n t) := fun x σ h R R' m z => by
  cases x with
  | tup ds => exact ⟨z.1, a ds σ h R R' m z.2⟩
  | _ => exact z.elim
theorem key_str (x : Str) : isKey (.str x) := ⟨.text x, rfl, Nat.zero_le _⟩
end DL
/-! D12: steps by what holds between them; cuts; the drawing pool. -/
namespace DL
open PySem PySem.Spec PyProof.Rows L2

/-- all but what stands at k stays -/
def But (k : Addr) (h h' : DH) : Prop := ∀ a o, a ≠ k → h a = some o → h' a = some o
theorem But.refl (k : Addr) (h : DH) : But k h h := fun _ _ _ e => e
theorem But.trans {k : Addr} {a b c : DH} (x : But k a b) (y : But k b c) : But k a c := fun p o n e => y p o n (x p o n e)
theorem But.of {k : Addr} {a b : DH} (x : Sub a b) : But k a b := fun p o _ e => x p o e
theorem But.put {k : Addr} {h : DH} {o : DO} : But k h (DL.put h k o) := fun a u n e => by rw [put_ne n]; exact e
theorem But.wr {k : Addr} {h h' : DH} {o : DO} (b : But k h h') : But k h (DL.put h' k o) := b.trans But.put
/-- a fresh thing may change -/
theorem But.fresh {k L : Addr} {h h' : DH} {o : DO} (b : But k h h') (n : h L = none) : But k h (DL.put h' L o) := fun a u hn e => by
  rw [put_ne (fun z => by rw [z, n] at e; cases e)]; exact b a u hn e
theorem But.into {k p : Addr} {h h' : DH} {o : DO} (b : But k h h') (e : h' p = some o) : But k (DL.put h p o) h' := fun a u hn q => by
  by_cases z : a = p
  · subst z; rw [put_same] at q; cases q; exact e
  · rw [put_ne z] at q; exact b a u hn q
theorem But.free {k p : Addr} {h h' : DH} (b : But k h h') (n : p ≠ k) (e : h' p = none) : h p = none := by
  cases q : h p with
  | none => rfl
  | some o => rw [b p o n q] at e; cases e
theorem But.over {k L : Addr} {h h1 h2 : DH} (b : But k h h1) (c : But L h1 h2) (n : h L = none) : But k h h2 := fun a u hn e => c a u (fun z => by rw [z, n] at e; cases e) (b a u hn e)

/-- a step, and what holds behind it -/
theorem seq_by {a b : DTS} {E : DEnds} {σ : DSt} {h : DH} (I : DSt → DH → Prop) (h2 : ∀ σ h, I σ h → b E σ h) (h1 : ∀ nx : DSt → DH → Prop, (∀ σ h, I σ h → nx σ h) → a { E with nx := nx } σ h) : sSeq a b E σ h := h1 _ h2
/-- a comprehension of one name by what holds -/
theorem lc_inv {j : Nat} {tt : DTT} {te : DTE} {st : DH → Prop} {σ : DSt} {L : Addr} {P : DH → Prop} (I : Nat → List D → DH → Prop) (xs : List D) {h : DH} (hL : h L = some (.lst [])) (h0 : I 0 [] h) (hst : ∀ i acc h, h L = some (.lst acc) → I i acc h → st h) (hz : xs.length ≤ sizeLine)
    (step : ∀ i x acc h, xs[i]? = some x → acc.length ≤ i → h L = some (.lst acc) → I i acc h → ∀ (R : DK) (R' : DH → Prop),
      (∀ y h', h' L = some (.lst acc) → I (i + 1) (acc ++ [y]) (put h' L (.lst (acc ++ [y]))) → R y h') → (∀ h', h' L = some (.lst acc) → I (i + 1) acc h' → R' h') →
      tt (σ.set j (some x)) h fun b h3 => if b = true then te (σ.set j (some x)) h3 R else R' h3)
    (hend : ∀ acc h, acc.length ≤ xs.length → h L = some (.lst acc) → I xs.length acc h → P h) : lcGo (gNm j) tt te st σ L xs h P := by
  have gen : ∀ (ys : List D) (i : Nat) (acc : List D) (h : DH), i + ys.length = xs.length → (∀ k, ys[k]? = xs[i + k]?) → acc.length ≤ i → h L = some (.lst acc) → I i acc h → lcGo (gNm j) tt te st σ L ys h P := by
    intro ys
    induction ys with
    | nil =>
      intro i acc h e _ hl eL hi
      have e' : i = xs.length := by simpa using e
      subst e'
      exact ⟨hst _ _ _ eL hi, hend _ _ hl eL hi⟩
    | cons y ys ih =>
      intro i acc h e q hl eL hi
      refine ⟨hst _ _ _ eL hi, ?_⟩
      have q0 : xs[i]? = some y := by have := q 0; simpa using this.symm
      have q1 : ∀ k, ys[k]? = xs[i + 1 + k]? := fun k => by
        have := q (k + 1)
        rw [List.getElem?_cons_succ] at this
        rw [this]
        congr 1
        omega
      rw [List.length_cons] at e
      exact step i y acc h q0 hl eL hi _ _ (fun y h' eL' i' => lstAt_of eL' ⟨by omega, ih (i + 1) _ _ (by omega) q1 (by rw [List.length_append, List.length_singleton]; omega) put_same i'⟩)
        (fun h' eL' i' => ih (i + 1) _ _ (by omega) q1 (by omega) eL' i')
  exact gen xs 0 [] h (by simp) (fun k => by simp) (Nat.le_refl _) hL h0
/-- for over a list of items, any target -/
theorem for_eachG {g : DTG} {tb : DTS} {st : DH → Prop} {E : DEnds} {σ : DSt} {h : DH} (I : Nat → DSt → DH → Prop) (xs : List D) (h0 : I 0 σ h) (hst : ∀ i σ h, I i σ h → st h)
    (step : ∀ i x σ h, xs[i]? = some x → I i σ h → ∀ nx : DSt → DH → Prop, (∀ σ h, I (i + 1) σ h → nx σ h) → g x σ h fun σ1 h1 => tb { nx := nx, rt := E.rt, bk := E.nx, ct := nx } σ1 h1)
    (hend : ∀ σ h, I xs.length σ h → E.nx σ h) : forGo g tb st E xs σ h := by
  have gen : ∀ (ys : List D) (i : Nat) (σ : DSt) (h : DH), i + ys.length = xs.length → (∀ k, ys[k]? = xs[i + k]?) → I i σ h → forGo g tb st E ys σ h := by
    intro ys
    induction ys with
    | nil =>
      intro i σ h e _ hi
      have e' : i = xs.length := by simpa using e
      subst e'
      exact ⟨hst _ _ _ hi, hend _ _ hi⟩
    | cons y ys ih =>
      intro i σ h e q hi
      refine ⟨hst _ _ _ hi, ?_⟩
      have q0 : xs[i]? = some y := by have := q 0; simpa using this.symm
      exact step i y σ h q0 hi _ fun σ2 h2 i2 => ih (i + 1) σ2 h2 (by rw [List.length_cons] at e; omega) (fun k => by
        have := q (k + 1)
        rw [List.getElem?_cons_succ] at this
        rw [this]
        congr 1
        omega) i2
  exact gen xs 0 σ h (by simp) (fun k => by simp) h0
/-! ### cuts -/
theorem cut_one (xs : List D) : cutD xs (some 1) none = xs.tail := by
  unfold cutD
  rw [show HT.sIx xs.length 0 (some 1) = min 1 xs.length from HT.sIx_nat xs.length 0 1, HT.sIx_none]
  cases xs with
  | nil => rfl
  | cons x r =>
    rw [show min 1 (x :: r).length = 1 by rw [List.length_cons]; omega]
    show List.take ((x :: r).length - 1) r = r
    rw [List.length_cons, Nat.add_sub_cancel]
    exact List.take_length
theorem cut_to (xs : List D) (n : Nat) : cutD xs none (some (n : Int)) = xs.take n := by
  unfold cutD
  rw [HT.sIx_none, HT.sIx_nat, Nat.sub_zero, List.drop_zero]
  by_cases h : n ≤ xs.length
  · rw [Nat.min_eq_left h]
  · rw [Nat.min_eq_right (by omega), List.take_length, List.take_of_length_le (by omega)]
theorem cut_2 (xs : List D) : cutD xs none (some 2) = xs.take 2 := cut_to xs 2
/-! ### joining signs -/
def chS (c : Nat) : Str := ⟨#[c]⟩
theorem joinL_ones : ∀ cs : List Nat, TL.joinL [] (cs.map fun c => [c]) = cs
  | [] => rfl
  | [c] => rfl
  | c :: d :: r => by
    have := joinL_ones (d :: r)
    rw [List.map_cons] at this
    show [c] ++ ([] ++ TL.joinL [] ([d] :: r.map fun c => [c])) = _
    rw [this]
    rfl
theorem join_chars (cs : List Nat) : (Txt.join ("" : Str) (cs.map chS)).cps.toList = cs := by
  have e := TL.tl_join ("" : Str) (cs.map chS)
  rw [List.map_map] at e
  rw [TL.join_eq]
  refine Eq.trans e ?_
  exact joinL_ones cs
theorem ints_tail (gs : List Int) : (gs.map D.int).tail = (gs.tail).map D.int := by cases gs <;> rfl
theorem ints_at {gs : List Int} {i : Nat} (h : i < gs.length) : atI (gs.map D.int) (i : Int) = some (.int gs[i]) := by
  rw [atI_n, List.getElem?_map, List.getElem?_eq_getElem h]
  rfl
/-! ### the drawing pool: at p, apart from the addresses A -/
def PoolAt (h : DH) (p : Addr) (A : List Addr) : Prop := ∃ (ga sa : Addr) (gs ss : List Int) (x n : Int), h p = some (.lst [.ref ga, .ref sa, .int x, .int n]) ∧ h ga = some (.lst (gs.map .int)) ∧ h sa = some (.lst (ss.map .int)) ∧
  ga ≠ p ∧ sa ≠ p ∧ p ∉ A ∧ ga ∉ A ∧ sa ∉ A ∧ ss.length ≤ 63 ∧ ∀ a ∈ A, h a ≠ none
theorem PoolAt.put {h : DH} {p a : Addr} {A : List Addr} {o : DO} (P : PoolAt h p A) (ha : a ∈ A) : PoolAt (DL.put h a o) p A := by
  obtain ⟨ga, sa, gs, ss, x, n, e1, e2, e3, n1, n2, n3, n4, n5, l, live⟩ := P
  refine ⟨ga, sa, gs, ss, x, n, ?_, ?_, ?_, n1, n2, n3, n4, n5, l, fun b hb => ?_⟩
  · rw [put_ne (fun z => n3 (by rw [z]; exact ha))]; exact e1
  · rw [put_ne (fun z => n4 (by rw [z]; exact ha))]; exact e2
  · rw [put_ne (fun z => n5 (by rw [z]; exact ha))]; exact e3
  · by_cases z : b = a
    · rw [z, put_same]; exact fun y => by cases y
    · rw [put_ne z]; exact live b hb
theorem PoolAt.sub {h h' : DH} {p : Addr} {A : List Addr} (P : PoolAt h p A) (s : Sub h h') : PoolAt h' p A := by
  obtain ⟨ga, sa, gs, ss, x, n, e1, e2, e3, n1, n2, n3, n4, n5, l, live⟩ := P
  refine ⟨ga, sa, gs, ss, x, n, s _ _ e1, s _ _ e2, s _ _ e3, n1, n2, n3, n4, n5, l, fun b hb => ?_⟩
  cases q : h b with
  | none => exact (live b hb q).elim
  | some o => rw [s b o q]; exact fun y => by cases y
theorem PoolAt.but {h h' : DH} {p k : Addr} {A : List Addr} (P : PoolAt h p A) (s : But k h h') (hk : ∀ xs, h k ≠ some (.lst xs)) (hl : h' k ≠ none) : PoolAt h' p A := by
  obtain ⟨ga, sa, gs, ss, x, n, e1, e2, e3, n1, n2, n3, n4, n5, l, live⟩ := P
  refine ⟨ga, sa, gs, ss, x, n, s _ _ (fun z => hk _ (by rw [← z]; exact e1)) e1, s _ _ (fun z => hk _ (by rw [← z]; exact e2)) e2, s _ _ (fun z => hk _ (by rw [← z]; exact e3)) e3, n1, n2, n3, n4, n5, l, fun b hb => ?_⟩
  by_cases z : b = k
  · rw [z]; exact hl
  · cases q : h b with
    | none => exact (live b hb q).elim
    | some o => rw [s b o z q]; exact fun y => by cases y
theorem PoolAt.butA {h h' : DH} {p k : Addr} {A : List Addr} (P : PoolAt h p A) (s : But k h h') (hk : k ∈ A) (hl : h' k ≠ none) : PoolAt h' p A := by
  obtain ⟨ga, sa, gs, ss, x, n, e1, e2, e3, n1, n2, n3, n4, n5, l, live⟩ := P
  refine ⟨ga, sa, gs, ss, x, n, s _ _ (fun z => n3 (by rw [z]; exact hk)) e1, s _ _ (fun z => n4 (by rw [z]; exact hk)) e2, s _ _ (fun z => n5 (by rw [z]; exact hk)) e3, n1, n2, n3, n4, n5, l, fun b hb => ?_⟩
  by_cases z : b = k
  · rw [z]; exact hl
  · cases q : h b with
    | none => exact (live b hb q).elim
    | some o => rw [s b o z q]; exact fun y => by cases y
theorem PoolAt.new {h : DH} {p L : Addr} {A : List Addr} {o : DO} (P : PoolAt h p A) (nL : h L = none) : PoolAt (DL.put h L o) p (L :: A) := by
  have s : Sub h (DL.put h L o) := Sub.new nL
  obtain ⟨ga, sa, gs, ss, x, n, e1, e2, e3, n1, n2, n3, n4, n5, l, live⟩ := P
  have ne : ∀ {a : Addr} {u : DO}, h a = some u → a ≠ L := fun e z => by rw [z, nL] at e; cases e
  refine ⟨ga, sa, gs, ss, x, n, s _ _ e1, s _ _ e2, s _ _ e3, n1, n2, ?_, ?_, ?_, l, fun b hb => ?_⟩
  · exact fun z => (List.mem_cons.mp z).elim (ne e1) n3
  · exact fun z => (List.mem_cons.mp z).elim (ne e2) n4
  · exact fun z => (List.mem_cons.mp z).elim (ne e3) n5
  · rcases List.mem_cons.mp hb with z | z
    · rw [z, put_same]; exact fun y => by cases y
    · cases q : h b with
      | none => exact (live b z q).elim
      | some o => rw [s b o q]; exact fun y => by cases y
theorem PoolAt.less {h : DH} {p : Addr} {A B : List Addr} (P : PoolAt h p A) (s : ∀ a ∈ B, a ∈ A) : PoolAt h p B := by
  obtain ⟨ga, sa, gs, ss, x, n, e1, e2, e3, n1, n2, n3, n4, n5, l, live⟩ := P
  exact ⟨ga, sa, gs, ss, x, n, e1, e2, e3, n1, n2, fun z => n3 (s _ z), fun z => n4 (s _ z), fun z => n5 (s _ z), l, fun b hb => live b (s b hb)⟩
theorem PoolAt.drop {h : DH} {p L : Addr} {A : List Addr} (P : PoolAt h p (L :: A)) : PoolAt h p A := P.less fun _ h => List.mem_cons_of_mem _ h
theorem PoolAt.ne {h : DH} {p L : Addr} {A : List Addr} (P : PoolAt h p A) (hL : L ∈ A) : L ≠ p := by
  obtain ⟨ga, sa, gs, ss, x, n, e1, e2, e3, n1, n2, n3, n4, n5, l, live⟩ := P
  exact fun z => n3 (by rw [← z]; exact hL)
theorem PoolAt.live {h : DH} {p : Addr} {A : List Addr} (P : PoolAt h p A) : h p ≠ none := by
  obtain ⟨ga, sa, gs, ss, x, n, e1, _⟩ := P
  rw [e1]; exact fun y => by cases y
theorem PoolAt.neN {h : DH} {p L : Addr} {A : List Addr} (P : PoolAt h p A) (hL : h L = none) : L ≠ p := fun z => P.live (by rw [← z]; exact hL)
theorem PoolAt.lst {h : DH} {p : Addr} {A : List Addr} (P : PoolAt h p A) : ∃ xs, h p = some (.lst xs) := by
  obtain ⟨ga, sa, gs, ss, x, n, e1, _⟩ := P
  exact ⟨_, e1⟩
/-- drawing a number below m -/
def drawSp : DSp := sp2 fun a b h P => ∃ (p : Addr) (A : List Addr) (m : Nat), a = .ref p ∧ b = .int m ∧ 0 < m ∧ m ≤ 1000000 ∧ PoolAt h p A ∧ ∀ (r : Nat) h', r < m → PoolAt h' p A → But p h h' → P (.int r) h'
/-- picking one of some things -/
def pickSp : DSp := sp2 fun a b h P => ∃ (p : Addr) (A : List Addr) (q : Addr) (xs : List D), a = .ref p ∧ b = .ref q ∧ q ≠ p ∧ h q = some (.lst xs) ∧ 0 < xs.length ∧ xs.length ≤ 1000000 ∧ PoolAt h p A ∧ ∀ x h', x ∈ xs → PoolAt h' p A → But p h h' → P x h'
/-- making the pool -/
def poolSp : DSp := sp1 fun a h P => ∃ ns : List Int, a = .rol (ns.map .int) ∧ ns.length ≤ 63 ∧ ∀ p h', PoolAt h' p [] → Sub h h' → P (.ref p) h'
end DL
/-! M1: the plain mathematics of questions: columns, their numbers, readings, answers. -/
namespace My
open PySem PySem.Spec PyProof.Rows L2 DL

/-- the signs: 45 is the one of no letter -/
def sg (l : Nat) : List Nat := [45, 97, 98].take (l + 1)
/-- all columns of so many rows, ascending -/
def cols : Nat → List Nat → List (List Nat)
  | 0, _ => [[]]
  | r + 1, S => (cols r S).flatMap fun c => S.map fun s => c ++ [s]
def sgD (c : Nat) : D := .str ⟨#[c]⟩
def encC (c : List Nat) : D := .tup (c.map sgD)
theorem sgD_inj {a b : Nat} (h : sgD a = sgD b) : a = b := by
  unfold sgD at h
  injection h with h
  injection h with h
  simpa using h
theorem encC_inj {a b : List Nat} (h : encC a = encC b) : a = b := by
  unfold encC at h
  injection h with h
  induction a generalizing b with
  | nil => cases b with
    | nil => rfl
    | cons _ _ => simp at h
  | cons x r ih => cases b with
    | nil => simp at h
    | cons y q =>
      rw [List.map_cons, List.map_cons] at h
      injection h with h1 h2
      rw [sgD_inj h1, ih h2]
theorem flatMap_len {S : List Nat} : ∀ L : List (List Nat), (L.flatMap fun c => S.map fun s => c ++ [s]).length = L.length * S.length
  | [] => by simp
  | c :: L => by rw [List.flatMap_cons, List.length_append, List.length_map, flatMap_len L, List.length_cons, Nat.succ_mul, Nat.add_comm]
theorem cols_len (S : List Nat) : ∀ r, (cols r S).length = S.length ^ r
  | 0 => rfl
  | r + 1 => by show (List.flatMap _ (cols r S)).length = _; rw [flatMap_len, cols_len S r, Nat.pow_succ]
theorem cols_mem {S : List Nat} : ∀ {r : Nat} {c : List Nat}, c ∈ cols r S ↔ c.length = r ∧ ∀ s ∈ c, s ∈ S
  | 0, c => by
    show c ∈ [[]] ↔ _
    constructor
    · intro h
      rw [List.mem_singleton.mp h]
      exact ⟨rfl, fun s hs => by cases hs⟩
    · rintro ⟨h, _⟩
      rw [List.length_eq_zero_iff.mp h]
      exact List.mem_singleton.mpr rfl
  | r + 1, c => by
    show c ∈ List.flatMap _ (cols r S) ↔ _
    rw [List.mem_flatMap]
    constructor
    · rintro ⟨d, hd, hc⟩
      obtain ⟨s, hs, rfl⟩ := List.mem_map.mp hc
      obtain ⟨h1, h2⟩ := cols_mem.mp hd
      refine ⟨by rw [List.length_append, h1]; rfl, fun x hx => ?_⟩
      rcases List.mem_append.mp hx with hx | hx
      · exact h2 x hx
      · rw [List.mem_singleton.mp hx]; exact hs
    · rintro ⟨h1, h2⟩
      have hne : c ≠ [] := fun e => by rw [e] at h1; cases h1
      refine ⟨c.dropLast, cols_mem.mpr ⟨by rw [List.length_dropLast, h1]; rfl, fun s hs => h2 s (List.dropLast_subset c hs)⟩, List.mem_map.mpr ⟨c.getLast hne, h2 _ (List.getLast_mem hne), List.dropLast_concat_getLast hne⟩⟩
/-- the place of a sign among the three -/
def dig (s : Nat) : Nat := if s = 97 then 1 else if s = 98 then 2 else 0
/-- a column's number -/
def val (b : Nat) (c : List Nat) : Nat := c.foldl (fun n s => n * b + dig s) 0
theorem val_snoc (b : Nat) (c : List Nat) (s : Nat) : val b (c ++ [s]) = val b c * b + dig s := by unfold val; rw [List.foldl_append]; rfl
theorem flatMap_at {S : List Nat} : ∀ (L : List (List Nat)) (i j : Nat) (c : List Nat) (s : Nat), L[i]? = some c → S[j]? = some s → (L.flatMap fun c => S.map fun s => c ++ [s])[i * S.length + j]? = some (c ++ [s])
  | [], i, j, c, s, h, _ => by simp at h
  | x :: L, 0, j, c, s, h, h2 => by
    simp at h; subst h
    have hj : j < S.length := (List.getElem?_eq_some_iff.mp h2).1
    rw [List.flatMap_cons, List.getElem?_append_left (by simpa using hj)]
    simp [h2]
  | x :: L, i + 1, j, c, s, h, h2 => by
    rw [List.flatMap_cons, List.getElem?_append_right (by rw [List.length_map, Nat.succ_mul]; omega), List.length_map]
    rw [show (i + 1) * S.length + j - S.length = i * S.length + j by rw [Nat.succ_mul]; omega]
    exact flatMap_at L i j c s (by simpa using h) h2
theorem sg_len {l : Nat} (h : l ≤ 2) : (sg l).length = l + 1 := by unfold sg; rw [List.length_take]; simp; omega
theorem sg_at {l s : Nat} (h : l ≤ 2) (hs : s ∈ sg l) : (sg l)[dig s]? = some s ∧ dig s < l + 1 := by
  rcases (show l = 0 ∨ l = 1 ∨ l = 2 by omega) with rfl | rfl | rfl <;> simp [sg] at hs
  · subst hs; decide
  · rcases hs with rfl | rfl <;> decide
  · rcases hs with rfl | rfl | rfl <;> decide
theorem cols_at {l : Nat} (h : l ≤ 2) : ∀ {r : Nat} {c : List Nat}, c ∈ cols r (sg l) → (cols r (sg l))[val (l + 1) c]? = some c
  | 0, c, hc => by
    have e : c = [] := List.mem_singleton.mp hc
    subst e; rfl
  | r + 1, c, hc => by
    obtain ⟨d, hd, hc⟩ := List.mem_flatMap.mp (show c ∈ List.flatMap _ (cols r (sg l)) from hc)
    obtain ⟨s, hs, rfl⟩ := List.mem_map.mp hc
    have h1 := cols_at h hd
    have h2 := (sg_at h hs).1
    have h3 := flatMap_at (S := sg l) (cols r (sg l)) _ _ d s h1 h2
    rw [sg_len h] at h3
    rw [val_snoc]
    exact h3
theorem sg_dig {l b s : Nat} (h : (sg l)[b]? = some s) : dig s = b := by
  unfold sg at h
  rw [List.getElem?_take] at h
  split at h
  · match b, h with
    | 0, h => simp at h; subst h; rfl
    | 1, h => simp at h; subst h; rfl
    | 2, h => simp at h; subst h; rfl
    | n + 3, h => simp at h
  · cases h
/-- where a column stands is its number -/
theorem cols_val {l : Nat} (h : l ≤ 2) : ∀ {r i : Nat} {c : List Nat}, (cols r (sg l))[i]? = some c → i = val (l + 1) c
  | 0, i, c, hc => by
    have hi : i < 1 := (List.getElem?_eq_some_iff.mp hc).1
    have e : i = 0 := by omega
    subst e
    have e2 : [] = c := Option.some.inj hc
    subst e2; rfl
  | r + 1, i, c, hc => by
    have hc' : (List.flatMap (fun c => (sg l).map fun s => c ++ [s]) (cols r (sg l)))[i]? = some c := hc
    have hi : i < (cols r (sg l)).length * (sg l).length := by
      have := (List.getElem?_eq_some_iff.mp hc').1
      rw [flatMap_len] at this
      exact this
    have hS : (sg l).length = l + 1 := sg_len h
    have hp : 0 < (sg l).length := by omega
    have ha : i / (sg l).length < (cols r (sg l)).length := Nat.div_lt_of_lt_mul (by rw [Nat.mul_comm]; exact hi)
    have hb : i % (sg l).length < (sg l).length := Nat.mod_lt _ hp
    have h3 := flatMap_at (S := sg l) (cols r (sg l)) _ _ _ _ (List.getElem?_eq_getElem ha) (List.getElem?_eq_getElem hb)
    rw [Nat.mul_comm, Nat.div_add_mod] at h3
    rw [h3] at hc'
    have e := Option.some.inj hc'
    have h4 := cols_val h (List.getElem?_eq_getElem ha)
    have h5 := sg_dig (List.getElem?_eq_getElem hb)
    rw [← e, val_snoc, ← h4, h5, hS]
    have := Nat.div_add_mod i (l + 1)
    rw [Nat.mul_comm] at this
    omega
theorem val_lt {l r : Nat} (h : l ≤ 2) {c : List Nat} (hc : c ∈ cols r (sg l)) : val (l + 1) c < (l + 1) ^ r := by
  have := (List.getElem?_eq_some_iff.mp (cols_at h hc)).1
  rw [cols_len, sg_len h] at this
  exact this

/-! ### a question's data -/
structure Qs where
  r : Nat
  l : Nat
  tbl : List (Bool × List Nat)
structure Qs.Ok (S : Qs) : Prop where
  r2 : 2 ≤ S.r
  r4 : S.r ≤ 4
  l1 : 1 ≤ S.l
  l2 : S.l ≤ 2
  t1 : 1 ≤ S.tbl.length
  t8 : S.tbl.length ≤ 8
  row : ∀ e ∈ S.tbl, e.2.length = (S.l + 1) ^ S.r - 1 ∧ ∀ n ∈ e.2, n < S.tbl.length
abbrev nD (n : Nat) : D := .int (n : Int)
def rowD (e : Bool × List Nat) : D := .tup [.bl e.1, .tup (e.2.map nD)]
def tblD (t : List (Bool × List Nat)) : D := .tup (t.map rowD)
def specD (S : Qs) : D := .tup [nD S.r, nD S.l, tblD S.tbl]
def wordsD (ws : List Str) : D := .tup (ws.map .str)
/-- the standing to which a column leads -/
def lead (S : Qs) (st : Nat) (c : List Nat) : Nat := if val (S.l + 1) c = 0 then st else ((S.tbl.getD st (false, [])).2).getD (val (S.l + 1) c - 1) 0
theorem lead_lt {S : Qs} (ok : S.Ok) {st : Nat} (h : st < S.tbl.length) {c : List Nat} (hc : c ∈ cols S.r (sg S.l)) : lead S st c < S.tbl.length := by
  unfold lead
  split
  · exact h
  · rename_i hv
    have h1 := val_lt ok.l2 hc
    obtain ⟨e1, e2⟩ := ok.row S.tbl[st] (List.getElem_mem h)
    have hg : S.tbl.getD st (false, []) = S.tbl[st] := by rw [List.getD_eq_getElem?_getD, List.getElem?_eq_getElem h]; rfl
    rw [hg]
    have h2 : val (S.l + 1) c - 1 < S.tbl[st].2.length := by omega
    rw [List.getD_eq_getElem?_getD, List.getElem?_eq_getElem h2]
    exact e2 _ (List.getElem_mem h2)
/-- the column at a place -/
def colAt (ws : List Str) (p : Nat) : List Nat := ws.map fun z => z.cps.toList.getD p 45
/-- words of these letters -/
def WordsOk (l : Nat) (ws : List Str) : Prop := ∀ z ∈ ws, ∀ c ∈ z.cps.toList, c ∈ (sg l).drop 1
theorem colAt_mem {l : Nat} {ws : List Str} (h : WordsOk l ws) (p : Nat) : colAt ws p ∈ cols ws.length (sg l) := by
  refine cols_mem.mpr ⟨by unfold colAt; rw [List.length_map], fun s hs => ?_⟩
  obtain ⟨z, hz, rfl⟩ := List.mem_map.mp hs
  rw [List.getD_eq_getElem?_getD]
  cases e : z.cps.toList[p]? with
  | none => exact List.mem_of_mem_head? rfl
  | some c => exact List.mem_of_mem_drop (h z hz c (List.mem_of_getElem? e))
def maxLen (ws : List Str) : Nat := (ws.map fun z => z.length).foldl max 0
/-- the standing behind so many places -/
def stAt (S : Qs) (ws : List Str) : Nat → Nat
  | 0 => 0
  | n + 1 => lead S (stAt S ws n) (colAt ws n)
theorem stAt_lt {S : Qs} (ok : S.Ok) {ws : List Str} (hw : ws.length = S.r) (hk : WordsOk S.l ws) : ∀ n, stAt S ws n < S.tbl.length
  | 0 => ok.t1
  | n + 1 => lead_lt ok (stAt_lt ok hw hk n) (by rw [← hw]; exact colAt_mem hk n)
def ansOf (S : Qs) (ws : List Str) : Bool := (S.tbl.getD (stAt S ws (maxLen ws)) (false, [])).1
end My
local macro_rules | `(tactic| walk_at "dgo") => `(tactic| simp only [DL.sSeq, DL.sNext, DL.sAsg, DL.sRet, DL.sRetN, DL.sIf, DL.sDrop, DL.sFor, DL.sNever, DL.sFld, DL.sPar, DL.sBreak, DL.sCont, DL.sAug, DL.dVar, DL.dC, DL.dOp, DL.dTest, DL.asB, DL.dAnd, DL.dOr, DL.dNot, DL.dAndV, DL.dOrV, DL.dNotV, DL.dIf, DL.dChain, DL.dUn, DL.dNeg,
  DL.dNil, DL.dCons, DL.dTup, DL.dLst, DL.dCall, DL.dSl, DL.dPart, DL.dNoPart, DL.asI, DL.dLc, DL.dLc2, DL.dML, DL.dML0, DL.dMS, DL.dMD, DL.dMake, DL.dFld, DL.dDNew, DL.dDc, DL.gNm, DL.gTp, DL.gCn, DL.gNl, DL.gSb, DL.iLs, DL.iTp, DL.iSt, DL.iR1, DL.iR2, DL.iEn, DL.dYes, DL.dwipe,
  DL.dAdd, DL.dI2, DL.dB2, DL.dEq, DL.dNe, DL.eqS, DL.dIs, DL.dIsNot, DL.isN, DL.dMul, DL.dIx, DL.dIxD, DL.dCut, DL.dLen, DL.dAbs, DL.dInt, DL.dTupOf, DL.dAll, DL.dAny, DL.dMax, DL.dIn, DL.dNotIn, DL.inD, DL.dAppend, DL.dExtend, DL.dFind, DL.dJoin, DL.dGet, DL.dSetL, DL.dSetD, DL.dIsi, DL.tyName,
  DL.sp0, DL.sp1, DL.sp2, DL.sp3, DL.sp4, DL.sp5, DL.oAt_some, Option.isSome_none, Option.isSome_some, Option.getD_none, Option.getD_some, DL.ite_tt, DL.ite_ff, ite_true, ite_false, decide_true, decide_false, DL.atI_0, DL.atI_1, DL.atI_2, DL.atI_3, List.getElem?_cons_zero, List.getElem?_cons_succ, List.set_cons_zero, List.set_cons_succ, List.map_cons, List.map_nil, List.length_cons, List.length_nil, true_and, and_true, Bool.not_true, Bool.not_false, Bool.true_and, Bool.and_true])
namespace My
open PySem PySem.Spec PyProof.Rows L2 DL
def topS (i : Nat) : Stmt := PySem.Challenge.pw_rowwalkers_k75_whole_answers.main.body.getD i (.Pass ⟨0, 0, 0, 0⟩)
abbrev s_is_integer : Stmt := topS 6
abbrev s_is_within : Stmt := topS 7
abbrev s_is_pair : Stmt := topS 8
abbrev s_is_string_of : Stmt := topS 9
abbrev s_is_letters : Stmt := topS 10
abbrev s_columns : Stmt := topS 17
abbrev s_readings : Stmt := topS 18
abbrev s_is_standing : Stmt := topS 19
abbrev s_Question_init : Stmt := inClass (topS 20) 0
abbrev s_numbers_of : Stmt := topS 21
abbrev s_read : Stmt := topS 22
abbrev s_column_at : Stmt := topS 23
abbrev s_longest : Stmt := topS 24
abbrev s_are_words : Stmt := topS 25
abbrev s_check_words : Stmt := topS 26
abbrev s_standing_with : Stmt := topS 27
abbrev s_answer_to : Stmt := topS 28
abbrev s_answer : Stmt := topS 29
abbrev s_wpool : Stmt := topS 31
abbrev s_wdraw : Stmt := topS 32
abbrev s_wpick : Stmt := topS 33
abbrev s_wcolumns : Stmt := topS 34
abbrev s_wlead : Stmt := topS 35
abbrev s_wcolumn_at : Stmt := topS 36
abbrev s_wanswer : Stmt := topS 37
abbrev s_wby_rows : Stmt := topS 38
abbrev s_wdrawn_table : Stmt := topS 39
abbrev s_wfirst_signs : Stmt := topS 40
abbrev s_wcompared : Stmt := topS 41
abbrev s_wspec : Stmt := topS 42
abbrev s_wquestion : Stmt := topS 43
abbrev s_wdrawn_words : Stmt := topS 44
abbrev s_law : Stmt := topS 45
theorem sc_is_integer : FnScope ["thing"] ["thing"] (defScope s_is_integer) := ⟨rfl, rfl, rfl, by decide +kernel, rfl, by decide +kernel, by decide +kernel⟩
theorem sc_is_within : FnScope ["thing", "least", "most"] ["thing", "least", "most"] (defScope s_is_within) := ⟨rfl, rfl, rfl, by decide +kernel, rfl, by decide +kernel, by decide +kernel⟩
theorem sc_is_pair : FnScope ["thing"] ["thing"] (defScope s_is_pair) := ⟨rfl, rfl, rfl, by decide +kernel, rfl, by decide +kernel, by decide +kernel⟩
theorem sc_is_string_of : FnScope ["thing", "signs", "sign"] ["thing", "signs"] (defScope s_is_string_of) := ⟨rfl, rfl, rfl, by decide +kernel, rfl, by decide +kernel, by decide +kernel⟩
theorem sc_is_letters : FnScope ["thing", "letters"] ["thing", "letters"] (defScope s_is_letters) := ⟨rfl, rfl, rfl, by decide +kernel, rfl, by decide +kernel, by decide +kernel⟩
theorem sc_columns : FnScope ["rows", "letters", "found", "row", "column", "sign"] ["rows", "letters"] (defScope s_columns) := ⟨rfl, rfl, rfl, by decide +kernel, rfl, by decide +kernel, by decide +kernel⟩
theorem sc_readings : FnScope ["rows", "letters"] ["rows", "letters"] (defScope s_readings) := ⟨rfl, rfl, rfl, by decide +kernel, rfl, by decide +kernel, by decide +kernel⟩
theorem sc_is_standing : FnScope ["thing", "many", "wide", "later"] ["thing", "many", "wide"] (defScope s_is_standing) := ⟨rfl, rfl, rfl, by decide +kernel, rfl, by decide +kernel, by decide +kernel⟩
theorem sc_Question_init : FnScope ["self", "rows", "letters", "table", "wide", "item"] ["self", "rows", "letters", "table"] (defScope s_Question_init) := ⟨rfl, rfl, rfl, by decide +kernel, rfl, by decide +kernel, by decide +kernel⟩
theorem sc_numbers_of : FnScope ["question", "listed", "number", "reading"] ["question"] (defScope s_numbers_of) := ⟨rfl, rfl, rfl, by decide +kernel, rfl, by decide +kernel, by decide +kernel⟩
theorem sc_read : FnScope ["question", "standing", "reading", "number"] ["question", "standing", "reading"] (defScope s_read) := ⟨rfl, rfl, rfl, by decide +kernel, rfl, by decide +kernel, by decide +kernel⟩
theorem sc_column_at : FnScope ["words", "place", "word"] ["words", "place"] (defScope s_column_at) := ⟨rfl, rfl, rfl, by decide +kernel, rfl, by decide +kernel, by decide +kernel⟩
theorem sc_longest : FnScope ["words", "word"] ["words"] (defScope s_longest) := ⟨rfl, rfl, rfl, by decide +kernel, rfl, by decide +kernel, by decide +kernel⟩
theorem sc_are_words : FnScope ["many", "letters", "thing", "word"] ["many", "letters", "thing"] (defScope s_are_words) := ⟨rfl, rfl, rfl, by decide +kernel, rfl, by decide +kernel, by decide +kernel⟩
theorem sc_check_words : FnScope ["many", "letters", "thing"] ["many", "letters", "thing"] (defScope s_check_words) := ⟨rfl, rfl, rfl, by decide +kernel, rfl, by decide +kernel, by decide +kernel⟩
theorem sc_standing_with : FnScope ["question", "words", "found", "place"] ["question", "words"] (defScope s_standing_with) := ⟨rfl, rfl, rfl, by decide +kernel, rfl, by decide +kernel, by decide +kernel⟩
theorem sc_answer_to : FnScope ["question", "words"] ["question", "words"] (defScope s_answer_to) := ⟨rfl, rfl, rfl, by decide +kernel, rfl, by decide +kernel, by decide +kernel⟩
theorem sc_answer : FnScope ["question", "words"] ["question", "words"] (defScope s_answer) := ⟨rfl, rfl, rfl, by decide +kernel, rfl, by decide +kernel, by decide +kernel⟩
theorem sc_wpool : FnScope ["script", "great", "small", "cell"] ["script"] (defScope s_wpool) := ⟨rfl, rfl, rfl, by decide +kernel, rfl, by decide +kernel, by decide +kernel⟩
theorem sc_wdraw : FnScope ["pool", "many", "digit", "cell", "number"] ["pool", "many"] (defScope s_wdraw) := ⟨rfl, rfl, rfl, by decide +kernel, rfl, by decide +kernel, by decide +kernel⟩
theorem sc_wpick : FnScope ["pool", "things"] ["pool", "things"] (defScope s_wpick) := ⟨rfl, rfl, rfl, by decide +kernel, rfl, by decide +kernel, by decide +kernel⟩
theorem sc_wcolumns : FnScope ["rows", "letters", "found", "row", "later", "column", "sign"] ["rows", "letters"] (defScope s_wcolumns) := ⟨rfl, rfl, rfl, by decide +kernel, rfl, by decide +kernel, by decide +kernel⟩
theorem sc_wlead : FnScope ["spec", "standing", "column", "number", "sign"] ["spec", "standing", "column"] (defScope s_wlead) := ⟨rfl, rfl, rfl, by decide +kernel, rfl, by decide +kernel, by decide +kernel⟩
theorem sc_wcolumn_at : FnScope ["words", "place", "word"] ["words", "place"] (defScope s_wcolumn_at) := ⟨rfl, rfl, rfl, by decide +kernel, rfl, by decide +kernel, by decide +kernel⟩
theorem sc_wanswer : FnScope ["spec", "words", "standing", "place", "word"] ["spec", "words"] (defScope s_wanswer) := ⟨rfl, rfl, rfl, by decide +kernel, rfl, by decide +kernel, by decide +kernel⟩
theorem sc_wby_rows : FnScope ["pool", "rows", "letters", "counted", "sign", "many", "table", "standing", "nexts", "column", "later", "at", "row"] ["pool", "rows", "letters"] (defScope s_wby_rows) := ⟨rfl, rfl, rfl, by decide +kernel, rfl, by decide +kernel, by decide +kernel⟩
theorem sc_wdrawn_table : FnScope ["pool", "rows", "letters", "many", "plain", "wide", "table", "standing", "usual", "nexts", "column", "later"] ["pool", "rows", "letters", "many", "plain"] (defScope s_wdrawn_table) := ⟨rfl, rfl, rfl, by decide +kernel, rfl, by decide +kernel, by decide +kernel⟩
theorem sc_wfirst_signs : FnScope ["pool", "rows", "letters", "row", "other", "table", "nexts", "at", "stays", "column"] ["pool", "rows", "letters"] (defScope s_wfirst_signs) := ⟨rfl, rfl, rfl, by decide +kernel, rfl, by decide +kernel, by decide +kernel⟩
theorem sc_wcompared : FnScope ["pool", "rows", "letters", "one", "other", "by_letter", "nexts", "column", "pair", "unlike"] ["pool", "rows", "letters"] (defScope s_wcompared) := ⟨rfl, rfl, rfl, by decide +kernel, rfl, by decide +kernel, by decide +kernel⟩
theorem sc_wspec : FnScope ["pool", "most_rows", "rows", "letters", "kind", "table"] ["pool", "most_rows"] (defScope s_wspec) := ⟨rfl, rfl, rfl, by decide +kernel, rfl, by decide +kernel, by decide +kernel⟩
theorem sc_wquestion : FnScope ["spec"] ["spec"] (defScope s_wquestion) := ⟨rfl, rfl, rfl, by decide +kernel, rfl, by decide +kernel, by decide +kernel⟩
theorem sc_wdrawn_words : FnScope ["pool", "rows", "letters", "most", "found", "row", "place"] ["pool", "rows", "letters", "most"] (defScope s_wdrawn_words) := ⟨rfl, rfl, rfl, by decide +kernel, rfl, by decide +kernel, by decide +kernel⟩
theorem sc_law : FnScope ["script", "pool", "turn", "spec", "question", "again", "words", "told", "row"] ["script"] (defScope s_law) := ⟨rfl, rfl, rfl, by decide +kernel, rfl, by decide +kernel, by decide +kernel⟩
structure Txt (K : PySem.W.Frag) (mg : Str → Option Value) where
  t_MOST_STANDINGS : Tok
  t_MOST_ROWS : Tok
  t_MOST_LETTERS : Tok
  t_LETTERS : Tok
  t_LEAST_ROWS : Tok
  t_GONE : Tok
  a_is_integer : Addr
  d_is_integer : FuncData
  F_is_integer : Fun K "is_integer" "is_integer" s_is_integer a_is_integer d_is_integer
  b_is_integer : Binds K d_is_integer ["thing"] []
  m_is_integer : mg "is_integer" = some (.ref a_is_integer)
  a_is_within : Addr
  d_is_within : FuncData
  F_is_within : Fun K "is_within" "is_within" s_is_within a_is_within d_is_within
  b_is_within : Binds K d_is_within ["thing", "least", "most"] []
  m_is_within : mg "is_within" = some (.ref a_is_within)
  a_is_pair : Addr
  d_is_pair : FuncData
  F_is_pair : Fun K "is_pair" "is_pair" s_is_pair a_is_pair d_is_pair
  b_is_pair : Binds K d_is_pair ["thing"] []
  m_is_pair : mg "is_pair" = some (.ref a_is_pair)
  a_is_string_of : Addr
  d_is_string_of : FuncData
  F_is_string_of : Fun K "is_string_of" "is_string_of" s_is_string_of a_is_string_of d_is_string_of
  b_is_string_of : Binds K d_is_string_of ["thing", "signs"] []
  m_is_string_of : mg "is_string_of" = some (.ref a_is_string_of)
  a_is_letters : Addr
  d_is_letters : FuncData
  F_is_letters : Fun K "is_letters" "is_letters" s_is_letters a_is_letters d_is_letters
  b_is_letters : Binds K d_is_letters ["thing", "letters"] []
  m_is_letters : mg "is_letters" = some (.ref a_is_letters)
  a_columns : Addr
  d_columns : FuncData
  F_columns : Fun K "columns" "columns" s_columns a_columns d_columns
  b_columns : Binds K d_columns ["rows", "letters"] []
  m_columns : mg "columns" = some (.ref a_columns)
  a_readings : Addr
  d_readings : FuncData
  F_readings : Fun K "readings" "readings" s_readings a_readings d_readings
  b_readings : Binds K d_readings ["rows", "letters"] []
  m_readings : mg "readings" = some (.ref a_readings)
  a_is_standing : Addr
  d_is_standing : FuncData
  F_is_standing : Fun K "is_standing" "is_standing" s_is_standing a_is_standing d_is_standing
  b_is_standing : Binds K d_is_standing ["thing", "many", "wide"] []
  m_is_standing : mg "is_standing" = some (.ref a_is_standing)
  a_Question_init : Addr
  d_Question_init : FuncData
  F_Question_init : Fun K "__init__" "Question.__init__" s_Question_init a_Question_init d_Question_init
  b_Question_init : Binds K d_Question_init ["self", "rows", "letters", "table"] []
  a_numbers_of : Addr
  d_numbers_of : FuncData
  F_numbers_of : Fun K "numbers_of" "numbers_of" s_numbers_of a_numbers_of d_numbers_of
  b_numbers_of : Binds K d_numbers_of ["question"] []
  m_numbers_of : mg "numbers_of" = some (.ref a_numbers_of)
  a_read : Addr
  d_read : FuncData
  F_read : Fun K "read" "read" s_read a_read d_read
  b_read : Binds K d_read ["question", "standing", "reading"] []
  m_read : mg "read" = some (.ref a_read)
  a_column_at : Addr
  d_column_at : FuncData
  F_column_at : Fun K "column_at" "column_at" s_column_at a_column_at d_column_at
  b_column_at : Binds K d_column_at ["words", "place"] []
  m_column_at : mg "column_at" = some (.ref a_column_at)
  a_longest : Addr
  d_longest : FuncData
  F_longest : Fun K "longest" "longest" s_longest a_longest d_longest
  b_longest : Binds K d_longest ["words"] []
  m_longest : mg "longest" = some (.ref a_longest)
  a_are_words : Addr
  d_are_words : FuncData
  F_are_words : Fun K "are_words" "are_words" s_are_words a_are_words d_are_words
  b_are_words : Binds K d_are_words ["many", "letters", "thing"] []
  m_are_words : mg "are_words" = some (.ref a_are_words)
  a_check_words : Addr
  d_check_words : FuncData
  F_check_words : Fun K "check_words" "check_words" s_check_words a_check_words d_check_words
  b_check_words : Binds K d_check_words ["many", "letters", "thing"] []
  m_check_words : mg "check_words" = some (.ref a_check_words)
  a_standing_with : Addr
  d_standing_with : FuncData
  F_standing_with : Fun K "standing_with" "standing_with" s_standing_with a_standing_with d_standing_with
  b_standing_with : Binds K d_standing_with ["question", "words"] []
  m_standing_with : mg "standing_with" = some (.ref a_standing_with)
  a_answer_to : Addr
  d_answer_to : FuncData
  F_answer_to : Fun K "answer_to" "answer_to" s_answer_to a_answer_to d_answer_to
  b_answer_to : Binds K d_answer_to ["question", "words"] []
  m_answer_to : mg "answer_to" = some (.ref a_answer_to)
  a_answer : Addr
  d_answer : FuncData
  F_answer : Fun K "answer" "answer" s_answer a_answer d_answer
  b_answer : Binds K d_answer ["question", "words"] []
  m_answer : mg "answer" = some (.ref a_answer)
  a_wpool : Addr
  d_wpool : FuncData
  F_wpool : Fun K "_law_pool" "_law_pool" s_wpool a_wpool d_wpool
  b_wpool : Binds K d_wpool ["script"] []
  m_wpool : mg "_law_pool" = some (.ref a_wpool)
  a_wdraw : Addr
  d_wdraw : FuncData
  F_wdraw : Fun K "_law_draw" "_law_draw" s_wdraw a_wdraw d_wdraw
  b_wdraw : Binds K d_wdraw ["pool", "many"] []
  m_wdraw : mg "_law_draw" = some (.ref a_wdraw)
  a_wpick : Addr
  d_wpick : FuncData
  F_wpick : Fun K "_law_pick" "_law_pick" s_wpick a_wpick d_wpick
  b_wpick : Binds K d_wpick ["pool", "things"] []
  m_wpick : mg "_law_pick" = some (.ref a_wpick)
  a_wcolumns : Addr
  d_wcolumns : FuncData
  F_wcolumns : Fun K "_law_columns" "_law_columns" s_wcolumns a_wcolumns d_wcolumns
  b_wcolumns : Binds K d_wcolumns ["rows", "letters"] []
  m_wcolumns : mg "_law_columns" = some (.ref a_wcolumns)
  a_wlead : Addr
  d_wlead : FuncData
  F_wlead : Fun K "_law_lead" "_law_lead" s_wlead a_wlead d_wlead
  b_wlead : Binds K d_wlead ["spec", "standing", "column"] []
  m_wlead : mg "_law_lead" = some (.ref a_wlead)
  a_wcolumn_at : Addr
  d_wcolumn_at : FuncData
  F_wcolumn_at : Fun K "_law_column_at" "_law_column_at" s_wcolumn_at a_wcolumn_at d_wcolumn_at
  b_wcolumn_at : Binds K d_wcolumn_at ["words", "place"] []
  m_wcolumn_at : mg "_law_column_at" = some (.ref a_wcolumn_at)
  a_wanswer : Addr
  d_wanswer : FuncData
  F_wanswer : Fun K "_law_answer" "_law_answer" s_wanswer a_wanswer d_wanswer
  b_wanswer : Binds K d_wanswer ["spec", "words"] []
  m_wanswer : mg "_law_answer" = some (.ref a_wanswer)
  a_wby_rows : Addr
  d_wby_rows : FuncData
  F_wby_rows : Fun K "_law_by_rows" "_law_by_rows" s_wby_rows a_wby_rows d_wby_rows
  b_wby_rows : Binds K d_wby_rows ["pool", "rows", "letters"] []
  m_wby_rows : mg "_law_by_rows" = some (.ref a_wby_rows)
  a_wdrawn_table : Addr
  d_wdrawn_table : FuncData
  F_wdrawn_table : Fun K "_law_drawn_table" "_law_drawn_table" s_wdrawn_table a_wdrawn_table d_wdrawn_table
  b_wdrawn_table : Binds K d_wdrawn_table ["pool", "rows", "letters", "many", "plain"] []
  m_wdrawn_table : mg "_law_drawn_table" = some (.ref a_wdrawn_table)
  a_wfirst_signs : Addr
  d_wfirst_signs : FuncData
  F_wfirst_signs : Fun K "_law_first_signs" "_law_first_signs" s_wfirst_signs a_wfirst_signs d_wfirst_signs
  b_wfirst_signs : Binds K d_wfirst_signs ["pool", "rows", "letters"] []
  m_wfirst_signs : mg "_law_first_signs" = some (.ref a_wfirst_signs)
  a_wcompared : Addr
  d_wcompared : FuncData
  F_wcompared : Fun K "_law_compared" "_law_compared" s_wcompared a_wcompared d_wcompared
  b_wcompared : Binds K d_wcompared ["pool", "rows", "letters"] []
  m_wcompared : mg "_law_compared" = some (.ref a_wcompared)
  a_wspec : Addr
  d_wspec : FuncData
  F_wspec : Fun K "_law_spec" "_law_spec" s_wspec a_wspec d_wspec
  b_wspec : Binds K d_wspec ["pool", "most_rows"] []
  m_wspec : mg "_law_spec" = some (.ref a_wspec)
  a_wquestion : Addr
  d_wquestion : FuncData
  F_wquestion : Fun K "_law_question" "_law_question" s_wquestion a_wquestion d_wquestion
  b_wquestion : Binds K d_wquestion ["spec"] []
  m_wquestion : mg "_law_question" = some (.ref a_wquestion)
  a_wdrawn_words : Addr
  d_wdrawn_words : FuncData
  F_wdrawn_words : Fun K "_law_drawn_words" "_law_drawn_words" s_wdrawn_words a_wdrawn_words d_wdrawn_words
  b_wdrawn_words : Binds K d_wdrawn_words ["pool", "rows", "letters", "most"] []
  m_wdrawn_words : mg "_law_drawn_words" = some (.ref a_wdrawn_words)
  a_law : Addr
  d_law : FuncData
  F_law : Fun K "law" "law" s_law a_law d_law
  b_law : Binds K d_law ["script"] []
  m_law : mg "law" = some (.ref a_law)
  C_Question : Addr
  cl_Question : Cls K C_Question
  mC_Question : mg "Question" = some (.ref C_Question)
  M_Question : Mk K C_Question a_Question_init
  n_Question_rows : NoAttr K C_Question "rows"
  n_Question_letters : NoAttr K C_Question "letters"
  n_Question_table : NoAttr K C_Question "table"
  n_Question_kept : NoAttr K C_Question "kept"
  k_GONE : mg "GONE" = some (.str "-" t_GONE)
  k_LEAST_ROWS : mg "LEAST_ROWS" = some (.int 2 t_LEAST_ROWS)
  k_LETTERS : mg "LETTERS" = some (.str "abc" t_LETTERS)
  k_MOST_LETTERS : mg "MOST_LETTERS" = some (.int 2 t_MOST_LETTERS)
  k_MOST_ROWS : mg "MOST_ROWS" = some (.int 4 t_MOST_ROWS)
  k_MOST_STANDINGS : mg "MOST_STANDINGS" = some (.int 8 t_MOST_STANDINGS)
  b_abs : mg "abs" = none
  b_all : mg "all" = none
  b_bool : mg "bool" = none
  b_enumerate : mg "enumerate" = none
  b_int : mg "int" = none
  b_isinstance : mg "isinstance" = none
  b_len : mg "len" = none
  b_max : mg "max" = none
  b_range : mg "range" = none
  b_str : mg "str" = none
  b_tuple : mg "tuple" = none
end My
namespace My
open PySem PySem.Spec PyProof.Rows L2 DL
def sp_is_integer : DSp := sp1 fun d h P => ∃ i, d = .int i ∧ P (.bl true) h
section
variable {P : Program} {w : World} {K : PySem.W.Frag} {mg : Str → Option Value} {base : Heap}
theorem ok_is_integer (T : Txt K mg) : DFn P w K mg base 1 T.a_is_integer T.d_is_integer ["thing"] sp_is_integer := by
  refine dfn1 T.F_is_integer sc_is_integer rfl (fun cdv A outer s H E hr => ⟨_, (dss_one (ds_ret (de_and (de_callB call_dIsi (by rfl) T.b_isinstance (by decide +kernel) (da_cons (de_var 0) (da_cons (de_gTy (n := "int") (by rfl) T.b_int (by decide +kernel)) da_nil))) (de_one (de_not (de_callB call_dIsi (by rfl) T.b_isinstance (by decide +kernel) (da_cons (de_var 0) (da_cons (de_gTy (n := "bool") (by rfl) T.b_bool (by decide +kernel)) da_nil)))))))), fun p0 h Q q => ?_⟩)
  rw [show dstart ["thing"] [p0] = [some p0] from rfl]
  obtain ⟨i, rfl, q⟩ := q
  walk_at "dgo"
  exact ⟨true, kit_int_int, false, kit_int_bool, Wk.of q⟩
end
end My
namespace My
open PySem PySem.Spec PyProof.Rows L2 DL
def sp_is_within : DSp := sp3 fun t l m h P => ∃ i j k, t = .int i ∧ l = .int j ∧ m = .int k ∧ P (.bl (decide (j ≤ i) && decide (i ≤ k))) h
section
variable {P : Program} {w : World} {K : PySem.W.Frag} {mg : Str → Option Value} {base : Heap}
theorem ok_is_within (T : Txt K mg) : DFn P w K mg base 2 T.a_is_within T.d_is_within ["thing", "least", "most"] sp_is_within := by
  refine dfn3 T.F_is_within sc_is_within rfl (fun cdv A outer s H E hr => ⟨_, (dss_one (ds_ret (de_and (de_call (ok_is_integer T) (hr.mono (by decide)) (by rfl) T.m_is_integer T.F_is_integer.kp T.b_is_integer (da_cons (de_var 0) da_nil)) (de_one (de_chain op_dLe op_dLe (de_var 1) (de_var 0) (de_var 2)))))), fun p0 p1 p2 h Q q => ?_⟩)
  rw [show dstart ["thing", "least", "most"] [p0, p1, p2] = [some p0, some p1, some p2] from rfl]
  obtain ⟨i, j, k, rfl, rfl, rfl, q⟩ := q
  walk_at "dgo"
  refine ⟨i, rfl, ?_⟩
  walk_at "dgo"
  cases e : decide (j ≤ i) <;> rw [e] at q <;> walk_at "dgo"
  · exact Wk.of q
  · exact Wk.of q
end
end My
namespace My
open PySem PySem.Spec PyProof.Rows L2 DL
def sp_is_pair : DSp := sp1 fun t h P => ∃ ds, t = .tup ds ∧ P (.bl (decide (ds.length = 2))) h
section
variable {P : Program} {w : World} {K : PySem.W.Frag} {mg : Str → Option Value} {base : Heap}
theorem ok_is_pair (T : Txt K mg) : DFn P w K mg base 1 T.a_is_pair T.d_is_pair ["thing"] sp_is_pair := by
  refine dfn1 T.F_is_pair sc_is_pair rfl (fun cdv A outer s H E hr => ⟨_, (dss_one (ds_ret (de_and (de_callB call_dIsi (by rfl) T.b_isinstance (by decide +kernel) (da_cons (de_var 0) (da_cons (de_gTy (n := "tuple") (by rfl) T.b_tuple (by decide +kernel)) da_nil))) (de_one (de_cmp op_dEq (de_callB call_dLen (by rfl) T.b_len (by decide +kernel) (da_cons (de_var 0) da_nil)) de_int (nomark _)))))), fun p0 h Q q => ?_⟩)
  rw [show dstart ["thing"] [p0] = [some p0] from rfl]
  obtain ⟨ds, rfl, q⟩ := q
  walk_at "dgo"
  refine ⟨true, kit_tuple_tuple, ?_⟩
  walk_at "dgo"
  rw [show decide ((ds.length : Int) = 2) = decide (ds.length = 2) by rw [decide_eq_decide]; omega]
  exact Wk.of q
end
end My
namespace My
open PySem PySem.Spec PyProof.Rows L2 DL
def sp_is_string_of : DSp := sp2 fun t s h P => ∃ x y : Str, t = .str x ∧ s = .str y ∧ P (.bl (x.cps.toList.all fun c => decide (c ∈ y.cps.toList))) h
section
variable {P : Program} {w : World} {K : PySem.W.Frag} {mg : Str → Option Value} {base : Heap}
theorem ok_is_string_of (T : Txt K mg) : DFn P w K mg base 1 T.a_is_string_of T.d_is_string_of ["thing", "signs"] sp_is_string_of := by
  refine dfn2 T.F_is_string_of sc_is_string_of rfl (fun cdv A outer s H E hr => ⟨_, (dss_cons (ds_if (dt_not (dt_val (de_callB call_dIsi (by rfl) T.b_isinstance (by decide +kernel) (da_cons (de_var 0) (da_cons (de_gTy (n := "str") (by rfl) T.b_str (by decide +kernel)) da_nil)))))
  (dss_one (ds_ret de_bl))
  dss_nil)
  (dss_cons (ds_for PassesOwn.never rfl (di_str (de_var 0)) (dg_name (i := 2) sc_is_string_of.nd rfl (by first | exact Or.inl rfl | exact Or.inr rfl))
  (dss_one (ds_if (dt_cmp (op_dNotIn hr.units) (de_var 2) (de_var 1) (by rfl))
  (dss_one (ds_ret de_bl))
  dss_nil)))
  (dss_one (ds_ret de_bl)))), fun p0 p1 h Q q => ?_⟩)
  rw [show dstart ["thing", "signs", "sign"] [p0, p1] = [some p0, some p1, none] from rfl]
  obtain ⟨x, y, rfl, rfl, q⟩ := q
  walk_at "dgo"
  refine ⟨true, kit_str_str, ?_⟩
  walk_at "dgo"
  unfold DL.signs
  generalize x.cps.toList = cs at q
  have loop : ∀ (v : Option D), forGo (gNm 2) (sIf (dTest (dOp dNotIn (dVar 2) (dVar 1))) (sRet (dC (D.bl false))) sNext) (fun x => True)
      { nx := sRet (dC (D.bl true)) (ends Q), rt := Wk Q } (cs.map fun c => .str ⟨#[c]⟩) [some (D.str x), some (D.str y), v] h := by
    induction cs with
    | nil =>
      intro v
      refine ⟨trivial, ?_⟩
      walk_at "dgo"
      exact Wk.of q
    | cons c cs ih =>
      intro v
      refine ⟨trivial, ?_⟩
      walk_at "dgo"
      rw [inStr_one]
      rw [List.all_cons] at q
      cases e : decide (c ∈ y.cps.toList) <;> rw [e] at q
      · walk_at "dgo"
        exact Wk.of q
      · walk_at "dgo"
        exact ih (by rw [Bool.true_and] at q; exact q) _
  exact loop none
end
end My
namespace My
open PySem PySem.Spec PyProof.Rows L2 DL
theorem cut_abc : ∀ l : Nat, 1 ≤ l → l ≤ 2 → (cutS ("abc" : Str) none (some (l : Int))).cps.toList = (sg l).drop 1 := by
  intro l h1 h2
  rcases (show l = 1 ∨ l = 2 by omega) with rfl | rfl <;> decide +kernel
theorem abc_len : ("abc" : Str).length ≤ sizeLine := by decide +kernel
def sp_is_letters : DSp := sp2 fun t m h P => ∃ (x : Str) (l : Nat), t = .str x ∧ m = nD l ∧ 1 ≤ l ∧ l ≤ 2 ∧ P (.bl (x.cps.toList.all fun c => decide (c ∈ (sg l).drop 1))) h
section
variable {P : Program} {w : World} {K : PySem.W.Frag} {mg : Str → Option Value} {base : Heap}
theorem ok_is_letters (T : Txt K mg) : DFn P w K mg base 2 T.a_is_letters T.d_is_letters ["thing", "letters"] sp_is_letters := by
  refine dfn2 T.F_is_letters sc_is_letters rfl (fun cdv A outer s H E hr => ⟨_, (dss_one (ds_ret (de_call (ok_is_string_of T) (hr.mono (by decide)) (by rfl) T.m_is_string_of T.F_is_string_of.kp T.b_is_string_of (da_cons (de_var 0) (da_cons (de_sl (de_gStr (by rfl) T.k_LETTERS) do_none (do_some (de_var 1))) da_nil))))), fun p0 p1 h Q q => ?_⟩)
  rw [show dstart ["thing", "letters"] [p0, p1] = [some p0, some p1] from rfl]
  obtain ⟨x, l, rfl, rfl, l1, l2, q⟩ := q
  walk_at "dgo"
  refine ⟨abc_len, x, _, rfl, rfl, ?_⟩
  rw [cut_abc l l1 l2]
  exact Wk.of q
end
end My
namespace My
open PySem PySem.Spec PyProof.Rows L2 DL
theorem abc_signs : ∀ l : Nat, 1 ≤ l → l ≤ 2 → DL.signs (("-" : Str) ++ cutS ("abc" : Str) none (some (l : Int))) = (sg l).map sgD := by
  intro l h1 h2
  have e : (("-" : Str) ++ cutS ("abc" : Str) none (some (l : Int))).cps.toList = sg l := by
    rcases (show l = 1 ∨ l = 2 by omega) with rfl | rfl <;> decide +kernel
  unfold DL.signs
  rw [e]
  rfl
theorem abc_cut_len : ∀ l : Nat, 1 ≤ l → l ≤ 2 → ("-" : Str).length + (cutS ("abc" : Str) none (some (l : Int))).length ≤ sizeLine := by
  intro l h1 h2
  rcases (show l = 1 ∨ l = 2 by omega) with rfl | rfl <;> decide +kernel
theorem enc_snoc (c : List Nat) (s : Nat) : D.tup (c.map sgD ++ [sgD s]) = encC (c ++ [s]) := by
  unfold encC; rw [List.map_append]; rfl
theorem cols_small {l r : Nat} (hl : l ≤ 2) (hr : r ≤ 4) : (cols r (sg l)).length ≤ 81 := by
  rw [cols_len, sg_len hl]
  exact Nat.le_trans (Nat.pow_le_pow_left (show l + 1 ≤ 3 by omega) r) (Nat.pow_le_pow_right (by decide) hr)
theorem line81 : 81 ≤ sizeLine := by rw [sizeLine_eq]; decide
/-- how the next columns come of the ones so far -/
theorem cols_step (r l : Nat) : (((cols r (sg l)).map encC).flatMap fun x => ((sg l).map sgD).map fun y => match x with
    | .tup xs => D.tup (xs ++ [y])
    | _ => .non) = (cols (r + 1) (sg l)).map encC := by
  show _ = (List.flatMap _ (cols r (sg l))).map encC
  rw [List.flatMap_map, List.map_flatMap]
  congr 1
  funext c
  rw [List.map_map, List.map_map]
  congr 1
  funext s
  exact enc_snoc c s
def sp_columns : DSp := sp2 fun a b h P => ∃ r l : Nat, a = nD r ∧ b = nD l ∧ r ≤ 4 ∧ 1 ≤ l ∧ l ≤ 2 ∧ ∀ p, h p = none → P (.ref p) (put h p (.lst ((cols r (sg l)).map encC)))
section
variable {P : Program} {w : World} {K : PySem.W.Frag} {mg : Str → Option Value} {base : Heap}
theorem ok_columns (T : Txt K mg) : DFn P w K mg base 1 T.a_columns T.d_columns ["rows", "letters"] sp_columns := by
  refine dfn2 T.F_columns sc_columns rfl (fun cdv A outer s H E hr => ⟨_, (dss_cons (ds_set (i := 2) sc_columns.nd rfl (by first | exact Or.inl rfl | exact Or.inr rfl) (de_lst (da_cons (de_tup da_nil) da_nil)))
  (dss_cons (ds_for PassesOwn.never rfl (di_range1 (by rfl) T.b_range (da_cons (de_var 0) da_nil)) (dg_name (i := 3) sc_columns.nd rfl (by first | exact Or.inl rfl | exact Or.inr rfl))
  (dss_one (ds_setLc2 (i := 2) (own := [("column", 4), ("sign", 5)]) (vs1 := [5]) rfl sc_columns.nd rfl rfl (sw_true rfl rfl rfl (by decide +kernel)) (di_list (de_var 2)) (blkOk_by (N := ["rows", "letters", "found", "row", "column", "sign"]) (sc := defScope s_columns) (own := [("column", 4), ("sign", 5)]) (by decide +kernel)) (by decide) (by decide) (by decide) (fun _ _ _ _ _ => (dg_name (i := 4) sc_columns.nd rfl (by first | exact Or.inl rfl | exact Or.inr rfl))) (fun _ _ _ _ _ => dts_nil) (fun _ _ _ _ _ => (di_str (de_op op_dAdd (de_gStr (by rfl) T.k_GONE) (de_sl (de_gStr (by rfl) T.k_LETTERS) do_none (do_some (de_var 1)))))) (fun _ _ _ _ _ => (dg_name (i := 5) sc_columns.nd rfl (by first | exact Or.inl rfl | exact Or.inr rfl))) (fun _ _ _ _ _ => dts_nil) (fun _ _ _ _ _ => (de_op op_dAdd (de_var 4) (de_tup (da_cons (de_var 5) da_nil)))))))
  (dss_one (ds_ret (de_var 2))))), fun p0 p1 h Q q => ?_⟩)
  rw [show dstart ["rows", "letters", "found", "row", "column", "sign"] [p0, p1] = [some p0, some p1, none, none, none, none] from rfl]
  obtain ⟨r, l, rfl, rfl, hr4, l1, l2, q⟩ := q
  walk_at "dgo"
  refine ⟨Nat.zero_le _, by decide +kernel, fun p np => ⟨by omega, ?_⟩⟩
  refine for_nums (fun i σ h' => ∃ (p : Addr) (h0 : DH) (v4 : Option D), σ = [some (nD r), some (nD l), some (.ref p), v4, none, none] ∧ Sub h h0 ∧ h0 p = none ∧ Sub h h' ∧ h' p = some (.lst ((cols i (sg l)).map encC))) ⟨p, h, none, rfl, Sub.refl h, np, Sub.new np, put_same⟩ ?_ ?_
  · rintro i σ h' hi ⟨p, h0, v4, rfl, s0, n0, s1, e1⟩ nx hnx
    walk_at "dgo"
    rw [lstAt_eq e1]
    intro L nL
    have nLp : p ≠ L := ne_none e1 nL
    refine lc2Go_map (fun _ => (sg l).map sgD) (fun x y => match x with
      | .tup xs => D.tup (xs ++ [y])
      | _ => .non) _ [] (fun acc => by rw [put_ne nLp]; exact e1) (fun x hx acc R hR => ?_) (fun x hx y hy acc R hR => ?_) ?_ ?_
    · walk_at "dgo"
      refine ⟨abc_len, abc_cut_len l l1 l2, ?_⟩
      rw [abc_signs l l1 l2]
      exact hR
    · obtain ⟨c, hc, rfl⟩ := List.mem_map.mp hx
      have hcl := (cols_mem.mp hc).1
      walk_at "dgo"
      refine ⟨by decide +kernel, ?_⟩
      unfold encC
      walk_at "dgo"
      refine ⟨?_, hR⟩
      rw [List.length_map, sizeLine_eq]
      omega
    · rw [cols_step, List.length_map, List.length_nil, Nat.zero_add]
      exact Nat.le_trans (cols_small l2 (by omega)) line81
    · rw [cols_step, List.nil_append]
      exact hnx _ _ ⟨L, h', _, rfl, s1, nL, s1.trans (Sub.new nL), put_same⟩
  · rintro σ h' ⟨p, h0, v4, rfl, s0, n0, s1, e1⟩
    walk_at "dgo"
    have e2 : ((↑r : Int)).toNat = r := by omega
    rw [e2] at e1
    exact Wk.to (s1.into e1) (q p (s0.free n0))
end
end My
namespace My
open PySem PySem.Spec PyProof.Rows L2 DL
def sp_readings : DSp := sp2 fun a b h P => ∃ r l : Nat, a = nD r ∧ b = nD l ∧ r ≤ 4 ∧ 1 ≤ l ∧ l ≤ 2 ∧ ∀ p, h p = none → P (.ref p) (put h p (.lst (((cols r (sg l)).map encC).tail)))
section
variable {P : Program} {w : World} {K : PySem.W.Frag} {mg : Str → Option Value} {base : Heap}
theorem ok_readings (T : Txt K mg) : DFn P w K mg base 2 T.a_readings T.d_readings ["rows", "letters"] sp_readings := by
  refine dfn2 T.F_readings sc_readings rfl (fun cdv A outer s H E hr => ⟨_, (dss_one (ds_ret (de_sl (de_call (ok_columns T) (hr.mono (by decide)) (by rfl) T.m_columns T.F_columns.kp T.b_columns (da_cons (de_var 0) (da_cons (de_var 1) da_nil))) (do_some de_int) do_none))), fun p0 p1 h Q q => ?_⟩)
  rw [show dstart ["rows", "letters"] [p0, p1] = [some p0, some p1] from rfl]
  obtain ⟨r, l, rfl, rfl, hr4, l1, l2, q⟩ := q
  walk_at "dgo"
  refine ⟨r, l, rfl, rfl, hr4, l1, l2, fun p np => ?_⟩
  walk_at "dgo"
  rw [lstAt_eq put_same, cut_one]
  intro p2 np2
  exact Wk.to ((Sub.new np).trans (Sub.new np2) |>.into put_same) (q p2 ((Sub.new np).free np2))
end
end My
namespace My
open PySem PySem.Spec PyProof.Rows L2 DL
def sp_is_standing : DSp := sp3 fun a b c h P => ∃ (e : Bool × List Nat) (m wd : Nat), a = rowD e ∧ b = nD m ∧ c = nD wd ∧ e.2.length = wd ∧ wd ≤ 80 ∧ (∀ n ∈ e.2, n < m) ∧ P (.bl true) h
section
variable {P : Program} {w : World} {K : PySem.W.Frag} {mg : Str → Option Value} {base : Heap}
theorem ok_is_standing (T : Txt K mg) : DFn P w K mg base 3 T.a_is_standing T.d_is_standing ["thing", "many", "wide"] sp_is_standing := by
  refine dfn3 T.F_is_standing sc_is_standing rfl (fun cdv A outer s H E hr => ⟨_, (dss_cons (ds_if (dw_or (dt_not (dt_val (de_call (ok_is_pair T) (hr.mono (by decide)) (by rfl) T.m_is_pair T.F_is_pair.kp T.b_is_pair (da_cons (de_var 0) da_nil)))) (dw_or (dt_not (dt_val (de_callB call_dIsi (by rfl) T.b_isinstance (by decide +kernel) (da_cons (de_ix (de_var 0) de_int) (da_cons (de_gTy (n := "bool") (by rfl) T.b_bool (by decide +kernel)) da_nil))))) (dw_or1 (dt_not (dt_val (de_callB call_dIsi (by rfl) T.b_isinstance (by decide +kernel) (da_cons (de_ix (de_var 0) de_int) (da_cons (de_gTy (n := "tuple") (by rfl) T.b_tuple (by decide +kernel)) da_nil)))))))).dt
  (dss_one (ds_ret de_bl))
  dss_nil)
  (dss_one (ds_ret (de_and (de_cmp op_dEq (de_callB call_dLen (by rfl) T.b_len (by decide +kernel) (da_cons (de_ix (de_var 0) de_int) da_nil)) (de_var 2) (nomark _)) (de_one (de_callB (call_dAll rfl) (by rfl) T.b_all (by decide +kernel) (da_cons (de_lc (own := [("later", 3)]) rfl sc_is_standing.nd (di_tup (de_ix (de_var 0) de_int)) (blkOk_by (N := ["thing", "many", "wide", "later"]) (sc := defScope s_is_standing) (own := [("later", 3)]) (by decide +kernel)) (by decide) (fun _ _ _ _ _ => (dg_name (i := 3) sc_is_standing.nd rfl (by first | exact Or.inl rfl | exact Or.inr rfl))) (fun _ _ _ _ _ => dts_nil) (fun _ _ _ _ _ => (de_call (ok_is_within T) (hr.mono (by decide)) (by rfl) T.m_is_within T.F_is_within.kp T.b_is_within (da_cons (de_var 3) (da_cons de_int (da_cons (de_op op_dSub (de_var 1) de_int) da_nil)))))) da_nil))))))), fun p0 p1 p2 h Q q => ?_⟩)
  rw [show dstart ["thing", "many", "wide", "later"] [p0, p1, p2] = [some p0, some p1, some p2, none] from rfl]
  obtain ⟨e, m, wd, rfl, rfl, rfl, hl, hw, hm, q⟩ := q
  have line81 := line81
  unfold rowD
  walk_at "dgo"
  refine ⟨_, rfl, ?_⟩
  walk_at "dgo"
  refine ⟨true, kit_bool_bool, ?_⟩
  walk_at "dgo"
  refine ⟨true, kit_tuple_tuple, ?_⟩
  walk_at "dgo"
  rw [List.length_map, decide_eq_true (by rw [hl])]
  walk_at "dgo"
  intro L nL
  refine lc_pure (fun _ => .bl true) _ (fun _ => trivial) (fun x hx acc R hR => ?_) (by rw [List.length_map, hl]; omega) ?_
  · obtain ⟨n, hn, rfl⟩ := List.mem_map.mp hx
    have := hm n hn
    walk_at "dgo"
    refine ⟨_, _, _, rfl, rfl, rfl, ?_⟩
    rw [decide_eq_true (by omega), decide_eq_true (by omega)]
    exact hR
  · refine lstAt_of put_same ⟨List.replicate wd true, ?_, ?_⟩
    · rw [show (e.2.map nD).map (fun _ => D.bl true) = (List.replicate wd true).map D.bl by
        rw [List.map_map, List.map_replicate, ← hl]
        exact List.map_const' ..]
      exact allB_map _
    · rw [show (List.replicate wd true).all id = true from List.all_eq_true.mpr fun b hb => (List.eq_of_mem_replicate hb)]
      exact Wk.to (Sub.new nL) q
end
end My
namespace My
open PySem PySem.Spec PyProof.Rows L2 DL
theorem bd {a b : Prop} [Decidable a] [Decidable b] (h1 : a) (h2 : b) : (decide a && decide b) = true := by rw [decide_eq_true h1, decide_eq_true h2]; rfl
/-- the fields of a question -/
def qFs (S : Qs) (k : Addr) : List (Str × D) := [("rows", nD S.r), ("letters", nD S.l), ("table", tblD S.tbl), ("kept", .ref k)]
theorem nrl : ¬ (("rows" : Str) = "letters") := by decide +kernel
theorem nrt : ¬ (("rows" : Str) = "table") := by decide +kernel
theorem nrk : ¬ (("rows" : Str) = "kept") := by decide +kernel
theorem nlt : ¬ (("letters" : Str) = "table") := by decide +kernel
theorem nlk : ¬ (("letters" : Str) = "kept") := by decide +kernel
theorem ntk : ¬ (("table" : Str) = "kept") := by decide +kernel
def sp_Question_init (C : Addr) : DSp := sp4 fun a b c d h P => ∃ (q : Addr) (S : Qs), a = .ref q ∧ b = nD S.r ∧ c = nD S.l ∧ d = tblD S.tbl ∧ S.Ok ∧ h q = some (.ins C []) ∧
  ∀ k h', h k = none → k ≠ q → h' q = some (.ins C (qFs S k)) → h' k = some (.dct []) → (∀ a o, a ≠ q → h a = some o → h' a = some o) → P .non h'
section
variable {P : Program} {w : World} {K : PySem.W.Frag} {mg : Str → Option Value} {base : Heap}
theorem ok_Question_init (T : Txt K mg) : DFn P w K mg base 4 T.a_Question_init T.d_Question_init ["self", "rows", "letters", "table"] (sp_Question_init T.C_Question) := by
  refine dfn4 T.F_Question_init sc_Question_init rfl (fun cdv A outer s H E hr => ⟨_, (dss_cons (ds_if (dt_not (dt_val (de_call (ok_is_within T) (hr.mono (by decide)) (by rfl) T.m_is_within T.F_is_within.kp T.b_is_within (da_cons (de_var 1) (da_cons (de_gInt (by rfl) T.k_LEAST_ROWS) (da_cons (de_gInt (by rfl) T.k_MOST_ROWS) da_nil))))))
  (dss_one ds_never)
  dss_nil)
  (dss_cons (ds_if (dt_not (dt_val (de_call (ok_is_within T) (hr.mono (by decide)) (by rfl) T.m_is_within T.F_is_within.kp T.b_is_within (da_cons (de_var 2) (da_cons de_int (da_cons (de_gInt (by rfl) T.k_MOST_LETTERS) da_nil))))))
  (dss_one ds_never)
  dss_nil)
  (dss_cons (ds_if (dw_or (dt_not (dt_val (de_callB call_dIsi (by rfl) T.b_isinstance (by decide +kernel) (da_cons (de_var 3) (da_cons (de_gTy (n := "tuple") (by rfl) T.b_tuple (by decide +kernel)) da_nil))))) (dw_or1 (dt_not (dt_chain op_dLe op_dLe de_int (de_callB call_dLen (by rfl) T.b_len (by decide +kernel) (da_cons (de_var 3) da_nil)) (de_gInt (by rfl) T.k_MOST_STANDINGS))))).dt
  (dss_one ds_never)
  dss_nil)
  (dss_cons (ds_set (i := 4) sc_Question_init.nd rfl (by first | exact Or.inl rfl | exact Or.inr rfl) (de_callB call_dLen (by rfl) T.b_len (by decide +kernel) (da_cons (de_call (ok_readings T) (hr.mono (by decide)) (by rfl) T.m_readings T.F_readings.kp T.b_readings (da_cons (de_var 1) (da_cons (de_var 2) da_nil))) da_nil)))
  (dss_cons (ds_if (dt_not (dt_val (de_callB (call_dAll rfl) (by rfl) T.b_all (by decide +kernel) (da_cons (de_lc (own := [("item", 5)]) rfl sc_Question_init.nd (di_tup (de_var 3)) (blkOk_by (N := ["self", "rows", "letters", "table", "wide", "item"]) (sc := defScope s_Question_init) (own := [("item", 5)]) (by decide +kernel)) (by decide) (fun _ _ _ _ _ => (dg_name (i := 5) sc_Question_init.nd rfl (by first | exact Or.inl rfl | exact Or.inr rfl))) (fun _ _ _ _ _ => dts_nil) (fun _ _ _ _ _ => (de_call (ok_is_standing T) (hr.mono (by decide)) (by rfl) T.m_is_standing T.F_is_standing.kp T.b_is_standing (da_cons (de_var 5) (da_cons (de_callB call_dLen (by rfl) T.b_len (by decide +kernel) (da_cons (de_var 3) da_nil)) (da_cons (de_var 4) da_nil)))))) da_nil))))
  (dss_one ds_never)
  dss_nil)
  (dss_cons (ds_fld (de_var 0) (de_var 1))
  (dss_cons (ds_fld (de_var 0) (de_var 2))
  (dss_cons (ds_fld (de_var 0) (de_var 3))
  (dss_one (ds_fld (de_var 0) de_dnew)))))))))), fun p0 p1 p2 p3 h Q q => ?_⟩)
  rw [show dstart ["self", "rows", "letters", "table", "wide", "item"] [p0, p1, p2, p3] = [some p0, some p1, some p2, some p3, none, none] from rfl]
  obtain ⟨o, S, rfl, rfl, rfl, rfl, ok, ho, q⟩ := q
  obtain ⟨r2, r4, l1, l2, t1, t8, row⟩ := ok
  have wide : (((cols S.r (sg S.l)).map encC).tail).length = (S.l + 1) ^ S.r - 1 := by rw [List.length_tail, List.length_map, cols_len, sg_len l2]
  have wide2 : (S.l + 1) ^ S.r - 1 ≤ 80 := by
    have := cols_small l2 r4
    rw [cols_len, sg_len l2] at this
    omega
  unfold tblD
  walk_at "dgo"
  refine ⟨_, _, _, rfl, rfl, rfl, ?_⟩
  rw [show (decide ((2 : Int) ≤ (S.r : Int)) && decide ((S.r : Int) ≤ 4)) = true from bd (by omega) (by omega)]
  walk_at "dgo"
  refine ⟨_, _, _, rfl, rfl, rfl, ?_⟩
  rw [show (decide ((1 : Int) ≤ (S.l : Int)) && decide ((S.l : Int) ≤ 2)) = true from bd (by omega) (by omega)]
  walk_at "dgo"
  refine ⟨true, kit_tuple_tuple, ?_⟩
  walk_at "dgo"
  rw [List.length_map, show decide ((1 : Int) ≤ (S.tbl.length : Int)) = true from decide_eq_true (by omega), show decide ((S.tbl.length : Int) ≤ 8) = true from decide_eq_true (by omega)]
  walk_at "dgo"
  refine ⟨S.r, S.l, rfl, rfl, r4, l1, l2, fun p np => ?_⟩
  have no : p ≠ o := (ne_none ho np).symm
  walk_at "dgo"
  rw [lstAt_eq put_same, wide]
  intro L nL
  have nLp : L ≠ p := fun z => by rw [z, put_same] at nL; cases nL
  have nLo : L ≠ o := fun z => by rw [z, put_ne no.symm, ho] at nL; cases nL
  refine lc_pure (fun _ => .bl true) _ (fun _ => trivial) (fun x hx acc R hR => ?_) ?_ ?_
  · obtain ⟨e, he, rfl⟩ := List.mem_map.mp hx
    obtain ⟨e1, e2⟩ := row e he
    walk_at "dgo"
    rw [List.length_map]
    exact ⟨e, S.tbl.length, _, rfl, rfl, rfl, e1, wide2, e2, hR⟩
  · rw [List.length_map]
    have := line81
    omega
  refine lstAt_of put_same ⟨List.replicate S.tbl.length true, ?_, ?_⟩
  · rw [show (S.tbl.map rowD).map (fun _ => D.bl true) = (List.replicate S.tbl.length true).map D.bl by
      rw [List.map_map, List.map_replicate]
      exact List.map_const' ..]
    exact allB_map _
  rw [show (List.replicate S.tbl.length true).all id = true from List.all_eq_true.mpr fun b hb => (List.eq_of_mem_replicate hb)]
  walk_at "dgo"
  refine insAt_of (C := T.C_Question) (fs := []) (by rw [put_ne nLo.symm, put_ne no.symm]; exact ho) ⟨⟨T.cl_Question, T.n_Question_rows⟩, by decide, ?_⟩
  refine insAt_of put_same ⟨⟨T.cl_Question, T.n_Question_letters⟩, by simp [putA], ?_⟩
  refine insAt_of put_same ⟨⟨T.cl_Question, T.n_Question_table⟩, by simp [putA, if_neg nrl], ?_⟩
  intro k nk
  have nko : k ≠ o := fun z => by rw [z, put_same] at nk; cases nk
  rw [put_ne nko, put_ne nko, put_ne nko] at nk
  refine insAt_of (by rw [put_ne nko.symm]; exact put_same) ⟨⟨T.cl_Question, T.n_Question_kept⟩, by simp [putA, if_neg nrl, if_neg nrt, if_neg nlt], ?_⟩
  refine Wk.of (q k _ ?_ nko ?_ ?_ fun a u ha hu => ?_)
  · by_cases z : k = L
    · rw [z]; exact ((Sub.new np).free nL)
    · rw [put_ne z] at nk
      exact (Sub.new np).free nk
  · rw [put_same]
    simp only [putA, if_neg nrl, if_neg nrt, if_neg nlt, if_neg nrk, if_neg nlk, if_neg ntk]
    rfl
  · rw [put_ne nko, put_same]
  · have hk : a ≠ k := fun z => by
      by_cases y : k = L
      · rw [z, y] at hu; rw [(Sub.new np).free nL] at hu; cases hu
      · rw [put_ne y] at nk; rw [z, (Sub.new np).free nk] at hu; cases hu
    have hL : a ≠ L := fun z => by rw [z, (Sub.new np).free nL] at hu; cases hu
    have hp : a ≠ p := fun z => by rw [z, np] at hu; cases hu
    rw [put_ne ha, put_ne hk, put_ne ha, put_ne ha, put_ne ha, put_ne hL, put_ne hp]
    exact hu
end
end My
namespace My
open PySem PySem.Spec PyProof.Rows L2 DL
theorem lk_rows (S : Qs) (k : Addr) : (qFs S k).lookup ("rows" : Str) = some (nD S.r) := lkS (by decide +kernel)
theorem lk_letters (S : Qs) (k : Addr) : (qFs S k).lookup ("letters" : Str) = some (nD S.l) := by
  unfold qFs
  rw [lkN (by decide +kernel)]
  exact lkS (by decide +kernel)
theorem lk_table (S : Qs) (k : Addr) : (qFs S k).lookup ("table" : Str) = some (tblD S.tbl) := by
  unfold qFs
  rw [lkN (by decide +kernel), lkN (by decide +kernel)]
  exact lkS (by decide +kernel)
theorem lk_kept (S : Qs) (k : Addr) : (qFs S k).lookup ("kept" : Str) = some (D.ref k) := by
  unfold qFs
  rw [lkN (by decide +kernel), lkN (by decide +kernel), lkN (by decide +kernel)]
  exact lkS (by decide +kernel)
/-- the key, the value of a numbered item -/
def kfN : D → D
  | .tup [_, y] => y
  | _ => .non
def vfN : D → D
  | .tup [i, _] => i
  | _ => .non
/-- the numbers of the readings -/
def numTbl (r l : Nat) : List (D × D) := ((cols r (sg l)).tail).zipIdx.map fun p => (encC p.1, nD p.2)
theorem numTbl_at (r l i : Nat) : (numTbl r l)[i]? = (((cols r (sg l)).tail)[i]?).map fun c => (encC c, nD i) := by
  unfold numTbl
  rw [List.getElem?_map, List.getElem?_zipIdx]
  cases ((cols r (sg l)).tail)[i]? with
  | none => rfl
  | some c => simp
theorem numTbl_made (r l : Nat) : (DL.numbered (((cols r (sg l)).map encC).tail)).map (fun x => (kfN x, vfN x)) = numTbl r l := by
  refine List.ext_getElem? fun i => ?_
  rw [numTbl_at, List.getElem?_map]
  cases e : (DL.numbered (((cols r (sg l)).map encC).tail))[i]? with
  | none =>
    have h := List.getElem?_eq_none_iff.mp e
    rw [numbered_length, List.length_tail, List.length_map, ← List.length_tail] at h
    rw [List.getElem?_eq_none h]
    rfl
  | some d =>
    obtain ⟨x, ex, rfl⟩ := numbered_get e
    rw [← List.map_tail, List.getElem?_map] at ex
    obtain ⟨c, ec, rfl⟩ := Option.map_eq_some_iff.mp ex
    rw [ec]
    rfl
theorem tail_at {l : Nat} (hl : l ≤ 2) {r i : Nat} {c : List Nat} (h : ((cols r (sg l)).tail)[i]? = some c) : i + 1 = val (l + 1) c := by
  rw [List.getElem?_tail] at h
  exact cols_val hl h
theorem numTbl_keys {l : Nat} (hl : l ≤ 2) (r : Nat) : ((numTbl r l).map (·.1)).Nodup := by
  refine List.pairwise_iff_getElem.mpr fun i j hi hj hij e => ?_
  have len : (numTbl r l).length = ((cols r (sg l)).tail).length := by unfold numTbl; rw [List.length_map, List.length_zipIdx]
  rw [List.length_map] at hi hj
  have ei : (numTbl r l)[i]? = some ((numTbl r l)[i]) := List.getElem?_eq_getElem hi
  have ej : (numTbl r l)[j]? = some ((numTbl r l)[j]) := List.getElem?_eq_getElem hj
  rw [List.getElem_map, List.getElem_map] at e
  rw [len] at hi hj
  have e1 := List.getElem?_eq_getElem hi
  have e2 := List.getElem?_eq_getElem hj
  rw [numTbl_at, e1] at ei
  rw [numTbl_at, e2] at ej
  rw [← Option.some.inj ei, ← Option.some.inj ej] at e
  have e4 := encC_inj e
  have h1 := tail_at hl e1
  have h2 := tail_at hl e2
  rw [e4, ← h2] at h1
  omega
theorem keysOf_signs : ∀ c : List Nat, keysOf (c.map sgD) = some (c.map fun x => NestedKey.text ⟨#[x]⟩)
  | [] => rfl
  | x :: r => by
    rw [List.map_cons, keysOf, keysOf_signs r]
    rfl
theorem depth_signs : ∀ c : List Nat, NestedKey.depthAll (c.map fun x => NestedKey.text ⟨#[x]⟩) = 0
  | [] => rfl
  | x :: r => by
    rw [List.map_cons, NestedKey.depthAll, depth_signs r]
    rfl
theorem key_col (c : List Nat) : isKey (encC c) := by
  refine ⟨.tup (c.map fun x => NestedKey.text ⟨#[x]⟩), ?_, ?_⟩
  · unfold encC
    rw [keyOf, keysOf_signs]
    rfl
  · rw [NestedKey.depth, depth_signs]
    decide
/-- a question stands at o, its kept things at k -/
structure QAt (C : Addr) (h : DH) (o k : Addr) (S : Qs) : Prop where
  ok : S.Ok
  ins : h o = some (.ins C (qFs S k))
  ne : k ≠ o
  kept : h k = some (.dct []) ∨ ∃ d, d ≠ k ∧ h k = some (.dct [(.str "numbers", .ref d)]) ∧ h d = some (.dct (numTbl S.r S.l))
def sp_numbers_of (C : Addr) : DSp := sp1 fun a h P => ∃ (o k : Addr) (S : Qs), a = .ref o ∧ QAt C h o k S ∧ ∀ d h', d ≠ k → h' d = some (.dct (numTbl S.r S.l)) → QAt C h' o k S → But k h h' → P (.ref d) h'
section
variable {P : Program} {w : World} {K : PySem.W.Frag} {mg : Str → Option Value} {base : Heap}
theorem ok_numbers_of (T : Txt K mg) : DFn P w K mg base 3 T.a_numbers_of T.d_numbers_of ["question"] (sp_numbers_of T.C_Question) := by
  refine dfn1 T.F_numbers_of sc_numbers_of rfl (fun cdv A outer s H E hr => ⟨_, (dss_cons (ds_if (dt_cmp (op_dNotIn hr.units) de_str (de_fld (de_var 0)) (by rfl))
  (dss_cons (ds_set (i := 1) sc_numbers_of.nd rfl (by first | exact Or.inl rfl | exact Or.inr rfl) (de_call (ok_readings T) (hr.mono (by decide)) (by rfl) T.m_readings T.F_readings.kp T.b_readings (da_cons (de_fld (de_var 0)) (da_cons (de_fld (de_var 0)) da_nil))))
  (dss_one (ds_asg (de_dc (own := [("number", 2), ("reading", 3)]) hr.units rfl sc_numbers_of.nd (di_enum (by rfl) T.b_enumerate (da_cons (de_var 1) da_nil)) (blkOk_by (N := ["question", "listed", "number", "reading"]) (sc := defScope s_numbers_of) (own := [("number", 2), ("reading", 3)]) (by decide +kernel)) (by decide) (fun _ _ _ _ _ => (dg_tup (n := 2) rfl (dgs_cons (dg_name (i := 2) sc_numbers_of.nd rfl (by first | exact Or.inl rfl | exact Or.inr rfl)) (dgs_cons (dg_name (i := 3) sc_numbers_of.nd rfl (by first | exact Or.inl rfl | exact Or.inr rfl)) dgs_nil)))) (fun _ _ _ _ _ => dts_nil) (fun _ _ _ _ _ => (de_var 3)) (fun _ _ _ _ _ => (de_var 2))) (dg_sub (de_fld (de_var 0)) de_str (set_dD hr.units)))))
  dss_nil)
  (dss_one (ds_ret (de_ixD hr.units (de_fld (de_var 0)) de_str)))), fun p0 h Q q => ?_⟩)
  rw [show dstart ["question", "listed", "number", "reading"] [p0] = [some p0, none, none, none] from rfl]
  obtain ⟨o, k, S, rfl, qa, q⟩ := q
  obtain ⟨ok, ho, nko, kept⟩ := id qa
  have hlen : ((cols S.r (sg S.l)).tail).length ≤ 80 := by
    rw [List.length_tail]
    have := cols_small ok.l2 ok.r4
    omega
  walk_at "dgo"
  refine fld_at ho ⟨T.cl_Question, T.n_Question_kept⟩ (lk_kept S k) ?_
  rcases kept with e | ⟨d, nd, e, ed⟩
  · refine dctAt_of e ⟨key_str _, ?_⟩
    rw [dlook_nil]
    walk_at "dgo"
    refine fld_at ho ⟨T.cl_Question, T.n_Question_rows⟩ (lk_rows S k) (fld_at ho ⟨T.cl_Question, T.n_Question_letters⟩ (lk_letters S k) ?_)
    refine ⟨S.r, S.l, rfl, rfl, ok.r4, ok.l1, ok.l2, fun p np => ?_⟩
    have nop : o ≠ p := ne_none ho np
    have nkp : k ≠ p := ne_none e np
    refine lstAt_of put_same fun L nL => ?_
    have nLp : p ≠ L := ne_none put_same nL
    have nLo : o ≠ L := fun z => by rw [← z, put_ne nop, ho] at nL; cases nL
    have nLk : k ≠ L := fun z => by rw [← z, put_ne nkp, e] at nL; cases nL
    refine dcGo_map kfN vfN _ [] (fun acc => by rw [put_ne nLp]; exact put_same) (fun x hx acc R hR => ?_) (fun x hx => ?_) ?_ ?_ ?_ (mono_tp (mono_cn (mono_nm _) (mono_cn (mono_nm _) mono_nl)))
    · obtain ⟨i, hi⟩ := List.mem_iff_getElem?.mp hx
      obtain ⟨y, ey, rfl⟩ := numbered_get hi
      walk_at "dgo"
      exact hR
    · obtain ⟨i, hi⟩ := List.mem_iff_getElem?.mp hx
      obtain ⟨y, ey, rfl⟩ := numbered_get hi
      rw [← List.map_tail, List.getElem?_map] at ey
      obtain ⟨c, ec, rfl⟩ := Option.map_eq_some_iff.mp ey
      exact key_col c
    · rw [numbered_length, List.length_nil, Nat.zero_add, ← List.map_tail, List.length_map]
      have := line81
      omega
    · rw [List.map_nil, List.nil_append]
      have z := numTbl_keys ok.l2 S.r
      rw [← numTbl_made, List.map_map] at z
      exact z
    · rw [List.nil_append, numTbl_made]
      refine fld_at (by rw [put_ne nLo, put_ne nop]; exact ho) ⟨T.cl_Question, T.n_Question_kept⟩ (lk_kept S k) ?_
      refine dctAt_of (by rw [put_ne nLk, put_ne nkp]; exact e) ⟨⟨key_str _, by decide +kernel⟩, ?_⟩
      refine fld_at (by rw [put_ne nko.symm, put_ne nLo, put_ne nop]; exact ho) ⟨T.cl_Question, T.n_Question_kept⟩ (lk_kept S k) ?_
      refine dctAt_of put_same ⟨key_str _, ?_⟩
      rw [dput_new (dlook_nil _), List.nil_append, dlook_cons, if_pos rfl]
      refine Wk.of (q L _ nLk.symm ?_ ⟨ok, ?_, nko, .inr ⟨L, nLk.symm, put_same, ?_⟩⟩ fun a u ha hu => ?_)
      · rw [put_ne nLk.symm, put_same]
      · rw [put_ne nko.symm, put_ne nLo, put_ne nop]; exact ho
      · rw [put_ne nLk.symm, put_same]
      · have hp : a ≠ p := ne_none hu np
        have hL : a ≠ L := fun z => by rw [← z, put_ne hp, hu] at nL; cases nL
        rw [put_ne ha, put_ne hL, put_ne hp]
        exact hu
  · refine dctAt_of e ⟨key_str _, ?_⟩
    rw [dlook_cons, if_pos rfl]
    walk_at "dgo"
    refine fld_at ho ⟨T.cl_Question, T.n_Question_kept⟩ (lk_kept S k) ?_
    refine dctAt_of e ⟨key_str _, ?_⟩
    rw [dlook_cons, if_pos rfl]
    exact Wk.of (q d h nd ed qa (But.refl _ _))
end
end My
namespace My
open PySem PySem.Spec PyProof.Rows L2 DL
theorem numTbl_look {l : Nat} (hl : l ≤ 2) {r : Nat} {c : List Nat} (hc : c ∈ cols r (sg l)) : dlook (numTbl r l) (encC c) = if val (l + 1) c = 0 then none else some (nD (val (l + 1) c - 1)) := by
  have hat := cols_at hl hc
  by_cases hv : val (l + 1) c = 0
  · rw [if_pos hv]
    refine dlook_none fun z => ?_
    obtain ⟨p, hp, e⟩ := List.mem_map.mp z
    obtain ⟨i, hi⟩ := List.mem_iff_getElem?.mp hp
    rw [numTbl_at] at hi
    obtain ⟨c2, e2, rfl⟩ := Option.map_eq_some_iff.mp hi
    have e3 := encC_inj e
    have := tail_at hl e2
    rw [e3] at this
    omega
  · rw [if_neg hv]
    refine dlook_at (i := val (l + 1) c - 1) (numTbl_keys hl r) ?_
    rw [numTbl_at, List.getElem?_tail, show val (l + 1) c - 1 + 1 = val (l + 1) c by omega, hat]
    rfl
theorem tbl_at (t : List (Bool × List Nat)) {st : Nat} (h : st < t.length) : atI (t.map rowD) (st : Int) = some (rowD (t.getD st (false, []))) := by
  rw [atI_n, List.getElem?_map, List.getD_eq_getElem?_getD, List.getElem?_eq_getElem h]
  rfl
theorem next_at (ns : List Nat) {v : Nat} (h : v < ns.length) : atI (ns.map nD) (v : Int) = some (nD (ns.getD v 0)) := by
  rw [atI_n, List.getElem?_map, List.getD_eq_getElem?_getD, List.getElem?_eq_getElem h]
  rfl
theorem row_of {S : Qs} (ok : S.Ok) {st : Nat} (h : st < S.tbl.length) : (S.tbl.getD st (false, [])).2.length = (S.l + 1) ^ S.r - 1 := by
  rw [List.getD_eq_getElem?_getD, List.getElem?_eq_getElem h]
  exact (ok.row _ (List.getElem_mem h)).1
def sp_read (C : Addr) : DSp := sp3 fun a b c h P => ∃ (o k : Addr) (S : Qs) (st : Nat) (col : List Nat), a = .ref o ∧ b = nD st ∧ c = encC col ∧ QAt C h o k S ∧ st < S.tbl.length ∧ col ∈ cols S.r (sg S.l) ∧
  ∀ h', QAt C h' o k S → But k h h' → P (nD (lead S st col)) h'
section
variable {P : Program} {w : World} {K : PySem.W.Frag} {mg : Str → Option Value} {base : Heap}
theorem ok_read (T : Txt K mg) : DFn P w K mg base 4 T.a_read T.d_read ["question", "standing", "reading"] (sp_read T.C_Question) := by
  refine dfn3 T.F_read sc_read rfl (fun cdv A outer s H E hr => ⟨_, (dss_cons (ds_set (i := 3) sc_read.nd rfl (by first | exact Or.inl rfl | exact Or.inr rfl) (de_md PySem.F.slot_dict_get PySem.F.type_dict_get (mt_dGet hr.units) (de_call (ok_numbers_of T) (hr.mono (by decide)) (by rfl) T.m_numbers_of T.F_numbers_of.kp T.b_numbers_of (da_cons (de_var 0) da_nil)) (da_cons (de_var 2) da_nil)))
  (dss_one (ds_ret (de_ifExp (dt_cmp op_dIs (de_var 3) de_non (nomark _)) (de_var 1) (de_ix (de_ix (de_ix (de_fld (de_var 0)) (de_var 1)) de_int) (de_var 3)))))), fun p0 p1 p2 h Q q => ?_⟩)
  rw [show dstart ["question", "standing", "reading", "number"] [p0, p1, p2] = [some p0, some p1, some p2, none] from rfl]
  obtain ⟨o, k, S, st, col, rfl, rfl, rfl, qa, hst, hc, q⟩ := q
  walk_at "dgo"
  refine ⟨o, k, S, rfl, qa, fun d h' nd ed qa2 bt => ?_⟩
  walk_at "dgo"
  refine dctAt_of ed (dctAt_of ed (And.intro (key_col col) ?_))
  rw [numTbl_look qa.ok.l2 hc]
  have qq := q h' qa2 bt
  unfold lead at qq
  by_cases hv : val (S.l + 1) col = 0
  · rw [if_pos hv] at qq ⊢
    walk_at "dgo"
    exact Wk.of qq
  · rw [if_neg hv] at qq ⊢
    walk_at "dgo"
    refine fld_at qa2.ins ⟨T.cl_Question, T.n_Question_table⟩ (lk_table S k) ?_
    unfold tblD
    walk_at "dgo"
    refine oAt_of (tbl_at S.tbl hst) ?_
    unfold rowD
    walk_at "dgo"
    refine oAt_of (next_at _ ?_) (Wk.of qq)
    rw [row_of qa.ok hst]
    have := val_lt qa.ok.l2 hc
    omega
end
end My
namespace My
open PySem PySem.Spec PyProof.Rows L2 DL
/-- words in order: so many, of these letters, none too long -/
structure Wds (r l : Nat) (ws : List Str) : Prop where
  len : ws.length = r
  ok : WordsOk l ws
  short : ∀ z ∈ ws, z.length ≤ 60
theorem line60 : 60 ≤ sizeLine := by rw [sizeLine_eq]; decide
theorem col_sign (z : Str) (pl : Nat) (h : pl < z.length) : atI z.cps.toList (pl : Int) = some (z.cps.toList.getD pl 45) := by
  have h' : pl < z.cps.toList.length := by rw [Array.length_toList]; exact h
  rw [atI_n, List.getD_eq_getElem?_getD, List.getElem?_eq_getElem h']
  rfl
theorem col_gone (z : Str) (pl : Nat) (h : ¬ pl < z.length) : z.cps.toList.getD pl 45 = 45 := by
  have h' : z.cps.toList.length ≤ pl := by rw [Array.length_toList]; exact Nat.le_of_not_lt h
  rw [List.getD_eq_getElem?_getD, List.getElem?_eq_none h']
  rfl
def wcF (pl : Nat) : D → D
  | .str z => sgD (z.cps.toList.getD pl 45)
  | _ => .non
theorem wcF_map (ws : List Str) (pl : Nat) : (ws.map D.str).map (wcF pl) = (colAt ws pl).map sgD := by
  unfold colAt
  rw [List.map_map, List.map_map]
  rfl
def sp_column_at : DSp := sp2 fun a b h P => ∃ (ws : List Str) (pl : Nat), a = wordsD ws ∧ b = nD pl ∧ ws.length ≤ 80 ∧ (∀ z ∈ ws, z.length ≤ 60) ∧ P (encC (colAt ws pl)) h
section
variable {P : Program} {w : World} {K : PySem.W.Frag} {mg : Str → Option Value} {base : Heap}
theorem ok_column_at (T : Txt K mg) : DFn P w K mg base 1 T.a_column_at T.d_column_at ["words", "place"] sp_column_at := by
  refine dfn2 T.F_column_at sc_column_at rfl (fun cdv A outer s H E hr => ⟨_, (dss_one (ds_ret (de_callTy call_dTupOf (by rfl) T.b_tuple (by decide +kernel) (da_cons (de_lc (own := [("word", 2)]) rfl sc_column_at.nd (di_tup (de_var 0)) (blkOk_by (N := ["words", "place", "word"]) (sc := defScope s_column_at) (own := [("word", 2)]) (by decide +kernel)) (by decide) (fun _ _ _ _ _ => (dg_name (i := 2) sc_column_at.nd rfl (by first | exact Or.inl rfl | exact Or.inr rfl))) (fun _ _ _ _ _ => dts_nil) (fun _ _ _ _ _ => (de_ifExp (dt_cmp op_dLt (de_var 1) (de_callB call_dLen (by rfl) T.b_len (by decide +kernel) (da_cons (de_var 2) da_nil)) (nomark _)) (de_ix (de_var 2) (de_var 1)) (de_gStr (by rfl) T.k_GONE)))) da_nil)))), fun p0 p1 h Q q => ?_⟩)
  rw [show dstart ["words", "place", "word"] [p0, p1] = [some p0, some p1, none] from rfl]
  obtain ⟨ws, pl, rfl, rfl, hl, hz, q⟩ := q
  have line81 := line81
  have line60 := line60
  unfold wordsD
  walk_at "dgo"
  intro L nL
  refine lc_pure (wcF pl) _ (fun _ => trivial) (fun x hx acc R hR => ?_) (by rw [List.length_map]; omega) ?_
  · obtain ⟨z, hz1, rfl⟩ := List.mem_map.mp hx
    have h60 := hz z hz1
    walk_at "dgo"
    refine ⟨by omega, ?_⟩
    by_cases hp : pl < z.length
    · rw [decide_eq_true (by omega)]
      walk_at "dgo"
      refine ⟨by omega, ?_⟩
      rw [col_sign z pl hp]
      exact hR
    · rw [decide_eq_false (by omega)]
      walk_at "dgo"
      unfold wcF at hR
      dsimp only at hR
      rw [col_gone z pl hp] at hR
      exact hR
  · refine lstAt_of put_same ?_
    rw [wcF_map]
    exact Wk.to (Sub.new nL) q
end
end My
namespace My
open PySem PySem.Spec PyProof.Rows L2 DL
theorem foldl_maxI : ∀ (r : List Nat) (x : Nat), (r.map fun n : Nat => (n : Int)).foldl max (x : Int) = ((r.foldl max x : Nat) : Int)
  | [], _ => rfl
  | y :: r, x => by
    rw [List.map_cons, List.foldl_cons, List.foldl_cons, show max (x : Int) (y : Int) = ((max x y : Nat) : Int) by omega]
    exact foldl_maxI r (max x y)
theorem maxL_len (ws : List Str) : maxL (ws.map fun z => (z.length : Int)) = (maxLen ws : Int) := by
  cases ws with
  | nil => rfl
  | cons z ws =>
    unfold maxLen maxL
    rw [List.map_cons, List.map_cons, List.foldl_cons, Nat.zero_max, ← foldl_maxI, List.map_map]
    rfl
theorem foldl_max_le {m : Nat} : ∀ (r : List Nat) (x : Nat), x ≤ m → (∀ y ∈ r, y ≤ m) → r.foldl max x ≤ m
  | [], _, h, _ => h
  | y :: r, x, h, h2 => by
    rw [List.foldl_cons]
    exact foldl_max_le r _ (Nat.max_le.mpr ⟨h, h2 y List.mem_cons_self⟩) fun z hz => h2 z (List.mem_cons_of_mem _ hz)
theorem maxLen_le {ws : List Str} {m : Nat} (h : ∀ z ∈ ws, z.length ≤ m) : maxLen ws ≤ m := by
  refine foldl_max_le _ _ (Nat.zero_le _) fun y hy => ?_
  obtain ⟨z, hz, rfl⟩ := List.mem_map.mp hy
  exact h z hz
def lenF : D → D
  | .str z => .int z.length
  | _ => .non
theorem lenF_map (ws : List Str) : (ws.map D.str).map lenF = (ws.map fun z => (z.length : Int)).map D.int := by
  rw [List.map_map, List.map_map]
  rfl
def sp_longest : DSp := sp1 fun a h P => ∃ (ws : List Str), a = wordsD ws ∧ 1 ≤ ws.length ∧ ws.length ≤ 80 ∧ (∀ z ∈ ws, z.length ≤ 60) ∧ P (nD (maxLen ws)) h
section
variable {P : Program} {w : World} {K : PySem.W.Frag} {mg : Str → Option Value} {base : Heap}
theorem ok_longest (T : Txt K mg) : DFn P w K mg base 1 T.a_longest T.d_longest ["words"] sp_longest := by
  refine dfn1 T.F_longest sc_longest rfl (fun cdv A outer s H E hr => ⟨_, (dss_one (ds_ret (de_callB (call_dMax rfl) (by rfl) T.b_max (by decide +kernel) (da_cons (de_lc (own := [("word", 1)]) rfl sc_longest.nd (di_tup (de_var 0)) (blkOk_by (N := ["words", "word"]) (sc := defScope s_longest) (own := [("word", 1)]) (by decide +kernel)) (by decide) (fun _ _ _ _ _ => (dg_name (i := 1) sc_longest.nd rfl (by first | exact Or.inl rfl | exact Or.inr rfl))) (fun _ _ _ _ _ => dts_nil) (fun _ _ _ _ _ => (de_callB call_dLen (by rfl) T.b_len (by decide +kernel) (da_cons (de_var 1) da_nil)))) da_nil)))), fun p0 h Q q => ?_⟩)
  rw [show dstart ["words", "word"] [p0] = [some p0, none] from rfl]
  obtain ⟨ws, rfl, h1, hl, hz, q⟩ := q
  have line81 := line81
  have line60 := line60
  unfold wordsD
  walk_at "dgo"
  intro L nL
  refine lc_pure lenF _ (fun _ => trivial) (fun x hx acc R hR => ?_) (by rw [List.length_map]; omega) ?_
  · obtain ⟨z, hz1, rfl⟩ := List.mem_map.mp hx
    have h60 := hz z hz1
    walk_at "dgo"
    exact ⟨by omega, hR⟩
  · rw [lenF_map]
    refine lstAt_of put_same ⟨_, allI_map _, by rw [List.length_map]; omega, ?_⟩
    rw [maxL_len]
    exact Wk.to (Sub.new nL) q
end
end My
namespace My
open PySem PySem.Spec PyProof.Rows L2 DL
def sp_are_words : DSp := sp3 fun a b c h P => ∃ (r l : Nat) (ws : List Str), a = nD r ∧ b = nD l ∧ c = wordsD ws ∧ Wds r l ws ∧ r ≤ 4 ∧ 1 ≤ l ∧ l ≤ 2 ∧ P (.bl true) h
section
variable {P : Program} {w : World} {K : PySem.W.Frag} {mg : Str → Option Value} {base : Heap}
theorem ok_are_words (T : Txt K mg) : DFn P w K mg base 3 T.a_are_words T.d_are_words ["many", "letters", "thing"] sp_are_words := by
  refine dfn3 T.F_are_words sc_are_words rfl (fun cdv A outer s H E hr => ⟨_, (dss_one (ds_ret (de_and (de_callB call_dIsi (by rfl) T.b_isinstance (by decide +kernel) (da_cons (de_var 2) (da_cons (de_gTy (n := "tuple") (by rfl) T.b_tuple (by decide +kernel)) da_nil))) (de_and (de_cmp op_dEq (de_callB call_dLen (by rfl) T.b_len (by decide +kernel) (da_cons (de_var 2) da_nil)) (de_var 0) (nomark _)) (de_one (de_callB (call_dAll rfl) (by rfl) T.b_all (by decide +kernel) (da_cons (de_lc (own := [("word", 3)]) rfl sc_are_words.nd (di_tup (de_var 2)) (blkOk_by (N := ["many", "letters", "thing", "word"]) (sc := defScope s_are_words) (own := [("word", 3)]) (by decide +kernel)) (by decide) (fun _ _ _ _ _ => (dg_name (i := 3) sc_are_words.nd rfl (by first | exact Or.inl rfl | exact Or.inr rfl))) (fun _ _ _ _ _ => dts_nil) (fun _ _ _ _ _ => (de_call (ok_is_letters T) (hr.mono (by decide)) (by rfl) T.m_is_letters T.F_is_letters.kp T.b_is_letters (da_cons (de_var 3) (da_cons (de_var 1) da_nil))))) da_nil))))))), fun p0 p1 p2 h Q q => ?_⟩)
  rw [show dstart ["many", "letters", "thing", "word"] [p0, p1, p2] = [some p0, some p1, some p2, none] from rfl]
  obtain ⟨r, l, ws, rfl, rfl, rfl, wd, r4, l1, l2, q⟩ := q
  have line81 := line81
  obtain ⟨w1, w2, w3⟩ := wd
  unfold wordsD
  walk_at "dgo"
  refine ⟨true, kit_tuple_tuple, ?_⟩
  walk_at "dgo"
  rw [List.length_map, decide_eq_true (by omega)]
  walk_at "dgo"
  intro L nL
  refine lc_pure (fun _ => .bl true) _ (fun _ => trivial) (fun x hx acc R hR => ?_) (by rw [List.length_map]; omega) ?_
  · obtain ⟨z, hz1, rfl⟩ := List.mem_map.mp hx
    walk_at "dgo"
    refine ⟨z, l, rfl, rfl, l1, l2, ?_⟩
    rw [show (z.cps.toList.all fun c => decide (c ∈ (sg l).drop 1)) = true from List.all_eq_true.mpr fun c hc => decide_eq_true (w2 z hz1 c hc)]
    exact hR
  · refine lstAt_of put_same ⟨List.replicate ws.length true, ?_, ?_⟩
    · rw [show (ws.map D.str).map (fun _ => D.bl true) = (List.replicate ws.length true).map D.bl by
        rw [List.map_map, List.map_replicate]
        exact List.map_const' ..]
      exact allB_map _
    · rw [show (List.replicate ws.length true).all id = true from List.all_eq_true.mpr fun b hb => (List.eq_of_mem_replicate hb)]
      exact Wk.to (Sub.new nL) q
end
end My
namespace My
open PySem PySem.Spec PyProof.Rows L2 DL
def sp_check_words : DSp := sp3 fun a b c h P => ∃ (r l : Nat) (ws : List Str), a = nD r ∧ b = nD l ∧ c = wordsD ws ∧ Wds r l ws ∧ r ≤ 4 ∧ 1 ≤ l ∧ l ≤ 2 ∧ P .non h
section
variable {P : Program} {w : World} {K : PySem.W.Frag} {mg : Str → Option Value} {base : Heap}
theorem ok_check_words (T : Txt K mg) : DFn P w K mg base 4 T.a_check_words T.d_check_words ["many", "letters", "thing"] sp_check_words := by
  refine dfn3 T.F_check_words sc_check_words rfl (fun cdv A outer s H E hr => ⟨_, (dss_one (ds_if (dt_not (dt_val (de_call (ok_are_words T) (hr.mono (by decide)) (by rfl) T.m_are_words T.F_are_words.kp T.b_are_words (da_cons (de_var 0) (da_cons (de_var 1) (da_cons (de_var 2) da_nil))))))
  (dss_one ds_never)
  dss_nil)), fun p0 p1 p2 h Q q => ?_⟩)
  rw [show dstart ["many", "letters", "thing"] [p0, p1, p2] = [some p0, some p1, some p2] from rfl]
  obtain ⟨r, l, ws, rfl, rfl, rfl, wd, r4, l1, l2, q⟩ := q
  walk_at "dgo"
  refine ⟨r, l, ws, rfl, rfl, rfl, wd, r4, l1, l2, ?_⟩
  walk_at "dgo"
  exact Wk.of q
end
end My
namespace My
open PySem PySem.Spec PyProof.Rows L2 DL
def sp_standing_with (C : Addr) : DSp := sp2 fun a b h P => ∃ (o k : Addr) (S : Qs) (ws : List Str), a = .ref o ∧ b = wordsD ws ∧ QAt C h o k S ∧ Wds S.r S.l ws ∧
  ∀ h', QAt C h' o k S → But k h h' → P (nD (stAt S ws (maxLen ws))) h'
section
variable {P : Program} {w : World} {K : PySem.W.Frag} {mg : Str → Option Value} {base : Heap}
theorem ok_standing_with (T : Txt K mg) : DFn P w K mg base 5 T.a_standing_with T.d_standing_with ["question", "words"] (sp_standing_with T.C_Question) := by
  refine dfn2 T.F_standing_with sc_standing_with rfl (fun cdv A outer s H E hr => ⟨_, (dss_cons (ds_set (i := 2) sc_standing_with.nd rfl (by first | exact Or.inl rfl | exact Or.inr rfl) de_int)
  (dss_cons (ds_for PassesOwn.never rfl (di_range1 (by rfl) T.b_range (da_cons (de_call (ok_longest T) (hr.mono (by decide)) (by rfl) T.m_longest T.F_longest.kp T.b_longest (da_cons (de_var 1) da_nil)) da_nil)) (dg_name (i := 3) sc_standing_with.nd rfl (by first | exact Or.inl rfl | exact Or.inr rfl))
  (dss_one (ds_set (i := 2) sc_standing_with.nd rfl (by first | exact Or.inl rfl | exact Or.inr rfl) (de_call (ok_read T) (hr.mono (by decide)) (by rfl) T.m_read T.F_read.kp T.b_read (da_cons (de_var 0) (da_cons (de_var 2) (da_cons (de_call (ok_column_at T) (hr.mono (by decide)) (by rfl) T.m_column_at T.F_column_at.kp T.b_column_at (da_cons (de_var 1) (da_cons (de_var 3) da_nil))) da_nil)))))))
  (dss_one (ds_ret (de_var 2))))), fun p0 p1 h Q q => ?_⟩)
  rw [show dstart ["question", "words", "found", "place"] [p0, p1] = [some p0, some p1, none, none] from rfl]
  obtain ⟨o, k, S, ws, rfl, rfl, qa, wd, q⟩ := q
  obtain ⟨w1, w2, w3⟩ := id wd
  have ok := qa.ok
  have := ok.r2
  have := ok.r4
  walk_at "dgo"
  refine ⟨ws, rfl, by omega, by omega, w3, ?_⟩
  walk_at "dgo"
  have hm := maxLen_le w3
  refine ⟨by omega, ?_⟩
  rw [Int.toNat_natCast]
  refine for_nums (fun i σ h' => ∃ v3 : Option D, σ = [some (.ref o), some (wordsD ws), some (nD (stAt S ws i)), v3] ∧ QAt T.C_Question h' o k S ∧ But k h h') ⟨none, rfl, qa, But.refl _ _⟩ ?_ ?_
  · rintro i σ h' hi ⟨v3, rfl, qa2, bt⟩ nx hnx
    walk_at "dgo"
    refine ⟨ws, i, rfl, by rw [Int.zero_add], by omega, w3, ?_⟩
    refine ⟨o, k, S, stAt S ws i, colAt ws i, rfl, rfl, rfl, qa2, stAt_lt ok w1 w2 i, by rw [← w1]; exact colAt_mem w2 i, fun h3 qa3 bt3 => ?_⟩
    walk_at "dgo"
    exact hnx _ _ ⟨_, rfl, qa3, bt.trans bt3⟩
  · rintro σ h' ⟨v3, rfl, qa2, bt⟩
    walk_at "dgo"
    exact Wk.of (q h' qa2 bt)
end
end My
namespace My
open PySem PySem.Spec PyProof.Rows L2 DL
def sp_answer_to (C : Addr) : DSp := sp2 fun a b h P => ∃ (o k : Addr) (S : Qs) (ws : List Str), a = .ref o ∧ b = wordsD ws ∧ QAt C h o k S ∧ Wds S.r S.l ws ∧
  ∀ h', QAt C h' o k S → But k h h' → P (.bl (ansOf S ws)) h'
section
variable {P : Program} {w : World} {K : PySem.W.Frag} {mg : Str → Option Value} {base : Heap}
theorem ok_answer_to (T : Txt K mg) : DFn P w K mg base 6 T.a_answer_to T.d_answer_to ["question", "words"] (sp_answer_to T.C_Question) := by
  refine dfn2 T.F_answer_to sc_answer_to rfl (fun cdv A outer s H E hr => ⟨_, (dss_one (ds_ret (de_ix (de_ix (de_fld (de_var 0)) (de_call (ok_standing_with T) (hr.mono (by decide)) (by rfl) T.m_standing_with T.F_standing_with.kp T.b_standing_with (da_cons (de_var 0) (da_cons (de_var 1) da_nil)))) de_int))), fun p0 p1 h Q q => ?_⟩)
  rw [show dstart ["question", "words"] [p0, p1] = [some p0, some p1] from rfl]
  obtain ⟨o, k, S, ws, rfl, rfl, qa, wd, q⟩ := q
  walk_at "dgo"
  refine fld_at qa.ins ⟨T.cl_Question, T.n_Question_table⟩ (lk_table S k) ?_
  refine ⟨o, k, S, ws, rfl, rfl, qa, wd, fun h' qa2 bt => ?_⟩
  unfold tblD
  walk_at "dgo"
  refine oAt_of (tbl_at S.tbl (stAt_lt qa.ok wd.len wd.ok _)) ?_
  unfold rowD
  walk_at "dgo"
  exact Wk.of (q h' qa2 bt)
end
end My
namespace My
open PySem PySem.Spec PyProof.Rows L2 DL
def sp_answer (C : Addr) : DSp := sp_answer_to C
section
variable {P : Program} {w : World} {K : PySem.W.Frag} {mg : Str → Option Value} {base : Heap}
theorem ok_answer (T : Txt K mg) : DFn P w K mg base 7 T.a_answer T.d_answer ["question", "words"] (sp_answer T.C_Question) := by
  refine dfn2 T.F_answer sc_answer rfl (fun cdv A outer s H E hr => ⟨_, (dss_cons (ds_expr (de_call (ok_check_words T) (hr.mono (by decide)) (by rfl) T.m_check_words T.F_check_words.kp T.b_check_words (da_cons (de_fld (de_var 0)) (da_cons (de_fld (de_var 0)) (da_cons (de_var 1) da_nil)))))
  (dss_one (ds_ret (de_call (ok_answer_to T) (hr.mono (by decide)) (by rfl) T.m_answer_to T.F_answer_to.kp T.b_answer_to (da_cons (de_var 0) (da_cons (de_var 1) da_nil)))))), fun p0 p1 h Q q => ?_⟩)
  rw [show dstart ["question", "words"] [p0, p1] = [some p0, some p1] from rfl]
  obtain ⟨o, k, S, ws, rfl, rfl, qa, wd, q⟩ := q
  walk_at "dgo"
  refine fld_at qa.ins ⟨T.cl_Question, T.n_Question_rows⟩ (lk_rows S k) (fld_at qa.ins ⟨T.cl_Question, T.n_Question_letters⟩ (lk_letters S k) ?_)
  refine ⟨S.r, S.l, ws, rfl, rfl, rfl, wd, qa.ok.r4, qa.ok.l1, qa.ok.l2, ?_⟩
  walk_at "dgo"
  exact ⟨o, k, S, ws, rfl, rfl, qa, wd, fun h' qa2 bt => Wk.of (q h' qa2 bt)⟩
end
end My
namespace My
open PySem PySem.Spec PyProof.Rows L2 DL
abbrev sp_wpool : DSp := poolSp
theorem ten18 : CPow 10 18 := ⟨by decide, by decide, by decide⟩
theorem int_of {ns : List Int} {x : D} {i : Nat} (h : (ns.map D.int)[i]? = some x) : ∃ n, x = .int n := by
  rw [List.getElem?_map] at h
  obtain ⟨n, _, rfl⟩ := Option.map_eq_some_iff.mp h
  exact ⟨n, rfl⟩
section
variable {P : Program} {w : World} {K : PySem.W.Frag} {mg : Str → Option Value} {base : Heap}
theorem ok_wpool (T : Txt K mg) : DFn P w K mg base 1 T.a_wpool T.d_wpool ["script"] sp_wpool := by
  refine dfn1 T.F_wpool sc_wpool rfl (fun cdv A outer s H E hr => ⟨_, (dss_cons (ds_setLc (i := 1) (own := [("cell", 3)]) rfl sc_wpool.nd rfl rfl (sw_true rfl rfl rfl (by decide +kernel)) (di_list (de_sl (de_var 0) do_none (do_some de_int))) (blkOk_by (N := ["script", "great", "small", "cell"]) (sc := defScope s_wpool) (own := [("cell", 3)]) (by decide +kernel)) (by decide) (fun _ _ _ _ _ => (dg_name (i := 3) sc_wpool.nd rfl (by first | exact Or.inl rfl | exact Or.inr rfl))) (fun _ _ _ _ _ => (dts_one (dt_cmp op_dGe (de_callB call_dAbs (by rfl) T.b_abs (by decide +kernel) (da_cons (de_var 3) da_nil)) (de_op op_dPow de_int de_int) (nomark _)))) (fun _ _ _ _ _ => (de_callB call_dAbs (by rfl) T.b_abs (by decide +kernel) (da_cons (de_var 3) da_nil))))
  (dss_cons (ds_setLc (i := 2) (own := [("cell", 3)]) rfl sc_wpool.nd rfl rfl (sw_true rfl rfl rfl (by decide +kernel)) (di_list (de_sl (de_var 0) do_none (do_some de_int))) (blkOk_by (N := ["script", "great", "small", "cell"]) (sc := defScope s_wpool) (own := [("cell", 3)]) (by decide +kernel)) (by decide) (fun _ _ _ _ _ => (dg_name (i := 3) sc_wpool.nd rfl (by first | exact Or.inl rfl | exact Or.inr rfl))) (fun _ _ _ _ _ => (dts_one (dt_cmp op_dLt (de_callB call_dAbs (by rfl) T.b_abs (by decide +kernel) (da_cons (de_var 3) da_nil)) (de_op op_dPow de_int de_int) (nomark _)))) (fun _ _ _ _ _ => (de_op op_dMod (de_callTy call_dInt (by rfl) T.b_int (by decide +kernel) (da_cons (de_var 3) da_nil)) de_int)))
  (dss_one (ds_ret (de_lst (da_cons (de_var 1) (da_cons (de_var 2) (da_cons de_int (da_cons de_int da_nil))))))))), fun p0 h Q q => ?_⟩)
  rw [show dstart ["script", "great", "small", "cell"] [p0] = [some p0, none, none, none] from rfl]
  obtain ⟨ns, rfl, hl, q⟩ := q
  have line81 := line81
  have cut : DL.cutD (ns.map D.int) none (some 63) = (ns.take 63).map D.int := by
    rw [show (63 : Int) = ((63 : Nat) : Int) from rfl, cut_to, List.map_take]
  have small : ((ns.take 63).map D.int).length ≤ 63 := by rw [List.length_map, List.length_take]; omega
  walk_at "dgo"
  rw [cut]
  intro c nc
  refine lstAt_of put_same fun L nL => ?_
  have ncL : c ≠ L := ne_none put_same nL
  refine lc_inv (fun i acc h' => ∃ gs : List Int, acc = gs.map .int ∧ h' = put (put h c (.lst ((ns.take 63).map D.int))) L (.lst acc)) _ put_same ⟨[], rfl, rfl⟩ (fun i acc h' e z => ?_) (by omega) (fun i x acc h' hx hl eL z R R' hR hR' => ?_) (fun acc h' hl eL z => ?_)
  · obtain ⟨gs, _, rfl⟩ := z
    rw [put_ne ncL, put_same]
  · obtain ⟨n, rfl⟩ := int_of hx
    obtain ⟨gs, rfl, rfl⟩ := z
    walk_at "dgo"
    refine ⟨ten18, ?_⟩
    cases decide (((10 : Int) ^ (18 : Int).toNat) ≤ if n < 0 then -n else n) <;> walk_at "dgo"
    · exact hR' _ put_same ⟨gs, rfl, rfl⟩
    · exact hR _ _ put_same ⟨gs ++ [_], by rw [List.map_append]; rfl, by rw [put_put]⟩
  · obtain ⟨gs, rfl, rfl⟩ := z
    intro c2 nc2
    have nLc2 : L ≠ c2 := ne_none put_same nc2
    refine lstAt_of put_same fun L2 nL2 => ?_
    have nc2L2 : c2 ≠ L2 := ne_none put_same nL2
    have nLL2 : L ≠ L2 := ne_none (by rw [put_ne nLc2]; exact put_same) nL2
    refine lc_inv (fun i acc h' => ∃ ss : List Int, acc = ss.map .int ∧ h' = put (put (put (put h c (.lst ((ns.take 63).map D.int))) L (.lst (gs.map D.int))) c2 (.lst ((ns.take 63).map D.int))) L2 (.lst acc)) _ put_same ⟨[], rfl, rfl⟩ (fun i acc h' e z => ?_) (by omega) (fun i x acc h' hx hl eL z R R' hR hR' => ?_) (fun acc h' hl eL z => ?_)
    · obtain ⟨gs, _, rfl⟩ := z
      rw [put_ne nc2L2, put_same]
    · obtain ⟨n, rfl⟩ := int_of hx
      obtain ⟨ss, rfl, rfl⟩ := z
      walk_at "dgo"
      refine ⟨ten18, ?_⟩
      cases decide ((if n < 0 then -n else n) < ((10 : Int) ^ (18 : Int).toNat)) <;> walk_at "dgo"
      · exact hR' _ put_same ⟨ss, rfl, rfl⟩
      · exact ⟨by decide, hR _ _ put_same ⟨ss ++ [_], by rw [List.map_append]; rfl, by rw [put_put]⟩⟩
    · obtain ⟨ss, rfl, rfl⟩ := z
      refine ⟨by omega, fun p np => ?_⟩
      have e1 := (put_ne (o := .lst (ss.map D.int)) nLL2).trans ((put_ne (o := .lst ((ns.take 63).map D.int)) nLc2).trans (put_same (h := put h c (.lst ((ns.take 63).map D.int))) (a := L) (o := .lst (gs.map D.int))))
      have nLp : L ≠ p := ne_none e1 np
      have nL2p : L2 ≠ p := ne_none put_same np
      refine Wk.of (q p _ ⟨L, L2, gs, ss, 0, 0, put_same, ?_, ?_, nLp, nL2p, List.not_mem_nil, List.not_mem_nil, List.not_mem_nil, ?_, fun a h => by cases h⟩ ?_)
      · rw [put_ne nLp]; exact e1
      · rw [put_ne nL2p]; exact put_same
      · rw [List.length_map] at hl; omega
      · refine fun a u hu => ?_
        have h1 : a ≠ c := ne_none hu nc
        have h2 : a ≠ L := fun z => by rw [← z, put_ne h1, hu] at nL; cases nL
        have h3 : a ≠ c2 := fun z => by rw [← z, put_ne h2, put_ne h1, hu] at nc2; cases nc2
        have h4 : a ≠ L2 := fun z => by rw [← z, put_ne h3, put_ne h2, put_ne h1, hu] at nL2; cases nL2
        have h5 : a ≠ p := fun z => by rw [← z, put_ne h4, put_ne h3, put_ne h2, put_ne h1, hu] at np; cases np
        rw [put_ne h5, put_ne h4, put_ne h3, put_ne h2, put_ne h1]
        exact hu
end
end My
namespace My
open PySem PySem.Spec PyProof.Rows L2 DL
abbrev sp_wdraw : DSp := drawSp
theorem CMul.small {i j : Int} (h1 : 0 ≤ j) (h2 : j < 2147483648) : CMul i j := Or.inr ⟨by omega, by omega⟩
theorem CMul.smallL {i j : Int} (h1 : 0 ≤ i) (h2 : i < 2147483648) : CMul i j := Or.inl ⟨by omega, by omega⟩
theorem modS (a : Int) : CMul (a % 2147483647) (a % 2147483647 / 1009 + 69621) := by
  have h1 := Int.emod_nonneg a (show (2147483647 : Int) ≠ 0 by decide)
  have h2 := Int.emod_lt_of_pos a (show (0 : Int) < 2147483647 by decide)
  exact CMul.smallL h1 (by omega)
theorem modS2 (a b : Int) : CMul (a % 2147483647) (b + 40692) := by
  have h1 := Int.emod_nonneg a (show (2147483647 : Int) ≠ 0 by decide)
  have h2 := Int.emod_lt_of_pos a (show (0 : Int) < 2147483647 by decide)
  exact CMul.smallL h1 (by omega)
section
variable {P : Program} {w : World} {K : PySem.W.Frag} {mg : Str → Option Value} {base : Heap}
theorem ok_wdraw (T : Txt K mg) : DFn P w K mg base 1 T.a_wdraw T.d_wdraw ["pool", "many"] sp_wdraw := by
  refine dfn2 T.F_wdraw sc_wdraw rfl (fun cdv A outer s H E hr => ⟨_, (dss_cons (ds_if (dw_and (dt_cmp op_dLe (de_ix (de_var 0) de_int) de_int (nomark _)) (dw_and1 (dt_cmp op_dGt (de_callB call_dLen (by rfl) T.b_len (by decide +kernel) (da_cons (de_ix (de_var 0) de_int) da_nil)) de_int (nomark _)))).dt
  (dss_cons (ds_asg (de_ix (de_ix (de_var 0) de_int) de_int) (dg_sub (de_var 0) de_int set_d))
  (dss_one (ds_asg (de_sl (de_ix (de_var 0) de_int) (do_some de_int) do_none) (dg_sub (de_var 0) de_int set_d))))
  dss_nil)
  (dss_cons (ds_if (dt_cmp op_dGt (de_ix (de_var 0) de_int) de_int (nomark _))
  (dss_cons (ds_set (i := 2) sc_wdraw.nd rfl (by first | exact Or.inl rfl | exact Or.inr rfl) (de_op op_dMod (de_callTy call_dInt (by rfl) T.b_int (by decide +kernel) (da_cons (de_ix (de_var 0) de_int) da_nil)) (de_var 1)))
  (dss_cons (ds_asg (de_op op_dFdiv (de_ix (de_var 0) de_int) (de_var 1)) (dg_sub (de_var 0) de_int set_d))
  (dss_one (ds_ret (de_var 2)))))
  dss_nil)
  (dss_cons (ds_asg (de_op op_dAdd (de_ix (de_var 0) de_int) de_int) (dg_sub (de_var 0) de_int set_d))
  (dss_cons (ds_set (i := 3) sc_wdraw.nd rfl (by first | exact Or.inl rfl | exact Or.inr rfl) de_int)
  (dss_cons (ds_if (dt_cmp op_dGt (de_callB call_dLen (by rfl) T.b_len (by decide +kernel) (da_cons (de_ix (de_var 0) de_int) da_nil)) de_int (nomark _))
  (dss_one (ds_set (i := 3) sc_wdraw.nd rfl (by first | exact Or.inl rfl | exact Or.inr rfl) (de_ix (de_ix (de_var 0) de_int) (de_op op_dMod (de_callTy call_dInt (by rfl) T.b_int (by decide +kernel) (da_cons (de_ix (de_var 0) de_int) da_nil)) (de_callB call_dLen (by rfl) T.b_len (by decide +kernel) (da_cons (de_ix (de_var 0) de_int) da_nil))))))
  dss_nil)
  (dss_cons (ds_set (i := 4) sc_wdraw.nd rfl (by first | exact Or.inl rfl | exact Or.inr rfl) (de_op op_dMod (de_callTy call_dInt (by rfl) T.b_int (by decide +kernel) (da_cons (de_op op_dMul (de_op op_dAdd (de_op op_dAdd (de_var 3) (de_op op_dMul de_int (de_ix (de_var 0) de_int))) de_int) de_int) da_nil)) de_int))
  (dss_cons (ds_set (i := 4) sc_wdraw.nd rfl (by first | exact Or.inl rfl | exact Or.inr rfl) (de_op op_dMod (de_callTy call_dInt (by rfl) T.b_int (by decide +kernel) (da_cons (de_op op_dMul (de_var 4) (de_op op_dAdd (de_op op_dFdiv (de_var 4) de_int) de_int)) da_nil)) de_int))
  (dss_cons (ds_set (i := 4) sc_wdraw.nd rfl (by first | exact Or.inl rfl | exact Or.inr rfl) (de_op op_dMod (de_callTy call_dInt (by rfl) T.b_int (by decide +kernel) (da_cons (de_op op_dMul (de_var 4) (de_op op_dAdd (de_op op_dFdiv (de_var 4) de_int) de_int)) da_nil)) de_int))
  (dss_one (ds_ret (de_op op_dMod (de_callTy call_dInt (by rfl) T.b_int (by decide +kernel) (da_cons (de_op op_dFdiv (de_var 4) de_int) da_nil)) (de_var 1)))))))))))), fun p0 p1 h Q q => ?_⟩)
  rw [show dstart ["pool", "many", "digit", "cell", "number"] [p0, p1] = [some p0, some p1, none, none, none] from rfl]
  obtain ⟨p, A, m, rfl, rfl, m0, m6, pool, q⟩ := q
  refine seq_by (fun σ h' => σ = [some (.ref p), some (.int m), none, none, none] ∧ PoolAt h' p A ∧ But p h h') ?_ ?_
  · rintro σ h1 ⟨rfl, pool1, bt⟩
    obtain ⟨ga, sa, gs, ss, x, n, e1, e2, e3, n1, n2, n3, n4, n5, sl, live⟩ := pool1
    walk_at "dgo"
    rw [lstAt_eq e1]
    walk_at "dgo"
    cases hx : decide (x > 1)
    · walk_at "dgo"
      rw [lstAt_eq e1]
      walk_at "dgo"
      refine lstAt_of e1 ⟨3, rfl, ?_⟩
      walk_at "dgo"
      rw [lstAt_eq put_same]
      walk_at "dgo"
      rw [lstAt_eq (by rw [put_ne n2]; exact e3), List.length_map]
      have fin : ∀ v : Int, Wk Q (.int v) (put h1 p (.lst [.ref ga, .ref sa, .int x, .int (n + 1)])) ∨ True := fun _ => .inr trivial
      have pool2 : PoolAt (put h1 p (.lst [.ref ga, .ref sa, .int x, .int (n + 1)])) p A := ⟨ga, sa, gs, ss, x, n + 1, put_same, by rw [put_ne n1]; exact e2, by rw [put_ne n2]; exact e3, n1, n2, n3, n4, n5, sl, fun a ha => by rw [put_ne (fun z => n3 (by rw [← z]; exact ha))]; exact live a ha⟩
      have last : ∀ v : Int, Wk Q (.int (v % m)) (put h1 p (.lst [.ref ga, .ref sa, .int x, .int (n + 1)])) := fun v => by
        have h0 := Int.emod_nonneg v (show (m : Int) ≠ 0 by omega)
        have hm := Int.emod_lt_of_pos v (show (0 : Int) < m by omega)
        have key := q (v % m).toNat _ (by omega) pool2 bt.wr
        rw [Int.toNat_of_nonneg h0] at key
        exact Wk.of key
      cases hs : decide ((ss.length : Int) > 0)
      · walk_at "dgo"
        rw [lstAt_eq put_same]
        walk_at "dgo"
        exact ⟨CMul.smallL (by decide) (by decide), CMul.small (by decide) (by decide), by decide, ⟨by decide, by decide⟩, modS _, by decide, ⟨by decide, by decide⟩, modS2 _ _, by decide, ⟨by decide, by decide⟩, by omega, last _⟩
      · have hs2 := of_decide_eq_true hs
        walk_at "dgo"
        rw [lstAt_eq put_same]
        walk_at "dgo"
        rw [lstAt_eq put_same]
        walk_at "dgo"
        rw [lstAt_eq put_same]
        walk_at "dgo"
        rw [lstAt_eq (by rw [put_ne n2]; exact e3), List.length_map]
        have h0 := Int.emod_nonneg (n + 1) (show (ss.length : Int) ≠ 0 by omega)
        have hm := Int.emod_lt_of_pos (n + 1) (show (0 : Int) < ss.length by omega)
        refine ⟨by omega, ?_⟩
        rw [lstAt_eq (by rw [put_ne n2]; exact e3), show (n + 1) % (ss.length : Int) = (((n + 1) % (ss.length : Int)).toNat : Int) by omega]
        refine oAt_of (ints_at (by omega)) ?_
        rw [lstAt_eq put_same]
        walk_at "dgo"
        exact ⟨CMul.smallL (by decide) (by decide), CMul.small (by decide) (by decide), by decide, ⟨by decide, by decide⟩, modS _, by decide, ⟨by decide, by decide⟩, modS2 _ _, by decide, ⟨by decide, by decide⟩, by omega, last _⟩
    · walk_at "dgo"
      rw [lstAt_eq e1]
      walk_at "dgo"
      refine ⟨by omega, ?_⟩
      rw [lstAt_eq e1]
      walk_at "dgo"
      refine ⟨⟨by omega, by omega⟩, lstAt_of e1 ⟨2, rfl, ?_⟩⟩
      walk_at "dgo"
      have h0 := Int.emod_nonneg x (show (m : Int) ≠ 0 by omega)
      have hm := Int.emod_lt_of_pos x (show (0 : Int) < m by omega)
      have key := q (x % m).toNat (put h1 p (.lst [.ref ga, .ref sa, .int (x / m), .int n])) (by omega) ⟨ga, sa, gs, ss, x / m, n, put_same, by rw [put_ne n1]; exact e2, by rw [put_ne n2]; exact e3, n1, n2, n3, n4, n5, sl, fun a ha => by rw [put_ne (fun z => n3 (by rw [← z]; exact ha))]; exact live a ha⟩ bt.wr
      rw [Int.toNat_of_nonneg h0] at key
      exact Wk.of key
  · intro nx hnx
    obtain ⟨ga, sa, gs, ss, x, n, e1, e2, e3, n1, n2, n3, n4, n5, sl, live⟩ := id pool
    walk_at "dgo"
    rw [lstAt_eq e1]
    walk_at "dgo"
    cases hx : decide (x ≤ 1)
    · walk_at "dgo"
      exact hnx _ _ ⟨rfl, pool, But.refl _ _⟩
    · walk_at "dgo"
      rw [lstAt_eq e1]
      walk_at "dgo"
      rw [lstAt_eq e2, List.length_map]
      cases hg : decide ((gs.length : Int) > 0)
      · walk_at "dgo"
        exact hnx _ _ ⟨rfl, pool, But.refl _ _⟩
      · walk_at "dgo"
        have hg2 := of_decide_eq_true hg
        rw [lstAt_eq e1]
        walk_at "dgo"
        rw [lstAt_eq e2]
        refine oAt_of (ints_at (i := 0) (by omega)) ?_
        refine lstAt_of e1 ⟨2, rfl, ?_⟩
        walk_at "dgo"
        rw [lstAt_eq put_same]
        walk_at "dgo"
        rw [lstAt_eq (by rw [put_ne n1]; exact e2), cut_one, ints_tail]
        intro c nc
        have npc : p ≠ c := ne_none put_same nc
        refine lstAt_of (by rw [put_ne npc]; exact put_same) ⟨0, rfl, ?_⟩
        walk_at "dgo"
        have nsc : sa ≠ c := fun z => by rw [← z, put_ne n2, e3] at nc; cases nc
        refine hnx _ _ ⟨rfl, ⟨c, sa, gs.tail, ss, _, n, put_same, by rw [put_ne npc.symm]; exact put_same, by rw [put_ne n2, put_ne nsc, put_ne n2]; exact e3, npc.symm, n2, n3, fun z => ?_, n5, sl, fun a ha => ?_⟩, ?_⟩
        · have := live c z
          rw [put_ne npc.symm] at nc
          exact this nc
        · have hp : a ≠ p := fun z => n3 (by rw [← z]; exact ha)
          rw [put_ne hp]
          by_cases z : a = c
          · rw [z, put_same]; exact fun y => by cases y
          · rw [put_ne z, put_ne hp]; exact live a ha
        · rw [put_ne npc.symm] at nc
          exact ((But.refl p h).wr.fresh nc).wr
end
end My
namespace My
open PySem PySem.Spec PyProof.Rows L2 DL
abbrev sp_wpick : DSp := pickSp
section
variable {P : Program} {w : World} {K : PySem.W.Frag} {mg : Str → Option Value} {base : Heap}
theorem ok_wpick (T : Txt K mg) : DFn P w K mg base 2 T.a_wpick T.d_wpick ["pool", "things"] sp_wpick := by
  refine dfn2 T.F_wpick sc_wpick rfl (fun cdv A outer s H E hr => ⟨_, (dss_one (ds_ret (de_ix (de_var 1) (de_call (ok_wdraw T) (hr.mono (by decide)) (by rfl) T.m_wdraw T.F_wdraw.kp T.b_wdraw (da_cons (de_var 0) (da_cons (de_callB call_dLen (by rfl) T.b_len (by decide +kernel) (da_cons (de_var 1) da_nil)) da_nil)))))), fun p0 p1 h Q q => ?_⟩)
  rw [show dstart ["pool", "things"] [p0, p1] = [some p0, some p1] from rfl]
  obtain ⟨p, A, r, xs, rfl, rfl, nrp, er, x0, x6, pool, q⟩ := q
  walk_at "dgo"
  rw [lstAt_eq er]
  refine ⟨p, A, xs.length, rfl, rfl, x0, x6, pool, fun i h' hi pool2 bt => ?_⟩
  walk_at "dgo"
  rw [lstAt_eq (bt _ _ nrp er)]
  refine oAt_of (d := xs[i]) (by rw [atI_n]; exact List.getElem?_eq_getElem hi) (Wk.of (q _ _ (List.getElem_mem hi) pool2 bt))
end
end My
namespace My
open PySem PySem.Spec PyProof.Rows L2 DL
theorem dab_signs : ∀ l : Nat, 1 ≤ l → l ≤ 2 → DL.signs (cutS ("-ab" : Str) none (some ((l : Int) + 1))) = (sg l).map sgD := by
  intro l h1 h2
  have e : (cutS ("-ab" : Str) none (some ((l : Int) + 1))).cps.toList = sg l := by
    rcases (show l = 1 ∨ l = 2 by omega) with rfl | rfl <;> decide +kernel
  unfold DL.signs
  rw [e]
  rfl
theorem dab_len : ("-ab" : Str).length ≤ sizeLine := by decide +kernel
def snocD (x y : D) : D := match x with
  | .tup xs => .tup (xs ++ [y])
  | _ => .non
theorem cols_stepL (l : Nat) (c : List Nat) : ((sg l).map sgD).map (snocD (encC c)) = ((sg l).map fun s => c ++ [s]).map encC := by
  rw [List.map_map, List.map_map]
  congr 1
  funext s
  exact enc_snoc c s
def sp_wcolumns : DSp := sp2 fun a b h P => ∃ r l : Nat, a = nD r ∧ b = nD l ∧ r ≤ 4 ∧ 1 ≤ l ∧ l ≤ 2 ∧ ∀ p, h p = none → P (.ref p) (put h p (.lst ((cols r (sg l)).map encC)))
section
variable {P : Program} {w : World} {K : PySem.W.Frag} {mg : Str → Option Value} {base : Heap}
theorem ok_wcolumns (T : Txt K mg) : DFn P w K mg base 1 T.a_wcolumns T.d_wcolumns ["rows", "letters"] sp_wcolumns := by
  refine dfn2 T.F_wcolumns sc_wcolumns rfl (fun cdv A outer s H E hr => ⟨_, (dss_cons (ds_set (i := 2) sc_wcolumns.nd rfl (by first | exact Or.inl rfl | exact Or.inr rfl) (de_lst (da_cons (de_tup da_nil) da_nil)))
  (dss_cons (ds_for PassesOwn.never rfl (di_range1 (by rfl) T.b_range (da_cons (de_var 0) da_nil)) (dg_name (i := 3) sc_wcolumns.nd rfl (by first | exact Or.inl rfl | exact Or.inr rfl))
  (dss_cons (ds_set (i := 4) sc_wcolumns.nd rfl (by first | exact Or.inl rfl | exact Or.inr rfl) (de_lst da_nil))
  (dss_cons (ds_for PassesOwn.never rfl (di_list (de_var 2)) (dg_name (i := 5) sc_wcolumns.nd rfl (by first | exact Or.inl rfl | exact Or.inr rfl))
  (dss_one (ds_expr (de_ml PySem.F.slot_list_extend PySem.F.type_list_extend mt_dExtend (de_var 4) (da_cons (de_lc (own := [("sign", 6)]) rfl sc_wcolumns.nd (di_str (de_sl de_str do_none (do_some (de_op op_dAdd (de_var 1) de_int)))) (blkOk_by (N := ["rows", "letters", "found", "row", "later", "column", "sign"]) (sc := defScope s_wcolumns) (own := [("sign", 6)]) (by decide +kernel)) (by decide) (fun _ _ _ _ _ => (dg_name (i := 6) sc_wcolumns.nd rfl (by first | exact Or.inl rfl | exact Or.inr rfl))) (fun _ _ _ _ _ => dts_nil) (fun _ _ _ _ _ => (de_op op_dAdd (de_var 5) (de_tup (da_cons (de_var 6) da_nil))))) da_nil)))))
  (dss_one (ds_set (i := 2) sc_wcolumns.nd rfl (by first | exact Or.inl rfl | exact Or.inr rfl) (de_var 4))))))
  (dss_one (ds_ret (de_var 2))))), fun p0 p1 h Q q => ?_⟩)
  rw [show dstart ["rows", "letters", "found", "row", "later", "column", "sign"] [p0, p1] = [some p0, some p1, none, none, none, none, none] from rfl]
  obtain ⟨r, l, rfl, rfl, hr4, l1, l2, q⟩ := q
  walk_at "dgo"
  refine ⟨Nat.zero_le _, by decide +kernel, fun p np => ⟨by omega, ?_⟩⟩
  rw [Int.toNat_natCast]
  refine for_nums (fun i σ h' => ∃ (p : Addr) (h0 : DH) (v3 v4 v5 : Option D), σ = [some (nD r), some (nD l), some (.ref p), v3, v4, v5, none] ∧ Sub h h0 ∧ h0 p = none ∧ Sub h h' ∧ h' p = some (.lst ((cols i (sg l)).map encC))) ⟨p, h, none, none, none, rfl, Sub.refl h, np, Sub.new np, put_same⟩ ?_ ?_
  · rintro i σ h' hi ⟨p, h0, v3, v4, v5, rfl, s0, n0, s1, e1⟩ nx hnx
    have small : ∀ j ≤ r, (cols j (sg l)).length ≤ 81 := fun j hj => cols_small l2 (by omega)
    walk_at "dgo"
    refine ⟨Nat.zero_le _, fun L nL => ?_⟩
    have npL : p ≠ L := ne_none e1 nL
    refine lstAt_of (by rw [put_ne npL]; exact e1) ?_
    refine for_each (fun j σ h2 => ∃ (v5 : Option D), σ = [some (nD r), some (nD l), some (.ref p), some (.int (0 + i)), some (.ref L), v5, none] ∧ Sub h' h2 ∧ h2 L = some (.lst ((((cols i (sg l)).take j).flatMap fun c => (sg l).map fun s => c ++ [s]).map encC))) _ ⟨_, rfl, Sub.new nL, put_same⟩ ?_ ?_ ?_
    · rintro j σ h2 ⟨v5, rfl, s2, e2⟩
      exact s2 _ _ e1
    · rintro j x σ h2 hx ⟨v5, rfl, s2, e2⟩ nx2 hnx2
      rw [List.getElem?_map] at hx
      obtain ⟨c, hc, rfl⟩ := Option.map_eq_some_iff.mp hx
      have hcl := (cols_mem.mp (List.mem_of_getElem? hc)).1
      have hj : j < (cols i (sg l)).length := (List.getElem?_eq_some_iff.mp hc).1
      have full : ((cols i (sg l)).take j).length * (l + 1) + (l + 1) ≤ 81 := by
        have := small (i + 1) (by omega)
        rw [cols_len, Nat.pow_succ, sg_len l2, ← sg_len l2, ← cols_len, sg_len l2] at this
        rw [List.length_take, Nat.min_eq_left (by omega)]
        have : (j + 1) * (l + 1) ≤ (cols i (sg l)).length * (l + 1) := Nat.mul_le_mul_right _ (by omega)
        rw [Nat.succ_mul] at this
        omega
      have line81 := line81
      walk_at "dgo"
      refine lstAt_of e2 ⟨dab_len, fun L2 nL2 => ?_⟩
      have nLL2 : L ≠ L2 := ne_none e2 nL2
      rw [dab_signs l l1 l2]
      refine lc_pure (snocD (encC c)) _ (fun _ => trivial) (fun x hx acc R hR => ?_) ?_ ?_
      · obtain ⟨s, hs, rfl⟩ := List.mem_map.mp hx
        unfold encC
        walk_at "dgo"
        refine ⟨by omega, ?_, hR⟩
        rw [List.length_map]
        omega
      · rw [List.length_map, sg_len l2]
        omega
      · rw [cols_stepL]
        refine lstAt_of (by rw [put_ne nLL2]; exact e2) (lstAt_of put_same ⟨?_, ?_⟩)
        · rw [List.length_map, List.length_map, List.length_map, flatMap_len, sg_len l2]
          omega
        · refine hnx2 _ _ ⟨_, rfl, ?_, ?_⟩
          · intro a u hu
            have h1 : a ≠ L := ne_none (s2 a u hu |> fun _ => hu) nL
            have h2' : a ≠ L2 := ne_none (s2 a u hu) nL2
            rw [put_ne h1, put_ne h2']
            exact s2 a u hu
          · rw [put_same, ← List.map_append, List.take_add_one, hc]
            congr 2
            rw [Option.toList_some, List.flatMap_append, List.flatMap_cons, List.flatMap_nil, List.append_nil]
    · rintro σ h2 ⟨v5, rfl, s2, e2⟩
      rw [List.length_map, List.take_length] at e2
      walk_at "dgo"
      exact hnx _ _ ⟨L, h', _, _, _, rfl, s1, nL, s1.trans s2, e2⟩
  · rintro σ h' ⟨p, h0, v3, v4, v5, rfl, s0, n0, s1, e1⟩
    walk_at "dgo"
    exact Wk.to (s1.into e1) (q p (s0.free n0))
end
end My
namespace My
open PySem PySem.Spec PyProof.Rows L2 DL
theorem dab_find : ∀ s ∈ sg 2, Txt.find ("-ab" : Str) ⟨#[s]⟩ = (dig s : Int) := by
  intro s hs
  simp [sg] at hs
  rcases hs with rfl | rfl | rfl <;> decide +kernel
theorem sg_sub {l s : Nat} (h : s ∈ sg l) : s ∈ sg 2 := List.mem_of_mem_take h
theorem val_take {b : Nat} {c : List Nat} {i s : Nat} (h : c[i]? = some s) : val b (c.take (i + 1)) = val b (c.take i) * b + dig s := by
  rw [List.take_add_one, h, Option.toList_some, val_snoc]
def sp_wlead : DSp := sp3 fun a b c h P => ∃ (S : Qs) (st : Nat) (col : List Nat), a = specD S ∧ b = nD st ∧ c = encC col ∧ S.Ok ∧ st < S.tbl.length ∧ col ∈ cols S.r (sg S.l) ∧ P (nD (lead S st col)) h
section
variable {P : Program} {w : World} {K : PySem.W.Frag} {mg : Str → Option Value} {base : Heap}
theorem ok_wlead (T : Txt K mg) : DFn P w K mg base 1 T.a_wlead T.d_wlead ["spec", "standing", "column"] sp_wlead := by
  refine dfn3 T.F_wlead sc_wlead rfl (fun cdv A outer s H E hr => ⟨_, (dss_cons (ds_set (i := 3) sc_wlead.nd rfl (by first | exact Or.inl rfl | exact Or.inr rfl) de_int)
  (dss_cons (ds_for PassesOwn.never rfl (di_tup (de_var 2)) (dg_name (i := 4) sc_wlead.nd rfl (by first | exact Or.inl rfl | exact Or.inr rfl))
  (dss_one (ds_set (i := 3) sc_wlead.nd rfl (by first | exact Or.inl rfl | exact Or.inr rfl) (de_op op_dAdd (de_op op_dMul (de_var 3) (de_op op_dAdd (de_ix (de_var 0) de_int) de_int)) (de_ms PySem.F.slot_str_find PySem.F.type_str_find mt_dFind de_str (de_var 4))))))
  (dss_one (ds_ret (de_ifExp (dt_cmp op_dEq (de_var 3) de_int (nomark _)) (de_var 1) (de_ix (de_ix (de_ix (de_ix (de_var 0) de_int) (de_var 1)) de_int) (de_op op_dSub (de_var 3) de_int))))))), fun p0 p1 p2 h Q q => ?_⟩)
  rw [show dstart ["spec", "standing", "column", "number", "sign"] [p0, p1, p2] = [some p0, some p1, some p2, none, none] from rfl]
  obtain ⟨S, st, col, rfl, rfl, rfl, ok, hst, hc, q⟩ := q
  have l2 := ok.l2
  unfold encC
  walk_at "dgo"
  refine for_each (fun j σ h2 => ∃ (v4 : Option D), σ = [some (specD S), some (nD st), some (encC col), some (nD (val (S.l + 1) (col.take j))), v4] ∧ h2 = h) _ ⟨none, rfl, rfl⟩ (fun _ _ _ _ => trivial) ?_ ?_
  · rintro j x σ h2 hx ⟨v4, rfl, rfl⟩ nx hnx
    rw [List.getElem?_map] at hx
    obtain ⟨s, hs, rfl⟩ := Option.map_eq_some_iff.mp hx
    unfold specD
    walk_at "dgo"
    refine ⟨CMul.small (by omega) (by omega), ?_⟩
    unfold sgD
    walk_at "dgo"
    rw [dab_find s (sg_sub ((cols_mem.mp hc).2 s (List.mem_of_getElem? hs)))]
    refine hnx _ _ ⟨some (sgD s), ?_, rfl⟩
    rw [show ((val (S.l + 1) (List.take j col) : Nat) : Int) * ((S.l : Int) + 1) + (dig s : Int) = ((val (S.l + 1) (List.take j col) * (S.l + 1) + dig s : Nat) : Int) by rw [Int.natCast_add, Int.natCast_mul, Int.natCast_add]; rfl, ← val_take hs]
    rfl
  · rintro σ h2 ⟨v4, rfl, rfl⟩
    rw [List.length_map, List.take_length]
    unfold specD
    unfold lead at q
    by_cases hv : val (S.l + 1) col = 0
    · rw [if_pos hv] at q
      walk_at "dgo"
      rw [decide_eq_true (by omega)]
      walk_at "dgo"
      exact Wk.of q
    · rw [if_neg hv] at q
      walk_at "dgo"
      rw [decide_eq_false (by omega)]
      unfold tblD
      walk_at "dgo"
      refine oAt_of (tbl_at S.tbl hst) ?_
      unfold rowD
      walk_at "dgo"
      rw [show ((val (S.l + 1) col : Nat) : Int) - 1 = ((val (S.l + 1) col - 1 : Nat) : Int) by omega]
      refine oAt_of (next_at _ ?_) (Wk.of q)
      rw [row_of ok hst]
      have := val_lt l2 hc
      omega
end
end My
namespace My
open PySem PySem.Spec PyProof.Rows L2 DL
def sp_wcolumn_at : DSp := sp_column_at
section
variable {P : Program} {w : World} {K : PySem.W.Frag} {mg : Str → Option Value} {base : Heap}
theorem ok_wcolumn_at (T : Txt K mg) : DFn P w K mg base 1 T.a_wcolumn_at T.d_wcolumn_at ["words", "place"] sp_wcolumn_at := by
  refine dfn2 T.F_wcolumn_at sc_wcolumn_at rfl (fun cdv A outer s H E hr => ⟨_, (dss_one (ds_ret (de_callTy call_dTupOf (by rfl) T.b_tuple (by decide +kernel) (da_cons (de_lc (own := [("word", 2)]) rfl sc_wcolumn_at.nd (di_tup (de_var 0)) (blkOk_by (N := ["words", "place", "word"]) (sc := defScope s_wcolumn_at) (own := [("word", 2)]) (by decide +kernel)) (by decide) (fun _ _ _ _ _ => (dg_name (i := 2) sc_wcolumn_at.nd rfl (by first | exact Or.inl rfl | exact Or.inr rfl))) (fun _ _ _ _ _ => dts_nil) (fun _ _ _ _ _ => (de_ifExp (dt_cmp op_dLt (de_var 1) (de_callB call_dLen (by rfl) T.b_len (by decide +kernel) (da_cons (de_var 2) da_nil)) (nomark _)) (de_ix (de_var 2) (de_var 1)) de_str))) da_nil)))), fun p0 p1 h Q q => ?_⟩)
  rw [show dstart ["words", "place", "word"] [p0, p1] = [some p0, some p1, none] from rfl]
  obtain ⟨ws, pl, rfl, rfl, hl, hz, q⟩ := q
  have line81 := line81
  have line60 := line60
  unfold wordsD
  walk_at "dgo"
  intro L nL
  refine lc_pure (wcF pl) _ (fun _ => trivial) (fun x hx acc R hR => ?_) (by rw [List.length_map]; omega) ?_
  · obtain ⟨z, hz1, rfl⟩ := List.mem_map.mp hx
    have h60 := hz z hz1
    walk_at "dgo"
    refine ⟨by omega, ?_⟩
    by_cases hp : pl < z.length
    · rw [decide_eq_true (by omega)]
      walk_at "dgo"
      refine ⟨by omega, ?_⟩
      rw [col_sign z pl hp]
      exact hR
    · rw [decide_eq_false (by omega)]
      walk_at "dgo"
      unfold wcF at hR
      dsimp only at hR
      rw [col_gone z pl hp] at hR
      exact hR
  · refine lstAt_of put_same ?_
    rw [wcF_map]
    exact Wk.to (Sub.new nL) q
end
end My
namespace My
open PySem PySem.Spec PyProof.Rows L2 DL
def sp_wanswer : DSp := sp2 fun a b h P => ∃ (S : Qs) (ws : List Str), a = specD S ∧ b = wordsD ws ∧ S.Ok ∧ Wds S.r S.l ws ∧ P (.bl (ansOf S ws)) h
section
variable {P : Program} {w : World} {K : PySem.W.Frag} {mg : Str → Option Value} {base : Heap}
theorem ok_wanswer (T : Txt K mg) : DFn P w K mg base 2 T.a_wanswer T.d_wanswer ["spec", "words"] sp_wanswer := by
  refine dfn2 T.F_wanswer sc_wanswer rfl (fun cdv A outer s H E hr => ⟨_, (dss_cons (ds_set (i := 2) sc_wanswer.nd rfl (by first | exact Or.inl rfl | exact Or.inr rfl) de_int)
  (dss_cons (ds_for PassesOwn.never rfl (di_range1 (by rfl) T.b_range (da_cons (de_callB (call_dMax rfl) (by rfl) T.b_max (by decide +kernel) (da_cons (de_lc (own := [("word", 4)]) rfl sc_wanswer.nd (di_tup (de_var 1)) (blkOk_by (N := ["spec", "words", "standing", "place", "word"]) (sc := defScope s_wanswer) (own := [("word", 4)]) (by decide +kernel)) (by decide) (fun _ _ _ _ _ => (dg_name (i := 4) sc_wanswer.nd rfl (by first | exact Or.inl rfl | exact Or.inr rfl))) (fun _ _ _ _ _ => dts_nil) (fun _ _ _ _ _ => (de_callB call_dLen (by rfl) T.b_len (by decide +kernel) (da_cons (de_var 4) da_nil)))) da_nil)) da_nil)) (dg_name (i := 3) sc_wanswer.nd rfl (by first | exact Or.inl rfl | exact Or.inr rfl))
  (dss_one (ds_set (i := 2) sc_wanswer.nd rfl (by first | exact Or.inl rfl | exact Or.inr rfl) (de_call (ok_wlead T) (hr.mono (by decide)) (by rfl) T.m_wlead T.F_wlead.kp T.b_wlead (da_cons (de_var 0) (da_cons (de_var 2) (da_cons (de_call (ok_wcolumn_at T) (hr.mono (by decide)) (by rfl) T.m_wcolumn_at T.F_wcolumn_at.kp T.b_wcolumn_at (da_cons (de_var 1) (da_cons (de_var 3) da_nil))) da_nil)))))))
  (dss_one (ds_ret (de_ix (de_ix (de_ix (de_var 0) de_int) (de_var 2)) de_int))))), fun p0 p1 h Q q => ?_⟩)
  rw [show dstart ["spec", "words", "standing", "place", "word"] [p0, p1] = [some p0, some p1, none, none, none] from rfl]
  obtain ⟨S, ws, rfl, rfl, ok, wd, q⟩ := q
  obtain ⟨w1, w2, w3⟩ := id wd
  have line81 := line81
  have line60 := line60
  have := ok.r2
  have := ok.r4
  have hm := maxLen_le w3
  unfold wordsD
  walk_at "dgo"
  intro L nL
  refine lc_pure lenF _ (fun _ => trivial) (fun x hx acc R hR => ?_) (by rw [List.length_map]; omega) ?_
  · obtain ⟨z, hz1, rfl⟩ := List.mem_map.mp hx
    have h60 := w3 z hz1
    walk_at "dgo"
    exact ⟨by omega, hR⟩
  · rw [lenF_map]
    refine lstAt_of put_same ⟨_, allI_map _, by rw [List.length_map]; omega, ?_⟩
    rw [maxL_len]
    refine ⟨by omega, ?_⟩
    rw [Int.toNat_natCast]
    refine for_nums (fun i σ h' => ∃ v3 : Option D, σ = [some (specD S), some (wordsD ws), some (nD (stAt S ws i)), v3, none] ∧ Sub h h') ⟨none, rfl, Sub.new nL⟩ ?_ ?_
    · rintro i σ h' hi ⟨v3, rfl, s1⟩ nx hnx
      walk_at "dgo"
      refine ⟨ws, i, rfl, by rw [Int.zero_add], by omega, w3, ?_⟩
      refine ⟨S, stAt S ws i, colAt ws i, rfl, rfl, rfl, ok, stAt_lt ok w1 w2 i, by rw [← w1]; exact colAt_mem w2 i, ?_⟩
      exact hnx _ _ ⟨_, rfl, s1⟩
    · rintro σ h' ⟨v3, rfl, s1⟩
      unfold specD tblD
      walk_at "dgo"
      refine oAt_of (tbl_at S.tbl (stAt_lt ok w1 w2 _)) ?_
      unfold rowD
      walk_at "dgo"
      exact Wk.to s1 q
end
end My
namespace My
open PySem PySem.Spec PyProof.Rows L2 DL
/-- a table of so many rows and letters -/
structure TblOk (r l : Nat) (t : List (Bool × List Nat)) : Prop where
  t1 : 1 ≤ t.length
  t8 : t.length ≤ 8
  row : ∀ e ∈ t, e.2.length = (l + 1) ^ r - 1 ∧ ∀ n ∈ e.2, n < t.length
def tblSp : DSp := sp3 fun a b c h P => ∃ (p : Addr) (A : List Addr) (r l : Nat), a = .ref p ∧ b = nD r ∧ c = nD l ∧ 2 ≤ r ∧ r ≤ 4 ∧ 1 ≤ l ∧ l ≤ 2 ∧ PoolAt h p A ∧
  ∀ t tbl h', TblOk r l tbl → h' t = some (.lst (tbl.map rowD)) → PoolAt h' p A → But p h h' → P (.ref t) h'
abbrev sp_wby_rows : DSp := tblSp
theorem many_at {cs : List Nat} (h : cs.length ≤ 2) : atI [D.int 1, D.int 2, D.int 4] (cs.length : Int) = some (nD (2 ^ cs.length)) := by
  rcases (show cs.length = 0 ∨ cs.length = 1 ∨ cs.length = 2 by omega) with e | e | e <;> rw [e, atI_n] <;> rfl
theorem pm_at {i : Int} (h0 : 0 ≤ i) (h2 : i < 2) : atI [D.int 1, D.int (-1)] i = some (.int (1 - 2 * i)) := by
  rcases (show i = 0 ∨ i = 1 by omega) with rfl | rfl
  · exact atI_0 _ _
  · exact atI_1 _ _ _
theorem flip_lt {n i lt : Nat} (hn : n ≤ 2) (hi : i < n) (hl : lt < 2 ^ n) : ∃ m : Nat, (lt : Int) + (1 - 2 * ((lt : Int) / (1 + i) % 2)) * (1 + i) = m ∧ m < 2 ^ n := by
  rcases (show n = 1 ∨ n = 2 by omega) with rfl | rfl
  · have : i = 0 := by omega
    subst this
    refine ⟨1 - lt, ?_, ?_⟩
    · have : lt < 2 := hl
      rcases (show lt = 0 ∨ lt = 1 by omega) with rfl | rfl <;> decide
    · show 1 - lt < 2
      omega
  · have h4 : lt < 4 := hl
    rcases (show i = 0 ∨ i = 1 by omega) with rfl | rfl
    · rcases (show lt = 0 ∨ lt = 1 ∨ lt = 2 ∨ lt = 3 by omega) with rfl | rfl | rfl | rfl
      · exact ⟨1, by decide, by decide⟩
      · exact ⟨0, by decide, by decide⟩
      · exact ⟨3, by decide, by decide⟩
      · exact ⟨2, by decide, by decide⟩
    · rcases (show lt = 0 ∨ lt = 1 ∨ lt = 2 ∨ lt = 3 by omega) with rfl | rfl | rfl | rfl
      · exact ⟨2, by decide, by decide⟩
      · exact ⟨3, by decide, by decide⟩
      · exact ⟨0, by decide, by decide⟩
      · exact ⟨1, by decide, by decide⟩
theorem map_encC_tail (r l : Nat) : ((cols r (sg l)).map encC).tail = ((cols r (sg l)).tail).map encC := by rw [List.map_tail]
theorem tail_len {r l : Nat} (hl : l ≤ 2) : ((cols r (sg l)).tail).length = (l + 1) ^ r - 1 := by rw [List.length_tail, cols_len, sg_len hl]
theorem col_str {r l : Nat} {c : List Nat} (hc : c ∈ cols r (sg l)) {i : Nat} (hi : i < r) : ∃ s, c[i]? = some s ∧ s ∈ sg l ∧ atI (c.map sgD) (i : Int) = some (sgD s) := by
  have h := (cols_mem.mp hc).1
  have hi' : i < c.length := by omega
  refine ⟨c[i], List.getElem?_eq_getElem hi', (cols_mem.mp hc).2 _ (List.getElem_mem hi'), ?_⟩
  rw [atI_n, List.getElem?_map, List.getElem?_eq_getElem hi']
  rfl
section
variable {P : Program} {w : World} {K : PySem.W.Frag} {mg : Str → Option Value} {base : Heap}
theorem ok_wby_rows (T : Txt K mg) : DFn P w K mg base 3 T.a_wby_rows T.d_wby_rows ["pool", "rows", "letters"] sp_wby_rows := by
  refine dfn3 T.F_wby_rows sc_wby_rows rfl (fun cdv A outer s H E hr => ⟨_, (dss_cons (ds_set (i := 3) sc_wby_rows.nd rfl (by first | exact Or.inl rfl | exact Or.inr rfl) (de_sl (de_lc (own := [("row", 12)]) rfl sc_wby_rows.nd (di_range1 (by rfl) T.b_range (da_cons (de_var 1) da_nil)) (blkOk_by (N := ["pool", "rows", "letters", "counted", "sign", "many", "table", "standing", "nexts", "column", "later", "at", "row"]) (sc := defScope s_wby_rows) (own := [("row", 12)]) (by decide +kernel)) (by decide) (fun _ _ _ _ _ => (dg_name (i := 12) sc_wby_rows.nd rfl (by first | exact Or.inl rfl | exact Or.inr rfl))) (fun _ _ _ _ _ => (dts_one (dt_cmp op_dEq (de_call (ok_wdraw T) (hr.mono (by decide)) (by rfl) T.m_wdraw T.F_wdraw.kp T.b_wdraw (da_cons (de_var 0) (da_cons de_int da_nil))) de_int (nomark _)))) (fun _ _ _ _ _ => (de_var 12))) do_none (do_some de_int)))
  (dss_cons (ds_set (i := 4) sc_wby_rows.nd rfl (by first | exact Or.inl rfl | exact Or.inr rfl) (de_call (ok_wpick T) (hr.mono (by decide)) (by rfl) T.m_wpick T.F_wpick.kp T.b_wpick (da_cons (de_var 0) (da_cons (de_sl (de_lst (da_cons de_str (da_cons de_str (da_cons de_str da_nil)))) do_none (do_some (de_op op_dSub (de_op op_dMul de_int (de_var 2)) de_int))) da_nil))))
  (dss_cons (ds_set (i := 5) sc_wby_rows.nd rfl (by first | exact Or.inl rfl | exact Or.inr rfl) (de_ix (de_lst (da_cons de_int (da_cons de_int (da_cons de_int da_nil)))) (de_callB call_dLen (by rfl) T.b_len (by decide +kernel) (da_cons (de_var 3) da_nil))))
  (dss_cons (ds_set (i := 6) sc_wby_rows.nd rfl (by first | exact Or.inl rfl | exact Or.inr rfl) (de_lst da_nil))
  (dss_cons (ds_for PassesOwn.never rfl (di_range1 (by rfl) T.b_range (da_cons (de_var 5) da_nil)) (dg_name (i := 7) sc_wby_rows.nd rfl (by first | exact Or.inl rfl | exact Or.inr rfl))
  (dss_cons (ds_set (i := 8) sc_wby_rows.nd rfl (by first | exact Or.inl rfl | exact Or.inr rfl) (de_lst da_nil))
  (dss_cons (ds_for PassesOwn.never rfl (di_list (de_sl (de_call (ok_wcolumns T) (hr.mono (by decide)) (by rfl) T.m_wcolumns T.F_wcolumns.kp T.b_wcolumns (da_cons (de_var 1) (da_cons (de_var 2) da_nil))) (do_some de_int) do_none)) (dg_name (i := 9) sc_wby_rows.nd rfl (by first | exact Or.inl rfl | exact Or.inr rfl))
  (dss_cons (ds_set (i := 10) sc_wby_rows.nd rfl (by first | exact Or.inl rfl | exact Or.inr rfl) (de_var 7))
  (dss_cons (ds_for PassesOwn.never rfl (di_enum (by rfl) T.b_enumerate (da_cons (de_var 3) da_nil)) (dg_tup (n := 2) rfl (dgs_cons (dg_name (i := 11) sc_wby_rows.nd rfl (by first | exact Or.inl rfl | exact Or.inr rfl)) (dgs_cons (dg_name (i := 12) sc_wby_rows.nd rfl (by first | exact Or.inl rfl | exact Or.inr rfl)) dgs_nil)))
  (dss_one (ds_if (dt_cmp (op_dIn hr.units) (de_ix (de_var 9) (de_var 12)) (de_var 4) (by rfl))
  (dss_one (ds_set (i := 10) sc_wby_rows.nd rfl (by first | exact Or.inl rfl | exact Or.inr rfl) (de_op op_dAdd (de_var 10) (de_op op_dMul (de_ix (de_lst (da_cons de_int (da_cons (de_neg de_int) da_nil))) (de_op op_dMod (de_callTy call_dInt (by rfl) T.b_int (by decide +kernel) (da_cons (de_op op_dFdiv (de_var 10) (de_op op_dAdd de_int (de_var 11))) da_nil)) de_int)) (de_op op_dAdd de_int (de_var 11))))))
  dss_nil)))
  (dss_one (ds_expr (de_ml PySem.F.slot_list_append PySem.F.type_list_append mt_dAppend (de_var 8) (da_cons (de_var 10) da_nil)))))))
  (dss_one (ds_expr (de_ml PySem.F.slot_list_append PySem.F.type_list_append mt_dAppend (de_var 6) (da_cons (de_tup (da_cons (de_cmp op_dEq (de_call (ok_wdraw T) (hr.mono (by decide)) (by rfl) T.m_wdraw T.F_wdraw.kp T.b_wdraw (da_cons (de_var 0) (da_cons de_int da_nil))) de_int (nomark _)) (da_cons (de_callTy call_dTupOf (by rfl) T.b_tuple (by decide +kernel) (da_cons (de_var 8) da_nil)) da_nil))) da_nil)))))))
  (dss_one (ds_ret (de_var 6)))))))), fun p0 p1 p2 h Q q => ?_⟩)
  rw [show dstart ["pool", "rows", "letters", "counted", "sign", "many", "table", "standing", "nexts", "column", "later", "at", "row"] [p0, p1, p2] = [some p0, some p1, some p2, none, none, none, none, none, none, none, none, none, none] from rfl]
  obtain ⟨p, A, r, l, rfl, rfl, rfl, r2, r4, l1, l2, pool, q⟩ := q
  have line81 := line81
  walk_at "dgo"
  refine ⟨by omega, fun L nL => ?_⟩
  rw [Int.toNat_natCast]
  have nLp := pool.neN nL
  refine lc_inv (fun i acc h' => (∃ cs : List Nat, acc = cs.map nD ∧ ∀ c ∈ cs, c < r) ∧ PoolAt h' p (L :: A) ∧ But p h h') _ put_same ⟨⟨[], rfl, fun c hc => by cases hc⟩, pool.new nL, (But.refl p h).fresh nL⟩ (fun _ _ _ _ _ => trivial) (by rw [nums_len]; omega) (fun i x acc h' hx hl eL z R R' hR hR' => ?_) (fun acc h' hl eL z => ?_)
  · obtain ⟨⟨cs, rfl, hcs⟩, pool1, bt1⟩ := z
    obtain ⟨hi, rfl⟩ := nums_at hx
    walk_at "dgo"
    refine ⟨p, L :: A, 2, rfl, rfl, by decide, by decide, pool1, fun d h2 hd pool2 bt2 => ?_⟩
    walk_at "dgo"
    cases decide ((d : Int) = 0) <;> walk_at "dgo"
    · exact hR' _ (bt2 _ _ nLp eL) ⟨⟨cs, rfl, hcs⟩, pool2, bt1.trans bt2⟩
    · refine hR _ _ (bt2 _ _ nLp eL) ⟨⟨cs ++ [i], by rw [List.map_append, Int.zero_add]; rfl, fun c hc => ?_⟩, pool2.put List.mem_cons_self, (bt1.trans bt2).fresh nL⟩
      rcases List.mem_append.mp hc with hc | hc
      · exact hcs c hc
      · rw [List.mem_singleton.mp hc]; exact hi
  obtain ⟨⟨cs0, rfl, hcs0⟩, pool1, bt1⟩ := z
  rw [lstAt_eq eL, cut_2, ← List.map_take]
  have hcl : (cs0.take 2).length ≤ 2 := by rw [List.length_take]; omega
  have hcs : ∀ c ∈ cs0.take 2, c < r := fun c hc => hcs0 c (List.mem_of_mem_take hc)
  generalize cs0.take 2 = cs at hcl hcs
  intro K1 nK
  have p2 : 2 ^ cs.length ≤ 4 := Nat.pow_le_pow_right (by decide) hcl
  have p1 : 0 < 2 ^ cs.length := Nat.pow_pos (by decide)
  have nKp : K1 ≠ p := pool1.neN nK
  have pool2 := (pool1.drop).new (o := .lst (cs.map nD)) nK
  have bt2 : But p h (put h' K1 (.lst (cs.map nD))) := bt1.trans (But.of (Sub.new nK))
  have eK : put h' K1 (.lst (cs.map nD)) K1 = some (.lst (cs.map nD)) := put_same
  generalize put h' K1 (.lst (cs.map nD)) = h2 at pool2 bt2 eK
  refine ⟨by omega, fun M nM => ⟨CMul.smallL (by decide) (by decide), lstAt_of put_same ?_⟩⟩
  rw [show (2 : Int) * l - 1 = ((2 * l - 1 : Nat) : Int) by omega, cut_to]
  intro N nN
  have s3 : Sub h2 (put (put h2 M (.lst [.str "a", .str "ab", .str "b"])) N (.lst (([.str "a", .str "ab", .str "b"] : List D).take (2 * l - 1)))) := (Sub.new nM).trans (Sub.new nN)
  refine ⟨p, K1 :: A, N, _, rfl, rfl, (pool2.sub (Sub.new nM)).neN nN, put_same, ?_, ?_, pool2.sub s3, fun x h4 hx pool4 bt4 => ?_⟩
  · rw [List.length_take]; simp; omega
  · rw [List.length_take]; simp; omega
  have hx2 : ∃ z : Str, x = .str z := by
    have := List.mem_of_mem_take hx
    simp at this
    rcases this with rfl | rfl | rfl <;> exact ⟨_, rfl⟩
  obtain ⟨z, rfl⟩ := hx2
  have eK4 := bt4 _ _ nKp (s3 _ _ eK)
  have bt4' := (bt2.trans (But.of s3)).trans bt4
  refine ⟨by omega, fun M2 nM2 => lstAt_of (Sub.new nM2 _ _ eK4) (lstAt_of put_same ?_)⟩
  rw [List.length_map]
  refine oAt_of (many_at hcl) ⟨Nat.zero_le _, fun Tt nT => ⟨by omega, ?_⟩⟩
  rw [Int.toNat_natCast]
  have pool5 := (pool4.sub (Sub.new (o := .lst [D.int 1, .int 2, .int 4]) nM2)).new (o := .lst []) nT
  have bt5 : But p h _ := bt4'.trans ((But.of (Sub.new (o := .lst [D.int 1, .int 2, .int 4]) nM2)).trans (But.of (Sub.new (o := .lst []) nT)))
  have nKT : K1 ≠ Tt := ne_none (Sub.new (o := .lst [D.int 1, .int 2, .int 4]) nM2 _ _ eK4) nT
  have eK5 := Sub.new (o := .lst []) nT _ _ (Sub.new (o := .lst [D.int 1, .int 2, .int 4]) nM2 _ _ eK4)
  refine for_nums (fun i σ h' => ∃ (rows : List (Bool × List Nat)) (v7 v8 v9 v10 v11 v12 : Option D), σ = [some (.ref p), some (nD r), some (nD l), some (.ref K1), some (.str z), some (nD (2 ^ cs.length)), some (.ref Tt), v7, v8, v9, v10, v11, v12] ∧ PoolAt h' p (Tt :: K1 :: A) ∧ But p h h' ∧ h' K1 = some (.lst (cs.map nD)) ∧ h' Tt = some (.lst (rows.map rowD)) ∧ rows.length = i ∧
    ∀ e ∈ rows, e.2.length = (l + 1) ^ r - 1 ∧ ∀ n ∈ e.2, n < 2 ^ cs.length) ⟨[], none, none, none, none, none, none, rfl, pool5, bt5, eK5, put_same, rfl, fun e he => by cases he⟩ ?_ ?_
  · rintro i σ h6 hi ⟨rows, v7, v8, v9, v10, v11, v12, rfl, pool6, bt6, eK6, eT6, hrl, hrows⟩ nx hnx
    walk_at "dgo"
    refine ⟨Nat.zero_le _, fun N nN => ?_⟩
    refine ⟨r, l, rfl, rfl, r4, l1, l2, fun c1 nc1 => ?_⟩
    walk_at "dgo"
    refine lstAt_of put_same ?_
    rw [cut_one, map_encC_tail]
    intro c2 nc2
    have nKN : K1 ≠ N := ne_none eK6 nN
    have nTN : Tt ≠ N := ne_none eT6 nN
    have nTp : Tt ≠ p := pool6.ne List.mem_cons_self
    have nNc2 : c2 ≠ N := fun z => by rw [z, put_ne (ne_none put_same nc1), put_same] at nc2; cases nc2
    refine lstAt_of put_same ?_
    have s7 : Sub (put h6 N (.lst [])) (put (put (put h6 N (.lst [])) c1 (.lst ((cols r (sg l)).map encC))) c2 (.lst (((cols r (sg l)).tail).map encC))) := (Sub.new nc1).trans (Sub.new nc2)
    have s7' := (Sub.new (o := .lst []) nN).trans s7
    have pool7 := (pool6.new (o := .lst []) nN).sub s7
    have bt7 := bt6.trans (But.of s7')
    have eK7 := s7' _ _ eK6
    have eT7 := s7' _ _ eT6
    have eN7 := s7 _ _ (put_same (h := h6) (a := N) (o := .lst []))
    have ec7 : put (put (put h6 N (.lst [])) c1 (.lst ((cols r (sg l)).map encC))) c2 (.lst (((cols r (sg l)).tail).map encC)) c2 = some (.lst (((cols r (sg l)).tail).map encC)) := put_same
    have nNp : N ≠ p := pool7.ne List.mem_cons_self
    generalize put (put (put h6 N (.lst [])) c1 (.lst ((cols r (sg l)).map encC))) c2 (.lst (((cols r (sg l)).tail).map encC)) = h7 at pool7 bt7 eK7 eT7 eN7 ec7
    have wide : (((cols r (sg l)).tail).map encC).length = (l + 1) ^ r - 1 := by rw [List.length_map, tail_len l2]
    have wide2 : (l + 1) ^ r - 1 ≤ 80 := by
      have := cols_small l2 r4
      rw [cols_len, sg_len l2] at this
      omega
    refine for_each (fun j σ h3 => ∃ (ns : List Nat) (v9 v10 v11 v12 : Option D), σ = [some (.ref p), some (nD r), some (nD l), some (.ref K1), some (.str z), some (nD (2 ^ cs.length)), some (.ref Tt), some (.int (0 + i)), some (.ref N), v9, v10, v11, v12] ∧ But N h7 h3 ∧ h3 N = some (.lst (ns.map nD)) ∧ ns.length = j ∧ ∀ n ∈ ns, n < 2 ^ cs.length) _
      ⟨[], v9, v10, v11, v12, rfl, But.refl _ _, eN7, rfl, fun n hn => by cases hn⟩ ?_ ?_ ?_
    · rintro j σ h3 ⟨ns, v9, v10, v11, v12, rfl, btN, eN, hnl, hns⟩
      exact btN _ _ nNc2 ec7
    · rintro j x σ h3 hx ⟨ns, v9, v10, v11, v12, rfl, btN, eN, hnl, hns⟩ nx2 hnx2
      have hj : j < ((cols r (sg l)).tail).length := by
        have := (List.getElem?_eq_some_iff.mp hx).1
        rwa [List.length_map] at this
      rw [tail_len l2] at hj
      rw [List.getElem?_map] at hx
      obtain ⟨c, hc, rfl⟩ := Option.map_eq_some_iff.mp hx
      have hc2 : c ∈ cols r (sg l) := List.mem_of_mem_tail (List.mem_of_getElem? hc)
      walk_at "dgo"
      refine lstAt_of (btN _ _ nKN eK7) ?_
      refine for_eachG (fun t σ h4 => ∃ (lt : Nat) (v11 v12 : Option D), σ = [some (.ref p), some (nD r), some (nD l), some (.ref K1), some (.str z), some (nD (2 ^ cs.length)), some (.ref Tt), some (.int (0 + i)), some (.ref N), some (encC c), some (nD lt), v11, v12] ∧ lt < 2 ^ cs.length ∧ Sub h3 h4) _
        ⟨i, v11, v12, by rw [Int.zero_add], hi, Sub.refl _⟩ ?_ ?_ ?_
      · rintro t σ h4 ⟨lt, v11, v12, rfl, hlt, s4⟩
        exact s4 _ _ (btN _ _ nKN eK7)
      · rintro t y σ h4 hy ⟨lt, v11, v12, rfl, hlt, s4⟩ nx3 hnx3
        have ht : t < cs.length := by
          have := (List.getElem?_eq_some_iff.mp hy).1
          rwa [numbered_length, List.length_map] at this
        obtain ⟨u, eu, rfl⟩ := numbered_get hy
        rw [List.getElem?_map, List.getElem?_eq_getElem ht] at eu
        obtain rfl : nD cs[t] = u := Option.some.inj eu
        have hrow := hcs _ (List.getElem_mem ht)
        obtain ⟨sgn, _, _, esg⟩ := col_str hc2 hrow
        unfold encC
        walk_at "dgo"
        refine oAt_of esg ?_
        unfold sgD
        walk_at "dgo"
        cases inStr _ z
        · walk_at "dgo"
          exact hnx3 _ _ ⟨lt, _, _, rfl, hlt, s4⟩
        · walk_at "dgo"
          refine ⟨by omega, fun G nG => ⟨⟨by omega, by omega⟩, by decide, lstAt_of put_same (oAt_of (pm_at (Int.emod_nonneg _ (by decide)) (Int.emod_lt_of_pos _ (by decide))) ?_)⟩⟩
          walk_at "dgo"
          obtain ⟨m, em, hm⟩ := flip_lt hcl ht hlt
          refine ⟨CMul.small (by omega) (by omega), ?_⟩
          rw [em]
          exact hnx3 _ _ ⟨m, _, _, rfl, hm, s4.trans (Sub.new nG)⟩
      · rintro σ h4 ⟨lt, v11, v12, rfl, hlt, s4⟩
        walk_at "dgo"
        refine lstAt_of (s4 _ _ eN) (lstAt_of (s4 _ _ eN) ⟨by rw [List.length_map]; omega, ?_⟩)
        refine hnx2 _ _ ⟨ns ++ [lt], _, _, _, _, rfl, (btN.trans (But.of s4)).wr, by rw [put_same, List.map_append]; rfl, by rw [List.length_append, hnl]; rfl, fun n hn => ?_⟩
        rcases List.mem_append.mp hn with hn | hn
        · exact hns n hn
        · rw [List.mem_singleton.mp hn]; exact hlt
    · rintro σ h3 ⟨ns, v9, v10, v11, v12, rfl, btN, eN, hnl, hns⟩
      rw [wide] at hnl
      walk_at "dgo"
      have pool3 := (pool7.butA btN List.mem_cons_self (by rw [eN]; exact fun y => by cases y))
      have eT3 := btN _ _ nTN eT7
      refine lstAt_of eT3 ?_
      refine ⟨p, _, 2, rfl, rfl, by decide, by decide, pool3, fun d h8 hd pool8 bt8 => ?_⟩
      walk_at "dgo"
      refine lstAt_of (bt8 _ _ nNp eN) ⟨by omega, lstAt_of (bt8 _ _ nTp eT3) ⟨by rw [List.length_map]; omega, ?_⟩⟩
      refine hnx _ _ ⟨rows ++ [(decide ((d : Int) = 0), ns)], _, _, _, _, _, _, rfl, (pool8.drop).put List.mem_cons_self, ?_, ?_, ?_, ?_, fun e he => ?_⟩
      · exact ((bt7.over btN ((bt6.free nNp nN))).trans bt8).fresh ((bt4'.trans (But.of (Sub.new nM2))).free nTp nT)
      · rw [put_ne nKT]; exact bt8 _ _ nKp (btN _ _ nKN eK7)
      · rw [put_same, List.map_append]; rfl
      · rw [List.length_append, hrl]; rfl
      · rcases List.mem_append.mp he with he | he
        · exact hrows e he
        · rw [List.mem_singleton.mp he]
          exact ⟨hnl, hns⟩
  · rintro σ h6 ⟨rows, v7, v8, v9, v10, v11, v12, rfl, pool6, bt6, eK6, eT6, hrl, hrows⟩
    walk_at "dgo"
    exact Wk.of (q Tt rows h6 ⟨by omega, by omega, fun e he => by rw [hrl]; exact hrows e he⟩ eT6 pool6.drop.drop bt6)
end
end My
namespace My
open PySem PySem.Spec PyProof.Rows L2 DL
def sp_wdrawn_table : DSp := sp5 fun a b c d e h P => ∃ (p : Addr) (A : List Addr) (r l m : Nat) (pl : Bool), a = .ref p ∧ b = nD r ∧ c = nD l ∧ d = nD m ∧ e = .bl pl ∧ 2 ≤ r ∧ r ≤ 4 ∧ 1 ≤ l ∧ l ≤ 2 ∧ 1 ≤ m ∧ m ≤ 8 ∧ PoolAt h p A ∧
  ∀ t tbl h', TblOk r l tbl → h' t = some (.lst (tbl.map rowD)) → PoolAt h' p A → But p h h' → P (.ref t) h'
section
variable {P : Program} {w : World} {K : PySem.W.Frag} {mg : Str → Option Value} {base : Heap}
theorem ok_wdrawn_table (T : Txt K mg) : DFn P w K mg base 2 T.a_wdrawn_table T.d_wdrawn_table ["pool", "rows", "letters", "many", "plain"] sp_wdrawn_table := by
  refine dfn5 T.F_wdrawn_table sc_wdrawn_table rfl (fun cdv A outer s H E hr => ⟨_, (dss_cons (ds_set (i := 5) sc_wdrawn_table.nd rfl (by first | exact Or.inl rfl | exact Or.inr rfl) (de_op op_dSub (de_callB call_dLen (by rfl) T.b_len (by decide +kernel) (da_cons (de_call (ok_wcolumns T) (hr.mono (by decide)) (by rfl) T.m_wcolumns T.F_wcolumns.kp T.b_wcolumns (da_cons (de_var 1) (da_cons (de_var 2) da_nil))) da_nil)) de_int))
  (dss_cons (ds_set (i := 6) sc_wdrawn_table.nd rfl (by first | exact Or.inl rfl | exact Or.inr rfl) (de_lst da_nil))
  (dss_cons (ds_for PassesOwn.never rfl (di_range1 (by rfl) T.b_range (da_cons (de_var 3) da_nil)) (dg_name (i := 7) sc_wdrawn_table.nd rfl (by first | exact Or.inl rfl | exact Or.inr rfl))
  (dss_cons (ds_set (i := 8) sc_wdrawn_table.nd rfl (by first | exact Or.inl rfl | exact Or.inr rfl) (de_call (ok_wdraw T) (hr.mono (by decide)) (by rfl) T.m_wdraw T.F_wdraw.kp T.b_wdraw (da_cons (de_var 0) (da_cons (de_var 3) da_nil))))
  (dss_cons (ds_set (i := 9) sc_wdrawn_table.nd rfl (by first | exact Or.inl rfl | exact Or.inr rfl) (de_lst da_nil))
  (dss_cons (ds_for PassesOwn.never rfl (di_range1 (by rfl) T.b_range (da_cons (de_var 5) da_nil)) (dg_name (i := 10) sc_wdrawn_table.nd rfl (by first | exact Or.inl rfl | exact Or.inr rfl))
  (dss_cons (ds_set (i := 11) sc_wdrawn_table.nd rfl (by first | exact Or.inl rfl | exact Or.inr rfl) (de_call (ok_wdraw T) (hr.mono (by decide)) (by rfl) T.m_wdraw T.F_wdraw.kp T.b_wdraw (da_cons (de_var 0) (da_cons (de_var 3) da_nil))))
  (dss_one (ds_expr (de_ml PySem.F.slot_list_append PySem.F.type_list_append mt_dAppend (de_var 9) (da_cons (de_ifExp (dw_and (dt_val (de_var 4)) (dw_and1 (dt_cmp op_dGt (de_call (ok_wdraw T) (hr.mono (by decide)) (by rfl) T.m_wdraw T.F_wdraw.kp T.b_wdraw (da_cons (de_var 0) (da_cons de_int da_nil))) de_int (nomark _)))).dt (de_var 8) (de_var 11)) da_nil))))))
  (dss_one (ds_expr (de_ml PySem.F.slot_list_append PySem.F.type_list_append mt_dAppend (de_var 6) (da_cons (de_tup (da_cons (de_cmp op_dEq (de_call (ok_wdraw T) (hr.mono (by decide)) (by rfl) T.m_wdraw T.F_wdraw.kp T.b_wdraw (da_cons (de_var 0) (da_cons de_int da_nil))) de_int (nomark _)) (da_cons (de_callTy call_dTupOf (by rfl) T.b_tuple (by decide +kernel) (da_cons (de_var 9) da_nil)) da_nil))) da_nil))))))))
  (dss_one (ds_ret (de_var 6)))))), fun p0 p1 p2 p3 p4 h Q q => ?_⟩)
  rw [show dstart ["pool", "rows", "letters", "many", "plain", "wide", "table", "standing", "usual", "nexts", "column", "later"] [p0, p1, p2, p3, p4] = [some p0, some p1, some p2, some p3, some p4, none, none, none, none, none, none, none] from rfl]
  obtain ⟨p, A, r, l, m, pl, rfl, rfl, rfl, rfl, rfl, r2, r4, l1, l2, m1, m8, pool, q⟩ := q
  have line81 := line81
  have clen : (cols r (sg l)).length = (l + 1) ^ r := by rw [cols_len, sg_len l2]
  have cpos : 1 ≤ (l + 1) ^ r := Nat.pow_pos (by omega)
  have c81 := cols_small l2 r4
  walk_at "dgo"
  refine ⟨r, l, rfl, rfl, r4, l1, l2, fun c1 nc1 => ?_⟩
  walk_at "dgo"
  refine lstAt_of put_same ⟨Nat.zero_le _, fun Tt nT => ⟨by omega, ?_⟩⟩
  rw [Int.toNat_natCast, List.length_map, clen]
  have pool5 := (pool.sub (Sub.new (o := .lst ((cols r (sg l)).map encC)) nc1)).new (o := .lst []) nT
  have bt5 : But p h _ := (But.of (Sub.new (o := .lst ((cols r (sg l)).map encC)) nc1)).trans (But.of (Sub.new (o := .lst []) nT))
  have nTp : Tt ≠ p := pool5.ne List.mem_cons_self
  have nT0 : h Tt = none := (Sub.new nc1).free nT
  refine for_nums (fun i σ h' => ∃ (rows : List (Bool × List Nat)) (v7 v8 v9 v10 v11 : Option D), σ = [some (.ref p), some (nD r), some (nD l), some (nD m), some (.bl pl), some (.int (((l + 1) ^ r : Nat) - 1)), some (.ref Tt), v7, v8, v9, v10, v11] ∧ PoolAt h' p (Tt :: A) ∧ But p h h' ∧ h' Tt = some (.lst (rows.map rowD)) ∧ rows.length = i ∧
    ∀ e ∈ rows, e.2.length = (l + 1) ^ r - 1 ∧ ∀ n ∈ e.2, n < m) ⟨[], none, none, none, none, none, rfl, pool5, bt5, put_same, rfl, fun e he => by cases he⟩ ?_ ?_
  · rintro i σ h6 hi ⟨rows, v7, v8, v9, v10, v11, rfl, pool6, bt6, eT6, hrl, hrows⟩ nx hnx
    walk_at "dgo"
    refine ⟨p, _, m, rfl, rfl, by omega, by omega, pool6, fun us h7 hus pool7 bt7 => ?_⟩
    walk_at "dgo"
    refine ⟨Nat.zero_le _, fun N nN => ⟨by omega, ?_⟩⟩
    rw [show (((l + 1) ^ r : Nat) - 1 : Int).toNat = (l + 1) ^ r - 1 by omega]
    have nNp := pool7.neN nN
    have eT7 := bt7 _ _ nTp eT6
    have nTN : Tt ≠ N := ne_none eT7 nN
    have nN6 := bt7.free nNp nN
    have nN0 := bt6.free nNp nN6
    refine for_nums (fun j σ h3 => ∃ (ns : List Nat) (v10 v11 : Option D), σ = [some (.ref p), some (nD r), some (nD l), some (nD m), some (.bl pl), some (.int (((l + 1) ^ r : Nat) - 1)), some (.ref Tt), some (.int (0 + i)), some (.int us), some (.ref N), v10, v11] ∧ PoolAt h3 p (N :: Tt :: A) ∧ But p h6 h3 ∧ h3 N = some (.lst (ns.map nD)) ∧ ns.length = j ∧ ∀ n ∈ ns, n < m)
      ⟨[], v10, v11, rfl, pool7.new nN, bt7.fresh nN6, put_same, rfl, fun n hn => by cases hn⟩ ?_ ?_
    · rintro j σ h3 hj ⟨ns, v10, v11, rfl, pool3, bt3, eN, hnl, hns⟩ nx2 hnx2
      have nNp3 : N ≠ p := nNp
      walk_at "dgo"
      refine ⟨p, _, m, rfl, rfl, by omega, by omega, pool3, fun lt h4 hlt pool4 bt4 => ?_⟩
      have eN4 := bt4 _ _ nNp eN
      have put2 : ∀ (x : Nat) h5, x < m → PoolAt h5 p (N :: Tt :: A) → But p h4 h5 → ∃ (ns : List Nat) (v10' v11 : Option D), [some (.ref p), some (nD r), some (nD l), some (nD m), some (.bl pl), some (.int (((l + 1) ^ r : Nat) - 1)), some (.ref Tt), some (.int (0 + i)), some (.int us), some (.ref N), some (.int (0 + j)), some (.int (lt : Int))] = [some (.ref p), some (nD r), some (nD l), some (nD m), some (.bl pl), some (.int (((l + 1) ^ r : Nat) - 1)), some (.ref Tt), some (.int (0 + i)), some (.int us), some (.ref N), v10', v11] ∧ PoolAt (put h5 N (.lst (ns.map nD))) p (N :: Tt :: A) ∧ But p h6 (put h5 N (.lst (ns.map nD))) ∧ (put h5 N (.lst (ns.map nD))) N = some (.lst (ns.map nD)) ∧ ns.length = j + 1 ∧ ∀ n ∈ ns, n < m := fun x h5 hx pool5 bt5 =>
        ⟨ns ++ [x], _, _, rfl, pool5.put List.mem_cons_self, ((bt3.trans bt4).trans bt5).fresh nN6, put_same, by rw [List.length_append, hnl]; rfl, fun n hn => by
          rcases List.mem_append.mp hn with hn | hn
          · exact hns n hn
          · rw [List.mem_singleton.mp hn]; exact hx⟩
      walk_at "dgo"
      refine lstAt_of eN4 ?_
      have both : ∀ (x : Nat) h5, x < m → PoolAt h5 p (N :: Tt :: A) → But p h4 h5 → lstAt h5 N fun xs => xs.length < sizeLine ∧ nx2 [some (.ref p), some (nD r), some (nD l), some (nD m), some (.bl pl), some (.int (((l + 1) ^ r : Nat) - 1)), some (.ref Tt), some (.int (0 + i)), some (.int us), some (.ref N), some (.int (0 + j)), some (.int (lt : Int))] (put h5 N (.lst (xs ++ [.int x]))) := fun x h5 hx pool5 bt5 => by
        refine lstAt_of (bt5 _ _ nNp eN4) ⟨by rw [List.length_map]; omega, hnx2 _ _ ?_⟩
        refine ⟨ns ++ [x], _, _, rfl, pool5.put List.mem_cons_self, ((bt3.trans bt4).trans bt5).fresh nN6, by rw [put_same, List.map_append]; rfl, by rw [List.length_append, hnl]; rfl, fun n hn => ?_⟩
        rcases List.mem_append.mp hn with hn | hn
        · exact hns n hn
        · rw [List.mem_singleton.mp hn]; exact hx
      cases pl <;> walk_at "dgo"
      · exact both lt h4 hlt pool4 (But.refl _ _)
      · refine ⟨p, _, 3, rfl, rfl, by decide, by decide, pool4, fun d h5 hd pool5 bt5 => ?_⟩
        walk_at "dgo"
        cases decide ((d : Int) > 0) <;> walk_at "dgo"
        · exact both lt h5 hlt pool5 bt5
        · exact both us h5 hus pool5 bt5
    · rintro σ h3 ⟨ns, v10, v11, rfl, pool3, bt3, eN, hnl, hns⟩
      have eT3 := bt3 _ _ nTp eT6
      walk_at "dgo"
      refine lstAt_of eT3 ⟨p, _, 2, rfl, rfl, by decide, by decide, pool3, fun d h8 hd pool8 bt8 => ?_⟩
      walk_at "dgo"
      refine lstAt_of (bt8 _ _ nNp eN) ⟨by omega, lstAt_of (bt8 _ _ nTp eT3) ⟨by rw [List.length_map]; omega, ?_⟩⟩
      refine hnx _ _ ⟨rows ++ [(decide ((d : Int) = 0), ns)], _, _, _, _, _, rfl, (pool8.drop).put List.mem_cons_self, ((bt6.trans bt3).trans bt8).fresh nT0, ?_, ?_, fun e he => ?_⟩
      · rw [put_same, List.map_append]; rfl
      · rw [List.length_append, hrl]; rfl
      · rcases List.mem_append.mp he with he | he
        · exact hrows e he
        · rw [List.mem_singleton.mp he]
          exact ⟨hnl, hns⟩
  · rintro σ h6 ⟨rows, v7, v8, v9, v10, v11, rfl, pool6, bt6, eT6, hrl, hrows⟩
    walk_at "dgo"
    exact Wk.of (q Tt rows h6 ⟨by omega, by omega, fun e he => by rw [hrl]; exact hrows e he⟩ eT6 pool6.drop bt6)
end
end My
namespace My
open PySem PySem.Spec PyProof.Rows L2 DL
abbrev sp_wfirst_signs : DSp := tblSp
theorem dig_le {l s : Nat} (hl : l ≤ 2) (h : s ∈ sg l) : dig s ≤ l := by have := (sg_at hl h).2; omega
section
variable {P : Program} {w : World} {K : PySem.W.Frag} {mg : Str → Option Value} {base : Heap}
theorem ok_wfirst_signs (T : Txt K mg) : DFn P w K mg base 2 T.a_wfirst_signs T.d_wfirst_signs ["pool", "rows", "letters"] sp_wfirst_signs := by
  refine dfn3 T.F_wfirst_signs sc_wfirst_signs rfl (fun cdv A outer s H E hr => ⟨_, (dss_cons (ds_asg (de_tup (da_cons (de_call (ok_wdraw T) (hr.mono (by decide)) (by rfl) T.m_wdraw T.F_wdraw.kp T.b_wdraw (da_cons (de_var 0) (da_cons (de_var 1) da_nil))) (da_cons (de_call (ok_wdraw T) (hr.mono (by decide)) (by rfl) T.m_wdraw T.F_wdraw.kp T.b_wdraw (da_cons (de_var 0) (da_cons (de_var 1) da_nil))) da_nil))) (dg_tup (n := 2) rfl (dgs_cons (dg_name (i := 3) sc_wfirst_signs.nd rfl (by first | exact Or.inl rfl | exact Or.inr rfl)) (dgs_cons (dg_name (i := 4) sc_wfirst_signs.nd rfl (by first | exact Or.inl rfl | exact Or.inr rfl)) dgs_nil))))
  (dss_cons (ds_set (i := 5) sc_wfirst_signs.nd rfl (by first | exact Or.inl rfl | exact Or.inr rfl) (de_lst da_nil))
  (dss_cons (ds_setLc (i := 6) (own := [("column", 9)]) rfl sc_wfirst_signs.nd rfl rfl (sw_true rfl rfl rfl (by decide +kernel)) (di_list (de_sl (de_call (ok_wcolumns T) (hr.mono (by decide)) (by rfl) T.m_wcolumns T.F_wcolumns.kp T.b_wcolumns (da_cons (de_var 1) (da_cons (de_var 2) da_nil))) (do_some de_int) do_none)) (blkOk_by (N := ["pool", "rows", "letters", "row", "other", "table", "nexts", "at", "stays", "column"]) (sc := defScope s_wfirst_signs) (own := [("column", 9)]) (by decide +kernel)) (by decide) (fun _ _ _ _ _ => (dg_name (i := 9) sc_wfirst_signs.nd rfl (by first | exact Or.inl rfl | exact Or.inr rfl))) (fun _ _ _ _ _ => dts_nil) (fun _ _ _ _ _ => (de_op op_dAdd de_int (de_ms PySem.F.slot_str_find PySem.F.type_str_find mt_dFind de_str (de_ix (de_var 9) (de_var 3))))))
  (dss_cons (ds_expr (de_ml PySem.F.slot_list_append PySem.F.type_list_append mt_dAppend (de_var 5) (da_cons (de_tup (da_cons (de_cmp op_dEq (de_call (ok_wdraw T) (hr.mono (by decide)) (by rfl) T.m_wdraw T.F_wdraw.kp T.b_wdraw (da_cons (de_var 0) (da_cons de_int da_nil))) de_int (nomark _)) (da_cons (de_callTy call_dTupOf (by rfl) T.b_tuple (by decide +kernel) (da_cons (de_var 6) da_nil)) da_nil))) da_nil)))
  (dss_cons (ds_for PassesOwn.never rfl (di_range1 (by rfl) T.b_range (da_cons (de_op op_dAdd (de_var 2) de_int) da_nil)) (dg_name (i := 7) sc_wfirst_signs.nd rfl (by first | exact Or.inl rfl | exact Or.inr rfl))
  (dss_cons (ds_setLc (i := 8) (own := [("column", 9)]) rfl sc_wfirst_signs.nd rfl rfl (sw_true rfl rfl rfl (by decide +kernel)) (di_list (de_sl (de_call (ok_wcolumns T) (hr.mono (by decide)) (by rfl) T.m_wcolumns T.F_wcolumns.kp T.b_wcolumns (da_cons (de_var 1) (da_cons (de_var 2) da_nil))) (do_some de_int) do_none)) (blkOk_by (N := ["pool", "rows", "letters", "row", "other", "table", "nexts", "at", "stays", "column"]) (sc := defScope s_wfirst_signs) (own := [("column", 9)]) (by decide +kernel)) (by decide) (fun _ _ _ _ _ => (dg_name (i := 9) sc_wfirst_signs.nd rfl (by first | exact Or.inl rfl | exact Or.inr rfl))) (fun _ _ _ _ _ => dts_nil) (fun _ _ _ _ _ => (de_ifExp (dw_or (dt_cmp op_dEq (de_ix (de_var 9) (de_var 4)) de_str (nomark _)) (dw_or1 (dt_cmp op_dGt (de_var 7) de_int (nomark _)))).dt (de_op op_dAdd de_int (de_var 7)) de_int)))
  (dss_one (ds_expr (de_ml PySem.F.slot_list_append PySem.F.type_list_append mt_dAppend (de_var 5) (da_cons (de_tup (da_cons (de_cmp op_dEq (de_call (ok_wdraw T) (hr.mono (by decide)) (by rfl) T.m_wdraw T.F_wdraw.kp T.b_wdraw (da_cons (de_var 0) (da_cons de_int da_nil))) de_int (nomark _)) (da_cons (de_callTy call_dTupOf (by rfl) T.b_tuple (by decide +kernel) (da_cons (de_var 8) da_nil)) da_nil))) da_nil))))))
  (dss_one (ds_ret (de_var 5)))))))), fun p0 p1 p2 h Q q => ?_⟩)
  rw [show dstart ["pool", "rows", "letters", "row", "other", "table", "nexts", "at", "stays", "column"] [p0, p1, p2] = [some p0, some p1, some p2, none, none, none, none, none, none, none] from rfl]
  obtain ⟨p, A, r, l, rfl, rfl, rfl, r2, r4, l1, l2, pool, q⟩ := q
  have line81 := line81
  have c81 := cols_small l2 r4
  have tl81 : (((cols r (sg l)).tail).map encC).length ≤ 81 := by rw [List.length_map, List.length_tail]; omega
  walk_at "dgo"
  refine ⟨p, A, r, rfl, rfl, by omega, by omega, pool, fun row h1 hrow pool1 bt1 => ?_⟩
  refine ⟨p, A, r, rfl, rfl, by omega, by omega, pool1, fun other h2 hother pool2 bt2 => ?_⟩
  walk_at "dgo"
  refine ⟨by omega, Nat.zero_le _, fun Tt nT => ?_⟩
  refine ⟨r, l, rfl, rfl, r4, l1, l2, fun c1 nc1 => ?_⟩
  walk_at "dgo"
  refine lstAt_of put_same ?_
  rw [cut_one, map_encC_tail]
  intro c2 nc2
  refine lstAt_of put_same ?_
  have nTp := pool2.neN nT
  have nT0 := (bt1.trans bt2).free nTp nT
  have s3 : Sub (put h2 Tt (.lst [])) (put (put (put h2 Tt (.lst [])) c1 (.lst ((cols r (sg l)).map encC))) c2 (.lst (((cols r (sg l)).tail).map encC))) := (Sub.new nc1).trans (Sub.new nc2)
  have pool3 := (pool2.new (o := .lst []) nT).sub s3
  have bt3 : But p h _ := (bt1.trans bt2).trans (But.of ((Sub.new (o := .lst []) nT).trans s3))
  have eT3 := s3 _ _ put_same
  have ec3 : put (put (put h2 Tt (.lst [])) c1 (.lst ((cols r (sg l)).map encC))) c2 (.lst (((cols r (sg l)).tail).map encC)) c2 = some (.lst (((cols r (sg l)).tail).map encC)) := put_same
  generalize put (put (put h2 Tt (.lst [])) c1 (.lst ((cols r (sg l)).map encC))) c2 (.lst (((cols r (sg l)).tail).map encC)) = h3 at pool3 bt3 eT3 ec3
  intro L nL
  have ncL : c2 ≠ L := ne_none ec3 nL
  have nTL : Tt ≠ L := ne_none eT3 nL
  have nLp := pool3.neN nL
  refine lc_inv (fun i acc h' => ∃ ns : List Nat, acc = ns.map nD ∧ ns.length = i ∧ (∀ n ∈ ns, n < l + 2) ∧ h' = put h3 L (.lst acc)) _ put_same ⟨[], rfl, rfl, (fun n hn => by cases hn), rfl⟩ (fun i acc h' e z => ?_) (by omega) (fun i x acc h' hx hl eL z R R' hR hR' => ?_) (fun acc h' hl eL z => ?_)
  · obtain ⟨ns, _, _, _, rfl⟩ := z
    rw [put_ne ncL]; exact ec3
  · obtain ⟨ns, rfl, hnl, hns, rfl⟩ := z
    rw [List.getElem?_map] at hx
    obtain ⟨c, hc, rfl⟩ := Option.map_eq_some_iff.mp hx
    have hc2 : c ∈ cols r (sg l) := List.mem_of_mem_tail (List.mem_of_getElem? hc)
    obtain ⟨sgn, _, hsg, esg⟩ := col_str hc2 hrow
    unfold encC
    walk_at "dgo"
    refine oAt_of esg ?_
    unfold sgD
    walk_at "dgo"
    rw [dab_find sgn (sg_sub hsg), show (1 : Int) + (dig sgn : Int) = ((1 + dig sgn : Nat) : Int) by omega]
    refine hR _ _ put_same ⟨ns ++ [1 + dig sgn], by rw [List.map_append]; rfl, by rw [List.length_append, hnl]; rfl, fun n hn => ?_, by rw [put_put]⟩
    rcases List.mem_append.mp hn with hn | hn
    · exact hns n hn
    · rw [List.mem_singleton.mp hn]
      have := dig_le l2 hsg
      omega
  obtain ⟨ns, rfl, hnl, hns, rfl⟩ := z
  rw [List.length_map, tail_len l2] at hnl
  refine lstAt_of (by rw [put_ne nTL]; exact eT3) ?_
  refine ⟨p, _, 2, rfl, rfl, by decide, by decide, pool3.new nL, fun d h5 hd pool5 bt5 => ?_⟩
  walk_at "dgo"
  refine lstAt_of (bt5 _ _ nLp put_same) ⟨by omega, lstAt_of (bt5 _ _ nTp (by rw [put_ne nTL]; exact eT3)) ⟨by show 0 < _; omega, ⟨by omega, ?_⟩⟩⟩
  rw [show ((l : Int) + 1).toNat = l + 1 by omega]
  refine for_nums (fun i σ h' => ∃ (rows : List (Bool × List Nat)) (v7 v8 : Option D), σ = [some (.ref p), some (nD r), some (nD l), some (.int row), some (.int other), some (.ref Tt), some (.ref L), v7, v8, none] ∧ PoolAt h' p (Tt :: A) ∧ But p h h' ∧ h' Tt = some (.lst (rows.map rowD)) ∧ rows.length = 1 + i ∧
    ∀ e ∈ rows, e.2.length = (l + 1) ^ r - 1 ∧ ∀ n ∈ e.2, n < l + 2) ⟨[(decide ((d : Int) = 0), ns)], none, none, rfl, pool5.drop.put List.mem_cons_self, ((bt3.trans (But.of (Sub.new nL))).trans bt5).fresh nT0, by rw [put_same]; rfl, rfl, fun e he => ?_⟩ ?_ ?_
  · rw [List.mem_singleton.mp he]
    exact ⟨hnl, hns⟩
  · clear eL hl ec3 ncL pool3 bt3 eT3 nTL nLp nL pool5 bt5 s3 nc1 nc2 hns hnl
    rintro i σ h6 hi ⟨rows, v7, v8, rfl, pool6, bt6, eT6, hrl, hrows⟩ nx hnx
    walk_at "dgo"
    refine ⟨r, l, rfl, rfl, r4, l1, l2, fun c1 nc1 => ?_⟩
    walk_at "dgo"
    refine lstAt_of put_same ?_
    rw [cut_one, map_encC_tail]
    intro c2 nc2
    refine lstAt_of put_same ?_
    have s3 : Sub h6 (put (put h6 c1 (.lst ((cols r (sg l)).map encC))) c2 (.lst (((cols r (sg l)).tail).map encC))) := (Sub.new nc1).trans (Sub.new nc2)
    have pool3 := pool6.sub s3
    have bt3 := bt6.trans (But.of s3)
    have eT3 := s3 _ _ eT6
    have ec3 : put (put h6 c1 (.lst ((cols r (sg l)).map encC))) c2 (.lst (((cols r (sg l)).tail).map encC)) c2 = some (.lst (((cols r (sg l)).tail).map encC)) := put_same
    generalize put (put h6 c1 (.lst ((cols r (sg l)).map encC))) c2 (.lst (((cols r (sg l)).tail).map encC)) = h3 at pool3 bt3 eT3 ec3
    intro L nL
    have ncL : c2 ≠ L := ne_none ec3 nL
    have nTL : Tt ≠ L := ne_none eT3 nL
    have nLp := pool3.neN nL
    refine lc_inv (fun i acc h' => ∃ ns : List Nat, acc = ns.map nD ∧ ns.length = i ∧ (∀ n ∈ ns, n < l + 2) ∧ h' = put h3 L (.lst acc)) _ put_same ⟨[], rfl, rfl, (fun n hn => by cases hn), rfl⟩ (fun i acc h' e z => ?_) (by omega) (fun k x acc h' hx hl eL z R R' hR hR' => ?_) (fun acc h' hl eL z => ?_)
    · obtain ⟨ns, _, _, _, rfl⟩ := z
      rw [put_ne ncL]; exact ec3
    · obtain ⟨ns, rfl, hnl, hns, rfl⟩ := z
      rw [List.getElem?_map] at hx
      obtain ⟨c, hc, rfl⟩ := Option.map_eq_some_iff.mp hx
      have hc2 : c ∈ cols r (sg l) := List.mem_of_mem_tail (List.mem_of_getElem? hc)
      obtain ⟨sgn, _, hsg, esg⟩ := col_str hc2 hother
      have both : ∀ n : Nat, n < l + 2 → R (.int n) (put h3 L (.lst (ns.map nD))) := fun n hn =>
        hR _ _ put_same ⟨ns ++ [n], by rw [List.map_append]; rfl, by rw [List.length_append, hnl]; rfl, fun m hm => by
          rcases List.mem_append.mp hm with hm | hm
          · exact hns m hm
          · rw [List.mem_singleton.mp hm]; exact hn, by rw [put_put]⟩
      have one := both 1 (by omega)
      have more := both (1 + i) (by omega)
      rw [show ((1 + i : Nat) : Int) = 1 + (0 + (i : Int)) by omega] at more
      unfold encC
      walk_at "dgo"
      refine oAt_of esg ?_
      unfold sgD
      walk_at "dgo"
      cases decide ((⟨#[sgn]⟩ : Str) = "-") <;> walk_at "dgo"
      · cases decide ((0 + (i : Int)) > 0) <;> walk_at "dgo"
        · exact one
        · exact more
      · exact more
    obtain ⟨ns, rfl, hnl, hns, rfl⟩ := z
    rw [List.length_map, tail_len l2] at hnl
    refine lstAt_of (by rw [put_ne nTL]; exact eT3) ?_
    refine ⟨p, _, 2, rfl, rfl, by decide, by decide, pool3.new nL, fun d h5 hd pool5 bt5 => ?_⟩
    walk_at "dgo"
    refine lstAt_of (bt5 _ _ nLp put_same) ⟨by omega, lstAt_of (bt5 _ _ nTp (by rw [put_ne nTL]; exact eT3)) ⟨by rw [List.length_map]; omega, ?_⟩⟩
    refine hnx _ _ ⟨rows ++ [(decide ((d : Int) = 0), ns)], _, _, rfl, pool5.drop.put List.mem_cons_self, ((bt3.trans (But.of (Sub.new nL))).trans bt5).fresh nT0, ?_, ?_, fun e he => ?_⟩
    · rw [put_same, List.map_append]; rfl
    · rw [List.length_append, hrl]; rfl
    · rcases List.mem_append.mp he with he | he
      · exact hrows e he
      · rw [List.mem_singleton.mp he]
        exact ⟨hnl, hns⟩
  · rintro σ h6 ⟨rows, v7, v8, rfl, pool6, bt6, eT6, hrl, hrows⟩
    walk_at "dgo"
    exact Wk.of (q Tt rows h6 ⟨by omega, by omega, fun e he => by rw [hrl, show 1 + (l + 1) = l + 2 by omega]; exact hrows e he⟩ eT6 pool6.drop bt6)
end
end My
namespace My
open PySem PySem.Spec PyProof.Rows L2 DL
abbrev sp_wcompared : DSp := tblSp
section
variable {P : Program} {w : World} {K : PySem.W.Frag} {mg : Str → Option Value} {base : Heap}
theorem ok_wcompared (T : Txt K mg) : DFn P w K mg base 2 T.a_wcompared T.d_wcompared ["pool", "rows", "letters"] sp_wcompared := by
  refine dfn3 T.F_wcompared sc_wcompared rfl (fun cdv A outer s H E hr => ⟨_, (dss_cons (ds_set (i := 3) sc_wcompared.nd rfl (by first | exact Or.inl rfl | exact Or.inr rfl) (de_call (ok_wdraw T) (hr.mono (by decide)) (by rfl) T.m_wdraw T.F_wdraw.kp T.b_wdraw (da_cons (de_var 0) (da_cons (de_op op_dSub (de_var 1) de_int) da_nil))))
  (dss_cons (ds_set (i := 4) sc_wcompared.nd rfl (by first | exact Or.inl rfl | exact Or.inr rfl) (de_op op_dAdd (de_op op_dAdd (de_var 3) de_int) (de_call (ok_wdraw T) (hr.mono (by decide)) (by rfl) T.m_wdraw T.F_wdraw.kp T.b_wdraw (da_cons (de_var 0) (da_cons (de_op op_dSub (de_op op_dSub (de_var 1) (de_var 3)) de_int) da_nil)))))
  (dss_cons (ds_set (i := 5) sc_wcompared.nd rfl (by first | exact Or.inl rfl | exact Or.inr rfl) (de_cmp op_dEq (de_call (ok_wdraw T) (hr.mono (by decide)) (by rfl) T.m_wdraw T.F_wdraw.kp T.b_wdraw (da_cons (de_var 0) (da_cons de_int da_nil))) de_int (nomark _)))
  (dss_cons (ds_set (i := 6) sc_wcompared.nd rfl (by first | exact Or.inl rfl | exact Or.inr rfl) (de_lst da_nil))
  (dss_cons (ds_for PassesOwn.never rfl (di_list (de_sl (de_call (ok_wcolumns T) (hr.mono (by decide)) (by rfl) T.m_wcolumns T.F_wcolumns.kp T.b_wcolumns (da_cons (de_var 1) (da_cons (de_var 2) da_nil))) (do_some de_int) do_none)) (dg_name (i := 7) sc_wcompared.nd rfl (by first | exact Or.inl rfl | exact Or.inr rfl))
  (dss_cons (ds_set (i := 8) sc_wcompared.nd rfl (by first | exact Or.inl rfl | exact Or.inr rfl) (de_tup (da_cons (de_ix (de_var 7) (de_var 3)) (da_cons (de_ix (de_var 7) (de_var 4)) da_nil))))
  (dss_cons (ds_set (i := 9) sc_wcompared.nd rfl (by first | exact Or.inl rfl | exact Or.inr rfl) (de_ifExp (dt_val (de_var 5)) (de_cmp op_dNe (de_ix (de_var 8) de_int) (de_ix (de_var 8) de_int) (nomark _)) (de_cmp op_dNe (de_cmp op_dEq (de_ix (de_var 8) de_int) de_str (nomark _)) (de_cmp op_dEq (de_ix (de_var 8) de_int) de_str (nomark _)) (nomark _))))
  (dss_one (ds_expr (de_ml PySem.F.slot_list_append PySem.F.type_list_append mt_dAppend (de_var 6) (da_cons (de_callTy call_dInt (by rfl) T.b_int (by decide +kernel) (da_cons (de_var 9) da_nil)) da_nil)))))))
  (dss_one (ds_ret (de_lst (da_cons (de_tup (da_cons (de_cmp op_dEq (de_call (ok_wdraw T) (hr.mono (by decide)) (by rfl) T.m_wdraw T.F_wdraw.kp T.b_wdraw (da_cons (de_var 0) (da_cons de_int da_nil))) de_int (nomark _)) (da_cons (de_callTy call_dTupOf (by rfl) T.b_tuple (by decide +kernel) (da_cons (de_var 6) da_nil)) da_nil))) (da_cons (de_tup (da_cons (de_cmp op_dEq (de_call (ok_wdraw T) (hr.mono (by decide)) (by rfl) T.m_wdraw T.F_wdraw.kp T.b_wdraw (da_cons (de_var 0) (da_cons de_int da_nil))) de_int (nomark _)) (da_cons (de_op op_dMul (de_tup (da_cons de_int da_nil)) (de_callB call_dLen (by rfl) T.b_len (by decide +kernel) (da_cons (de_var 6) da_nil))) da_nil))) da_nil)))))))))), fun p0 p1 p2 h Q q => ?_⟩)
  rw [show dstart ["pool", "rows", "letters", "one", "other", "by_letter", "nexts", "column", "pair", "unlike"] [p0, p1, p2] = [some p0, some p1, some p2, none, none, none, none, none, none, none] from rfl]
  obtain ⟨p, A, r, l, rfl, rfl, rfl, r2, r4, l1, l2, pool, q⟩ := q
  have line81 := line81
  have c81 := cols_small l2 r4
  have tl81 : (((cols r (sg l)).tail).map encC).length ≤ 81 := by rw [List.length_map, List.length_tail]; omega
  have w3 : 3 ≤ (l + 1) ^ r - 1 := by
    have h1 : 2 ^ r ≤ (l + 1) ^ r := Nat.pow_le_pow_left (by omega) r
    have h2 : 2 ^ 2 ≤ 2 ^ r := Nat.pow_le_pow_right (by decide) r2
    omega
  walk_at "dgo"
  refine ⟨p, A, r - 1, rfl, by congr 1; omega, by omega, by omega, pool, fun one h1 hone pool1 bt1 => ?_⟩
  walk_at "dgo"
  refine ⟨p, A, r - one - 1, rfl, by congr 1; omega, by omega, by omega, pool1, fun oth h2 hoth pool2 bt2 => ?_⟩
  walk_at "dgo"
  refine ⟨p, A, 2, rfl, rfl, by decide, by decide, pool2, fun bl h3 hbl pool3 bt3 => ?_⟩
  walk_at "dgo"
  refine ⟨Nat.zero_le _, fun N nN => ?_⟩
  refine ⟨r, l, rfl, rfl, r4, l1, l2, fun c1 nc1 => ?_⟩
  walk_at "dgo"
  refine lstAt_of put_same ?_
  rw [cut_one, map_encC_tail]
  intro c2 nc2
  refine lstAt_of put_same ?_
  have b3 := (bt1.trans bt2).trans bt3
  have nNp := pool3.neN nN
  have nN0 := b3.free nNp nN
  have s4 : Sub (put h3 N (.lst [])) (put (put (put h3 N (.lst [])) c1 (.lst ((cols r (sg l)).map encC))) c2 (.lst (((cols r (sg l)).tail).map encC))) := (Sub.new nc1).trans (Sub.new nc2)
  have pool4 := (pool3.new (o := .lst []) nN).sub s4
  have bt4 : But p h _ := b3.trans (But.of ((Sub.new (o := .lst []) nN).trans s4))
  have eN4 := s4 _ _ put_same
  have ec4 : put (put (put h3 N (.lst [])) c1 (.lst ((cols r (sg l)).map encC))) c2 (.lst (((cols r (sg l)).tail).map encC)) c2 = some (.lst (((cols r (sg l)).tail).map encC)) := put_same
  have ncN : c2 ≠ N := fun z => by rw [z, put_ne (ne_none put_same nc1), put_same] at nc2; cases nc2
  generalize put (put (put h3 N (.lst [])) c1 (.lst ((cols r (sg l)).map encC))) c2 (.lst (((cols r (sg l)).tail).map encC)) = h4 at pool4 bt4 eN4 ec4
  rw [show ((one : Int) + 1 + (oth : Int)) = ((one + 1 + oth : Nat) : Int) by omega]
  refine for_each (fun j σ h' => ∃ (ns : List Nat) (v7 v8 v9 : Option D), σ = [some (.ref p), some (nD r), some (nD l), some (.int one), some (.int ((one + 1 + oth : Nat) : Int)), some (.bl (decide ((bl : Int) = 0))), some (.ref N), v7, v8, v9] ∧ But N h4 h' ∧ h' N = some (.lst (ns.map nD)) ∧ ns.length = j ∧ ∀ n ∈ ns, n < 2) _
    ⟨[], none, none, none, rfl, But.refl _ _, eN4, rfl, fun n hn => by cases hn⟩ ?_ ?_ ?_
  · rintro j σ h' ⟨ns, v7, v8, v9, rfl, btN, eN, hnl, hns⟩
    exact btN _ _ ncN ec4
  · rintro j x σ h' hx ⟨ns, v7, v8, v9, rfl, btN, eN, hnl, hns⟩ nx hnx
    have hj : j < (((cols r (sg l)).tail).map encC).length := (List.getElem?_eq_some_iff.mp hx).1
    rw [List.getElem?_map] at hx
    obtain ⟨c, hc, rfl⟩ := Option.map_eq_some_iff.mp hx
    have hc2 : c ∈ cols r (sg l) := List.mem_of_mem_tail (List.mem_of_getElem? hc)
    obtain ⟨sg1, _, _, es1⟩ := col_str hc2 (show one < r by omega)
    obtain ⟨sg2, _, _, es2⟩ := col_str hc2 (show one + 1 + oth < r by omega)
    have both : ∀ (b : Bool) (v8 v9 : Option D), lstAt h' N fun xs => xs.length < sizeLine ∧ nx [some (.ref p), some (nD r), some (nD l), some (.int one), some (.int ((one + 1 + oth : Nat) : Int)), some (.bl (decide ((bl : Int) = 0))), some (.ref N), some (encC c), v8, v9] (put h' N (.lst (xs ++ [.int (if b = true then 1 else 0)]))) := fun b v8 v9 => by
      refine lstAt_of eN ⟨by rw [List.length_map]; omega, hnx _ _ ⟨ns ++ [if b = true then 1 else 0], _, _, _, rfl, btN.wr, by rw [put_same, List.map_append]; cases b <;> rfl, by rw [List.length_append, hnl]; rfl, fun n hn => ?_⟩⟩
      rcases List.mem_append.mp hn with hn | hn
      · exact hns n hn
      · rw [List.mem_singleton.mp hn]; cases b <;> decide
    unfold encC at both ⊢
    walk_at "dgo"
    refine oAt_of es1 (oAt_of es2 ?_)
    unfold sgD
    walk_at "dgo"
    refine ⟨by omega, ?_⟩
    split
    · exact lstAt_of eN (both _ _ _)
    · exact lstAt_of eN (both _ _ _)
  · rintro σ h' ⟨ns, v7, v8, v9, rfl, btN, eN, hnl, hns⟩
    rw [List.length_map, tail_len l2] at hnl
    walk_at "dgo"
    have w80 : ns.length ≤ 81 := by rw [hnl, ← tail_len l2, ← List.length_map (f := encC)]; exact tl81
    refine ⟨p, _, 2, rfl, rfl, by decide, by decide, pool4.butA btN List.mem_cons_self (by rw [eN]; exact fun y => by cases y), fun d h5 hd pool5 bt5 => ?_⟩
    walk_at "dgo"
    refine lstAt_of (bt5 _ _ nNp eN) ⟨by omega, p, _, 2, rfl, rfl, by decide, by decide, pool5, fun d2 h6 hd2 pool6 bt6 => ?_⟩
    walk_at "dgo"
    refine ⟨by omega, lstAt_of (bt6 _ _ nNp (bt5 _ _ nNp eN)) ⟨⟨List.cons_ne_nil _ _, by rw [List.length_map]; omega, by rw [List.length_map]; omega, by omega⟩, by omega, by omega, fun t nt => ?_⟩⟩
    refine Wk.of (q t [(decide ((d : Int) = 0), ns), (decide ((d2 : Int) = 0), List.replicate ns.length 1)] _ ⟨by show 1 ≤ 2; omega, by show 2 ≤ 8; omega, fun e he => ?_⟩ ?_ (pool6.drop.sub (Sub.new nt)) ((((bt4.over btN nN0).trans bt5).trans bt6).trans (But.of (Sub.new nt))))
    · rcases List.mem_cons.mp he with rfl | he
      · exact ⟨hnl, hns⟩
      · rw [List.mem_singleton.mp he]
        refine ⟨by rw [List.length_replicate]; exact hnl, fun n hn => ?_⟩
        rw [List.eq_of_mem_replicate hn]
        show 1 < 2
        omega
    · rw [put_same, List.length_map, Int.toNat_natCast, List.flatten_replicate_singleton, List.map_cons, List.map_cons, List.map_nil]
      unfold rowD
      rw [List.map_replicate]
      rfl
end
end My
namespace My
open PySem PySem.Spec PyProof.Rows L2 DL
def sp_wspec : DSp := sp2 fun a b h P => ∃ (p : Addr) (A : List Addr), a = .ref p ∧ b = .int 4 ∧ PoolAt h p A ∧ ∀ S h', S.Ok → PoolAt h' p A → But p h h' → P (specD S) h'
theorem TblOk.qs {r l : Nat} {t : List (Bool × List Nat)} (k : TblOk r l t) (r2 : 2 ≤ r) (r4 : r ≤ 4) (l1 : 1 ≤ l) (l2 : l ≤ 2) : Qs.Ok ⟨r, l, t⟩ := ⟨r2, r4, l1, l2, k.t1, k.t8, k.row⟩
section
variable {P : Program} {w : World} {K : PySem.W.Frag} {mg : Str → Option Value} {base : Heap}
theorem ok_wspec (T : Txt K mg) : DFn P w K mg base 4 T.a_wspec T.d_wspec ["pool", "most_rows"] sp_wspec := by
  refine dfn2 T.F_wspec sc_wspec rfl (fun cdv A outer s H E hr => ⟨_, (dss_cons (ds_set (i := 2) sc_wspec.nd rfl (by first | exact Or.inl rfl | exact Or.inr rfl) (de_call (ok_wpick T) (hr.mono (by decide)) (by rfl) T.m_wpick T.F_wpick.kp T.b_wpick (da_cons (de_var 0) (da_cons (de_lst (da_cons de_int (da_cons de_int (da_cons de_int (da_cons (de_var 1) da_nil))))) da_nil))))
  (dss_cons (ds_set (i := 3) sc_wspec.nd rfl (by first | exact Or.inl rfl | exact Or.inr rfl) (de_ifExp (dt_cmp op_dGt (de_var 2) de_int (nomark _)) de_int (de_call (ok_wpick T) (hr.mono (by decide)) (by rfl) T.m_wpick T.F_wpick.kp T.b_wpick (da_cons (de_var 0) (da_cons (de_lst (da_cons de_int (da_cons de_int (da_cons de_int da_nil)))) da_nil)))))
  (dss_cons (ds_set (i := 4) sc_wspec.nd rfl (by first | exact Or.inl rfl | exact Or.inr rfl) (de_call (ok_wdraw T) (hr.mono (by decide)) (by rfl) T.m_wdraw T.F_wdraw.kp T.b_wdraw (da_cons (de_var 0) (da_cons de_int da_nil))))
  (dss_cons (ds_if (dt_cmp op_dLt (de_var 4) de_int (nomark _))
  (dss_one (ds_set (i := 5) sc_wspec.nd rfl (by first | exact Or.inl rfl | exact Or.inr rfl) (de_call (ok_wdrawn_table T) (hr.mono (by decide)) (by rfl) T.m_wdrawn_table T.F_wdrawn_table.kp T.b_wdrawn_table (da_cons (de_var 0) (da_cons (de_var 2) (da_cons (de_var 3) (da_cons (de_op op_dAdd de_int (de_call (ok_wdraw T) (hr.mono (by decide)) (by rfl) T.m_wdraw T.F_wdraw.kp T.b_wdraw (da_cons (de_var 0) (da_cons de_int da_nil)))) (da_cons (de_cmp op_dEq (de_var 4) de_int (nomark _)) da_nil))))))))
  (dss_one (ds_if (dt_cmp op_dLt (de_var 4) de_int (nomark _))
  (dss_one (ds_set (i := 5) sc_wspec.nd rfl (by first | exact Or.inl rfl | exact Or.inr rfl) (de_call (ok_wby_rows T) (hr.mono (by decide)) (by rfl) T.m_wby_rows T.F_wby_rows.kp T.b_wby_rows (da_cons (de_var 0) (da_cons (de_var 2) (da_cons (de_var 3) da_nil))))))
  (dss_one (ds_if (dt_cmp op_dLt (de_var 4) de_int (nomark _))
  (dss_one (ds_set (i := 5) sc_wspec.nd rfl (by first | exact Or.inl rfl | exact Or.inr rfl) (de_call (ok_wfirst_signs T) (hr.mono (by decide)) (by rfl) T.m_wfirst_signs T.F_wfirst_signs.kp T.b_wfirst_signs (da_cons (de_var 0) (da_cons (de_var 2) (da_cons (de_var 3) da_nil))))))
  (dss_one (ds_set (i := 5) sc_wspec.nd rfl (by first | exact Or.inl rfl | exact Or.inr rfl) (de_call (ok_wcompared T) (hr.mono (by decide)) (by rfl) T.m_wcompared T.F_wcompared.kp T.b_wcompared (da_cons (de_var 0) (da_cons (de_var 2) (da_cons (de_var 3) da_nil)))))))))))
  (dss_one (ds_ret (de_tup (da_cons (de_var 2) (da_cons (de_var 3) (da_cons (de_callTy call_dTupOf (by rfl) T.b_tuple (by decide +kernel) (da_cons (de_var 5) da_nil)) da_nil)))))))))), fun p0 p1 h Q q => ?_⟩)
  rw [show dstart ["pool", "most_rows", "rows", "letters", "kind", "table"] [p0, p1] = [some p0, some p1, none, none, none, none] from rfl]
  obtain ⟨p, A, rfl, rfl, pool, q⟩ := q
  have line81 := line81
  refine seq_by (fun σ h' => ∃ r : Nat, σ = [some (.ref p), some (.int 4), some (nD r), none, none, none] ∧ 2 ≤ r ∧ r ≤ 4 ∧ PoolAt h' p A ∧ But p h h') ?_ fun nx hnx => ?_
  · rintro σ h1 ⟨r, rfl, r2, r4, pool1, bt1⟩
    refine seq_by (fun σ h' => ∃ l : Nat, σ = [some (.ref p), some (.int 4), some (nD r), some (nD l), none, none] ∧ 1 ≤ l ∧ l ≤ 2 ∧ PoolAt h' p A ∧ But p h h') ?_ fun nx hnx => ?_
    · rintro σ h2 ⟨l, rfl, l1, l2, pool2, bt2⟩
      walk_at "dgo"
      refine ⟨p, A, 8, rfl, rfl, by decide, by decide, pool2, fun kind h3 hkind pool3 bt3 => ?_⟩
      have b3 := bt2.trans bt3
      have fin : ∀ (t : Addr) (tbl : List (Bool × List Nat)) (h4 h5 : DH), But p h h4 → TblOk r l tbl → h5 t = some (.lst (tbl.map rowD)) → PoolAt h5 p A → But p h4 h5 → Wk Q (.tup [nD r, nD l, .tup (tbl.map rowD)]) h5 := fun t tbl h4 h5 b4 ok et pool5 bt5 =>
        Wk.of (q ⟨r, l, tbl⟩ h5 (ok.qs r2 r4 l1 l2) pool5 (b4.trans bt5))
      walk_at "dgo"
      cases decide ((kind : Int) < 2)
      · walk_at "dgo"
        cases decide ((kind : Int) < 5)
        · walk_at "dgo"
          cases decide ((kind : Int) < 7)
          · walk_at "dgo"
            refine ⟨p, A, r, l, rfl, rfl, rfl, r2, r4, l1, l2, pool3, fun t tbl h5 ok et pool5 bt5 => ?_⟩
            walk_at "dgo"
            exact lstAt_of et ⟨by omega, fin t tbl _ h5 b3 ok et pool5 bt5⟩
          · walk_at "dgo"
            refine ⟨p, A, r, l, rfl, rfl, rfl, r2, r4, l1, l2, pool3, fun t tbl h5 ok et pool5 bt5 => ?_⟩
            walk_at "dgo"
            exact lstAt_of et ⟨by omega, fin t tbl _ h5 b3 ok et pool5 bt5⟩
        · walk_at "dgo"
          refine ⟨p, A, r, l, rfl, rfl, rfl, r2, r4, l1, l2, pool3, fun t tbl h5 ok et pool5 bt5 => ?_⟩
          walk_at "dgo"
          exact lstAt_of et ⟨by omega, fin t tbl _ h5 b3 ok et pool5 bt5⟩
      · walk_at "dgo"
        refine ⟨p, A, 4, rfl, rfl, by decide, by decide, pool3, fun m h4 hm pool4 bt4 => ?_⟩
        walk_at "dgo"
        refine ⟨p, A, r, l, 1 + m, _, rfl, rfl, rfl, by congr 1, rfl, r2, r4, l1, l2, by omega, by omega, pool4, fun t tbl h5 ok et pool5 bt5 => ?_⟩
        walk_at "dgo"
        exact lstAt_of et ⟨by omega, fin t tbl _ h5 (b3.trans bt4) ok et pool5 bt5⟩
    · walk_at "dgo"
      by_cases h3 : r > 3
      · rw [decide_eq_true (by omega)]
        walk_at "dgo"
        exact hnx _ _ ⟨1, rfl, by omega, by omega, pool1, bt1⟩
      · rw [decide_eq_false (by omega)]
        walk_at "dgo"
        refine ⟨by decide +kernel, fun N nN => ?_⟩
        refine ⟨p, A, N, _, rfl, rfl, pool1.neN nN, put_same, by decide, by decide, pool1.sub (Sub.new nN), fun x h4 hx pool4 bt4 => ?_⟩
        have hx2 : x = nD 1 ∨ x = nD 2 := by simp at hx; exact hx
        rcases hx2 with rfl | rfl
        · exact hnx _ _ ⟨1, rfl, by omega, by omega, pool4, bt1.trans ((But.of (Sub.new nN)).trans bt4)⟩
        · exact hnx _ _ ⟨2, rfl, by omega, by omega, pool4, bt1.trans ((But.of (Sub.new nN)).trans bt4)⟩
  · walk_at "dgo"
    refine ⟨by decide +kernel, fun N nN => ?_⟩
    refine ⟨p, A, N, _, rfl, rfl, pool.neN nN, put_same, by decide, by decide, pool.sub (Sub.new nN), fun x h4 hx pool4 bt4 => ?_⟩
    have hx2 : x = nD 2 ∨ x = nD 4 := by simp at hx; exact hx
    rcases hx2 with rfl | rfl
    · exact hnx _ _ ⟨2, rfl, by omega, by omega, pool4, (But.of (Sub.new nN)).trans bt4⟩
    · exact hnx _ _ ⟨4, rfl, by omega, by omega, pool4, (But.of (Sub.new nN)).trans bt4⟩
end
end My
namespace My
open PySem PySem.Spec PyProof.Rows L2 DL
def sp_wquestion (C : Addr) : DSp := sp1 fun a h P => ∃ S, a = specD S ∧ S.Ok ∧ ∀ o k h', QAt C h' o k S → Sub h h' → h k = none → P (.ref o) h'
section
variable {P : Program} {w : World} {K : PySem.W.Frag} {mg : Str → Option Value} {base : Heap}
theorem ok_wquestion (T : Txt K mg) : DFn P w K mg base 6 T.a_wquestion T.d_wquestion ["spec"] (sp_wquestion T.C_Question) := by
  refine dfn1 T.F_wquestion sc_wquestion rfl (fun cdv A outer s H E hr => ⟨_, (dss_one (ds_ret (de_make T.M_Question (ok_Question_init T) (hr.mono (by decide)) (by rfl) T.mC_Question T.b_Question_init (da_cons (de_ix (de_var 0) de_int) (da_cons (de_ix (de_var 0) de_int) (da_cons (de_ix (de_var 0) de_int) da_nil)))))), fun p0 h Q q => ?_⟩)
  rw [show dstart ["spec"] [p0] = [some p0] from rfl]
  obtain ⟨S, rfl, ok, q⟩ := q
  unfold specD
  walk_at "dgo"
  intro o no
  refine ⟨o, S, rfl, rfl, rfl, rfl, ok, put_same, fun k h' nk nko eo ek fr => ⟨rfl, ?_⟩⟩
  refine Wk.of (q o k h' ⟨ok, eo, nko, .inl ek⟩ (fun a u hu => ?_) ((Sub.new no).free nk))
  have ha : a ≠ o := ne_none hu no
  exact fr a u ha (by rw [put_ne ha]; exact hu)
end
end My
namespace My
open PySem PySem.Spec PyProof.Rows L2 DL
theorem ab_at {l i : Nat} (l2 : l ≤ 2) (h : i < l) : ∃ c, atI ("ab" : Str).cps.toList (i : Int) = some c ∧ c ∈ (sg l).drop 1 := by
  rcases (show l = 1 ∧ i = 0 ∨ l = 2 ∧ i = 0 ∨ l = 2 ∧ i = 1 by omega) with ⟨rfl, rfl⟩ | ⟨rfl, rfl⟩ | ⟨rfl, rfl⟩
  · exact ⟨97, by rw [atI_n]; decide +kernel, by decide⟩
  · exact ⟨97, by rw [atI_n]; decide +kernel, by decide⟩
  · exact ⟨98, by rw [atI_n]; decide +kernel, by decide⟩
theorem ab_len : ("ab" : Str).length ≤ sizeLine := by decide +kernel
theorem sum_ones (cs : List Nat) : ((cs.map chS).map (·.length)).sum = cs.length := by
  induction cs with
  | nil => rfl
  | cons c r ih => rw [List.map_cons, List.map_cons, List.sum_cons, ih, List.length_cons, Nat.add_comm]; rfl
def sp_wdrawn_words : DSp := sp4 fun a b c d h P => ∃ (p : Addr) (A : List Addr) (r l m : Nat), a = .ref p ∧ b = nD r ∧ c = nD l ∧ d = nD m ∧ r ≤ 4 ∧ 1 ≤ l ∧ l ≤ 2 ∧ m ≤ 60 ∧ PoolAt h p A ∧ ∀ ws h', Wds r l ws → PoolAt h' p A → But p h h' → P (wordsD ws) h'
section
variable {P : Program} {w : World} {K : PySem.W.Frag} {mg : Str → Option Value} {base : Heap}
theorem ok_wdrawn_words (T : Txt K mg) : DFn P w K mg base 2 T.a_wdrawn_words T.d_wdrawn_words ["pool", "rows", "letters", "most"] sp_wdrawn_words := by
  refine dfn4 T.F_wdrawn_words sc_wdrawn_words rfl (fun cdv A outer s H E hr => ⟨_, (dss_cons (ds_set (i := 4) sc_wdrawn_words.nd rfl (by first | exact Or.inl rfl | exact Or.inr rfl) (de_lst da_nil))
  (dss_cons (ds_for PassesOwn.never rfl (di_range1 (by rfl) T.b_range (da_cons (de_var 1) da_nil)) (dg_name (i := 5) sc_wdrawn_words.nd rfl (by first | exact Or.inl rfl | exact Or.inr rfl))
  (dss_one (ds_expr (de_ml PySem.F.slot_list_append PySem.F.type_list_append mt_dAppend (de_var 4) (da_cons (de_ms PySem.F.slot_str_join PySem.F.type_str_join mt_dJoin de_str (de_lc (own := [("place", 6)]) rfl sc_wdrawn_words.nd (di_range1 (by rfl) T.b_range (da_cons (de_call (ok_wdraw T) (hr.mono (by decide)) (by rfl) T.m_wdraw T.F_wdraw.kp T.b_wdraw (da_cons (de_var 0) (da_cons (de_op op_dAdd (de_var 3) de_int) da_nil))) da_nil)) (blkOk_by (N := ["pool", "rows", "letters", "most", "found", "row", "place"]) (sc := defScope s_wdrawn_words) (own := [("place", 6)]) (by decide +kernel)) (by decide) (fun _ _ _ _ _ => (dg_name (i := 6) sc_wdrawn_words.nd rfl (by first | exact Or.inl rfl | exact Or.inr rfl))) (fun _ _ _ _ _ => dts_nil) (fun _ _ _ _ _ => (de_ix de_str (de_call (ok_wdraw T) (hr.mono (by decide)) (by rfl) T.m_wdraw T.F_wdraw.kp T.b_wdraw (da_cons (de_var 0) (da_cons (de_var 2) da_nil))))))) da_nil)))))
  (dss_one (ds_ret (de_callTy call_dTupOf (by rfl) T.b_tuple (by decide +kernel) (da_cons (de_var 4) da_nil)))))), fun p0 p1 p2 p3 h Q q => ?_⟩)
  rw [show dstart ["pool", "rows", "letters", "most", "found", "row", "place"] [p0, p1, p2, p3] = [some p0, some p1, some p2, some p3, none, none, none] from rfl]
  obtain ⟨p, A, r, l, m, rfl, rfl, rfl, rfl, r4, l1, l2, m60, pool, q⟩ := q
  have line81 := line81
  walk_at "dgo"
  refine ⟨Nat.zero_le _, fun F nF => ⟨by omega, ?_⟩⟩
  rw [Int.toNat_natCast]
  have nFp := pool.neN nF
  refine for_nums (fun i σ h' => ∃ (ws : List Str) (v5 : Option D), σ = [some (.ref p), some (nD r), some (nD l), some (nD m), some (.ref F), v5, none] ∧ PoolAt h' p (F :: A) ∧ But p h h' ∧ h' F = some (.lst (ws.map .str)) ∧ Wds i l ws) ⟨[], none, rfl, pool.new nF, But.of (Sub.new nF), put_same, rfl, (fun z hz => by cases hz), (fun z hz => by cases hz)⟩ ?_ ?_
  · rintro i σ h1 hi ⟨ws, v5, rfl, pool1, bt1, eF, w1, w2, w3⟩ nx hnx
    walk_at "dgo"
    refine lstAt_of eF ?_
    refine ⟨p, _, m + 1, rfl, by congr 1, by omega, by omega, pool1, fun n h2 hn pool2 bt2 => ?_⟩
    walk_at "dgo"
    refine ⟨by omega, fun L nL => ?_⟩
    rw [Int.toNat_natCast]
    have eF2 := bt2 _ _ nFp eF
    have nFL : F ≠ L := ne_none eF2 nL
    have nLp := pool2.neN nL
    refine lc_inv (fun j acc h' => (∃ cs : List Nat, acc = (cs.map chS).map .str ∧ cs.length = j ∧ ∀ c ∈ cs, c ∈ (sg l).drop 1) ∧ PoolAt h' p (L :: F :: A) ∧ But p h2 h') _ put_same ⟨⟨[], rfl, rfl, fun c hc => by cases hc⟩, pool2.new nL, But.of (Sub.new nL)⟩ (fun _ _ _ _ _ => trivial) (by rw [nums_len]; omega) (fun j x acc h' hx hl eL z R R' hR hR' => ?_) (fun acc h' hl eL z => ?_)
    · obtain ⟨⟨cs, rfl, hcl, hcs⟩, pool3, bt3⟩ := z
      walk_at "dgo"
      refine ⟨p, _, l, rfl, rfl, by omega, by omega, pool3, fun d h4 hd pool4 bt4 => ?_⟩
      walk_at "dgo"
      obtain ⟨c, ec, hc⟩ := ab_at l2 hd
      refine ⟨ab_len, ?_⟩
      rw [ec]
      refine hR _ _ (bt4 _ _ nLp eL) ⟨⟨cs ++ [c], by rw [List.map_append, List.map_append]; rfl, by rw [List.length_append, hcl]; rfl, fun e he => ?_⟩, pool4.put List.mem_cons_self, (bt3.trans bt4).fresh nL⟩
      rcases List.mem_append.mp he with he | he
      · exact hcs e he
      · rw [List.mem_singleton.mp he]; exact hc
    · obtain ⟨⟨cs, rfl, hcl, hcs⟩, pool3, bt3⟩ := z
      rw [nums_len] at hcl
      have eF3 := bt3 _ _ nFp eF2
      refine lstAt_of eL ⟨_, allS_map _, by rw [sum_ones, List.length_map]; show _ + _ * 0 ≤ _; omega, lstAt_of eF3 ⟨by rw [List.length_map]; omega, ?_⟩⟩
      have nF0 := nF
      refine hnx _ _ ⟨ws ++ [Txt.join "" (cs.map chS)], _, rfl, pool3.drop.put List.mem_cons_self, ((bt1.trans bt2).trans bt3).fresh nF, by rw [put_same, List.map_append]; rfl, by rw [List.length_append, w1]; rfl, fun z hz => ?_, fun z hz => ?_⟩
      · rcases List.mem_append.mp hz with hz | hz
        · exact w2 z hz
        · rw [List.mem_singleton.mp hz, join_chars]; exact hcs
      · rcases List.mem_append.mp hz with hz | hz
        · exact w3 z hz
        · rw [List.mem_singleton.mp hz]
          show Array.size _ ≤ 60
          rw [← Array.length_toList, join_chars]
          omega
  · rintro σ h1 ⟨ws, v5, rfl, pool1, bt1, eF, wd⟩
    walk_at "dgo"
    exact lstAt_of eF (Wk.of (q ws h1 wd pool1.drop bt1))
end
end My
namespace My
open PySem PySem.Spec PyProof.Rows L2 DL
abbrev sp_law : DSp := lawSp
theorem qa_draw {C : Addr} {h h' : DH} {o k p : Addr} {S : Qs} {A : List Addr} (qa : QAt C h o k S) (pool : PoolAt h p A) (bt : But p h h') : QAt C h' o k S := by
  obtain ⟨xs, ep⟩ := pool.lst
  obtain ⟨ok, ho, nko, kept⟩ := qa
  refine ⟨ok, bt _ _ (ne_obj ho ep (by exact fun z => by cases z)) ho, nko, ?_⟩
  rcases kept with e | ⟨d, nd, e, ed⟩
  · exact .inl (bt _ _ (ne_obj e ep (by exact fun z => by cases z)) e)
  · exact .inr ⟨d, nd, bt _ _ (ne_obj e ep (by exact fun z => by cases z)) e, bt _ _ (ne_obj ed ep (by exact fun z => by cases z)) ed⟩
theorem qa_sub {C : Addr} {h h' : DH} {o k : Addr} {S : Qs} (qa : QAt C h o k S) (s : Sub h h') : QAt C h' o k S := by
  obtain ⟨ok, ho, nko, kept⟩ := qa
  refine ⟨ok, s _ _ ho, nko, ?_⟩
  rcases kept with e | ⟨d, nd, e, ed⟩
  · exact .inl (s _ _ e)
  · exact .inr ⟨d, nd, s _ _ e, s _ _ ed⟩
theorem qa_kept {C : Addr} {h : DH} {o k : Addr} {S : Qs} (qa : QAt C h o k S) : ∃ kvs, h k = some (.dct kvs) := by
  rcases qa.kept with e | ⟨d, nd, e, ed⟩
  · exact ⟨_, e⟩
  · exact ⟨_, e⟩
theorem pool_answer {C : Addr} {h h' : DH} {o k p : Addr} {S : Qs} {A : List Addr} (pool : PoolAt h p A) (qa : QAt C h o k S) (qa2 : QAt C h' o k S) (bt : But k h h') : PoolAt h' p A := by
  obtain ⟨kvs, e⟩ := qa_kept qa
  obtain ⟨kvs2, e2⟩ := qa_kept qa2
  exact pool.but bt (fun xs z => by rw [e] at z; cases z) (by rw [e2]; exact fun z => by cases z)
theorem maxLen_empty (n : Nat) : maxLen (List.replicate n ("" : Str)) = 0 := Nat.le_zero.mp (maxLen_le fun z hz => by rw [List.eq_of_mem_replicate hz]; decide +kernel)
theorem ans_empty (S : Qs) (n : Nat) : ansOf S (List.replicate n "") = (S.tbl.getD 0 (false, [])).1 := by
  unfold ansOf
  rw [maxLen_empty]
  rfl
theorem wds_empty (r l : Nat) : Wds r l (List.replicate r "") := ⟨List.length_replicate, (fun z hz c hc => by rw [List.eq_of_mem_replicate hz] at hc; cases hc), (fun z hz => by rw [List.eq_of_mem_replicate hz]; decide +kernel)⟩
theorem words_rep (r : Nat) (z : Str) : D.tup (List.replicate r [D.str z]).flatten = wordsD (List.replicate r z) := by
  unfold wordsD
  rw [List.flatten_replicate_singleton, List.map_replicate]
theorem wds_same {r l : Nat} {ws : List Str} (w : Wds r l ws) {z : Str} (hz : z ∈ ws) : Wds r l (List.replicate r z) := ⟨List.length_replicate, (fun y hy => by rw [List.eq_of_mem_replicate hy]; exact w.ok z hz), fun y hy => by rw [List.eq_of_mem_replicate hy]; exact w.short z hz⟩
section
variable {P : Program} {w : World} {K : PySem.W.Frag} {mg : Str → Option Value} {base : Heap}
theorem ok_law (T : Txt K mg) : DFn P w K mg base 8 T.a_law T.d_law ["script"] sp_law := by
  refine dfn_ok T.F_law sc_law (fun ds h Q q => by obtain ⟨_, rfl, _⟩ := q; rfl) (fun cdv A outer s H E hr => ⟨_, (dss_cons (ds_set (i := 1) sc_law.nd rfl (by first | exact Or.inl rfl | exact Or.inr rfl) (de_call (ok_wpool T) (hr.mono (by decide)) (by rfl) T.m_wpool T.F_wpool.kp T.b_wpool (da_cons (de_var 0) da_nil)))
  (dss_cons (ds_for PassesOwn.never rfl (di_range1 (by rfl) T.b_range (da_cons de_int da_nil)) (dg_name (i := 2) sc_law.nd rfl (by first | exact Or.inl rfl | exact Or.inr rfl))
  (dss_cons (ds_set (i := 3) sc_law.nd rfl (by first | exact Or.inl rfl | exact Or.inr rfl) (de_call (ok_wspec T) (hr.mono (by decide)) (by rfl) T.m_wspec T.F_wspec.kp T.b_wspec (da_cons (de_var 1) (da_cons de_int da_nil))))
  (dss_cons (ds_set (i := 4) sc_law.nd rfl (by first | exact Or.inl rfl | exact Or.inr rfl) (de_call (ok_wquestion T) (hr.mono (by decide)) (by rfl) T.m_wquestion T.F_wquestion.kp T.b_wquestion (da_cons (de_var 3) da_nil)))
  (dss_cons (ds_if (dt_cmp op_dNe (de_call (ok_answer T) (hr.mono (by decide)) (by rfl) T.m_answer T.F_answer.kp T.b_answer (da_cons (de_var 4) (da_cons (de_op op_dMul (de_tup (da_cons de_str da_nil)) (de_ix (de_var 3) de_int)) da_nil))) (de_ix (de_ix (de_ix (de_var 3) de_int) de_int) de_int) (nomark _))
  (dss_one (ds_ret de_bl))
  dss_nil)
  (dss_one (ds_for PassesOwn.never rfl (di_range1 (by rfl) T.b_range (da_cons de_int da_nil)) (dg_name (i := 5) sc_law.nd rfl (by first | exact Or.inl rfl | exact Or.inr rfl))
  (dss_cons (ds_set (i := 6) sc_law.nd rfl (by first | exact Or.inl rfl | exact Or.inr rfl) (de_call (ok_wdrawn_words T) (hr.mono (by decide)) (by rfl) T.m_wdrawn_words T.F_wdrawn_words.kp T.b_wdrawn_words (da_cons (de_var 1) (da_cons (de_ix (de_var 3) de_int) (da_cons (de_ix (de_var 3) de_int) (da_cons (de_call (ok_wpick T) (hr.mono (by decide)) (by rfl) T.m_wpick T.F_wpick.kp T.b_wpick (da_cons (de_var 1) (da_cons (de_lst (da_cons de_int (da_cons de_int (da_cons de_int (da_cons de_int (da_cons de_int da_nil)))))) da_nil))) da_nil))))))
  (dss_cons (ds_if (dt_cmp op_dEq (de_call (ok_wdraw T) (hr.mono (by decide)) (by rfl) T.m_wdraw T.F_wdraw.kp T.b_wdraw (da_cons (de_var 1) (da_cons de_int da_nil))) de_int (nomark _))
  (dss_one (ds_set (i := 6) sc_law.nd rfl (by first | exact Or.inl rfl | exact Or.inr rfl) (de_call (ok_wdrawn_words T) (hr.mono (by decide)) (by rfl) T.m_wdrawn_words T.F_wdrawn_words.kp T.b_wdrawn_words (da_cons (de_var 1) (da_cons (de_ix (de_var 3) de_int) (da_cons (de_ix (de_var 3) de_int) (da_cons de_int da_nil)))))))
  dss_nil)
  (dss_cons (ds_if (dt_cmp op_dEq (de_call (ok_wdraw T) (hr.mono (by decide)) (by rfl) T.m_wdraw T.F_wdraw.kp T.b_wdraw (da_cons (de_var 1) (da_cons de_int da_nil))) de_int (nomark _))
  (dss_one (ds_set (i := 6) sc_law.nd rfl (by first | exact Or.inl rfl | exact Or.inr rfl) (de_callTy call_dTupOf (by rfl) T.b_tuple (by decide +kernel) (da_cons (de_lc (own := [("row", 8)]) rfl sc_law.nd (di_range1 (by rfl) T.b_range (da_cons (de_ix (de_var 3) de_int) da_nil)) (blkOk_by (N := ["script", "pool", "turn", "spec", "question", "again", "words", "told", "row"]) (sc := defScope s_law) (own := [("row", 8)]) (by decide +kernel)) (by decide) (fun _ _ _ _ _ => (dg_name (i := 8) sc_law.nd rfl (by first | exact Or.inl rfl | exact Or.inr rfl))) (fun _ _ _ _ _ => dts_nil) (fun _ _ _ _ _ => (de_ix (de_var 6) de_int))) da_nil))))
  dss_nil)
  (dss_cons (ds_set (i := 7) sc_law.nd rfl (by first | exact Or.inl rfl | exact Or.inr rfl) (de_call (ok_answer T) (hr.mono (by decide)) (by rfl) T.m_answer T.F_answer.kp T.b_answer (da_cons (de_var 4) (da_cons (de_var 6) da_nil))))
  (dss_one (ds_if (dw_or (dt_not (dt_val (de_callB call_dIsi (by rfl) T.b_isinstance (by decide +kernel) (da_cons (de_var 7) (da_cons (de_gTy (n := "bool") (by rfl) T.b_bool (by decide +kernel)) da_nil))))) (dw_or (dt_cmp op_dNe (de_var 7) (de_call (ok_wanswer T) (hr.mono (by decide)) (by rfl) T.m_wanswer T.F_wanswer.kp T.b_wanswer (da_cons (de_var 3) (da_cons (de_var 6) da_nil))) (nomark _)) (dw_or1 (dt_cmp op_dNe (de_call (ok_answer T) (hr.mono (by decide)) (by rfl) T.m_answer T.F_answer.kp T.b_answer (da_cons (de_var 4) (da_cons (de_var 6) da_nil))) (de_var 7) (nomark _))))).dt
  (dss_one (ds_ret de_bl))
  dss_nil))))))))))))
  (dss_one (ds_ret de_bl)))), fun ds h Q q => ?_⟩)
  obtain ⟨ns, rfl, hl, q⟩ := q
  have line81 := line81
  rw [show dstart ["script", "pool", "turn", "spec", "question", "again", "words", "told", "row"] [D.rol (ns.map .int)] = [some (.rol (ns.map .int)), none, none, none, none, none, none, none, none] from rfl]
  walk_at "dgo"
  refine ⟨ns, rfl, hl, fun p h1 pool1 s1 => ?_⟩
  walk_at "dgo"
  refine ⟨by decide, ?_⟩
  refine for_nums (fun i σ h => ∃ v2 v3 v4 v5 v6 v7 : Option D, σ = [some (.rol (ns.map .int)), some (.ref p), v2, v3, v4, v5, v6, v7, none] ∧ PoolAt h p []) ⟨none, none, none, none, none, none, rfl, pool1⟩ ?_ ?_
  · rintro i σ h2 hi ⟨v2, v3, v4, v5, v6, v7, rfl, pool2⟩ nx hnx
    walk_at "dgo"
    refine ⟨p, [], rfl, rfl, pool2, fun S h3 ok pool3 bt3 => ?_⟩
    walk_at "dgo"
    refine ⟨S, rfl, ok, fun o k h4 qa4 s4 nk => ?_⟩
    have pool4 := pool3.sub s4
    have r2 := ok.r2
    have r4 := ok.r4
    unfold specD
    walk_at "dgo"
    refine ⟨by omega, ⟨List.cons_ne_nil _ _, by omega, by omega, by omega⟩, ?_⟩
    rw [Int.toNat_natCast, words_rep]
    refine ⟨o, k, S, _, rfl, rfl, qa4, wds_empty _ _, fun h5 qa5 bt5 => ?_⟩
    have pool5 := pool_answer pool4 qa4 qa5 bt5
    unfold tblD
    walk_at "dgo"
    refine oAt_of (tbl_at S.tbl ok.t1) ?_
    unfold rowD
    walk_at "dgo"
    rw [decide_eq_true (ans_empty S S.r)]
    walk_at "dgo"
    refine ⟨by decide, ?_⟩
    refine for_nums (fun j σ h => ∃ v5 v6 v7 : Option D, σ = [some (.rol (ns.map .int)), some (.ref p), some (.int (0 + i)), some (specD S), some (.ref o), v5, v6, v7, none] ∧ PoolAt h p [] ∧ QAt T.C_Question h o k S) ⟨v5, v6, v7, rfl, pool5, qa5⟩ ?_ ?_
    · rintro j σ h6 hj ⟨v5, v6, v7, rfl, pool6, qa6⟩ nx2 hnx2
      refine seq_by (fun σ h => ∃ (ws : List Str) (v7 : Option D), σ = [some (.rol (ns.map .int)), some (.ref p), some (.int (0 + i)), some (specD S), some (.ref o), some (.int (0 + j)), some (wordsD ws), v7, none] ∧ Wds S.r S.l ws ∧ PoolAt h p [] ∧ QAt T.C_Question h o k S) ?_ fun nx3 hnx3 => ?_
      · rintro σ h7 ⟨ws, v7, rfl, wd, pool7, qa7⟩
        refine seq_by (fun σ h => ∃ (ws : List Str) (v7 : Option D), σ = [some (.rol (ns.map .int)), some (.ref p), some (.int (0 + i)), some (specD S), some (.ref o), some (.int (0 + j)), some (wordsD ws), v7, none] ∧ Wds S.r S.l ws ∧ PoolAt h p [] ∧ QAt T.C_Question h o k S) ?_ fun nx3 hnx3 => ?_
        · rintro σ h8 ⟨ws, v7, rfl, wd, pool8, qa8⟩
          refine seq_by (fun σ h => ∃ (ws : List Str) (v7 : Option D), σ = [some (.rol (ns.map .int)), some (.ref p), some (.int (0 + i)), some (specD S), some (.ref o), some (.int (0 + j)), some (wordsD ws), v7, none] ∧ Wds S.r S.l ws ∧ PoolAt h p [] ∧ QAt T.C_Question h o k S) ?_ fun nx3 hnx3 => ?_
          · rintro σ h9 ⟨ws, v7, rfl, wd, pool9, qa9⟩
            walk_at "dgo"
            refine ⟨o, k, S, ws, rfl, rfl, qa9, wd, fun h10 qa10 bt10 => ?_⟩
            have pool10 := pool_answer pool9 qa9 qa10 bt10
            walk_at "dgo"
            refine ⟨true, kit_bool_bool, ?_⟩
            walk_at "dgo"
            refine ⟨S, ws, rfl, rfl, ok, wd, ?_⟩
            walk_at "dgo"
            refine ⟨o, k, S, ws, rfl, rfl, qa10, wd, fun h11 qa11 bt11 => ?_⟩
            walk_at "dgo"
            exact hnx2 _ _ ⟨_, _, _, rfl, pool_answer pool10 qa10 qa11 bt11, qa11⟩
          · walk_at "dgo"
            refine ⟨p, [], 5, rfl, rfl, by decide, by decide, pool8, fun d h9 hd pool9 bt9 => ?_⟩
            have qa9 := qa_draw qa8 pool8 bt9
            walk_at "dgo"
            cases decide ((d : Int) = 0)
            · walk_at "dgo"
              exact hnx3 _ _ ⟨ws, _, rfl, wd, pool9, qa9⟩
            · unfold specD
              walk_at "dgo"
              refine ⟨by omega, fun L nL => ?_⟩
              rw [Int.toNat_natCast]
              have hw : 0 < ws.length := by rw [wd.len]; omega
              refine lc_pure (fun _ => .str ws[0]) _ (fun _ => trivial) (fun x hx acc R hR => ?_) (by rw [nums_len]; omega) ?_
              · unfold wordsD
                walk_at "dgo"
                exact oAt_of (d := .str ws[0]) (by rw [show (0 : Int) = ((0 : Nat) : Int) from rfl, atI_n, List.getElem?_map, List.getElem?_eq_getElem hw]; rfl) hR
              · refine lstAt_of put_same (hnx3 _ _ ⟨List.replicate S.r ws[0], v7, ?_, wds_same wd (List.getElem_mem hw), pool9.sub (Sub.new nL), ?_⟩)
                · rw [show D.tup ((numsFrom 0 S.r).map fun _ => D.str ws[0]) = wordsD (List.replicate S.r ws[0]) by unfold wordsD; rw [List.map_const', nums_len, List.map_replicate]]
                  rfl
                · exact qa_sub qa9 (Sub.new nL)
        · walk_at "dgo"
          refine ⟨p, [], 20, rfl, rfl, by decide, by decide, pool7, fun d h8 hd pool8 bt8 => ?_⟩
          have qa8 := qa_draw qa7 pool7 bt8
          walk_at "dgo"
          cases decide ((d : Int) = 0)
          · walk_at "dgo"
            exact hnx3 _ _ ⟨ws, _, rfl, wd, pool8, qa8⟩
          · unfold specD
            walk_at "dgo"
            refine ⟨p, [], S.r, S.l, 60, rfl, rfl, rfl, rfl, r4, ok.l1, ok.l2, by omega, pool8, fun ws h9 wd pool9 bt9 => ?_⟩
            exact hnx3 _ _ ⟨ws, _, rfl, wd, pool9, qa_draw qa8 pool8 bt9⟩
      · unfold specD
        walk_at "dgo"
        refine ⟨by decide +kernel, fun N nN => ?_⟩
        have s6 : Sub h6 _ := Sub.new (o := .lst [.int 1, .int 2, .int 3, .int 6, .int 6]) nN
        have pool7 := pool6.sub s6
        refine ⟨p, [], N, _, rfl, rfl, pool6.neN nN, put_same, by decide, by decide, pool7, fun x h8 hx pool8 bt8 => ?_⟩
        have hx2 : ∃ m : Nat, x = nD m ∧ m ≤ 60 := by
          simp at hx
          rcases hx with rfl | rfl | rfl | rfl
          · exact ⟨1, rfl, by omega⟩
          · exact ⟨2, rfl, by omega⟩
          · exact ⟨3, rfl, by omega⟩
          · exact ⟨6, rfl, by omega⟩
        obtain ⟨m, rfl, m60⟩ := hx2
        refine ⟨p, [], S.r, S.l, m, rfl, rfl, rfl, rfl, r4, ok.l1, ok.l2, m60, pool8, fun ws h9 wd pool9 bt9 => ?_⟩
        exact hnx3 _ _ ⟨ws, _, rfl, wd, pool9, qa_draw (qa_draw (qa_sub qa6 s6) pool7 bt8) pool8 bt9⟩
    · rintro σ h6 ⟨v5, v6, v7, rfl, pool6, qa6⟩
      exact hnx _ _ ⟨_, _, _, _, _, _, rfl, pool6⟩
  · rintro σ h2 ⟨v2, v3, v4, v5, v6, v7, rfl, pool2⟩
    walk_at "dgo"
    exact Wk.of (q _)
end
end My
namespace My
open PySem PySem.Spec PyProof.Rows L2 DL
theorem all_mk {l : PySem.W.OpenLaw} {w : World} {K : PySem.W.Frag} {h : Heap} {mg : Str → Option Value} {fa : Addr} (X : K.In h) (G : h.Ns mainGlobals mg) (hfa : mg "law" = some (.ref fa))
    {C_Question : Addr}
    {f_is_integer : Addr} {od_is_integer an_is_integer : Option Addr} {sl_is_integer : Array (Option Value)} {oc_is_integer kV_is_integer dc_is_integer pm_is_integer cd_is_integer ct_is_integer : Value}
    {f_is_within : Addr} {od_is_within an_is_within : Option Addr} {sl_is_within : Array (Option Value)} {oc_is_within kV_is_within dc_is_within pm_is_within cd_is_within ct_is_within : Value}
    {f_is_pair : Addr} {od_is_pair an_is_pair : Option Addr} {sl_is_pair : Array (Option Value)} {oc_is_pair kV_is_pair dc_is_pair pm_is_pair cd_is_pair ct_is_pair : Value}
    {f_is_string_of : Addr} {od_is_string_of an_is_string_of : Option Addr} {sl_is_string_of : Array (Option Value)} {oc_is_string_of kV_is_string_of dc_is_string_of pm_is_string_of cd_is_string_of ct_is_string_of : Value}
    {f_is_letters : Addr} {od_is_letters an_is_letters : Option Addr} {sl_is_letters : Array (Option Value)} {oc_is_letters kV_is_letters dc_is_letters pm_is_letters cd_is_letters ct_is_letters : Value}
    {f_columns : Addr} {od_columns an_columns : Option Addr} {sl_columns : Array (Option Value)} {oc_columns kV_columns dc_columns pm_columns cd_columns ct_columns : Value}
    {f_readings : Addr} {od_readings an_readings : Option Addr} {sl_readings : Array (Option Value)} {oc_readings kV_readings dc_readings pm_readings cd_readings ct_readings : Value}
    {f_is_standing : Addr} {od_is_standing an_is_standing : Option Addr} {sl_is_standing : Array (Option Value)} {oc_is_standing kV_is_standing dc_is_standing pm_is_standing cd_is_standing ct_is_standing : Value}
    {f_Question_init : Addr} {od_Question_init an_Question_init : Option Addr} {sl_Question_init : Array (Option Value)} {oc_Question_init kV_Question_init dc_Question_init pm_Question_init cd_Question_init ct_Question_init : Value}
    {f_numbers_of : Addr} {od_numbers_of an_numbers_of : Option Addr} {sl_numbers_of : Array (Option Value)} {oc_numbers_of kV_numbers_of dc_numbers_of pm_numbers_of cd_numbers_of ct_numbers_of : Value}
    {f_read : Addr} {od_read an_read : Option Addr} {sl_read : Array (Option Value)} {oc_read kV_read dc_read pm_read cd_read ct_read : Value}
    {f_column_at : Addr} {od_column_at an_column_at : Option Addr} {sl_column_at : Array (Option Value)} {oc_column_at kV_column_at dc_column_at pm_column_at cd_column_at ct_column_at : Value}
    {f_longest : Addr} {od_longest an_longest : Option Addr} {sl_longest : Array (Option Value)} {oc_longest kV_longest dc_longest pm_longest cd_longest ct_longest : Value}
    {f_are_words : Addr} {od_are_words an_are_words : Option Addr} {sl_are_words : Array (Option Value)} {oc_are_words kV_are_words dc_are_words pm_are_words cd_are_words ct_are_words : Value}
    {f_check_words : Addr} {od_check_words an_check_words : Option Addr} {sl_check_words : Array (Option Value)} {oc_check_words kV_check_words dc_check_words pm_check_words cd_check_words ct_check_words : Value}
    {f_standing_with : Addr} {od_standing_with an_standing_with : Option Addr} {sl_standing_with : Array (Option Value)} {oc_standing_with kV_standing_with dc_standing_with pm_standing_with cd_standing_with ct_standing_with : Value}
    {f_answer_to : Addr} {od_answer_to an_answer_to : Option Addr} {sl_answer_to : Array (Option Value)} {oc_answer_to kV_answer_to dc_answer_to pm_answer_to cd_answer_to ct_answer_to : Value}
    {f_answer : Addr} {od_answer an_answer : Option Addr} {sl_answer : Array (Option Value)} {oc_answer kV_answer dc_answer pm_answer cd_answer ct_answer : Value}
    {f_wpool : Addr} {od_wpool an_wpool : Option Addr} {sl_wpool : Array (Option Value)} {oc_wpool kV_wpool dc_wpool pm_wpool cd_wpool ct_wpool : Value}
    {f_wdraw : Addr} {od_wdraw an_wdraw : Option Addr} {sl_wdraw : Array (Option Value)} {oc_wdraw kV_wdraw dc_wdraw pm_wdraw cd_wdraw ct_wdraw : Value}
    {f_wpick : Addr} {od_wpick an_wpick : Option Addr} {sl_wpick : Array (Option Value)} {oc_wpick kV_wpick dc_wpick pm_wpick cd_wpick ct_wpick : Value}
    {f_wcolumns : Addr} {od_wcolumns an_wcolumns : Option Addr} {sl_wcolumns : Array (Option Value)} {oc_wcolumns kV_wcolumns dc_wcolumns pm_wcolumns cd_wcolumns ct_wcolumns : Value}
    {f_wlead : Addr} {od_wlead an_wlead : Option Addr} {sl_wlead : Array (Option Value)} {oc_wlead kV_wlead dc_wlead pm_wlead cd_wlead ct_wlead : Value}
    {f_wcolumn_at : Addr} {od_wcolumn_at an_wcolumn_at : Option Addr} {sl_wcolumn_at : Array (Option Value)} {oc_wcolumn_at kV_wcolumn_at dc_wcolumn_at pm_wcolumn_at cd_wcolumn_at ct_wcolumn_at : Value}
    {f_wanswer : Addr} {od_wanswer an_wanswer : Option Addr} {sl_wanswer : Array (Option Value)} {oc_wanswer kV_wanswer dc_wanswer pm_wanswer cd_wanswer ct_wanswer : Value}
    {f_wby_rows : Addr} {od_wby_rows an_wby_rows : Option Addr} {sl_wby_rows : Array (Option Value)} {oc_wby_rows kV_wby_rows dc_wby_rows pm_wby_rows cd_wby_rows ct_wby_rows : Value}
    {f_wdrawn_table : Addr} {od_wdrawn_table an_wdrawn_table : Option Addr} {sl_wdrawn_table : Array (Option Value)} {oc_wdrawn_table kV_wdrawn_table dc_wdrawn_table pm_wdrawn_table cd_wdrawn_table ct_wdrawn_table : Value}
    {f_wfirst_signs : Addr} {od_wfirst_signs an_wfirst_signs : Option Addr} {sl_wfirst_signs : Array (Option Value)} {oc_wfirst_signs kV_wfirst_signs dc_wfirst_signs pm_wfirst_signs cd_wfirst_signs ct_wfirst_signs : Value}
    {f_wcompared : Addr} {od_wcompared an_wcompared : Option Addr} {sl_wcompared : Array (Option Value)} {oc_wcompared kV_wcompared dc_wcompared pm_wcompared cd_wcompared ct_wcompared : Value}
    {f_wspec : Addr} {od_wspec an_wspec : Option Addr} {sl_wspec : Array (Option Value)} {oc_wspec kV_wspec dc_wspec pm_wspec cd_wspec ct_wspec : Value}
    {f_wquestion : Addr} {od_wquestion an_wquestion : Option Addr} {sl_wquestion : Array (Option Value)} {oc_wquestion kV_wquestion dc_wquestion pm_wquestion cd_wquestion ct_wquestion : Value}
    {f_wdrawn_words : Addr} {od_wdrawn_words an_wdrawn_words : Option Addr} {sl_wdrawn_words : Array (Option Value)} {oc_wdrawn_words kV_wdrawn_words dc_wdrawn_words pm_wdrawn_words cd_wdrawn_words ct_wdrawn_words : Value}
    {f_law : Addr} {od_law an_law : Option Addr} {sl_law : Array (Option Value)} {oc_law kV_law dc_law pm_law cd_law ct_law : Value}
    {t_GONE : Tok}
    {t_LEAST_ROWS : Tok}
    {t_LETTERS : Tok}
    {t_MOST_LETTERS : Tok}
    {t_MOST_ROWS : Tok}
    {t_MOST_STANDINGS : Tok}
    (aC_Question : PySem.W.nsIn K mainGlobals "Question" = some (some (.ref C_Question)))
    (a_is_integer : PySem.W.nsIn K mainGlobals "is_integer" = some (some (.ref f_is_integer)))
    (l_is_integer : K.lookup f_is_integer = some ⟨oc_is_integer, od_is_integer, .func (PySem.W.fnOf "is_integer" "is_integer" (defArgs s_is_integer) (defBody s_is_integer) (defScope s_is_integer) .none kV_is_integer dc_is_integer pm_is_integer an_is_integer cd_is_integer ct_is_integer), sl_is_integer⟩)
    (c_is_integer : PySem.W.codeIn K cd_is_integer "is_integer" = true)
    (k_is_integer : PySem.W.keepIn K (.ref f_is_integer) = true)
    (a_is_within : PySem.W.nsIn K mainGlobals "is_within" = some (some (.ref f_is_within)))
    (l_is_within : K.lookup f_is_within = some ⟨oc_is_within, od_is_within, .func (PySem.W.fnOf "is_within" "is_within" (defArgs s_is_within) (defBody s_is_within) (defScope s_is_within) .none kV_is_within dc_is_within pm_is_within an_is_within cd_is_within ct_is_within), sl_is_within⟩)
    (c_is_within : PySem.W.codeIn K cd_is_within "is_within" = true)
    (k_is_within : PySem.W.keepIn K (.ref f_is_within) = true)
    (a_is_pair : PySem.W.nsIn K mainGlobals "is_pair" = some (some (.ref f_is_pair)))
    (l_is_pair : K.lookup f_is_pair = some ⟨oc_is_pair, od_is_pair, .func (PySem.W.fnOf "is_pair" "is_pair" (defArgs s_is_pair) (defBody s_is_pair) (defScope s_is_pair) .none kV_is_pair dc_is_pair pm_is_pair an_is_pair cd_is_pair ct_is_pair), sl_is_pair⟩)
    (c_is_pair : PySem.W.codeIn K cd_is_pair "is_pair" = true)
    (k_is_pair : PySem.W.keepIn K (.ref f_is_pair) = true)
    (a_is_string_of : PySem.W.nsIn K mainGlobals "is_string_of" = some (some (.ref f_is_string_of)))
    (l_is_string_of : K.lookup f_is_string_of = some ⟨oc_is_string_of, od_is_string_of, .func (PySem.W.fnOf "is_string_of" "is_string_of" (defArgs s_is_string_of) (defBody s_is_string_of) (defScope s_is_string_of) .none kV_is_string_of dc_is_string_of pm_is_string_of an_is_string_of cd_is_string_of ct_is_string_of), sl_is_string_of⟩)
    (c_is_string_of : PySem.W.codeIn K cd_is_string_of "is_string_of" = true)
    (k_is_string_of : PySem.W.keepIn K (.ref f_is_string_of) = true)
    (a_is_letters : PySem.W.nsIn K mainGlobals "is_letters" = some (some (.ref f_is_letters)))
    (l_is_letters : K.lookup f_is_letters = some ⟨oc_is_letters, od_is_letters, .func (PySem.W.fnOf "is_letters" "is_letters" (defArgs s_is_letters) (defBody s_is_letters) (defScope s_is_letters) .none kV_is_letters dc_is_letters pm_is_letters an_is_letters cd_is_letters ct_is_letters), sl_is_letters⟩)
    (c_is_letters : PySem.W.codeIn K cd_is_letters "is_letters" = true)
    (k_is_letters : PySem.W.keepIn K (.ref f_is_letters) = true)
    (a_columns : PySem.W.nsIn K mainGlobals "columns" = some (some (.ref f_columns)))
    (l_columns : K.lookup f_columns = some ⟨oc_columns, od_columns, .func (PySem.W.fnOf "columns" "columns" (defArgs s_columns) (defBody s_columns) (defScope s_columns) .none kV_columns dc_columns pm_columns an_columns cd_columns ct_columns), sl_columns⟩)
    (c_columns : PySem.W.codeIn K cd_columns "columns" = true)
    (k_columns : PySem.W.keepIn K (.ref f_columns) = true)
    (a_readings : PySem.W.nsIn K mainGlobals "readings" = some (some (.ref f_readings)))
    (l_readings : K.lookup f_readings = some ⟨oc_readings, od_readings, .func (PySem.W.fnOf "readings" "readings" (defArgs s_readings) (defBody s_readings) (defScope s_readings) .none kV_readings dc_readings pm_readings an_readings cd_readings ct_readings), sl_readings⟩)
    (c_readings : PySem.W.codeIn K cd_readings "readings" = true)
    (k_readings : PySem.W.keepIn K (.ref f_readings) = true)
    (a_is_standing : PySem.W.nsIn K mainGlobals "is_standing" = some (some (.ref f_is_standing)))
    (l_is_standing : K.lookup f_is_standing = some ⟨oc_is_standing, od_is_standing, .func (PySem.W.fnOf "is_standing" "is_standing" (defArgs s_is_standing) (defBody s_is_standing) (defScope s_is_standing) .none kV_is_standing dc_is_standing pm_is_standing an_is_standing cd_is_standing ct_is_standing), sl_is_standing⟩)
    (c_is_standing : PySem.W.codeIn K cd_is_standing "is_standing" = true)
    (k_is_standing : PySem.W.keepIn K (.ref f_is_standing) = true)
    (a_Question_init : PySem.W.findIn K (.ref C_Question) "__init__" = some (some (.ref f_Question_init)))
    (i_Question_init : PySem.W.isFn K (.ref f_Question_init) = true)
    (l_Question_init : K.lookup f_Question_init = some ⟨oc_Question_init, od_Question_init, .func (PySem.W.fnOf "__init__" "Question.__init__" (defArgs s_Question_init) (defBody s_Question_init) (defScope s_Question_init) .none kV_Question_init dc_Question_init pm_Question_init an_Question_init cd_Question_init ct_Question_init), sl_Question_init⟩)
    (c_Question_init : PySem.W.codeIn K cd_Question_init "Question.__init__" = true)
    (k_Question_init : PySem.W.keepIn K (.ref f_Question_init) = true)
    (a_numbers_of : PySem.W.nsIn K mainGlobals "numbers_of" = some (some (.ref f_numbers_of)))
    (l_numbers_of : K.lookup f_numbers_of = some ⟨oc_numbers_of, od_numbers_of, .func (PySem.W.fnOf "numbers_of" "numbers_of" (defArgs s_numbers_of) (defBody s_numbers_of) (defScope s_numbers_of) .none kV_numbers_of dc_numbers_of pm_numbers_of an_numbers_of cd_numbers_of ct_numbers_of), sl_numbers_of⟩)
    (c_numbers_of : PySem.W.codeIn K cd_numbers_of "numbers_of" = true)
    (k_numbers_of : PySem.W.keepIn K (.ref f_numbers_of) = true)
    (a_read : PySem.W.nsIn K mainGlobals "read" = some (some (.ref f_read)))
    (l_read : K.lookup f_read = some ⟨oc_read, od_read, .func (PySem.W.fnOf "read" "read" (defArgs s_read) (defBody s_read) (defScope s_read) .none kV_read dc_read pm_read an_read cd_read ct_read), sl_read⟩)
    (c_read : PySem.W.codeIn K cd_read "read" = true)
    (k_read : PySem.W.keepIn K (.ref f_read) = true)
    (a_column_at : PySem.W.nsIn K mainGlobals "column_at" = some (some (.ref f_column_at)))
    (l_column_at : K.lookup f_column_at = some ⟨oc_column_at, od_column_at, .func (PySem.W.fnOf "column_at" "column_at" (defArgs s_column_at) (defBody s_column_at) (defScope s_column_at) .none kV_column_at dc_column_at pm_column_at an_column_at cd_column_at ct_column_at), sl_column_at⟩)
    (c_column_at : PySem.W.codeIn K cd_column_at "column_at" = true)
    (k_column_at : PySem.W.keepIn K (.ref f_column_at) = true)
    (a_longest : PySem.W.nsIn K mainGlobals "longest" = some (some (.ref f_longest)))
    (l_longest : K.lookup f_longest = some ⟨oc_longest, od_longest, .func (PySem.W.fnOf "longest" "longest" (defArgs s_longest) (defBody s_longest) (defScope s_longest) .none kV_longest dc_longest pm_longest an_longest cd_longest ct_longest), sl_longest⟩)
    (c_longest : PySem.W.codeIn K cd_longest "longest" = true)
    (k_longest : PySem.W.keepIn K (.ref f_longest) = true)
    (a_are_words : PySem.W.nsIn K mainGlobals "are_words" = some (some (.ref f_are_words)))
    (l_are_words : K.lookup f_are_words = some ⟨oc_are_words, od_are_words, .func (PySem.W.fnOf "are_words" "are_words" (defArgs s_are_words) (defBody s_are_words) (defScope s_are_words) .none kV_are_words dc_are_words pm_are_words an_are_words cd_are_words ct_are_words), sl_are_words⟩)
    (c_are_words : PySem.W.codeIn K cd_are_words "are_words" = true)
    (k_are_words : PySem.W.keepIn K (.ref f_are_words) = true)
    (a_check_words : PySem.W.nsIn K mainGlobals "check_words" = some (some (.ref f_check_words)))
    (l_check_words : K.lookup f_check_words = some ⟨oc_check_words, od_check_words, .func (PySem.W.fnOf "check_words" "check_words" (defArgs s_check_words) (defBody s_check_words) (defScope s_check_words) .none kV_check_words dc_check_words pm_check_words an_check_words cd_check_words ct_check_words), sl_check_words⟩)
    (c_check_words : PySem.W.codeIn K cd_check_words "check_words" = true)
    (k_check_words : PySem.W.keepIn K (.ref f_check_words) = true)
    (a_standing_with : PySem.W.nsIn K mainGlobals "standing_with" = some (some (.ref f_standing_with)))
    (l_standing_with : K.lookup f_standing_with = some ⟨oc_standing_with, od_standing_with, .func (PySem.W.fnOf "standing_with" "standing_with" (defArgs s_standing_with) (defBody s_standing_with) (defScope s_standing_with) .none kV_standing_with dc_standing_with pm_standing_with an_standing_with cd_standing_with ct_standing_with), sl_standing_with⟩)
    (c_standing_with : PySem.W.codeIn K cd_standing_with "standing_with" = true)
    (k_standing_with : PySem.W.keepIn K (.ref f_standing_with) = true)
    (a_answer_to : PySem.W.nsIn K mainGlobals "answer_to" = some (some (.ref f_answer_to)))
    (l_answer_to : K.lookup f_answer_to = some ⟨oc_answer_to, od_answer_to, .func (PySem.W.fnOf "answer_to" "answer_to" (defArgs s_answer_to) (defBody s_answer_to) (defScope s_answer_to) .none kV_answer_to dc_answer_to pm_answer_to an_answer_to cd_answer_to ct_answer_to), sl_answer_to⟩)
    (c_answer_to : PySem.W.codeIn K cd_answer_to "answer_to" = true)
    (k_answer_to : PySem.W.keepIn K (.ref f_answer_to) = true)
    (a_answer : PySem.W.nsIn K mainGlobals "answer" = some (some (.ref f_answer)))
    (l_answer : K.lookup f_answer = some ⟨oc_answer, od_answer, .func (PySem.W.fnOf "answer" "answer" (defArgs s_answer) (defBody s_answer) (defScope s_answer) .none kV_answer dc_answer pm_answer an_answer cd_answer ct_answer), sl_answer⟩)
    (c_answer : PySem.W.codeIn K cd_answer "answer" = true)
    (k_answer : PySem.W.keepIn K (.ref f_answer) = true)
    (a_wpool : PySem.W.nsIn K mainGlobals "_law_pool" = some (some (.ref f_wpool)))
    (l_wpool : K.lookup f_wpool = some ⟨oc_wpool, od_wpool, .func (PySem.W.fnOf "_law_pool" "_law_pool" (defArgs s_wpool) (defBody s_wpool) (defScope s_wpool) .none kV_wpool dc_wpool pm_wpool an_wpool cd_wpool ct_wpool), sl_wpool⟩)
    (c_wpool : PySem.W.codeIn K cd_wpool "_law_pool" = true)
    (k_wpool : PySem.W.keepIn K (.ref f_wpool) = true)
    (a_wdraw : PySem.W.nsIn K mainGlobals "_law_draw" = some (some (.ref f_wdraw)))
    (l_wdraw : K.lookup f_wdraw = some ⟨oc_wdraw, od_wdraw, .func (PySem.W.fnOf "_law_draw" "_law_draw" (defArgs s_wdraw) (defBody s_wdraw) (defScope s_wdraw) .none kV_wdraw dc_wdraw pm_wdraw an_wdraw cd_wdraw ct_wdraw), sl_wdraw⟩)
    (c_wdraw : PySem.W.codeIn K cd_wdraw "_law_draw" = true)
    (k_wdraw : PySem.W.keepIn K (.ref f_wdraw) = true)
    (a_wpick : PySem.W.nsIn K mainGlobals "_law_pick" = some (some (.ref f_wpick)))
    (l_wpick : K.lookup f_wpick = some ⟨oc_wpick, od_wpick, .func (PySem.W.fnOf "_law_pick" "_law_pick" (defArgs s_wpick) (defBody s_wpick) (defScope s_wpick) .none kV_wpick dc_wpick pm_wpick an_wpick cd_wpick ct_wpick), sl_wpick⟩)
    (c_wpick : PySem.W.codeIn K cd_wpick "_law_pick" = true)
    (k_wpick : PySem.W.keepIn K (.ref f_wpick) = true)
    (a_wcolumns : PySem.W.nsIn K mainGlobals "_law_columns" = some (some (.ref f_wcolumns)))
    (l_wcolumns : K.lookup f_wcolumns = some ⟨oc_wcolumns, od_wcolumns, .func (PySem.W.fnOf "_law_columns" "_law_columns" (defArgs s_wcolumns) (defBody s_wcolumns) (defScope s_wcolumns) .none kV_wcolumns dc_wcolumns pm_wcolumns an_wcolumns cd_wcolumns ct_wcolumns), sl_wcolumns⟩)
    (c_wcolumns : PySem.W.codeIn K cd_wcolumns "_law_columns" = true)
    (k_wcolumns : PySem.W.keepIn K (.ref f_wcolumns) = true)
    (a_wlead : PySem.W.nsIn K mainGlobals "_law_lead" = some (some (.ref f_wlead)))
    (l_wlead : K.lookup f_wlead = some ⟨oc_wlead, od_wlead, .func (PySem.W.fnOf "_law_lead" "_law_lead" (defArgs s_wlead) (defBody s_wlead) (defScope s_wlead) .none kV_wlead dc_wlead pm_wlead an_wlead cd_wlead ct_wlead), sl_wlead⟩)
    (c_wlead : PySem.W.codeIn K cd_wlead "_law_lead" = true)
    (k_wlead : PySem.W.keepIn K (.ref f_wlead) = true)
    (a_wcolumn_at : PySem.W.nsIn K mainGlobals "_law_column_at" = some (some (.ref f_wcolumn_at)))
    (l_wcolumn_at : K.lookup f_wcolumn_at = some ⟨oc_wcolumn_at, od_wcolumn_at, .func (PySem.W.fnOf "_law_column_at" "_law_column_at" (defArgs s_wcolumn_at) (defBody s_wcolumn_at) (defScope s_wcolumn_at) .none kV_wcolumn_at dc_wcolumn_at pm_wcolumn_at an_wcolumn_at cd_wcolumn_at ct_wcolumn_at), sl_wcolumn_at⟩)
    (c_wcolumn_at : PySem.W.codeIn K cd_wcolumn_at "_law_column_at" = true)
    (k_wcolumn_at : PySem.W.keepIn K (.ref f_wcolumn_at) = true)
    (a_wanswer : PySem.W.nsIn K mainGlobals "_law_answer" = some (some (.ref f_wanswer)))
    (l_wanswer : K.lookup f_wanswer = some ⟨oc_wanswer, od_wanswer, .func (PySem.W.fnOf "_law_answer" "_law_answer" (defArgs s_wanswer) (defBody s_wanswer) (defScope s_wanswer) .none kV_wanswer dc_wanswer pm_wanswer an_wanswer cd_wanswer ct_wanswer), sl_wanswer⟩)
    (c_wanswer : PySem.W.codeIn K cd_wanswer "_law_answer" = true)
    (k_wanswer : PySem.W.keepIn K (.ref f_wanswer) = true)
    (a_wby_rows : PySem.W.nsIn K mainGlobals "_law_by_rows" = some (some (.ref f_wby_rows)))
    (l_wby_rows : K.lookup f_wby_rows = some ⟨oc_wby_rows, od_wby_rows, .func (PySem.W.fnOf "_law_by_rows" "_law_by_rows" (defArgs s_wby_rows) (defBody s_wby_rows) (defScope s_wby_rows) .none kV_wby_rows dc_wby_rows pm_wby_rows an_wby_rows cd_wby_rows ct_wby_rows), sl_wby_rows⟩)
    (c_wby_rows : PySem.W.codeIn K cd_wby_rows "_law_by_rows" = true)
    (k_wby_rows : PySem.W.keepIn K (.ref f_wby_rows) = true)
    (a_wdrawn_table : PySem.W.nsIn K mainGlobals "_law_drawn_table" = some (some (.ref f_wdrawn_table)))
    (l_wdrawn_table : K.lookup f_wdrawn_table = some ⟨oc_wdrawn_table, od_wdrawn_table, .func (PySem.W.fnOf "_law_drawn_table" "_law_drawn_table" (defArgs s_wdrawn_table) (defBody s_wdrawn_table) (defScope s_wdrawn_table) .none kV_wdrawn_table dc_wdrawn_table pm_wdrawn_table an_wdrawn_table cd_wdrawn_table ct_wdrawn_table), sl_wdrawn_table⟩)
    (c_wdrawn_table : PySem.W.codeIn K cd_wdrawn_table "_law_drawn_table" = true)
    (k_wdrawn_table : PySem.W.keepIn K (.ref f_wdrawn_table) = true)
    (a_wfirst_signs : PySem.W.nsIn K mainGlobals "_law_first_signs" = some (some (.ref f_wfirst_signs)))
    (l_wfirst_signs : K.lookup f_wfirst_signs = some ⟨oc_wfirst_signs, od_wfirst_signs, .func (PySem.W.fnOf "_law_first_signs" "_law_first_signs" (defArgs s_wfirst_signs) (defBody s_wfirst_signs) (defScope s_wfirst_signs) .none kV_wfirst_signs dc_wfirst_signs pm_wfirst_signs an_wfirst_signs cd_wfirst_signs ct_wfirst_signs), sl_wfirst_signs⟩)
    (c_wfirst_signs : PySem.W.codeIn K cd_wfirst_signs "_law_first_signs" = true)
    (k_wfirst_signs : PySem.W.keepIn K (.ref f_wfirst_signs) = true)
    (a_wcompared : PySem.W.nsIn K mainGlobals "_law_compared" = some (some (.ref f_wcompared)))
    (l_wcompared : K.lookup f_wcompared = some ⟨oc_wcompared, od_wcompared, .func (PySem.W.fnOf "_law_compared" "_law_compared" (defArgs s_wcompared) (defBody s_wcompared) (defScope s_wcompared) .none kV_wcompared dc_wcompared pm_wcompared an_wcompared cd_wcompared ct_wcompared), sl_wcompared⟩)
    (c_wcompared : PySem.W.codeIn K cd_wcompared "_law_compared" = true)
    (k_wcompared : PySem.W.keepIn K (.ref f_wcompared) = true)
    (a_wspec : PySem.W.nsIn K mainGlobals "_law_spec" = some (some (.ref f_wspec)))
    (l_wspec : K.lookup f_wspec = some ⟨oc_wspec, od_wspec, .func (PySem.W.fnOf "_law_spec" "_law_spec" (defArgs s_wspec) (defBody s_wspec) (defScope s_wspec) .none kV_wspec dc_wspec pm_wspec an_wspec cd_wspec ct_wspec), sl_wspec⟩)
    (c_wspec : PySem.W.codeIn K cd_wspec "_law_spec" = true)
    (k_wspec : PySem.W.keepIn K (.ref f_wspec) = true)
    (a_wquestion : PySem.W.nsIn K mainGlobals "_law_question" = some (some (.ref f_wquestion)))
    (l_wquestion : K.lookup f_wquestion = some ⟨oc_wquestion, od_wquestion, .func (PySem.W.fnOf "_law_question" "_law_question" (defArgs s_wquestion) (defBody s_wquestion) (defScope s_wquestion) .none kV_wquestion dc_wquestion pm_wquestion an_wquestion cd_wquestion ct_wquestion), sl_wquestion⟩)
    (c_wquestion : PySem.W.codeIn K cd_wquestion "_law_question" = true)
    (k_wquestion : PySem.W.keepIn K (.ref f_wquestion) = true)
    (a_wdrawn_words : PySem.W.nsIn K mainGlobals "_law_drawn_words" = some (some (.ref f_wdrawn_words)))
    (l_wdrawn_words : K.lookup f_wdrawn_words = some ⟨oc_wdrawn_words, od_wdrawn_words, .func (PySem.W.fnOf "_law_drawn_words" "_law_drawn_words" (defArgs s_wdrawn_words) (defBody s_wdrawn_words) (defScope s_wdrawn_words) .none kV_wdrawn_words dc_wdrawn_words pm_wdrawn_words an_wdrawn_words cd_wdrawn_words ct_wdrawn_words), sl_wdrawn_words⟩)
    (c_wdrawn_words : PySem.W.codeIn K cd_wdrawn_words "_law_drawn_words" = true)
    (k_wdrawn_words : PySem.W.keepIn K (.ref f_wdrawn_words) = true)
    (a_law : PySem.W.nsIn K mainGlobals "law" = some (some (.ref f_law)))
    (l_law : K.lookup f_law = some ⟨oc_law, od_law, .func (PySem.W.fnOf "law" "law" (defArgs s_law) (defBody s_law) (defScope s_law) .none kV_law dc_law pm_law an_law cd_law ct_law), sl_law⟩)
    (c_law : PySem.W.codeIn K cd_law "law" = true)
    (k_law : PySem.W.keepIn K (.ref f_law) = true)
    (pg_Question : PySem.W.plainGet K C_Question Str.empty = true)
    (hd_Question : PySem.W.hasDictIn K C_Question = true)
    (po_Question : PySem.W.plainOver K C_Question = true)
    (sa_Question : PySem.W.findIn K (.ref C_Question) "__setattr__" = some (some (.builtin "object.__setattr__")))
    (mk_Question : PySem.W.makesIn K C_Question = true)
    (kc_Question : PySem.W.keepIn K (.ref C_Question) = true)
    (n_Question_rows : PySem.W.findIn K (.ref C_Question) "rows" = some none)
    (n_Question_letters : PySem.W.findIn K (.ref C_Question) "letters" = some none)
    (n_Question_table : PySem.W.findIn K (.ref C_Question) "table" = some none)
    (n_Question_kept : PySem.W.findIn K (.ref C_Question) "kept" = some none)
    (kk_GONE : PySem.W.nsIn K mainGlobals "GONE" = some (some (.str "-" t_GONE)))
    (kk_LEAST_ROWS : PySem.W.nsIn K mainGlobals "LEAST_ROWS" = some (some (.int 2 t_LEAST_ROWS)))
    (kk_LETTERS : PySem.W.nsIn K mainGlobals "LETTERS" = some (some (.str "abc" t_LETTERS)))
    (kk_MOST_LETTERS : PySem.W.nsIn K mainGlobals "MOST_LETTERS" = some (some (.int 2 t_MOST_LETTERS)))
    (kk_MOST_ROWS : PySem.W.nsIn K mainGlobals "MOST_ROWS" = some (some (.int 4 t_MOST_ROWS)))
    (kk_MOST_STANDINGS : PySem.W.nsIn K mainGlobals "MOST_STANDINGS" = some (some (.int 8 t_MOST_STANDINGS)))
    (z_abs : PySem.W.nsIn K mainGlobals "abs" = some none)
    (z_all : PySem.W.nsIn K mainGlobals "all" = some none)
    (z_bool : PySem.W.nsIn K mainGlobals "bool" = some none)
    (z_enumerate : PySem.W.nsIn K mainGlobals "enumerate" = some none)
    (z_int : PySem.W.nsIn K mainGlobals "int" = some none)
    (z_isinstance : PySem.W.nsIn K mainGlobals "isinstance" = some none)
    (z_len : PySem.W.nsIn K mainGlobals "len" = some none)
    (z_max : PySem.W.nsIn K mainGlobals "max" = some none)
    (z_range : PySem.W.nsIn K mainGlobals "range" = some none)
    (z_str : PySem.W.nsIn K mainGlobals "str" = some none)
    (z_tuple : PySem.W.nsIn K mainGlobals "tuple" = some none)
    : ∃ fd : FuncData, (∀ (s : Shared) (v : Value), BindsTo s fd ⟨[v], []⟩ [("script", v)]) ∧ ∀ base : Heap, K.In base → base.Ns mainGlobals mg → FnOk l.prog w K mg base CX0 8 fa fd ["script"] (LSp K w sp_law) := by
  have e := hfa.symm.trans (PySem.W.mg_of X G a_law)
  cases e
  have F_is_integer := fun_mk (st := s_is_integer) l_is_integer c_is_integer k_is_integer
  have b_is_integer := F_is_integer.binds (ps := ["thing"]) fun _ _ _ _ _ _ us hl => match us, hl with | [_], _ => rfl
  have F_is_within := fun_mk (st := s_is_within) l_is_within c_is_within k_is_within
  have b_is_within := F_is_within.binds (ps := ["thing", "least", "most"]) fun _ _ _ _ _ _ us hl => match us, hl with | [_, _, _], _ => rfl
  have F_is_pair := fun_mk (st := s_is_pair) l_is_pair c_is_pair k_is_pair
  have b_is_pair := F_is_pair.binds (ps := ["thing"]) fun _ _ _ _ _ _ us hl => match us, hl with | [_], _ => rfl
  have F_is_string_of := fun_mk (st := s_is_string_of) l_is_string_of c_is_string_of k_is_string_of
  have b_is_string_of := F_is_string_of.binds (ps := ["thing", "signs"]) fun _ _ _ _ _ _ us hl => match us, hl with | [_, _], _ => rfl
  have F_is_letters := fun_mk (st := s_is_letters) l_is_letters c_is_letters k_is_letters
  have b_is_letters := F_is_letters.binds (ps := ["thing", "letters"]) fun _ _ _ _ _ _ us hl => match us, hl with | [_, _], _ => rfl
  have F_columns := fun_mk (st := s_columns) l_columns c_columns k_columns
  have b_columns := F_columns.binds (ps := ["rows", "letters"]) fun _ _ _ _ _ _ us hl => match us, hl with | [_, _], _ => rfl
  have F_readings := fun_mk (st := s_readings) l_readings c_readings k_readings
  have b_readings := F_readings.binds (ps := ["rows", "letters"]) fun _ _ _ _ _ _ us hl => match us, hl with | [_, _], _ => rfl
  have F_is_standing := fun_mk (st := s_is_standing) l_is_standing c_is_standing k_is_standing
  have b_is_standing := F_is_standing.binds (ps := ["thing", "many", "wide"]) fun _ _ _ _ _ _ us hl => match us, hl with | [_, _, _], _ => rfl
  have F_Question_init := fun_mk (st := s_Question_init) l_Question_init c_Question_init k_Question_init
  have b_Question_init := F_Question_init.binds (ps := ["self", "rows", "letters", "table"]) fun _ _ _ _ _ _ us hl => match us, hl with | [_, _, _, _], _ => rfl
  have F_numbers_of := fun_mk (st := s_numbers_of) l_numbers_of c_numbers_of k_numbers_of
  have b_numbers_of := F_numbers_of.binds (ps := ["question"]) fun _ _ _ _ _ _ us hl => match us, hl with | [_], _ => rfl
  have F_read := fun_mk (st := s_read) l_read c_read k_read
  have b_read := F_read.binds (ps := ["question", "standing", "reading"]) fun _ _ _ _ _ _ us hl => match us, hl with | [_, _, _], _ => rfl
  have F_column_at := fun_mk (st := s_column_at) l_column_at c_column_at k_column_at
  have b_column_at := F_column_at.binds (ps := ["words", "place"]) fun _ _ _ _ _ _ us hl => match us, hl with | [_, _], _ => rfl
  have F_longest := fun_mk (st := s_longest) l_longest c_longest k_longest
  have b_longest := F_longest.binds (ps := ["words"]) fun _ _ _ _ _ _ us hl => match us, hl with | [_], _ => rfl
  have F_are_words := fun_mk (st := s_are_words) l_are_words c_are_words k_are_words
  have b_are_words := F_are_words.binds (ps := ["many", "letters", "thing"]) fun _ _ _ _ _ _ us hl => match us, hl with | [_, _, _], _ => rfl
  have F_check_words := fun_mk (st := s_check_words) l_check_words c_check_words k_check_words
  have b_check_words := F_check_words.binds (ps := ["many", "letters", "thing"]) fun _ _ _ _ _ _ us hl => match us, hl with | [_, _, _], _ => rfl
  have F_standing_with := fun_mk (st := s_standing_with) l_standing_with c_standing_with k_standing_with
  have b_standing_with := F_standing_with.binds (ps := ["question", "words"]) fun _ _ _ _ _ _ us hl => match us, hl with | [_, _], _ => rfl
  have F_answer_to := fun_mk (st := s_answer_to) l_answer_to c_answer_to k_answer_to
  have b_answer_to := F_answer_to.binds (ps := ["question", "words"]) fun _ _ _ _ _ _ us hl => match us, hl with | [_, _], _ => rfl
  have F_answer := fun_mk (st := s_answer) l_answer c_answer k_answer
  have b_answer := F_answer.binds (ps := ["question", "words"]) fun _ _ _ _ _ _ us hl => match us, hl with | [_, _], _ => rfl
  have F_wpool := fun_mk (st := s_wpool) l_wpool c_wpool k_wpool
  have b_wpool := F_wpool.binds (ps := ["script"]) fun _ _ _ _ _ _ us hl => match us, hl with | [_], _ => rfl
  have F_wdraw := fun_mk (st := s_wdraw) l_wdraw c_wdraw k_wdraw
  have b_wdraw := F_wdraw.binds (ps := ["pool", "many"]) fun _ _ _ _ _ _ us hl => match us, hl with | [_, _], _ => rfl
  have F_wpick := fun_mk (st := s_wpick) l_wpick c_wpick k_wpick
  have b_wpick := F_wpick.binds (ps := ["pool", "things"]) fun _ _ _ _ _ _ us hl => match us, hl with | [_, _], _ => rfl
  have F_wcolumns := fun_mk (st := s_wcolumns) l_wcolumns c_wcolumns k_wcolumns
  have b_wcolumns := F_wcolumns.binds (ps := ["rows", "letters"]) fun _ _ _ _ _ _ us hl => match us, hl with | [_, _], _ => rfl
  have F_wlead := fun_mk (st := s_wlead) l_wlead c_wlead k_wlead
  have b_wlead := F_wlead.binds (ps := ["spec", "standing", "column"]) fun _ _ _ _ _ _ us hl => match us, hl with | [_, _, _], _ => rfl
  have F_wcolumn_at := fun_mk (st := s_wcolumn_at) l_wcolumn_at c_wcolumn_at k_wcolumn_at
  have b_wcolumn_at := F_wcolumn_at.binds (ps := ["words", "place"]) fun _ _ _ _ _ _ us hl => match us, hl with | [_, _], _ => rfl
  have F_wanswer := fun_mk (st := s_wanswer) l_wanswer c_wanswer k_wanswer
  have b_wanswer := F_wanswer.binds (ps := ["spec", "words"]) fun _ _ _ _ _ _ us hl => match us, hl with | [_, _], _ => rfl
  have F_wby_rows := fun_mk (st := s_wby_rows) l_wby_rows c_wby_rows k_wby_rows
  have b_wby_rows := F_wby_rows.binds (ps := ["pool", "rows", "letters"]) fun _ _ _ _ _ _ us hl => match us, hl with | [_, _, _], _ => rfl
  have F_wdrawn_table := fun_mk (st := s_wdrawn_table) l_wdrawn_table c_wdrawn_table k_wdrawn_table
  have b_wdrawn_table := F_wdrawn_table.binds (ps := ["pool", "rows", "letters", "many", "plain"]) fun _ _ _ _ _ _ us hl => match us, hl with | [_, _, _, _, _], _ => rfl
  have F_wfirst_signs := fun_mk (st := s_wfirst_signs) l_wfirst_signs c_wfirst_signs k_wfirst_signs
  have b_wfirst_signs := F_wfirst_signs.binds (ps := ["pool", "rows", "letters"]) fun _ _ _ _ _ _ us hl => match us, hl with | [_, _, _], _ => rfl
  have F_wcompared := fun_mk (st := s_wcompared) l_wcompared c_wcompared k_wcompared
  have b_wcompared := F_wcompared.binds (ps := ["pool", "rows", "letters"]) fun _ _ _ _ _ _ us hl => match us, hl with | [_, _, _], _ => rfl
  have F_wspec := fun_mk (st := s_wspec) l_wspec c_wspec k_wspec
  have b_wspec := F_wspec.binds (ps := ["pool", "most_rows"]) fun _ _ _ _ _ _ us hl => match us, hl with | [_, _], _ => rfl
  have F_wquestion := fun_mk (st := s_wquestion) l_wquestion c_wquestion k_wquestion
  have b_wquestion := F_wquestion.binds (ps := ["spec"]) fun _ _ _ _ _ _ us hl => match us, hl with | [_], _ => rfl
  have F_wdrawn_words := fun_mk (st := s_wdrawn_words) l_wdrawn_words c_wdrawn_words k_wdrawn_words
  have b_wdrawn_words := F_wdrawn_words.binds (ps := ["pool", "rows", "letters", "most"]) fun _ _ _ _ _ _ us hl => match us, hl with | [_, _, _, _], _ => rfl
  have F_law := fun_mk (st := s_law) l_law c_law k_law
  have b_law := F_law.binds (ps := ["script"]) fun _ _ _ _ _ _ us hl => match us, hl with | [_], _ => rfl
  let T : Txt K mg := {
    t_MOST_STANDINGS := t_MOST_STANDINGS,
    t_MOST_ROWS := t_MOST_ROWS,
    t_MOST_LETTERS := t_MOST_LETTERS,
    t_LETTERS := t_LETTERS,
    t_LEAST_ROWS := t_LEAST_ROWS,
    t_GONE := t_GONE,
    a_is_integer := f_is_integer,
    d_is_integer := _,
    F_is_integer := F_is_integer,
    b_is_integer := b_is_integer,
    m_is_integer := PySem.W.mg_of X G a_is_integer,
    a_is_within := f_is_within,
    d_is_within := _,
    F_is_within := F_is_within,
    b_is_within := b_is_within,
    m_is_within := PySem.W.mg_of X G a_is_within,
    a_is_pair := f_is_pair,
    d_is_pair := _,
    F_is_pair := F_is_pair,
    b_is_pair := b_is_pair,
    m_is_pair := PySem.W.mg_of X G a_is_pair,
    a_is_string_of := f_is_string_of,
    d_is_string_of := _,
    F_is_string_of := F_is_string_of,
    b_is_string_of := b_is_string_of,
    m_is_string_of := PySem.W.mg_of X G a_is_string_of,
    a_is_letters := f_is_letters,
    d_is_letters := _,
    F_is_letters := F_is_letters,
    b_is_letters := b_is_letters,
    m_is_letters := PySem.W.mg_of X G a_is_letters,
    a_columns := f_columns,
    d_columns := _,
    F_columns := F_columns,
    b_columns := b_columns,
    m_columns := PySem.W.mg_of X G a_columns,
    a_readings := f_readings,
    d_readings := _,
    F_readings := F_readings,
    b_readings := b_readings,
    m_readings := PySem.W.mg_of X G a_readings,
    a_is_standing := f_is_standing,
    d_is_standing := _,
    F_is_standing := F_is_standing,
    b_is_standing := b_is_standing,
    m_is_standing := PySem.W.mg_of X G a_is_standing,
    a_Question_init := f_Question_init,
    d_Question_init := _,
    F_Question_init := F_Question_init,
    b_Question_init := b_Question_init,
    a_numbers_of := f_numbers_of,
    d_numbers_of := _,
    F_numbers_of := F_numbers_of,
    b_numbers_of := b_numbers_of,
    m_numbers_of := PySem.W.mg_of X G a_numbers_of,
    a_read := f_read,
    d_read := _,
    F_read := F_read,
    b_read := b_read,
    m_read := PySem.W.mg_of X G a_read,
    a_column_at := f_column_at,
    d_column_at := _,
    F_column_at := F_column_at,
    b_column_at := b_column_at,
    m_column_at := PySem.W.mg_of X G a_column_at,
    a_longest := f_longest,
    d_longest := _,
    F_longest := F_longest,
    b_longest := b_longest,
    m_longest := PySem.W.mg_of X G a_longest,
    a_are_words := f_are_words,
    d_are_words := _,
    F_are_words := F_are_words,
    b_are_words := b_are_words,
    m_are_words := PySem.W.mg_of X G a_are_words,
    a_check_words := f_check_words,
    d_check_words := _,
    F_check_words := F_check_words,
    b_check_words := b_check_words,
    m_check_words := PySem.W.mg_of X G a_check_words,
    a_standing_with := f_standing_with,
    d_standing_with := _,
    F_standing_with := F_standing_with,
    b_standing_with := b_standing_with,
    m_standing_with := PySem.W.mg_of X G a_standing_with,
    a_answer_to := f_answer_to,
    d_answer_to := _,
    F_answer_to := F_answer_to,
    b_answer_to := b_answer_to,
    m_answer_to := PySem.W.mg_of X G a_answer_to,
    a_answer := f_answer,
    d_answer := _,
    F_answer := F_answer,
    b_answer := b_answer,
    m_answer := PySem.W.mg_of X G a_answer,
    a_wpool := f_wpool,
    d_wpool := _,
    F_wpool := F_wpool,
    b_wpool := b_wpool,
    m_wpool := PySem.W.mg_of X G a_wpool,
    a_wdraw := f_wdraw,
    d_wdraw := _,
    F_wdraw := F_wdraw,
    b_wdraw := b_wdraw,
    m_wdraw := PySem.W.mg_of X G a_wdraw,
    a_wpick := f_wpick,
    d_wpick := _,
    F_wpick := F_wpick,
    b_wpick := b_wpick,
    m_wpick := PySem.W.mg_of X G a_wpick,
    a_wcolumns := f_wcolumns,
    d_wcolumns := _,
    F_wcolumns := F_wcolumns,
    b_wcolumns := b_wcolumns,
    m_wcolumns := PySem.W.mg_of X G a_wcolumns,
    a_wlead := f_wlead,
    d_wlead := _,
    F_wlead := F_wlead,
    b_wlead := b_wlead,
    m_wlead := PySem.W.mg_of X G a_wlead,
    a_wcolumn_at := f_wcolumn_at,
    d_wcolumn_at := _,
    F_wcolumn_at := F_wcolumn_at,
    b_wcolumn_at := b_wcolumn_at,
    m_wcolumn_at := PySem.W.mg_of X G a_wcolumn_at,
    a_wanswer := f_wanswer,
    d_wanswer := _,
    F_wanswer := F_wanswer,
    b_wanswer := b_wanswer,
    m_wanswer := PySem.W.mg_of X G a_wanswer,
    a_wby_rows := f_wby_rows,
    d_wby_rows := _,
    F_wby_rows := F_wby_rows,
    b_wby_rows := b_wby_rows,
    m_wby_rows := PySem.W.mg_of X G a_wby_rows,
    a_wdrawn_table := f_wdrawn_table,
    d_wdrawn_table := _,
    F_wdrawn_table := F_wdrawn_table,
    b_wdrawn_table := b_wdrawn_table,
    m_wdrawn_table := PySem.W.mg_of X G a_wdrawn_table,
    a_wfirst_signs := f_wfirst_signs,
    d_wfirst_signs := _,
    F_wfirst_signs := F_wfirst_signs,
    b_wfirst_signs := b_wfirst_signs,
    m_wfirst_signs := PySem.W.mg_of X G a_wfirst_signs,
    a_wcompared := f_wcompared,
    d_wcompared := _,
    F_wcompared := F_wcompared,
    b_wcompared := b_wcompared,
    m_wcompared := PySem.W.mg_of X G a_wcompared,
    a_wspec := f_wspec,
    d_wspec := _,
    F_wspec := F_wspec,
    b_wspec := b_wspec,
    m_wspec := PySem.W.mg_of X G a_wspec,
    a_wquestion := f_wquestion,
    d_wquestion := _,
    F_wquestion := F_wquestion,
    b_wquestion := b_wquestion,
    m_wquestion := PySem.W.mg_of X G a_wquestion,
    a_wdrawn_words := f_wdrawn_words,
    d_wdrawn_words := _,
    F_wdrawn_words := F_wdrawn_words,
    b_wdrawn_words := b_wdrawn_words,
    m_wdrawn_words := PySem.W.mg_of X G a_wdrawn_words,
    a_law := fa,
    d_law := _,
    F_law := F_law,
    b_law := b_law,
    m_law := hfa,
    C_Question := C_Question,
    cl_Question := ⟨pg_Question, hd_Question, po_Question, sa_Question⟩,
    mC_Question := PySem.W.mg_of X G aC_Question,
    M_Question := ⟨mk_Question, a_Question_init, i_Question_init, kc_Question⟩,
    n_Question_rows := n_Question_rows,
    n_Question_letters := n_Question_letters,
    n_Question_table := n_Question_table,
    n_Question_kept := n_Question_kept,
    k_GONE := PySem.W.mg_of X G kk_GONE,
    k_LEAST_ROWS := PySem.W.mg_of X G kk_LEAST_ROWS,
    k_LETTERS := PySem.W.mg_of X G kk_LETTERS,
    k_MOST_LETTERS := PySem.W.mg_of X G kk_MOST_LETTERS,
    k_MOST_ROWS := PySem.W.mg_of X G kk_MOST_ROWS,
    k_MOST_STANDINGS := PySem.W.mg_of X G kk_MOST_STANDINGS,
    b_abs := PySem.W.mg_none_of X G z_abs,
    b_all := PySem.W.mg_none_of X G z_all,
    b_bool := PySem.W.mg_none_of X G z_bool,
    b_enumerate := PySem.W.mg_none_of X G z_enumerate,
    b_int := PySem.W.mg_none_of X G z_int,
    b_isinstance := PySem.W.mg_none_of X G z_isinstance,
    b_len := PySem.W.mg_none_of X G z_len,
    b_max := PySem.W.mg_none_of X G z_max,
    b_range := PySem.W.mg_none_of X G z_range,
    b_str := PySem.W.mg_none_of X G z_str,
    b_tuple := PySem.W.mg_none_of X G z_tuple }
  exact ⟨T.d_law, fun s v => .of_eq rfl, fun base _ _ => ok_law T⟩
end My
open PySem PySem.W PyProof.Rows
set_option maxRecDepth 100000 in
set_option maxHeartbeats 0 in
theorem PySem.Challenge.cw_rowwalkers_k75_whole_answers_holds : PySem.Challenge.rw_rowwalkers_k75_whole_answers.Holds := by
  w_on; o_law; k_head; (case hw => w_witness2)
  k_fill
  refine L2.walk_of (l := PySem.Challenge.rw_rowwalkers_k75_whole_answers) (n := 63) (k := 8) (x := "script") (CX := fun _ => L2.CX0) (sp := fun w => DL.LSp _ w DL.lawSp) rfl (by decide) rfl ⟨rfl, by decide, by decide⟩ (fun w h Y => PySem.W.kIn_of Y) ?F (fun w H a ns hl hO hS => DL.law_in hl hO hS) (fun _ _ _ _ _ h => h)
  case F =>
    intro w mg fa h KX G hmg
    refine' My.all_mk KX G hmg ?aC_Question ?a_is_integer ?l_is_integer ?c_is_integer ?k_is_integer ?a_is_within ?l_is_within ?c_is_within ?k_is_within ?a_is_pair ?l_is_pair ?c_is_pair ?k_is_pair ?a_is_string_of ?l_is_string_of ?c_is_string_of ?k_is_string_of ?a_is_letters ?l_is_letters ?c_is_letters ?k_is_letters ?a_columns ?l_columns ?c_columns ?k_columns ?a_readings ?l_readings ?c_readings ?k_readings ?a_is_standing ?l_is_standing ?c_is_standing ?k_is_standing ?a_Question_init ?i_Question_init ?l_Question_init ?c_Question_init ?k_Question_init ?a_numbers_of ?l_numbers_of ?c_numbers_of ?k_numbers_of ?a_read ?l_read ?c_read ?k_read ?a_column_at ?l_column_at ?c_column_at ?k_column_at ?a_longest ?l_longest ?c_longest ?k_longest ?a_are_words ?l_are_words ?c_are_words ?k_are_words ?a_check_words ?l_check_words ?c_check_words ?k_check_words ?a_standing_with ?l_standing_with ?c_standing_with ?k_standing_with ?a_answer_to ?l_answer_to ?c_answer_to ?k_answer_to ?a_answer ?l_answer ?c_answer ?k_answer ?a_wpool ?l_wpool ?c_wpool ?k_wpool ?a_wdraw ?l_wdraw ?c_wdraw ?k_wdraw ?a_wpick ?l_wpick ?c_wpick ?k_wpick ?a_wcolumns ?l_wcolumns ?c_wcolumns ?k_wcolumns ?a_wlead ?l_wlead ?c_wlead ?k_wlead ?a_wcolumn_at ?l_wcolumn_at ?c_wcolumn_at ?k_wcolumn_at ?a_wanswer ?l_wanswer ?c_wanswer ?k_wanswer ?a_wby_rows ?l_wby_rows ?c_wby_rows ?k_wby_rows ?a_wdrawn_table ?l_wdrawn_table ?c_wdrawn_table ?k_wdrawn_table ?a_wfirst_signs ?l_wfirst_signs ?c_wfirst_signs ?k_wfirst_signs ?a_wcompared ?l_wcompared ?c_wcompared ?k_wcompared ?a_wspec ?l_wspec ?c_wspec ?k_wspec ?a_wquestion ?l_wquestion ?c_wquestion ?k_wquestion ?a_wdrawn_words ?l_wdrawn_words ?c_wdrawn_words ?k_wdrawn_words ?a_law ?l_law ?c_law ?k_law ?pg_Question ?hd_Question ?po_Question ?sa_Question ?mk_Question ?kc_Question ?n_Question_rows ?n_Question_letters ?n_Question_table ?n_Question_kept ?kk_GONE ?kk_LEAST_ROWS ?kk_LETTERS ?kk_MOST_LETTERS ?kk_MOST_ROWS ?kk_MOST_STANDINGS ?z_abs ?z_all ?z_bool ?z_enumerate ?z_int ?z_isinstance ?z_len ?z_max ?z_range ?z_str ?z_tuple
    (case aC_Question => k_is)
    (case a_is_integer => k_is)
    (case l_is_integer => k_is)
    (case c_is_integer => k_is)
    (case k_is_integer => k_is)
    (case a_is_within => k_is)
    (case l_is_within => k_is)
    (case c_is_within => k_is)
    (case k_is_within => k_is)
    (case a_is_pair => k_is)
    (case l_is_pair => k_is)
    (case c_is_pair => k_is)
    (case k_is_pair => k_is)
    (case a_is_string_of => k_is)
    (case l_is_string_of => k_is)
    (case c_is_string_of => k_is)
    (case k_is_string_of => k_is)
    (case a_is_letters => k_is)
    (case l_is_letters => k_is)
    (case c_is_letters => k_is)
    (case k_is_letters => k_is)
    (case a_columns => k_is)
    (case l_columns => k_is)
    (case c_columns => k_is)
    (case k_columns => k_is)
    (case a_readings => k_is)
    (case l_readings => k_is)
    (case c_readings => k_is)
    (case k_readings => k_is)
    (case a_is_standing => k_is)
    (case l_is_standing => k_is)
    (case c_is_standing => k_is)
    (case k_is_standing => k_is)
    (case a_Question_init => k_is)
    (case i_Question_init => k_is)
    (case l_Question_init => k_is)
    (case c_Question_init => k_is)
    (case k_Question_init => k_is)
    (case a_numbers_of => k_is)
    (case l_numbers_of => k_is)
    (case c_numbers_of => k_is)
    (case k_numbers_of => k_is)
    (case a_read => k_is)
    (case l_read => k_is)
    (case c_read => k_is)
    (case k_read => k_is)
    (case a_column_at => k_is)
    (case l_column_at => k_is)
    (case c_column_at => k_is)
    (case k_column_at => k_is)
    (case a_longest => k_is)
    (case l_longest => k_is)
    (case c_longest => k_is)
    (case k_longest => k_is)
    (case a_are_words => k_is)
    (case l_are_words => k_is)
    (case c_are_words => k_is)
    (case k_are_words => k_is)
    (case a_check_words => k_is)
    (case l_check_words => k_is)
    (case c_check_words => k_is)
    (case k_check_words => k_is)
    (case a_standing_with => k_is)
    (case l_standing_with => k_is)
    (case c_standing_with => k_is)
    (case k_standing_with => k_is)
    (case a_answer_to => k_is)
    (case l_answer_to => k_is)
    (case c_answer_to => k_is)
    (case k_answer_to => k_is)
    (case a_answer => k_is)
    (case l_answer => k_is)
    (case c_answer => k_is)
    (case k_answer => k_is)
    (case a_wpool => k_is)
    (case l_wpool => k_is)
    (case c_wpool => k_is)
    (case k_wpool => k_is)
    (case a_wdraw => k_is)
    (case l_wdraw => k_is)
    (case c_wdraw => k_is)
    (case k_wdraw => k_is)
    (case a_wpick => k_is)
    (case l_wpick => k_is)
    (case c_wpick => k_is)
    (case k_wpick => k_is)
    (case a_wcolumns => k_is)
    (case l_wcolumns => k_is)
    (case c_wcolumns => k_is)
    (case k_wcolumns => k_is)
    (case a_wlead => k_is)
    (case l_wlead => k_is)
    (case c_wlead => k_is)
    (case k_wlead => k_is)
    (case a_wcolumn_at => k_is)
    (case l_wcolumn_at => k_is)
    (case c_wcolumn_at => k_is)
    (case k_wcolumn_at => k_is)
    (case a_wanswer => k_is)
    (case l_wanswer => k_is)
    (case c_wanswer => k_is)
    (case k_wanswer => k_is)
    (case a_wby_rows => k_is)
    (case l_wby_rows => k_is)
    (case c_wby_rows => k_is)
    (case k_wby_rows => k_is)
    (case a_wdrawn_table => k_is)
    (case l_wdrawn_table => k_is)
    (case c_wdrawn_table => k_is)
    (case k_wdrawn_table => k_is)
    (case a_wfirst_signs => k_is)
    (case l_wfirst_signs => k_is)
    (case c_wfirst_signs => k_is)
    (case k_wfirst_signs => k_is)
    (case a_wcompared => k_is)
    (case l_wcompared => k_is)
    (case c_wcompared => k_is)
    (case k_wcompared => k_is)
    (case a_wspec => k_is)
    (case l_wspec => k_is)
    (case c_wspec => k_is)
    (case k_wspec => k_is)
    (case a_wquestion => k_is)
    (case l_wquestion => k_is)
    (case c_wquestion => k_is)
    (case k_wquestion => k_is)
    (case a_wdrawn_words => k_is)
    (case l_wdrawn_words => k_is)
    (case c_wdrawn_words => k_is)
    (case k_wdrawn_words => k_is)
    (case a_law => k_is)
    (case l_law => k_is)
    (case c_law => k_is)
    (case k_law => k_is)
    (case pg_Question => k_is)
    (case hd_Question => k_is)
    (case po_Question => k_is)
    (case sa_Question => k_is)
    (case mk_Question => k_is)
    (case kc_Question => k_is)
    (case n_Question_rows => k_is)
    (case n_Question_letters => k_is)
    (case n_Question_table => k_is)
    (case n_Question_kept => k_is)
    (case kk_GONE => k_is)
    (case kk_LEAST_ROWS => k_is)
    (case kk_LETTERS => k_is)
    (case kk_MOST_LETTERS => k_is)
    (case kk_MOST_ROWS => k_is)
    (case kk_MOST_STANDINGS => k_is)
    (case z_abs => k_is)
    (case z_all => k_is)
    (case z_bool => k_is)
    (case z_enumerate => k_is)
    (case z_int => k_is)
    (case z_isinstance => k_is)
    (case z_len => k_is)
    (case z_max => k_is)
    (case z_range => k_is)
    (case z_str => k_is)
    (case z_tuple => k_is)
