import PyProof.Rows.All
import Wide.All
import OpenK.AllK
import Wide.FinOn
import HandS.ForMost
import HandS.ForExc
import HandS.Flow
import HandS.Deep
import HandS.IsInst
import HandS.TupAny
import HandS.TupMul
import HandS.Style
import HandS.StrMore
import HandS.Zip
import HandS.Conv
import HandS.Codes
import HandS.ExcIs
import HandS.ExcInit
import HandS.TryMany
import HandS.HotCalls
import HandS.Lambda
import HandS.HeadWalk
import HandS.HeadHook4
import HandS.Head0
import HandS.Head1
import HandS.Head2
import KE.KDictKeyed
import KE.KeyNested
import KE.KDictList
import KE.GoesEnum
import KE.GoesMore
import KE.KSlice
import PyProof.ListRange
import HandS.RaiseMore
import KE.KRevSl
import HandS.ExcField
import HandS.ClsMeth
import KE.KExcIs
import KE.KExcStr
import HandS.ExcValue
import KE.KStateDown
import HandS.HeadEnd
import PySem.Challenge.RW_saidkin_k17_errors_and_their_classes
set_option Elab.async false
set_option linter.all false
set_option maxRecDepth 100000
set_option maxHeartbeats 4000000
/-! DL1: values as data, how they lie in the abstract heap. -/
namespace DL
open PySem L2

/-- a value as data: texts by their code points; fz: a list that is known to the object (the script); loc k: the k-th changeable thing; ob i: a def, a class, a dict of the module's; ty: a built-in class -/
inductive D where
  | non | bl (b : Bool) | int (i : Int) | str (s : List Nat) | tup (xs : List D) | lst (xs : List D) | fz (xs : List D) | ob (i : Nat) | ty (n : String) | loc (k : Nat) | dct (kvs : List (List Nat × List Nat)) | exn (c : Nat) (m : List Nat) | exi (c : Nat) (i : Int)

/-- what stands at a changeable place -/
inductive CO where
  | dead | lst (xs : List D) | frz (xs : List D) | ins (c : Nat) (fs : List (Str × D)) | dct (kvs : List (D × D))

/-- an exception by its class's number -/
structure Xc where
  cls : Nat
  arg : Option D

/-- what is fixed: the written part, the tables of code objects, the module's objects -/
structure Gs where
  K : PySem.W.Frag
  T : List (Addr × Str)
  ob : Nat → Addr
  W : World
  fld : Nat → Str
  P : Program

/-- the changeable things by their numbers, and those that a comprehension is filling -/
structure Wd where
  c : List (Addr × CO)
  b : List Addr
abbrev Wd.μ (w : Wd) : List CO := w.c.map (·.2)
abbrev Wd.κ (w : Wd) : List Addr := w.c.map (·.1)
def Live (w : Wd) (a : Addr) : Prop := a ∈ w.b ∨ ∃ c, (a, c) ∈ w.c ∧ c ≠ CO.dead

def TupAt (K : PySem.W.Frag) (w : Wd) (H : Hp) (a : Addr) (vs : List V) : Prop :=
  (Rd H a (.tup vs) ∧ ¬ Live w a) ∨ ∃ (o : Obj) (its : Array Value) (n : Nat), K.lookup a = some o ∧ o.cls = .type "tuple" ∧ o.data = .seq its n ∧ its.size ≤ sizeLine ∧ Vals vs its.toList
def LstAt (w : Wd) (H : Hp) (a : Addr) (vs : List V) : Prop := H a = some (.lst vs) ∧ ¬ Live w a
/-- a list that is not the object's to change (the script) -/
def FzAt (K : PySem.W.Frag) (w : Wd) (H : Hp) (a : Addr) (vs : List V) : Prop :=
  (Rd H a (.lst vs) ∧ ¬ Live w a) ∨ ∃ (o : Obj) (its : Array Value) (n : Nat), K.lookup a = some o ∧ o.cls = .type "list" ∧ o.dict = none ∧ o.data = .seq its n ∧ its.size ≤ sizeLine ∧ Vals vs its.toList
theorem FzAt.sq {K : PySem.W.Frag} {w : Wd} {H : Hp} {a : Addr} {vs : List V} (h : FzAt K w H a vs) : SqL K H a vs := by
  rcases h with h | h
  · exact .inl h.1
  · exact .inr h
/-- the code points of a text that can be -/
def okS (s : List Nat) : Bool := s.all fun c => decide (c < 0x110000)
theorem TupAt.sq {K : PySem.W.Frag} {w : Wd} {H : Hp} {a : Addr} {vs : List V} (h : TupAt K w H a vs) : SqT K H a vs := by
  rcases h with h | h
  · exact .inl h.1
  · exact .inr h
theorem LstAt.sq {K : PySem.W.Frag} {w : Wd} {H : Hp} {a : Addr} {vs : List V} (h : LstAt w H a vs) : SqL K H a vs := .inl (.inl h.1)

/-- what stands at a text in a written dict -/
def dlook (kvs : List (List Nat × List Nat)) (z : List Nat) : Option (List Nat) := match kvs with
  | [] => none
  | p :: r => if p.1 = z then some p.2 else dlook r z
/-- a dict of texts, never changed: a new one, or the module's -/
def DctAt (G : Gs) (w : Wd) (H : Hp) (kvs : List (List Nat × List Nat)) (a : Addr) : Prop :=
  (∃ kv : List (Key × V), H a = some (.dK kv) ∧ ¬ Live w a ∧ ∀ z : List Nat, valV kv (.inr ⟨z.toArray⟩) = (dlook kvs z).map fun s => V.str ⟨s.toArray⟩) ∨
  ∃ (es : Array DictEntry) (n : Nat), KDict G.K G.W a es n ∧ ∀ z : List Nat, ∃ r, PySem.W.nsIn G.K a ⟨z.toArray⟩ = some r ∧ match dlook kvs z with
    | none => r = none
    | some s => ∃ u, r = some u ∧ RelV (.str ⟨s.toArray⟩) u
/-- an exception object at a whose arguments stand at t -/
def exq (a C t : Addr) : HO := .ext fun h => h.get? a = some ({ cls := .ref C, dict := none, data := .fields #[.ref t, .none, .none, .none, .bool false, .none] } : Obj)
/-- an exception as a value: of a class without __init__ and one text | of one with __init__ and its field -/
def ExnAt (G : Gs) (w : Wd) (H : Hp) (c : Nat) (m : List Nat) (a : Addr) : Prop := ∃ t, H a = some (exq a (G.ob c) t) ∧ ¬ Live w a ∧ H t = some (.tup [.str ⟨m.toArray⟩]) ∧ ¬ Live w t
def ExiAt (G : Gs) (w : Wd) (H : Hp) (c : Nat) (i : Int) (a : Addr) : Prop := ∃ dx, H a = some (exo a (G.ob c) (some dx)) ∧ ¬ Live w a ∧ H dx = some (exd dx [(G.fld c, .int i)]) ∧ ¬ Live w dx
mutual
def Dat (G : Gs) (w : Wd) (H : Hp) : D → V → Prop
  | .non, v => v = .non
  | .bl b, v => v = .bl b
  | .int i, v => v = .int i
  | .str s, v => v = .str ⟨s.toArray⟩ ∧ okS s = true
  | .tup ds, v => ∃ a vs, v = .ref a ∧ TupAt G.K w H a vs ∧ Dats G w H ds vs
  | .lst ds, v => ∃ a vs, v = .ref a ∧ LstAt w H a vs ∧ Dats G w H ds vs
  | .fz ds, v => ∃ a vs, v = .ref a ∧ FzAt G.K w H a vs ∧ Dats G w H ds vs
  | .ob i, v => v = .ref (G.ob i)
  | .ty n, v => v = .ty n
  | .loc k, v => ∃ a, v = .ref a ∧ w.κ[k]? = some a
  | .dct kvs, v => (∃ a, v = .ref a ∧ DctAt G w H kvs a) ∧ ∀ p ∈ kvs, okS p.2 = true
  | .exn c m, v => (∃ a, v = .ref a ∧ ExnAt G w H c m a) ∧ okS m = true
  | .exi c i, v => ∃ a, v = .ref a ∧ ExiAt G w H c i a
def Dats (G : Gs) (w : Wd) (H : Hp) : List D → List V → Prop
  | [], vs => vs = []
  | d :: ds, vs => ∃ v r, vs = v :: r ∧ Dat G w H d v ∧ Dats G w H ds r
end

/-- data that lies at (w, H) lies at (w', H') too -/
structure Sub (w w' : Wd) (H H' : Hp) : Prop where
  pre : ∃ l, w'.κ = w.κ ++ l
  live : ∀ a o, Live w' a → H a = some o → (∀ ps, o ≠ .tbl ps) → Live w a
  same : ∀ a o, ¬ Live w a → (∀ ps, o ≠ .tbl ps) → H a = some o → H' a = some o
/-- what a step leaves: new changeable things behind, all else that was tracked as it was (but the tables of code objects) -/
structure Ext (w w' : Wd) (H H' : Hp) : Prop extends Sub w w' H H' where
  busy : w'.b = w.b
  bk : ∀ a o, a ∈ w.b → H a = some o → H' a = some o

theorem Sub.refl (w : Wd) (H : Hp) : Sub w w H H := ⟨⟨[], by simp⟩, fun _ _ h _ _ => h, fun _ _ _ _ h => h⟩
theorem Ext.refl (w : Wd) (H : Hp) : Ext w w H H := { Sub.refl w H with busy := rfl, bk := fun _ _ _ h => h }
theorem Ext.trans {w w1 w2 : Wd} {H H1 H2 : Hp} (e : Ext w w1 H H1) (f : Ext w1 w2 H1 H2) : Ext w w2 H H2 := by
  obtain ⟨l, hl⟩ := e.pre
  obtain ⟨m, hm⟩ := f.pre
  refine { pre := ⟨l ++ m, by rw [hm, hl, List.append_assoc]⟩, live := fun a o h q nt => ?_, same := fun a o ha hn h => ?_, busy := f.busy.trans e.busy, bk := fun a o ha h => f.bk a o (by rw [e.busy]; exact ha) (e.bk a o ha h) }
  · by_cases hL : Live w a
    · exact hL
    · exact e.live a o (f.live a o h (e.same a o hL nt q) nt) q nt
  · exact f.same a o (fun z => ha (e.live a o z h hn)) hn (e.same a o ha hn h)

theorem TupAt.ext {K : PySem.W.Frag} {w w' : Wd} {H H' : Hp} {a : Addr} {vs : List V} (e : Sub w w' H H') (h : TupAt K w H a vs) : TupAt K w' H' a vs := by
  rcases h with ⟨h, ha⟩ | h
  · refine .inl ?_
    rcases h with h | ⟨o, h⟩
    · exact ⟨.inl (e.same a _ ha (fun _ z => by cases z) h), fun z => ha (e.live a _ z h (fun _ z => by cases z))⟩
    · exact ⟨.inr ⟨o, e.same a _ ha (fun _ z => by cases z) h⟩, fun z => ha (e.live a _ z h (fun _ z => by cases z))⟩
  · exact .inr h
theorem FzAt.ext {K : PySem.W.Frag} {w w' : Wd} {H H' : Hp} {a : Addr} {vs : List V} (e : Sub w w' H H') (h : FzAt K w H a vs) : FzAt K w' H' a vs := by
  rcases h with ⟨h, ha⟩ | h
  · refine .inl ?_
    rcases h with h | ⟨o, h⟩
    · exact ⟨.inl (e.same a _ ha (fun _ z => by cases z) h), fun z => ha (e.live a _ z h (fun _ z => by cases z))⟩
    · exact ⟨.inr ⟨o, e.same a _ ha (fun _ z => by cases z) h⟩, fun z => ha (e.live a _ z h (fun _ z => by cases z))⟩
  · exact .inr h
theorem LstAt.ext {w w' : Wd} {H H' : Hp} {a : Addr} {vs : List V} (e : Sub w w' H H') (h : LstAt w H a vs) : LstAt w' H' a vs :=
  ⟨e.same a _ h.2 (fun _ z => by cases z) h.1, fun z => h.2 (e.live a _ z h.1 (fun _ z => by cases z))⟩

theorem ExnAt.ext {G : Gs} {w w' : Wd} {H H' : Hp} {a : Addr} {c : Nat} {m : List Nat} (e : Sub w w' H H') (h : ExnAt G w H c m a) : ExnAt G w' H' c m a := by
  obtain ⟨t, h1, h2, h3, h4⟩ := h
  exact ⟨t, e.same a _ h2 (fun _ z => nomatch (show HO.ext _ = HO.tbl _ from z)) h1, fun z => h2 (e.live a _ z h1 (fun _ z => nomatch (show HO.ext _ = HO.tbl _ from z))), e.same t _ h4 (fun _ z => by cases z) h3, fun z => h4 (e.live t _ z h3 (fun _ z => by cases z))⟩
theorem ExiAt.ext {G : Gs} {w w' : Wd} {H H' : Hp} {a : Addr} {c : Nat} {i : Int} (e : Sub w w' H H') (h : ExiAt G w H c i a) : ExiAt G w' H' c i a := by
  obtain ⟨t, h1, h2, h3, h4⟩ := h
  exact ⟨t, e.same a _ h2 (fun _ => exo_tbl) h1, fun z => h2 (e.live a _ z h1 (fun _ => exo_tbl)), e.same t _ h4 (fun _ z => nomatch (show HO.ext _ = HO.tbl _ from z)) h3, fun z => h4 (e.live t _ z h3 (fun _ z => nomatch (show HO.ext _ = HO.tbl _ from z)))⟩
theorem DctAt.ext {G : Gs} {w w' : Wd} {H H' : Hp} {a : Addr} {kvs : List (List Nat × List Nat)} (e : Sub w w' H H') (h : DctAt G w H kvs a) : DctAt G w' H' kvs a := by
  rcases h with ⟨kv, h1, h2, h3⟩ | h
  · exact .inl ⟨kv, e.same a _ h2 (fun _ z => by cases z) h1, fun z => h2 (e.live a _ z h1 (fun _ z => by cases z)), h3⟩
  · exact .inr h
mutual
theorem Dat.ext {G : Gs} {w w' : Wd} {H H' : Hp} (e : Sub w w' H H') : ∀ (d : D) (v : V), Dat G w H d v → Dat G w' H' d v
  | .non, _, h => by simpa only [Dat] using h
  | .bl _, _, h => by simpa only [Dat] using h
  | .int _, _, h => by simpa only [Dat] using h
  | .str _, _, h => by simpa only [Dat] using h
  | .ob _, _, h => by simpa only [Dat] using h
  | .ty _, _, h => by simpa only [Dat] using h
  | .dct kvs, v, h => by
    simp only [Dat] at h ⊢
    obtain ⟨⟨a, h1, h2⟩, h3⟩ := h
    exact ⟨⟨a, h1, h2.ext e⟩, h3⟩
  | .exn c m, v, h => by
    simp only [Dat] at h ⊢
    obtain ⟨⟨a, h1, h2⟩, h3⟩ := h
    exact ⟨⟨a, h1, h2.ext e⟩, h3⟩
  | .exi c i, v, h => by
    simp only [Dat] at h ⊢
    obtain ⟨a, h1, h2⟩ := h
    exact ⟨a, h1, h2.ext e⟩
  | .tup ds, v, h => by
    simp only [Dat] at h ⊢
    obtain ⟨a, vs, h1, h2, h3⟩ := h
    exact ⟨a, vs, h1, h2.ext e, Dats.ext e ds vs h3⟩
  | .lst ds, v, h => by
    simp only [Dat] at h ⊢
    obtain ⟨a, vs, h1, h2, h3⟩ := h
    exact ⟨a, vs, h1, h2.ext e, Dats.ext e ds vs h3⟩
  | .fz ds, v, h => by
    simp only [Dat] at h ⊢
    obtain ⟨a, vs, h1, h2, h3⟩ := h
    exact ⟨a, vs, h1, h2.ext e, Dats.ext e ds vs h3⟩
  | .loc k, v, h => by
    simp only [Dat] at h ⊢
    obtain ⟨a, h1, h2⟩ := h
    obtain ⟨l, hl⟩ := e.pre
    refine ⟨a, h1, ?_⟩
    rw [hl, List.getElem?_append_left (List.getElem?_eq_some_iff.mp h2).1]
    exact h2
theorem Dats.ext {G : Gs} {w w' : Wd} {H H' : Hp} (e : Sub w w' H H') : ∀ (ds : List D) (vs : List V), Dats G w H ds vs → Dats G w' H' ds vs
  | [], vs, h => by simpa only [Dats] using h
  | d :: ds, vs, h => by
    simp only [Dats] at h ⊢
    obtain ⟨v, r, h1, h2, h3⟩ := h
    exact ⟨v, r, h1, Dat.ext e d v h2, Dats.ext e ds r h3⟩
end
section
variable {G : Gs} {w : Wd} {H : Hp}
theorem Dats.length : ∀ {ds : List D} {vs : List V}, Dats G w H ds vs → vs.length = ds.length
  | [], _, h => by
    simp only [Dats] at h
    rw [h]
    rfl
  | d :: ds, _, h => by
    simp only [Dats] at h
    obtain ⟨v, r, rfl, _, h3⟩ := h
    simp [Dats.length h3]
theorem Dats.get : ∀ {ds : List D} {vs : List V} {i : Nat} {d : D}, Dats G w H ds vs → ds[i]? = some d → ∃ v, vs[i]? = some v ∧ Dat G w H d v
  | [], _, _, _, _, e => by simp at e
  | d :: ds, _, 0, d', h, e => by
    simp only [Dats] at h
    obtain ⟨v, r, rfl, h2, h3⟩ := h
    simp only [List.getElem?_cons_zero, Option.some.injEq] at e
    subst e
    exact ⟨v, by simp, h2⟩
  | d :: ds, _, i + 1, d', h, e => by
    simp only [Dats] at h
    obtain ⟨v, r, rfl, h2, h3⟩ := h
    obtain ⟨u, h4, h5⟩ := Dats.get (i := i) h3 (by simpa using e)
    exact ⟨u, by simpa using h4, h5⟩
theorem Dats.append : ∀ {ds es : List D} {vs us : List V}, Dats G w H ds vs → Dats G w H es us → Dats G w H (ds ++ es) (vs ++ us)
  | [], _, _, _, h, h' => by
    simp only [Dats] at h
    subst h
    exact h'
  | d :: ds, _, _, _, h, h' => by
    simp only [Dats] at h
    obtain ⟨v, r, rfl, h2, h3⟩ := h
    simp only [List.cons_append, Dats]
    exact ⟨v, _, rfl, h2, Dats.append h3 h'⟩
theorem Dats.take : ∀ {ds : List D} {vs : List V} (n : Nat), Dats G w H ds vs → Dats G w H (ds.take n) (vs.take n)
  | _, _, 0, _ => by simp [Dats]
  | [], _, n + 1, h => by
    simp only [Dats] at h
    subst h
    simp [Dats]
  | d :: ds, _, n + 1, h => by
    simp only [Dats] at h
    obtain ⟨v, r, rfl, h2, h3⟩ := h
    simp only [List.take_succ_cons, Dats]
    exact ⟨v, _, rfl, h2, Dats.take n h3⟩
theorem Dats.drop : ∀ {ds : List D} {vs : List V} (n : Nat), Dats G w H ds vs → Dats G w H (ds.drop n) (vs.drop n)
  | _, _, 0, h => by simpa using h
  | [], _, n + 1, h => by
    simp only [Dats] at h
    subst h
    simp [Dats]
  | d :: ds, _, n + 1, h => by
    simp only [Dats] at h
    obtain ⟨v, r, rfl, h2, h3⟩ := h
    simp only [List.drop_succ_cons]
    exact Dats.drop n h3
theorem Dats.set : ∀ {ds : List D} {vs : List V} (i : Nat) {d : D} {v : V}, Dats G w H ds vs → Dat G w H d v → Dats G w H (ds.set i d) (vs.set i v)
  | [], _, _, _, _, h, _ => by
    simp only [Dats] at h
    subst h
    simp [Dats]
  | d :: ds, _, 0, _, _, h, h' => by
    simp only [Dats] at h
    obtain ⟨v, r, rfl, h2, h3⟩ := h
    simp only [List.set_cons_zero, Dats]
    exact ⟨_, _, rfl, h', h3⟩
  | d :: ds, _, i + 1, _, _, h, h' => by
    simp only [Dats] at h
    obtain ⟨v, r, rfl, h2, h3⟩ := h
    simp only [List.set_cons_succ, Dats]
    exact ⟨_, _, rfl, h2, Dats.set i h3 h'⟩
end

/-! ### the state -/
/-! ### dicts whose keys are data -/
abbrev KX : Type := List (NestedKey × Addr × Value)
/-- what stands at a: a dict of such keys (at such places) and values -/
def dctφ (P : Program) (W : World) (a : Addr) (xs : KX) : Heap → Prop := fun h => ∃ o es ep, h.get? a = some o ∧ o.ExactDict ∧ o.data = .dict es ep ∧ es.toList = xs.map (PySem.entryOfKey (PySem.nestedKind P W))
def dctO (P : Program) (W : World) (a : Addr) (xs : KX) : HO := .ext (dctφ P W a xs)
mutual
/-- data as a key -/
def D.nk : D → Option NestedKey
  | .non => some .none
  | .bl b => some (.num (if b = true then 1 else 0))
  | .int i => some (.num i)
  | .str s => some (.text ⟨s.toArray⟩)
  | .tup ds => (D.nks ds).map .tup
  | _ => none
def D.nks : List D → Option (List NestedKey)
  | [] => some []
  | d :: ds => match D.nk d, D.nks ds with
    | some k, some ks => some (k :: ks)
    | _, _ => none
end
theorem heap_fill (es : Array DictEntry) (n : Nat) : ∃ h : Heap, h.get? n = some { cls := .type "dict", data := .dict es 0 } ∧ ∀ b u, h.get? b = some u → u = { cls := .type "dict", data := .dict es 0 } := by
  have key : ∀ b, (⟨Array.replicate (n + 1) { cls := .type "dict", data := .dict es 0 }, {}⟩ : Heap).get? b = if b < n + 1 then some { cls := .type "dict", data := .dict es 0 } else none := fun b => by
    unfold Heap.get?
    simp only [Array.getElem?_replicate]
    split <;> rename_i h <;> split at h <;> simp_all
  refine ⟨_, (key n).trans (if_pos (Nat.lt_succ_self n)), fun b u e => ?_⟩
  rw [key] at e
  split at e
  · exact (Option.some.inj e).symm
  · cases e
open Classical in
noncomputable def CellK : HO → Bool
  | .lst _ => true
  | .dK _ => true
  | .dT _ => true
  | .set _ _ => true
  | .ins _ _ _ => true
  | .ext φ => decide (∃ P W a xs, φ = dctφ P W a xs)
  | _ => false
theorem CellK.ntbl {o : HO} (h : CellK o = true) : ∀ ps, o ≠ .tbl ps := fun _ z => by
  subst z
  cases h
theorem cell_dct (P : Program) (W : World) (a : Addr) (xs : KX) : CellK (dctO P W a xs) = true := by
  classical
  exact decide_eq_true ⟨P, W, a, xs, rfl⟩
theorem cell_code (c : Addr) (q : Str) : CellK (LamX.CodeO c q) = false := by
  classical
  refine decide_eq_false ?_
  rintro ⟨P, W, a, xs, e⟩
  obtain ⟨h0, h1, h2⟩ := heap_fill (xs.map (PySem.entryOfKey (PySem.nestedKind P W))).toArray a
  have key : dctφ P W a xs h0 := ⟨_, _, 0, h1, ⟨rfl, rfl, rfl⟩, rfl, by simp⟩
  rw [← e] at key
  obtain ⟨oc, vs, t, e1, e2, _⟩ := key
  rw [h2 _ _ e1] at e2
  cases e2
/-- the keys and values of a dict -/
def DPairs (G : Gs) (w : Wd) (H : Hp) : List (D × D) → KX → Prop
  | [], xs => xs = []
  | (k, d) :: kvs, xs => ∃ n b u v r, xs = (n, b, u) :: r ∧ D.nk k = some n ∧ n.depth ≤ 8 ∧ Dat G w H k (.ref b) ∧ Dat G w H d v ∧ RelV v u ∧ DPairs G w H kvs r
theorem DPairs.ext {G : Gs} {w w' : Wd} {H H' : Hp} (e : Sub w w' H H') : ∀ {kvs : List (D × D)} {xs : KX}, DPairs G w H kvs xs → DPairs G w' H' kvs xs
  | [], _, h => h
  | (k, d) :: kvs, _, ⟨n, b, u, v, r, h1, h2, h3, h4, h5, h6, h7⟩ => ⟨n, b, u, v, r, h1, h2, h3, Dat.ext e _ _ h4, Dat.ext e _ _ h5, h6, h7.ext e⟩
def CoOk (G : Gs) (w : Wd) (H : Hp) (a : Addr) : CO → Prop
  | .dead => ∃ o, H a = some o ∧ CellK o = true
  | .lst xs => ∃ vs, H a = some (.lst vs) ∧ Dats G w H xs vs
  | .frz xs => ∃ vs, H a = some (.lst vs) ∧ Dats G w H xs vs
  | .ins c fs => ∃ dx vs, H a = some (.ins (G.ob c) dx ((fs.map (·.1)).zip vs)) ∧ Dats G w H (fs.map (·.2)) vs
  | .dct kvs => ∃ xs, H a = some (dctO G.P G.W a xs) ∧ DPairs G w H kvs xs ∧ (xs.map (·.1)).Nodup ∧ xs.length ≤ 1000000 ∧ (a == sysModules) = false

structure Rep (G : Gs) (w : Wd) (H : Hp) : Prop where
  nd : w.κ.Nodup
  at_ : ∀ (k : Nat) (a : Addr) (c : CO), w.c[k]? = some (a, c) → CoOk G w H a c
  bt : ∀ a ∈ w.b, ∃ o, H a = some o ∧ CellK o = true
  bn : ∀ a ∈ w.b, a ∉ w.κ
  tab : LamX.Tabs G.T H

abbrev Env := List (Option D)
structure EnvR (G : Gs) (w : Wd) (H : Hp) (δ : Env) (σ : St) : Prop where
  len : δ.length = σ.length
  at_ : ∀ (i : Nat) (d : D), δ[i]? = some (some d) → ∃ v, σ[i]? = some (some v) ∧ Dat G w H d v

section
variable {G : Gs} {w w' : Wd} {H H' : Hp} {δ δ' : Env} {σ : St} {p : Addr} {o : HO}
theorem EnvR.ext (r : EnvR G w H δ σ) (e : Sub w w' H H') : EnvR G w' H' δ σ :=
  ⟨r.len, fun i d h => let ⟨v, h1, h2⟩ := r.at_ i d h; ⟨v, h1, Dat.ext e d v h2⟩⟩
theorem EnvR.set (r : EnvR G w H δ σ) (i : Nat) {d : D} {v : V} (h : Dat G w H d v) : EnvR G w H (δ.set i (some d)) (σ.set i (some v)) := by
  refine ⟨by simp [r.len], fun j d' h' => ?_⟩
  by_cases hj : i = j
  · subst hj
    by_cases hi : i < δ.length
    · rw [List.getElem?_set_self hi] at h'
      cases h'
      exact ⟨v, by rw [List.getElem?_set_self (by rw [← r.len]; exact hi)], h⟩
    · rw [List.set_eq_of_length_le (by omega)] at h'
      rw [List.getElem?_eq_none (by omega)] at h'
      cases h'
  · rw [List.getElem?_set_ne hj] at h'
    obtain ⟨u, h1, h2⟩ := r.at_ j d' h'
    exact ⟨u, by rw [List.getElem?_set_ne hj]; exact h1, h2⟩
theorem EnvR.weak (r : EnvR G w H δ σ) (hl : δ'.length = δ.length) (h : ∀ (i : Nat) d, δ'[i]? = some (some d) → δ[i]? = some (some d)) : EnvR G w H δ' σ :=
  ⟨hl.trans r.len, fun i d e => r.at_ i d (h i d e)⟩

/-- a new thing that is no changeable one -/
theorem Ext.alloc (hp : H p = none) : Ext w w H (upd H p o) :=
  { pre := ⟨[], by simp⟩, live := fun _ _ h _ _ => h, same := fun a o _ _ h => by rw [upd_ne (ne_of_none h hp)]; exact h, busy := rfl,
    bk := fun a o _ h => by rw [upd_ne (ne_of_none h hp)]; exact h }
theorem CoOk.ext {a : Addr} {c : CO} (x : CoOk G w H a c) (e : Sub w w' H H') (h : H' a = H a) : CoOk G w' H' a c := by
  cases c with
  | dead =>
    obtain ⟨o, h1, h2⟩ := x
    exact ⟨o, by rw [h]; exact h1, h2⟩
  | lst xs =>
    obtain ⟨vs, h1, h2⟩ := x
    exact ⟨vs, by rw [h]; exact h1, Dats.ext e _ _ h2⟩
  | frz xs =>
    obtain ⟨vs, h1, h2⟩ := x
    exact ⟨vs, by rw [h]; exact h1, Dats.ext e _ _ h2⟩
  | ins c fs =>
    obtain ⟨dx, vs, h1, h2⟩ := x
    exact ⟨dx, vs, by rw [h]; exact h1, Dats.ext e _ _ h2⟩
  | dct kvs =>
    obtain ⟨xs, h1, h2, h3⟩ := x
    exact ⟨xs, by rw [h]; exact h1, h2.ext e, h3⟩
theorem CoOk.trk {a : Addr} {c : CO} (x : CoOk G w H a c) : ∃ o, H a = some o ∧ CellK o = true := by
  cases c with
  | dead => exact x
  | lst xs =>
    obtain ⟨vs, h1, h2⟩ := x
    exact ⟨_, h1, rfl⟩
  | frz xs =>
    obtain ⟨vs, h1, h2⟩ := x
    exact ⟨_, h1, rfl⟩
  | ins c fs =>
    obtain ⟨dx, vs, h1, h2⟩ := x
    exact ⟨_, h1, rfl⟩
  | dct kvs =>
    obtain ⟨xs, h1, h2⟩ := x
    exact ⟨_, h1, cell_dct ..⟩
theorem Rep.mem (r : Rep G w H) {a : Addr} (h : a ∈ w.κ) : ∃ o, H a = some o ∧ CellK o = true := by
  obtain ⟨⟨b, c⟩, hm, rfl⟩ := List.mem_map.mp h
  obtain ⟨k, hk⟩ := List.getElem?_of_mem hm
  exact (r.at_ k b c hk).trk
theorem Rep.live (r : Rep G w H) {a : Addr} (h : Live w a) : ∃ o, H a = some o ∧ CellK o = true := by
  rcases h with h | ⟨c, h, _⟩
  · exact r.bt a h
  · exact r.mem (List.mem_map.mpr ⟨_, h, rfl⟩)
theorem Rep.fresh (r : Rep G w H) (hp : H p = none) : p ∉ w.κ := fun z => by
  obtain ⟨o, h, _⟩ := r.mem z
  rw [hp] at h
  cases h
theorem Rep.dead (r : Rep G w H) (hp : H p = none) : ¬ Live w p := fun z => by
  obtain ⟨o, h, _⟩ := r.live z
  rw [hp] at h
  cases h
theorem Rep.alloc (r : Rep G w H) (hp : H p = none) : Rep G w (upd H p o) := by
  refine ⟨r.nd, fun k a c h1 => ?_, fun a ha => ?_, r.bn, r.tab.ext fun b u e => by rw [upd_ne (ne_of_none e hp)]; exact e⟩
  · have x := r.at_ k a c h1
    obtain ⟨u, hu, _⟩ := x.trk
    exact x.ext (Ext.alloc hp).toSub (upd_ne (ne_of_none hu hp))
  · obtain ⟨u, hu, hk⟩ := r.bt a ha
    exact ⟨u, by rw [upd_ne (ne_of_none hu hp)]; exact hu, hk⟩

/-! ### changeable things: made, written, let go -/
def Wd.push (w : Wd) (p : Addr) (c : CO) : Wd := ⟨w.c ++ [(p, c)], w.b⟩
def Wd.put (w : Wd) (k : Nat) (p : Addr) (c : CO) : Wd := ⟨w.c.set k (p, c), w.b⟩
def Wd.cut (w : Wd) (n : Nat) : Wd := ⟨w.c.take n, w.b⟩
theorem push_μ (w : Wd) (p : Addr) (c : CO) : (w.push p c).μ = w.μ ++ [c] := by simp [Wd.push, Wd.μ]
theorem push_κ (w : Wd) (p : Addr) (c : CO) : (w.push p c).κ = w.κ ++ [p] := by simp [Wd.push, Wd.κ]
theorem put_μ (w : Wd) (k : Nat) (p : Addr) (c : CO) : (w.put k p c).μ = w.μ.set k c := by simp [Wd.put, Wd.μ, List.map_set]
theorem put_κ {w : Wd} {k : Nat} {p : Addr} {c c0 : CO} (h : w.c[k]? = some (p, c0)) : (w.put k p c).κ = w.κ := by
  simp only [Wd.put, Wd.κ, List.map_set]
  apply List.ext_getElem?
  intro i
  by_cases hi : k = i
  · subst hi
    have hk : k < (w.c.map (·.1)).length := by
      rw [List.length_map]
      exact (List.getElem?_eq_some_iff.mp h).1
    rw [List.getElem?_set_self hk, List.getElem?_map, h]
    rfl
  · rw [List.getElem?_set_ne hi]
theorem cut_μ (w : Wd) (n : Nat) : (w.cut n).μ = w.μ.take n := by simp [Wd.cut, Wd.μ, List.map_take]
theorem cut_κ (w : Wd) (n : Nat) : (w.cut n).κ = w.κ.take n := by simp [Wd.cut, Wd.κ, List.map_take]
theorem nodup_get {l : List Addr} (h : l.Nodup) {i j : Nat} {a : Addr} (hi : l[i]? = some a) (hj : l[j]? = some a) : i = j := by
  obtain ⟨h1, e1⟩ := List.getElem?_eq_some_iff.mp hi
  obtain ⟨h2, e2⟩ := List.getElem?_eq_some_iff.mp hj
  exact (List.getElem_inj h).mp (e1.trans e2.symm)
theorem κ_get {w : Wd} {k : Nat} {p : Addr} {c : CO} (h : w.c[k]? = some (p, c)) : w.κ[k]? = some p := by rw [Wd.κ, List.getElem?_map, h]; rfl
theorem κ_get' {w : Wd} {k : Nat} {p : Addr} (h : w.κ[k]? = some p) : ∃ c, w.c[k]? = some (p, c) := by
  rw [Wd.κ, List.getElem?_map] at h
  cases e : w.c[k]? with
  | none =>
    rw [e] at h
    cases h
  | some q =>
    rw [e] at h
    have h' : q.1 = p := Option.some.inj h
    exact ⟨q.2, by rw [← h']⟩
theorem μ_get {w : Wd} {k : Nat} {p : Addr} {c : CO} (h : w.c[k]? = some (p, c)) : w.μ[k]? = some c := by rw [Wd.μ, List.getElem?_map, h]; rfl
theorem μ_get' {w : Wd} {k : Nat} {c : CO} (h : w.μ[k]? = some c) : ∃ p, w.c[k]? = some (p, c) := by
  rw [Wd.μ, List.getElem?_map] at h
  cases e : w.c[k]? with
  | none =>
    rw [e] at h
    cases h
  | some q =>
    rw [e] at h
    have h' : q.2 = c := Option.some.inj h
    exact ⟨q.1, by rw [← h']⟩

/-- a new changeable thing -/
theorem Ext.cell {c : CO} (hp : H p = none) : Ext w (w.push p c) H (upd H p o) where
  pre := ⟨[p], push_κ w p c⟩
  live := fun a u h q _ => by
    rcases h with h | ⟨c', h, hd⟩
    · exact .inl h
    · rcases List.mem_append.mp (show (a, c') ∈ w.c ++ [(p, c)] from h) with h | h
      · exact .inr ⟨c', h, hd⟩
      · have e := List.mem_singleton.mp h
        cases e
        rw [hp] at q
        cases q
  same := fun a u _ _ h => by rw [upd_ne (ne_of_none h hp)]; exact h
  busy := rfl
  bk := fun a u _ h => by rw [upd_ne (ne_of_none h hp)]; exact h
theorem Rep.cell {c : CO} (r : Rep G w H) (hp : H p = none) (hc : CoOk G (w.push p c) (upd H p o) p c) : Rep G (w.push p c) (upd H p o) := by
  have hn : p ∉ w.κ := r.fresh hp
  refine ⟨?_, fun k a c' h1 => ?_, fun a ha => ?_, fun a ha => ?_, r.tab.ext fun b u e => by rw [upd_ne (ne_of_none e hp)]; exact e⟩
  · rw [push_κ, List.nodup_append]
    refine ⟨r.nd, by simp, fun a ha b hb => ?_⟩
    rw [List.mem_singleton.mp hb]
    intro z
    exact hn (z ▸ ha)
  · have h1 : (w.c ++ [(p, c)])[k]? = some (a, c') := h1
    by_cases hk : k < w.c.length
    · rw [List.getElem?_append_left hk] at h1
      have x := r.at_ k a c' h1
      obtain ⟨u, hu, _⟩ := x.trk
      exact x.ext (Ext.cell (c := c) hp).toSub (upd_ne (ne_of_none hu hp))
    · have hk' : k = w.c.length := by
        have := (List.getElem?_eq_some_iff.mp h1).1
        simp at this
        omega
      subst hk'
      rw [List.getElem?_append_right (Nat.le_refl _)] at h1
      simp at h1
      obtain ⟨rfl, rfl⟩ := h1
      exact hc
  · obtain ⟨u, hu, hk⟩ := r.bt a ha
    exact ⟨u, by rw [upd_ne (ne_of_none hu hp)]; exact hu, hk⟩
  · rw [push_κ]
    intro z
    rcases List.mem_append.mp z with z | z
    · exact r.bn a ha z
    · obtain ⟨u, hu, _⟩ := r.bt a ha
      rw [List.mem_singleton.mp z, hp] at hu
      cases hu
theorem cell_loc {w : Wd} {p : Addr} {c : CO} : (w.push p c).κ[w.μ.length]? = some p := by
  rw [push_κ, List.getElem?_append_right (by simp [Wd.μ, Wd.κ])]
  simp [Wd.μ, Wd.κ]
/-- a changeable thing is written -/
theorem Ext.write {k : Nat} {c c0 : CO} (h0 : w.c[k]? = some (p, c0)) (hd : c0 ≠ .dead) (hb : p ∉ w.b) : Ext w (w.put k p c) H (upd H p o) where
  pre := ⟨[], by rw [put_κ h0, List.append_nil]⟩
  live := fun a u h q _ => by
    rcases h with h | ⟨c', h, hd'⟩
    · exact .inl h
    · rcases List.mem_or_eq_of_mem_set (show (a, c') ∈ w.c.set k (p, c) from h) with h | h
      · exact .inr ⟨c', h, hd'⟩
      · cases h
        exact .inr ⟨c0, List.mem_of_getElem? h0, hd⟩
  same := fun a u ha _ h => by
    have z : a ≠ p := fun z => ha (by rw [z]; exact .inr ⟨c0, List.mem_of_getElem? h0, hd⟩)
    rw [upd_ne z]
    exact h
  busy := rfl
  bk := fun a u ha h => by
    have z : a ≠ p := fun z => hb (by rw [← z]; exact ha)
    rw [upd_ne z]
    exact h
theorem Rep.off (r : Rep G w H) {k : Nat} {c0 : CO} (h0 : w.c[k]? = some (p, c0)) : p ∉ w.b := fun z => r.bn p z (List.mem_of_getElem? (κ_get h0))
theorem Rep.write {k : Nat} {c c0 : CO} (r : Rep G w H) (h0 : w.c[k]? = some (p, c0)) (hd : c0 ≠ .dead) (hc : CoOk G (w.put k p c) (upd H p o) p c) : Rep G (w.put k p c) (upd H p o) := by
  have hm : p ∈ w.κ := List.mem_of_getElem? (κ_get h0)
  obtain ⟨u, hu, hnt⟩ := r.mem hm
  refine ⟨by rw [put_κ h0]; exact r.nd, fun j a c' h9 => ?_, fun a ha => ?_, fun a ha => by rw [put_κ h0]; exact r.bn a ha, fun q hq => ?_⟩
  · have h1 : (w.c.set k (p, c))[j]? = some (a, c') := h9
    clear h9
    by_cases hj : k = j
    · subst hj
      rw [List.getElem?_set_self (List.getElem?_eq_some_iff.mp h0).1] at h1
      cases h1
      exact hc
    · rw [List.getElem?_set_ne hj] at h1
      have x := r.at_ j a c' h1
      refine x.ext (Ext.write h0 hd (r.off h0)).toSub (upd_ne fun z => hj ?_)
      subst z
      exact nodup_get r.nd (κ_get h0) (κ_get h1)
  · obtain ⟨v, hv, hk⟩ := r.bt a ha
    have z : a ≠ p := fun z => r.bn a ha (by rw [z]; exact hm)
    exact ⟨v, by rw [upd_ne z]; exact hv, hk⟩
  · obtain ⟨ps, h1, h2, h3⟩ := r.tab q hq
    have np : q.1 ≠ p := fun z => by
      rw [z, hu] at h1
      exact CellK.ntbl hnt _ (Option.some.inj h1)
    refine ⟨ps, by rw [upd_ne np]; exact h1, h2, fun pos cv hcv => ?_⟩
    obtain ⟨c0, e1, e2⟩ := h3 pos cv hcv
    refine ⟨c0, e1, ?_⟩
    rw [upd_ne fun z => ?_]
    · exact e2
    · rw [z, hu] at e2
      have e3 := Option.some.inj e2
      rw [e3, cell_code] at hnt
      cases hnt
/-- a changeable thing becomes plain data, or is marked: the heap stays -/
theorem Ext.mark {k : Nat} {c c0 : CO} (h0 : w.c[k]? = some (p, c0)) (hd : c0 ≠ .dead) : Ext w (w.put k p c) H H where
  pre := ⟨[], by rw [put_κ h0, List.append_nil]⟩
  live := fun a u h q _ => by
    rcases h with h | ⟨c', h, hd'⟩
    · exact .inl h
    · rcases List.mem_or_eq_of_mem_set (show (a, c') ∈ w.c.set k (p, c) from h) with h | h
      · exact .inr ⟨c', h, hd'⟩
      · cases h
        exact .inr ⟨c0, List.mem_of_getElem? h0, hd⟩
  same := fun a u ha _ h => h
  busy := rfl
  bk := fun a u _ h => h
theorem Rep.mark {k : Nat} {c c0 : CO} (r : Rep G w H) (h0 : w.c[k]? = some (p, c0)) (hd : c0 ≠ .dead) (hc : CoOk G (w.put k p c) H p c) : Rep G (w.put k p c) H := by
  refine ⟨by rw [put_κ h0]; exact r.nd, fun j a c' h1 => ?_, r.bt, fun a ha => by rw [put_κ h0]; exact r.bn a ha, r.tab⟩
  have h1 : (w.c.set k (p, c))[j]? = some (a, c') := h1
  by_cases hj : k = j
  · subst hj
    rw [List.getElem?_set_self (List.getElem?_eq_some_iff.mp h0).1] at h1
    cases h1
    exact hc
  · rw [List.getElem?_set_ne hj] at h1
    exact (r.at_ j a c' h1).ext (Ext.mark h0 hd).toSub rfl
theorem mark_notlive {k : Nat} {c0 : CO} (r : Rep G w H) (h0 : w.c[k]? = some (p, c0)) : ¬ Live (w.put k p .dead) p := by
  rintro (h | ⟨c', h, hd⟩)
  · exact r.bn p h (List.mem_of_getElem? (κ_get h0))
  · obtain ⟨j, hj⟩ := List.getElem?_of_mem h
    have hj : (w.c.set k (p, .dead))[j]? = some (p, c') := hj
    by_cases e : k = j
    · subst e
      rw [List.getElem?_set_self (List.getElem?_eq_some_iff.mp h0).1] at hj
      cases hj
      exact hd rfl
    · rw [List.getElem?_set_ne e] at hj
      exact e (nodup_get r.nd (κ_get h0) (κ_get hj))

/-! ### what a call made is let go -/
mutual
def D.bel (n : Nat) : D → Bool
  | .loc k => decide (k < n)
  | .tup ds => D.bels n ds
  | .lst ds => D.bels n ds
  | .fz ds => D.bels n ds
  | .non => true
  | .bl _ => true
  | .int _ => true
  | .str _ => true
  | .ob _ => true
  | .ty _ => true
  | .dct _ => true
  | .exn _ _ => true
  | .exi _ _ => true
def D.bels (n : Nat) : List D → Bool
  | [] => true
  | d :: ds => D.bel n d && D.bels n ds
end
def CO.bel (n : Nat) : CO → Bool
  | .dead => true
  | .lst xs => D.bels n xs
  | .frz xs => D.bels n xs
  | .ins _ fs => D.bels n (fs.map (·.2))
  | .dct kvs => D.bels n (kvs.map (·.1)) && D.bels n (kvs.map (·.2))
theorem cut_live {n : Nat} {a : Addr} (h : Live (w.cut n) a) : Live w a := by
  rcases h with h | ⟨c, h, hd⟩
  · exact .inl h
  · exact .inr ⟨c, List.mem_of_mem_take h, hd⟩
mutual
theorem Dat.cut {G : Gs} {n : Nat} : ∀ (d : D) (v : V), d.bel n = true → Dat G w H d v → Dat G (w.cut n) H d v
  | .non, _, _, h => by simpa only [Dat] using h
  | .bl _, _, _, h => by simpa only [Dat] using h
  | .int _, _, _, h => by simpa only [Dat] using h
  | .str _, _, _, h => by simpa only [Dat] using h
  | .ob _, _, _, h => by simpa only [Dat] using h
  | .ty _, _, _, h => by simpa only [Dat] using h
  | .dct kvs, v, b, h => by
    simp only [Dat] at h ⊢
    obtain ⟨⟨a, h1, h2⟩, h3⟩ := h
    refine ⟨⟨a, h1, ?_⟩, h3⟩
    rcases h2 with ⟨kv, q1, q2, q3⟩ | h2
    · exact .inl ⟨kv, q1, fun z => q2 (cut_live z), q3⟩
    · exact .inr h2
  | .exn c m, v, b, h => by
    simp only [Dat] at h ⊢
    obtain ⟨⟨a, h1, t, q1, q2, q3, q4⟩, h3⟩ := h
    exact ⟨⟨a, h1, t, q1, fun z => q2 (cut_live z), q3, fun z => q4 (cut_live z)⟩, h3⟩
  | .exi c i, v, b, h => by
    simp only [Dat] at h ⊢
    obtain ⟨a, h1, t, q1, q2, q3, q4⟩ := h
    exact ⟨a, h1, t, q1, fun z => q2 (cut_live z), q3, fun z => q4 (cut_live z)⟩
  | .tup ds, v, b, h => by
    simp only [Dat] at h ⊢
    simp only [D.bel] at b
    obtain ⟨a, vs, h1, h2, h3⟩ := h
    refine ⟨a, vs, h1, ?_, Dats.cut ds vs b h3⟩
    rcases h2 with ⟨h2, h4⟩ | h2
    · exact .inl ⟨h2, fun z => h4 (cut_live z)⟩
    · exact .inr h2
  | .lst ds, v, b, h => by
    simp only [Dat] at h ⊢
    simp only [D.bel] at b
    obtain ⟨a, vs, h1, h2, h3⟩ := h
    exact ⟨a, vs, h1, ⟨h2.1, fun z => h2.2 (cut_live z)⟩, Dats.cut ds vs b h3⟩
  | .fz ds, v, b, h => by
    simp only [Dat] at h ⊢
    simp only [D.bel] at b
    obtain ⟨a, vs, h1, h2, h3⟩ := h
    refine ⟨a, vs, h1, ?_, Dats.cut ds vs b h3⟩
    rcases h2 with ⟨h2, h4⟩ | h2
    · exact .inl ⟨h2, fun z => h4 (cut_live z)⟩
    · exact .inr h2
  | .loc k, v, b, h => by
    simp only [Dat] at h ⊢
    simp only [D.bel, decide_eq_true_eq] at b
    obtain ⟨a, h1, h2⟩ := h
    refine ⟨a, h1, ?_⟩
    rw [cut_κ, List.getElem?_take, if_pos b]
    exact h2
theorem Dats.cut {G : Gs} {n : Nat} : ∀ (ds : List D) (vs : List V), D.bels n ds = true → Dats G w H ds vs → Dats G (w.cut n) H ds vs
  | [], _, _, h => by simpa only [Dats] using h
  | d :: ds, _, b, h => by
    simp only [Dats] at h ⊢
    simp only [D.bels, Bool.and_eq_true] at b
    obtain ⟨v, r, h1, h2, h3⟩ := h
    exact ⟨v, r, h1, Dat.cut d v b.1 h2, Dats.cut ds r b.2 h3⟩
end
theorem DPairs.cut {G : Gs} {n : Nat} : ∀ {kvs : List (D × D)} {xs : KX}, D.bels n (kvs.map (·.1)) = true → D.bels n (kvs.map (·.2)) = true → DPairs G w H kvs xs → DPairs G (w.cut n) H kvs xs
  | [], _, _, _, h => h
  | (k, d) :: kvs, _, b1, b2, ⟨m, b, u, v, r, h1, h2, h3, h4, h5, h6, h7⟩ => by
    simp only [List.map_cons, D.bels, Bool.and_eq_true] at b1 b2
    exact ⟨m, b, u, v, r, h1, h2, h3, Dat.cut _ _ b1.1 h4, Dat.cut _ _ b2.1 h5, h6, h7.cut b1.2 b2.2⟩
theorem Ext.cut {n : Nat} (e : Ext w w' H H') (hn : n = w.μ.length) : Ext w (w'.cut n) H H' := by
  obtain ⟨l, hl⟩ := e.pre
  have hk : (w'.cut n).κ = w.κ := by
    rw [cut_κ, hl, hn, show w.μ.length = w.κ.length by simp [Wd.μ, Wd.κ], List.take_left]
  exact { pre := ⟨[], by rw [hk, List.append_nil]⟩, live := fun a o h q nt => e.live a o (cut_live h) q nt, same := e.same, busy := e.busy, bk := e.bk }
theorem Rep.cut {n : Nat} (r : Rep G w H) (hb : (w.μ.take n).all (CO.bel n) = true) : Rep G (w.cut n) H := by
  refine ⟨by rw [cut_κ]; exact r.nd.sublist (List.take_sublist _ _), fun k a c h => ?_, r.bt, fun a ha z => r.bn a ha (by rw [cut_κ] at z; exact List.mem_of_mem_take z), r.tab⟩
  have h0 : (w.c.take n)[k]? = some (a, c) := h
  have hb' : CO.bel n c = true := List.all_eq_true.mp hb c (by
    rw [Wd.μ, ← List.map_take]
    exact List.mem_map.mpr ⟨_, List.mem_of_getElem? h0, rfl⟩)
  rw [List.getElem?_take] at h0
  split at h0
  · have x := r.at_ k a c h0
    cases c with
    | dead => exact x
    | lst xs =>
      obtain ⟨vs, h1, h2⟩ := x
      exact ⟨vs, h1, Dats.cut _ _ hb' h2⟩
    | frz xs =>
      obtain ⟨vs, h1, h2⟩ := x
      exact ⟨vs, h1, Dats.cut _ _ hb' h2⟩
    | ins c fs =>
      obtain ⟨dx, vs, h1, h2⟩ := x
      exact ⟨dx, vs, h1, Dats.cut _ _ hb' h2⟩
    | dct kvs =>
      obtain ⟨xs, h1, h2, h3⟩ := x
      have hb' : (D.bels n (kvs.map (·.1)) && D.bels n (kvs.map (·.2))) = true := hb'
      rw [Bool.and_eq_true] at hb'
      exact ⟨xs, h1, h2.cut hb'.1 hb'.2, h3⟩
  · cases h0
end
end DL

set_option Elab.async false
set_option linter.all false
set_option maxRecDepth 100000
set_option maxHeartbeats 4000000
/-! DL2: readings by pure functions: values, tests, arguments, operations. -/
namespace DL
open PySem L2 PySem.Spec

abbrev Mu := List CO
abbrev Rs (α : Type) := Option (Except Xc α × Mu)
abbrev M (α : Type) := Mu → Rs α
def ret {α : Type} (a : α) : M α := fun μ => some (.ok a, μ)
def bnd {α β : Type} (m : M α) (k : α → M β) : M β := fun μ => match m μ with
  | none => none
  | some (.ok a, μ') => k a μ'
  | some (.error x, μ') => some (.error x, μ')
def lift {α : Type} (f : Mu → Option α) : M α := fun μ => match f μ with
  | some a => some (.ok a, μ)
  | none => none

def ExcR (G : Gs) (w : Wd) (H : Hp) (x : Xc) (cls : Value) (dd : Option Addr) : Prop :=
  cls = .ref (G.ob x.cls) ∧ match x.arg with
    | none => dd = none
    | some d => ∃ p v, dd = some p ∧ H p = some (.xd [(G.fld x.cls, v)]) ∧ Dat G w H d v

def Post {α : Type} (G : Gs) (W : XK) (w : Wd) (H : Hp) (r : Rs α) (P : α → Wd → Hp → Prop) : Prop :=
  match r with
  | none => False
  | some (.ok a, μ) => ∀ w' H', Ext w w' H H' → Rep G w' H' → w'.μ = μ → P a w' H'
  | some (.error x, μ) => ∀ cls dd w' H', Ext w w' H H' → Rep G w' H' → w'.μ = μ → ExcR G w' H' x cls dd → W cls dd H'

section
variable {α β : Type} {G : Gs} {W : XK} {w w1 : Wd} {H H1 : Hp}
theorem Post.ext {r : Rs α} {P : α → Wd → Hp → Prop} (h : Post G W w H r P) (e : Ext w w1 H H1) : Post G W w1 H1 r P := by
  cases r with
  | none => exact h
  | some q =>
    obtain ⟨q, μ⟩ := q
    cases q with
    | ok a => exact fun w' H' e' r m => h w' H' (e.trans e') r m
    | error x => exact fun c d w' H' e' r m z => h c d w' H' (e.trans e') r m z
theorem Post.mono {r : Rs α} {P P' : α → Wd → Hp → Prop} (h : Post G W w H r P) (k : ∀ a w' H', Ext w w' H H' → Rep G w' H' → P a w' H' → P' a w' H') : Post G W w H r P' := by
  cases r with
  | none => exact h
  | some q =>
    obtain ⟨q, μ⟩ := q
    cases q with
    | ok a => exact fun w' H' e' r m => k a w' H' e' r (h w' H' e' r m)
    | error x => exact h
theorem Post.bnd {m : M α} {k : α → M β} {μ : Mu} {P : β → Wd → Hp → Prop} (h : Post G W w H (bnd m k μ) P) : Post G W w H (m μ) (fun a w' H' => Post G W w' H' (k a w'.μ) P) := by
  unfold DL.bnd at h
  cases e : m μ with
  | none =>
    rw [e] at h
    exact h
  | some q =>
    rw [e] at h
    obtain ⟨q, μ'⟩ := q
    cases q with
    | ok a =>
      have h : Post G W w H (k a μ') P := h
      refine fun w' H' e' r m => ?_
      show Post G W w' H' (k a w'.μ) P
      rw [m]
      exact h.ext e'
    | error x => exact h
theorem Post.here {a : α} {P : α → Wd → Hp → Prop} (r : Rep G w H) (h : Post G W w H (some (.ok a, w.μ)) P) : P a w H := h w H (Ext.refl w H) r rfl
theorem Post.ret {a : α} {P : α → Wd → Hp → Prop} (r : Rep G w H) (h : Post G W w H (ret a w.μ) P) : P a w H := h w H (Ext.refl w H) r rfl
theorem Post.lift {f : Mu → Option α} {P : α → Wd → Hp → Prop} (h : Post G W w H (lift f w.μ) P) : ∃ a, f w.μ = some a ∧ ∀ w' H', Ext w w' H H' → Rep G w' H' → w'.μ = w.μ → P a w' H' := by
  unfold DL.lift at h
  cases e : f w.μ with
  | none =>
    rw [e] at h
    exact h.elim
  | some a =>
    rw [e] at h
    exact ⟨a, rfl, h⟩
end

/-! ### readings -/
abbrev WAt (W : WX) (σ : St) : XK := fun c d H => W c d σ H
def vk (G : Gs) (Q : VK) : D → Wd → Hp → Prop := fun d w' H' => ∀ v, Dat G w' H' d v → Q v H'
def tE (G : Gs) (W : WX) (f : Env → M D) : TE := fun σ H Q => ∃ w δ, Rep G w H ∧ EnvR G w H δ σ ∧ Post G (WAt W σ) w H (f δ w.μ) (vk G Q)
def tT (G : Gs) (W : WX) (f : Env → M Bool) : TT := fun σ H Q => ∃ w δ, Rep G w H ∧ EnvR G w H δ σ ∧ Post G (WAt W σ) w H (f δ w.μ) (fun b _ H' => Q b H')
def tA (G : Gs) (W : WX) (f : Env → M (List D)) : TA := fun σ H Q => ∃ w δ, Rep G w H ∧ EnvR G w H δ σ ∧ Post G (WAt W σ) w H (f δ w.μ) (fun ds w' H' => ∀ vs, Dats G w' H' ds vs → Q vs H')
abbrev DE (G : Gs) (W : WX) (X : Cx) (e : Expr) (f : Env → M D) : Prop := PE X e (tE G W f)
abbrev DT (G : Gs) (W : WX) (X : Cx) (e : Expr) (f : Env → M Bool) : Prop := PT X e (tT G W f)
abbrev DW (G : Gs) (W : WX) (X : Cx) (e : Expr) (f : Env → M Bool) : Prop := PW X e (tT G W f)
abbrev DA (G : Gs) (W : WX) (X : Cx) (es : List Expr) (f : Env → M (List D)) : Prop := PA X es (tA G W f)

theorem _root_.L2.PE.imp {X : Cx} {e : Expr} {t t' : TE} (h : PE X e t) (k : ∀ σ H Q, t' σ H Q → t σ H Q) : PE X e t' := ⟨fun pins s σ H Q I q => h.run pins s σ H Q I (k σ H Q q)⟩
theorem _root_.L2.PT.imp {X : Cx} {e : Expr} {t t' : TT} (h : PT X e t) (k : ∀ σ H Q, t' σ H Q → t σ H Q) : PT X e t' := ⟨fun pins s σ H Q I q => h.run pins s σ H Q I (k σ H Q q)⟩
theorem _root_.L2.PW.imp {X : Cx} {e : Expr} {t t' : TT} (h : PW X e t) (k : ∀ σ H Q, t' σ H Q → t σ H Q) : PW X e t' := ⟨fun wh pins s σ H Q I q => h.run wh pins s σ H Q I (k σ H Q q)⟩
theorem _root_.L2.PA.imp {X : Cx} {es : List Expr} {t t' : TA} (h : PA X es t) (k : ∀ σ H Q, t' σ H Q → t σ H Q) : PA X es t' := ⟨fun pos pins s σ H Q I q => h.run pos pins s σ H Q I (k σ H Q q)⟩
theorem _root_.L2.PS.imp {X : Cx} {st : Stmt} {t t' : TS} (h : PS X st t) (k : ∀ D σ H, t' D σ H → t D σ H) : PS X st t' := ⟨fun pins s σ H D I q => h.run pins s σ H D I (k D σ H q)⟩
theorem _root_.L2.PSs.imp {X : Cx} {st : List Stmt} {t t' : TS} (h : PSs X st t) (k : ∀ D σ H, t' D σ H → t D σ H) : PSs X st t' := ⟨fun pins s σ H D I q => h.run pins s σ H D I (k D σ H q)⟩
theorem _root_.L2.OpR.imp {X : Cx} {f : Value → Value → Sem Value} {r r' : R2} (h : OpR X f r) (k : ∀ x y H Q, r' x y H Q → r x y H Q) : OpR X f r' := fun pins s σ H x y v u Q I a b q => h pins s σ H x y v u Q I a b (k x y H Q q)
theorem _root_.L2.CallR.imp {X : Cx} {f : Value} {r r' : List V → Hp → VK → Prop} (h : CallR X f r) (k : ∀ xs H Q, r' xs H Q → r xs H Q) : CallR X f r' := fun pins s σ H xs us Q I a q => h pins s σ H xs us Q I a (k xs H Q q)
theorem _root_.L2.MtR.imp {X : Cx} {id : String} {r r' : V → List V → Hp → VK → Prop} (h : MtR X id r) (k : ∀ x xs H Q, r' x xs H Q → r x xs H Q) : MtR X id r' := fun pins s σ H x xs v us Q I a b q => h pins s σ H x xs v us Q I a b (k x xs H Q q)
theorem _root_.L2.IxR.imp {X : Cx} {r r' : R2} (h : IxR X r) (k : ∀ x y H Q, r' x y H Q → r x y H Q) : IxR X r' := fun va sl pins s σ H x y v u Q I a b q => h va sl pins s σ H x y v u Q I a b (k x y H Q q)
theorem _root_.L2.SlR.imp {X : Cx} {r r' : V → Option Int → Option Int → Hp → VK → Prop} (h : SlR X r) (k : ∀ x lo hi H Q, r' x lo hi H Q → r x lo hi H Q) : SlR X r' := fun pins s σ H x v vl vu lo hi sl Q I a b c d q => h pins s σ H x v vl vu lo hi sl Q I a b c d (k x lo hi H Q q)
theorem _root_.L2.TruR.imp {X : Cx} {r r' : V → Hp → (Bool → Hp → Prop) → Prop} (h : TruR X r) (k : ∀ x H Q, r' x H Q → r x H Q) : TruR X r' := fun pins s σ H x v Q I a q => h pins s σ H x v Q I a (k x H Q q)
theorem _root_.L2.UnR.imp {X : Cx} {f : Value → Sem Value} {r r' : V → Hp → VK → Prop} (h : UnR X f r) (k : ∀ x H Q, r' x H Q → r x H Q) : UnR X f r' := fun pins s σ H x v Q I a q => h pins s σ H x v Q I a (k x H Q q)

section
variable {α β : Type} {G : Gs} {W : WX} {w : Wd} {H : Hp} {δ : Env} {σ : St}
/-- a first part is read, what follows stands behind it -/
theorem tE_of {f : Env → M D} {k : D → M β} {P : β → Wd → Hp → Prop} {R : VK} (r : Rep G w H) (en : EnvR G w H δ σ) (h : Post G (WAt W σ) w H (bnd (f δ) k w.μ) P)
    (hR : ∀ d v w1 H1, Ext w w1 H H1 → Rep G w1 H1 → EnvR G w1 H1 δ σ → Dat G w1 H1 d v → Post G (WAt W σ) w1 H1 (k d w1.μ) P → R v H1) : tE G W f σ H R :=
  ⟨w, δ, r, en, h.bnd.mono fun d w1 H1 e r1 p v dv => hR d v w1 H1 e r1 (en.ext e.toSub) dv p⟩
theorem tT_of {f : Env → M Bool} {k : Bool → M β} {P : β → Wd → Hp → Prop} {R : Bool → Hp → Prop} (r : Rep G w H) (en : EnvR G w H δ σ) (h : Post G (WAt W σ) w H (bnd (f δ) k w.μ) P)
    (hR : ∀ b w1 H1, Ext w w1 H H1 → Rep G w1 H1 → EnvR G w1 H1 δ σ → Post G (WAt W σ) w1 H1 (k b w1.μ) P → R b H1) : tT G W f σ H R :=
  ⟨w, δ, r, en, h.bnd.mono fun b w1 H1 e r1 p => hR b w1 H1 e r1 (en.ext e.toSub) p⟩
theorem tA_of {f : Env → M (List D)} {k : List D → M β} {P : β → Wd → Hp → Prop} {R : List V → Hp → Prop} (r : Rep G w H) (en : EnvR G w H δ σ) (h : Post G (WAt W σ) w H (bnd (f δ) k w.μ) P)
    (hR : ∀ ds vs w1 H1, Ext w w1 H H1 → Rep G w1 H1 → EnvR G w1 H1 δ σ → Dats G w1 H1 ds vs → Post G (WAt W σ) w1 H1 (k ds w1.μ) P → R vs H1) : tA G W f σ H R :=
  ⟨w, δ, r, en, h.bnd.mono fun ds w1 H1 e r1 p vs dv => hR ds vs w1 H1 e r1 (en.ext e.toSub) dv p⟩
end

/-! ### names, constants -/
def fVar (i : Nat) : Env → M D := fun δ => lift fun _ => (δ[i]?).join
def fC (d : D) : Env → M D := fun _ => ret d
section
variable {G : Gs} {W : WX} {X : Cx}
theorem de_var {i : Nat} {x : Str} {pos : Pos} (hN : X.N[i]? = some x) (hv : Vis X.env.scope x) (hd : (x == ("__debug__" : Str)) = false) (hcd : (x == ("__classdict__" : Str)) = false) : DE G W X (.Name x pos) (fVar i) := by
  refine (pe_var hN hv hd hcd).imp fun σ H Q ⟨w, δ, r, en, p⟩ => ?_
  obtain ⟨d, h1, h2⟩ := p.lift
  cases e : δ[i]? with
  | none =>
    rw [e] at h1
    cases h1
  | some o =>
    rw [e] at h1
    cases o with
    | none => cases h1
    | some d' =>
      cases h1
      obtain ⟨v, hv, dv⟩ := en.at_ i _ e
      exact ⟨v, hv, h2 w H (Ext.refl w H) r rfl v dv⟩
theorem de_c {e : Expr} {d : D} {v : V} (h : PE X e (tC v)) (hd : ∀ w H, Dat G w H d v) : DE G W X e (fC d) :=
  h.imp fun σ H Q ⟨w, δ, r, en, p⟩ => p.ret r v (hd w H)
theorem de_int {i j pos} : DE G W X (.Constant (.int i) j pos) (fC (.int i)) := de_c pe_int fun _ _ => by simp [Dat]
theorem de_bl {b j pos} : DE G W X (.Constant (.bool b) j pos) (fC (.bl b)) := de_c pe_bl fun _ _ => by simp [Dat]
theorem de_non {j pos} : DE G W X (.Constant .none j pos) (fC .non) := de_c pe_non fun _ _ => by simp [Dat]
theorem de_str {x : Str} {s : List Nat} {j pos} (h : x.cps.toList = s) (ho : okS s = true) : DE G W X (.Constant (.str x) j pos) (fC (.str s)) := de_c pe_str fun _ _ => by
  subst h
  simp [Dat, ho]
end

/-! ### operations on values -/
/-- a step that is a partial function of data, and changes no changeable thing -/
def rD (G : Gs) (g : Mu → D → D → Option D) : R2 := fun x y H Q => ∃ w a b d, Rep G w H ∧ Dat G w H a x ∧ Dat G w H b y ∧ g w.μ a b = some d ∧
  ∀ w' H' v, Ext w w' H H' → Rep G w' H' → w'.μ = w.μ → Dat G w' H' d v → Q v H'
def rU1 (G : Gs) (g : Mu → D → Option D) : V → Hp → VK → Prop := fun x H Q => ∃ w a d, Rep G w H ∧ Dat G w H a x ∧ g w.μ a = some d ∧
  ∀ w' H' v, Ext w w' H H' → Rep G w' H' → w'.μ = w.μ → Dat G w' H' d v → Q v H'
def rT1 (G : Gs) (g : Mu → D → Option Bool) : V → Hp → (Bool → Hp → Prop) → Prop := fun x H Q => ∃ w a b, Rep G w H ∧ Dat G w H a x ∧ g w.μ a = some b ∧ Q b H
def rDs (G : Gs) (g : Mu → List D → Option D) : List V → Hp → VK → Prop := fun xs H Q => ∃ w ds d, Rep G w H ∧ Dats G w H ds xs ∧ g w.μ ds = some d ∧
  ∀ w' H' v, Ext w w' H H' → Rep G w' H' → w'.μ = w.μ → Dat G w' H' d v → Q v H'
def rMt (G : Gs) (g : Mu → D → List D → Option D) : V → List V → Hp → VK → Prop := fun x xs H Q => ∃ w a ds d, Rep G w H ∧ Dat G w H a x ∧ Dats G w H ds xs ∧ g w.μ a ds = some d ∧
  ∀ w' H' v, Ext w w' H H' → Rep G w' H' → w'.μ = w.μ → Dat G w' H' d v → Q v H'
def fOp (g : Mu → D → D → Option D) (f f' : Env → M D) : Env → M D := fun δ => bnd (f δ) fun a => bnd (f' δ) fun b => lift fun μ => g μ a b
def fUn (g : Mu → D → Option D) (f : Env → M D) : Env → M D := fun δ => bnd (f δ) fun a => lift fun μ => g μ a
def fDs (g : Mu → List D → Option D) (f : Env → M (List D)) : Env → M D := fun δ => bnd (f δ) fun a => lift fun μ => g μ a
def fMt (g : Mu → D → List D → Option D) (f : Env → M D) (f' : Env → M (List D)) : Env → M D := fun δ => bnd (f δ) fun a => bnd (f' δ) fun b => lift fun μ => g μ a b
section
variable {G : Gs} {W : WX} {X : Cx} {a b e : Expr} {es : List Expr} {fa fb : Env → M D} {fs : Env → M (List D)} {pos p : Pos} {g : Mu → D → D → Option D}
theorem tOp_of {σ : St} {H : Hp} {w : Wd} {δ : Env} {R : VK} (r : Rep G w H) (en : EnvR G w H δ σ) (h : Post G (WAt W σ) w H (fOp g fa fb δ w.μ) (vk G R)) : tOp (rD G g) (tE G W fa) (tE G W fb) σ H R := by
  refine tE_of r en h fun x v w1 H1 e1 r1 en1 d1 h1 => ?_
  refine tE_of r1 en1 h1 fun y u w2 H2 e2 r2 en2 d2 h2 => ?_
  obtain ⟨d, g1, g2⟩ := h2.lift
  exact ⟨w2, x, y, d, r2, Dat.ext e2.toSub _ _ d1, d2, g1, fun w' H' v' e' r' m' dv => g2 w' H' e' r' m' v' dv⟩
theorem de_op {op : Operator} (ho : OpR X (binaryOp op) (rD G g)) (ha : DE G W X a fa) (hb : DE G W X b fb) : DE G W X (.BinOp a op b pos) (fOp g fa fb) :=
  (pe_op ho ha hb).imp fun σ H Q ⟨w, δ, r, en, p⟩ => tOp_of r en p
theorem de_cmp {op : CmpOp} (ho : OpR X (compareOp op) (rD G g)) (ha : DE G W X a fa) (hb : DE G W X b fb) (hm : behindInMarks op b = false) : DE G W X (.Compare a [op] [b] pos) (fOp g fa fb) :=
  (pe_cmpR ho ha hb hm).imp fun σ H Q ⟨w, δ, r, en, p⟩ => tOp_of r en p
theorem de_ix (ho : IxR X (rD G g)) (ha : DE G W X a fa) (hb : DE G W X b fb) (hs : PlainIx b) : DE G W X (.Subscript a b pos) (fOp g fa fb) :=
  (pe_ix ho ha hb hs).imp fun σ H Q ⟨w, δ, r, en, p⟩ => tOp_of r en p
theorem de_un {op : UnaryOp} {g : Mu → D → Option D} (ho : UnR X (unaryOp op) (rU1 G g)) (ha : DE G W X a fa) : DE G W X (.UnaryOp op a pos) (fUn g fa) := by
  refine (pe_un ho ha).imp fun σ H Q ⟨w, δ, r, en, p⟩ => ?_
  refine tE_of r en p fun x v w1 H1 e1 r1 en1 d1 h1 => ?_
  obtain ⟨d, g1, g2⟩ := h1.lift
  exact ⟨w1, x, d, r1, d1, g1, fun w' H' v' e' r' m' dv => g2 w' H' e' r' m' v' dv⟩

/-! ### arguments, displays -/
def fNil : Env → M (List D) := fun _ => ret []
def fCons (f : Env → M D) (f' : Env → M (List D)) : Env → M (List D) := fun δ => bnd (f δ) fun d => bnd (f' δ) fun ds => ret (d :: ds)
theorem da_nil : DA G W X [] fNil := pa_nil.imp fun σ H Q ⟨w, δ, r, en, p⟩ => p.ret r [] (by simp [Dats])
theorem da_cons (ha : DE G W X e fa) (hr : DA G W X es fs) (hs : starEach (e :: es) X.env = (false, eval e X.env) :: starEach es X.env) : DA G W X (e :: es) (fCons fa fs) := by
  refine (pa_cons ha hr hs).imp fun σ H Q ⟨w, δ, r, en, p⟩ => ?_
  refine tE_of r en p fun x v w1 H1 e1 r1 en1 d1 h1 => ?_
  refine tA_of r1 en1 h1 fun ds vs w2 H2 e2 r2 en2 d2 h2 => ?_
  exact h2.ret r2 (v :: vs) (by simp only [Dats]; exact ⟨v, vs, rfl, Dat.ext e2.toSub _ _ d1, d2⟩)
/-- new data at a new place -/
theorem new_tup {w : Wd} {H : Hp} {ds : List D} {vs : List V} (r : Rep G w H) (hd : Dats G w H ds vs) {p : Addr} (hp : H p = none) :
    Ext w w H (upd H p (.tup vs)) ∧ Rep G w (upd H p (.tup vs)) ∧ Dat G w (upd H p (.tup vs)) (.tup ds) (.ref p) := by
  have e : Ext w w H (upd H p (.tup vs)) := Ext.alloc hp
  refine ⟨e, r.alloc hp, ?_⟩
  simp only [Dat]
  exact ⟨p, vs, rfl, .inl ⟨.inl upd_same, r.dead hp⟩, Dats.ext e.toSub _ _ hd⟩
theorem new_lst {w : Wd} {H : Hp} {ds : List D} {vs : List V} (r : Rep G w H) (hd : Dats G w H ds vs) {p : Addr} (hp : H p = none) :
    Ext w w H (upd H p (.lst vs)) ∧ Rep G w (upd H p (.lst vs)) ∧ Dat G w (upd H p (.lst vs)) (.lst ds) (.ref p) := by
  have e : Ext w w H (upd H p (.lst vs)) := Ext.alloc hp
  refine ⟨e, r.alloc hp, ?_⟩
  simp only [Dat]
  exact ⟨p, vs, rfl, ⟨upd_same, r.dead hp⟩, Dats.ext e.toSub _ _ hd⟩
/-- the line of sizes, as a plain number -/
def line : Nat := 16777216
theorem line_eq : sizeLine = line := sizeLine_eq
def fTup (f : Env → M (List D)) : Env → M D := fDs (fun _ ds => if ds.length ≤ line then some (.tup ds) else none) f
def fLst (f : Env → M (List D)) : Env → M D := fDs (fun _ ds => if ds.length ≤ line then some (.lst ds) else none) f
theorem de_tup {k : Nat} (h : DA G W X es fs) : DE G W X (.Tuple es k pos) (fTup fs) := by
  refine (pe_tup h).imp fun σ H Q ⟨w, δ, r, en, p⟩ => ?_
  refine tA_of r en p fun ds vs w1 H1 e1 r1 en1 d1 h1 => ?_
  obtain ⟨d, g1, g2⟩ := h1.lift
  simp only at g1
  split at g1
  · cases g1
    refine ⟨by rw [d1.length, line_eq]; assumption, fun p hp => ?_⟩
    obtain ⟨n1, n2, n3⟩ := new_tup r1 d1 hp
    exact g2 w1 _ n1 n2 rfl _ n3
  · cases g1
theorem de_lst (h : DA G W X es fs) : DE G W X (.List es pos) (fLst fs) := by
  refine (pe_lst h).imp fun σ H Q ⟨w, δ, r, en, p⟩ => ?_
  refine tA_of r en p fun ds vs w1 H1 e1 r1 en1 d1 h1 => ?_
  obtain ⟨d, g1, g2⟩ := h1.lift
  simp only at g1
  split at g1
  · cases g1
    refine ⟨by rw [d1.length, line_eq]; assumption, fun p hp => ?_⟩
    obtain ⟨n1, n2, n3⟩ := new_lst r1 d1 hp
    exact g2 w1 _ n1 n2 rfl _ n3
  · cases g1

/-! ### calls of what is built in -/
theorem de_callB {id : String} {x : Str} {g : Mu → List D → Option D} (hc : CallR X (.builtin id) (rDs G g)) (hg : Gl X x) (hm : X.mg x = none) (hv : bootBuiltins x = some (.builtin id)) (ha : DA G W X (e :: es) fs) (hn : x ≠ "__name__") (hdb : (x == ("__debug__" : Str)) = false)
    (he : starEach (e :: es) X.env = (false, eval e X.env) :: starEach es X.env) (hpl : (backTo pos (starEach es X.env)).any (·.1) = false) : DE G W X (.Call (.Name x p) (e :: es) [] pos) (fDs g fs) := by
  refine (pe_callB hc hg hm hv ha hn hdb he hpl).imp fun σ H Q ⟨w, δ, r, en, p⟩ => ?_
  refine tA_of r en p fun ds vs w1 H1 e1 r1 en1 d1 h1 => ?_
  obtain ⟨d, g1, g2⟩ := h1.lift
  exact ⟨w1, ds, d, r1, d1, g1, fun w' H' v' e' r' m' dv => g2 w' H' e' r' m' v' dv⟩
theorem de_callTy {T : String} {x : Str} {g : Mu → List D → Option D} (hc : CallR X (.type T) (rDs G g)) (hg : Gl X x) (hm : X.mg x = none) (hv : bootBuiltins x = some (.type T)) (ha : DA G W X (e :: es) fs) (hn : x ≠ "__name__") (hdb : (x == ("__debug__" : Str)) = false)
    (he : starEach (e :: es) X.env = (false, eval e X.env) :: starEach es X.env) (hpl : (backTo pos (starEach es X.env)).any (·.1) = false) : DE G W X (.Call (.Name x p) (e :: es) [] pos) (fDs g fs) := by
  refine (pe_callTy hc hg hm hv ha hn hdb he hpl).imp fun σ H Q ⟨w, δ, r, en, p⟩ => ?_
  refine tA_of r en p fun ds vs w1 H1 e1 r1 en1 d1 h1 => ?_
  obtain ⟨d, g1, g2⟩ := h1.lift
  exact ⟨w1, ds, d, r1, d1, g1, fun w' H' v' e' r' m' dv => g2 w' H' e' r' m' v' dv⟩

/-! ### tests, and, or, not -/
/-- a value's truth -/
def tru (μ : Mu) : D → Option Bool
  | .non => some false
  | .bl b => some b
  | .int i => some (i != 0)
  | .str s => if s.length ≤ line then some (s.length != 0) else none
  | .tup xs => some (!xs.isEmpty)
  | .lst xs => some (!xs.isEmpty)
  | .loc k => match μ[k]? with
    | some (.lst xs) => some (!xs.isEmpty)
    | some (.frz xs) => some (!xs.isEmpty)
    | _ => none
  | .fz _ => none
  | .ob _ => none
  | .ty _ => none
  | .dct _ => none
  | .exn _ _ => none
  | .exi _ _ => none
theorem loc_lst {w : Wd} {H : Hp} {k : Nat} {v : V} {xs : List D} (r : Rep G w H) (hd : Dat G w H (.loc k) v) (h : w.μ[k]? = some (.lst xs) ∨ w.μ[k]? = some (.frz xs)) :
    ∃ a vs, v = .ref a ∧ H a = some (.lst vs) ∧ Dats G w H xs vs := by
  simp only [Dat] at hd
  obtain ⟨a, rfl, ha⟩ := hd
  rcases h with h | h
  · obtain ⟨p, hp⟩ := μ_get' h
    have e := κ_get hp
    rw [ha] at e
    cases e
    obtain ⟨vs, h1, h2⟩ := r.at_ k a _ hp
    exact ⟨a, vs, rfl, h1, h2⟩
  · obtain ⟨p, hp⟩ := μ_get' h
    have e := κ_get hp
    rw [ha] at e
    cases e
    obtain ⟨vs, h1, h2⟩ := r.at_ k a _ hp
    exact ⟨a, vs, rfl, h1, h2⟩
theorem isEmpty_dats {w : Wd} {H : Hp} {ds : List D} {vs : List V} (h : Dats G w H ds vs) : vs.isEmpty = ds.isEmpty := by
  have := h.length
  cases ds <;> cases vs <;> simp_all
theorem tru_of {w : Wd} {H : Hp} {d : D} {v : V} {b : Bool} (r : Rep G w H) (hd : Dat G w H d v) (h : tru w.μ d = some b) : TruV G.K v H b := by
  cases d with
  | non =>
    simp only [Dat] at hd
    subst hd
    simp only [tru, Option.some.injEq] at h
    exact h.symm
  | bl c =>
    simp only [Dat] at hd
    subst hd
    simp only [tru, Option.some.injEq] at h
    exact h.symm
  | int i =>
    simp only [Dat] at hd
    subst hd
    simp only [tru, Option.some.injEq] at h
    exact h.symm
  | str s =>
    simp only [Dat] at hd
    obtain ⟨rfl, _⟩ := hd
    simp only [tru] at h
    split at h
    · rename_i hl
      refine ⟨?_, ?_⟩
      · show (s.toArray).size ≤ sizeLine
        rw [line_eq]
        simpa using hl
      · simp only [Option.some.injEq] at h
        rw [← h]
        show (s.length != 0) = ((s.toArray.size : Int) != 0)
        cases s with
        | nil => rfl
        | cons c t =>
          simp only [List.length_cons, List.size_toArray]
          have h1 : ((t.length + 1 != 0) = true) := by simp
          have h2 : ((((t.length + 1 : Nat) : Int) != 0) = true) := by
            rw [bne_iff_ne]
            omega
          rw [h1, h2]
    · cases h
  | tup xs =>
    simp only [Dat] at hd
    obtain ⟨a, vs, rfl, h1, h2⟩ := hd
    simp only [tru, Option.some.injEq] at h
    exact .inr (.inl ⟨vs, h1.sq, by rw [← h, isEmpty_dats h2]⟩)
  | lst xs =>
    simp only [Dat] at hd
    obtain ⟨a, vs, rfl, h1, h2⟩ := hd
    simp only [tru, Option.some.injEq] at h
    exact .inl ⟨vs, h1.sq, by rw [← h, isEmpty_dats h2]⟩
  | loc k =>
    have key : ∀ xs, (w.μ[k]? = some (.lst xs) ∨ w.μ[k]? = some (.frz xs)) → b = !xs.isEmpty → TruV G.K v H b := fun xs h1 h2 => by
      obtain ⟨a, vs, rfl, q1, q2⟩ := loc_lst r hd h1
      exact .inl ⟨vs, SqL.of q1, by rw [h2, isEmpty_dats q2]⟩
    simp only [tru] at h
    split at h
    · exact key _ (.inl (by assumption)) (Option.some.inj h).symm
    · exact key _ (.inr (by assumption)) (Option.some.inj h).symm
    · cases h
  | fz xs => cases h
  | ob u => cases h
  | ty u => cases h
  | dct u => cases h
  | exn c m => cases h
  | exi c i => cases h
def fTru (f : Env → M D) : Env → M Bool := fun δ => bnd (f δ) fun a => lift fun μ => tru μ a
theorem dt_tru (hK : X.K = G.K) (ha : DE G W X a fa) (he : ∀ whole, isTrue a X.env whole = (do let v ← whole; standAt a.pos; holding [v] (truthy v))) : DT G W X a (fTru fa) := by
  refine (pt_truth ha he).imp fun σ H Q ⟨w, δ, r, en, p⟩ => ?_
  refine tE_of r en p fun x v w1 H1 e1 r1 en1 d1 h1 => ?_
  obtain ⟨b, g1, g2⟩ := h1.lift
  exact ⟨b, by rw [hK]; exact tru_of r1 d1 g1, g2 w1 H1 (Ext.refl _ _) r1 rfl⟩
/-- a comparison as a test: its value is True or False -/
def toB : D → Option Bool
  | .bl b => some b
  | _ => none
def fB (f : Env → M D) : Env → M Bool := fun δ => bnd (f δ) fun a => lift fun _ => toB a
theorem dt_cmp {op : CmpOp} (ho : OpR X (compareOp op) (rD G g)) (ha : DE G W X a fa) (hb : DE G W X b fb) (hm : behindInMarks op b = false) : DT G W X (.Compare a [op] [b] pos) (fB (fOp g fa fb)) := by
  refine (pt_cmpR ho ha hb hm).imp fun σ H Q ⟨w, δ, r, en, p⟩ => ?_
  refine tOp_of r en (p.bnd.mono fun d w1 H1 e1 r1 p1 v dv => ?_)
  obtain ⟨c, g1, g2⟩ := p1.lift
  cases d with
  | bl k =>
    simp only [toB, Option.some.injEq] at g1
    subst g1
    simp only [Dat] at dv
    exact ⟨k, dv, g2 w1 H1 (Ext.refl _ _) r1 rfl⟩
  | _ => cases g1
def fNot (f : Env → M Bool) : Env → M Bool := fun δ => bnd (f δ) fun b => ret (!b)
theorem dt_not {f : Env → M Bool} (ha : DT G W X a f) : DT G W X (.UnaryOp .Not a pos) (fNot f) := by
  refine (pt_not ha).imp fun σ H Q ⟨w, δ, r, en, p⟩ => ?_
  exact tT_of r en p fun b w1 H1 e1 r1 en1 h1 => h1.ret r1
def fAnd (f f' : Env → M Bool) : Env → M Bool := fun δ => bnd (f δ) fun b => if b = true then f' δ else ret false
def fOr (f f' : Env → M Bool) : Env → M Bool := fun δ => bnd (f δ) fun b => if b = true then ret true else f' δ
theorem dw_and1 {f : Env → M Bool} (ha : DT G W X a f) : DW G W X (.BoolOp .And [a] pos) f := pw_and1 ha
theorem dw_or1 {f : Env → M Bool} (ha : DT G W X a f) : DW G W X (.BoolOp .Or [a] pos) f := pw_or1 ha
theorem dw_and {f f' : Env → M Bool} (ha : DT G W X a f) (hb : DW G W X (.BoolOp .And (b :: es) pos) f') : DW G W X (.BoolOp .And (a :: b :: es) pos) (fAnd f f') := by
  refine (pw_and ha hb).imp fun σ H Q ⟨w, δ, r, en, p⟩ => ?_
  refine tT_of r en p fun c w1 H1 e1 r1 en1 h1 => ?_
  cases c with
  | true => exact iteT ⟨w1, δ, r1, en1, h1⟩
  | false => exact iteF (h1.ret r1)
theorem dw_or {f f' : Env → M Bool} (ha : DT G W X a f) (hb : DW G W X (.BoolOp .Or (b :: es) pos) f') : DW G W X (.BoolOp .Or (a :: b :: es) pos) (fOr f f') := by
  refine (pw_or ha hb).imp fun σ H Q ⟨w, δ, r, en, p⟩ => ?_
  refine tT_of r en p fun c w1 H1 e1 r1 en1 h1 => ?_
  cases c with
  | false => exact iteF ⟨w1, δ, r1, en1, h1⟩
  | true => exact iteT (h1.ret r1)
def fIf (t : Env → M Bool) (f f' : Env → M D) : Env → M D := fun δ => bnd (t δ) fun b => if b = true then f δ else f' δ
theorem de_if {c : Expr} {f : Env → M Bool} (hc : DT G W X c f) (ha : DE G W X a fa) (hb : DE G W X b fb) : DE G W X (.IfExp c a b pos) (fIf f fa fb) := by
  refine (pe_ifExp hc ha hb).imp fun σ H Q ⟨w, δ, r, en, p⟩ => ?_
  refine tT_of r en p fun c w1 H1 e1 r1 en1 h1 => ?_
  cases c with
  | false => exact iteF ⟨w1, δ, r1, en1, h1⟩
  | true => exact iteT ⟨w1, δ, r1, en1, h1⟩
/-- .. as values: all but the last True or False -/
def fAndV (f f' : Env → M D) : Env → M D := fun δ => bnd (f δ) fun a => bnd (lift fun _ => toB a) fun b => if b = true then f' δ else ret (.bl false)
def fOrV (f f' : Env → M D) : Env → M D := fun δ => bnd (f δ) fun a => bnd (lift fun _ => toB a) fun b => if b = true then ret (.bl true) else f' δ
theorem toB_of {w : Wd} {H : Hp} {d : D} {v : V} {b : Bool} (hd : Dat G w H d v) (h : toB d = some b) : v = .bl b := by
  cases d with
  | bl k =>
    simp only [toB, Option.some.injEq] at h
    subst h
    simpa only [Dat] using hd
  | _ => cases h
theorem de_one {op} (h : DE G W X a fa) : DE G W X (.BoolOp op [a] pos) fa := pe_one h
theorem de_and (ha : DE G W X a fa) (hb : DE G W X (.BoolOp .And (b :: es) pos) fb) : DE G W X (.BoolOp .And (a :: b :: es) pos) (fAndV fa fb) := by
  refine (pe_and ha hb).imp fun σ H Q ⟨w, δ, r, en, p⟩ => ?_
  refine tE_of r en p fun x v w1 H1 e1 r1 en1 d1 h1 => ?_
  obtain ⟨c, g1, g2⟩ := h1.bnd.lift
  have g2 := g2 w1 H1 (Ext.refl _ _) r1 rfl
  refine ⟨c, toB_of d1 g1, ?_⟩
  cases c with
  | true => exact iteT ⟨w1, δ, r1, en1, g2⟩
  | false => exact iteF (g2.ret r1 _ (by simp [Dat]))
theorem de_or (ha : DE G W X a fa) (hb : DE G W X (.BoolOp .Or (b :: es) pos) fb) : DE G W X (.BoolOp .Or (a :: b :: es) pos) (fOrV fa fb) := by
  refine (pe_or ha hb).imp fun σ H Q ⟨w, δ, r, en, p⟩ => ?_
  refine tE_of r en p fun x v w1 H1 e1 r1 en1 d1 h1 => ?_
  obtain ⟨c, g1, g2⟩ := h1.bnd.lift
  have g2 := g2 w1 H1 (Ext.refl _ _) r1 rfl
  refine ⟨c, toB_of d1 g1, ?_⟩
  cases c with
  | false => exact iteF ⟨w1, δ, r1, en1, g2⟩
  | true => exact iteT (g2.ret r1 _ (by simp [Dat]))
/-- a < b < c -/
def fChain (g g' : Mu → D → D → Option D) (f f' f'' : Env → M D) : Env → M D := fun δ => bnd (f δ) fun x => bnd (f' δ) fun y => bnd (lift fun μ => (g μ x y).bind toB) fun k =>
  if k = true then bnd (f'' δ) fun z => lift fun μ => g' μ y z else ret (.bl false)
theorem chain_of {fc : Env → M D} {g g' : Mu → D → D → Option D} {σ : St} {H : Hp} {w : Wd} {δ : Env} {R : VK} (r : Rep G w H) (en : EnvR G w H δ σ)
    (h : Post G (WAt W σ) w H (fChain g g' fa fb fc δ w.μ) (vk G R)) : tChain (rD G g) (rD G g') (tE G W fa) (tE G W fb) (tE G W fc) σ H R := by
  refine tE_of r en h fun x v w1 H1 e1 r1 en1 d1 h1 => ?_
  refine tE_of r1 en1 h1 fun y u w2 H2 e2 r2 en2 d2 h2 => ?_
  obtain ⟨k, g1, g2⟩ := h2.bnd.lift
  cases e : g w2.μ x y with
  | none =>
    rw [e] at g1
    cases g1
  | some d =>
    rw [e] at g1
    refine ⟨w2, x, y, d, r2, Dat.ext e2.toSub _ _ d1, d2, e, fun w3 H3 v3 e3 r3 m3 d3 => ?_⟩
    refine ⟨k, toB_of d3 g1, ?_⟩
    have g3 := g2 w3 H3 e3 r3 m3
    cases k with
    | false => exact iteF (g3.ret r3 _ (by simp [Dat]))
    | true =>
      refine iteT (tE_of r3 (en2.ext e3.toSub) g3 fun z t w4 H4 e4 r4 en4 d4 h4 => ?_)
      obtain ⟨d', q1, q2⟩ := h4.lift
      exact ⟨w4, y, z, d', r4, Dat.ext (e3.trans e4).toSub _ _ d2, d4, q1, fun w' H' v' e' r' m' dv => q2 w' H' e' r' m' v' dv⟩
theorem de_chain {c : Expr} {fc : Env → M D} {g g' : Mu → D → D → Option D} {op op' : CmpOp} (ho : OpR X (compareOp op) (rD G g)) (ho' : OpR X (compareOp op') (rD G g')) (ha : DE G W X a fa) (hb : DE G W X b fb) (hc : DE G W X c fc)
    (hm : lastMarks [op, op'] [b, c] = false) : DE G W X (.Compare a [op, op'] [b, c] pos) (fChain g g' fa fb fc) :=
  (pe_chain ho ho' ha hb hc hm).imp fun σ H Q ⟨w, δ, r, en, p⟩ => chain_of r en p
theorem dt_chain {c : Expr} {fc : Env → M D} {g g' : Mu → D → D → Option D} {op op' : CmpOp} (ho : OpR X (compareOp op) (rD G g)) (ho' : OpR X (compareOp op') (rD G g')) (ha : DE G W X a fa) (hb : DE G W X b fb) (hc : DE G W X c fc)
    (hm : lastMarks [op, op'] [b, c] = false) : DT G W X (.Compare a [op, op'] [b, c] pos) (fB (fChain g g' fa fb fc)) := by
  refine (pt_chain ho ho' ha hb hc hm).imp fun σ H Q ⟨w, δ, r, en, p⟩ => ?_
  refine chain_of r en (p.bnd.mono fun d w1 H1 e1 r1 p1 v dv => ?_)
  obtain ⟨c, g1, g2⟩ := p1.lift
  exact ⟨c, toB_of dv g1, g2 w1 H1 (Ext.refl _ _) r1 rfl⟩
end
end DL

set_option Elab.async false
set_option linter.all false
set_option maxRecDepth 100000
set_option maxHeartbeats 4000000
/-! DL3: the operations: equality, order, arithmetic, items, slices, lengths, types. -/
namespace DL
open PySem L2 PySem.Spec

/-! ### equality -/
mutual
def D.eqv : D → D → Bool
  | .non, .non => true
  | .bl a, .bl b => a == b
  | .bl a, .int j => (if a then 1 else 0) == j
  | .int i, .bl b => i == (if b then 1 else 0)
  | .int i, .int j => i == j
  | .str x, .str y => x == y
  | .lst xs, .lst ys => D.eqvs xs ys
  | .tup xs, .tup ys => D.eqvs xs ys
  | _, _ => false
def D.eqvs : List D → List D → Bool
  | [], [] => true
  | x :: xs, y :: ys => D.eqv x y && D.eqvs xs ys
  | _, _ => false
end
mutual
def D.dep : D → Nat
  | .lst xs => D.deps xs + 1
  | .tup xs => D.deps xs + 1
  | _ => 0
def D.deps : List D → Nat
  | [] => 0
  | x :: xs => max (D.dep x) (D.deps xs)
end
/-! plain data -/
mutual
def D.pln : D → Bool
  | .non => true
  | .bl _ => true
  | .int _ => true
  | .str _ => true
  | .lst xs => D.plns xs
  | .tup xs => D.plns xs
  | .fz _ => false
  | .ob _ => false
  | .ty _ => false
  | .loc _ => false
  | .dct _ => false
  | .exn _ _ => false
  | .exi _ _ => false
def D.plns : List D → Bool
  | [] => true
  | x :: xs => D.pln x && D.plns xs
end
mutual
def D.pd : D → PyData
  | .bl b => .bool b
  | .int i => .int i
  | .str s => .str ⟨s.toArray⟩
  | .lst xs => .list (D.pds xs)
  | .tup xs => .tuple (D.pds xs)
  | _ => .none
def D.pds : List D → List PyData
  | [] => []
  | x :: xs => D.pd x :: D.pds xs
end
mutual
theorem pd_eqv : ∀ a b : D, a.pln = true → b.pln = true → PyData.eqv a.pd b.pd = D.eqv a b
  | a, b, ha, hb => by
    cases a with
    | fz _ => simp [D.pln] at ha
    | ob _ => simp [D.pln] at ha
    | ty _ => simp [D.pln] at ha
    | loc _ => simp [D.pln] at ha
    | dct _ => simp [D.pln] at ha
    | exn _ _ => simp [D.pln] at ha
    | exi _ _ => simp [D.pln] at ha
    | lst xs =>
      cases b with
      | fz _ => simp [D.pln] at hb
      | ob _ => simp [D.pln] at hb
      | ty _ => simp [D.pln] at hb
      | loc _ => simp [D.pln] at hb
      | dct _ => simp [D.pln] at hb
      | exn _ _ => simp [D.pln] at hb
      | exi _ _ => simp [D.pln] at hb
      | lst ys =>
        simp only [D.pln] at ha hb
        simp only [D.pd, D.eqv, PyData.eqv]
        exact pds_eqv xs ys ha hb
      | _ => simp [D.pd, D.eqv, PyData.eqv]
    | tup xs =>
      cases b with
      | fz _ => simp [D.pln] at hb
      | ob _ => simp [D.pln] at hb
      | ty _ => simp [D.pln] at hb
      | loc _ => simp [D.pln] at hb
      | dct _ => simp [D.pln] at hb
      | exn _ _ => simp [D.pln] at hb
      | exi _ _ => simp [D.pln] at hb
      | tup ys =>
        simp only [D.pln] at ha hb
        simp only [D.pd, D.eqv, PyData.eqv]
        exact pds_eqv xs ys ha hb
      | _ => simp [D.pd, D.eqv, PyData.eqv]
    | str s =>
      cases b with
      | fz _ => simp [D.pln] at hb
      | ob _ => simp [D.pln] at hb
      | ty _ => simp [D.pln] at hb
      | loc _ => simp [D.pln] at hb
      | dct _ => simp [D.pln] at hb
      | exn _ _ => simp [D.pln] at hb
      | exi _ _ => simp [D.pln] at hb
      | str t =>
        simp only [D.pd, D.eqv, PyData.eqv]
        by_cases e : s = t
        · subst e
          simp
        · have h1 : (s == t) = false := beq_eq_false_iff_ne.mpr e
          rw [h1]
          refine beq_eq_false_iff_ne.mpr fun z => e ?_
          simpa using z
      | _ => simp [D.pd, D.eqv, PyData.eqv]
    | _ =>
      cases b with
      | fz _ => simp [D.pln] at hb
      | ob _ => simp [D.pln] at hb
      | ty _ => simp [D.pln] at hb
      | loc _ => simp [D.pln] at hb
      | dct _ => simp [D.pln] at hb
      | exn _ _ => simp [D.pln] at hb
      | exi _ _ => simp [D.pln] at hb
      | _ => simp [D.pd, D.eqv, PyData.eqv]
theorem pds_eqv : ∀ a b : List D, D.plns a = true → D.plns b = true → PyData.eqvAll (D.pds a) (D.pds b) = D.eqvs a b
  | [], [], _, _ => by simp [D.pds, D.eqvs, PyData.eqvAll]
  | [], _ :: _, _, _ => by simp [D.pds, D.eqvs, PyData.eqvAll]
  | _ :: _, [], _, _ => by simp [D.pds, D.eqvs, PyData.eqvAll]
  | x :: xs, y :: ys, ha, hb => by
    simp only [D.plns, Bool.and_eq_true] at ha hb
    simp only [D.pds, D.eqvs, PyData.eqvAll]
    rw [pd_eqv x y ha.1 hb.1, pds_eqv xs ys ha.2 hb.2]
end
mutual
theorem pd_dep : ∀ a : D, a.pln = true → a.pd.depth = a.dep
  | .lst xs, h => by
    simp only [D.pln] at h
    simp only [D.pd, D.dep, PyData.depth]
    rw [pds_dep xs h]
  | .tup xs, h => by
    simp only [D.pln] at h
    simp only [D.pd, D.dep, PyData.depth]
    rw [pds_dep xs h]
  | .non, _ => by simp [D.pd, D.dep, PyData.depth]
  | .bl _, _ => by simp [D.pd, D.dep, PyData.depth]
  | .int _, _ => by simp [D.pd, D.dep, PyData.depth]
  | .str _, _ => by simp [D.pd, D.dep, PyData.depth]
  | .fz _, h => by simp [D.pln] at h
  | .ob _, h => by simp [D.pln] at h
  | .ty _, h => by simp [D.pln] at h
  | .loc _, h => by simp [D.pln] at h
theorem pds_dep : ∀ a : List D, D.plns a = true → PyData.depthAll (D.pds a) = D.deps a
  | [], _ => by simp [D.pds, D.deps, PyData.depthAll]
  | x :: xs, h => by
    simp only [D.plns, Bool.and_eq_true] at h
    simp only [D.pds, D.deps, PyData.depthAll]
    rw [pd_dep x h.1, pds_dep xs h.2]
end
section
variable {G : Gs} {w : Wd} {H : Hp}
mutual
theorem pd_dp : ∀ (a : D) (v : V), a.pln = true → Dat G w H a v → Dp G.K H v a.pd ∧ a.pd.canLay0 = true
  | .lst xs, v, h, hd => by
    simp only [D.pln] at h
    simp only [Dat] at hd
    obtain ⟨p, vs, rfl, h1, h2⟩ := hd
    obtain ⟨h3, h4⟩ := pds_dp xs vs h h2
    simp only [D.pd, PyData.canLay0]
    exact ⟨.lst h1.sq h3, h4⟩
  | .tup xs, v, h, hd => by
    simp only [D.pln] at h
    simp only [Dat] at hd
    obtain ⟨p, vs, rfl, h1, h2⟩ := hd
    obtain ⟨h3, h4⟩ := pds_dp xs vs h h2
    simp only [D.pd, PyData.canLay0]
    exact ⟨.tup h1.sq h3, h4⟩
  | .non, v, _, hd => by
    simp only [Dat] at hd
    subst hd
    exact ⟨.non, by simp [D.pd, PyData.canLay0]⟩
  | .bl b, v, _, hd => by
    simp only [Dat] at hd
    subst hd
    exact ⟨.bl b, by simp [D.pd, PyData.canLay0]⟩
  | .int i, v, _, hd => by
    simp only [Dat] at hd
    subst hd
    exact ⟨.int i, by simp [D.pd, PyData.canLay0]⟩
  | .str s, v, _, hd => by
    simp only [Dat] at hd
    obtain ⟨rfl, ho⟩ := hd
    refine ⟨.str _, ?_⟩
    simp only [D.pd, PyData.canLay0]
    unfold PyData.strOk
    simp only [okS] at ho
    simpa using ho
  | .fz _, _, h, _ => by simp [D.pln] at h
  | .ob _, _, h, _ => by simp [D.pln] at h
  | .ty _, _, h, _ => by simp [D.pln] at h
  | .loc _, _, h, _ => by simp [D.pln] at h
theorem pds_dp : ∀ (a : List D) (vs : List V), D.plns a = true → Dats G w H a vs → DpAll G.K H vs (D.pds a) ∧ PyData.canLayAll0 (D.pds a) = true
  | [], vs, _, hd => by
    simp only [Dats] at hd
    subst hd
    exact ⟨.nil, by simp [D.pds, PyData.canLayAll0]⟩
  | x :: xs, vs, h, hd => by
    simp only [D.plns, Bool.and_eq_true] at h
    simp only [Dats] at hd
    obtain ⟨v, r, rfl, h1, h2⟩ := hd
    obtain ⟨h3, h4⟩ := pd_dp x v h.1 h1
    obtain ⟨h5, h6⟩ := pds_dp xs r h.2 h2
    exact ⟨.cons h3 h5, by simp [D.pds, PyData.canLayAll0, h4, h6]⟩
end
end
theorem pd_shaped {G : Gs} {w : Wd} {H : Hp} {a : D} {v : V} (h : a.pln = true) (hd : Dat G w H a v) (hs : a.dep ≤ 64) : Dp G.K H v a.pd ∧ SeqAt.shaped a.pd = true := by
  obtain ⟨h1, h2⟩ := pd_dp a v h hd
  refine ⟨h1, ?_⟩
  unfold SeqAt.shaped
  rw [h2, pd_dep a h]
  simpa using hs
/-- what a list that can be changed holds now -/
def peek (μ : Mu) : D → D
  | .loc k => match μ[k]? with
    | some (.lst xs) => .lst xs
    | some (.frz xs) => .lst xs
    | _ => .loc k
  | d => d
theorem peek_cases (μ : Mu) (d : D) : peek μ d = d ∨ ∃ k xs, d = .loc k ∧ (μ[k]? = some (.lst xs) ∨ μ[k]? = some (.frz xs)) ∧ peek μ d = .lst xs := by
  cases d with
  | loc k =>
    simp only [peek]
    split
    · exact .inr ⟨k, _, rfl, .inl (by assumption), rfl⟩
    · exact .inr ⟨k, _, rfl, .inr (by assumption), rfl⟩
    · exact .inl rfl
  | _ => exact .inl rfl
def shp (d : D) : Bool := d.pln && decide (d.dep ≤ 64)
theorem shp_of {d : D} (h : shp d = true) : d.pln = true ∧ d.dep ≤ 64 := by
  unfold shp at h
  rw [Bool.and_eq_true] at h
  exact ⟨h.1, of_decide_eq_true h.2⟩
/-- data that may be changed, or may not, is read alike -/
theorem peek_dp {G : Gs} {w : Wd} {H : Hp} {d : D} {v : V} (r : Rep G w H) (hd : Dat G w H d v) (h : shp (peek w.μ d) = true) : Dp G.K H v (peek w.μ d).pd ∧ SeqAt.shaped (peek w.μ d).pd = true := by
  obtain ⟨h1, h2⟩ := shp_of h
  rcases peek_cases w.μ d with e | ⟨k, xs, rfl, h3, e⟩
  · rw [e] at h1 h2 ⊢
    exact pd_shaped h1 hd h2
  · obtain ⟨a, vs, rfl, q1, q2⟩ := loc_lst r hd h3
    rw [e] at h1 h2 ⊢
    have h1' := h1
    simp only [D.pln] at h1'
    obtain ⟨q3, q4⟩ := pds_dp xs vs h1' q2
    refine ⟨by simp only [D.pd]; exact .lst (SqL.of q1) q3, ?_⟩
    unfold SeqAt.shaped
    rw [pd_dep _ h1]
    simp only [D.pd, PyData.canLay0, q4]
    simpa using h2
def flat : D → Bool
  | .non => true
  | .bl _ => true
  | .int _ => true
  | .str _ => true
  | _ => false
def gEq (μ : Mu) (a b : D) : Option D := if shp (peek μ a) = true ∧ shp (peek μ b) = true then some (.bl (D.eqv (peek μ a) (peek μ b))) else none
def gNe (μ : Mu) (a b : D) : Option D := if shp (peek μ a) = true ∧ shp (peek μ b) = true then some (.bl (!D.eqv (peek μ a) (peek μ b))) else none
section
variable {G : Gs} {X : Cx}
theorem op_eqG (hK : X.K = G.K) (hu : X.A.units + 64 < cLine) : OpR X (compareOp .Eq) (rD G gEq) := by
  refine (op_eqD hu).imp fun x y H Q ⟨w, a, b, d, r, da, db, g, q⟩ => ?_
  unfold gEq at g
  split at g
  · rename_i h
    cases g
    obtain ⟨h1, h2⟩ := peek_dp r da h.1
    obtain ⟨h3, h4⟩ := peek_dp r db h.2
    refine ⟨_, _, by rw [hK]; exact h1, by rw [hK]; exact h3, h2, h4, ?_⟩
    rw [pd_eqv _ _ (shp_of h.1).1 (shp_of h.2).1]
    exact q w H _ (Ext.refl _ _) r rfl (by simp [Dat])
  · cases g
theorem op_neG (hK : X.K = G.K) (hu : X.A.units + 64 < cLine) : OpR X (compareOp .NotEq) (rD G gNe) := by
  refine (op_neD hu).imp fun x y H Q ⟨w, a, b, d, r, da, db, g, q⟩ => ?_
  unfold gNe at g
  split at g
  · rename_i h
    cases g
    obtain ⟨h1, h2⟩ := peek_dp r da h.1
    obtain ⟨h3, h4⟩ := peek_dp r db h.2
    refine ⟨_, _, by rw [hK]; exact h1, by rw [hK]; exact h3, h2, h4, ?_⟩
    rw [pd_eqv _ _ (shp_of h.1).1 (shp_of h.2).1]
    exact q w H _ (Ext.refl _ _) r rfl (by simp [Dat])
  · cases g
end
end DL

set_option Elab.async false
set_option linter.all false
set_option maxRecDepth 100000
set_option maxHeartbeats 4000000
/-! DL4: the operations: in, order, arithmetic, items, slices, lengths, types. -/
namespace DL
open PySem L2 PySem.Spec

/-- the data that a list or a tuple holds, whether it may be changed or not -/
theorem peek_lst {G : Gs} {w : Wd} {H : Hp} {d : D} {v : V} {xs : List D} (r : Rep G w H) (hd : Dat G w H d v) (h : peek w.μ d = .lst xs) : ∃ a vs, v = .ref a ∧ H a = some (.lst vs) ∧ Dats G w H xs vs := by
  rcases peek_cases w.μ d with e | ⟨k, ys, rfl, h3, e⟩
  · rw [e] at h
    subst h
    simp only [Dat] at hd
    obtain ⟨a, vs, h1, h2, h3⟩ := hd
    exact ⟨a, vs, h1, h2.1, h3⟩
  · rw [e] at h
    cases h
    exact loc_lst r hd h3
theorem peek_id {μ : Mu} {d e : D} (h : peek μ d = e) (hl : ∀ xs, e ≠ .lst xs) : d = e := by
  rcases peek_cases μ d with q | ⟨k, ys, rfl, h3, q⟩
  · rw [← q, h]
  · rw [q] at h
    exact absurd h.symm (hl _)
theorem tup_dat {G : Gs} {w : Wd} {H : Hp} {v : V} {xs : List D} (hd : Dat G w H (.tup xs) v) : ∃ a vs, v = .ref a ∧ TupAt G.K w H a vs ∧ Dats G w H xs vs := by
  simpa only [Dat] using hd
theorem str_dat {G : Gs} {w : Wd} {H : Hp} {v : V} {s : List Nat} (hd : Dat G w H (.str s) v) : v = .str ⟨s.toArray⟩ ∧ okS s = true := by
  simpa only [Dat] using hd
theorem int_dat {G : Gs} {w : Wd} {H : Hp} {v : V} {i : Int} (hd : Dat G w H (.int i) v) : v = .int i := by
  simpa only [Dat] using hd
theorem bl_dat {G : Gs} {w : Wd} {H : Hp} {v : V} {b : Bool} (hd : Dat G w H (.bl b) v) : v = .bl b := by
  simpa only [Dat] using hd
theorem dat_int (G : Gs) (w : Wd) (H : Hp) (i : Int) : Dat G w H (.int i) (.int i) := by simp [Dat]
theorem dat_bl (G : Gs) (w : Wd) (H : Hp) (b : Bool) : Dat G w H (.bl b) (.bl b) := by simp [Dat]
theorem dat_str {G : Gs} {w : Wd} {H : Hp} {s : List Nat} (h : okS s = true) : Dat G w H (.str s) (.str ⟨s.toArray⟩) := by simp [Dat, h]

/-! ### in -/
def memD (x : D) (ys : List D) : Bool := ys.any fun y => D.eqv y x
def inD (neg : Bool) (μ : Mu) (a b : D) : Option D := match peek μ b with
  | .lst ys => if shp (peek μ a) = true ∧ shp (.lst ys) = true then some (.bl (neg ^^ memD (peek μ a) ys)) else none
  | .tup ys => if shp (peek μ a) = true ∧ shp (.tup ys) = true then some (.bl (neg ^^ memD (peek μ a) ys)) else none
  | .str t => match a with
    | .str [c] => some (.bl (neg ^^ decide (c ∈ t)))
    | _ => none
  | .dct kvs => match a with
    | .str s => some (.bl (neg ^^ (dlook kvs s).isSome))
    | _ => none
  | _ => none
theorem any_pds {x : D} (hx : x.pln = true) : ∀ ys : List D, D.plns ys = true → ((D.pds ys).any fun z => PyData.eqv z x.pd) = memD x ys
  | [], _ => by simp [D.pds, memD]
  | y :: ys, h => by
    simp only [D.plns, Bool.and_eq_true] at h
    have := any_pds hx ys h.2
    simp only [memD] at this ⊢
    simp only [D.pds, List.any_cons]
    rw [pd_eqv y x h.1 hx, this]
section
variable {G : Gs} {X : Cx}
theorem op_inG (hK : X.K = G.K) (hW : X.w = G.W) (hu : X.A.units + 65 < cLine) : OpR X (compareOp .In) (rD G (inD false)) := by
  intro pins s σ H x y v u Q I rx ry ⟨w, a, b, d, r, da, db, g, q⟩
  unfold inD at g
  have done : ∀ c, d = .bl c → EP X pins σ Q (.bool c) s := fun c e => by
    subst e
    exact ⟨.bl c, H, I, rfl, q w H _ (Ext.refl _ _) r rfl (dat_bl _ _ _ _)⟩
  split at g
  · rename_i ys e
    split at g
    · rename_i h
      cases g
      obtain ⟨h1, h2⟩ := peek_dp r da h.1
      have hb : shp (peek w.μ b) = true := by rw [e]; exact h.2
      obtain ⟨h3, h4⟩ := peek_dp r db hb
      rw [e] at h3 h4
      simp only [D.pd] at h3 h4
      obtain ⟨as, r1⟩ := Dp.reads I _ x v (by rw [hK]; exact h1) rx
      obtain ⟨bs, r2⟩ := Dp.reads I _ y u (by rw [hK]; exact h3) ry
      refine SeqAt.in_list_reads r2 r1 (SeqAt.canLay_of_shaped h4) (SeqAt.canLay_of_shaped h2) (PyProof.Rows.room_in_shaped h2 hu) ?_
      rw [any_pds (shp_of h.1).1 ys (by simpa only [D.pln] using (shp_of h.2).1)]
      exact done _ (by simp)
    · cases g
  · rename_i ys e
    split at g
    · rename_i h
      cases g
      obtain ⟨h1, h2⟩ := peek_dp r da h.1
      have hb : shp (peek w.μ b) = true := by rw [e]; exact h.2
      obtain ⟨h3, h4⟩ := peek_dp r db hb
      rw [e] at h3 h4
      simp only [D.pd] at h3 h4
      obtain ⟨as, r1⟩ := Dp.reads I _ x v (by rw [hK]; exact h1) rx
      obtain ⟨bs, r2⟩ := Dp.reads I _ y u (by rw [hK]; exact h3) ry
      refine SeqAt.in_tuple_reads r2 r1 (SeqAt.canLay_of_shaped h4) (SeqAt.canLay_of_shaped h2) (PyProof.Rows.room_in_shaped h2 hu) ?_
      rw [any_pds (shp_of h.1).1 ys (by simpa only [D.pln] using (shp_of h.2).1)]
      exact done _ (by simp)
    · cases g
  · rename_i t e
    split at g
    · rename_i c
      cases g
      have e2 := peek_id e (fun _ z => by cases z)
      subst e2
      obtain ⟨rfl, _⟩ := str_dat da
      obtain ⟨rfl, _⟩ := str_dat db
      refine op_in_sign pins s σ H _ _ v u Q I rx ry ⟨c, _, rfl, rfl, ?_⟩
      exact q w H _ (Ext.refl _ _) r rfl (by simp [Dat])
    · cases g
  · rename_i kvs e
    split at g
    · rename_i s0
      cases g
      have e2 := peek_id e (fun _ z => by cases z)
      subst e2
      obtain ⟨rfl, _⟩ := str_dat da
      simp only [Dat] at db
      obtain ⟨⟨p, rfl, hd⟩, _⟩ := db
      rcases hd with ⟨kv, h1, _, h3⟩ | ⟨es, n, KD, h3⟩
      · obtain rfl : u = Value.ref p := ry
        refine d_in (by omega) I (.inl ⟨kv, .inr ⟨s0.toArray⟩, .inl h1, rfl, rfl⟩) rx fun s' I' => ?_
        rw [h3, Option.isSome_map]
        exact ⟨.bl _, H, I', rfl, q w H _ (Ext.refl _ _) r rfl (by simp [Dat])⟩
      · obtain ⟨r0, h4, h5⟩ := h3 s0
        have KD' : KDict X.K X.w p es n := by
          rw [hK, hW]
          exact KD
        refine op_in_kd KD' pins s σ H _ _ v u Q I rx ry ⟨_, r0, rfl, rfl, by rw [hK]; exact h4, ?_⟩
        refine q w H _ (Ext.refl _ _) r rfl ?_
        have e5 : r0.isSome = (dlook kvs s0).isSome := by
          cases hq : dlook kvs s0 with
          | none =>
            rw [hq] at h5
            simp only at h5
            rw [h5]
            rfl
          | some s1 =>
            rw [hq] at h5
            obtain ⟨u0, h6, _⟩ := h5
            rw [h6]
            rfl
        rw [e5]
        simp [Dat]
    · cases g
  · cases g
theorem op_notInG (hK : X.K = G.K) (hW : X.w = G.W) (hu : X.A.units + 65 < cLine) : OpR X (compareOp .NotIn) (rD G (inD true)) := by
  intro pins s σ H x y v u Q I rx ry ⟨w, a, b, d, r, da, db, g, q⟩
  unfold inD at g
  have done : ∀ c, d = .bl c → EP X pins σ Q (.bool c) s := fun c e => by
    subst e
    exact ⟨.bl c, H, I, rfl, q w H _ (Ext.refl _ _) r rfl (dat_bl _ _ _ _)⟩
  split at g
  · rename_i ys e
    split at g
    · rename_i h
      cases g
      obtain ⟨h1, h2⟩ := peek_dp r da h.1
      have hb : shp (peek w.μ b) = true := by rw [e]; exact h.2
      obtain ⟨h3, h4⟩ := peek_dp r db hb
      rw [e] at h3 h4
      simp only [D.pd] at h3 h4
      obtain ⟨as, r1⟩ := Dp.reads I _ x v (by rw [hK]; exact h1) rx
      obtain ⟨bs, r2⟩ := Dp.reads I _ y u (by rw [hK]; exact h3) ry
      refine SeqAt.notIn_list_reads r2 r1 (SeqAt.canLay_of_shaped h4) (SeqAt.canLay_of_shaped h2) (PyProof.Rows.room_in_shaped h2 hu) ?_
      rw [any_pds (shp_of h.1).1 ys (by simpa only [D.pln] using (shp_of h.2).1)]
      exact done _ (by simp)
    · cases g
  · rename_i ys e
    split at g
    · rename_i h
      cases g
      obtain ⟨h1, h2⟩ := peek_dp r da h.1
      have hb : shp (peek w.μ b) = true := by rw [e]; exact h.2
      obtain ⟨h3, h4⟩ := peek_dp r db hb
      rw [e] at h3 h4
      simp only [D.pd] at h3 h4
      obtain ⟨as, r1⟩ := Dp.reads I _ x v (by rw [hK]; exact h1) rx
      obtain ⟨bs, r2⟩ := Dp.reads I _ y u (by rw [hK]; exact h3) ry
      refine SeqAt.notIn_tuple_reads r2 r1 (SeqAt.canLay_of_shaped h4) (SeqAt.canLay_of_shaped h2) (PyProof.Rows.room_in_shaped h2 hu) ?_
      rw [any_pds (shp_of h.1).1 ys (by simpa only [D.pln] using (shp_of h.2).1)]
      exact done _ (by simp)
    · cases g
  · rename_i t e
    split at g
    · rename_i c
      cases g
      have e2 := peek_id e (fun _ z => by cases z)
      subst e2
      obtain ⟨rfl, _⟩ := str_dat da
      obtain ⟨rfl, _⟩ := str_dat db
      refine op_notIn_sign pins s σ H _ _ v u Q I rx ry ⟨c, _, rfl, rfl, ?_⟩
      exact q w H _ (Ext.refl _ _) r rfl (by simp [Dat])
    · cases g
  · rename_i kvs e
    split at g
    · rename_i s0
      cases g
      have e2 := peek_id e (fun _ z => by cases z)
      subst e2
      obtain ⟨rfl, _⟩ := str_dat da
      simp only [Dat] at db
      obtain ⟨⟨p, rfl, hd⟩, _⟩ := db
      rcases hd with ⟨kv, h1, _, h3⟩ | ⟨es, n, KD, h3⟩
      · obtain rfl : u = Value.ref p := ry
        refine d_notIn (by omega) I (.inl ⟨kv, .inr ⟨s0.toArray⟩, .inl h1, rfl, rfl⟩) rx fun s' I' => ?_
        rw [h3, Option.isSome_map]
        exact ⟨.bl _, H, I', rfl, q w H _ (Ext.refl _ _) r rfl (by simp [Dat])⟩
      · obtain ⟨r0, h4, h5⟩ := h3 s0
        have KD' : KDict X.K X.w p es n := by
          rw [hK, hW]
          exact KD
        refine op_notIn_kd KD' pins s σ H _ _ v u Q I rx ry ⟨_, r0, rfl, rfl, by rw [hK]; exact h4, ?_⟩
        refine q w H _ (Ext.refl _ _) r rfl ?_
        have e5 : r0.isSome = (dlook kvs s0).isSome := by
          cases hq : dlook kvs s0 with
          | none =>
            rw [hq] at h5
            simp only at h5
            rw [h5]
            rfl
          | some s1 =>
            rw [hq] at h5
            obtain ⟨u0, h6, _⟩ := h5
            rw [h6]
            rfl
        rw [e5]
        simp [Dat]
    · cases g
  · cases g

/-! ### ints -/
def gI (C : Int → Int → Bool) (g : Int → Int → D) (_ : Mu) : D → D → Option D
  | .int i, .int j => if C i j = true then some (g i j) else none
  | _, _ => none
theorem gI_of {C : Int → Int → Bool} {g : Int → Int → D} {μ : Mu} {a b d : D} (h : gI C g μ a b = some d) : ∃ i j, a = .int i ∧ b = .int j ∧ C i j = true ∧ d = g i j := by
  unfold gI at h
  split at h
  · split at h
    · cases h
      exact ⟨_, _, rfl, rfl, by assumption, rfl⟩
    · cases h
  · cases h
def yes2 : Int → Int → Bool := fun _ _ => true
def gLt := gI yes2 fun i j => .bl (decide (i < j))
def gLe := gI yes2 fun i j => .bl (decide (i ≤ j))
def gGt := gI yes2 fun i j => .bl (decide (j < i))
def gGe := gI yes2 fun i j => .bl (decide (j ≤ i))
def gSub := gI yes2 fun i j => .int (i - j)
def gDiv := gI (fun _ j => decide (0 < j ∧ j < 1073741824)) fun i j => .int (i / j)
def gMod := gI (fun _ j => decide (0 < j)) fun i j => .int (i % j)
def gPow := gI (fun i j => decide (0 ≤ j ∧ j ≤ 1000000 ∧ i.natAbs < 2 ^ 64)) fun i j => .int (i ^ j.toNat)
theorem op_ltG : OpR X (compareOp .Lt) (rD G gLt) := op_lt.imp fun x y H Q ⟨w, a, b, d, r, da, db, g, q⟩ => by
  obtain ⟨i, j, rfl, rfl, _, rfl⟩ := gI_of g
  exact ⟨i, j, int_dat da, int_dat db, q w H _ (Ext.refl _ _) r rfl (dat_bl _ _ _ _)⟩
theorem op_leG : OpR X (compareOp .LtE) (rD G gLe) := op_le.imp fun x y H Q ⟨w, a, b, d, r, da, db, g, q⟩ => by
  obtain ⟨i, j, rfl, rfl, _, rfl⟩ := gI_of g
  exact ⟨i, j, int_dat da, int_dat db, q w H _ (Ext.refl _ _) r rfl (dat_bl _ _ _ _)⟩
theorem op_gtG : OpR X (compareOp .Gt) (rD G gGt) := op_gt.imp fun x y H Q ⟨w, a, b, d, r, da, db, g, q⟩ => by
  obtain ⟨i, j, rfl, rfl, _, rfl⟩ := gI_of g
  exact ⟨i, j, int_dat da, int_dat db, q w H _ (Ext.refl _ _) r rfl (dat_bl _ _ _ _)⟩
theorem op_geG : OpR X (compareOp .GtE) (rD G gGe) := op_ge.imp fun x y H Q ⟨w, a, b, d, r, da, db, g, q⟩ => by
  obtain ⟨i, j, rfl, rfl, _, rfl⟩ := gI_of g
  exact ⟨i, j, int_dat da, int_dat db, q w H _ (Ext.refl _ _) r rfl (dat_bl _ _ _ _)⟩
theorem op_subG : OpR X (binaryOp .Sub) (rD G gSub) := op_sub.imp fun x y H Q ⟨w, a, b, d, r, da, db, g, q⟩ => by
  obtain ⟨i, j, rfl, rfl, _, rfl⟩ := gI_of g
  exact ⟨i, j, int_dat da, int_dat db, q w H _ (Ext.refl _ _) r rfl (dat_int _ _ _ _)⟩
theorem op_divG : OpR X (binaryOp .FloorDiv) (rD G gDiv) := op_fdiv.imp fun x y H Q ⟨w, a, b, d, r, da, db, g, q⟩ => by
  obtain ⟨i, j, rfl, rfl, c, rfl⟩ := gI_of g
  exact ⟨i, j, int_dat da, int_dat db, (of_decide_eq_true c : 0 < j ∧ j < 1073741824), q w H _ (Ext.refl _ _) r rfl (dat_int _ _ _ _)⟩
theorem op_modG : OpR X (binaryOp .Mod) (rD G gMod) := op_mod.imp fun x y H Q ⟨w, a, b, d, r, da, db, g, q⟩ => by
  obtain ⟨i, j, rfl, rfl, c, rfl⟩ := gI_of g
  exact ⟨i, j, int_dat da, int_dat db, of_decide_eq_true c, q w H _ (Ext.refl _ _) r rfl (dat_int _ _ _ _)⟩
theorem op_powG : OpR X (binaryOp .Pow) (rD G gPow) := op_pow.imp fun x y H Q ⟨w, a, b, d, r, da, db, g, q⟩ => by
  obtain ⟨i, j, rfl, rfl, c, rfl⟩ := gI_of g
  exact ⟨i, j, int_dat da, int_dat db, (of_decide_eq_true c : 0 ≤ j ∧ j ≤ 1000000 ∧ i.natAbs < 2 ^ 64), q w H _ (Ext.refl _ _) r rfl (dat_int _ _ _ _)⟩

/-! ### +, * -/
def gAdd (μ : Mu) (a b : D) : Option D := match peek μ a, peek μ b with
  | .int i, .int j => some (.int (i + j))
  | .str s, .str t => if s.length + t.length ≤ line then some (.str (s ++ t)) else none
  | .tup xs, .tup ys => if xs.length + ys.length ≤ line then some (.tup (xs ++ ys)) else none
  | .lst xs, .lst ys => if xs.length + ys.length ≤ line then some (.lst (xs ++ ys)) else none
  | _, _ => none
theorem okS_append {s t : List Nat} (h : okS s = true) (h' : okS t = true) : okS (s ++ t) = true := by
  unfold okS at *
  rw [List.all_append, h, h']
  rfl
theorem op_addG (hK : X.K = G.K) : OpR X (binaryOp .Add) (rD G gAdd) := by
  refine (op_add.or (op_add_str.or (op_catA.or op_cat))).imp fun x y H Q ⟨w, a, b, d, r, da, db, g, q⟩ => ?_
  unfold gAdd at g
  split at g
  · rename_i i j e1 e2
    cases g
    have e1 := peek_id e1 (fun _ z => by cases z)
    have e2 := peek_id e2 (fun _ z => by cases z)
    subst e1 e2
    exact .inl ⟨i, j, int_dat da, int_dat db, q w H _ (Ext.refl _ _) r rfl (dat_int _ _ _ _)⟩
  · rename_i s t e1 e2
    split at g
    · rename_i hl
      cases g
      have e1 := peek_id e1 (fun _ z => by cases z)
      have e2 := peek_id e2 (fun _ z => by cases z)
      subst e1 e2
      obtain ⟨rfl, o1⟩ := str_dat da
      obtain ⟨rfl, o2⟩ := str_dat db
      refine .inr (.inl ⟨_, _, rfl, rfl, ?_, ?_⟩)
      · show s.toArray.size + t.toArray.size ≤ sizeLine
        rw [line_eq]
        simpa using hl
      · refine q w H _ (Ext.refl _ _) r rfl ?_
        have e : (⟨s.toArray⟩ : Str) ++ ⟨t.toArray⟩ = ⟨(s ++ t).toArray⟩ := by
          show (⟨s.toArray ++ t.toArray⟩ : Str) = _
          simp
        rw [e]
        exact dat_str (okS_append o1 o2)
    · cases g
  · rename_i xs ys e1 e2
    split at g
    · rename_i hl
      cases g
      have e1 := peek_id e1 (fun _ z => by cases z)
      have e2 := peek_id e2 (fun _ z => by cases z)
      subst e1 e2
      obtain ⟨p, vs, rfl, h1, h2⟩ := tup_dat da
      obtain ⟨p', us, rfl, h3, h4⟩ := tup_dat db
      refine .inr (.inr (.inl ⟨p, p', vs, us, rfl, rfl, by rw [hK]; exact h1.sq, by rw [hK]; exact h3.sq, by rw [h2.length, h4.length, line_eq]; exact hl, fun z => ?_, fun _ z => ?_, fun _ _ p2 hp => ?_⟩))
      · refine q w H _ (Ext.refl _ _) r rfl ?_
        have : xs = [] := by
          have := h2.length
          rw [z] at this
          exact List.eq_nil_of_length_eq_zero this.symm
        rw [this]
        exact db
      · refine q w H _ (Ext.refl _ _) r rfl ?_
        have : ys = [] := by
          have := h4.length
          rw [z] at this
          exact List.eq_nil_of_length_eq_zero this.symm
        rw [this, List.append_nil]
        exact da
      · obtain ⟨n1, n2, n3⟩ := new_tup r (h2.append h4) hp
        exact q w _ _ n1 n2 rfl n3
    · cases g
  · rename_i xs ys e1 e2
    split at g
    · rename_i hl
      cases g
      obtain ⟨p, vs, rfl, h1, h2⟩ := peek_lst r da e1
      obtain ⟨p', us, rfl, h3, h4⟩ := peek_lst r db e2
      refine .inr (.inr (.inr ⟨p, p', vs, us, rfl, rfl, h1, h3, by rw [h2.length, h4.length, line_eq]; exact hl, fun p2 hp => ?_⟩))
      obtain ⟨n1, n2, n3⟩ := new_lst r (h2.append h4) hp
      exact q w _ _ n1 n2 rfl n3
    · cases g
  · cases g
def rep (n : Nat) (xs : List D) : List D := (List.replicate n xs).flatten
theorem Dats.rep {w : Wd} {H : Hp} {xs : List D} {vs : List V} (h : Dats G w H xs vs) : ∀ n : Nat, Dats G w H (rep n xs) (List.replicate n vs).flatten
  | 0 => by simp [DL.rep, Dats]
  | n + 1 => by
    simp only [DL.rep, List.replicate_succ, List.flatten_cons]
    exact h.append (Dats.rep h n)
theorem foldl_rep_nat (l : List Nat) : ∀ (m : Nat) (acc : List Nat), (List.replicate m l.toArray).foldl (· ++ ·) acc.toArray = (acc ++ (List.replicate m l).flatten).toArray
  | 0, acc => by simp
  | m + 1, acc => by
    rw [List.replicate_succ, List.foldl_cons, List.replicate_succ, List.flatten_cons]
    have e : acc.toArray ++ l.toArray = (acc ++ l).toArray := by simp
    rw [e, foldl_rep_nat l m, List.append_assoc]
def rMulS : R2 := fun x y H Q => ∃ (s : List Nat) (j : Int), x = .str ⟨s.toArray⟩ ∧ y = .int j ∧ s ≠ [] ∧ 2 ≤ j ∧ j ≤ 1000 ∧ s.length ≤ 1000 ∧ Q (.str ⟨((List.replicate j.toNat s).flatten).toArray⟩) H
theorem op_mul_txt : OpR X (binaryOp .Mult) rMulS := by
  intro pins s σ H x y v u Q I rx ry h
  obtain ⟨i, j, rfl, rfl, hne, h1, h2, hz, q⟩ := h
  obtain ⟨t, rfl⟩ := rx
  obtain ⟨t', rfl⟩ := ry
  have hl : (⟨i.toArray⟩ : Str).length = i.length := by
    show i.toArray.size = i.length
    simp
  have hpos : 0 < i.length := List.length_pos_iff.mpr hne
  have hj1 : (j == 1) = false := by
    rw [beq_eq_false_iff_ne]
    omega
  have e : Txt.mul ⟨i.toArray⟩ j = ⟨((List.replicate j.toNat i).flatten).toArray⟩ := by
    unfold Txt.mul
    have n1 : ¬ j < 1 := by omega
    have n2 : (j == 1 || (⟨i.toArray⟩ : Str).length == 0) = false := by
      rw [hj1, hl, Bool.false_or, beq_eq_false_iff_ne]
      omega
    rw [if_neg n1, n2]
    simp only [Bool.false_eq_true, if_false]
    congr 1
    have := foldl_rep_nat i j.toNat []
    simpa using this
  refine SB.mul ⟨?_, fun _ _ => ?_, fun _ _ => ?_⟩ fun t' k => ⟨.str ⟨((List.replicate j.toNat i).flatten).toArray⟩, H, I.tok _, ⟨_, by rw [e]⟩, q⟩
  · rw [decide_eq_false (by omega), decide_eq_false (by omega)]
    rfl
  · rw [hl]
    have : (1000 : Int) ≤ (2 ^ 63 - 1) / j := Int.le_ediv_of_mul_le (by omega) (by omega)
    omega
  · rw [hl]
    have : i.length * j.toNat ≤ 1000 * 1000 := Nat.mul_le_mul hz (by omega)
    unfold Builtin.Str.tooLong
    rw [decide_eq_false]
    rw [show sizeLine = 16777216 from sizeLine_eq]
    omega
theorem okS_rep {s : List Nat} (h : okS s = true) (n : Nat) : okS (List.replicate n s).flatten = true := by
  unfold okS at *
  rw [List.all_eq_true] at *
  intro x hx
  rw [List.mem_flatten] at hx
  obtain ⟨l, hl, hx⟩ := hx
  rw [List.mem_replicate] at hl
  exact h x (hl.2 ▸ hx)
def gMul (μ : Mu) (a b : D) : Option D := match peek μ a, b with
  | .int i, .int j => if (-(2 ^ 64) < i ∧ i < 2 ^ 64) ∨ (-(2 ^ 64) < j ∧ j < 2 ^ 64) then some (.int (i * j)) else none
  | .tup xs, .int j => if xs ≠ [] ∧ 2 ≤ j ∧ j ≤ 1000 ∧ xs.length ≤ 1000 then some (.tup (rep j.toNat xs)) else none
  | .lst xs, .int j => if -(2 ^ 63) ≤ j ∧ j < 2 ^ 63 ∧ xs.length * j.toNat ≤ line then some (.lst (rep j.toNat xs)) else none
  | .str s, .int j => if s ≠ [] ∧ 2 ≤ j ∧ j ≤ 1000 ∧ s.length ≤ 1000 then some (.str (List.replicate j.toNat s).flatten) else none
  | _, _ => none
theorem op_mulG (hK : X.K = G.K) : OpR X (binaryOp .Mult) (rD G gMul) := by
  refine (op_mul.or (op_repT.or (op_rep.or op_mul_txt))).imp fun x y H Q ⟨w, a, b, d, r, da, db, g, q⟩ => ?_
  unfold gMul at g
  split at g
  · rename_i i j e1
    split at g
    · rename_i hc
      cases g
      have e1 := peek_id e1 (fun _ z => by cases z)
      subst e1
      exact .inl ⟨i, j, int_dat da, int_dat db, hc, q w H _ (Ext.refl _ _) r rfl (dat_int _ _ _ _)⟩
    · cases g
  · rename_i xs j e1
    split at g
    · rename_i hc
      cases g
      have e1 := peek_id e1 (fun _ z => by cases z)
      subst e1
      obtain ⟨p, vs, rfl, h1, h2⟩ := tup_dat da
      refine .inr (.inl ⟨p, j, vs, rfl, int_dat db, by rw [hK]; exact h1.sq, fun z => hc.1 ?_, hc.2.1, hc.2.2.1, by rw [h2.length]; exact hc.2.2.2, fun p2 hp => ?_⟩)
      · have := h2.length
        rw [z] at this
        exact List.eq_nil_of_length_eq_zero this.symm
      · obtain ⟨n1, n2, n3⟩ := new_tup r (h2.rep j.toNat) hp
        exact q w _ _ n1 n2 rfl n3
    · cases g
  · rename_i xs j e1
    split at g
    · rename_i hc
      cases g
      obtain ⟨p, vs, rfl, h1, h2⟩ := peek_lst r da e1
      refine .inr (.inr (.inl ⟨p, j, vs, rfl, int_dat db, h1, hc.1, hc.2.1, by rw [h2.length, line_eq]; exact hc.2.2, fun p2 hp => ?_⟩))
      obtain ⟨n1, n2, n3⟩ := new_lst r (h2.rep j.toNat) hp
      exact q w _ _ n1 n2 rfl n3
    · cases g
  · rename_i s j e1
    split at g
    · rename_i hc
      cases g
      have e1 := peek_id e1 (fun _ z => by cases z)
      subst e1
      obtain ⟨h1, h2⟩ := str_dat da
      exact .inr (.inr (.inr ⟨s, j, h1, int_dat db, hc.1, hc.2.1, hc.2.2.1, hc.2.2.2, q w H _ (Ext.refl _ _) r rfl (dat_str (okS_rep h2 _))⟩))
    · cases g
  · cases g

/-! ### is -/
def isC : D → D → Option Bool
  | a, .non => match a with
    | .non => some true
    | _ => some false
  | a, .bl b => match a with
    | .bl c => some (c == b)
    | .non => some false
    | .int _ => some false
    | .str _ => some false
    | _ => some false
  | _, _ => none
def gIs (_ : Mu) (a b : D) : Option D := (isC a b).map .bl
def gIsNot (_ : Mu) (a b : D) : Option D := (isC a b).map fun k => .bl (!k)
theorem isC_rel {w : Wd} {H : Hp} {a b : D} {x y : V} {v u : Value} {k : Bool} (da : Dat G w H a x) (db : Dat G w H b y) (rx : RelV x v) (ry : RelV y u) (h : isC a b = some k) : plainIs v u = true ∧ (v == u) = k := by
  have key : (u = Value.none ∨ ∃ c, u = Value.bool c) → plainIs v u = true := by
    rintro (rfl | ⟨c, rfl⟩) <;> cases v <;> first | rfl | (exfalso; cases x <;> simp [RelV] at rx)
  cases b with
  | non =>
    simp only [Dat] at db
    subst db
    obtain rfl : u = Value.none := ry
    refine ⟨key (.inl rfl), ?_⟩
    rw [RelV.none_iff rx]
    cases a with
    | non =>
      simp only [Dat] at da
      subst da
      simpa [isC] using h
    | bl _ =>
      simp only [Dat] at da
      subst da
      simpa [isC] using h
    | int _ =>
      simp only [Dat] at da
      subst da
      simpa [isC] using h
    | str _ =>
      simp only [Dat] at da
      obtain ⟨rfl, _⟩ := da
      simpa [isC] using h
    | tup _ =>
      simp only [Dat] at da
      obtain ⟨_, _, rfl, _⟩ := da
      simpa [isC] using h
    | lst _ =>
      simp only [Dat] at da
      obtain ⟨_, _, rfl, _⟩ := da
      simpa [isC] using h
    | fz _ =>
      simp only [Dat] at da
      obtain ⟨_, _, rfl, _⟩ := da
      simpa [isC] using h
    | ob _ =>
      simp only [Dat] at da
      subst da
      simpa [isC] using h
    | ty _ =>
      simp only [Dat] at da
      subst da
      simpa [isC] using h
    | dct _ =>
      simp only [Dat] at da
      obtain ⟨⟨_, rfl, _⟩, _⟩ := da
      simpa [isC] using h
    | exn _ _ =>
      simp only [Dat] at da
      obtain ⟨⟨_, rfl, _⟩, _⟩ := da
      simpa [isC] using h
    | exi _ _ =>
      simp only [Dat] at da
      obtain ⟨_, rfl, _⟩ := da
      simpa [isC] using h
    | loc _ =>
      simp only [Dat] at da
      obtain ⟨_, rfl, _⟩ := da
      simpa [isC] using h
  | bl b =>
    simp only [Dat] at db
    subst db
    obtain rfl : u = Value.bool b := ry
    refine ⟨key (.inr ⟨b, rfl⟩), ?_⟩
    cases a with
    | non =>
      simp only [Dat] at da
      subst da
      obtain rfl : v = Value.none := rx
      have h : false = k := by simpa [isC] using h
      rw [← h]
      exact beq_eq_false_iff_ne.mpr fun z => by cases z
    | bl c =>
      simp only [Dat] at da
      subst da
      obtain rfl : v = Value.bool c := rx
      simp only [isC, Option.some.injEq] at h
      rw [← h]
      cases c <;> cases b <;> decide
    | int _ =>
      simp only [Dat] at da
      subst da
      obtain ⟨t, rfl⟩ := rx
      have h : false = k := by simpa [isC] using h
      rw [← h]
      exact beq_eq_false_iff_ne.mpr fun z => by cases z
    | str _ =>
      simp only [Dat] at da
      obtain ⟨rfl, _⟩ := da
      obtain ⟨t, rfl⟩ := rx
      have h : false = k := by simpa [isC] using h
      rw [← h]
      exact beq_eq_false_iff_ne.mpr fun z => by cases z
    | tup _ =>
      simp only [Dat] at da
      obtain ⟨_, _, rfl, _⟩ := da
      obtain rfl := (show v = Value.ref _ from rx)
      have h : false = k := by simpa [isC] using h
      rw [← h]
      exact beq_eq_false_iff_ne.mpr fun z => by cases z
    | lst _ =>
      simp only [Dat] at da
      obtain ⟨_, _, rfl, _⟩ := da
      obtain rfl := (show v = Value.ref _ from rx)
      have h : false = k := by simpa [isC] using h
      rw [← h]
      exact beq_eq_false_iff_ne.mpr fun z => by cases z
    | fz _ =>
      simp only [Dat] at da
      obtain ⟨_, _, rfl, _⟩ := da
      obtain rfl := (show v = Value.ref _ from rx)
      have h : false = k := by simpa [isC] using h
      rw [← h]
      exact beq_eq_false_iff_ne.mpr fun z => by cases z
    | ob _ =>
      simp only [Dat] at da
      subst da
      obtain rfl := (show v = Value.ref _ from rx)
      have h : false = k := by simpa [isC] using h
      rw [← h]
      exact beq_eq_false_iff_ne.mpr fun z => by cases z
    | ty n =>
      simp only [Dat] at da
      subst da
      obtain rfl := (show v = Value.type n from rx)
      have h : false = k := by simpa [isC] using h
      rw [← h]
      exact beq_eq_false_iff_ne.mpr fun z => by cases z
    | dct _ =>
      simp only [Dat] at da
      obtain ⟨⟨_, rfl, _⟩, _⟩ := da
      obtain rfl := (show v = Value.ref _ from rx)
      have h : false = k := by simpa [isC] using h
      rw [← h]
      exact beq_eq_false_iff_ne.mpr fun z => by cases z
    | exn _ _ =>
      simp only [Dat] at da
      obtain ⟨⟨_, rfl, _⟩, _⟩ := da
      obtain rfl := (show v = Value.ref _ from rx)
      have h : false = k := by simpa [isC] using h
      rw [← h]
      exact beq_eq_false_iff_ne.mpr fun z => by cases z
    | exi _ _ =>
      simp only [Dat] at da
      obtain ⟨_, rfl, _⟩ := da
      obtain rfl := (show v = Value.ref _ from rx)
      have h : false = k := by simpa [isC] using h
      rw [← h]
      exact beq_eq_false_iff_ne.mpr fun z => by cases z
    | loc _ =>
      simp only [Dat] at da
      obtain ⟨_, rfl, _⟩ := da
      obtain rfl := (show v = Value.ref _ from rx)
      have h : false = k := by simpa [isC] using h
      rw [← h]
      exact beq_eq_false_iff_ne.mpr fun z => by cases z
  | _ => simp [isC] at h
theorem op_isG : OpR X (compareOp .Is) (rD G gIs) := by
  intro pins s σ H x y v u Q I rx ry ⟨w, a, b, d, r, da, db, g, q⟩
  unfold gIs at g
  cases e : isC a b with
  | none =>
    rw [e] at g
    cases g
  | some k =>
    rw [e] at g
    cases g
    obtain ⟨h1, h2⟩ := isC_rel da db rx ry e
    exact wpAny_is_plain h1 (by rw [h2]; exact ⟨.bl k, H, I, rfl, q w H _ (Ext.refl _ _) r rfl (dat_bl _ _ _ _)⟩)
theorem op_isNotG : OpR X (compareOp .IsNot) (rD G gIsNot) := by
  intro pins s σ H x y v u Q I rx ry ⟨w, a, b, d, r, da, db, g, q⟩
  unfold gIsNot at g
  cases e : isC a b with
  | none =>
    rw [e] at g
    cases g
  | some k =>
    rw [e] at g
    cases g
    obtain ⟨h1, h2⟩ := isC_rel da db rx ry e
    exact wpAny_isNot_plain h1 (by rw [h2]; exact ⟨.bl (!k), H, I, rfl, q w H _ (Ext.refl _ _) r rfl (dat_bl _ _ _ _)⟩)

/-! ### items, slices, lengths -/
theorem Dats.atI {w : Wd} {H : Hp} {ds : List D} {vs : List V} {i : Int} {d : D} (h : Dats G w H ds vs) (e : L2.atI ds i = some d) : ∃ v, L2.atI vs i = some v ∧ Dat G w H d v := by
  unfold L2.atI at e ⊢
  rw [h.length]
  cases q : ixN ds.length i with
  | none =>
    rw [q] at e
    cases e
  | some j =>
    rw [q] at e
    obtain ⟨v, h1, h2⟩ := h.get (i := j) e
    exact ⟨v, h1, h2⟩
def gIx (μ : Mu) (a b : D) : Option D := match peek μ a, b with
  | .tup xs, .int i => atI xs i
  | .lst xs, .int i => atI xs i
  | .fz xs, .int i => atI xs i
  | .str s, .int i => if s.length ≤ line then (atI s i).map fun c => .str [c] else none
  | .dct kvs, .str s => (dlook kvs s).map .str
  | _, _ => none
theorem atI_mem {α : Type} {xs : List α} {i : Int} {v : α} (h : atI xs i = some v) : v ∈ xs := by
  obtain ⟨j, _, h2, _⟩ := atI_get h
  exact List.mem_of_getElem? h2
theorem fz_dat {w : Wd} {H : Hp} {v : V} {xs : List D} (hd : Dat G w H (.fz xs) v) : ∃ a vs, v = .ref a ∧ SqL G.K H a vs ∧ Dats G w H xs vs := by
  simp only [Dat] at hd
  obtain ⟨a, vs, h1, h2, h3⟩ := hd
  exact ⟨a, vs, h1, h2.sq, h3⟩
theorem dlook_mem {kvs : List (List Nat × List Nat)} {z s : List Nat} (h : dlook kvs z = some s) : ∃ p ∈ kvs, p.2 = s := by
  induction kvs with
  | nil => cases h
  | cons p r ih =>
    unfold dlook at h
    split at h
    · cases h
      exact ⟨p, List.mem_cons_self, rfl⟩
    · obtain ⟨q, hq, e⟩ := ih h
      exact ⟨q, List.mem_cons_of_mem _ hq, e⟩
theorem ix_dk (hu : X.A.units + 1 < cLine) : IxR X (fun x y H Q => ∃ a v, x = .ref a ∧ DGet H a y (some v) ∧ Q v H) := by
  intro value slice pins s σ H x y v u Q I rx ry h hs
  obtain ⟨a, v0, rfl, g, q⟩ := h
  obtain rfl : v = Value.ref a := rx
  exact PyProof.Rows.tail_any (dict_typeIs I g) slot_dict_getitem.lookup (d_getItem hu I g ry fun w' s3 I3 rw' => ⟨v0, H, I3, rw', q⟩) hs
theorem ix_G (hK : X.K = G.K) (hW : X.w = G.W) (hu : X.A.units + 1 < cLine) : IxR X (rD G gIx) := by
  refine ((ix_list.or (ix_tup.or ix_str)).or ((ix_dk hu).or ix_kdict)).imp fun x y H Q ⟨w, a, b, d, r, da, db, g, q⟩ => ?_
  unfold gIx at g
  split at g
  · rename_i xs i e1
    have e1 := peek_id e1 (fun _ z => by cases z)
    subst e1
    obtain ⟨p, vs, rfl, h1, h2⟩ := tup_dat da
    obtain ⟨v, h3, h4⟩ := h2.atI g
    exact .inl (.inr (.inl ⟨p, vs, i, v, rfl, int_dat db, by rw [hK]; exact h1.sq, h3, q w H _ (Ext.refl _ _) r rfl h4⟩))
  · rename_i xs i e1
    obtain ⟨p, vs, rfl, h1, h2⟩ := peek_lst r da e1
    obtain ⟨v, h3, h4⟩ := h2.atI g
    exact .inl (.inl ⟨p, vs, i, v, rfl, int_dat db, SqL.of h1, h3, q w H _ (Ext.refl _ _) r rfl h4⟩)
  · rename_i xs i e1
    have e1 := peek_id e1 (fun _ z => by cases z)
    subst e1
    obtain ⟨p, vs, rfl, h1, h2⟩ := fz_dat da
    obtain ⟨v, h3, h4⟩ := h2.atI g
    exact .inl (.inl ⟨p, vs, i, v, rfl, int_dat db, by rw [hK]; exact h1, h3, q w H _ (Ext.refl _ _) r rfl h4⟩)
  · rename_i s i e1
    have e1 := peek_id e1 (fun _ z => by cases z)
    subst e1
    split at g
    · rename_i hl
      cases e : atI s i with
      | none =>
        rw [e] at g
        cases g
      | some c =>
        rw [e] at g
        cases g
        obtain ⟨rfl, ho⟩ := str_dat da
        refine .inl (.inr (.inr ⟨_, i, c, rfl, int_dat db, ?_, ?_, q w H _ (Ext.refl _ _) r rfl ?_⟩))
        · show s.toArray.size ≤ sizeLine
          rw [line_eq]
          simpa using hl
        · show atI s.toArray.toList i = some c
          rw [List.toList_toArray]
          exact e
        · refine dat_str (s := [c]) ?_
          have := List.all_eq_true.mp ho c (atI_mem e)
          simpa [okS] using this
    · cases g
  · rename_i kvs s0 e1
    have e1 := peek_id e1 (fun _ z => by cases z)
    subst e1
    cases hq : dlook kvs s0 with
    | none =>
      rw [hq] at g
      cases g
    | some s1 =>
      rw [hq] at g
      cases g
      obtain ⟨rfl, _⟩ := str_dat db
      simp only [Dat] at da
      obtain ⟨⟨p, rfl, hd⟩, ho⟩ := da
      obtain ⟨p0, hp0, e0⟩ := dlook_mem hq
      have hs1 : okS s1 = true := by
        rw [← e0]
        exact ho p0 hp0
      rcases hd with ⟨kv, h1, _, h3⟩ | ⟨es, n, KD, h3⟩
      · refine .inr (.inl ⟨p, _, rfl, .inl ⟨kv, .inr ⟨s0.toArray⟩, .inl h1, rfl, ?_⟩, q w H _ (Ext.refl _ _) r rfl (dat_str hs1)⟩)
        rw [h3, hq]
        rfl
      · obtain ⟨r0, h4, h5⟩ := h3 s0
        rw [hq] at h5
        obtain ⟨u0, rfl, h6⟩ := h5
        refine .inr (.inr ⟨p, _, _, rfl, rfl, ⟨es, n, u0, ?_, ?_, ?_, h6⟩, q w H _ (Ext.refl _ _) r rfl (dat_str hs1)⟩)
        · rw [hK]
          exact KD.at_
        · rw [hW]
          exact KD.lit
        · rw [hK]
          exact h4
  · cases g
def gLen (μ : Mu) : List D → Option D
  | [d] => match peek μ d with
    | .tup xs => some (.int xs.length)
    | .lst xs => some (.int xs.length)
    | .fz xs => some (.int xs.length)
    | .str s => if s.length ≤ line then some (.int s.length) else none
    | _ => none
  | _ => none
theorem dats1 {w : Wd} {H : Hp} {d : D} {vs : List V} (h : Dats G w H [d] vs) : ∃ v, vs = [v] ∧ Dat G w H d v := by
  simp only [Dats] at h
  obtain ⟨v, r, rfl, h1, h2⟩ := h
  exact ⟨v, by rw [h2], h1⟩
theorem dats2 {w : Wd} {H : Hp} {d e : D} {vs : List V} (h : Dats G w H [d, e] vs) : ∃ v u, vs = [v, u] ∧ Dat G w H d v ∧ Dat G w H e u := by
  simp only [Dats] at h
  obtain ⟨v, r, rfl, h1, u, r', rfl, h2, h3⟩ := h
  exact ⟨v, u, by rw [h3], h1, h2⟩
theorem call_lenG (hK : X.K = G.K) : CallR X (.builtin "len") (rDs G gLen) := by
  refine call_len.imp fun xs H Q ⟨w, ds, d, r, dd, g, q⟩ => ?_
  unfold gLen at g
  split at g
  · rename_i a
    obtain ⟨v, rfl, da⟩ := dats1 dd
    split at g
    · rename_i xs e1
      cases g
      have e1 := peek_id e1 (fun _ z => by cases z)
      subst e1
      obtain ⟨p, vs, rfl, h1, h2⟩ := tup_dat da
      exact ⟨_, xs.length, rfl, .inr ⟨vs, by rw [hK]; exact h1.sq, h2.length.symm⟩, q w H _ (Ext.refl _ _) r rfl (dat_int _ _ _ _)⟩
    · rename_i xs e1
      cases g
      obtain ⟨p, vs, rfl, h1, h2⟩ := peek_lst r da e1
      exact ⟨_, xs.length, rfl, .inl ⟨vs, SqL.of h1, h2.length.symm⟩, q w H _ (Ext.refl _ _) r rfl (dat_int _ _ _ _)⟩
    · rename_i xs e1
      cases g
      have e1 := peek_id e1 (fun _ z => by cases z)
      subst e1
      obtain ⟨p, vs, rfl, h1, h2⟩ := fz_dat da
      exact ⟨_, xs.length, rfl, .inl ⟨vs, by rw [hK]; exact h1, h2.length.symm⟩, q w H _ (Ext.refl _ _) r rfl (dat_int _ _ _ _)⟩
    · rename_i s e1
      split at g
      · rename_i hl
        cases g
        have e1 := peek_id e1 (fun _ z => by cases z)
        subst e1
        obtain ⟨rfl, ho⟩ := str_dat da
        refine ⟨_, s.length, rfl, ⟨?_, ?_⟩, q w H _ (Ext.refl _ _) r rfl (dat_int _ _ _ _)⟩
        · show s.toArray.size ≤ sizeLine
          rw [line_eq]
          simpa using hl
        · show s.length = s.toArray.size
          simp
      · cases g
    · cases g
  · cases g
end
end DL

set_option Elab.async false
set_option linter.all false
set_option maxRecDepth 100000
set_option maxHeartbeats 4000000
/-! DL5: statements, targets, walks, calls of defs. -/
namespace DL
open PySem L2 PySem.Spec

inductive Out where
  | nx (δ : Env) | ret (d : D) | brk (δ : Env) | cnt (δ : Env) | exc (x : Xc) (δ : Env)
abbrev SM := Mu → Option (Out × Mu)
def nxt (δ : Env) : SM := fun μ => some (.nx δ, μ)
def sB {α : Type} (δ : Env) (m : M α) (k : α → SM) : SM := fun μ => match m μ with
  | none => none
  | some (.ok a, μ') => k a μ'
  | some (.error x, μ') => some (.exc x δ, μ')

def PostS (G : Gs) (W : WX) (D : Ends) (w : Wd) (H : Hp) (r : Option (Out × Mu)) : Prop :=
  match r with
  | none => False
  | some (.nx δ, μ) => ∀ w' H' σ, Ext w w' H H' → Rep G w' H' → w'.μ = μ → EnvR G w' H' δ σ → D.nx σ H'
  | some (.ret d, μ) => ∀ w' H' v, Ext w w' H H' → Rep G w' H' → w'.μ = μ → Dat G w' H' d v → D.rt v H'
  | some (.brk δ, μ) => ∀ w' H' σ, Ext w w' H H' → Rep G w' H' → w'.μ = μ → EnvR G w' H' δ σ → D.bk σ H'
  | some (.cnt δ, μ) => ∀ w' H' σ, Ext w w' H H' → Rep G w' H' → w'.μ = μ → EnvR G w' H' δ σ → D.ct σ H'
  | some (.exc x δ, μ) => ∀ c d w' H' σ, Ext w w' H H' → Rep G w' H' → w'.μ = μ → EnvR G w' H' δ σ → ExcR G w' H' x c d → W c d σ H'
section
variable {α : Type} {G : Gs} {W : WX} {D : Ends} {w w1 : Wd} {H H1 : Hp} {δ : Env} {σ : St}
theorem PostS.ext {r : Option (Out × Mu)} (h : PostS G W D w H r) (e : Ext w w1 H H1) : PostS G W D w1 H1 r := by
  cases r with
  | none => exact h
  | some q =>
    obtain ⟨o, μ⟩ := q
    cases o with
    | nx δ => exact fun w' H' σ e' r m en => h w' H' σ (e.trans e') r m en
    | ret d => exact fun w' H' v e' r m dv => h w' H' v (e.trans e') r m dv
    | brk δ => exact fun w' H' σ e' r m en => h w' H' σ (e.trans e') r m en
    | cnt δ => exact fun w' H' σ e' r m en => h w' H' σ (e.trans e') r m en
    | exc x δ => exact fun c d w' H' σ e' r m en z => h c d w' H' σ (e.trans e') r m en z
theorem PostS.sB {m : M α} {k : α → SM} {μ : Mu} (en : EnvR G w H δ σ) (h : PostS G W D w H (sB δ m k μ)) : Post G (WAt W σ) w H (m μ) (fun a w' H' => PostS G W D w' H' (k a w'.μ)) := by
  unfold DL.sB at h
  cases e : m μ with
  | none =>
    rw [e] at h
    exact h
  | some q =>
    rw [e] at h
    obtain ⟨q, μ'⟩ := q
    cases q with
    | ok a =>
      have h : PostS G W D w H (k a μ') := h
      refine fun w' H' e' r m => ?_
      show PostS G W D w' H' (k a w'.μ)
      rw [m]
      exact h.ext e'
    | error x => exact fun c d w' H' e' r m z => h c d w' H' σ e' r m (en.ext e'.toSub) z
theorem PostS.nxt (r : Rep G w H) (en : EnvR G w H δ σ) (h : PostS G W D w H (some (.nx δ, w.μ))) : D.nx σ H := h w H σ (Ext.refl _ _) r rfl en
end

/-! ### readings of statements -/
def sD (G : Gs) (W : WX) (f : Env → SM) : TS := fun D σ H => ∃ w δ, Rep G w H ∧ EnvR G w H δ σ ∧ PostS G W D w H (f δ w.μ)
abbrev DS (G : Gs) (W : WX) (X : Cx) (st : Stmt) (f : Env → SM) : Prop := PS X st (sD G W f)
abbrev DSs (G : Gs) (W : WX) (X : Cx) (st : List Stmt) (f : Env → SM) : Prop := PSs X st (sD G W f)
section
variable {G : Gs} {W : WX} {X : Cx} {e : Expr} {st : Stmt} {sts : List Stmt} {fe : Env → M D} {f f' : Env → SM} {pos : Pos}
theorem sE_of' {w : Wd} {H : Hp} {δ : Env} {σ : St} {Dd : Ends} {k : D → SM} {R : VK} (r : Rep G w H) (en : EnvR G w H δ σ) (h : PostS G W Dd w H (sB δ (fe δ) k w.μ))
    (hR : ∀ d v w1 H1, Ext w w1 H H1 → Rep G w1 H1 → EnvR G w1 H1 δ σ → Dat G w1 H1 d v → PostS G W Dd w1 H1 (k d w1.μ) → R v H1) : tE G W fe σ H R :=
  ⟨w, δ, r, en, (h.sB en).mono fun d w1 H1 e r1 p v dv => hR d v w1 H1 e r1 (en.ext e.toSub) dv p⟩
theorem sT_of {ft : Env → M Bool} {w : Wd} {H : Hp} {δ : Env} {σ : St} {Dd : Ends} {k : Bool → SM} {R : Bool → Hp → Prop} (r : Rep G w H) (en : EnvR G w H δ σ) (h : PostS G W Dd w H (sB δ (ft δ) k w.μ))
    (hR : ∀ b w1 H1, Ext w w1 H H1 → Rep G w1 H1 → EnvR G w1 H1 δ σ → PostS G W Dd w1 H1 (k b w1.μ) → R b H1) : tT G W ft σ H R :=
  ⟨w, δ, r, en, (h.sB en).mono fun b w1 H1 e r1 p => hR b w1 H1 e r1 (en.ext e.toSub) p⟩
theorem dss_nil : DSs G W X [] nxt := pss_nil.imp fun Dd σ H ⟨w, δ, r, en, p⟩ => p.nxt r en
def fSeq (f f' : Env → SM) : Env → SM := fun δ μ => match f δ μ with
  | some (.nx δ', μ') => f' δ' μ'
  | r => r
theorem dss_cons (h1 : DS G W X st f) (h2 : DSs G W X sts f') : DSs G W X (st :: sts) (fSeq f f') := by
  refine (pss_cons h1 h2).imp fun Dd σ H ⟨w, δ, r, en, p⟩ => ⟨w, δ, r, en, ?_⟩
  unfold fSeq at p
  cases q : f δ w.μ with
  | none =>
    rw [q] at p
    exact p
  | some z =>
    rw [q] at p
    obtain ⟨o, μ⟩ := z
    cases o with
    | nx δ' =>
      have p : PostS G W Dd w H (f' δ' μ) := p
      exact fun w' H' σ' e' r' m' en' => ⟨w', δ', r', en', by rw [m']; exact p.ext e'⟩
    | ret d => exact p
    | brk δ => exact p
    | cnt δ => exact p
    | exc x δ => exact p
theorem ds_pass : DS G W X (.Pass pos) nxt := ps_pass.imp fun Dd σ H ⟨w, δ, r, en, p⟩ => p.nxt r en
theorem ds_doc {x : Str} {j pos'} : DS G W X (.Expr (.Constant (.str x) j pos) pos') nxt := ps_doc.imp fun Dd σ H ⟨w, δ, r, en, p⟩ => p.nxt r en
theorem ds_break : DS G W X (.Break pos) (fun δ μ => some (.brk δ, μ)) := ps_break.imp fun Dd σ H ⟨w, δ, r, en, p⟩ => p w H σ (Ext.refl _ _) r rfl en
theorem ds_continue : DS G W X (.Continue pos) (fun δ μ => some (.cnt δ, μ)) := ps_continue.imp fun Dd σ H ⟨w, δ, r, en, p⟩ => p w H σ (Ext.refl _ _) r rfl en
def fRet (fe : Env → M D) : Env → SM := fun δ => sB δ (fe δ) fun d μ => some (.ret d, μ)
theorem ds_ret (he : DE G W X e fe) : DS G W X (.Return (some e) pos) (fRet fe) := by
  refine (ps_ret he).imp fun Dd σ H ⟨w, δ, r, en, p⟩ => ?_
  exact sE_of' r en p fun d v w1 H1 e1 r1 en1 dv p1 => p1 w1 H1 v (Ext.refl _ _) r1 rfl dv
theorem ds_retN : DS G W X (.Return none pos) (fun _ μ => some (.ret .non, μ)) := ps_retN.imp fun Dd σ H ⟨w, δ, r, en, p⟩ => p w H _ (Ext.refl _ _) r rfl (by simp [Dat])
def fDrop (fe : Env → M D) : Env → SM := fun δ => sB δ (fe δ) fun _ => nxt δ
theorem ds_expr (he : DE G W X e fe) (hs : swapsWith e none pos.line X.env = pure false) : DS G W X (.Expr e pos) (fDrop fe) := by
  refine (ps_expr he hs).imp fun Dd σ H ⟨w, δ, r, en, p⟩ => ?_
  exact sE_of' r en p fun d v w1 H1 e1 r1 en1 dv p1 => p1.nxt r1 en1
def fIte (ft : Env → M Bool) (f f' : Env → SM) : Env → SM := fun δ => sB δ (ft δ) fun b => if b = true then f δ else f' δ
theorem ds_if {c : Expr} {a b : List Stmt} {ft : Env → M Bool} (hc : DT G W X c ft) (ha : DSs G W X a f) (hb : DSs G W X b f') : DS G W X (.If c a b pos) (fIte ft f f') := by
  refine (ps_if hc ha hb).imp fun Dd σ H ⟨w, δ, r, en, p⟩ => ?_
  refine sT_of r en p fun b w1 H1 e1 r1 en1 p1 => ?_
  cases b with
  | true => exact iteT ⟨w1, δ, r1, en1, p1⟩
  | false => exact iteF ⟨w1, δ, r1, en1, p1⟩

/-! ### targets -/
abbrev GF := Mu → D → Env → Option Env
/-- alike but at the places ix -/
structure Agr (ix : List Nat) (σ σ' : St) : Prop where
  len : σ'.length = σ.length
  at_ : ∀ j, j ∉ ix → σ'[j]? = σ[j]?
theorem Agr.trans {ix ix' : List Nat} {σ σ1 σ2 : St} (a : Agr ix σ σ1) (b : Agr ix' σ1 σ2) : Agr (ix ++ ix') σ σ2 :=
  ⟨b.len.trans a.len, fun j h => (b.at_ j fun z => h (List.mem_append_right _ z)).trans (a.at_ j fun z => h (List.mem_append_left _ z))⟩
def gD (G : Gs) (ix : List Nat) (g : GF) : TG := fun v σ H Q => ∃ w δ d δ', Rep G w H ∧ EnvR G w H δ σ ∧ Dat G w H d v ∧ g w.μ d δ = some δ' ∧ ∀ σ', EnvR G w H δ' σ' → Agr ix σ σ' → Q σ' H
def gDs (G : Gs) (ix : List Nat) (g : Mu → List D → Env → Option Env) : TGs := fun vs σ H Q => ∃ w δ ds δ', Rep G w H ∧ EnvR G w H δ σ ∧ Dats G w H ds vs ∧ g w.μ ds δ = some δ' ∧ ∀ σ', EnvR G w H δ' σ' → Agr ix σ σ' → Q σ' H
abbrev DG (G : Gs) (X : Cx) (tg : Expr) (ix : List Nat) (g : GF) : Prop := PG X tg (gD G ix g)
abbrev DGs (G : Gs) (X : Cx) (tgs : List Expr) (ix : List Nat) (g : Mu → List D → Env → Option Env) : Prop := PGs X tgs (gDs G ix g)
theorem _root_.L2.PG.imp {X : Cx} {e : Expr} {t t' : TG} (h : PG X e t) (k : ∀ v σ H Q, t' v σ H Q → t v σ H Q) : PG X e t' := ⟨fun pins s σ H v u Q I r q => h.run pins s σ H v u Q I r (k v σ H Q q)⟩
theorem _root_.L2.PGs.imp {X : Cx} {es : List Expr} {t t' : TGs} (h : PGs X es t) (k : ∀ v σ H Q, t' v σ H Q → t v σ H Q) : PGs X es t' := ⟨fun pins s σ H v u Q I r q => h.run pins s σ H v u Q I r (k v σ H Q q)⟩
def tgN (i : Nat) : GF := fun _ d δ => some (δ.set i (some d))
theorem dg_name {i : Nat} {x : Str} (hN : X.N.Nodup) (hi : X.N[i]? = some x) (hx : Loc X.env.scope x) (hf : X.fn x = true ∨ X.env.scope.names.lookup x = some .local) : DG G X (.Name x pos) [i] (tgN i) := by
  refine (pg_name hN hi hx hf).imp fun v σ H Q ⟨w, δ, d, δ', r, en, dv, g, q⟩ => ?_
  cases g
  exact q _ (en.set i dv) ⟨by simp, fun j hj => by rw [List.getElem?_set_ne fun z => hj (by simp [z])]⟩
def tgsN : Mu → List D → Env → Option Env := fun _ ds δ => match ds with
  | [] => some δ
  | _ => none
def tgsC (g : GF) (g' : Mu → List D → Env → Option Env) : Mu → List D → Env → Option Env := fun μ ds δ => match ds with
  | [] => none
  | d :: r => (g μ d δ).bind fun δ' => g' μ r δ'
theorem dgs_nil : DGs G X [] [] tgsN := pgs_nil.imp fun vs σ H Q ⟨w, δ, ds, δ', r, en, dv, g, q⟩ => by
  unfold tgsN at g
  split at g
  · cases g
    simp only [Dats] at dv
    exact ⟨dv, q _ en ⟨rfl, fun _ _ => rfl⟩⟩
  · cases g
theorem dgs_cons {es : List Expr} {ix ix' : List Nat} {g : GF} {g' : Mu → List D → Env → Option Env} (h1 : DG G X e ix g) (h2 : DGs G X es ix' g') (hs : (assignEach (e :: es) X.env).map (·.2) = assign e X.env :: (assignEach es X.env).map (·.2)) : DGs G X (e :: es) (ix ++ ix') (tgsC g g') := by
  refine (pgs_cons h1 h2 hs).imp fun vs σ H Q ⟨w, δ, ds, δ', r, en, dv, gg, q⟩ => ?_
  unfold tgsC at gg
  split at gg
  · cases gg
  · rename_i d ds
    simp only [Dats] at dv
    obtain ⟨v, vr, rfl, d1, d2⟩ := dv
    cases e1 : g w.μ d δ with
    | none =>
      rw [e1] at gg
      cases gg
    | some δ1 =>
      rw [e1] at gg
      exact ⟨v, vr, rfl, w, δ, d, δ1, r, en, d1, e1, fun σ1 en1 a1 => ⟨w, δ1, ds, δ', r, en1, d2, gg, fun σ2 en2 a2 => q σ2 en2 (a1.trans a2)⟩⟩
def tgT (n : Nat) (g : Mu → List D → Env → Option Env) : GF := fun μ d δ => match d with
  | .tup ds => if ds.length = n then g μ ds δ else none
  | _ => none
theorem dg_tup {es : List Expr} {k : Nat} {ix : List Nat} {g : Mu → List D → Env → Option Env} {n : Nat} (hK : X.K = G.K) (hc : X.calm = true) (h : DGs G X es ix g) (hn : (assignEach es X.env).length = n) (hst : (assignEach es X.env).findIdx? (·.1) = none) : DG G X (.Tuple es k pos) ix (tgT n g) := by
  refine (pg_tup hc h hn hst).imp fun v σ H Q ⟨w, δ, d, δ', r, en, dv, gg, q⟩ => ?_
  unfold tgT at gg
  split at gg
  · rename_i ds
    split at gg
    · rename_i hl
      obtain ⟨a, vs, rfl, h1, h2⟩ := tup_dat dv
      exact ⟨a, vs, rfl, by rw [hK]; exact h1.sq, h2.length.trans hl, w, δ, ds, δ', r, en, h2, gg, q⟩
    · cases gg
  · cases gg
/-! ### unpacking a text -/
theorem drw {prog : Program} {w : World} {A : Around} {E : Value → Shared → Prop} {it : Addr} {x : Str} {N : Nat} {St : Nat → Heap → Prop} (Wk : Walks prog w A it [it] [it] N (SignAt x) St) : ∀ (m i : Nat) (s : Shared) (Q : List Value → Shared → Prop), St i s.heap → i + m ≤ N →
    (∀ (h' : Heap) (tk : Nat) (vs : List Value), St (i + m) h' → (∀ b o, b ≠ it → s.heap.get? b = some o → h'.get? b = some o) → vs.length = m → (∀ j v, vs[j]? = some v → ∃ c u, x.cps[i + j]? = some c ∧ v = .str ⟨#[c]⟩ u) → Q vs { s with heap := h', toks := tk }) →
    wpAny (model prog w) A (draw (.ref it) m) Q E s
  | 0, i, s, Q, hst, _, hQ => by
    show wpAny _ _ (pure []) Q E s
    exact wpAny_pure (hQ s.heap s.toks [] hst (fun _ _ _ e => e) rfl (fun j v h => by simp at h))
  | m + 1, i, s, Q, hst, hle, hQ => by
    show wpAny _ _ (pyNext (.ref it) >>= _) Q E s
    refine wpAny_bind (Wk.item i s _ _ (by omega) hst fun v h' tk hv st' kk => ?_)
    refine wpAny_bind (wpAny_holding (drw Wk m (i + 1) { s with heap := h', toks := tk } _ st' (by omega) fun h2 tk2 vs st2 kk2 hl hc => wpAny_pure ?_))
    refine hQ h2 tk2 (v :: vs) (by rw [show i + (m + 1) = i + 1 + m by omega]; exact st2) (fun b o hb e => kk2 b o hb (kk b o (by simpa using hb) e)) (by simp [hl]) fun j z hz => ?_
    cases j with
    | zero =>
      have : v = z := by simpa using hz
      subst this
      obtain ⟨c, u, h1, h2⟩ := hv
      exact ⟨c, u, h1, h2⟩
    | succ j =>
      obtain ⟨c, u, h1, h2⟩ := hc j z (by simpa using hz)
      exact ⟨c, u, by rw [show i + (j + 1) = i + 1 + j by omega]; exact h1, h2⟩
/-- (a, b, ..) = a text of that length -/
def gTxt (n : Nat) (t : TGs) : TG := fun v σ H Q => ∃ s : List Nat, v = .str ⟨s.toArray⟩ ∧ s.length = n ∧ t (s.map fun c => .str ⟨#[c]⟩) σ H Q
theorem pg_txt {X : Cx} {pos : Pos} {es : List Expr} {k : Nat} {t : TGs} {n : Nat} (hc : X.calm = true) (h : PGs X es t)
    (hn : (assignEach es X.env).length = n) (hst : (assignEach es X.env).findIdx? (·.1) = none) : PG X (.Tuple es k pos) (gTxt n t) := by
  refine ⟨fun pins s σ H v u Q I r hw => ?_⟩
  obtain ⟨sx, rfl, hl, hw⟩ := hw
  obtain ⟨tk, rfl⟩ := r
  rw [PyProof.Rows.assign_Tuple]
  refine wpAny_bind (wpAny_standAt ?_)
  unfold unpack
  rw [hn, hst]
  have hsz : (⟨sx.toArray⟩ : Str).cps.size = n := by
    show sx.toArray.size = n
    rw [List.size_toArray, hl]
  refine wpAny_bind (wpAny_holding ?_)
  unfold unpackItems
  refine wpAny_bind ?_
  unfold notIterableAtAll
  refine wpAny_bind (wpAny_specialOf (typeIs_str s _ tk) PySem.F.slot_str_iter.lookup ?_)
  refine wpAny_pure ?_
  simp only [Bool.false_eq_true, if_false]
  refine wpAny_bind (wpAny_holding (wpAny_pyIter_str fun o St Wk h0 => ?_))
  have Wk1 := Wk X.A (I.ok.hd hc)
  refine wpAny_bind (wpAny_holding (drw Wk1 n 0 _ _ h0 (by rw [hsz]; omega) fun h1 tk1 vs st1 kk1 hlv hcv => ?_))
  rw [if_neg (by omega)]
  refine wpAny_bind (wpAny_holding (Wk1.done _ _ _ (by rw [hsz]; simpa using st1) fun h2 tk2 kk2 => ?_))
  simp only [Option.isSome_none, Bool.false_eq_true, if_false]
  refine wpAny_pure ?_
  have I1 : Inv X pins σ H { s with heap := h2, toks := tk2 } := I.kept (t' := tk2) fun b o e => kk2 b o (by simpa using Nat.ne_of_lt (Heap.lt_size e)) (kk1 b o (Nat.ne_of_lt (Heap.lt_size e)) (Heap.get?_push_of_some _ e))
  refine h.run pins _ σ H _ _ Q I1 ?_ hw
  have key : ∀ (l : List Nat) (ws : List Value), ws.length = l.length → (∀ (j : Nat) (v : Value), ws[j]? = some v → ∃ (c : Nat) (u : Tok), l[j]? = some c ∧ v = Value.str ⟨#[c]⟩ u) → Vals (l.map fun c => V.str ⟨#[c]⟩) ws := by
    intro l
    induction l with
    | nil =>
      intro ws hw _
      cases ws with
      | nil => exact .nil
      | cons _ _ => simp at hw
    | cons c l ih =>
      intro ws hw hj
      cases ws with
      | nil => simp at hw
      | cons v ws =>
        obtain ⟨c', u, h1, h2⟩ := hj 0 v rfl
        have : c = c' := by simpa using h1
        subst this
        exact .cons ⟨u, h2⟩ (ih ws (by simpa using hw) fun j z hz => by simpa using hj (j + 1) z (by simpa using hz))
  refine key sx vs (by rw [hlv, hl]) fun j z hz => ?_
  obtain ⟨c, u, h1, h2⟩ := hcv j z hz
  refine ⟨c, u, ?_, h2⟩
  have : (sx.toArray)[0 + j]? = some c := h1
  simpa using this
/-- a tuple, or a text, unpacked -/
def tgX (n : Nat) (g : Mu → List D → Env → Option Env) : GF := fun μ d δ => match d with
  | .tup ds => if ds.length = n then g μ ds δ else none
  | .str s => if s.length = n then g μ (chrs s) δ else none
  | _ => none
where chrs (s : List Nat) : List D := s.map fun c => .str [c]
theorem dats_chrs {w : Wd} {H : Hp} : ∀ {s : List Nat}, okS s = true → Dats G w H (tgX.chrs s) (s.map fun c => V.str ⟨#[c]⟩)
  | [], _ => by simp [tgX.chrs, Dats]
  | c :: s, h => by
    have h' : decide (c < 0x110000) = true ∧ okS s = true := by
      unfold okS at h ⊢
      rw [List.all_cons, Bool.and_eq_true] at h
      exact h
    have h1 : okS [c] = true := by
      unfold okS
      rw [List.all_cons, h'.1]
      rfl
    show Dats G w H (.str [c] :: tgX.chrs s) _
    rw [List.map_cons]
    simp only [Dats]
    exact ⟨_, _, rfl, by simp [Dat, h1], dats_chrs h'.2⟩
theorem dg_tupX {es : List Expr} {k : Nat} {ix : List Nat} {g : Mu → List D → Env → Option Env} {n : Nat} (hK : X.K = G.K) (hc : X.calm = true) (h : DGs G X es ix g) (hn : (assignEach es X.env).length = n) (hst : (assignEach es X.env).findIdx? (·.1) = none) : DG G X (.Tuple es k pos) ix (tgX n g) := by
  refine ⟨fun pins s σ H v u Q I rv ⟨w, δ, d, δ', r, en, dv, gg, q⟩ => ?_⟩
  unfold tgX at gg
  split at gg
  · rename_i ds
    split at gg
    · rename_i hl
      obtain ⟨a, vs, rfl, h1, h2⟩ := tup_dat dv
      exact (pg_tup hc h hn hst).run pins s σ H _ u Q I rv ⟨a, vs, rfl, by rw [hK]; exact h1.sq, h2.length.trans hl, w, δ, ds, δ', r, en, h2, gg, q⟩
    · cases gg
  · rename_i sx
    split at gg
    · rename_i hl
      obtain ⟨rfl, ho⟩ := str_dat dv
      exact (pg_txt hc h hn hst).run pins s σ H _ u Q I rv ⟨sx, rfl, hl, w, δ, _, δ', r, en, dats_chrs ho, gg, q⟩
    · cases gg
  · cases gg
def oNx (μ : Mu) : Option Env → Option (Out × Mu)
  | some δ => some (.nx δ, μ)
  | none => none
def fAsg (fe : Env → M D) (g : GF) : Env → SM := fun δ => sB δ (fe δ) fun d μ => oNx μ (g μ d δ)
theorem oNx_of {w : Wd} {H : Hp} {Dd : Ends} {o : Option Env} (h : PostS G W Dd w H (oNx w.μ o)) (r : Rep G w H) : ∃ δ', o = some δ' ∧ ∀ σ', EnvR G w H δ' σ' → Dd.nx σ' H := by
  cases o with
  | none => exact h.elim
  | some δ' => exact ⟨δ', rfl, fun σ' en => h w H σ' (Ext.refl _ _) r rfl en⟩
theorem ds_asg {tg : Expr} {ix : List Nat} {g : GF} (he : DE G W X e fe) (hg : DG G X tg ix g) (hs : swapsWithSole [tg] e pos.line X.env = pure false) (hw : swappedStores [tg] e X.env = pure none)
    (h1 : (assignEach [tg] X.env).map (·.2) = [assign tg X.env]) : DS G W X (.Assign [tg] e pos) (fAsg fe g) := by
  refine (ps_asg he hg hs hw h1).imp fun Dd σ H ⟨w, δ, r, en, p⟩ => ?_
  refine sE_of' r en p fun d v w1 H1 e1 r1 en1 dv p1 => ?_
  obtain ⟨δ', g1, q⟩ := oNx_of p1 r1
  exact ⟨w1, δ, d, δ', r1, en1, dv, g1, fun σ' en' _ => q σ' en'⟩
theorem ds_set {i : Nat} {x : Str} {pos' : Pos} (hN : X.N.Nodup) (hi : X.N[i]? = some x) (hx : Loc X.env.scope x) (he : DE G W X e fe) (hs : swapsWith e (some (.Name x pos')) pos.line X.env = pure false) (hf : X.fn x = true ∨ X.env.scope.names.lookup x = some .local) :
    DS G W X (.Assign [.Name x pos'] e pos) (fAsg fe (tgN i)) := by
  refine (ps_set hN hi hx he hs hf).imp fun Dd σ H ⟨w, δ, r, en, p⟩ => ?_
  refine sE_of' r en p fun d v w1 H1 e1 r1 en1 dv p1 => ?_
  obtain ⟨δ', g1, q⟩ := oNx_of p1 r1
  cases g1
  exact q _ (en1.set i dv)
/-- a, b = x, y: stored from the right, no tuple is made -/
def fPar (i j : Nat) (fs : Env → M (List D)) : Env → SM := fun δ => sB δ (fs δ) fun ds μ => match ds with
  | [a, b] => some (.nx ((δ.set i (some a)).set j (some b)), μ)
  | _ => none
theorem ds_par {i j : Nat} {x y : Str} {a b : Expr} {fs : Env → M (List D)} {px py pt : Pos} {kt k2 pt2} (hc : X.calm = true) (hN : X.N.Nodup) (hi : X.N[i]? = some x) (hj : X.N[j]? = some y) (hij : i ≠ j)
    (hx : X.env.scope.names.lookup x = some .local) (hy : X.env.scope.names.lookup y = some .local) (ha : DA G W X [a, b] fs)
    (hw : swappedStores [.Tuple [.Name x px, .Name y py] kt pt] (.Tuple [a, b] k2 pt2) X.env = pure (some [x, y])) :
    DS G W X (.Assign [.Tuple [.Name x px, .Name y py] kt pt] (.Tuple [a, b] k2 pt2) pos) (fPar i j fs) := by
  refine (ps_par hc hN hi hj hij hx hy ha hw rfl).imp fun Dd σ H ⟨w, δ, r, en, p⟩ => ⟨w, δ, r, en, ?_⟩
  refine (p.sB en).mono fun ds w1 H1 e1 r1 p1 vs dv => ?_
  have en1 := en.ext e1.toSub
  split at p1
  · rename_i a b
    obtain ⟨v, u, rfl, d1, d2⟩ := dats2 dv
    exact ⟨v, u, rfl, p1 w1 H1 _ (Ext.refl _ _) r1 rfl ((en1.set i d1).set j d2)⟩
  · exact p1.elim
theorem dats3 {w : Wd} {H : Hp} {d e f : D} {vs : List V} (h : Dats G w H [d, e, f] vs) : ∃ v u t, vs = [v, u, t] ∧ Dat G w H d v ∧ Dat G w H e u ∧ Dat G w H f t := by
  simp only [Dats] at h
  obtain ⟨v, r, rfl, h1, u, r', rfl, h2, t, r'', rfl, h3, h4⟩ := h
  exact ⟨v, u, t, by rw [h4], h1, h2, h3⟩
def fPar3 (i j l : Nat) (fs : Env → M (List D)) : Env → SM := fun δ => sB δ (fs δ) fun ds μ => match ds with
  | [a, b, c] => some (.nx (((δ.set i (some a)).set j (some b)).set l (some c)), μ)
  | _ => none
theorem ds_par3 {i j l : Nat} {x y z : Str} {a b c : Expr} {fs : Env → M (List D)} {px py pz pt : Pos} {kt k2 pt2} (hc : X.calm = true) (hN : X.N.Nodup) (hi : X.N[i]? = some x) (hj : X.N[j]? = some y) (hl : X.N[l]? = some z) (hij : i ≠ j) (hil : i ≠ l) (hjl : j ≠ l)
    (hx : X.env.scope.names.lookup x = some .local) (hy : X.env.scope.names.lookup y = some .local) (hz : X.env.scope.names.lookup z = some .local) (ha : DA G W X [a, b, c] fs)
    (hw : swappedStores [.Tuple [.Name x px, .Name y py, .Name z pz] kt pt] (.Tuple [a, b, c] k2 pt2) X.env = pure (some [x, y, z])) :
    DS G W X (.Assign [.Tuple [.Name x px, .Name y py, .Name z pz] kt pt] (.Tuple [a, b, c] k2 pt2) pos) (fPar3 i j l fs) := by
  refine (ps_par3 hc hN hi hj hl hij hil hjl hx hy hz ha hw rfl).imp fun Dd σ H ⟨w, δ, r, en, p⟩ => ⟨w, δ, r, en, ?_⟩
  refine (p.sB en).mono fun ds w1 H1 e1 r1 p1 vs dv => ?_
  have en1 := en.ext e1.toSub
  split at p1
  · rename_i a b c
    obtain ⟨v, u, t, rfl, d1, d2, d3⟩ := dats3 dv
    exact ⟨v, u, t, rfl, p1 w1 H1 _ (Ext.refl _ _) r1 rfl (((en1.set i d1).set j d2).set l d3)⟩
  · exact p1.elim

/-! ### what is walked -/
/-- the walk J yields the data ds, while S stands -/
structure ItD (G : Gs) (J : It) (ds : List D) (S : Wd → Hp → Prop) : Prop where
  keep : ∀ w w' H H', S w H → Sub w w' H H' → S w' H'
  stop : ∀ w H, S w H → J.stop ds.length H
  go : ∀ w H i, S w H → i < ds.length → J.go i H
  yld : ∀ w H i x H' d, S w H → Rep G w H → ds[i]? = some d → J.yld i H x H' → Ext w w H H' ∧ Rep G w H' ∧ Dat G w H' d x
theorem itd_list {w : Wd} {H : Hp} {a : Addr} {vs : List V} {ds : List D} (h : LstAt w H a vs) (hd : Dats G w H ds vs) : ∃ S, S w H ∧ ItD G (Itl G.K a) ds S := by
  refine ⟨fun w H => LstAt w H a vs ∧ Dats G w H ds vs, ⟨h, hd⟩, fun w w' H H' s e => ⟨s.1.ext e, Dats.ext e _ _ s.2⟩, fun w H s => ⟨vs, s.1.sq, by rw [s.2.length]; exact Nat.le_refl _⟩, fun w H i s hi => ?_, fun w H i x H' d s r hi y => ?_⟩
  · obtain ⟨v, h1, _⟩ := s.2.get (List.getElem?_eq_getElem hi)
    exact ⟨vs, v, s.1.sq, h1⟩
  · obtain ⟨rfl, y⟩ := y
    obtain ⟨v, h1, h2⟩ := s.2.get hi
    have e := y vs s.1.sq
    rw [h1] at e
    cases e
    exact ⟨Ext.refl _ _, r, h2⟩
theorem itd_tup {w : Wd} {H : Hp} {a : Addr} {vs : List V} {ds : List D} (h : TupAt G.K w H a vs) (hd : Dats G w H ds vs) : ∃ S, S w H ∧ ItD G (Itt G.K a) ds S := by
  refine ⟨fun w H => TupAt G.K w H a vs ∧ Dats G w H ds vs, ⟨h, hd⟩, fun w w' H H' s e => ⟨s.1.ext e, Dats.ext e _ _ s.2⟩, fun w H s => ⟨vs, s.1.sq, by rw [s.2.length]; exact Nat.le_refl _⟩, fun w H i s hi => ?_, fun w H i x H' d s r hi y => ?_⟩
  · obtain ⟨v, h1, _⟩ := s.2.get (List.getElem?_eq_getElem hi)
    exact ⟨vs, v, s.1.sq, h1⟩
  · obtain ⟨rfl, y⟩ := y
    obtain ⟨v, h1, h2⟩ := s.2.get hi
    have e := y vs s.1.sq
    rw [h1] at e
    cases e
    exact ⟨Ext.refl _ _, r, h2⟩
def rngD (n : Int) : List D := (List.range n.toNat).map fun i => .int (i : Nat)
theorem itd_rng {w : Wd} {H : Hp} {n : Int} : ∃ S, S w H ∧ ItD G (Itr 0 n.toNat) (rngD n) S := by
  have hl : (rngD n).length = n.toNat := by simp [rngD]
  refine ⟨fun _ _ => True, trivial, fun _ _ _ _ _ _ => trivial, fun w H _ => ?_, fun w H i _ hi => ?_, fun w H i x H' d _ r hi y => ?_⟩
  · show n.toNat ≤ (rngD n).length
    omega
  · show i < n.toNat
    omega
  · obtain ⟨rfl, rfl⟩ := y
    refine ⟨Ext.refl _ _, r, ?_⟩
    simp only [rngD, List.getElem?_map] at hi
    cases e : (List.range n.toNat)[i]? with
    | none =>
      rw [e] at hi
      cases hi
    | some j =>
      rw [e] at hi
      have h2 := (List.getElem?_eq_some_iff.mp e).2
      rw [List.getElem_range] at h2
      subst h2
      cases hi
      simp [Dat]
def chrD (s : List Nat) : List D := s.map fun c => .str [c]
theorem itd_str {w : Wd} {H : Hp} {s : List Nat} (ho : okS s = true) : ∃ S, S w H ∧ ItD G (Its ⟨s.toArray⟩) (chrD s) S := by
  have hl : (chrD s).length = s.length := by simp [chrD]
  refine ⟨fun _ _ => True, trivial, fun _ _ _ _ _ _ => trivial, fun w H _ => ?_, fun w H i _ hi => ?_, fun w H i x H' d _ r hi y => ?_⟩
  · show s.toArray.size ≤ (chrD s).length
    simp
    omega
  · show i < s.toArray.size
    simp
    omega
  · obtain ⟨rfl, c, hc, rfl⟩ := y
    refine ⟨Ext.refl _ _, r, ?_⟩
    have hc : s[i]? = some c := by simpa using hc
    simp only [chrD, List.getElem?_map, hc, Option.map_some, Option.some.injEq] at hi
    subst hi
    refine dat_str (s := [c]) ?_
    have := List.all_eq_true.mp ho c (List.mem_of_getElem? hc)
    simpa [okS] using this
/-- a walk's reading: what is walked as a list of data -/
def iD (G : Gs) (W : WX) (fe : Env → M (List D)) : TI := fun σ H R => ∃ w δ, Rep G w H ∧ EnvR G w H δ σ ∧ Post G (WAt W σ) w H (fe δ w.μ) (fun ds w' H' => ∀ J S, S w' H' → ItD G J ds S → R J H')
abbrev DI (G : Gs) (W : WX) (X : Cx) (tg iter : Expr) (fe : Env → M (List D)) : Prop := PI X tg iter (iD G W fe)
theorem _root_.L2.PI.imp {X : Cx} {tg e : Expr} {t t' : TI} (h : PI X tg e t) (k : ∀ σ H R, t' σ H R → t σ H R) : PI X tg e t' := ⟨fun pins s σ H R I q => h.run pins s σ H R I (k σ H R q)⟩
def itmT : D → Option (List D)
  | .tup xs => some xs
  | _ => none
def itmL : D → Option (List D)
  | .lst xs => some xs
  | _ => none
def itmS : D → Option (List D)
  | .str s => some (chrD s)
  | _ => none
def fItm (k : D → Option (List D)) (fe : Env → M D) : Env → M (List D) := fun δ => bnd (fe δ) fun d => lift fun _ => k d
theorem di_tup {tg : Expr} (hK : X.K = G.K) (he : DE G W X e fe) : DI G W X tg e (fItm itmT fe) := by
  refine (pi_tup he).imp fun σ H R ⟨w, δ, r, en, p⟩ => ?_
  refine tE_of r en p fun d v w1 H1 e1 r1 en1 dv p1 => ?_
  obtain ⟨ds, g1, g2⟩ := p1.lift
  unfold itmT at g1
  split at g1
  · cases g1
    obtain ⟨a, vs, rfl, h1, h2⟩ := tup_dat dv
    obtain ⟨S, s0, hS⟩ := itd_tup h1 h2
    exact ⟨a, rfl, ⟨vs, by rw [hK]; exact h1.sq⟩, by rw [hK]; exact g2 w1 H1 (Ext.refl _ _) r1 rfl _ S s0 hS⟩
  · cases g1
theorem di_lst {tg : Expr} (hK : X.K = G.K) (he : DE G W X e fe) : DI G W X tg e (fItm itmL fe) := by
  refine (pi_list he).imp fun σ H R ⟨w, δ, r, en, p⟩ => ?_
  refine tE_of r en p fun d v w1 H1 e1 r1 en1 dv p1 => ?_
  obtain ⟨ds, g1, g2⟩ := p1.lift
  unfold itmL at g1
  split at g1
  · cases g1
    simp only [Dat] at dv
    obtain ⟨a, vs, rfl, h1, h2⟩ := dv
    obtain ⟨S, s0, hS⟩ := itd_list h1 h2
    exact ⟨a, rfl, ⟨vs, h1.sq⟩, by rw [hK]; exact g2 w1 H1 (Ext.refl _ _) r1 rfl _ S s0 hS⟩
  · cases g1
theorem di_str {tg : Expr} (he : DE G W X e fe) : DI G W X tg e (fItm itmS fe) := by
  refine (pi_str he).imp fun σ H R ⟨w, δ, r, en, p⟩ => ?_
  refine tE_of r en p fun d v w1 H1 e1 r1 en1 dv p1 => ?_
  obtain ⟨ds, g1, g2⟩ := p1.lift
  unfold itmS at g1
  split at g1
  · cases g1
    obtain ⟨rfl, ho⟩ := str_dat dv
    obtain ⟨S, s0, hS⟩ := itd_str ho
    exact ⟨_, rfl, g2 w1 H1 (Ext.refl _ _) r1 rfl _ S s0 hS⟩
  · cases g1
def itmR : List D → Option (List D)
  | [.int n] => if -(2 ^ 62) ≤ n ∧ n < 2 ^ 62 then some (rngD n) else none
  | _ => none
theorem di_rng {tg a : Expr} {fs : Env → M (List D)} {p : Pos} (hg : Gl X "range") (hm : X.mg "range" = none) (ha : DA G W X [a] fs) (hs : starEach [a] X.env = [(false, eval a X.env)]) :
    DI G W X tg (.Call (.Name "range" p) [a] [] pos) (fun δ => bnd (fs δ) fun ds => lift fun _ => itmR ds) := by
  refine (pi_range1 hg hm ha hs).imp fun σ H R ⟨w, δ, r, en, p⟩ => ?_
  refine tA_of r en p fun ds vs w1 H1 e1 r1 en1 dv p1 => ?_
  obtain ⟨es, g1, g2⟩ := p1.lift
  unfold itmR at g1
  split at g1
  · rename_i n
    split at g1
    · rename_i hb
      cases g1
      obtain ⟨v, rfl, d1⟩ := dats1 dv
      obtain ⟨S, s0, hS⟩ := itd_rng (G := G) (w := w1) (H := H1) (n := n)
      exact ⟨n, by rw [int_dat d1], hb.1, hb.2, g2 w1 H1 (Ext.refl _ _) r1 rfl _ S s0 hS⟩
    · cases g1
  · cases g1

/-! ### for -/
def loopS (g : GF) (body : Env → SM) : List D → Env → SM
  | [], δ => nxt δ
  | d :: ds, δ => fun μ => match g μ d δ with
    | none => none
    | some δ1 => match body δ1 μ with
      | none => none
      | some (.nx δ2, μ2) => loopS g body ds δ2 μ2
      | some (.cnt δ2, μ2) => loopS g body ds δ2 μ2
      | some (.brk δ2, μ2) => some (.nx δ2, μ2)
      | some (.ret d, μ2) => some (.ret d, μ2)
      | some (.exc x δ2, μ2) => some (.exc x δ2, μ2)
def fFor (fi : Env → M (List D)) (g : GF) (body : Env → SM) : Env → SM := fun δ => sB δ (fi δ) fun ds => loopS g body ds δ
theorem ds_for {tg iter : Expr} {body : List Stmt} {fi : Env → M (List D)} {ix : List Nat} {g : GF} (hp : PassesOwn (model X.prog X.w) X.A X.env X.xe) (hc : X.calm = true) (hi : DI G W X tg iter fi) (hg : DG G X tg ix g) (hb : DSs G W X body f)
    (hs : ∀ x, foldedSetIterable iter X.env x = pure x) : DS G W X (.For tg iter body [] pos) (fFor fi g f) := by
  refine (ps_for hp hc hi hg hb hs).imp fun Dd σ H ⟨w, δ, r, en, p⟩ => ⟨w, δ, r, en, ?_⟩
  refine (p.sB en).mono fun ds w1 H1 e1 r1 p1 J S s0 hS => ?_
  refine ⟨fun i m σ H => m = ds.length - i ∧ i ≤ ds.length ∧ ∃ w δ, Rep G w H ∧ EnvR G w H δ σ ∧ S w H ∧ PostS G W Dd w H (loopS g f (ds.drop i) δ w.μ), ⟨ds.length, rfl, Nat.zero_le _, w1, δ, r1, en.ext e1.toSub, s0, p1⟩, ?_⟩
  rintro i m σ H ⟨rfl, hi, w, δ, r, en, s, p⟩
  by_cases hlt : i < ds.length
  · refine .inr ⟨hS.go w H i s hlt, fun σ' H' => i + 1 ≤ ds.length ∧ ∃ w δ, Rep G w H' ∧ EnvR G w H' δ σ' ∧ S w H' ∧ PostS G W Dd w H' (loopS g f (ds.drop (i + 1)) δ w.μ), fun σ' H' q => ⟨ds.length - (i + 1), by omega, rfl, q⟩, fun x H' y => ?_⟩
    have hd : ds[i]? = some ds[i] := List.getElem?_eq_getElem hlt
    obtain ⟨e2, r2, d2⟩ := hS.yld w H i x H' _ s r hd y
    rw [List.drop_eq_getElem_cons hlt] at p
    simp only [loopS] at p
    cases q1 : g w.μ ds[i] δ with
    | none =>
      rw [q1] at p
      exact p.elim
    | some δ1 =>
      rw [q1] at p
      refine ⟨w, δ, _, δ1, r2, en.ext e2.toSub, d2, q1, fun σ1 en1 _ => ⟨w, δ1, r2, en1, ?_⟩⟩
      simp only at p
      cases q2 : f δ1 w.μ with
      | none =>
        rw [q2] at p
        exact p.elim
      | some z =>
        rw [q2] at p
        obtain ⟨o, μ2⟩ := z
        have step : ∀ δ2, PostS G W Dd w H (loopS g f (ds.drop (i + 1)) δ2 μ2) → ∀ w' H'' σ', Ext w w' H' H'' → Rep G w' H'' → w'.μ = μ2 → EnvR G w' H'' δ2 σ' →
            i + 1 ≤ ds.length ∧ ∃ w δ, Rep G w H'' ∧ EnvR G w H'' δ σ' ∧ S w H'' ∧ PostS G W Dd w H'' (loopS g f (ds.drop (i + 1)) δ w.μ) := fun δ2 p w' H'' σ' e' r' m' en' =>
          ⟨hlt, w', δ2, r', en', hS.keep _ _ _ _ s (e2.trans e').toSub, by rw [m']; exact p.ext (e2.trans e')⟩
        cases o with
        | nx δ2 => exact step δ2 p
        | cnt δ2 => exact step δ2 p
        | brk δ2 => exact fun w' H'' σ' e' r' m' en' => p w' H'' σ' (e2.trans e') r' m' en'
        | ret d => exact fun w' H'' v e' r' m' dv => p w' H'' v (e2.trans e') r' m' dv
        | exc x δ2 => exact fun c d w' H'' σ' e' r' m' en' z => p c d w' H'' σ' (e2.trans e') r' m' en' z
  · have e : i = ds.length := by omega
    subst e
    rw [List.drop_length] at p
    exact .inl ⟨hS.stop w H s, p w H σ (Ext.refl _ _) r rfl en⟩

/-! ### while -/
def whileS (ft : Env → M Bool) (body : Env → SM) : Nat → Env → SM
  | 0, _ => fun _ => none
  | n + 1, δ => sB δ (ft δ) fun b => if b = true then (fun μ => match body δ μ with
      | none => none
      | some (.nx δ2, μ2) => whileS ft body n δ2 μ2
      | some (.cnt δ2, μ2) => whileS ft body n δ2 μ2
      | some (.brk δ2, μ2) => some (.nx δ2, μ2)
      | some (.ret d, μ2) => some (.ret d, μ2)
      | some (.exc x δ2, μ2) => some (.exc x δ2, μ2)) else nxt δ
theorem ds_while {c : Expr} {body : List Stmt} {ft : Env → M Bool} (n : Env → Mu → Nat) (hp : PassesOwn (model X.prog X.w) X.A X.env X.xe) (hc : DT G W X c ft) (hb : DSs G W X body f) :
    DS G W X (.While c body [] pos) (fun δ μ => whileS ft f (n δ μ) δ μ) := by
  refine (ps_while hp hc hb).imp fun Dd σ H ⟨w, δ, r, en, p⟩ => ?_
  refine ⟨fun m σ H => ∃ w δ, Rep G w H ∧ EnvR G w H δ σ ∧ PostS G W Dd w H (whileS ft f m δ w.μ), ⟨n δ w.μ, w, δ, r, en, p⟩, ?_⟩
  rintro m σ H ⟨w, δ, r, en, p⟩
  cases m with
  | zero => exact p.elim
  | succ m =>
    simp only [whileS] at p
    refine sT_of r en p fun b w1 H1 e1 r1 en1 p1 => ?_
    cases b with
    | false => exact iteF (p1 w1 H1 σ (Ext.refl _ _) r1 rfl en1)
    | true =>
      refine iteT ⟨fun σ' H' => ∃ w δ, Rep G w H' ∧ EnvR G w H' δ σ' ∧ PostS G W Dd w H' (whileS ft f m δ w.μ), fun σ' H' q => ⟨m, Nat.lt_succ_self _, q⟩, w1, δ, r1, en1, ?_⟩
      simp only [if_true] at p1
      cases q2 : f δ w1.μ with
      | none =>
        rw [q2] at p1
        exact p1.elim
      | some z =>
        rw [q2] at p1
        obtain ⟨o, μ2⟩ := z
        have step : ∀ δ2, PostS G W Dd w1 H1 (whileS ft f m δ2 μ2) → ∀ w' H'' σ', Ext w1 w' H1 H'' → Rep G w' H'' → w'.μ = μ2 → EnvR G w' H'' δ2 σ' →
            ∃ w δ, Rep G w H'' ∧ EnvR G w H'' δ σ' ∧ PostS G W Dd w H'' (whileS ft f m δ w.μ) := fun δ2 p w' H'' σ' e' r' m' en' => ⟨w', δ2, r', en', by rw [m']; exact p.ext e'⟩
        cases o with
        | nx δ2 => exact step δ2 p1
        | cnt δ2 => exact step δ2 p1
        | brk δ2 => exact p1
        | ret d => exact p1
        | exc x δ2 => exact p1
end
end DL

set_option Elab.async false
set_option linter.all false
set_option maxRecDepth 100000
set_option maxHeartbeats 4000000
/-! DL6: calls of defs, bodies of defs, raise, comprehensions, slices, changeable lists, further built-ins. -/
namespace DL
open PySem L2 PySem.Spec

/-! ### defs -/
/-- what a def promises by a function of data -/
def spD (G : Gs) (h : List D → M D) : Sp := fun vs H Q E => ∃ w ds, Rep G w H ∧ Dats G w H ds vs ∧ Post G E w H (h ds w.μ) (vk G Q)
def arity (n : Nat) (h : List D → M D) : List D → M D := fun ds μ => if ds.length = n then h ds μ else none
theorem spD_len {G : Gs} {n : Nat} {h : List D → M D} {vs : List V} {H : Hp} {Q : VK} {E : XK} (p : spD G (arity n h) vs H Q E) : vs.length = n := by
  obtain ⟨w, ds, r, dv, p⟩ := p
  unfold arity at p
  split at p
  · rw [dv.length]
    assumption
  · exact p.elim
theorem vals_nil : Vals [] [] := .nil
section
variable {G : Gs} {W : WX} {X : Cx} {e : Expr} {es : List Expr} {fs : Env → M (List D)} {h : List D → M D}
theorem de_call {k : Nat} {f : Addr} {fd : FuncData} {ps : List Str} {x : Str} {p pos : Pos} (tk : L2N.Takes X W) (F : FnOk X.prog X.w X.K X.mg X.base (L2N.CX X.prog X.w) k f fd ps (spD G h)) (hr : Room k X.A) (hg : Gl X x) (hm : X.mg x = some (.ref f)) (hk : PySem.W.keepIn X.K (.ref f) = true)
    (hb : Binds X.K fd ps []) (ha : DA G W X (e :: es) fs) (hdb : (x == ("__debug__" : Str)) = false) (he : starEach (e :: es) X.env = (false, eval e X.env) :: starEach es X.env) (hpl : (backTo pos (starEach es X.env)).any (·.1) = false) :
    DE G W X (.Call (.Name x p) (e :: es) [] pos) (fun δ => bnd (fs δ) h) := by
  refine (pe_callS F hr hg hm hk hb (fun σ => L2N.passAt tk σ) ha hdb he hpl).imp fun σ H Q ⟨w, δ, r, en, p⟩ => ?_
  exact tA_of r en p fun ds vs w1 H1 e1 r1 en1 dv p1 => ⟨w1, ds, r1, dv, p1⟩
/-- nothing is raised -/
def noX (m : M D) : M D := fun μ => match m μ with
  | some (.ok d, μ') => some (.ok d, μ')
  | _ => none
theorem de_call0 {k : Nat} {f : Addr} {fd : FuncData} {ps : List Str} {x : Str} {p pos : Pos} (tk : L2N.Takes X W) (F : FnOk X.prog X.w X.K X.mg X.base (L2N.CX X.prog X.w) k f fd ps (spD G h)) (hr : Room k X.A) (hg : Gl X x) (hm : X.mg x = some (.ref f)) (hk : PySem.W.keepIn X.K (.ref f) = true)
    (hb : Binds X.K fd ps []) (hdb : (x == ("__debug__" : Str)) = false) : DE G W X (.Call (.Name x p) [] [] pos) (fun _ => noX (h [])) := by
  refine (pe_call0 (dvs := []) (E := E0) F hr hg hm hk hb .nil (L2N.passes_call tk fun _ _ _ _ h => h.elim) hdb).imp fun σ H Q ⟨w, δ, r, en, p⟩ => ?_
  refine ⟨w, [], r, by simp [Dats], ?_⟩
  have p : Post G (WAt W σ) w H (noX (h []) w.μ) (vk G Q) := p
  unfold noX at p
  cases q : h [] w.μ with
  | none =>
    rw [q] at p
    exact p.elim
  | some z =>
    rw [q] at p
    obtain ⟨o, μ'⟩ := z
    cases o with
    | ok d => exact p
    | error x => exact p.elim
end
/-- a body run as a def -/
def runF (n : Nat) (g : Env → SM) (ds : List D) : M D := fun μ => match g (ds.map some ++ List.replicate (n - ds.length) none) μ with
  | some (.nx _, μ') => some (.ok .non, μ')
  | some (.ret d, μ') => some (.ok d, μ')
  | some (.exc x _, μ') => some (.error x, μ')
  | _ => none
def Xc.bel (n : Nat) (x : Xc) : Bool := match x.arg with
  | none => true
  | some d => d.bel n
/-- what was made on the way is let go -/
def cutM (m : M D) : M D := fun μ => match m μ with
  | some (.ok d, μ') => if d.bel μ.length = true ∧ (μ'.take μ.length).all (CO.bel μ.length) = true then some (.ok d, μ'.take μ.length) else none
  | some (.error x, μ') => if x.bel μ.length = true ∧ (μ'.take μ.length).all (CO.bel μ.length) = true then some (.error x, μ'.take μ.length) else none
  | none => none
theorem Post.cut {G : Gs} {E : XK} {w : Wd} {H : Hp} {m : M D} {Q : VK} (p : Post G E w H (cutM m w.μ) (vk G Q)) : Post G E w H (m w.μ) (vk G Q) := by
  unfold cutM at p
  cases q : m w.μ with
  | none =>
    rw [q] at p
    exact p
  | some z =>
    rw [q] at p
    obtain ⟨o, μ'⟩ := z
    cases o with
    | ok d =>
      simp only at p
      split at p
      · rename_i hb
        intro w' H' e' r' m' v dv
        refine p (w'.cut w.μ.length) H' (e'.cut rfl) (r'.cut ?_) ?_ v (Dat.cut d v hb.1 dv)
        · rw [m']
          exact hb.2
        · rw [cut_μ, m']
      · exact p.elim
    | error x =>
      simp only at p
      split at p
      · rename_i hb
        intro c d w' H' e' r' m' z
        refine p c d (w'.cut w.μ.length) H' (e'.cut rfl) (r'.cut ?_) ?_ ?_
        · rw [m']
          exact hb.2
        · rw [cut_μ, m']
        · unfold ExcR at z ⊢
          refine ⟨z.1, ?_⟩
          have z2 := z.2
          have hb1 := hb.1
          unfold Xc.bel at hb1
          cases xa : x.arg with
          | none =>
            rw [xa] at z2
            exact z2
          | some y =>
            rw [xa] at z2 hb1
            obtain ⟨p, v, h1, h2, h3⟩ := z2
            exact ⟨p, v, h1, h2, Dat.cut y v hb1 h3⟩
      · exact p.elim
theorem envR_start {G : Gs} {w : Wd} {H : Hp} {N : List Str} {ds : List D} {vs : List V} (h : Dats G w H ds vs) : EnvR G w H (ds.map some ++ List.replicate (N.length - ds.length) none) (L2.start N vs) := by
  unfold L2.start
  have hl := h.length
  refine ⟨by simp [hl], fun i d e => ?_⟩
  by_cases hi : i < ds.length
  · rw [List.getElem?_append_left (by simpa using hi), List.getElem?_map, List.getElem?_eq_getElem hi] at e
    simp only [Option.map_some, Option.some.injEq] at e
    obtain ⟨v, h1, h2⟩ := h.get (List.getElem?_eq_getElem hi)
    rw [e] at h2
    refine ⟨v, ?_, h2⟩
    rw [List.getElem?_append_left (by rw [List.length_map, hl]; exact hi), List.getElem?_map, h1]
    rfl
  · rw [List.getElem?_append_right (by simpa using hi)] at e
    have := List.mem_of_getElem? e
    have := List.eq_of_mem_replicate this
    cases this
/-- a def keeps its promise: its body, read by a function -/
theorem fn_okD {G : Gs} {P : Program} {w : World} {K : PySem.W.Frag} {mg : Str → Option Value} {base : Heap} {x qual : Str} {params : Arguments} {body : List Stmt} {scope : Scope} {f : Addr} {fd : FuncData} {N ps : List Str} {k : Nat} {g : Env → SM}
    (F : FunD K x qual params body scope [] [] f fd) (S : FnScope N ps scope)
    (hb : ∀ (cdv : Value) (A : Around) (outer : List PySem.Env) (s : Shared) (H : Hp) (E : XK), Room k (A.deeper (PyProof.Rows.envOfC qual scope s.heap.objs.size f cdv)) →
      DSs G (fun c d _ H => E c d H) (cxOf (L2N.CX P w) P w K mg base N qual scope f cdv A outer s H E) body g) :
    FnOk P w K mg base (L2N.CX P w) (k + 1) f fd ps (spD G (arity ps.length (runF N.length g))) := by
  refine F.ok S (fun vs H Q E p => spD_len p) fun cdv A outer s H vs Q E hr p => ⟨_, hb cdv A outer s H E hr, ?_⟩
  obtain ⟨w', ds, r, dv, p⟩ := p
  refine ⟨w', _, r, envR_start dv, ?_⟩
  unfold arity runF at p
  split at p
  · cases q : g (ds.map some ++ List.replicate (N.length - ds.length) none) w'.μ with
    | none =>
      rw [q] at p
      exact p.elim
    | some z =>
      rw [q] at p
      obtain ⟨o, μ'⟩ := z
      cases o with
      | nx δ => exact fun w2 H2 σ e2 r2 m2 _ => p w2 H2 e2 r2 m2 _ (by simp [Dat])
      | ret d => exact fun w2 H2 v e2 r2 m2 dv => p w2 H2 e2 r2 m2 v dv
      | brk δ => exact p.elim
      | cnt δ => exact p.elim
      | exc x δ => exact fun c d w2 H2 σ e2 r2 m2 _ z => p c d w2 H2 e2 r2 m2 z
  · exact p.elim
/-- .. and lets go what it made -/
theorem fn_cut {G : Gs} {P : Program} {w : World} {K : PySem.W.Frag} {mg : Str → Option Value} {base : Heap} {f : Addr} {fd : FuncData} {ps : List Str} {k : Nat} {h : List D → M D} (F : FnOk P w K mg base (L2N.CX P w) k f fd ps (spD G h)) :
    FnOk P w K mg base (L2N.CX P w) k f fd ps (spD G fun ds => cutM (h ds)) :=
  F.imp fun vs H Q E ⟨w, ds, r, dv, p⟩ => ⟨w, ds, r, dv, p.cut⟩

/-! ### raise -/
section
variable {G : Gs} {W : WX} {X : Cx} {pos : Pos}
theorem ds_raise {e : Expr} {c : Nat} (hc : X.calm = true) (tk : L2N.Takes X W) (he : L2N.PMk X e (fun _ H Q => Q (.ref (G.ob c)) none H)) : DS G W X (.Raise (some e) none pos) (fun δ μ => some (.exc ⟨c, none⟩ δ, μ)) :=
  (L2N.ps_raise hc tk he).imp fun Dd σ H ⟨w, δ, r, en, p⟩ => p _ _ w H σ (Ext.refl _ _) r rfl en ⟨rfl, rfl⟩
end

/-! ### slices -/
def cutL {α : Type} (xs : List α) (lo hi : Option Int) : List α := (xs.drop (HT.sIx xs.length 0 lo)).take (HT.sIx xs.length xs.length hi - HT.sIx xs.length 0 lo)
def tO (G : Gs) (W : WX) (f : Env → M (Option Int)) : TO := fun σ H Q => ∃ w δ, Rep G w H ∧ EnvR G w H δ σ ∧ Post G (WAt W σ) w H (f δ w.μ) (fun o _ H' => Q o H')
theorem _root_.L2.PO.imp {X : Cx} {e : Option Expr} {t t' : TO} (h : PO X e t) (k : ∀ σ H Q, t' σ H Q → t σ H Q) : PO X e t' := ⟨fun pins s σ H Q I q => h.run pins s σ H Q I (k σ H Q q)⟩
def fNoPart : Env → M (Option Int) := fun _ => ret none
def toI : D → Option Int
  | .int i => some i
  | _ => none
def fPart (fe : Env → M D) : Env → M (Option Int) := fun δ => bnd (fe δ) fun d => lift fun _ => (toI d).map some
def gSl (μ : Mu) (d : D) (lo hi : Option Int) : Option D := match peek μ d with
  | .tup xs => some (.tup (cutL xs lo hi))
  | .lst xs => some (.lst (cutL xs lo hi))
  | .str s => if s.length ≤ line then some (.str (cutL s lo hi)) else none
  | _ => none
def fSl (fe : Env → M D) (fl fh : Env → M (Option Int)) : Env → M D := fun δ => bnd (fe δ) fun d => bnd (fl δ) fun lo => bnd (fh δ) fun hi => lift fun μ => gSl μ d lo hi
section
variable {G : Gs} {W : WX} {X : Cx} {e : Expr} {fe : Env → M D}
theorem do_none : PO X none (tO G W fNoPart) := po_none.imp fun σ H Q ⟨w, δ, r, en, p⟩ => p.ret r
theorem do_some (he : DE G W X e fe) : PO X (some e) (tO G W (fPart fe)) := by
  refine (po_some he).imp fun σ H Q ⟨w, δ, r, en, p⟩ => ?_
  refine tE_of r en p fun d v w1 H1 e1 r1 en1 dv p1 => ?_
  obtain ⟨o, g1, g2⟩ := p1.lift
  cases d with
  | int i =>
    cases g1
    exact ⟨i, int_dat dv, g2 w1 H1 (Ext.refl _ _) r1 rfl⟩
  | _ => cases g1
theorem Dats.cutL {w : Wd} {H : Hp} {xs : List D} {vs : List V} (h : Dats G w H xs vs) (lo hi : Option Int) : Dats G w H (DL.cutL xs lo hi) (cutV vs lo hi) := by
  unfold DL.cutL cutV
  rw [h.length]
  exact (h.drop _).take _
def rSlD (G : Gs) : V → Option Int → Option Int → Hp → VK → Prop := fun x lo hi H Q => ∃ w a d, Rep G w H ∧ Dat G w H a x ∧ gSl w.μ a lo hi = some d ∧
  ∀ w' H' v, Ext w w' H H' → Rep G w' H' → w'.μ = w.μ → Dat G w' H' d v → Q v H'
theorem okS_mem {s t : List Nat} (h : okS s = true) (k : ∀ c ∈ t, c ∈ s) : okS t = true := by
  unfold okS at *
  rw [List.all_eq_true] at *
  exact fun c hc => h c (k c hc)
theorem mem_cutL {α : Type} {xs : List α} {lo hi : Option Int} {x : α} (h : x ∈ cutL xs lo hi) : x ∈ xs := List.mem_of_mem_drop (List.mem_of_mem_take h)
theorem sl_G (hK : X.K = G.K) : SlR X (rSlD G) := by
  refine (sl_list.or (sl_tupA.or sl_str)).imp fun x lo hi H Q ⟨w, a, d, r, da, g, q⟩ => ?_
  unfold gSl at g
  split at g
  · rename_i xs e1
    cases g
    have e1 := peek_id e1 (fun _ z => by cases z)
    subst e1
    obtain ⟨p, vs, rfl, h1, h2⟩ := tup_dat da
    refine .inr (.inl ⟨p, vs, rfl, by rw [hK]; exact h1.sq, fun z => ?_, fun _ p2 hp => ?_⟩)
    · refine q w H _ (Ext.refl _ _) r rfl ?_
      have e : cutL xs lo hi = xs := by
        unfold cutL
        rw [← h2.length, z.1, z.2, List.drop_zero, Nat.sub_zero, List.take_of_length_le (by rw [h2.length]; exact Nat.le_refl _)]
      rw [e]
      exact da
    · obtain ⟨n1, n2, n3⟩ := new_tup r (h2.cutL lo hi) hp
      exact q w _ _ n1 n2 rfl n3
  · rename_i xs e1
    cases g
    obtain ⟨p, vs, rfl, h1, h2⟩ := peek_lst r da e1
    refine .inl ⟨p, vs, rfl, SqL.of h1, fun p2 hp => ?_⟩
    obtain ⟨n1, n2, n3⟩ := new_lst r (h2.cutL lo hi) hp
    exact q w _ _ n1 n2 rfl n3
  · rename_i s e1
    split at g
    · rename_i hl
      cases g
      have e1 := peek_id e1 (fun _ z => by cases z)
      subst e1
      obtain ⟨rfl, ho⟩ := str_dat da
      refine .inr (.inr ⟨_, rfl, ?_, q w H _ (Ext.refl _ _) r rfl ?_⟩)
      · show s.toArray.size ≤ sizeLine
        rw [line_eq]
        simpa using hl
      · have e : cutS ⟨s.toArray⟩ lo hi = ⟨(cutL s lo hi).toArray⟩ := by
          unfold cutS cutL
          have : (⟨s.toArray⟩ : Str).length = s.length := by
            show s.toArray.size = s.length
            simp
          rw [this]
        rw [e]
        exact dat_str (okS_mem ho fun c hc => mem_cutL hc)
    · cases g
  · cases g
theorem de_slice {lo hi : Option Expr} {fl fh : Env → M (Option Int)} {p2 pos : Pos} (hK : X.K = G.K) (he : DE G W X e fe) (hl : PO X lo (tO G W fl)) (hh : PO X hi (tO G W fh)) : DE G W X (.Subscript e (.Slice lo hi none p2) pos) (fSl fe fl fh) := by
  refine (pe_slice (sl_G hK) he hl hh).imp fun σ H Q ⟨w, δ, r, en, p⟩ => ?_
  refine tE_of r en p fun d v w1 H1 e1 r1 en1 dv p1 => ?_
  refine ⟨w1, δ, r1, en1, p1.bnd.mono fun lo w2 H2 e2 r2 p2 => ⟨w2, δ, r2, en1.ext e2.toSub, p2.bnd.mono fun hi w3 H3 e3 r3 p3 => ?_⟩⟩
  obtain ⟨z, g1, g2⟩ := p3.lift
  exact ⟨w3, d, z, r3, Dat.ext (e2.trans e3).toSub _ _ dv, g1, fun w' H' v e r m dv => g2 w' H' e r m v dv⟩
end

/-! ### changeable lists: made, read off, filled -/
section
variable {G : Gs} {W : WX} {X : Cx} {e : Expr} {es : List Expr} {fe fe' : Env → M D} {fs : Env → M (List D)} {pos : Pos}
/-- a written list that will be changed -/
def fCell (fs : Env → M (List D)) : Env → M D := fun δ => bnd (fs δ) fun ds μ => if ds.length ≤ line then some (.ok (.loc μ.length), μ ++ [.lst ds]) else none
theorem de_cell (h : DA G W X es fs) : DE G W X (.List es pos) (fCell fs) := by
  refine (pe_lst h).imp fun σ H Q ⟨w, δ, r, en, p⟩ => ?_
  refine tA_of r en p fun ds vs w1 H1 e1 r1 en1 d1 h1 => ?_
  split at h1
  · rename_i hl
    refine ⟨by rw [d1.length, line_eq]; exact hl, fun p hp => ?_⟩
    have e2 : Ext w1 (w1.push p (.lst ds)) H1 (upd H1 p (.lst vs)) := Ext.cell hp
    have hd : Dat G (w1.push p (.lst ds)) (upd H1 p (.lst vs)) (.loc w1.μ.length) (.ref p) := by
      simp only [Dat]
      exact ⟨p, rfl, cell_loc⟩
    exact h1 (w1.push p (.lst ds)) _ e2 (r1.cell hp ⟨vs, upd_same, Dats.ext e2.toSub _ _ d1⟩) (push_μ _ _ _) _ hd
  · exact h1.elim
/-- a changeable list is read as what it holds, and never changed again -/
def frzD : D → M D
  | .loc k => fun μ => match μ[k]? with
    | some (.lst xs) => some (.ok (.lst xs), μ.set k .dead)
    | _ => none
  | d => ret d
def fFrz (fe : Env → M D) : Env → M D := fun δ => bnd (fe δ) frzD
theorem de_frz (he : DE G W X e fe) : DE G W X e (fFrz fe) := by
  refine he.imp fun σ H Q ⟨w, δ, r, en, p⟩ => ?_
  refine tE_of r en p fun d v w1 H1 e1 r1 en1 dv p1 => ?_
  cases d with
  | loc k =>
    simp only [frzD] at p1
    split at p1
    · rename_i xs hk
      obtain ⟨p, hp⟩ := μ_get' hk
      obtain ⟨a, vs, rfl, h1, h2⟩ := loc_lst r1 dv (.inl hk)
      have ep : a = p := by
        simp only [Dat] at dv
        obtain ⟨a', ea, hka⟩ := dv
        have ea := V.ref.inj ea
        have := κ_get hp
        rw [hka] at this
        rw [ea]
        exact Option.some.inj this
      subst ep
      have e2 : Ext w1 (w1.put k a .dead) H1 H1 := Ext.mark hp (by intro z; cases z)
      have hd : Dat G (w1.put k a .dead) H1 (.lst xs) (.ref a) := by
        simp only [Dat]
        exact ⟨a, vs, rfl, ⟨h1, mark_notlive r1 hp⟩, Dats.ext e2.toSub _ _ h2⟩
      exact p1 (w1.put k a .dead) H1 e2 (r1.mark hp (by intro z; cases z) ⟨_, h1, rfl⟩) (put_μ _ _ _ _) _ hd
    · exact p1.elim
  | _ => exact p1.ret r1 v dv
/-- xs.append(e) -/
def appD (d : D) (ds : List D) : M D := fun μ => match d, ds with
  | .loc k, [y] => match μ[k]? with
    | some (.lst xs) => if xs.length < line then some (.ok .non, μ.set k (.lst (xs ++ [y]))) else none
    | _ => none
  | _, _ => none
/-- a method that changes its list -/
def fMut (g : D → List D → M D) (fe : Env → M D) (fs : Env → M (List D)) : Env → M D := fun δ => bnd (fe δ) fun d => bnd (fs δ) fun ds => g d ds
theorem loc_at {w : Wd} {H : Hp} {k : Nat} {v : V} {c : CO} (hd : Dat G w H (.loc k) v) (h : w.μ[k]? = some c) : ∃ a, v = .ref a ∧ w.c[k]? = some (a, c) := by
  obtain ⟨p, hp⟩ := μ_get' h
  simp only [Dat] at hd
  obtain ⟨a, ea, ha⟩ := hd
  have h2 := κ_get hp
  rw [ha] at h2
  have h2 := Option.some.inj h2
  exact ⟨p, by rw [ea, h2], hp⟩
theorem write_lst {w : Wd} {H : Hp} {k : Nat} {a : Addr} {c0 : CO} {ds : List D} {vs : List V} (r : Rep G w H) (hp : w.c[k]? = some (a, c0)) (hd : c0 ≠ .dead) (h : Dats G w H ds vs) :
    Ext w (w.put k a (.lst ds)) H (upd H a (.lst vs)) ∧ Rep G (w.put k a (.lst ds)) (upd H a (.lst vs)) := by
  have e : Ext w (w.put k a (.lst ds)) H (upd H a (.lst vs)) := Ext.write hp hd (r.off hp)
  exact ⟨e, r.write hp hd ⟨vs, upd_same, Dats.ext e.toSub _ _ h⟩⟩
theorem mt_app : MtR X "list.append" (fun x xs H Q => ∃ w d ds, Rep G w H ∧ Dat G w H d x ∧ Dats G w H ds xs ∧ Post G (fun _ _ _ => False) w H (appD d ds w.μ) (vk G Q)) := by
  refine (show MtR X _ _ from mt_append).imp fun x xs H Q ⟨w, d, ds, r, dx, dxs, p⟩ => ?_
  unfold appD at p
  split at p
  · rename_i k y
    split at p
    · rename_i zs hk
      split at p
      · rename_i hl
        obtain ⟨a, rfl, hp⟩ := loc_at dx hk
        obtain ⟨vs, h1, h2⟩ := r.at_ k a _ hp
        obtain ⟨u, rfl, dy⟩ := dats1 dxs
        have hds : Dats G w H (zs ++ [y]) (vs ++ [u]) := h2.append (by simp only [Dats]; exact ⟨u, [], rfl, dy, rfl⟩)
        obtain ⟨e, r'⟩ := write_lst r hp (by intro z; cases z) hds
        exact ⟨a, vs, u, rfl, rfl, h1, by rw [h2.length, line_eq]; exact hl, p _ _ e r' (put_μ _ _ _ _) _ (by simp [Dat])⟩
      · exact p.elim
    · exact p.elim
  · exact p.elim
end
end DL

set_option Elab.async false
set_option linter.all false
set_option maxRecDepth 100000
set_option maxHeartbeats 4000000
/-! DL7: list comprehensions. -/
namespace DL
open PySem L2 PySem.Spec

def noM {α : Type} (m : M α) : M α := fun μ => match m μ with
  | some (.ok d, μ') => some (.ok d, μ')
  | _ => none
theorem Post.noM {α : Type} {G : Gs} {W W' : XK} {w : Wd} {H : Hp} {m : M α} {μ : Mu} {P : α → Wd → Hp → Prop} (p : Post G W w H (noM m μ) P) : Post G W' w H (m μ) P := by
  unfold DL.noM at p
  cases q : m μ with
  | none =>
    rw [q] at p
    exact p
  | some z =>
    rw [q] at p
    obtain ⟨o, μ'⟩ := z
    cases o with
    | ok d => exact p
    | error x => exact p.elim
abbrev W0 : WX := fun _ _ _ _ => False

/-! ### the list that is filled -/
def Wd.bsy (w : Wd) (p : Addr) : Wd := ⟨w.c, p :: w.b⟩
section
variable {G : Gs} {w w1 w2 : Wd} {H H1 H2 : Hp} {p : Addr} {o : HO}
theorem bsy_sub (hp : H p = none) : Sub w (w.bsy p) H (upd H p o) where
  pre := ⟨[], by simp [Wd.bsy, Wd.κ]⟩
  live := fun a u h q _ => by
    rcases h with h | h
    · rcases List.mem_cons.mp h with z | z
      · rw [z, hp] at q
        cases q
      · exact .inl z
    · exact .inr h
  same := fun a u _ _ h => by rw [upd_ne (ne_of_none h hp)]; exact h
theorem bsy_rep (r : Rep G w H) (hp : H p = none) (hk : CellK o = true) : Rep G (w.bsy p) (upd H p o) := by
  refine ⟨r.nd, fun k a c h => ?_, fun a ha => ?_, fun a ha => ?_, r.tab.ext fun b u e => by rw [upd_ne (ne_of_none e hp)]; exact e⟩
  · have x := r.at_ k a c h
    obtain ⟨u, hu, _⟩ := x.trk
    exact x.ext (bsy_sub hp) (upd_ne (ne_of_none hu hp))
  · rcases List.mem_cons.mp ha with z | z
    · exact ⟨o, by rw [z, upd_same], hk⟩
    · obtain ⟨u, hu, hk⟩ := r.bt a z
      exact ⟨u, by rw [upd_ne (ne_of_none hu hp)]; exact hu, hk⟩
  · rcases List.mem_cons.mp ha with z | z
    · rw [z]
      exact r.fresh hp
    · exact r.bn a z
/-- the busy list grows -/
theorem grow_sub (hb : p ∈ w.b) : Sub w w H (upd H p o) where
  pre := ⟨[], by simp⟩
  live := fun _ _ h _ _ => h
  same := fun a u ha _ h => by rw [upd_ne fun z => ha (by rw [z]; exact .inl hb)]; exact h
theorem grow_rep (r : Rep G w H) (hb : p ∈ w.b) (hk : CellK o = true) : Rep G w (upd H p o) := by
  refine ⟨r.nd, fun k a c h => ?_, fun a ha => ?_, r.bn, fun q hq => ?_⟩
  · have x := r.at_ k a c h
    refine x.ext (grow_sub hb) (upd_ne fun z => ?_)
    exact r.bn p hb (by rw [← z]; exact List.mem_of_getElem? (κ_get h))
  · by_cases z : a = p
    · exact ⟨o, by rw [z, upd_same], hk⟩
    · obtain ⟨u, hu, hk'⟩ := r.bt a ha
      exact ⟨u, by rw [upd_ne z]; exact hu, hk'⟩
  · obtain ⟨u, hu, hnt⟩ := r.bt p hb
    obtain ⟨ps, h1, h2, h3⟩ := r.tab q hq
    have np : q.1 ≠ p := fun z => by
      rw [z, hu] at h1
      exact CellK.ntbl hnt _ (Option.some.inj h1)
    refine ⟨ps, by rw [upd_ne np]; exact h1, h2, fun pos cv hcv => ?_⟩
    obtain ⟨c0, e1, e2⟩ := h3 pos cv hcv
    refine ⟨c0, e1, ?_⟩
    rw [upd_ne fun z => ?_]
    · exact e2
    · rw [z, hu] at e2
      have e3 := Option.some.inj e2
      rw [e3, cell_code] at hnt
      cases hnt
/-- the list is done: plain data from now on -/
def Wd.unb (w : Wd) (b : List Addr) : Wd := ⟨w.c, b⟩
theorem unb_sub {b : List Addr} (hb : w.b = p :: b) : Sub w (w.unb b) H H where
  pre := ⟨[], by simp [Wd.unb, Wd.κ]⟩
  live := fun a u h _ _ => by
    rcases h with h | h
    · exact .inl (by rw [hb]; exact List.mem_cons_of_mem _ h)
    · exact .inr h
  same := fun a u _ _ h => h
theorem unb_rep {b : List Addr} (r : Rep G w H) (hb : w.b = p :: b) : Rep G (w.unb b) H :=
  ⟨r.nd, fun k a c h => (r.at_ k a c h).ext (unb_sub hb) rfl, fun a ha => r.bt a (by rw [hb]; exact List.mem_cons_of_mem _ ha), fun a ha => r.bn a (by rw [hb]; exact List.mem_cons_of_mem _ ha), r.tab⟩
/-- from ahead of the comprehension to a turn's end -/
structure Cmp (w w1 : Wd) (p : Addr) (H H1 : Hp) : Prop where
  ext : Ext w (w1.unb w.b) H H1
  bsy : w1.b = p :: w.b
  new : H p = none
theorem Cmp.start (hp : H p = none) : Cmp w (w.bsy p) p H (upd H p o) :=
  ⟨{ pre := ⟨[], by simp [Wd.unb, Wd.bsy, Wd.κ]⟩, live := fun a u h _ _ => h, same := fun a u _ _ h => by rw [upd_ne (ne_of_none h hp)]; exact h, busy := rfl,
     bk := fun a u _ h => by rw [upd_ne (ne_of_none h hp)]; exact h }, rfl, hp⟩
theorem Cmp.step (c : Cmp w w1 p H H1) (e : Ext w1 w2 H1 H2) : Cmp w w2 p H H2 := by
  obtain ⟨l, hl⟩ := c.ext.pre
  obtain ⟨m, hm⟩ := e.pre
  refine ⟨{ pre := ⟨l ++ m, ?_⟩, live := fun a o h q nt => ?_, same := fun a o ha hn h => ?_, busy := rfl, bk := fun a o ha h => e.bk a o (by rw [c.bsy]; exact List.mem_cons_of_mem _ ha) (c.ext.bk a o ha h) }, e.busy.trans c.bsy, c.new⟩
  · have hl' : w1.κ = w.κ ++ l := hl
    show w2.κ = w.κ ++ (l ++ m)
    rw [hm, hl', List.append_assoc]
  · by_cases hL : Live w a
    · exact hL
    have h2 : Live w2 a := by
      rcases h with h | h
      · have h : a ∈ w.b := h
        exact .inl (by rw [e.busy, c.bsy]; exact List.mem_cons_of_mem _ h)
      · exact .inr h
    rcases e.live a o h2 (c.ext.same a o hL nt q) nt with z | z
    · rw [c.bsy] at z
      rcases List.mem_cons.mp z with z | z
      · rw [z, c.new] at q
        cases q
      · exact .inl z
    · exact c.ext.live a o (.inr z) q nt
  · refine e.same a o (fun z => ?_) hn (c.ext.same a o ha hn h)
    rcases z with z | z
    · rw [c.bsy] at z
      rcases List.mem_cons.mp z with z | z
      · rw [z, c.new] at h
        cases h
      · exact ha (.inl z)
    · exact ha (c.ext.live a o (.inr z) h hn)
theorem Cmp.grow (c : Cmp w w1 p H H1) : Cmp w w1 p H (upd H1 p o) := by
  refine ⟨{ pre := c.ext.pre, live := c.ext.live, same := fun a u ha hn h => ?_, busy := rfl, bk := fun a u ha h => ?_ }, c.bsy, c.new⟩
  · rw [upd_ne (ne_of_none h c.new)]
    exact c.ext.same a u ha hn h
  · rw [upd_ne (ne_of_none h c.new)]
    exact c.ext.bk a u ha h
end

/-! ### the rule -/
def wipeD (δ : Env) : List Nat → Env
  | [] => δ
  | v :: vs => (wipeD δ vs).set v none
theorem envR_wipe {G : Gs} {w : Wd} {H : Hp} {δ : Env} {σ : St} (r : EnvR G w H δ σ) : ∀ vs : List Nat, EnvR G w H (wipeD δ vs) (wipe σ vs)
  | [] => r
  | v :: vs => by
    have ih := envR_wipe r vs
    unfold wipeD wipe
    refine ⟨by simp [ih.len], fun i d e => ?_⟩
    by_cases hi : v = i
    · subst hi
      by_cases hv : v < (wipeD δ vs).length
      · rw [List.getElem?_set_self hv] at e
        cases e
      · rw [List.getElem?_eq_none (by simpa using hv)] at e
        cases e
    · rw [List.getElem?_set_ne hi] at e
      obtain ⟨u, h1, h2⟩ := ih.at_ i d e
      exact ⟨u, by rw [List.getElem?_set_ne hi]; exact h1, h2⟩
theorem wipe_at {σ : St} {i : Nat} : ∀ {vs : List Nat}, (wipe σ vs)[i]? = if i ∈ vs ∧ i < σ.length then some none else σ[i]?
  | [] => by simp [wipe]
  | v :: vs => by
    unfold wipe
    by_cases hi : v = i
    · subst hi
      by_cases hv : v < σ.length
      · rw [List.getElem?_set_self (by rw [wipe_length]; exact hv), if_pos ⟨List.mem_cons_self, hv⟩]
      · rw [List.getElem?_eq_none (by rw [List.length_set, wipe_length]; omega), if_neg (fun z => hv z.2), List.getElem?_eq_none (by omega)]
    · rw [List.getElem?_set_ne hi, wipe_at]
      by_cases hm : i ∈ vs ∧ i < σ.length
      · rw [if_pos hm, if_pos ⟨List.mem_cons_of_mem _ hm.1, hm.2⟩]
      · rw [if_neg hm, if_neg fun z => hm ⟨(List.mem_cons.mp z.1).resolve_left fun q => hi q.symm, z.2⟩]
theorem wipe_agr {σ σ' : St} {ix vs : List Nat} (a : Agr ix (wipe σ vs) σ') (h : ∀ i ∈ ix, i ∈ vs) : wipe σ' vs = wipe σ vs := by
  have hl : σ'.length = σ.length := a.len.trans (wipe_length _ _)
  apply List.ext_getElem?
  intro i
  rw [wipe_at, wipe_at, hl]
  by_cases hm : i ∈ vs
  · by_cases hs : i < σ.length
    · rw [if_pos ⟨hm, hs⟩, if_pos ⟨hm, hs⟩]
    · rw [if_neg fun z => hs z.2, if_neg fun z => hs z.2, List.getElem?_eq_none (by omega), List.getElem?_eq_none (by omega)]
  · rw [if_neg fun z => hm z.1, if_neg fun z => hm z.1, a.at_ i fun z => hm (h i z), wipe_at, if_neg fun z => hm z.1]
/-- the items that a comprehension makes -/
def compS (g : GF) (ft : Env → M Bool) (fe : Env → M D) (δ : Env) : List D → M (List D)
  | [] => ret []
  | d :: ds => fun μ => match g μ d δ with
    | none => none
    | some δ1 => bnd (noM (ft δ1)) (fun b => if b = true then bnd (noM (fe δ1)) fun y => bnd (compS g ft fe δ ds) fun ys => ret (y :: ys) else compS g ft fe δ ds) μ
def fComp (fi : Env → M (List D)) (own : List Nat) (g : GF) (ft : Env → M Bool) (fe : Env → M D) : Env → M D := fun δ => bnd (fi δ) fun ds => if ds.length ≤ line then bnd (compS g ft fe (wipeD δ own) ds) fun ys => ret (.lst ys) else fun _ => none
section
variable {G : Gs} {W : WX} {X : Cx} {elt tg iter : Expr} {ifs : List Expr} {scope : Scope} {own : List (Str × Nat)} {pos : Pos} {fi : Env → M (List D)} {ix : List Nat} {g : GF} {ft : Env → M Bool} {fe : Env → M D}
theorem bnd_assoc {α β γ : Type} (m : M α) (k : α → M β) (l : β → M γ) : bnd (bnd m k) l = bnd m fun a => bnd (k a) l := by
  funext μ
  unfold bnd
  cases m μ with
  | none => rfl
  | some z =>
    obtain ⟨o, μ'⟩ := z
    cases o <;> rfl
theorem bnd_ret {α β : Type} (a : α) (k : α → M β) : bnd (ret a) k = k a := rfl
theorem comp_of {Q : VK} {σ : St} {H : Hp} {w : Wd} {δ : Env} (vs : List Nat) (hix : ∀ i ∈ ix, i ∈ vs) (r : Rep G w H) (en : EnvR G w H δ σ) (p : Post G (WAt W σ) w H (fComp fi vs g ft fe δ w.μ) (vk G Q)) : tLc (iD G W fi) (gD G ix g) (tT G W0 ft) (tE G W0 fe) vs σ H Q := by
  refine ⟨w, δ, r, en, p.bnd.mono fun ds w1 H1 e1 r1 p1 J S s0 hS => fun A hD => ?_⟩
  split at p1
  · rename_i hz
    have en1 := en.ext e1.toSub
    -- the invariant
    refine ⟨fun i m H => m = ds.length - i ∧ i ≤ ds.length ∧ ∃ w acc ys, Rep G w H ∧ EnvR G w H δ σ ∧ S w H ∧ Cmp w1 w A H1 H ∧ H A = some (.lst acc) ∧ Dats G w H ys acc ∧ acc.length ≤ i ∧
      Post G (WAt W σ) w1 H1 (bnd (compS g ft fe (wipeD δ vs) (ds.drop i)) (fun zs => ret (D.lst (ys ++ zs))) w.μ) (vk G Q), ⟨ds.length, rfl, Nat.zero_le _, w1.bsy A, [], [], bsy_rep r1 hD rfl, en1.ext (bsy_sub hD), hS.keep _ _ _ _ s0 (bsy_sub hD), Cmp.start hD, upd_same, by simp [Dats], Nat.le_refl _, by rw [List.drop_zero]; exact p1⟩, ?_⟩
    rintro i m H2 ⟨rfl, hi, w2, acc, ys, r2, en2, s2, c2, hacc, hys, hal, p2⟩
    have dne : A ∈ w2.b := by
      rw [c2.bsy]
      exact List.mem_cons_self
    by_cases hlt : i < ds.length
    · refine .inr ⟨hS.go w2 H2 i s2 hlt, fun H' => i + 1 ≤ ds.length ∧ ∃ w acc ys, Rep G w H' ∧ EnvR G w H' δ σ ∧ S w H' ∧ Cmp w1 w A H1 H' ∧ H' A = some (.lst acc) ∧ Dats G w H' ys acc ∧ acc.length ≤ i + 1 ∧
        Post G (WAt W σ) w1 H1 (bnd (compS g ft fe (wipeD δ vs) (ds.drop (i + 1))) (fun zs => ret (D.lst (ys ++ zs))) w.μ) (vk G Q), fun H' q => ⟨ds.length - (i + 1), by omega, rfl, q⟩, fun x H' y => ?_⟩
      have hd : ds[i]? = some ds[i] := List.getElem?_eq_getElem hlt
      obtain ⟨e3, r3, d3⟩ := hS.yld w2 H2 i x H' _ s2 r2 hd y
      have c3 := c2.step e3
      rw [List.drop_eq_getElem_cons hlt] at p2
      simp only [compS] at p2
      have p2 : Post G (WAt W σ) w1 H1 (bnd (fun μ => match g μ ds[i] (wipeD δ vs) with
        | none => none
        | some δ1 => bnd (noM (ft δ1)) (fun b => if b = true then bnd (noM (fe δ1)) fun y => bnd (compS g ft fe (wipeD δ vs) (ds.drop (i + 1))) fun ys => ret (y :: ys) else compS g ft fe (wipeD δ vs) (ds.drop (i + 1))) μ) (fun zs => ret (D.lst (ys ++ zs))) w2.μ) (vk G Q) := p2
      cases q1 : g w2.μ ds[i] (wipeD δ vs) with
      | none =>
        simp only [bnd, q1] at p2
        exact p2.elim
      | some δ1 =>
        have p2 : Post G (WAt W σ) w1 H1 (bnd (bnd (noM (ft δ1)) (fun b => if b = true then bnd (noM (fe δ1)) fun y => bnd (compS g ft fe (wipeD δ vs) (ds.drop (i + 1))) fun ys => ret (y :: ys) else compS g ft fe (wipeD δ vs) (ds.drop (i + 1)))) (fun zs => ret (D.lst (ys ++ zs))) w2.μ) (vk G Q) := by
          simp only [bnd, q1] at p2 ⊢
          exact p2
        rw [bnd_assoc] at p2
        have en3 := envR_wipe (en2.ext e3.toSub) vs
        refine ⟨w2, wipeD δ vs, _, δ1, r3, en3, d3, q1, fun σ1 en4 ag => ⟨wipe_agr ag hix, ?_⟩⟩
        -- the test
        refine ⟨w2, δ1, r3, en4, ?_⟩
        cases qt : ft δ1 w2.μ with
        | none =>
          simp only [bnd, noM, qt] at p2
          exact p2.elim
        | some zt =>
          obtain ⟨ot, μt⟩ := zt
          cases ot with
          | error x =>
            simp only [bnd, noM, qt] at p2
            exact p2.elim
          | ok b =>
            have p3 : Post G (WAt W σ) w1 H1 (bnd (if b = true then bnd (noM (fe δ1)) fun y => bnd (compS g ft fe (wipeD δ vs) (ds.drop (i + 1))) fun ys => ret (y :: ys) else compS g ft fe (wipeD δ vs) (ds.drop (i + 1))) (fun zs => ret (D.lst (ys ++ zs))) μt) (vk G Q) := by
              simp only [bnd, noM, qt] at p2 ⊢
              exact p2
            refine fun w4 H4 e4 r4 m4 => ?_
            have c4 := c3.step e4
            have hacc4 : H4 A = some (.lst acc) := by
              refine e4.bk A _ (by rw [e3.busy]; exact dne) ?_
              exact e3.bk A _ dne hacc
            have s4 := hS.keep _ _ _ _ (hS.keep _ _ _ _ s2 e3.toSub) e4.toSub
            have en4' := (en2.ext e3.toSub).ext e4.toSub
            have hys4 := Dats.ext e4.toSub _ _ (Dats.ext e3.toSub _ _ hys)
            cases b with
            | false =>
              have p3 : Post G (WAt W σ) w1 H1 (bnd (compS g ft fe (wipeD δ vs) (ds.drop (i + 1))) (fun zs => ret (D.lst (ys ++ zs))) μt) (vk G Q) := p3
              exact iteF ⟨hlt, w4, acc, ys, r4, en4', s4, c4, hacc4, hys4, by omega, by rw [m4]; exact p3⟩
            | true =>
              have p3 : Post G (WAt W σ) w1 H1 (bnd (bnd (noM (fe δ1)) fun y => bnd (compS g ft fe (wipeD δ vs) (ds.drop (i + 1))) fun ys => ret (y :: ys)) (fun zs => ret (D.lst (ys ++ zs))) μt) (vk G Q) := p3
              refine iteT ⟨w4, δ1, r4, en4.ext e4.toSub, ?_⟩
              rw [bnd_assoc] at p3
              rw [m4]
              cases qe : fe δ1 μt with
              | none =>
                simp only [bnd, noM, qe] at p3
                exact p3.elim
              | some ze =>
                obtain ⟨oe, μe⟩ := ze
                cases oe with
                | error x =>
                  simp only [bnd, noM, qe] at p3
                  exact p3.elim
                | ok yv =>
                  have p4 : Post G (WAt W σ) w1 H1 (bnd (bnd (compS g ft fe (wipeD δ vs) (ds.drop (i + 1))) fun ys => ret (yv :: ys)) (fun zs => ret (D.lst (ys ++ zs))) μe) (vk G Q) := by
                    simp only [bnd, noM, qe] at p3 ⊢
                    exact p3
                  rw [bnd_assoc] at p4
                  refine fun w5 H5 e5 r5 m5 v dv => ?_
                  have c5 := c4.step e5
                  have dne5 : A ∈ w5.b := by
                    rw [c5.bsy]
                    exact List.mem_cons_self
                  have hacc5 : H5 A = some (.lst acc) := e5.bk A _ (by rw [c4.bsy]; exact List.mem_cons_self) hacc4
                  refine ⟨acc, hacc5, ?_, ?_⟩
                  · rw [line_eq]
                    omega
                  · refine ⟨hlt, w5, acc ++ [v], ys ++ [yv], grow_rep r5 dne5 rfl, (en4'.ext e5.toSub).ext (grow_sub dne5), hS.keep _ _ _ _ (hS.keep _ _ _ _ s4 e5.toSub) (grow_sub dne5), c5.grow, upd_same, ?_, by rw [List.length_append, List.length_singleton]; omega, ?_⟩
                    · refine Dats.append (Dats.ext (grow_sub dne5) _ _ (Dats.ext e5.toSub _ _ hys4)) ?_
                      simp only [Dats]
                      exact ⟨v, [], rfl, Dat.ext (grow_sub dne5) _ _ dv, rfl⟩
                    · rw [m5]
                      have e : (fun zs => ret (D.lst ((ys ++ [yv]) ++ zs))) = (fun zs => bnd (ret (yv :: zs)) fun zs => ret (D.lst (ys ++ zs))) := by
                        funext zs
                        rw [bnd_ret, List.append_assoc]
                        rfl
                      rw [e]
                      exact p4
    · have e : i = ds.length := by omega
      subst e
      rw [List.drop_length] at p2
      simp only [compS, bnd_ret, List.append_nil] at p2
      refine .inl ⟨hS.stop w2 H2 s2, ?_⟩
      refine p2 (w2.unb w1.b) H2 c2.ext (unb_rep r2 c2.bsy) rfl _ ?_
      simp only [Dat]
      refine ⟨A, acc, rfl, ⟨hacc, ?_⟩, Dats.ext (unb_sub c2.bsy) _ _ hys⟩
      rintro (z | ⟨c, z, _⟩)
      · have z : A ∈ w1.b := z
        obtain ⟨u, hu, _⟩ := r1.bt A z
        rw [hD] at hu
        cases hu
      · exact r2.bn A dne (List.mem_map.mpr ⟨_, z, rfl⟩)
  · exact p1.elim
theorem de_comp (hc : X.calm = true) (hN : X.N.Nodup) (hi : DI G W X tg iter fi) (ok : BlkOk X.N X.env.scope scope own) (hix : ∀ i ∈ ix, i ∈ own.map (·.2))
    (hg : ∀ (s : Shared) (H : Hp) (C : Addr) (cl : List (Str × Addr)) (fp : List Addr), DG G (X.blk s H scope (compEnvC scope cl C X.env) fp) tg ix g) (ht : ∀ (s : Shared) (H : Hp) (C : Addr) (cl : List (Str × Addr)) (fp : List Addr), PTs (X.blk s H scope (compEnvC scope cl C X.env) fp) ifs (tT G W0 ft))
    (he : ∀ (s : Shared) (H : Hp) (C : Addr) (cl : List (Str × Addr)) (fp : List Addr), DE G W0 (X.blk s H scope (compEnvC scope cl C X.env) fp) elt fe) (hs : ∀ x, foldedSetIterable iter X.env x = pure x) :
    DE G W X (.ListComp elt [⟨tg, iter, ifs, 0⟩] scope pos) (fComp fi (own.map (·.2)) g ft fe) :=
  (pe_lc hc hN hi ok hg ht he hs).imp fun σ H Q ⟨w, δ, r, en, p⟩ => comp_of _ hix r en p
theorem ds_setComp {i : Nat} {y : Str} {py spos : Pos} (hc : X.calm = true) (hN : X.N.Nodup) (hy : X.N[i]? = some y) (hyl : X.env.scope.names.lookup y = some .local) (hi : DI G W X tg iter fi) (ok : BlkOk X.N X.env.scope scope own) (hix : ∀ i ∈ ix, i ∈ own.map (·.2))
    (hsw : swapsWith (.ListComp elt [⟨tg, iter, ifs, 0⟩] scope pos) (some (.Name y py)) spos.line X.env = pure true)
    (hg : ∀ (s : Shared) (H : Hp) (C : Addr) (cl : List (Str × Addr)) (fp : List Addr), DG G (X.blk s H scope (compEnvC scope cl C X.env) fp) tg ix g) (ht : ∀ (s : Shared) (H : Hp) (C : Addr) (cl : List (Str × Addr)) (fp : List Addr), PTs (X.blk s H scope (compEnvC scope cl C X.env) fp) ifs (tT G W0 ft))
    (he : ∀ (s : Shared) (H : Hp) (C : Addr) (cl : List (Str × Addr)) (fp : List Addr), DE G W0 (X.blk s H scope (compEnvC scope cl C X.env) fp) elt fe) (hs : ∀ x, foldedSetIterable iter X.env x = pure x) :
    DS G W X (.Assign [.Name y py] (.ListComp elt [⟨tg, iter, ifs, 0⟩] scope pos) spos) (fAsg (fComp fi (own.map (·.2)) g ft fe) (tgN i)) := by
  refine (ps_setLc hc hN hy hyl hsw hi ok hg ht he hs).imp fun Dd σ H ⟨w, δ, r, en, p⟩ => ?_
  have key : tLc (iD G W fi) (gD G ix g) (tT G W0 ft) (tE G W0 fe) (own.map (·.2)) σ H (fun x H1 => gName i x σ H1 Dd.nx) := by
    refine comp_of _ hix r en ((p.sB en).mono fun d w1 H1 e1 r1 p1 v dv => ?_)
    obtain ⟨δ', g1, q⟩ := oNx_of p1 r1
    cases g1
    exact q _ ((en.ext e1.toSub).set i dv)
  exact key
theorem dts_nil : PTs X [] (tT G W fun _ => ret true) := by
  refine ⟨fun pins s σ H Q I h => (pts_nil (X := X)).run pins s σ H Q I ?_⟩
  obtain ⟨w, δ, r, en, p⟩ := h
  exact p.ret r
theorem dts_one {c : Expr} {ft : Env → M Bool} (h : DT G W X c ft) : PTs X [c] (tT G W ft) := pts_one h
end
end DL

set_option Elab.async false
set_option linter.all false
set_option maxRecDepth 100000
set_option maxHeartbeats 4000000
/-! DL8: enumerate over tuples and texts, further built-ins. -/
namespace DL
open PySem L2 PySem.Spec

/-! ### enumerate(v) -/
theorem meets_enum1 {v : Value} {o : Obj} {H : Heap → Prop} (B : Begins v o H) :
    Meets (Builtin.«enumerate.__new__» ⟨[.type "enumerate", v], []⟩) (fun _ R s => H s.heap ∧
      R (.ok (.ret (.ref (s.heap.push o).objs.size))) { s with heap := (s.heap.push o).push { cls := .type "enumerate", data := .fields #[.none, .bool false, .ref s.heap.objs.size, rawInt 0, .none, .none] } }) :=
  .of_wp fun prog w A R s h => by
    obtain ⟨hp, g, d, tk, os⟩ := s
    obtain ⟨h1, h⟩ := h
    have hsub := sub_enumerate
    have q1 : ∀ {A' : Around} {E : Value → Shared → Prop} {Q : Value → Shared → Prop}, Q (.ref hp.objs.size) ⟨hp.push o, g, d, tk, os⟩ → wpAny (model prog w) A' (pyIter v) Q E ⟨hp, g, d, tk, os⟩ :=
      fun q => B.iter prog w _ _ ⟨hp, g, d, tk, os⟩ _ h1 q
    wp_walk using q1
    refine wpAny_stack_any fun st => wpAny_pure ?_
    split
    · rename_i c _ _ _ _ _
      cases (c == Value.type "enumerate")
      · wp_walk using q1
        exact ⟨_, rfl, h⟩
      · wp_walk using q1
        exact ⟨_, rfl, h⟩
    · wp_walk using q1
      exact ⟨_, rfl, h⟩
theorem call_enum1 {prog : Program} {w : World} {A : Around} {E : Value → Shared → Prop} {s : Shared} {v : Value} {o : Obj} {H : Heap → Prop} {Q : Value → Shared → Prop} (B : Begins v o H) (h1 : H s.heap)
    (h : ∀ h', IsEnum h' (s.heap.objs.size + 1) s.heap.objs.size 0 .none → h'.get? s.heap.objs.size = some o → h'.objs.size = s.heap.objs.size + 2 →
      (∀ b o, s.heap.get? b = some o → h'.get? b = some o) → Q (.ref (s.heap.objs.size + 1)) { s with heap := h' }) :
    wpAny (model prog w) A (call (.type "enumerate") [v]) Q E s := by
  refine callType_new F.called_enumerate (by decide) (F.typeCall_enumerate_1 _) (F.newCall_enumerate_1 _) (fun obj => F.args_object_init_2 obj _) F.entry_enumerate_new (meets_enum1 B) ⟨h1, ?_⟩
  have hz : (s.heap.push o).objs.size = s.heap.objs.size + 1 := Heap.size_push ..
  show _ ∧ _
  rw [hz]
  have he : IsEnum ((s.heap.push o).push { cls := .type "enumerate", data := .fields #[.none, .bool false, .ref s.heap.objs.size, rawInt 0, .none, .none] }) (s.heap.objs.size + 1) s.heap.objs.size 0 .none := by
    have := Heap.get?_push_size (s.heap.push o) (o := { cls := .type "enumerate", data := .fields #[.none, .bool false, .ref s.heap.objs.size, rawInt 0, .none, .none] }) rfl
    rw [hz] at this; exact this
  exact ⟨⟨_, he, rfl⟩, h _ he (Heap.get?_push_of_some _ (Heap.get?_push_size _ B.free)) (by rw [Heap.size_push, hz]) fun b o x => Heap.get?_push_of_some _ (Heap.get?_push_of_some _ x)⟩

/-- the pairs that enumerate gives -/
def enumD (ds : List D) : List D := (List.range ds.length).zipWith (fun i d => .tup [.int (i : Nat), d]) ds
theorem enumD_get {ds : List D} {i : Nat} {d : D} (h : ds[i]? = some d) : (enumD ds)[i]? = some (.tup [.int (i : Nat), d]) := by
  have hl := (List.getElem?_eq_some_iff.mp h).1
  simp only [enumD, List.getElem?_zipWith]
  rw [List.getElem?_range hl, h]
theorem enumD_len (ds : List D) : (enumD ds).length = ds.length := by simp [enumD]
/-- the tuple at a, each item in a new pair -/
def IteT (K : PySem.W.Frag) (a : Addr) : It :=
  ⟨fun i H => ∃ (xs : List V) (x : V), SqT K H a xs ∧ xs[i]? = some x, fun i H v H' => ∃ T x, v = .ref T ∧ H T = none ∧ H' = upd H T (.tup [.int (i : Nat), x]) ∧ ∀ xs, SqT K H a xs → xs[i]? = some x, fun i H => ∃ xs : List V, SqT K H a xs ∧ xs.length = i⟩
theorem turn_enumT {P : Program} {w : World} {K : PySem.W.Frag} {elts : List Expr} {kk : Nat} {tpos : Pos} (a e it : Addr) (hai : a ≠ it) (hae : a ≠ e) :
    Turn P w K (.Tuple elts kk tpos) (IteT K a) [e, it] e (fun i h => (∃ old, IsEnum h e it ((i : Nat) : Int) old) ∧ h.IsTupleIter it a i ∧ e ≠ it) where
  mem := by simp
  obj := fun i h st b hb => by
    obtain ⟨⟨old, he⟩, ⟨o, ho, hc, hd⟩, _⟩ := st
    have e' : b = e ∨ b = it := by simpa using hb
    rcases e' with z | z
    · rw [z]; exact ⟨_, he, fun v q => nomatch q⟩
    · rw [z]; exact ⟨o, ho, fun v q => by rw [hd] at q; cases q⟩
  keep := fun i h h' st k => let ⟨⟨old, he⟩, hi, hne⟩ := st; ⟨⟨old, k e (by simp) _ he⟩, hi.at fun o q => k it (by simp) o q, hne⟩
  item := by
    intro X hP hw hK hc i pins s σ H E I hf st hg
    subst hP hw hK
    obtain ⟨⟨old, he⟩, hit, hne⟩ := st
    obtain ⟨xs, x, hq, hx⟩ := hg
    obtain ⟨its, rv, p, hz⟩ := I.tuple hq
    obtain ⟨u, hu, ru⟩ := rv.get hx
    have hel : e < s.heap.objs.size := Heap.lt_size he
    have hil : it < s.heap.objs.size := by obtain ⟨_, q, _⟩ := hit; exact Heap.lt_size q
    have hlt : i < its.toArray.size := by simpa using (List.getElem?_eq_some_iff.mp hu).1
    refine wpAny_pyNext_enum_itemD (Draws.tuple (show X.A.in1.handled = none from I.ok.hd hc) it a hai its.toArray) he ⟨hit, p⟩ hlt hne (by simp [Ne.symm hae, hne]) fun x' h' tk hP ho hst' hT hsz hk => ?_
    have ex : x' = u := by
      have : its[i]? = some x' := by simpa using hP
      rw [hu] at this
      exact (Option.some.inj this).symm
    subst ex
    refine ⟨_, rfl, wpAny_letOwnedTupleGo_enum (s := { s with heap := h', toks := tk + 1 }) ho fun h'' he' sb => ?_⟩
    have hT2 : h''.get? s.heap.objs.size = some { cls := .type "tuple", data := .seq #[.int i tk, x'] } := (sb.2 _ (Nat.ne_of_gt hel)).trans hT
    have new : ObjOk X.prog X.w (upd H s.heap.objs.size (.tup [.int (i : Nat), x])) h'' s.heap.objs.size (.tup [.int (i : Nat), x]) :=
      ⟨by show 2 ≤ sizeLine; decide, [.int i tk, x'], .cons ⟨_, rfl⟩ (.cons ru .nil), ⟨_, hT2, rfl, _, rfl⟩⟩
    have I1 : Inv X pins σ (upd H s.heap.objs.size (.tup [.int (i : Nat), x])) { s with heap := h'', toks := tk + 1 } :=
      I.turnedNew (ch := [e, it]) (fun b ob hb q => (sb.2 b (fun z => hb (by simp [z]))).trans (hk b ob (fun z => hb (by simp [z])) (fun z => hb (by simp [z])) q)) hf (Nat.le_refl _) new
    refine ⟨.ref s.heap.objs.size, _, I1, rfl, ⟨_, x, rfl, I.hok.fresh (Nat.le_refl _), rfl, fun ys hy => by rw [I.tuple_inj hy hq]; exact hx⟩, ⟨⟨x', ?_⟩, hst'.1.at fun o q => (sb.2 it (Ne.symm hne)).trans q, hne⟩, fun b hb => ?_⟩
    · have e1 : ((i + 1 : Nat) : Int) = (i : Int) + 1 := by omega
      rw [e1]; exact he'
    · have hb' : b < s.heap.objs.size := by
        have e' : b = e ∨ b = it := by simpa using hb
        rcases e' with z | z
        · rw [z]; exact hel
        · rw [z]; exact hil
      rw [upd_ne (Nat.ne_of_lt hb')]
      exact (hf b hb).1
  done := by
    intro X hP hw hK hc i pins s σ H E I hf st hg
    subst hP hw hK
    obtain ⟨⟨old, he⟩, hit, hne⟩ := st
    obtain ⟨xs, hq, hx⟩ := hg
    obtain ⟨its, rv, p, hz⟩ := I.tuple hq
    obtain ⟨f0, f1, f2, f3, f4, f5⟩ := hf it (by simp)
    have hl := rv.length
    have D0 := Draws.tuple (prog := X.prog) (w := X.w) (A := X.A.in1) (I.ok.hd hc) it a hai its.toArray
    have ei : its.toArray.size = i := by
      rw [List.size_toArray]
      omega
    rw [ei] at D0
    exact wpAny_pyNext_enum_endD D0 he ⟨hit, p⟩ fun h' eb => ⟨rfl, I.turned (t' := s.toks) (fun b o hb q => eb b o hb q) f0 f1 f3 f4 f5⟩
  self := fun A i s Q E st h => let ⟨⟨_, he⟩, _⟩ := st; wpAny_pyIter_enum he h
/-- the text x, each sign in a new pair -/
def IteS (x : Str) : It :=
  ⟨fun i _ => i < x.cps.size, fun i H v H' => ∃ T c, v = .ref T ∧ H T = none ∧ H' = upd H T (.tup [.int (i : Nat), .str ⟨#[c]⟩]) ∧ x.cps[i]? = some c, fun i _ => x.cps.size = i⟩
theorem turn_enumS {P : Program} {w : World} {K : PySem.W.Frag} {elts : List Expr} {kk : Nat} {tpos : Pos} (x : Str) (t : Tok) (e it : Addr) :
    Turn P w K (.Tuple elts kk tpos) (IteS x) [e, it] e (fun i h => (∃ old, IsEnum h e it ((i : Nat) : Int) old) ∧ h.IsStrIter it (strIterType x) x t i ∧ e ≠ it) where
  mem := by simp
  obj := fun i h st b hb => by
    obtain ⟨⟨old, he⟩, ⟨o, ho, hc, hd⟩, _⟩ := st
    have e' : b = e ∨ b = it := by simpa using hb
    rcases e' with z | z
    · rw [z]; exact ⟨_, he, fun v q => nomatch q⟩
    · rw [z]; exact ⟨o, ho, fun v q => by rw [hd] at q; cases q⟩
  keep := fun i h h' st k => let ⟨⟨old, he⟩, ⟨o, ho, hc, hd⟩, hne⟩ := st; ⟨⟨old, k e (by simp) _ he⟩, ⟨o, k it (by simp) o ho, hc, hd⟩, hne⟩
  item := by
    intro X hP hw hK hc i pins s σ H E I hf st hg
    subst hP hw hK
    obtain ⟨⟨old, he⟩, hit, hne⟩ := st
    have hel : e < s.heap.objs.size := Heap.lt_size he
    have hil : it < s.heap.objs.size := by obtain ⟨_, q, _⟩ := hit; exact Heap.lt_size q
    refine wpAny_pyNext_enum_itemD (Draws.text (show X.A.in1.handled = none from I.ok.hd hc) it x t) he hit hg hne (by simp [hne]) fun x' h' tk hP ho hst' hT hsz hk => ?_
    obtain ⟨c, u, hx, rfl⟩ := hP
    refine ⟨_, rfl, wpAny_letOwnedTupleGo_enum (s := { s with heap := h', toks := tk + 1 }) ho fun h'' he' sb => ?_⟩
    have hT2 : h''.get? s.heap.objs.size = some { cls := .type "tuple", data := .seq #[.int i tk, .str ⟨#[c]⟩ u] } := (sb.2 _ (Nat.ne_of_gt hel)).trans hT
    have new : ObjOk X.prog X.w (upd H s.heap.objs.size (.tup [.int (i : Nat), .str ⟨#[c]⟩])) h'' s.heap.objs.size (.tup [.int (i : Nat), .str ⟨#[c]⟩]) :=
      ⟨by show 2 ≤ sizeLine; decide, [.int i tk, .str ⟨#[c]⟩ u], .cons ⟨_, rfl⟩ (.cons ⟨_, rfl⟩ .nil), ⟨_, hT2, rfl, _, rfl⟩⟩
    have I1 : Inv X pins σ (upd H s.heap.objs.size (.tup [.int (i : Nat), .str ⟨#[c]⟩])) { s with heap := h'', toks := tk + 1 } :=
      I.turnedNew (ch := [e, it]) (fun b ob hb q => (sb.2 b (fun z => hb (by simp [z]))).trans (hk b ob (fun z => hb (by simp [z])) (fun z => hb (by simp [z])) q)) hf (Nat.le_refl _) new
    refine ⟨.ref s.heap.objs.size, _, I1, rfl, ⟨_, c, rfl, I.hok.fresh (Nat.le_refl _), rfl, hx⟩, ⟨⟨.str ⟨#[c]⟩ u, ?_⟩, (let ⟨o, ho, hc, hd⟩ := hst'; ⟨o, (sb.2 it (Ne.symm hne)).trans ho, hc, hd⟩), hne⟩, fun b hb => ?_⟩
    · have e1 : ((i + 1 : Nat) : Int) = (i : Int) + 1 := by omega
      rw [e1]; exact he'
    · have hb' : b < s.heap.objs.size := by
        have e' : b = e ∨ b = it := by simpa using hb
        rcases e' with z | z
        · rw [z]; exact hel
        · rw [z]; exact hil
      rw [upd_ne (Nat.ne_of_lt hb')]
      exact (hf b hb).1
  done := by
    intro X hP hw hK hc i pins s σ H E I hf st hg
    subst hP hw hK
    obtain ⟨⟨old, he⟩, hit, hne⟩ := st
    obtain ⟨f0, f1, f2, f3, f4, f5⟩ := hf it (by simp)
    have D0 := Draws.text (prog := X.prog) (w := X.w) (A := X.A.in1) (I.ok.hd hc) it x t
    have ei : x.cps.size = i := hg
    rw [ei] at D0
    exact wpAny_pyNext_enum_endD D0 he hit fun h' eb => ⟨rfl, I.turned (t' := s.toks) (fun b o hb q => eb b o hb q) f0 f1 f3 f4 f5⟩
  self := fun A i s Q E st h => let ⟨⟨_, he⟩, _⟩ := st; wpAny_pyIter_enum he h
section
variable {G : Gs} {W : WX} {X : Cx}
theorem new_pair {w : Wd} {H : Hp} {T : Addr} {i : Nat} {d : D} {v : V} (r : Rep G w H) (hT : H T = none) (dv : Dat G w H d v) :
    Ext w w H (upd H T (.tup [.int (i : Nat), v])) ∧ Rep G w (upd H T (.tup [.int (i : Nat), v])) ∧ Dat G w (upd H T (.tup [.int (i : Nat), v])) (.tup [.int (i : Nat), d]) (.ref T) :=
  new_tup r (ds := [.int (i : Nat), d]) (vs := [.int (i : Nat), v]) (by simp only [Dats]; exact ⟨_, _, rfl, by simp [Dat], _, _, rfl, dv, rfl⟩) hT
theorem itd_enumT {w : Wd} {H : Hp} {a : Addr} {vs : List V} {ds : List D} (h : TupAt G.K w H a vs) (hd : Dats G w H ds vs) : ∃ S, S w H ∧ ItD G (IteT G.K a) (enumD ds) S := by
  refine ⟨fun w H => TupAt G.K w H a vs ∧ Dats G w H ds vs, ⟨h, hd⟩, fun w w' H H' s e => ⟨s.1.ext e, Dats.ext e _ _ s.2⟩, fun w H s => ⟨vs, s.1.sq, by rw [s.2.length, enumD_len]⟩, fun w H i s hi => ?_, fun w H i x H' d s r hi y => ?_⟩
  · rw [enumD_len] at hi
    obtain ⟨v, h1, _⟩ := s.2.get (List.getElem?_eq_getElem hi)
    exact ⟨vs, v, s.1.sq, h1⟩
  · obtain ⟨T, v, rfl, hT, rfl, y⟩ := y
    have hl : i < ds.length := by
      have := (List.getElem?_eq_some_iff.mp hi).1
      rwa [enumD_len] at this
    have hdi : ds[i]? = some ds[i] := List.getElem?_eq_getElem hl
    rw [enumD_get hdi] at hi
    cases hi
    obtain ⟨u, h1, h2⟩ := s.2.get hdi
    have e := y vs s.1.sq
    rw [h1] at e
    cases e
    exact new_pair r hT h2
theorem itd_enumS {w : Wd} {H : Hp} {s : List Nat} (ho : okS s = true) : ∃ S, S w H ∧ ItD G (IteS ⟨s.toArray⟩) (enumD (chrD s)) S := by
  have hl : (enumD (chrD s)).length = s.length := by rw [enumD_len]; simp [chrD]
  refine ⟨fun _ _ => True, trivial, fun _ _ _ _ _ _ => trivial, fun w H _ => ?_, fun w H i _ hi => ?_, fun w H i x H' d _ r hi y => ?_⟩
  · show s.toArray.size = _
    rw [hl]
    simp
  · show i < s.toArray.size
    simp
    omega
  · obtain ⟨T, c, rfl, hT, rfl, hc⟩ := y
    have hc : s[i]? = some c := by simpa using hc
    have hdi : (chrD s)[i]? = some (.str [c]) := by simp [chrD, hc]
    rw [enumD_get hdi] at hi
    cases hi
    refine new_pair r hT (dat_str (s := [c]) ?_)
    have := List.all_eq_true.mp ho c (List.mem_of_getElem? hc)
    simpa [okS] using this
def itmE : List D → Option (List D)
  | [.tup xs] => some (enumD xs)
  | _ => none
def itmES : List D → Option (List D)
  | [.str s] => some (enumD (chrD s))
  | _ => none
theorem di_enumT {e : Expr} {fs : Env → M (List D)} {p pos tpos : Pos} {elts : List Expr} {kk : Nat} (hK : X.K = G.K) (hg : Gl X "enumerate") (hm : X.mg "enumerate" = none) (ha : DA G W X [e] fs) (hs : starEach [e] X.env = [(false, eval e X.env)]) :
    DI G W X (.Tuple elts kk tpos) (.Call (.Name "enumerate" p) [e] [] pos) (fun δ => bnd (fs δ) fun ds => lift fun _ => itmE ds) := by
  refine ⟨fun pins s σ H R I h => ?_⟩
  obtain ⟨w, δ, r, en, p0⟩ := h
  have hA : tA G W fs σ H (fun vs H1 => ∃ a xs, vs = [.ref a] ∧ SqT X.K H1 a xs ∧ R (IteT X.K a) H1) := by
    refine tA_of r en p0 fun ds vs w1 H1 e1 r1 en1 dv p1 => ?_
    obtain ⟨es, g1, g2⟩ := p1.lift
    unfold itmE at g1
    split at g1
    · rename_i xs
      cases g1
      obtain ⟨v, rfl, d1⟩ := dats1 dv
      obtain ⟨a, vs, rfl, h1, h2⟩ := tup_dat d1
      obtain ⟨S, s0, hS⟩ := itd_enumT h1 h2
      exact ⟨a, vs, rfl, by rw [hK]; exact h1.sq, by rw [hK]; exact g2 w1 H1 (Ext.refl _ _) r1 rfl _ S s0 hS⟩
    · cases g1
  refine PyProof.Rows.Call_ (ld_blt I hg hm PyProof.Rows.boot_enumerate (PyProof.Rows.callWith_type1 (thn (ha.run pos pins s σ H _ I hA) fun us s1 ⟨vs, H1, I1, r1, q1⟩ => ?_) hs rfl))
  obtain ⟨a, xs, ex, hq, q⟩ := q1
  subst ex
  cases r1 with
  | cons r rr =>
    cases rr
    cases r
    obtain ⟨its, rv, p', hz⟩ := I1.tuple hq
    have hal : a < s1.heap.objs.size := by obtain ⟨_, z, _⟩ := p'; exact Heap.lt_size z
    refine call_enum1 (begins_tuple a its.toArray) p' fun h' he hit hsz hk => wpAny_pyIter_enum he ?_
    have I2 : Inv X pins σ H1 { s1 with heap := h' } := I1.kept (t' := s1.toks) hk
    refine ⟨s1.heap.objs.size + 1, [s1.heap.objs.size + 1, s1.heap.objs.size], _, _, H1, rfl, I2, turn_enumT a (s1.heap.objs.size + 1) s1.heap.objs.size (Nat.ne_of_lt hal) (Nat.ne_of_lt (Nat.lt_succ_of_lt hal)), ⟨⟨.none, he⟩, ⟨_, hit, rfl, rfl⟩, Nat.succ_ne_self _⟩, fun b hb => ?_, q⟩
    have e' : b = s1.heap.objs.size + 1 ∨ b = s1.heap.objs.size := by simpa using hb
    have hle : s1.heap.objs.size ≤ b := by
      rcases e' with z | z
      · rw [z]; exact Nat.le_add_right _ _
      · rw [z]; exact Nat.le_refl _
    exact I1.fpOk hle (I1.hok.fresh hle)
theorem di_enumS {e : Expr} {fs : Env → M (List D)} {p pos tpos : Pos} {elts : List Expr} {kk : Nat} (hg : Gl X "enumerate") (hm : X.mg "enumerate" = none) (ha : DA G W X [e] fs) (hs : starEach [e] X.env = [(false, eval e X.env)]) :
    DI G W X (.Tuple elts kk tpos) (.Call (.Name "enumerate" p) [e] [] pos) (fun δ => bnd (fs δ) fun ds => lift fun _ => itmES ds) := by
  refine ⟨fun pins s σ H R I h => ?_⟩
  obtain ⟨w, δ, r, en, p0⟩ := h
  have hA : tA G W fs σ H (fun vs H1 => ∃ x : Str, vs = [.str x] ∧ R (IteS x) H1) := by
    refine tA_of r en p0 fun ds vs w1 H1 e1 r1 en1 dv p1 => ?_
    obtain ⟨es, g1, g2⟩ := p1.lift
    unfold itmES at g1
    split at g1
    · rename_i xs
      cases g1
      obtain ⟨v, rfl, d1⟩ := dats1 dv
      obtain ⟨rfl, ho⟩ := str_dat d1
      obtain ⟨S, s0, hS⟩ := itd_enumS (G := G) (w := w1) (H := H1) ho
      exact ⟨_, rfl, g2 w1 H1 (Ext.refl _ _) r1 rfl _ S s0 hS⟩
    · cases g1
  refine PyProof.Rows.Call_ (ld_blt I hg hm PyProof.Rows.boot_enumerate (PyProof.Rows.callWith_type1 (thn (ha.run pos pins s σ H _ I hA) fun us s1 ⟨vs, H1, I1, r1, q1⟩ => ?_) hs rfl))
  obtain ⟨x, ex, q⟩ := q1
  subst ex
  cases r1 with
  | cons r rr =>
    cases rr
    obtain ⟨t, rfl⟩ := r
    refine call_enum1 (begins_text x t) trivial fun h' he hit hsz hk => wpAny_pyIter_enum he ?_
    have I2 : Inv X pins σ H1 { s1 with heap := h' } := I1.kept (t' := s1.toks) hk
    refine ⟨s1.heap.objs.size + 1, [s1.heap.objs.size + 1, s1.heap.objs.size], _, _, H1, rfl, I2, turn_enumS x t (s1.heap.objs.size + 1) s1.heap.objs.size, ⟨⟨.none, he⟩, ⟨_, hit, rfl, rfl⟩, Nat.succ_ne_self _⟩, fun b hb => ?_, q⟩
    have e' : b = s1.heap.objs.size + 1 ∨ b = s1.heap.objs.size := by simpa using hb
    have hle : s1.heap.objs.size ≤ b := by
      rcases e' with z | z
      · rw [z]; exact Nat.le_add_right _ _
      · rw [z]; exact Nat.le_refl _
    exact I1.fpOk hle (I1.hok.fresh hle)
end
end DL

set_option Elab.async false
set_option linter.all false
set_option maxRecDepth 100000
set_option maxHeartbeats 4000000
/-! DL9: built-in functions and methods of texts. -/
namespace DL
open PySem L2 PySem.Spec
/-- a text's code points -/
def cds (s : Str) : List Nat := s.cps.toList
theorem cds_str (s : Str) : (⟨(cds s).toArray⟩ : Str) = s := by cases s; simp [cds]
theorem str_cds (s : List Nat) : cds (⟨s.toArray⟩ : Str) = s := by simp [cds]
section
variable {G : Gs} {W : WX} {X : Cx} {w : Wd} {H : Hp}
theorem dat_cds {s : Str} (h : okS (cds s) = true) : Dat G w H (.str (cds s)) (.str s) := by
  have := dat_str (G := G) (w := w) (H := H) h
  rwa [cds_str] at this
/-- a new text, if its signs can be -/
def mkS (s : Str) : Option D := if okS (cds s) = true then some (.str (cds s)) else none
theorem mkS_of {s : Str} {d : D} (h : mkS s = some d) : Dat G w H d (.str s) := by
  unfold mkS at h
  split at h
  · cases h
    exact dat_cds (by assumption)
  · cases h
def gAbs (_ : Mu) : List D → Option D
  | [.int i] => some (.int (if i < 0 then -i else i))
  | _ => none
theorem call_absG : CallR X (.builtin "abs") (rDs G gAbs) := call_abs.imp fun xs H Q ⟨w, ds, d, r, dv, g, q⟩ => by
  unfold gAbs at g
  split at g
  · cases g
    obtain ⟨v, rfl, d1⟩ := dats1 dv
    exact ⟨_, by rw [int_dat d1], q w H _ (Ext.refl _ _) r rfl (dat_int ..)⟩
  · cases g
def gMax (_ : Mu) : List D → Option D
  | [.int i, .int j] => some (.int (if j > i then j else i))
  | _ => none
theorem call_maxG (hc : X.calm = true) : CallR X (.builtin "max") (rDs G gMax) := (call_max2 hc).imp fun xs H Q ⟨w, ds, d, r, dv, g, q⟩ => by
  unfold gMax at g
  split at g
  · cases g
    obtain ⟨v, u, rfl, d1, d2⟩ := dats2 dv
    exact ⟨_, _, by rw [int_dat d1, int_dat d2], q w H _ (Ext.refl _ _) r rfl (dat_int ..)⟩
  · cases g
def gMin (_ : Mu) : List D → Option D
  | [.int i, .int j] => some (.int (if j < i then j else i))
  | _ => none
theorem call_minG (hc : X.calm = true) : CallR X (.builtin "min") (rDs G gMin) := (call_min2 hc).imp fun xs H Q ⟨w, ds, d, r, dv, g, q⟩ => by
  unfold gMin at g
  split at g
  · cases g
    obtain ⟨v, u, rfl, d1, d2⟩ := dats2 dv
    exact ⟨_, _, by rw [int_dat d1, int_dat d2], q w H _ (Ext.refl _ _) r rfl (dat_int ..)⟩
  · cases g
def gInt (_ : Mu) : List D → Option D
  | [.int i] => some (.int i)
  | [.bl k] => some (.int (if k then 1 else 0))
  | [.str s] => if s.length ≤ 640 then (PySem.intText? ⟨s.toArray⟩).map .int else none
  | _ => none
theorem call_intG : CallR X (.type "int") (rDs G gInt) := (call_int1.or call_int_str).imp fun xs H Q ⟨w, ds, d, r, dv, g, q⟩ => by
  unfold gInt at g
  split at g
  · cases g
    obtain ⟨v, rfl, d1⟩ := dats1 dv
    exact .inl (.inl ⟨_, by rw [int_dat d1], q w H _ (Ext.refl _ _) r rfl (dat_int ..)⟩)
  · cases g
    obtain ⟨v, rfl, d1⟩ := dats1 dv
    exact .inl (.inr ⟨_, by rw [bl_dat d1], q w H _ (Ext.refl _ _) r rfl (dat_int ..)⟩)
  · split at g
    · rename_i s hl
      obtain ⟨v, rfl, d1⟩ := dats1 dv
      cases e : PySem.intText? ⟨s.toArray⟩ with
      | none =>
        rw [e] at g
        cases g
      | some n =>
        rw [e] at g
        cases g
        refine .inr ⟨_, n, by rw [(str_dat d1).1], e, ?_, q w H _ (Ext.refl _ _) r rfl (dat_int ..)⟩
        show s.toArray.size ≤ 640
        simpa using hl
    · cases g
  · cases g
theorem call_str_bl : CallR X (.type "str") (fun xs H Q => ∃ k, xs = [.bl k] ∧ Q (.str (if k then "True" else "False")) H) := by
  intro pins s σ H xs us Q I r h
  obtain ⟨i, rfl, q⟩ := h
  obtain ⟨u, rfl, r1⟩ := vals1 r
  cases r1
  refine PySem.P.str_of_bool ⟨.str (if i then "True" else "False"), H, I.tok _, ⟨_, rfl⟩, q⟩
def gStr (_ : Mu) : List D → Option D
  | [.int i] => if i.natAbs.log2 < 1920 then mkS (toString i) else none
  | [.bl k] => mkS (if k then "True" else "False")
  | [.str s] => some (.str s)
  | _ => none
theorem call_strG : CallR X (.type "str") (rDs G gStr) := (call_str_int.or (call_str_bl.or SkE.call_str_str)).imp fun xs H Q ⟨w, ds, d, r, dv, g, q⟩ => by
  unfold gStr at g
  split at g
  · split at g
    · obtain ⟨v, rfl, d1⟩ := dats1 dv
      exact Or.inl ⟨_, by rw [int_dat d1], by assumption, q w H _ (Ext.refl _ _) r rfl (mkS_of g)⟩
    · cases g
  · obtain ⟨v, rfl, d1⟩ := dats1 dv
    exact .inr (.inl ⟨_, by rw [bl_dat d1], q w H _ (Ext.refl _ _) r rfl (mkS_of g)⟩)
  · cases g
    obtain ⟨v, rfl, d1⟩ := dats1 dv
    exact .inr (.inr ⟨_, by rw [(str_dat d1).1], q w H _ (Ext.refl _ _) r rfl (dat_str (str_dat d1).2)⟩)
  · cases g
def gTuple (μ : Mu) : List D → Option D
  | [d] => match peek μ d with
    | .tup xs => some (.tup xs)
    | .lst xs => some (.tup xs)
    | _ => none
  | _ => none
theorem call_tupleG (hK : X.K = G.K) : CallR X (.type "tuple") (rDs G gTuple) := call_tuple_of.imp fun xs H Q ⟨w, ds, d, r, dv, g, q⟩ => by
  unfold gTuple at g
  split at g
  · rename_i d0
    obtain ⟨v, rfl, d1⟩ := dats1 dv
    split at g
    · rename_i ys e
      cases g
      have e := peek_id e (fun _ z => by cases z)
      subst e
      obtain ⟨a, vs, rfl, h1, h2⟩ := tup_dat d1
      refine ⟨a, vs, rfl, .inr ⟨by rw [hK]; exact h1.sq, q w H _ (Ext.refl _ _) r rfl d1⟩⟩
    · rename_i ys e
      cases g
      obtain ⟨a, vs, rfl, h1, h2⟩ := peek_lst r d1 e
      refine ⟨a, vs, rfl, .inl ⟨SqL.of h1, fun l hl => ?_⟩⟩
      obtain ⟨n1, n2, n3⟩ := new_tup r h2 hl
      exact q w _ _ n1 n2 rfl n3
    · cases g
  · cases g
def gList (μ : Mu) : List D → Option D
  | [d] => match peek μ d with
    | .tup xs => some (.lst xs)
    | .lst xs => some (.lst xs)
    | _ => none
  | _ => none
theorem call_listG (hK : X.K = G.K) : CallR X (.type "list") (rDs G gList) := call_list_of.imp fun xs H Q ⟨w, ds, d, r, dv, g, q⟩ => by
  unfold gList at g
  split at g
  · rename_i d0
    obtain ⟨v, rfl, d1⟩ := dats1 dv
    split at g
    · rename_i ys e
      cases g
      have e := peek_id e (fun _ z => by cases z)
      subst e
      obtain ⟨a, vs, rfl, h1, h2⟩ := tup_dat d1
      refine ⟨a, vs, rfl, .inr (by rw [hK]; exact h1.sq), fun l hl => ?_⟩
      obtain ⟨n1, n2, n3⟩ := new_lst r h2 hl
      exact q w _ _ n1 n2 rfl n3
    · rename_i ys e
      cases g
      obtain ⟨a, vs, rfl, h1, h2⟩ := peek_lst r d1 e
      refine ⟨a, vs, rfl, .inl (SqL.of h1), fun l hl => ?_⟩
      obtain ⟨n1, n2, n3⟩ := new_lst r h2 hl
      exact q w _ _ n1 n2 rfl n3
    · cases g
  · cases g
/-! ### isinstance -/
def tyN (μ : Mu) (d : D) : Option String := match peek μ d with
  | .non => some "NoneType"
  | .bl _ => some "bool"
  | .int _ => some "int"
  | .str _ => some "str"
  | .tup _ => some "tuple"
  | .lst _ => some "list"
  | _ => none
def isT (a b : String) : Option Bool := if b == "bool" then some (a == "bool") else if b == "int" then some (a == "int" || a == "bool") else if b == "str" then some (a == "str") else if b == "tuple" then some (a == "tuple") else if b == "list" then some (a == "list") else none
def gIsi (μ : Mu) : List D → Option D
  | [d, .ty n] => (tyN μ d).bind fun a => (isT a n).map .bl
  | _ => none
theorem tyN_of {d : D} {v : V} {a : String} (r : Rep G w H) (hd : Dat G w H d v) (h : tyN w.μ d = some a) : TyX G.K H v (.type a) := by
  unfold tyN at h
  split at h
  · rename_i e
    cases h
    have e := peek_id e (fun _ z => by cases z)
    subst e
    simp only [Dat] at hd
    subst hd
    exact .base .non
  · rename_i e
    cases h
    have e := peek_id e (fun _ z => by cases z)
    subst e
    rw [bl_dat hd]
    exact .base (.bl _)
  · rename_i e
    cases h
    have e := peek_id e (fun _ z => by cases z)
    subst e
    rw [int_dat hd]
    exact .base (.int _)
  · rename_i e
    cases h
    have e := peek_id e (fun _ z => by cases z)
    subst e
    rw [(str_dat hd).1]
    exact .base (.str _)
  · rename_i e
    cases h
    have e := peek_id e (fun _ z => by cases z)
    subst e
    obtain ⟨a, vs, rfl, h1, h2⟩ := tup_dat hd
    rcases h1 with ⟨h1, _⟩ | ⟨o, its, n, h1, h3, _⟩
    · rcases h1 with h1 | ⟨o, h1⟩
      · exact .base (.tup h1)
      · exact .fTuple h1
    · exact .kTuple h1 h3
  · rename_i ys e
    cases h
    obtain ⟨a, vs, rfl, h1, h2⟩ := peek_lst r hd e
    exact .base (.lst h1)
  · cases h
theorem isT_of {a b : String} {k : Bool} (ha : a ∈ ["NoneType", "bool", "int", "str", "tuple", "list"]) (h : isT a b = some k) : kitB a b = some k := by
  unfold isT at h
  simp only [List.mem_cons, List.not_mem_nil, or_false] at ha
  split at h
  · rename_i e
    have e := eq_of_beq e
    subst e
    cases h
    rcases ha with rfl | rfl | rfl | rfl | rfl | rfl <;> decide +kernel
  split at h
  · rename_i e
    have e := eq_of_beq e
    subst e
    cases h
    rcases ha with rfl | rfl | rfl | rfl | rfl | rfl <;> decide +kernel
  split at h
  · rename_i e
    have e := eq_of_beq e
    subst e
    cases h
    rcases ha with rfl | rfl | rfl | rfl | rfl | rfl <;> decide +kernel
  split at h
  · rename_i e
    have e := eq_of_beq e
    subst e
    cases h
    rcases ha with rfl | rfl | rfl | rfl | rfl | rfl <;> decide +kernel
  split at h
  · rename_i e
    have e := eq_of_beq e
    subst e
    cases h
    rcases ha with rfl | rfl | rfl | rfl | rfl | rfl <;> decide +kernel
  · cases h
theorem tyN_mem {μ : Mu} {d : D} {a : String} (h : tyN μ d = some a) : a ∈ ["NoneType", "bool", "int", "str", "tuple", "list"] := by
  unfold tyN at h
  split at h <;> cases h <;> simp
theorem call_isiG (hK : X.K = G.K) : CallR X (.builtin "isinstance") (rDs G gIsi) := call_isi.imp fun xs H Q ⟨w, ds, d, r, dv, g, q⟩ => by
  unfold gIsi at g
  split at g
  · rename_i d0 n
    obtain ⟨v, u, rfl, d1, d2⟩ := dats2 dv
    cases e1 : tyN w.μ d0 with
    | none =>
      rw [e1] at g
      cases g
    | some a =>
      rw [e1] at g
      cases e2 : isT a n with
      | none =>
        rw [Option.bind_some, e2] at g
        cases g
      | some k =>
        rw [Option.bind_some, e2] at g
        cases g
        have d2 : u = .ty n := by simpa only [Dat] using d2
        subst d2
        exact ⟨v, _, _, _, k, rfl, .ty n, by rw [hK]; exact tyN_of r d1 e1, kit_ty (isT_of (tyN_mem e1) e2), q w H _ (Ext.refl _ _) r rfl (dat_bl ..)⟩
  · cases g
/-! ### methods of texts -/
def toStrs : List D → Option (List Str)
  | [] => some []
  | .str s :: r => (toStrs r).map fun t => ⟨s.toArray⟩ :: t
  | _ => none
theorem toStrs_of : ∀ {ds : List D} {vs : List V} {t : List Str}, Dats G w H ds vs → toStrs ds = some t → vs = t.map V.str
  | [], vs, t, h, e => by
    simp only [Dats] at h
    cases e
    exact h
  | d :: ds, vs, t, h, e => by
    simp only [Dats] at h
    obtain ⟨v, r, rfl, h1, h2⟩ := h
    cases d with
    | str s =>
      simp only [toStrs] at e
      cases q : toStrs ds with
      | none =>
        rw [q] at e
        cases e
      | some t' =>
        rw [q] at e
        cases e
        rw [toStrs_of h2 q, (str_dat h1).1]
        rfl
    | _ => cases e
def gJoin (μ : Mu) (a : D) : List D → Option D
  | [b] => match a, peek μ b with
    | .str s, .lst ys => (toStrs ys).bind fun t => if (t.map (·.length)).sum + t.length * s.length ≤ 16777216 then mkS (Txt.join ⟨s.toArray⟩ t) else none
    | _, _ => none
  | _ => none
theorem mt_joinG : MtR X "str.join" (rMt G gJoin) := mt_join.imp fun x xs H Q ⟨w, a, ds, d, r, da, dv, g, q⟩ => by
  unfold gJoin at g
  split at g
  · rename_i b
    split at g
    · rename_i s ys e
      obtain ⟨v, rfl, d1⟩ := dats1 dv
      obtain ⟨p, vs, rfl, h1, h2⟩ := peek_lst r d1 e
      cases e2 : toStrs ys with
      | none =>
        rw [e2] at g
        cases g
      | some t =>
        rw [e2, Option.bind_some] at g
        split at g
        · rename_i hl
          refine ⟨⟨s.toArray⟩, p, t, (str_dat da).1, rfl, .inl ?_, ?_, q w H _ (Ext.refl _ _) r rfl (mkS_of g)⟩
          · rw [← toStrs_of h2 e2]
            exact SqL.of h1
          · have : (⟨s.toArray⟩ : Str).length = s.length := by
              show s.toArray.size = s.length
              simp
            rw [this]
            exact hl
        · cases g
    · cases g
  · cases g
/-- a list of new texts -/
def mkSs (l : List Str) : Option D := if (l.all fun s => okS (cds s)) = true then some (.lst (l.map fun s => .str (cds s))) else none
theorem dats_strs : ∀ {l : List Str}, (∀ s ∈ l, okS (cds s) = true) → Dats G w H (l.map fun s => .str (cds s)) (l.map V.str)
  | [], _ => by simp [Dats]
  | s :: l, h => by
    simp only [List.map_cons, Dats]
    exact ⟨_, _, rfl, dat_cds (h s (by simp)), dats_strs fun s hs => h s (by simp [hs])⟩
def gSplit (_ : Mu) (a : D) : List D → Option D
  | [.str b] => match a with
    | .str s => if b.length ≠ 0 ∧ s.length + 2 ≤ line then mkSs (Txt.split ⟨s.toArray⟩ ⟨b.toArray⟩) else none
    | _ => none
  | _ => none
theorem mt_splitG : MtR X "str.split" (rMt G gSplit) := mt_split.imp fun x xs H Q ⟨w, a, ds, d, r, da, dv, g, q⟩ => by
  unfold gSplit at g
  split at g
  · rename_i b
    split at g
    · rename_i s
      obtain ⟨v, rfl, d1⟩ := dats1 dv
      split at g
      · rename_i hl
        unfold mkSs at g
        split at g
        · rename_i hk
          cases g
          refine ⟨⟨s.toArray⟩, ⟨b.toArray⟩, (str_dat da).1, by rw [(str_dat d1).1], ?_, ?_, ?_⟩
          · have : (⟨b.toArray⟩ : Str).length = b.length := by
              show b.toArray.size = b.length
              simp
            rw [this]
            simpa using hl.1
          · show s.toArray.size + 2 ≤ sizeLine
            rw [line_eq]
            simpa using hl.2
          · refine fun p hp => ?_
            obtain ⟨n1, n2, n3⟩ := new_lst r (dats_strs (List.all_eq_true.mp hk)) hp
            exact q w _ _ n1 n2 rfl n3
        · cases g
      · cases g
    · cases g
  · cases g
def gUpper (_ : Mu) (a : D) : List D → Option D
  | [] => match a with
    | .str s => if s.length ≤ 5592405 then mkS (Txt.upper ⟨s.toArray⟩) else none
    | _ => none
  | _ => none
theorem mt_upperG : MtR X "str.upper" (rMt G gUpper) := mt_upper.imp fun x xs H Q ⟨w, a, ds, d, r, da, dv, g, q⟩ => by
  unfold gUpper at g
  split at g
  · split at g
    · rename_i s
      split at g
      · rename_i hl
        refine ⟨⟨s.toArray⟩, (str_dat da).1, by simpa only [Dats] using dv, ?_, q w H _ (Ext.refl _ _) r rfl (mkS_of g)⟩
        show s.toArray.size ≤ 5592405
        simpa using hl
      · cases g
    · cases g
  · cases g
/-! ### methods -/
def tyD (T : Bool) (μ : Mu) (d : D) : Bool := match T, peek μ d with
  | true, .str _ => true
  | false, .lst _ => true
  | _, _ => false
def tyNm (T : Bool) : String := if T = true then "str" else "list"
theorem tyD_of {T : Bool} {d : D} {v : V} (r : Rep G w H) (hd : Dat G w H d v) (h : tyD T w.μ d = true) : tyV G.K (tyNm T) v H := by
  unfold tyD at h
  split at h
  · rename_i s e
    have e := peek_id e (fun _ z => by cases z)
    subst e
    rw [(str_dat hd).1]
    exact rfl
  · rename_i xs e
    obtain ⟨a, vs, rfl, h1, h2⟩ := peek_lst r hd e
    exact .inl ⟨rfl, vs, SqL.of h1⟩
  · cases h
/-- a method that may change its object -/
def rMx (G : Gs) (g : D → List D → M D) : V → List V → Hp → VK → Prop := fun x xs H Q => ∃ w a ds, Rep G w H ∧ Dat G w H a x ∧ Dats G w H ds xs ∧ Post G (fun _ _ _ => False) w H (g a ds w.μ) (vk G Q)
def liftM (g : Mu → D → List D → Option D) : D → List D → M D := fun a ds => lift fun μ => g μ a ds
theorem _root_.L2.MtR.lift {id : String} {g : Mu → D → List D → Option D} (h : MtR X id (rMt G g)) : MtR X id (rMx G (liftM g)) := h.imp fun x xs H Q ⟨w, a, ds, r, da, dv, p⟩ => by
  obtain ⟨d, g1, g2⟩ := Post.lift p
  exact ⟨w, a, ds, d, r, da, dv, g1, fun w' H' v e r m dv => g2 w' H' e r m v dv⟩
def fMx (T : Bool) (g : D → List D → M D) (fo : Env → M D) (fs : Env → M (List D)) : Env → M D := fun δ => bnd (fo δ) fun a => bnd (lift fun μ => if tyD T μ a = true then some () else none) fun _ => bnd (fs δ) fun ds => noM (g a ds)
theorem fMx_of {T : Bool} {g : D → List D → M D} {fo : Env → M D} {fs : Env → M (List D)} {σ : St} {δ : Env} {Q : VK} (hK : X.K = G.K) (r : Rep G w H) (en : EnvR G w H δ σ) (p : Post G (WAt W σ) w H (fMx T g fo fs δ w.μ) (vk G Q)) :
    tE G W fo σ H fun x H1 => tyV X.K (tyNm T) x H1 ∧ tA G W fs σ H1 fun xs H2 => rMx G g x xs H2 Q := by
  refine tE_of r en p fun x v w1 H1 e1 r1 en1 d1 h1 => ?_
  obtain ⟨u, g1, g2⟩ := h1.bnd.lift
  split at g1
  · rename_i ht
    refine ⟨by rw [hK]; exact tyD_of r1 d1 ht, ?_⟩
    refine tA_of r1 en1 (g2 w1 H1 (Ext.refl _ _) r1 rfl) fun ds vs w2 H2 e2 r2 en2 d2 h2 => ?_
    exact ⟨w2, x, ds, r2, Dat.ext e2.toSub _ _ d1, d2, h2.noM⟩
  · cases g1
theorem de_mx0 {T : Bool} {g : D → List D → M D} {o : Expr} {fo : Env → M D} {id : String} {name : Str} {apos pos : Pos} (hK : X.K = G.K) (pa : PySem.PlainAttrs (tyNm T)) (slot : PySem.Slot (tyNm T) name id) (hty : typeOf (.builtin id) = pure (.type "method_descriptor")) (hm : MtR X id (rMx G g)) (ho : DE G W X o fo)
    (hbase : attributeBase o name X.env (eval o X.env) = eval o X.env) (hline : (apos.endLine == pos.line) = true) : DE G W X (.Call (.Attribute o name apos) [] [] pos) (fMx T g fo fNil) := by
  refine (pe_bm0 pa slot hty hm ho hbase hline).imp fun σ H Q ⟨w, δ, r, en, p⟩ => ?_
  refine tE_of r en p fun x v w1 H1 e1 r1 en1 d1 h1 => ?_
  obtain ⟨u, g1, g2⟩ := h1.bnd.lift
  split at g1
  · rename_i ht
    refine ⟨by rw [hK]; exact tyD_of r1 d1 ht, w1, x, [], r1, d1, by simp [Dats], ?_⟩
    exact (g2 w1 H1 (Ext.refl _ _) r1 rfl).noM
  · cases g1
theorem de_mx {T : Bool} {g : D → List D → M D} {o e : Expr} {es : List Expr} {fo : Env → M D} {fs : Env → M (List D)} {id : String} {name : Str} {apos pos : Pos} (hK : X.K = G.K) (pa : PySem.PlainAttrs (tyNm T)) (slot : PySem.Slot (tyNm T) name id) (hty : typeOf (.builtin id) = pure (.type "method_descriptor")) (hm : MtR X id (rMx G g)) (ho : DE G W X o fo) (ha : DA G W X (e :: es) fs)
    (hbase : attributeBase o name X.env (eval o X.env) = eval o X.env)
    (hfew : ((backTo pos (starEach (e :: es) X.env)).all (fun x => !x.1) && (backToKw pos (keywordEach [] X.env)).all (fun x => x.1.isSome)
      && decide ((e :: es).length + ([] : List Keyword).length + (if ([] : List Keyword).isEmpty then 0 else 1) < 30)) = true)
    (hline : (apos.endLine == pos.line) = true) (hs : starEach (e :: es) X.env = (false, eval e X.env) :: starEach es X.env) (hplain : (backTo pos (starEach es X.env)).any (·.1) = false) :
    DE G W X (.Call (.Attribute o name apos) (e :: es) [] pos) (fMx T g fo fs) :=
  (pe_bm pa slot hty hm ho ha hbase hfew hline hs hplain).imp fun σ H Q ⟨w, δ, r, en, p⟩ => fMx_of hK r en p
theorem mt_appM : MtR X "list.append" (rMx G appD) := mt_app
/-! ### xs[i] = e, xs a changeable list -/
def fSetIx (fe fo fi : Env → M D) : Env → SM := fun δ => sB δ (fe δ) fun d => sB δ (fo δ) fun o => sB δ (fi δ) fun i μ => match o, i with
  | .loc k, .int j => match μ[k]? with
    | some (.lst xs) => match ixN xs.length j with
      | some m => some (.nx δ, μ.set k (.lst (xs.set m d)))
      | none => none
    | _ => none
  | _, _ => none
theorem ds_setIx {e o i : Expr} {fe fo fi : Env → M D} {p pos : Pos} (he : DE G W X e fe) (ho : DE G W X o fo) (hi : DE G W X i fi)
    (hs : swapsWithSole [.Subscript o i p] e pos.line X.env = pure false) (hw : swappedStores [.Subscript o i p] e X.env = pure none) (hsl : ∀ v, assign (.Subscript o i p) X.env v = (do
      let ov ← holding [v] (eval o X.env)
      let iv ← holding [v, ov] (eval i X.env)
      standAt p
      holding [v, ov, iv] (setItem ov iv v)
      release [v, ov, iv] [])) : DS G W X (.Assign [.Subscript o i p] e pos) (fSetIx fe fo fi) := by
  refine (ps_asg he (pg_sub ho hi set_list hsl) hs hw rfl).imp fun Dd σ H ⟨w, δ, r, en, p⟩ => ?_
  refine sE_of' r en p fun d v w1 H1 e1 r1 en1 dv p1 => ?_
  refine sE_of' r1 en1 p1 fun o x w2 H2 e2 r2 en2 dx p2 => ?_
  refine sE_of' r2 en2 p2 fun i y w3 H3 e3 r3 en3 dy p3 => ?_
  split at p3
  · rename_i k j
    split at p3
    · rename_i xs hk
      split at p3
      · rename_i m hm
        obtain ⟨a, rfl, hp⟩ := loc_at (Dat.ext e3.toSub _ _ dx) hk
        obtain ⟨vs, h1, h2⟩ := r3.at_ k a _ hp
        have dv3 := Dat.ext (e2.trans e3).toSub _ _ dv
        obtain ⟨e4, r4⟩ := write_lst r3 hp (by intro z; cases z) (Dats.set m h2 dv3)
        exact ⟨a, vs, j, m, rfl, int_dat dy, h1, by rw [h2.length]; exact hm, p3 _ _ σ e4 r4 (put_μ _ _ _ _) (en3.ext e4.toSub)⟩
      · exact p3.elim
    · exact p3.elim
  · exact p3.elim
end
end DL

set_option Elab.async false
set_option linter.all false
set_option maxRecDepth 100000
set_option maxHeartbeats 4000000
/-! DL9b: walks of any sequence, zip, list(range), truth values in sums, texts times ints, reversed slices. -/
namespace DL
open PySem L2 PySem.Spec
section
variable {G : Gs} {W : WX} {X : Cx} {e tg : Expr} {fe : Env → M D}
/-! ### walks by what is walked -/
def itmA : D → Option (List D)
  | .tup xs => some xs
  | .lst xs => some xs
  | .str s => some (chrD s)
  | _ => none
theorem _root_.L2.PI.alt {X : Cx} {tg e : Expr} {t : TI} (h : ∀ σ H R, t σ H R → ∃ t', PI X tg e t' ∧ t' σ H R) : PI X tg e t := ⟨fun pins s σ H R I q => by
  obtain ⟨t', h1, h2⟩ := h σ H R q
  exact h1.run pins s σ H R I h2⟩
theorem fItm_eq {k k' : D → Option (List D)} {δ : Env} {μ : Mu} (h : ∀ d μ', fe δ μ = some (.ok d, μ') → k d = k' d) : fItm k fe δ μ = fItm k' fe δ μ := by
  unfold fItm bnd lift
  cases q : fe δ μ with
  | none => rfl
  | some z =>
    obtain ⟨o, μ'⟩ := z
    cases o with
    | error x => rfl
    | ok d => simp only [h d μ' q]
theorem di_any (hK : X.K = G.K) (he : DE G W X e fe) : DI G W X tg e (fItm itmA fe) := by
  refine L2.PI.alt fun σ H R ⟨w, δ, r, en, p⟩ => ?_
  have go : ∀ {k : D → Option (List D)}, DI G W X tg e (fItm k fe) → (∀ d μ', fe δ w.μ = some (.ok d, μ') → itmA d = k d) → ∃ t', PI X tg e t' ∧ t' σ H R := fun hk h =>
    ⟨_, hk, w, δ, r, en, by rw [← fItm_eq h]; exact p⟩
  cases q : fe δ w.μ with
  | none => exact go (di_tup hK he) (fun d μ' z => by rw [q] at z; cases z)
  | some z =>
    obtain ⟨o, μ'⟩ := z
    cases o with
    | error x => exact go (di_tup hK he) (fun d μ' z => by rw [q] at z; cases z)
    | ok d =>
      have same : ∀ {k : D → Option (List D)}, itmA d = k d → ∀ d' μ'', fe δ w.μ = some (.ok d', μ'') → itmA d' = k d' := fun h d' μ'' z => by
        rw [q] at z
        cases z
        exact h
      cases d with
      | tup xs => exact go (di_tup hK he) (same rfl)
      | lst xs => exact go (di_lst hK he) (same rfl)
      | str s => exact go (di_str he) (same rfl)
      | _ => exact go (di_tup hK he) (same rfl)
def itmEA : List D → Option (List D)
  | [d] => (itmA d).map enumD
  | _ => none
theorem fIts_eq {k k' : List D → Option (List D)} {fs : Env → M (List D)} {δ : Env} {μ : Mu} (h : ∀ d μ', fs δ μ = some (.ok d, μ') → k d = k' d) : (bnd (fs δ) fun ds => lift fun _ => k ds) μ = (bnd (fs δ) fun ds => lift fun _ => k' ds) μ := by
  unfold bnd lift
  cases q : fs δ μ with
  | none => rfl
  | some z =>
    obtain ⟨o, μ'⟩ := z
    cases o with
    | error x => rfl
    | ok d => simp only [h d μ' q]
def itmEL : List D → Option (List D)
  | [.lst xs] => some (enumD xs)
  | _ => none
theorem itd_enumL {w : Wd} {H : Hp} {a : Addr} {vs : List V} {ds : List D} (h : LstAt w H a vs) (hd : Dats G w H ds vs) : ∃ S, S w H ∧ ItD G (Ite G.K a) (enumD ds) S := by
  refine ⟨fun w H => LstAt w H a vs ∧ Dats G w H ds vs, ⟨h, hd⟩, fun w w' H H' s e => ⟨s.1.ext e, Dats.ext e _ _ s.2⟩, fun w H s => ⟨vs, s.1.sq, by rw [s.2.length, enumD_len] <;> exact Nat.le_refl _⟩, fun w H i s hi => ?_, fun w H i x H' d s r hi y => ?_⟩
  · rw [enumD_len] at hi
    obtain ⟨v, h1, _⟩ := s.2.get (List.getElem?_eq_getElem hi)
    exact ⟨vs, v, s.1.sq, h1⟩
  · obtain ⟨T, v, rfl, hT, rfl, y⟩ := y
    have hl : i < ds.length := by
      have := (List.getElem?_eq_some_iff.mp hi).1
      rwa [enumD_len] at this
    have hdi : ds[i]? = some ds[i] := List.getElem?_eq_getElem hl
    rw [enumD_get hdi] at hi
    cases hi
    obtain ⟨u, h1, h2⟩ := s.2.get hdi
    have e := y vs s.1.sq
    rw [h1] at e
    cases e
    exact new_pair r hT h2
theorem di_enumL {fs : Env → M (List D)} {p pos tpos : Pos} {elts : List Expr} {kk : Nat} (hK : X.K = G.K) (hg : Gl X "enumerate") (hm : X.mg "enumerate" = none) (ha : DA G W X [e] fs) (hs : starEach [e] X.env = [(false, eval e X.env)]) :
    DI G W X (.Tuple elts kk tpos) (.Call (.Name "enumerate" p) [e] [] pos) (fun δ => bnd (fs δ) fun ds => lift fun _ => itmEL ds) := by
  refine (pi_enum hg hm ha hs).imp fun σ H R ⟨w, δ, r, en, p⟩ => ?_
  refine tA_of r en p fun ds vs w1 H1 e1 r1 en1 dv p1 => ?_
  obtain ⟨es, g1, g2⟩ := p1.lift
  unfold itmEL at g1
  split at g1
  · rename_i xs
    cases g1
    obtain ⟨v, rfl, d1⟩ := dats1 dv
    simp only [Dat] at d1
    obtain ⟨a, vs, rfl, h1, h2⟩ := d1
    obtain ⟨S, s0, hS⟩ := itd_enumL h1 h2
    exact ⟨a, vs, rfl, by rw [hK]; exact h1.sq, by rw [hK]; exact g2 w1 H1 (Ext.refl _ _) r1 rfl _ S s0 hS⟩
  · cases g1
def itmEO : List D → Option (List D)
  | [.tup xs] => some (enumD xs)
  | [.lst xs] => some (enumD xs)
  | [.str s] => some (enumD (chrD s))
  | _ => none
theorem di_enumA {fs : Env → M (List D)} {p pos tpos : Pos} {elts : List Expr} {kk : Nat} (hK : X.K = G.K) (hg : Gl X "enumerate") (hm : X.mg "enumerate" = none) (ha : DA G W X [e] fs) (hs : starEach [e] X.env = [(false, eval e X.env)]) :
    DI G W X (.Tuple elts kk tpos) (.Call (.Name "enumerate" p) [e] [] pos) (fun δ => bnd (fs δ) fun ds => lift fun _ => itmEO ds) := by
  refine L2.PI.alt fun σ H R ⟨w, δ, r, en, p'⟩ => ?_
  have go : ∀ {k : List D → Option (List D)}, DI G W X (.Tuple elts kk tpos) (.Call (.Name "enumerate" p) [e] [] pos) (fun δ => bnd (fs δ) fun ds => lift fun _ => k ds) → (∀ d μ', fs δ w.μ = some (.ok d, μ') → itmEO d = k d) →
      ∃ t', PI X (.Tuple elts kk tpos) (.Call (.Name "enumerate" p) [e] [] pos) t' ∧ t' σ H R := fun hk h =>
    ⟨_, hk, w, δ, r, en, by
      show Post G (WAt W σ) w H ((bnd (fs δ) fun ds => lift fun _ => _) w.μ) _
      rw [← fIts_eq h]
      exact p'⟩
  cases q : fs δ w.μ with
  | none => exact go (di_enumT hK hg hm ha hs) (fun d μ' z => by rw [q] at z; cases z)
  | some z =>
    obtain ⟨o, μ'⟩ := z
    cases o with
    | error x => exact go (di_enumT hK hg hm ha hs) (fun d μ' z => by rw [q] at z; cases z)
    | ok ds =>
      have same : ∀ {k : List D → Option (List D)}, itmEO ds = k ds → ∀ d' μ'', fs δ w.μ = some (.ok d', μ'') → itmEO d' = k d' := fun h d' μ'' z => by
        rw [q] at z
        cases z
        exact h
      by_cases hstr : ∃ s, ds = [.str s]
      · obtain ⟨s, rfl⟩ := hstr
        exact go (di_enumS hg hm ha hs) (same rfl)
      · by_cases hlst : ∃ xs, ds = [.lst xs]
        · obtain ⟨xs, rfl⟩ := hlst
          exact go (di_enumL hK hg hm ha hs) (same rfl)
        · refine go (di_enumT hK hg hm ha hs) (same ?_)
          unfold itmEO itmE
          split
          · rfl
          · rename_i s
            exact absurd ⟨s, rfl⟩ hlst
          · rename_i s
            exact absurd ⟨s, rfl⟩ hstr
          · rename_i h1 h2 h3
            split
            · rename_i xs
              exact absurd rfl (h1 xs)
            · rfl
/-! ### zip -/
def zipD : List D → List D → List D
  | x :: xs, y :: ys => .tup [x, y] :: zipD xs ys
  | _, _ => []
theorem zipD_len : ∀ xs ys : List D, (zipD xs ys).length = min xs.length ys.length
  | [], ys => by simp [zipD]
  | x :: xs, [] => by simp [zipD]
  | x :: xs, y :: ys => by simp only [zipD, List.length_cons, zipD_len xs ys]; omega
theorem zipD_get : ∀ {xs ys : List D} {i : Nat} {x y : D}, xs[i]? = some x → ys[i]? = some y → (zipD xs ys)[i]? = some (.tup [x, y])
  | [], _, _, _, _, h, _ => by simp at h
  | _ :: _, [], _, _, _, _, h => by simp at h
  | x :: xs, y :: ys, 0, _, _, h, h' => by
    simp only [List.getElem?_cons_zero, Option.some.injEq] at h h'
    simp [zipD, h, h']
  | x :: xs, y :: ys, i + 1, _, _, h, h' => by
    simp only [List.getElem?_cons_succ] at h h'
    simp only [zipD, List.getElem?_cons_succ]
    exact zipD_get h h'
theorem new_two {w : Wd} {H : Hp} {T : Addr} {d e : D} {v u : V} (r : Rep G w H) (hT : H T = none) (dv : Dat G w H d v) (du : Dat G w H e u) :
    Ext w w H (upd H T (.tup [v, u])) ∧ Rep G w (upd H T (.tup [v, u])) ∧ Dat G w (upd H T (.tup [v, u])) (.tup [d, e]) (.ref T) :=
  new_tup r (ds := [d, e]) (vs := [v, u]) (by simp only [Dats]; exact ⟨_, _, rfl, dv, _, _, rfl, du, rfl⟩) hT
theorem itd_zip {w : Wd} {H : Hp} {a b : Addr} {vs us : List V} {ds es : List D} (h : LstAt w H a vs) (hd : Dats G w H ds vs) (h' : LstAt w H b us) (hd' : Dats G w H es us) : ∃ S, S w H ∧ ItD G (Itz G.K a b) (zipD ds es) S := by
  refine ⟨fun w H => LstAt w H a vs ∧ Dats G w H ds vs ∧ LstAt w H b us ∧ Dats G w H es us, ⟨h, hd, h', hd'⟩, fun w w' H H' s e => ⟨s.1.ext e, Dats.ext e _ _ s.2.1, s.2.2.1.ext e, Dats.ext e _ _ s.2.2.2⟩, fun w H s => ⟨vs, us, s.1.sq, s.2.2.1.sq, ?_⟩, fun w H i s hi => ?_, fun w H i x H' d s r hi y => ?_⟩
  · rw [zipD_len, s.2.1.length, s.2.2.2.length]
    omega
  · rw [zipD_len] at hi
    obtain ⟨v, h1, _⟩ := s.2.1.get (List.getElem?_eq_getElem (show i < ds.length by omega))
    obtain ⟨u, h2, _⟩ := s.2.2.2.get (List.getElem?_eq_getElem (show i < es.length by omega))
    exact ⟨vs, us, v, u, s.1.sq, s.2.2.1.sq, h1, h2⟩
  · obtain ⟨T, v, u, rfl, hT, rfl, y1, y2⟩ := y
    have hl : i < min ds.length es.length := by
      have := (List.getElem?_eq_some_iff.mp hi).1
      rwa [zipD_len] at this
    have h1 : ds[i]? = some (ds[i]'(by omega)) := List.getElem?_eq_getElem (by omega)
    have h2 : es[i]? = some (es[i]'(by omega)) := List.getElem?_eq_getElem (by omega)
    rw [zipD_get h1 h2] at hi
    cases hi
    obtain ⟨v', g1, g2⟩ := s.2.1.get h1
    obtain ⟨u', k1, k2⟩ := s.2.2.2.get h2
    have e1 := y1 vs s.1.sq
    have e2 := y2 us s.2.2.1.sq
    rw [g1] at e1
    rw [k1] at e2
    cases e1
    cases e2
    exact new_two r hT g2 k2
def itmZ : List D → Option (List D)
  | [.lst xs, .lst ys] => some (zipD xs ys)
  | _ => none
theorem di_zip {e2 : Expr} {fs : Env → M (List D)} {p pos tpos : Pos} {elts : List Expr} {kk : Nat} (hK : X.K = G.K) (hg : Gl X "zip") (hm : X.mg "zip" = none) (ha : DA G W X [e, e2] fs)
    (hs : starEach [e, e2] X.env = (false, eval e X.env) :: starEach [e2] X.env) (hpl : (backTo pos (starEach [e2] X.env)).any (·.1) = false) :
    DI G W X (.Tuple elts kk tpos) (.Call (.Name "zip" p) [e, e2] [] pos) (fun δ => bnd (fs δ) fun ds => lift fun _ => itmZ ds) := by
  refine (RZ.pi_zipA hg hm ha hs hpl).imp fun σ H R ⟨w, δ, r, en, p⟩ => ?_
  refine tA_of r en p fun ds vs w1 H1 e1 r1 en1 dv p1 => ?_
  obtain ⟨es, g1, g2⟩ := p1.lift
  unfold itmZ at g1
  split at g1
  · rename_i xs ys
    cases g1
    obtain ⟨v, u, rfl, d1, d2⟩ := dats2 dv
    simp only [Dat] at d1 d2
    obtain ⟨a, vs, rfl, h1, h2⟩ := d1
    obtain ⟨b, us, rfl, h3, h4⟩ := d2
    obtain ⟨S, s0, hS⟩ := itd_zip h1 h2 h3 h4
    exact ⟨a, b, vs, us, rfl, .inl ⟨by rw [hK]; exact h1.sq, by rw [hK]; exact h3.sq, by rw [hK]; exact g2 w1 H1 (Ext.refl _ _) r1 rfl _ S s0 hS⟩⟩
  · cases g1
/-! ### list(range(n)) -/
def gLrng (_ : Mu) : List D → Option D
  | [.int n] => if 0 ≤ n ∧ n ≤ 16777216 then some (.lst (rngD n)) else none
  | _ => none
theorem rgV_dats {w : Wd} {H : Hp} (n : Int) : Dats G w H (rngD n) (L2.rgV 0 n) := by
  have key : ∀ l : List Nat, Dats G w H (l.map fun i => D.int (i : Nat)) (l.map fun i => V.int (0 + (i : Nat))) := fun l => by
    induction l with
    | nil => simp [Dats]
    | cons a l ih =>
      simp only [List.map_cons, Dats]
      exact ⟨_, _, rfl, by simp [Dat], ih⟩
  have := key (List.range n.toNat)
  unfold rngD L2.rgV
  rwa [Int.sub_zero]
theorem de_lrng {a : Expr} {p p2 pos pos2 : Pos} (hc : X.calm = true) (hg : Gl X "list") (hm : X.mg "list" = none) (hg2 : Gl X "range") (hm2 : X.mg "range" = none) (ha : DE G W X a fe) (na : starEach [a] X.env = (false, eval a X.env) :: starEach [] X.env) :
    DE G W X (.Call (.Name "list" p) [.Call (.Name "range" p2) [a] [] pos2] [] pos) (fDs gLrng (fCons fe fNil)) := by
  refine (pe_listRg hc hg hm (prg_1 hg2 hm2 ha na) rfl).imp fun σ H Q ⟨w, δ, r, en, p⟩ => ?_
  have p' : Post G (WAt W σ) w H (bnd (fe δ) (fun d => bnd (bnd (fNil δ) fun ds => ret (d :: ds)) fun a => lift fun μ => gLrng μ a) w.μ) (vk G Q) := by
    rw [← bnd_assoc]
    exact p
  refine tE_of r en p' fun d v w1 H1 e1 r1 en1 dv p1 => ?_
  obtain ⟨o, g1, g2⟩ := Post.lift (f := fun μ => gLrng μ [d]) p1
  unfold gLrng at g1
  split at g1
  · rename_i n hn
    cases hn
    split at g1
    · rename_i hb
      cases g1
      refine ⟨n, int_dat dv, ⟨by omega, by omega, by omega, by omega, by omega⟩, fun q hq => ?_⟩
      obtain ⟨n1, n2, n3⟩ := new_lst r1 (rgV_dats (G := G) (w := w1) (H := H1) n) hq
      exact g2 w1 _ n1 n2 rfl _ n3
    · cases g1
  · cases g1
/-! ### truth values in sums -/
def b2 (k : Bool) : Int := if k = true then 1 else 0
def gAdd2 (μ : Mu) (a b : D) : Option D := match a, b with
  | .bl k, .int j => some (.int (b2 k + j))
  | _, _ => gAdd μ a b
def gSub2 (μ : Mu) (a b : D) : Option D := match a, b with
  | .bl k, .int j => some (.int (b2 k - j))
  | _, _ => gSub μ a b
theorem op_add_bi : OpR X (binaryOp .Add) (fun x y H Q => ∃ k j, x = .bl k ∧ y = .int j ∧ Q (.int (b2 k + j)) H) := by
  intro pins s σ H x y v u Q I rx ry h
  obtain ⟨k, j, rfl, rfl, q⟩ := h
  cases rx
  obtain ⟨t, rfl⟩ := ry
  exact PySem.IntBool.add_bool_int ⟨.int (b2 k + j), H, I.tok _, ⟨_, rfl⟩, q⟩
theorem op_sub_bi : OpR X (binaryOp .Sub) (fun x y H Q => ∃ k j, x = .bl k ∧ y = .int j ∧ Q (.int (b2 k - j)) H) := by
  intro pins s σ H x y v u Q I rx ry h
  obtain ⟨k, j, rfl, rfl, q⟩ := h
  cases rx
  obtain ⟨t, rfl⟩ := ry
  exact PySem.IntBool.sub_bool_int ⟨.int (b2 k - j), H, I.tok _, ⟨_, rfl⟩, q⟩
theorem op_addG2 (hK : X.K = G.K) : OpR X (binaryOp .Add) (rD G gAdd2) := (op_add_bi.or (op_addG hK)).imp fun x y H Q ⟨w, a, b, d, r, da, db, g, q⟩ => by
  unfold gAdd2 at g
  split at g
  · cases g
    exact .inl ⟨_, _, bl_dat da, int_dat db, q w H _ (Ext.refl _ _) r rfl (dat_int ..)⟩
  · exact .inr ⟨w, a, b, d, r, da, db, g, q⟩
theorem op_subG2 : OpR X (binaryOp .Sub) (rD G gSub2) := (op_sub_bi.or op_subG).imp fun x y H Q ⟨w, a, b, d, r, da, db, g, q⟩ => by
  unfold gSub2 at g
  split at g
  · cases g
    exact .inl ⟨_, _, bl_dat da, int_dat db, q w H _ (Ext.refl _ _) r rfl (dat_int ..)⟩
  · exact .inr ⟨w, a, b, d, r, da, db, g, q⟩
end
end DL

set_option Elab.async false
set_option linter.all false
set_option maxRecDepth 100000
set_option maxHeartbeats 4000000
/-! DL9c: xs[::-1] of lists and tuples. -/
namespace DL
open PySem PySem.Spec PyProof.Rows L2 HT
section
variable {prog : Program} {w : World} {A : Around} {E : Value → Shared → Prop} {s : Shared}
theorem adjust_rev (n : Nat) : Builtin.Slice.sliceAdjust none none (-1) (n : Int) = ((n : Int) - 1, -1) := by
  unfold Builtin.Slice.sliceAdjust
  rfl
theorem places_rev (n : Nat) : Builtin.Slice.slicePlaces ((n : Int) - 1) (-1) (-1) = n := by
  unfold Builtin.Slice.slicePlaces
  have h1 : ¬ ((-1 : Int) > 0) := by omega
  simp only [h1, if_false, show (- -1 : Int) = 1 by decide, Int.ediv_one]
  split <;> omega
theorem fm_range {α : Type} : ∀ (l : List α) (f : Nat → Option α), (∀ m, m < l.length → f m = l[m]?) → (List.range l.length).filterMap f = l
  | [], f, _ => rfl
  | a :: l, f, h => by
    have h0 := h 0 (by simp)
    rw [List.length_cons, List.range_succ_eq_map, List.filterMap_cons, h0]
    simp only [List.getElem?_cons_zero, List.filterMap_map]
    rw [fm_range l (f ∘ Nat.succ) fun m hm => by
      have := h (m + 1) (by simp only [List.length_cons]; omega)
      simpa using this]
theorem sliceApplied_rev {sl : Addr} {vs : Value} {n : Nat} {Q : Int × Int × Nat → Shared → Prop} (hs : s.heap.IsSliceOf sl .none .none vs) (ps : IsPart vs (some (-1)))
    (h : Q ((n : Int) - 1, -1, n) s) : wpAny (model prog w) A (Builtin.Slice.sliceApplied (.ref sl) (pure (n : Int))) Q E s := by
  obtain ⟨os, hos, hcs, hds⟩ := id hs
  unfold Builtin.Slice.sliceApplied Builtin.Slice.sliceFields
  refine wpAny_bind (wpAny_bind (wpAny_field hos hds (x := .none) rfl (wpAny_bind (wpAny_field hos hds (x := .none) rfl (wpAny_bind (wpAny_field hos hds (x := vs) rfl (wpAny_pure ?_)))))))
  refine wpAny_bind (slicePart_ ps ?_)
  show wpAny _ _ (if ((-1 : Int) == 0) = true then _ else _) _ _ s
  rw [if_neg (by decide)]
  refine wpAny_bind (slicePart_none (wpAny_bind (slicePart_none (wpAny_bind (wpAny_pure ?_)))))
  show wpAny _ _ (match Builtin.Slice.sliceAdjust none none (-1) (n : Int) with | (lo, hi) => pure (lo, (-1 : Int), Builtin.Slice.slicePlaces lo hi (-1))) _ _ s
  rw [adjust_rev n]
  show wpAny _ _ (pure ((n : Int) - 1, (-1 : Int), Builtin.Slice.slicePlaces ((n : Int) - 1) (-1) (-1))) _ _ s
  rw [places_rev]
  exact wpAny_pure h
theorem pick_rev (xs : Array Value) : ((List.range xs.size).filterMap fun (m : Nat) => xs[(((xs.size : Int) - 1) + (m : Int) * (-1)).toNat]?).toArray = xs.toList.reverse.toArray := by
  congr 1
  have h : ∀ m, m < xs.size → xs[(((xs.size : Int) - 1) + (m : Int) * (-1)).toNat]? = xs.toList.reverse[m]? := fun m hm => by
    rw [List.getElem?_reverse (by simpa using hm)]
    have e : (((xs.size : Int) - 1) + (m : Int) * (-1)).toNat = xs.size - 1 - m := by omega
    rw [e]
    simp
  have hl : xs.size = xs.toList.reverse.length := by simp
  have := fm_range xs.toList.reverse (fun m => xs[(((xs.size : Int) - 1) + (m : Int) * (-1)).toNat]?) fun m hm => h m (by rw [hl]; exact hm)
  rw [← hl] at this
  exact this
theorem getItem_tuple_rev {t sl : Addr} {items : Array Value} {vs : Value} {Q : Value → Shared → Prop} (ht : IsTup s.heap t items) (hs : s.heap.IsSliceOf sl .none .none vs) (ps : IsPart vs (some (-1)))
    (h : Q (.ref s.heap.objs.size) { s with heap := s.heap.push { cls := .type "tuple", data := .seq items.toList.reverse.toArray } })
    (hsz : items.size ≤ sizeLine) : wpAny (model prog w) A (getItem (.ref t) (.ref sl)) Q E s := by
  have htake : sizeOk (.seq items.toList.reverse.toArray) := by
    show items.toList.reverse.toArray.size ≤ sizeLine
    simpa using hsz
  obtain ⟨os, hos, hcs, hds⟩ := id hs
  have hTs : s.TypeIs (.ref sl) "slice" := ⟨os, hos, hcs⟩
  unfold getItem
  try with_reducible refine wpAny_holding ?_
  first | refine wpAny_bind (wpAny_pure ?_) | skip
  refine wpAny_bind (wpAny_sequenceKey ht.typeIs (by decide) ?_)
  refine wpAny_bind (wpAny_callSpecial?_slot (name := Str.ofString "__getitem__") ht.typeIs PyProof.Rows.slot_tuple_getitem
    (wpAny_call_entry PyProof.Rows.slot_tuple_getitem ht.typeIs entry_tuple_getitem ?_ (args_tuple_getitem _ _)))
  show wpAny _ _ (Builtin.Tuple.tupleItemsOf (.ref t) >>= _) _ _ s
  refine wpAny_bind (tupleItemsOf_ ht ?_)
  refine wpAny_bind (wpAny_typeOf hTs ?_)
  rw [if_pos (by decide)]
  refine wpAny_bind (sliceApplied_rev (n := items.size) hs ps ?_)
  have hno : ¬ ((((items.size : Int) - 1) == 0 && (-1 : Int) == 1 && items.size == items.size) = true) := by
    intro q
    rw [Bool.and_eq_true, Bool.and_eq_true] at q
    exact absurd q.1.2 (by decide)
  show wpAny _ _ (if (((items.size : Int) - 1) == 0 && (-1 : Int) == 1 && items.size == items.size) = true then _ else _) _ _ s
  rw [if_neg hno, pick_rev]
  first
    | exact wpAny_bind (m := Builtin.Tuple.tupleExact _) (wpAny_newObj_type (wpAny_pure ⟨_, rfl, wpAny_pure h⟩) htake)
    | exact wpAny_bind (m := Builtin.Tuple.tupleExact _) (wpAny_newObj_type (wpAny_bind (wpAny_pure (wpAny_pure ⟨_, rfl, wpAny_pure h⟩))) htake)
    | exact wpAny_bind (wpAny_bind (m := Builtin.Tuple.tupleExact _) (wpAny_newObj_type (wpAny_pure (wpAny_pure ⟨_, rfl, wpAny_pure h⟩)) htake))
    | exact wpAny_bind (wpAny_bind (m := Builtin.Tuple.tupleExact _) (wpAny_newObj_type (wpAny_pure ⟨_, rfl, wpAny_pure h⟩) htake))
end
def tRevT (K : PySem.W.Frag) (te : TE) : TE := fun σ H Q => te σ H fun x H1 => (∃ a xs, x = .ref a ∧ SqL K H1 a xs ∧ ∀ p, H1 p = none → Q (.ref p) (upd H1 p (.lst xs.reverse))) ∨ (∃ a xs, x = .ref a ∧ SqT K H1 a xs ∧ ∀ p, H1 p = none → Q (.ref p) (upd H1 p (.tup xs.reverse)))
theorem pe_revA {X : Cx} {e : Expr} {te : TE} {k : Nat} {p1 p2 p3 pos : Pos} (he : PE X e te) : PE X (.Subscript e (.Slice none none (some (.UnaryOp .USub (.Constant (.int 1) k p1) p2)) p3) pos) (tRevT X.K te) := by
  refine ⟨fun pins s σ H Q I h => ?_⟩
  refine Subscript_ (thn (he.run pins s σ H _ I h) fun v s1 ⟨x, H1, I1, r1, q1⟩ => ?_)
  have hst : PO X (some (.UnaryOp .USub (.Constant (.int 1) k p1) p2)) (tPart (tUn (rU fun i => .int (-i)) (tC (.int 1)))) := po_some (pe_un un_neg pe_int)
  refine wpAny_Slice (thn (po_none.run pins s1 σ H1 (fun o H2 => o = none ∧ H2 = H1) I1 ⟨rfl, rfl⟩) fun vl s2 ⟨l, H2, I2, pl, el, e2⟩ => ?_)
  subst el e2
  refine thn (po_none.run pins s2 σ H2 (fun o H3 => o = none ∧ H3 = H2) I2 ⟨rfl, rfl⟩) fun vu s3 ⟨u, H3, I3, pu, eu, e3⟩ => ?_
  subst eu e3
  refine thn (hst.run pins s3 σ H3 (fun o H4 => o = some (-1) ∧ H4 = H3) I3 ⟨1, rfl, -1, rfl, rfl, rfl⟩) fun vs s4 ⟨o, H4, I4, ps, eo, e4⟩ => ?_
  subst eo e4
  have I5 : Inv X pins σ H4 { s4 with heap := s4.heap.push { cls := .type "slice", data := .fields #[vl, vu, vs] } } := I4.kept (t' := s4.toks) fun b ob q => Heap.get?_push_of_some _ q
  rcases q1 with ⟨a, xs, ex, hx, q⟩ | ⟨a, xs, ex, hx, q⟩
  · subst ex
    cases r1
    obtain ⟨its, r, ht, hz⟩ := I5.list hx
    have hlen := r.length
    show wpAny (model X.prog X.w) X.A (subscriptTail e (.Slice none none (some (.UnaryOp .USub (.Constant (.int 1) k p1) p2)) p3) (.ref a) (.ref s4.heap.objs.size)) (EP X pins σ Q) X.xe { s4 with heap := s4.heap.push { cls := .type "slice", data := .fields #[vl, vu, vs] } }
    refine tail_any (ops := [.ref a, .ref s4.heap.objs.size]) ht.isList.typeIs (PySem.slot_list_getitem.lookup) ?_ (by with_unfolding_all rfl)
    refine wpAny_getItem_list_slice ht.isList (Heap.IsSliceOf.new _ vl vu vs) pl pu ps (by decide) ?_ (by rw [List.size_toArray]; omega)
    rw [PySem.W.krv_pick]
    refine ⟨.ref _, _, I5.laid (t' := s4.toks) (o := .lst xs.reverse) (fun b ob q => Heap.get?_push_of_some _ q) (Nat.le_refl _) ?_, rfl, q _ (I5.hok.fresh (Nat.le_refl _))⟩
    exact ⟨by rw [List.length_reverse]; exact hz, _, 0, r.reverse, Heap.get?_push_size _ rfl⟩
  · subst ex
    cases r1
    obtain ⟨its, r, ht, hz⟩ := I5.tuple hx
    have hlen := r.length
    cases pl
    cases pu
    show wpAny (model X.prog X.w) X.A (subscriptTail e (.Slice none none (some (.UnaryOp .USub (.Constant (.int 1) k p1) p2)) p3) (.ref a) (.ref s4.heap.objs.size)) (EP X pins σ Q) X.xe { s4 with heap := s4.heap.push { cls := .type "slice", data := .fields #[.none, .none, vs] } }
    refine tail_any (ops := [.ref a, .ref s4.heap.objs.size]) ht.typeIs (PyProof.Rows.slot_tuple_getitem.lookup) ?_ (by with_unfolding_all rfl)
    refine getItem_tuple_rev ht (Heap.IsSliceOf.new _ .none .none vs) ps ?_ (by rw [List.size_toArray]; omega)
    refine ⟨.ref _, _, I5.laid (t' := s4.toks) (o := .tup xs.reverse) (fun b ob q => Heap.get?_push_of_some _ q) (Nat.le_refl _) ?_, rfl, q _ (I5.hok.fresh (Nat.le_refl _))⟩
    exact ⟨by rw [List.length_reverse]; exact hz, _, r.reverse, IsTup.new _ _⟩
def gRev (μ : Mu) (d : D) : Option D := match peek μ d with
  | .tup xs => some (.tup xs.reverse)
  | .lst xs => some (.lst xs.reverse)
  | _ => none
section
variable {G : Gs} {W : WX} {X : Cx}
theorem Dats.rev {w : Wd} {H : Hp} : ∀ {ds : List D} {vs : List V}, Dats G w H ds vs → Dats G w H ds.reverse vs.reverse
  | [], vs, h => by
    simp only [Dats] at h
    subst h
    simp [Dats]
  | d :: ds, vs, h => by
    simp only [Dats] at h
    obtain ⟨v, r, rfl, h1, h2⟩ := h
    rw [List.reverse_cons, List.reverse_cons]
    exact Dats.append h2.rev (by simp only [Dats]; exact ⟨v, [], rfl, h1, rfl⟩)
theorem de_rev {e : Expr} {fe : Env → M D} {k : Nat} {p1 p2 p3 pos : Pos} (hK : X.K = G.K) (he : DE G W X e fe) : DE G W X (.Subscript e (.Slice none none (some (.UnaryOp .USub (.Constant (.int 1) k p1) p2)) p3) pos) (fUn gRev fe) := by
  refine (pe_revA he).imp fun σ H Q ⟨w, δ, r, en, p⟩ => ?_
  refine tE_of r en p fun d v w1 H1 e1 r1 en1 dv p1 => ?_
  obtain ⟨z, g1, g2⟩ := p1.lift
  unfold gRev at g1
  split at g1
  · rename_i xs e2
    cases g1
    have e2 := peek_id e2 (fun _ z => by cases z)
    subst e2
    obtain ⟨a, vs, rfl, h1, h2⟩ := tup_dat dv
    refine .inr ⟨a, vs, rfl, by rw [hK]; exact h1.sq, fun q hq => ?_⟩
    obtain ⟨n1, n2, n3⟩ := new_tup r1 h2.rev hq
    exact g2 w1 _ n1 n2 rfl _ n3
  · rename_i xs e2
    cases g1
    obtain ⟨a, vs, rfl, h1, h2⟩ := peek_lst r1 dv e2
    refine .inl ⟨a, vs, rfl, SqL.of h1, fun q hq => ?_⟩
    obtain ⟨n1, n2, n3⟩ := new_lst r1 h2.rev hq
    exact g2 w1 _ n1 n2 rfl _ n3
  · cases g1
end
end DL

set_option Elab.async false
set_option linter.all false
set_option maxRecDepth 100000
set_option maxHeartbeats 4000000
/-! DL9d: a written dict of texts. -/
namespace DL
open PySem L2 PySem.Spec
def kvF (p : List Nat × List Nat) : Key × V := (.inr ⟨p.1.toArray⟩, .str ⟨p.2.toArray⟩)
theorem dlook_cons (p : List Nat × List Nat) (r : List (List Nat × List Nat)) (z : List Nat) : dlook (p :: r) z = if p.1 = z then some p.2 else dlook r z := rfl
theorem merge_look : ∀ (kvs : List (List Nat × List Nat)) (acc : List (Key × V)), (kvs.map (·.1)).Nodup → ∀ z : List Nat, valV (mergeK acc (kvs.map kvF)) (.inr ⟨z.toArray⟩) = match dlook kvs z with
    | some s => some (.str ⟨s.toArray⟩)
    | none => valV acc (.inr ⟨z.toArray⟩)
  | [], acc, _, z => rfl
  | p :: r, acc, hn, z => by
    rw [List.map_cons, List.nodup_cons] at hn
    have ih := merge_look r (putK acc (.inr ⟨p.1.toArray⟩) (.str ⟨p.2.toArray⟩)) hn.2 z
    show valV (mergeK (putK acc (.inr ⟨p.1.toArray⟩) (.str ⟨p.2.toArray⟩)) (r.map kvF)) _ = _
    rw [ih, dlook_cons]
    by_cases h : p.1 = z
    · rw [if_pos h]
      have hq : dlook r z = none := by
        cases q : dlook r z with
        | none => rfl
        | some s =>
          exfalso
          apply hn.1
          rw [h]
          clear ih hn
          induction r with
          | nil => cases q
          | cons a r ih =>
            rw [dlook_cons] at q
            split at q
            · rename_i e
              rw [List.map_cons, e]
              exact List.mem_cons_self
            · rw [List.map_cons]
              exact List.mem_cons_of_mem _ (ih q)
      rw [hq]
      simp only
      rw [valV_put, if_pos (by rw [h])]
    · rw [if_neg h]
      cases q : dlook r z with
      | some s => rfl
      | none =>
        simp only
        rw [valV_put, if_neg]
        intro e
        apply h
        have e : (⟨z.toArray⟩ : Str) = ⟨p.1.toArray⟩ := by injection e
        have e : z.toArray = p.1.toArray := by injection e
        simpa using e.symm
section
variable {G : Gs} {W : WX} {X : Cx} {pos : Pos}
def txtB (s : List Nat) : Expr → Bool
  | .Constant (.str c) _ _ => c.cps.toList == s && okS s
  | _ => false
def kvB : List (List Nat × List Nat) → List (Option Expr) → List Expr → Bool
  | [], [], [] => true
  | p :: r, some k :: ks, v :: vs => txtB p.1 k && txtB p.2 v && kvB r ks vs
  | _, _, _ => false
theorem txt_pe {s : List Nat} {e : Expr} (h : txtB s e = true) : PE X e (tC (.str ⟨s.toArray⟩)) := by
  unfold txtB at h
  split at h
  · rename_i c j p
    rw [Bool.and_eq_true] at h
    have e1 := eq_of_beq h.1
    have e2 : c = ⟨s.toArray⟩ := by
      obtain ⟨l⟩ := c
      have e1 : l.toList = s := e1
      rw [← e1]
    rw [← e2]
    exact pe_str
  · cases h
theorem kv_pps : ∀ (kvs : List (List Nat × List Nat)) (ks : List (Option Expr)) (vs : List Expr), kvB kvs ks vs = true →
    PPs X pos ks vs (kvs.map fun p => (tC (.str ⟨p.1.toArray⟩), tC (.str ⟨p.2.toArray⟩))) ∧ ks.all (·.isSome) = true ∧ ks.length = kvs.length ∧ vs.length = kvs.length ∧ ∀ p ∈ kvs, okS p.2 = true
  | [], [], [], _ => ⟨pps_nil, rfl, rfl, rfl, fun p h => by cases h⟩
  | p :: r, some k :: ks, v :: vs, h => by
    unfold kvB at h
    simp only [Bool.and_eq_true] at h
    obtain ⟨⟨h1, h2⟩, h3⟩ := h
    obtain ⟨i1, i2, i3, i4, i5⟩ := kv_pps r ks vs h3
    refine ⟨pps_cons (txt_pe h1) (txt_pe h2) i1, by simpa using i2, by simp [i3], by simp [i4], fun q hq => ?_⟩
    rcases List.mem_cons.mp hq with e | hq
    · rw [e]
      unfold txtB at h2
      split at h2
      · rw [Bool.and_eq_true] at h2
        exact h2.2
      · cases h2
    · exact i5 q hq
  | [], [], _ :: _, h => by cases h
  | [], _ :: _, _, h => by cases h
  | _ :: _, [], _, h => by cases h
  | _ :: _, none :: _, _, h => by cases h
  | _ :: _, some _ :: _, [], h => by cases h
theorem pairs_txt (kvs : List (List Nat × List Nat)) (σ : L2.St) : ∀ (H : Hp) (Q : List (V × V) → Hp → Prop), Q (kvs.map fun p => (.str ⟨p.1.toArray⟩, .str ⟨p.2.toArray⟩)) H → tPairs (kvs.map fun p => (tC (.str ⟨p.1.toArray⟩), tC (.str ⟨p.2.toArray⟩))) σ H Q := by
  induction kvs with
  | nil => exact fun H Q h => h
  | cons p r ih => exact fun H Q h => ih H _ h
theorem de_dis {kvs : List (List Nat × List Nat)} {ks : List (Option Expr)} {vs : List Expr} (h : kvB kvs ks vs = true) (h0 : kvs ≠ []) (h15 : kvs.length ≤ 15) (hn : (kvs.map (·.1)).Nodup) : DE G W X (.Dict ks vs pos) (fC (.dct kvs)) := by
  obtain ⟨i1, i2, i3, i4, i5⟩ := kv_pps (X := X) (pos := pos) kvs ks vs h
  refine (pe_disp i1 i2 (by rw [i3, i4]) (fun e => h0 (List.eq_nil_of_length_eq_zero (by rw [← i3, e]; rfl))) (by omega)).imp fun σ H Q ⟨w, δ, r, en, p⟩ => ?_
  intro a ha
  refine pairs_txt kvs σ _ _ ⟨upd_same, kvs.map kvF, ?_, by rw [List.length_map]; exact h15, ?_⟩
  · rw [List.map_map]
    rfl
  · have e1 : upd (upd H a (.dK [])) a (.dK (mergeK [] (kvs.map kvF))) = upd H a (.dK (mergeK [] (kvs.map kvF))) := by
      funext b
      unfold upd
      split <;> rfl
    rw [e1]
    refine p w _ (Ext.alloc ha) (r.alloc ha) rfl _ ?_
    simp only [Dat]
    refine ⟨⟨a, rfl, .inl ⟨_, upd_same, r.dead ha, fun z => ?_⟩⟩, i5⟩
    rw [merge_look kvs [] hn z]
    cases dlook kvs z <;> rfl
end
end DL

set_option Elab.async false
set_option linter.all false
set_option maxRecDepth 100000
set_option maxHeartbeats 4000000
/-! DL9e: l.index(x). -/
namespace DL
open PySem L2 PySem.Spec
/-- the first place of what equals x -/
def idxD (x : D) : List D → Nat → Option Nat
  | [], _ => none
  | y :: ys, i => if D.eqv y x = true then some i else idxD x ys (i + 1)
def gIndex (μ : Mu) (a : D) : List D → Option D
  | [x] => match a with
    | .lst ys => if shp x = true ∧ shp (.lst ys) = true then (idxD x ys 0).map fun j => .int (j : Nat) else none
    | _ => none
  | _ => none
theorem idx_pds {x : D} (hx : x.pln = true) : ∀ (ys : List D) (i j : Nat), D.plns ys = true → idxD x ys i = some j →
    ∃ z, i ≤ j ∧ (D.pds ys)[j - i]? = some z ∧ PyData.eqv z x.pd = true ∧ ∀ (m : Nat) (z' : PyData), m < j - i → (D.pds ys)[m]? = some z' → PyData.eqv z' x.pd = false
  | [], i, j, _, h => by cases h
  | y :: ys, i, j, hp, h => by
    simp only [D.plns, Bool.and_eq_true] at hp
    unfold idxD at h
    simp only [D.pds]
    by_cases q : D.eqv y x = true
    · rw [if_pos q] at h
      cases h
      refine ⟨y.pd, Nat.le_refl _, by simp, by rw [pd_eqv y x hp.1 hx]; exact q, fun m z' hm _ => absurd hm (by omega)⟩
    · rw [if_neg q] at h
      obtain ⟨z, h1, h2, h3, h4⟩ := idx_pds hx ys (i + 1) j hp.2 h
      have e : j - i = (j - (i + 1)) + 1 := by omega
      refine ⟨z, by omega, by rw [e]; simpa using h2, h3, fun m z' hm hz => ?_⟩
      match m, hm, hz with
      | 0, hm, hz =>
        simp at hz
        subst hz
        rw [pd_eqv y x hp.1 hx]
        simpa using q
      | m + 1, hm, hz => exact h4 m z' (by omega) (by simpa using hz)
section
variable {G : Gs} {X : Cx}
theorem mt_indexG (hK : X.K = G.K) (hu : X.A.units + 65 < cLine) : MtR X "list.index" (rMt G gIndex) := (mt_indexD hu).imp fun x xs H Q ⟨w, a, ds, d, r, da, dv, g, q⟩ => by
  unfold gIndex at g
  split at g
  · rename_i y
    split at g
    · rename_i ys
      split at g
      · rename_i hs
        cases e : idxD y ys 0 with
        | none =>
          rw [e] at g
          cases g
        | some j =>
          rw [e] at g
          cases g
          obtain ⟨v, rfl, d1⟩ := dats1 dv
          have hy : peek w.μ y = y := by
            have := (shp_of hs.1).1
            cases y <;> first | rfl | (simp [D.pln] at this)
          obtain ⟨h1, h2⟩ := peek_dp r d1 (by rw [hy]; exact hs.1)
          rw [hy] at h1 h2
          obtain ⟨h3, h4⟩ := peek_dp (d := .lst ys) r da hs.2
          have e5 : peek w.μ (.lst ys) = .lst ys := rfl
          rw [e5] at h3 h4
          simp only [D.pd] at h3 h4
          obtain ⟨z, _, g2, g3, g4⟩ := idx_pds (shp_of hs.1).1 ys 0 j (by simpa only [D.pln] using (shp_of hs.2).1) e
          simp only [Dat] at da
          obtain ⟨p, vs, rfl, _⟩ := da
          rw [← hK] at h1 h3
          exact ⟨p, v, y.pd, D.pds ys, j, z, rfl, rfl, h3, h1, h4, h2, g2, g3, g4, q w H _ (Ext.refl _ _) r rfl (dat_int ..)⟩
      · cases g
    · cases g
  · cases g
end
end DL

set_option Elab.async false
set_option linter.all false
set_option maxRecDepth 100000
set_option maxHeartbeats 4000000
/-! DL10: the core of expressions: what it means, when a written expression is it, and that then the program does what it means. -/
namespace DL
open PySem L2 PySem.Spec

/-- the class of an exception as a value -/
def xcl : D → Option Nat
  | .exn c _ => some c
  | .exi c _ => some c
  | _ => none
def gExn (i : Nat) : D → Option D
  | .str s => some (.exn i s)
  | _ => none
def gExi (i : Nat) : D → Option D
  | .int k => some (.exi i k)
  | _ => none
def gIsx (ok : Nat → Bool) (cs : List Nat) (d : D) : Option D := match xcl d with
  | some c => if ok c = true then some (.bl (cs.contains c)) else none
  | none => none
def gStx (ok : Nat → Bool) : D → Option D
  | .exn c m => if ok c = true then some (.str m) else none
  | _ => none
def gFld (i : Nat) : D → Option D
  | .exi c k => if c = i then some (.int k) else none
  | _ => none
inductive Bo where
  | add | sub | mul | div | mod | pow
inductive Co where
  | eq | ne | lt | le | gt | ge | is | isn | inn | nin
inductive Bt where
  | len | abs | max | min | isi | int | str | tup | lst
inductive Mt where
  | split | join | upper | append | index
inductive Tg where
  | nm (i : Nat) | tup (n : Nat) (r : Tg) | nil | cons (a r : Tg)
/-- the core -/
inductive C where
  | var (i : Nat) | lit (d : D) | ty (n : Nat) | cst (i : Nat)
  | bin (o : Bo) (a b : C) | cmp (o : Co) (a b : C) | chn (o o' : Co) (a b c : C)
  | neg (a : C) | not (a : C) | bo (k : Bool) (a r : C)
  | ix (a b : C) | sl (a lo hi : C)
  | tup (as : C) | lst (as : C) | cell (as : C) | frz (a : C)
  | ife (t a b : C) | call (f : Nat) (as : C) | call0 (f : Nat) | blt (b : Bt) (as : C) | mth (m : Mt) (o as : C)
  | comp (own : List Nat) (g : Tg) (it te el : C)
  | nil | cons (a r : C)
  | it (a : C) | rng (as : C) | en (as : C) | zp (as : C) | lrng (a : C) | rev (a : C) | err (a : C) | dis (kvs : List (List Nat × List Nat)) | any
  | exn (i : Nat) (a : C) | exi (j : Nat) (a : C) | isx (j n m : Nat) (cs : List Nat) (a : C) | stx (n m : Nat) (a : C) | fld (j : Nat) (a : C)

def Bo.op : Bo → Operator
  | .add => .Add | .sub => .Sub | .mul => .Mult | .div => .FloorDiv | .mod => .Mod | .pow => .Pow
def Co.op : Co → CmpOp
  | .eq => .Eq | .ne => .NotEq | .lt => .Lt | .le => .LtE | .gt => .Gt | .ge => .GtE | .is => .Is | .isn => .IsNot | .inn => .In | .nin => .NotIn
def Bo.g : Bo → Mu → D → D → Option D
  | .add => gAdd2 | .sub => gSub2 | .mul => gMul | .div => gDiv | .mod => gMod | .pow => gPow
def Co.g : Co → Mu → D → D → Option D
  | .eq => gEq | .ne => gNe | .lt => gLt | .le => gLe | .gt => gGt | .ge => gGe | .is => gIs | .isn => gIsNot | .inn => inD false | .nin => inD true
def Bt.g : Bt → Mu → List D → Option D
  | .len => gLen | .abs => gAbs | .max => gMax | .min => gMin | .isi => gIsi | .int => gInt | .str => gStr | .tup => gTuple | .lst => gList
def Bt.nm : Bt → Str
  | .len => "len" | .abs => "abs" | .max => "max" | .min => "min" | .isi => "isinstance" | .int => "int" | .str => "str" | .tup => "tuple" | .lst => "list"
def Mt.nm : Mt → Str
  | .split => "split" | .join => "join" | .upper => "upper" | .append => "append" | .index => "index"
def Mt.T : Mt → Bool
  | .append => false
  | .index => false
  | _ => true
def Mt.g : Mt → D → List D → M D
  | .split => liftM gSplit | .join => liftM gJoin | .upper => liftM gUpper | .append => appD | .index => liftM gIndex
def tyS : Nat → String
  | 0 => "int" | 1 => "bool" | 2 => "str" | 3 => "tuple" | _ => "list"
mutual
def Tg.g : Tg → GF
  | .nm i => tgN i
  | .tup n r => tgX n (Tg.gs r)
  | _ => fun _ _ _ => none
def Tg.gs : Tg → Mu → List D → Env → Option Env
  | .nil => tgsN
  | .cons a r => tgsC (Tg.g a) (Tg.gs r)
  | _ => fun _ _ _ => none
end
/-- what a core part means: as a value, as a test, as a list of arguments (or of what is walked) -/
structure Sm where
  e : Env → M D
  t : Env → M Bool
  a : Env → M (List D)
def bad {α : Type} : Env → M α := fun _ _ => none
def ofE (f : Env → M D) : Sm := ⟨f, fTru f, bad⟩
def ofA (f : Env → M (List D)) : Sm := ⟨bad, bad, f⟩
def gNot (μ : Mu) (d : D) : Option D := (tru μ d).map fun b => .bl (!b)
def fItems (k : List D → Option (List D)) (fs : Env → M (List D)) : Env → M (List D) := fun δ => bnd (fs δ) fun ds => lift fun _ => k ds
def fCall (h : List D → M D) (fs : Env → M (List D)) : Env → M D := fun δ => bnd (fs δ) h
def part (o : Option (Env → M D)) : Env → M (Option Int) := match o with
  | none => fNoPart
  | some f => fPart f
/-- a call that is tried: the empty text, or what is told of the error's class -/
def fErr (K : Nat → D) (f : Env → M D) : Env → M D := fun δ μ => match f δ μ with
  | some (.ok _, μ') => some (.ok (.str []), μ')
  | some (.error x, μ') => match x.arg, K (1000 + x.cls) with
    | none, .str s => some (.ok (.str s), μ')
    | _, _ => none
  | none => none
def C.isNil : C → Bool
  | .nil => true
  | _ => false
/-- the numbers of the classes whose exceptions are values -/
def okC (n m c : Nat) : Bool := decide (c < n) || (decide (500 ≤ c) && decide (c < 500 + m))
/-- the defs, two calls deeper -/
def shift (P : Nat → List D → M D) : Nat → List D → M D := fun f => P (1000000 + f)
def sem' : C → (Nat → List D → M D) → (Nat → D) → Sm
  | .var i, P, K => ofE (fVar i)
  | .lit d, P, K => ofE (fC d)
  | .ty n, P, K => ofE (fC (.ty (tyS n)))
  | .cst i, P, K => ofE (fC (K i))
  | .bin o a b, P, K => ofE (fOp o.g (sem' a P K).e (sem' b P K).e)
  | .cmp o a b, P, K => ⟨fOp o.g (sem' a P K).e (sem' b P K).e, fB (fOp o.g (sem' a P K).e (sem' b P K).e), bad⟩
  | .chn o o' a b c, P, K => ⟨fChain o.g o'.g (sem' a P K).e (sem' b P K).e (sem' c P K).e, fB (fChain o.g o'.g (sem' a P K).e (sem' b P K).e (sem' c P K).e), bad⟩
  | .neg a, P, K => ofE (fUn (fun _ d => (toI d).map fun i => .int (-i)) (sem' a P K).e)
  | .not a, P, K => ⟨fUn gNot (sem' a P K).e, fNot (sem' a P K).t, bad⟩
  | .bo k a r, P, K => if k = true then ⟨fAndV (sem' a P K).e (sem' r P K).e, fAnd (sem' a P K).t (sem' r P K).t, bad⟩ else ⟨fOrV (sem' a P K).e (sem' r P K).e, fOr (sem' a P K).t (sem' r P K).t, bad⟩
  | .ix a b, P, K => ofE (fOp gIx (sem' a P K).e (sem' b P K).e)
  | .sl a lo hi, P, K => ofE (fSl (sem' a P K).e (part (if lo.isNil = true then none else some (sem' lo P K).e)) (part (if hi.isNil = true then none else some (sem' hi P K).e)))
  | .tup as, P, K => ofE (fTup (sem' as P K).a)
  | .lst as, P, K => ofE (fLst (sem' as P K).a)
  | .cell as, P, K => ofE (fCell (sem' as P K).a)
  | .frz a, P, K => ofE (fFrz (sem' a P K).e)
  | .ife t a b, P, K => ofE (fIf (sem' t P K).t (sem' a P K).e (sem' b P K).e)
  | .call f as, P, K => ofE (fCall (P f) (sem' as P K).a)
  | .call0 f, P, K => ofE (fun _ => noX (P f []))
  | .blt b as, P, K => ofE (fDs b.g (sem' as P K).a)
  | .mth m o as, P, K => ofE (fMx m.T m.g (sem' o P K).e (sem' as P K).a)
  | .comp own g it te el, P, K => ofE (fComp (sem' it P K).a own g.g (if te.isNil = true then fun _ => ret true else (sem' te P K).t) (sem' el P K).e)
  | .nil, P, K => ofA fNil
  | .cons a r, P, K => ofA (fCons (sem' a P K).e (sem' r P K).a)
  | .it a, P, K => ofA (fItm itmA (sem' a P K).e)
  | .rng as, P, K => ofA (fItems itmR (sem' as P K).a)
  | .en as, P, K => ofA (fItems itmEO (sem' as P K).a)
  | .zp as, P, K => ofA (fItems itmZ (sem' as P K).a)
  | .lrng a, P, K => ofE (fDs gLrng (fCons (sem' a P K).e fNil))
  | .rev a, P, K => ofE (fUn gRev (sem' a P K).e)
  | .err a, P, K => ofE (fErr K (sem' a (shift P) K).e)
  | .dis kvs, P, K => ofE (fC (.dct kvs))
  | .any, P, K => ⟨bad, bad, bad⟩
  | .exn i a, P, K => ofE (fUn (fun _ => gExn i) (sem' a P K).e)
  | .exi j a, P, K => ofE (fUn (fun _ => gExi (500 + j)) (sem' a P K).e)
  | .isx _ n m cs a, P, K => ofE (fUn (fun _ => gIsx (okC n m) cs) (sem' a P K).e)
  | .stx n m a, P, K => ofE (fUn (fun _ => gStx (okC n m)) (sem' a P K).e)
  | .fld j a, P, K => ofE (fUn (fun _ => gFld (500 + j)) (sem' a P K).e)

abbrev sem (P : Nat → List D → M D) (K : Nat → D) (c : C) : Sm := sem' c P K

/-! ### when written code is a core part -/
/-- the module's tables: the defs with their numbers of parameters, the constants -/
structure Tb where
  fn : List (Str × Nat)
  cs : List Str
  ei : List (Str × Str)
  xv : List Str
  cx : List (Str × List Nat)
/-- a block's names: the slots, the scope, the names whose cells are the block's own -/
structure Bk where
  N : List Str
  sc : Scope
  fb : Str → Bool
  er : Bool
def notStar : Expr → Bool
  | .Starred .. => false
  | _ => true
def isCmp : Expr → Bool
  | .ListComp .. | .SetComp .. | .DictComp .. => true
  | _ => false
def tst : Expr → Bool
  | .UnaryOp .Not _ _ | .BoolOp .. | .IfExp .. | .Compare .. => true
  | _ => false
def sup : Expr → Bool
  | .Call .. => true
  | _ => false
def visB (b : Bk) (x : Str) : Bool := match b.sc.names.lookup x with
  | some .local | some .cell | some .free => true
  | _ => false
def locB (b : Bk) (x : Str) : Bool := match b.sc.names.lookup x with
  | some .local => true
  | some .cell => b.fb x
  | _ => false
def glB (b : Bk) (x : Str) : Bool := b.sc.names.lookup x == some .globalImplicit
def okN (x : Str) : Bool := !(x == ("__debug__" : Str)) && !(x == ("__classdict__" : Str)) && !(x == ("__name__" : Str))
theorem okN_d {y : Str} (h : okN y = true) : (y == ("__debug__" : Str)) = false ∧ (y == ("__classdict__" : Str)) = false := by
  unfold okN at h
  simp only [Bool.and_eq_true, Bool.not_eq_true'] at h
  exact ⟨h.1.1, h.1.2⟩
def isName (x : Str) : Expr → Bool
  | .Name y _ => y == x
  | _ => false
def ownOf (N : List Str) (scope : Scope) : List (Str × Nat) := scope.names.filterMap fun y => if y.2 == .local || y.2 == .cell then (N.idxOf? y.1).map fun i => (y.1, i) else none
def blkB (b : Bk) (scope : Scope) : Bool := scope.kind == .function && scope.names.all (fun y => scope.names.lookup y.1 == some y.2 && (!(y.2 == .free) || b.sc.names.lookup y.1 == some .cell || b.sc.names.lookup y.1 == some .free))
def Bk.in (b : Bk) (scope : Scope) : Bk := ⟨b.N, relS scope b.sc, fun x => scope.names.lookup x == some .cell, false⟩
/-- a lambda's block: captured names and globals alone -/
def Bk.lam (b : Bk) (scope : Scope) : Bk := ⟨b.N, scope, fun _ => false, false⟩
def noPar (p : Arguments) : Bool := p.posonlyargs.isEmpty && p.args.isEmpty && p.vararg.isNone && p.kwonlyargs.isEmpty && p.kw_defaults.isEmpty && p.kwarg.isNone && p.defaults.isEmpty
def Tg.ix : Tg → List Nat
  | .nm i => [i]
  | .tup _ r => Tg.ix r
  | .cons a r => Tg.ix a ++ Tg.ix r
  | .nil => []
mutual
def Tg.ck (b : Bk) : Tg → Expr → Bool
  | .nm i, .Name x _ => b.N[i]? == some x && locB b x
  | .tup n r, .Tuple es _ _ => es.length == n && Tg.cks b r es
  | _, _ => false
def Tg.cks (b : Bk) : Tg → List Expr → Bool
  | .nil, [] => true
  | .cons a r, e :: es => notStar e && Tg.ck b a e && Tg.cks b r es
  | _, _ => false
end
structure Ck where
  e : Bk → Expr → Bool
  t : Bk → Expr → Bool
  w : Bool → Bk → List Expr → Bool
  v : Bool → Bk → List Expr → Bool
  a : Bk → List Expr → Bool
  i : Bk → Expr → Expr → Bool
def boK : Bool → BoolOp
  | true => .And
  | false => .Or
def noB {α : Type} : Bk → α → Bool := fun _ _ => false
/-- from checks of a value and of a test -/
def ckET (e t : Bk → Expr → Bool) : Ck := ⟨e, t, fun _ b es => match es with | [x] => t b x | _ => false, fun _ b es => match es with | [x] => e b x | _ => false, noB, fun _ _ _ => false⟩
def ckE (e : Bk → Expr → Bool) : Ck := ckET e fun b x => e b x && !tst x
def ckI (i : Bk → Expr → Expr → Bool) : Ck := ⟨noB, noB, fun _ _ _ => false, fun _ _ _ => false, noB, i⟩
def oneB (k : Bk → Expr → Bool) (b : Bk) : Option Expr → Bool
  | some x => k b x
  | none => false
def isSet : Expr → Bool
  | .Set .. => true
  | _ => false
def isSl : Expr → Bool
  | .Slice .. => true
  | _ => false
def isTup : Expr → Bool
  | .Tuple .. => true
  | _ => false
def ck (T : Tb) : C → Ck
  | .var i => ckE fun b x => match x with
    | .Name y _ => b.N[i]? == some y && visB b y && okN y
    | _ => false
  | .lit d => ckE fun _ x => match x, d with
    | .Constant .none _ _, .non => true
    | .Constant (.bool c) _ _, .bl c' => c == c'
    | .Constant (.int c) _ _, .int c' => c == c'
    | .Constant (.str c) _ _, .str c' => c.cps.toList == c' && okS c'
    | _, _ => false
  | .ty n => ckE fun b x => match x with
    | .Name y _ => y == (tyS n : Str) && glB b y
    | _ => false
  | .cst i => ckE fun b x => match x with
    | .Name y _ => T.cs[i]? == some y && glB b y && okN y
    | _ => false
  | .bin o a c => ckE fun b x => match x with
    | .BinOp y p z _ => p == o.op && (ck T a).e b y && (ck T c).e b z
    | _ => false
  | .cmp o a c => let k : Bk → Expr → Bool := fun b x => match x with
      | .Compare y [p] [z] _ => p == o.op && (ck T a).e b y && (ck T c).e b z && !behindInMarks p z
      | _ => false
    ckET k k
  | .chn o o' a c d => let k : Bk → Expr → Bool := fun b x => match x with
      | .Compare y [p, p'] [z, u] _ => p == o.op && p' == o'.op && (ck T a).e b y && (ck T c).e b z && (ck T d).e b u && !lastMarks [p, p'] [z, u]
      | _ => false
    ckET k k
  | .neg a => ckE fun b x => match x with
    | .UnaryOp .USub y _ => (ck T a).e b y
    | _ => false
  | .not a => ckET (fun b x => match x with
      | .UnaryOp .Not y _ => (ck T a).e b y
      | _ => false) (fun b x => match x with
      | .UnaryOp .Not y _ => (ck T a).t b y
      | _ => false)
  | .bo k a r => let w2 : Bk → List Expr → Bool := fun b es => match es with
      | x :: y :: es => (ck T a).t b x && (ck T r).w k b (y :: es)
      | _ => false
    let v2 : Bk → List Expr → Bool := fun b es => match es with
      | x :: y :: es => (ck T a).e b x && (ck T r).v k b (y :: es)
      | _ => false
    let e : Bk → Expr → Bool := fun b x => match x with
      | .BoolOp p es _ => p == boK k && v2 b es
      | _ => false
    let t : Bk → Expr → Bool := fun b x => match x with
      | .BoolOp p es _ => p == boK k && w2 b es
      | _ => false
    ⟨e, t, fun k' b es => match es with
      | [x] => t b x
      | es => k' == k && w2 b es, fun k' b es => match es with
      | [x] => e b x
      | es => k' == k && v2 b es, noB, fun _ _ _ => false⟩
  | .ix a c => ckE fun b x => match x with
    | .Subscript y z _ => (ck T a).e b y && (ck T c).e b z && !isSl z
    | _ => false
  | .sl a lo hi => ckE fun b x => match x with
    | .Subscript y (.Slice l h none _) _ => (ck T a).e b y && (match l with | none => lo.isNil | some l => !lo.isNil && (ck T lo).e b l) && (match h with | none => hi.isNil | some h => !hi.isNil && (ck T hi).e b h)
    | _ => false
  | .tup as => ckE fun b x => match x with
    | .Tuple es _ _ => (ck T as).a b es
    | _ => false
  | .lst as => ckE fun b x => match x with
    | .List es _ => (ck T as).a b es
    | _ => false
  | .cell as => ckE fun b x => match x with
    | .List es _ => (ck T as).a b es
    | _ => false
  | .frz a => ckE fun b x => (ck T a).e b x
  | .ife t a c => ckE fun b x => match x with
    | .IfExp u y z _ => (ck T t).t b u && (ck T a).e b y && (ck T c).e b z
    | _ => false
  | .call f as => ckE fun b x => match x with
    | .Call (.Name y _) (e :: es) [] _ => T.fn[f]? == some (y, es.length + 1) && glB b y && okN y && (ck T as).a b (e :: es)
    | _ => false
  | .call0 f => ckE fun b x => match x with
    | .Call (.Name y _) [] [] _ => T.fn[f]? == some (y, 0) && glB b y && okN y
    | _ => false
  | .blt k as => ckE fun b x => match x with
    | .Call (.Name y _) (e :: es) [] _ => y == k.nm && glB b y && (ck T as).a b (e :: es)
    | _ => false
  | .mth m o as => ckE fun b x => match x with
    | .Call (.Attribute y n p) es [] q => n == m.nm && (ck T o).e b y && (ck T as).a b es && !sup y && p.endLine == q.line && decide (es.length < 29)
    | _ => false
  | .comp own g it te el => ckE fun b x => match x with
    | .ListComp e [⟨tg, iter, ifs, 0⟩] scope _ => own == (ownOf b.N scope).map (·.2) && blkB b scope && !isSet iter && g.ix.all (own.contains ·) && (ck T it).i b tg iter && g.ck (b.in scope) tg && (match ifs with | [] => te.isNil | [u] => !te.isNil && (ck T te).t (b.in scope) u | _ => false) && (ck T el).e (b.in scope) e
    | _ => false
  | .dis kvs => ckE fun _ x => match x with
    | .Dict ks vs _ => kvB kvs ks vs && !kvs.isEmpty && decide (kvs.length ≤ 15) && decide ((kvs.map (·.1)).Nodup)
    | _ => false
  | .exn i a => ckE fun b x => match x with
    | .Call (.Name y _) [e] [] _ => T.xv[i]? == some y && glB b y && notStar e && (ck T a).e b e
    | _ => false
  | .exi j a => ckE fun b x => match x with
    | .Call (.Name y _) [e] [] _ => b.er && (T.ei[j]?.map (·.1)) == some y && glB b y && notStar e && (ck T a).e b e
    | _ => false
  | .isx j n m cs a => ckE fun b x => match x with
    | .Call (.Name f _) [e, .Name y _] [] _ => f == ("isinstance" : Str) && glB b f && T.cx[j]? == some (y, cs) && n == T.xv.length && m == T.ei.length && glB b y && notStar e && (ck T a).e b e
    | _ => false
  | .stx n m a => ckE fun b x => match x with
    | .Call (.Name f _) [e] [] _ => f == ("str" : Str) && glB b f && n == T.xv.length && m == T.ei.length && notStar e && (ck T a).e b e
    | _ => false
  | .fld j a => ckE fun b x => match x with
    | .Attribute e f _ => (T.ei[j]?.map (·.2)) == some f && !sup e && (ck T a).e b e
    | _ => false
  | .any => ⟨fun _ _ => true, fun _ _ => true, fun _ _ _ => false, fun _ _ _ => false, noB, fun _ _ _ => false⟩
  | .nil => ⟨noB, noB, fun _ _ _ => false, fun _ _ _ => false, fun _ es => es.isEmpty, fun _ _ _ => false⟩
  | .cons a r => ⟨noB, noB, fun _ _ _ => false, fun _ _ _ => false, fun b es => match es with
      | e :: es => notStar e && (ck T a).e b e && (ck T r).a b es
      | [] => false, fun _ _ _ => false⟩
  | .it a => ckI fun b _ x => (ck T a).e b x
  | .rng as => ckI fun b _ x => match x with
    | .Call (.Name y _) [e] [] _ => y == ("range" : Str) && glB b y && (ck T as).a b [e]
    | _ => false
  | .en as => ckI fun b tg x => match x with
    | .Call (.Name y _) [e] [] _ => y == ("enumerate" : Str) && glB b y && isTup tg && (ck T as).a b [e]
    | _ => false
  | .zp as => ckI fun b tg x => match x with
    | .Call (.Name y _) [e, e2] [] _ => y == ("zip" : Str) && glB b y && isTup tg && (ck T as).a b [e, e2]
    | _ => false
  | .lrng a => ckE fun b x => match x with
    | .Call (.Name y _) [.Call (.Name z _) [e] [] _] [] _ => y == ("list" : Str) && glB b y && z == ("range" : Str) && glB b z && notStar e && (ck T a).e b e
    | _ => false
  | .rev a => ckE fun b x => match x with
    | .Subscript y (.Slice none none (some (.UnaryOp .USub (.Constant (.int i) _ _) _)) _) _ => i == 1 && (ck T a).e b y
    | _ => false
  | .err a => ckE fun b x => match x with
    | .Call (.Name y _) [.Lambda params body scope _] [] _ => b.er && y == ("_law_error" : Str) && glB b y && noPar params && LamX.lamSB b.sc scope && (ck T a).e (b.lam scope) body
    | _ => false
end DL

set_option Elab.async false
set_option linter.all false
set_option maxRecDepth 100000
set_option maxHeartbeats 4000000
/-! DX1: exceptions of classes with an own __init__ (context None): made, raised, their attribute read. -/
namespace DX
open PySem L2 DL PySem.Spec
section
variable {X : Cx} {e : Expr} {es : List Expr} {ta : TA} {p1 p2 pos : Pos}
/-- the base class's __init__, read off the own base class at B -/
theorem pe_baseInit {B : Addr} {mc : Value} {pl : Sem Bool} (hg : Gl X "KinError") (hm : X.mg "KinError" = some (.ref B)) (rd : ClX.CRead X.K B mc) (vI : PySem.W.findCls X.K (.ref B) mc "__init__" = some (.val (.builtin "ValueError.__init__"))) (ha : PA X (e :: es) ta)
    (hline : (p2.endLine == pos.line) = true) (hf : ∀ ov : Value, calleeOf (methodCallForm ((e :: es).length + ([] : List Keyword).length) (backTo pos (starEach (e :: es) X.env)) (backToKw pos (keywordEach [] X.env))) (.Name "KinError" p1) X.env ov "__init__" = getMethod ov "__init__" pl)
    (he : starEach (e :: es) X.env = (false, eval e X.env) :: starEach es X.env) (hpl : (backTo pos (starEach es X.env)).any (·.1) = false) :
    PE X (.Call (.Attribute (.Name "KinError" p1) "__init__" p2) (e :: es) [] pos) (tVeI X.K ta) := by
  refine ⟨fun pins s σ H Q I h => ?_⟩
  refine PySem.W.methodCall_KW (pl := pl) (ld_glob I hg hm ?_ (by decide)) (by
    rw [arm_eval_Call]
    show (eval (.Name "KinError" p1) X.env >>= fun ov => standAt p2.atName >>= fun _ => methodCall (.Name "KinError" p1) "__init__" p2 pos X.env ov ((e :: es).length + ([] : List Keyword).length) (backTo pos (starEach (e :: es) X.env)) (backToKw pos (keywordEach [] X.env))) = _
    congr 1
    funext ov
    congr 1
    funext u
    unfold methodCall
    rw [hf ov]
    unfold methodCallPos
    rw [hline, Bool.or_true, if_pos rfl]
    rfl)
  refine PySem.W.method_cls I.kIn rd.ga (PySem.W.cls_value I.kIn rd.rd vI (by decide +kernel) ?_)
  show wpAny _ _ (callWith pos (Value.builtin "ValueError.__init__") [] (backTo pos (starEach (e :: es) X.env)) []) _ _ _
  refine PyProof.Rows.callWith_method1 (thn (ha.run pos pins _ σ H _ (I.tok _) h) fun ws s1 hws => ?_) he hpl
  obtain ⟨vs, H1, I1, r1, a, C, us, rfl, hl, T, ea, q⟩ := hws
  cases r1 with
  | @cons _ v0 _ vr ra rr =>
    have e0 : v0 = Value.ref a := ra
    subst e0
    refine oinit_ok T I1 ea ?_ fun s' J => ⟨.non, H1, J, rfl, q⟩
    have e1 := Paired.length rr
    rw [sizeLine_eq]
    omega
end
/-- what an own __init__ with one argument does: the base's, then the attribute f -/
def spI (K : PySem.W.Frag) (C : Addr) (f : Str) : Sp := fun vs H Q _ => ∃ (a : Addr) (y : V), vs = [.ref a, y] ∧ OexC K C ∧ PySem.W.findIn K (.ref C) f = some none ∧ H a = some (exo a C none) ∧ ∀ dx, H dx = none → dx ≠ a → Q .non (upd (upd H dx (exd dx [(f, y)])) a (exo a C (some dx)))
/-- the body of such an __init__ -/
def inB (b : Bk) (f : Str) : List Stmt → Bool
  | [.Expr (.Call (.Attribute (.Name k _) i p2) [.Name s1 _, .Constant (.str _) _ _] [] p5) _, .Assign [.Attribute (.Name s2 _) f2 _] (.Name y _) _] =>
    k == "KinError" && glB b "KinError" && i == "__init__" && f2 == f && b.N == [s1, y] && s2 == s1 && p2.endLine == p5.line && decide b.N.Nodup && visB b s1 && visB b y && okN s1 && okN y
  | _ => false
theorem vis_of {b : Bk} {X : Cx} (h : X.env.scope = b.sc) {y : Str} (v : visB b y = true) : Vis X.env.scope y := by
  unfold visB at v
  unfold Vis
  rw [h]
  split at v <;> simp_all
theorem init_ok {P : Program} {w : World} {K : PySem.W.Frag} {mg : Str → Option Value} {base : Heap} {x qual f : Str} {params : Arguments} {body : List Stmt} {scope : Scope} {fI B C : Addr} {mc : Value} {fd : FuncData} {N : List Str}
    (F : FunD K x qual params body scope [] [] fI fd) (S : FnScope N N scope) (hb : inB ⟨N, scope, fun _ => true, false⟩ f body = true) (hm : mg "KinError" = some (.ref B)) (rd : ClX.CRead K B mc) (vI : PySem.W.findCls K (.ref B) mc "__init__" = some (.val (.builtin "ValueError.__init__"))) :
    FnOk P w K mg base (L2N.CX P w) 1 fI fd N (spI K C f) := by
  unfold inB at hb
  split at hb
  · rename_i k p1 i p2 s1 p3 m jj p4 p5 p6 s2 p7 f2 p8 y p9 p10
    simp only [Bool.and_eq_true, decide_eq_true_eq] at hb
    obtain ⟨⟨⟨⟨⟨⟨⟨⟨⟨⟨⟨e1, g1⟩, e2⟩, e3⟩, e4⟩, e5⟩, hln⟩, nd⟩, v1⟩, v2⟩, k1⟩, k2⟩ := hb
    have z := eq_of_beq e1; subst z
    have z := eq_of_beq e2; subst z
    have z := eq_of_beq e3; subst z
    have z := eq_of_beq e5; subst z
    have hN : N = [s2, y] := eq_of_beq e4
    obtain ⟨oc, od, dV, kV, doc, pm, an, cdv, ct, osl, rfl, lk, hcd, _, _⟩ := F.ex
    refine fn_of lk hcd S (fun vs H Q E p => ?_) fun A outer s H vs Q E hr p => ?_
    · obtain ⟨a, yv, rfl, _⟩ := p
      rw [hN]
      rfl
    · obtain ⟨a, yv, rfl, T, hno, ea, q⟩ := p
      have gl : Gl (cxOf (L2N.CX P w) P w K mg base N qual scope fI cdv A outer s H E) "KinError" := eq_of_beq g1
      have w1 := vis_of (b := ⟨N, scope, fun _ => true, false⟩) (X := cxOf (L2N.CX P w) P w K mg base N qual scope fI cdv A outer s H E) rfl v1
      have w2 := vis_of (b := ⟨N, scope, fun _ => true, false⟩) (X := cxOf (L2N.CX P w) P w K mg base N qual scope fI cdv A outer s H E) rfl v2
      have n0 : N[0]? = some s2 := by rw [hN]; rfl
      have n1 : N[1]? = some y := by rw [hN]; rfl
      refine ⟨_, pss_cons (ps_expr (pe_baseInit (B := B) (mc := mc) (p1 := p1) (p2 := p2) (pos := p5) gl hm rd vI (pa_cons (pe_var (i := 0) n0 w1 (okN_d k1).1 (okN_d k1).2) (pa_cons pe_str pa_nil)) hln (fun ov => rfl) rfl rfl)) (pss_one (ps_ost (pos := p10) (p' := p8) (pe_var (i := 0) n0 w1 (okN_d k1).1 (okN_d k1).2) (pe_var (i := 1) n1 w2 (okN_d k2).1 (okN_d k2).2))), ?_⟩
      have st : L2.start N [V.ref a, yv] = [some (.ref a), some yv] := by
        unfold L2.start
        rw [hN]
        rfl
      rw [st]
      exact ⟨.ref a, rfl, a, C, [.str m], rfl, by simp, T, ea, yv, rfl, .ref a, rfl, a, C, rfl, T, hno, .inl ⟨ea, fun dx n ne => q dx n ne⟩⟩
  · cases hb
section
variable {X : Cx} {e : Expr} {te : TE} {x f : Str} {C fI : Addr} {fd : FuncData} {ps : List Str} {p pos : Pos}
def oneV (Q : V → Hp → Prop) : List V → Hp → Prop
  | [y], H => Q y H
  | _, _ => False
theorem oneV_of {Q : V → Hp → Prop} {vs : List V} {H : Hp} (h : oneV Q vs H) : ∃ y, vs = [y] := by
  match vs, h with
  | [y], _ => exact ⟨y, rfl⟩
theorem xd_heap {H1 : Hp} {a C dx : Addr} {f : Str} {y : V} (ha : H1 a = none) (hd : dx ≠ a) : upd (del (upd (upd (upd H1 a (exo a C none)) dx (exd dx [(f, y)])) a (exo a C (some dx))) a) dx (.xd [(f, y)]) = upd H1 dx (.xd [(f, y)]) := by
  funext b
  by_cases h1 : b = dx
  · rw [h1, upd_same, upd_same]
  · rw [upd_ne h1, upd_ne h1]
    by_cases h2 : b = a
    · rw [h2, del_same, ha]
    · rw [del_ne h2, upd_ne h2, upd_ne h1, upd_ne h2]
/-- C(e), C's own __init__ storing the attribute f -/
theorem mk_init (T : OexC X.K C) (iC : PySem.W.findIn X.K (.ref C) "__init__" = some (some (.ref fI))) (tI : PySem.W.typeIn X.K (.ref fI) = some (.type "function")) (hno : PySem.W.findIn X.K (.ref C) f = some none)
    (F1 : FnOk X.prog X.w X.K X.mg X.base (L2N.CX X.prog X.w) 1 fI fd ps (spI X.K C f)) (room : Room 2 X.A) (hb : Binds X.K fd ps []) (hg : Gl X x) (hm : X.mg x = some (.ref C)) (hdb : (x == ("__debug__" : Str)) = false) (he : PE X e te)
    (hs : starEach [e] X.env = [(false, eval e X.env)]) : L2N.PMk X (.Call (.Name x p) [e] [] pos) (fun σ H Q => te σ H fun y H1 => ∀ dx, H1 dx = none → Q (.ref C) (some dx) (upd H1 dx (.xd [(f, y)]))) := by
  intro pins s σ H Q I h
  obtain ⟨nm, q, N, bs, bm, sn, sub, ab, col, dd, k0, k1, k2, k3, k5, cls, bases⟩ := T.cls
  have arg : PA X [e] (tCons te tNil) := pa_cons he pa_nil hs
  refine wpAny_Call_Name_kw (ld_glob I hg hm ?_ hdb)
  refine PySem.W.callWith_K (h₀ := X.base) I.ok.mod.kin T.kC (thn (arg.run pos pins s σ H (oneV fun y H1 => ∀ dx, H1 dx = none → Q (.ref C) (some dx) (upd H1 dx (.xd [(f, y)]))) I h) fun us s1 got => ?_) hs rfl
  obtain ⟨vs, H1, I1, r1, fin⟩ := got
  obtain ⟨y, rfl⟩ := oneV_of fin
  refine ⟨I1.kIn, ?_⟩
  show wpAny _ _ (call (.ref C) us) _ _ _
  obtain ⟨hp, g, dr, tk, os⟩ := s1
  have hone : us.length = 1 := (Paired.length r1).symm
  have top : hp.objs.size ≤ hp.objs.size + 1 := Nat.le_succ _
  have free : H1 (hp.objs.size + 1) = none := I1.hok.fresh top
  generalize hh : (hp.push (PySem.W.kdv_tup us)).push (PySem.HandSPX.excO C hp.objs.size) = hp2
  have stays : ∀ b o, hp.get? b = some o → hp2.get? b = some o := fun b o z => by
    rw [← hh]
    exact Heap.get?_push_of_some _ (Heap.get?_push_of_some _ z)
  have obj : hp2.get? (hp.objs.size + 1) = some (PySem.HandSPX.excO C hp.objs.size) := by
    rw [← hh]
    heap_get
  have I2 : Inv X pins σ (upd H1 (hp.objs.size + 1) (exo (hp.objs.size + 1) C none)) ⟨hp2, g, dr, tk, os⟩ := I1.laid (t' := tk) stays top (exo_ok obj)
  have hus : us.length ≤ sizeLine := by
    rw [hone, sizeLine_eq]
    omega
  have sp : spI X.K C f (V.ref (hp.objs.size + 1) :: [y]) (upd H1 (hp.objs.size + 1) (exo (hp.objs.size + 1) C none)) (fun v H2 => v = .non ∧ ∃ dx, H1 dx = none ∧ dx ≠ hp.objs.size + 1 ∧ H2 = upd (upd (upd H1 (hp.objs.size + 1) (exo (hp.objs.size + 1) C none)) dx (exd dx [(f, y)])) (hp.objs.size + 1) (exo (hp.objs.size + 1) C (some dx))) (fun _ _ _ => False) :=
    ⟨_, y, rfl, T, hno, upd_same, fun dx n ne => ⟨rfl, dx, by rw [upd_ne ne] at n; exact n, ne, rfl⟩⟩
  have both : Vals (V.ref (hp.objs.size + 1) :: [y]) (Value.ref (hp.objs.size + 1) :: us ++ []) := by
    rw [List.append_nil]
    exact .cons rfl r1
  have len : (Value.ref (hp.objs.size + 1) :: us ++ []).length = ps.length := by
    rw [← F1.len _ _ _ _ sp, List.append_nil, List.length_cons, hone]
    rfl
  subst hh
  refine wpAny_call (PySem.HandSPX.call_own F.excBase_ValueError (fun Y => PySem.HandSPX.refsVE_contains Y bm bases) (I1.kIn _ _ cls) (PySem.W.looks_findIn I1.kIn iC) (fun self => PySem.W.bind_fn I1.kIn self tI) hus ?_)
  refine codeAny_mono (F1.run _ X.stack _ _ ⟨Value.ref (hp.objs.size + 1) :: us, []⟩ (Value.ref (hp.objs.size + 1) :: us ++ []) _ _ _ (room.make C us []) (I2.env0.make C us []) (hb _ (Value.ref (hp.objs.size + 1) :: us) I2.kIn len) both sp) fun r s' end_ => ?_
  cases r with
  | error er =>
    obtain ⟨_, _, _, _, _, _, _, _, _, _, _, _, no⟩ := end_
    exact no.elim
  | ok fl =>
    cases fl with
    | ret u =>
      obtain ⟨v, H2, os2, bare2, un2, hok2, rv, ev, dx, n, ne, eH⟩ := end_
      subst ev
      obtain ⟨h2, g2, d2, t2, os'⟩ := s'
      have ea : H2 (hp.objs.size + 1) = some (exo (hp.objs.size + 1) C (some dx)) := by rw [eH, upd_same]
      have ed : H2 dx = some (exd dx [(f, y)]) := by rw [eH, upd_ne ne, upd_same]
      obtain ⟨t0, G, J, kG, ge, hoe, na⟩ := mk_end0 (d2 := d2) (t2 := t2) I1 top stays un2 hok2 os2 bare2 ea ed n
      rw [eH, xd_heap free ne] at J na
      exact ⟨rv, _, _, _, ⟨G, g2, d2, t2, os'⟩, _, .ref C, some dx, rfl, J, kG, ge, hoe, ⟨rfl, rfl, fun vs z => by cases z; rfl⟩, rfl, rfl, na, rfl, bare2, raises_own T.exC T.tyC, fin dx n⟩
    | next => exact end_.elim
    | brk => exact end_.elim
    | cont => exact end_.elim
end
end DX

set_option Elab.async false
set_option linter.all false
set_option maxRecDepth 100000
set_option maxHeartbeats 4000000
/-! DX2: raise C(e), and try: return e / except C as n: return n.f, at data level. -/
namespace DL
open PySem L2 PySem.Spec
/-- what the head tells of a class with an own __init__, its number i, its name y -/
structure InitC (G : Gs) (P : Program) (w : World) (K : PySem.W.Frag) (mg : Str → Option Value) (base : Heap) (i : Nat) (y : Str) : Prop where
  at_ : mg y = some (.ref (G.ob i))
  dbg : (y == ("__debug__" : Str)) = false
  T : OexC K (G.ob i)
  hno : PySem.W.findIn K (.ref (G.ob i)) (G.fld i) = some none
  ini : ∃ fI fd ps, PySem.W.findIn K (.ref (G.ob i)) "__init__" = some (some (.ref fI)) ∧ PySem.W.typeIn K (.ref fI) = some (.type "function") ∧ Binds K fd ps [] ∧ FnOk P w K mg base (L2N.CX P w) 1 fI fd ps (DX.spI K (G.ob i) (G.fld i))
  xf : XfC K (G.ob i)
  exm : PySem.W.exmOne K (.ref (G.ob i)) (.ref (G.ob i)) = some true
def fRaise (c : Nat) (f : Env → M D) : Env → SM := fun δ => sB δ (f δ) fun d μ => some (.exc ⟨c, some d⟩ δ, μ)
/-- the value, or what the exception of the class c holds -/
def fTry (c : Nat) (f : Env → M D) : Env → SM := fun δ μ => match f δ μ with
  | some (.ok d, μ') => some (.ret d, μ')
  | some (.error x, μ') => match x.arg with
    | some d => if x.cls = c then some (.ret d, μ') else none
    | none => none
  | none => none
section
variable {G : Gs} {W : WX} {X : Cx} {e : Expr} {fe : Env → M D} {c : Nat} {y : Str} {p pos pos' : Pos}
theorem ds_raiseA (hc : X.calm = true) (tk : L2N.Takes X W) (ic : InitC G X.prog X.w X.K X.mg X.base c y) (room : Room 2 X.A) (hg : Gl X y) (he : DE G W X e fe) (hs : starEach [e] X.env = [(false, eval e X.env)]) :
    DS G W X (.Raise (some (.Call (.Name y p) [e] [] pos)) none pos') (fRaise c fe) := by
  obtain ⟨fI, fd, ps, h1, h2, h3, h4⟩ := ic.ini
  refine (L2N.ps_raise hc tk (DX.mk_init ic.T h1 h2 ic.hno h4 room h3 hg ic.at_ ic.dbg he hs)).imp fun Dd σ H ⟨w, δ, r, en, q⟩ => ?_
  refine sE_of' r en q fun d v w1 H1 e1 r1 en1 dv q1 => fun dx n => ?_
  have e2 : Ext w1 w1 H1 (upd H1 dx (.xd [(G.fld c, v)])) := Ext.alloc n
  exact q1 _ _ w1 _ σ e2 (r1.alloc n) rfl (en1.ext e2.toSub) ⟨rfl, dx, v, rfl, upd_same, Dat.ext e2.toSub _ _ dv⟩
theorem ds_tryA {n1 : Str} {i : Nat} {p1 p2 p3 p4 p5 p6 : Pos} (ic : InitC G X.prog X.w X.K X.mg X.base c y) (hs : X.stack = X.env :: X.outer) (hf : X.env.frame = some X.env.locals) (hN : X.N.Nodup) (hi : X.N[i]? = some n1) (hln : X.env.scope.names.lookup n1 = some .local) (hg : Gl X y)
    (k1 : (n1 == ("__debug__" : Str)) = false) (k2 : (n1 == ("__classdict__" : Str)) = false) (he : ∀ (W : WX) (pn : List (Addr × Obj)) (xe : Value → Shared → Prop), L2N.Takes (X.tr pn xe) W → DE G W (X.tr pn xe) e fe) :
    DS G W X (.Try [.Return (some e) p1] [.ExceptHandler (some (.Name y p2)) (some n1) [.Return (some (.Attribute (.Name n1 p3) (G.fld c) p4)) p5] p6] [] [] pos) (fTry c fe) := by
  have nt : L2N.Takes X (fun _ _ _ _ => False) := fun u s' ⟨_, _, _, _, _, _, _, _, _, _, _, _, _, _, _, _, w⟩ => w.elim
  refine (L2N.ps_try_as (X := X) (i := i) (c := .ref (G.ob c)) (tb := fun W => sD G W (fSeq (fRet fe) nxt))
    (ts := fun a cls d D σ H => ∃ σ0 : St, σ = σ0.set i (some (.ref a)) ∧ cls = .ref (G.ob c) ∧ ∃ dd v, d = some dd ∧ H dd = some (.xd [(G.fld c, v)]) ∧ D.rt v H) (Wout := fun _ _ _ _ => False) hs hf hN hi hln ⟨hg, ic.dbg, .inl ic.at_⟩ nt
    (fun W pn xe tk po => dss_cons (ds_ret (he W pn xe tk)) dss_nil) (fun a oe cls d pn hz hf' => ?_)).imp fun Dd σ H ⟨w, δ, r, en, q⟩ => ⟨w, δ, r, en, ?_⟩
  · refine ⟨fun pins s' σ H' D I h' => ?_⟩
    obtain ⟨σ0, rfl, rfl, dd, v, rfl, h3, h4⟩ := h'
    have hv : PE (X.suite a ((a, oe) :: pn)) (.Name n1 p3) (tVar i) := pe_var (i := i) hi (.inl hln) k1 k2
    have hx := pss_one (ps_ret (pos := p5) (pe_xf (X := X) (pos := p4) (d := some dd) ic.xf ic.hno hz.zc hf' hv (by rfl)))
    have hl := I.len
    rw [List.length_set] at hl
    have hb := (List.getElem?_eq_some_iff.mp hi).1
    have hb : i < X.N.length := hb
    have hsl : (List.set σ0 i (some (V.ref a)))[i]? = some (some (V.ref a)) := List.getElem?_set_self (by
      have hl : σ0.length = X.N.length := hl
      omega)
    exact hx.run pins s' _ H' D I ⟨.ref a, hsl, rfl, rfl, dd, _, v, rfl, h3, by simp [List.lookup], h4⟩
  · unfold fTry at q
    show PostS G _ Dd w H (fSeq (fRet fe) nxt δ w.μ)
    unfold fSeq fRet sB
    cases h : fe δ w.μ with
    | none =>
      rw [h] at q
      exact q.elim
    | some z =>
      rw [h] at q
      obtain ⟨o, μ'⟩ := z
      cases o with
      | ok d => exact q
      | error x =>
        simp only at q
        split at q
        · rename_i dv hx
          split at q
          · rename_i hc
            refine fun cls d w' H' σ' e' r' m' en' ex => ⟨true, ?_, fun _ a _ => ?_, fun z => by cases z⟩
            · rw [ex.1, hc]
              exact ic.exm
            · have ex2 := ex.2
              rw [hx] at ex2
              obtain ⟨dd, v, h1, h2, h3⟩ := ex2
              rw [hc] at h2
              exact ⟨σ', rfl, by rw [ex.1, hc], dd, v, h1, h2, q w' H' v e' r' m' h3⟩
          · exact q.elim
        · exact q.elim
end
end DL

set_option Elab.async false
set_option linter.all false
set_option maxRecDepth 100000
set_option maxHeartbeats 4000000
/-! DX3: exceptions as values: made, asked for their class, their text, their attribute. -/
namespace DX
open PySem L2 DL PySem.Spec
section
variable {X : Cx} {pins : List (Addr × Obj)} {σ : St} {H : Hp} {s : Shared} {h h' : Heap} {a t : Addr} {o u : HO} {fs ex : List Addr}
/-- two things laid at once -/
theorem un_two (k : ∀ b v, h.get? b = some v → h'.get? b = some v) (ha : h.get? a = none) (ht : h.get? t = none) (na : H a = none) (nt : H t = none) : Un fs ex H (upd (upd H t u) a o) h h' := by
  have off : ∀ {b : Addr}, b ≠ a → b ≠ t → upd (upd H t u) a o b = H b := fun {b} h1 h2 => by rw [upd_ne h1, upd_ne h2]
  have offS : ∀ {b : Addr} {w : HO}, H b = some w → upd (upd H t u) a o b = H b := fun {b w} q => off (ne_of_none q na) (ne_of_none q nt)
  have offH : ∀ {b : Addr} {v : Obj}, h.get? b = some v → upd (upd H t u) a o b = H b := fun {b v} q => off (fun z => by rw [z, ha] at q; cases q) (fun z => by rw [z, ht] at q; cases q)
  exact {
    keep := fun b v q _ _ _ => k b v q
    slot := fun b v q _ _ _ => ⟨v.slots, k b v q⟩
    free := fun b v q n _ => (offH q).trans n
    there := fun b v q _ => ⟨v, k b v q⟩
    tups := fun b xs q => (offS q).trans q
    frzs := fun b v xs q => (offS q).trans q
    tbls := fun b ps q => ⟨#[], by rw [offS q, q]; simp⟩ }
theorem hok_two {P : Program} {w : World} (x : HOk P w H h) (k : ∀ b v, h.get? b = some v → h'.get? b = some v) (na : H a = none) (nt : H t = none) (oa : ObjOk P w (upd (upd H t u) a o) h' a o) (ot : ObjOk P w (upd (upd H t u) a o) h' t u) (ne : a ≠ t) : HOk P w (upd (upd H t u) a o) h' := by
  intro b v e
  have offS : ∀ {b : Addr} {w : HO}, H b = some w → upd (upd H t u) a o b = H b := fun {b w} q => by rw [upd_ne (ne_of_none q na), upd_ne (ne_of_none q nt)]
  by_cases h1 : b = a
  · subst h1
    rw [upd_same] at e
    cases e
    exact oa
  · rw [upd_ne h1] at e
    by_cases h2 : b = t
    · subst h2
      rw [upd_same] at e
      cases e
      exact ot
    · rw [upd_ne h2] at e
      exact (x b v e).stay (fun c y _ q => k c y q) (fun c q => (offS q).trans q) fun c xs q => (offS q).trans q
theorem exq_ok {P : Program} {w : World} {C : Addr} (e : h.get? a = some ({ cls := .ref C, dict := none, data := .fields #[.ref t, .none, .none, .none, .bool false, .none] } : Obj)) : ObjOk P w H h a (exq a C t) :=
  ⟨e, ⟨_, e⟩, fun h1 h2 z k => k _ z⟩
/-- C(e), C without __init__ -/
theorem pe_exn {C : Addr} {bmB : List Value} {B newId initId : String} {x : Str} {e : Expr} {te : TE} {p pos : Pos} (F : ExcBaseFacts B newId initId bmB) (q : PySem.W.excIn X.K C bmB newId = true) (gC : X.mg x = some (.ref C)) (kC : PySem.W.keepIn X.K (.ref C) = true) (hg : Gl X x)
    (he : PE X e te) (hs : starEach [e] X.env = [(false, eval e X.env)]) (hdb : (x == ("__debug__" : Str)) = false) :
    PE X (.Call (.Name x p) [e] [] pos) (fun σ H Q => te σ H fun v H1 => ∀ a t, H1 a = none → H1 t = none → a ≠ t → Q (.ref a) (upd (upd H1 t (.tup [v])) a (exq a C t))) := by
  refine ⟨fun pins s σ H Q I hq => ?_⟩
  refine wpAny_Call_Name_kw (ld_glob I hg gC ?_ hdb)
  refine PySem.W.callWith_K (h₀ := X.base) I.ok.mod.kin kC (thn ((pa_cons he pa_nil hs).run pos pins s σ H (oneV fun v H1 => ∀ a t, H1 a = none → H1 t = none → a ≠ t → Q (.ref a) (upd (upd H1 t (.tup [v])) a (exq a C t))) I hq) fun us s1 got => ?_) hs rfl
  obtain ⟨vs, H1, I1, r1, fin⟩ := got
  obtain ⟨y, rfl⟩ := oneV_of fin
  refine ⟨I1.kIn, ?_⟩
  show wpAny _ _ (call (.ref C) us) _ _ _
  have hone : us.length = 1 := (Paired.length r1).symm
  obtain ⟨bm, N, nm, qn, bs, hdct, sn, sub, ab, col, dd, k0, k1, k2, k3, k5, mN, hC, hN, hni, T⟩ := exc_obj I1.kIn q
  refine wpAny_call_exc_subT F T hC hN hni (fun h' a hm => ?_) (by rw [hone, sizeLine_eq]; omega)
  obtain ⟨t, ea, nt, et⟩ := hm.there
  have na : H1 a = none := I1.hok.gone hm.new
  have nt' : H1 t = none := I1.hok.gone nt
  have ne : a ≠ t := fun z => by
    rw [z, et] at ea
    cases ea
  refine ⟨.ref a, _, I1.un (un_two hm.keeps hm.new nt na nt') (hok_two I1.hok hm.keeps na nt' (exq_ok ea) ?_ ne), rfl, fin a t na nt' ne⟩
  exact ⟨by rw [List.length_singleton, sizeLine_eq]; omega, us, r1, _, et, rfl, 0, by simp⟩
/-- C(e), C's own __init__ storing the attribute f: the exception is kept -/
theorem pe_exi {e : Expr} {te : TE} {x f : Str} {C fI : Addr} {fd : FuncData} {ps : List Str} {p pos : Pos}
    (T : OexC X.K C) (iC : PySem.W.findIn X.K (.ref C) "__init__" = some (some (.ref fI))) (tI : PySem.W.typeIn X.K (.ref fI) = some (.type "function")) (hno : PySem.W.findIn X.K (.ref C) f = some none)
    (F1 : FnOk X.prog X.w X.K X.mg X.base (L2N.CX X.prog X.w) 1 fI fd ps (spI X.K C f)) (room : Room 2 X.A) (hb : Binds X.K fd ps []) (hg : Gl X x) (hm : X.mg x = some (.ref C)) (hdb : (x == ("__debug__" : Str)) = false) (he : PE X e te)
    (hs : starEach [e] X.env = [(false, eval e X.env)]) :
    PE X (.Call (.Name x p) [e] [] pos) (fun σ H Q => te σ H fun y H1 => ∀ a dx, H1 a = none → H1 dx = none → dx ≠ a → Q (.ref a) (upd (upd H1 dx (exd dx [(f, y)])) a (exo a C (some dx)))) := by
  refine ⟨fun pins s σ H Q I h => ?_⟩
  obtain ⟨nm, q, N, bs, bm, sn, sub, ab, col, dd, k0, k1, k2, k3, k5, cls, bases⟩ := T.cls
  refine wpAny_Call_Name_kw (ld_glob I hg hm ?_ hdb)
  refine PySem.W.callWith_K (h₀ := X.base) I.ok.mod.kin T.kC (thn ((pa_cons he pa_nil hs).run pos pins s σ H (oneV fun y H1 => ∀ a dx, H1 a = none → H1 dx = none → dx ≠ a → Q (.ref a) (upd (upd H1 dx (exd dx [(f, y)])) a (exo a C (some dx)))) I h) fun us s1 got => ?_) hs rfl
  obtain ⟨vs, H1, I1, r1, fin⟩ := got
  obtain ⟨y, rfl⟩ := oneV_of fin
  refine ⟨I1.kIn, ?_⟩
  show wpAny _ _ (call (.ref C) us) _ _ _
  obtain ⟨hp, g, dr, tk, os⟩ := s1
  have hone : us.length = 1 := (Paired.length r1).symm
  generalize hA : hp.objs.size + 1 = A
  have top : hp.objs.size ≤ A := by omega
  have free : H1 A = none := I1.hok.fresh top
  generalize hh : (hp.push (PySem.W.kdv_tup us)).push (PySem.HandSPX.excO C hp.objs.size) = hp2
  have stays : ∀ b o, hp.get? b = some o → hp2.get? b = some o := fun b o z => by
    rw [← hh]
    exact Heap.get?_push_of_some _ (Heap.get?_push_of_some _ z)
  have obj : hp2.get? A = some (PySem.HandSPX.excO C hp.objs.size) := by
    rw [← hh, ← hA]
    heap_get
  have I2 : Inv X pins σ (upd H1 A (exo A C none)) ⟨hp2, g, dr, tk, os⟩ := I1.laid (t' := tk) stays top (exo_ok obj)
  have hus : us.length ≤ sizeLine := by
    rw [hone, sizeLine_eq]
    omega
  have sp : spI X.K C f (V.ref A :: [y]) (upd H1 A (exo A C none)) (fun v H2 => v = .non ∧ ∃ dx, H1 dx = none ∧ dx ≠ A ∧ H2 = upd (upd (upd H1 A (exo A C none)) dx (exd dx [(f, y)])) A (exo A C (some dx))) (fun _ _ _ => False) :=
    ⟨_, y, rfl, T, hno, upd_same, fun dx n ne => ⟨rfl, dx, by rw [upd_ne ne] at n; exact n, ne, rfl⟩⟩
  have both : Vals (V.ref A :: [y]) (Value.ref A :: us ++ []) := by
    rw [List.append_nil]
    exact .cons rfl r1
  have len : (Value.ref A :: us ++ []).length = ps.length := by
    rw [← F1.len _ _ _ _ sp, List.append_nil, List.length_cons, hone]
    rfl
  subst hh
  have cal := @PySem.HandSPX.call_own
  subst hA
  refine wpAny_call (PySem.HandSPX.call_own F.excBase_ValueError (fun Y => PySem.HandSPX.refsVE_contains Y bm bases) (I1.kIn _ _ cls) (PySem.W.looks_findIn I1.kIn iC) (fun self => PySem.W.bind_fn I1.kIn self tI) hus ?_)
  refine codeAny_mono (F1.run _ X.stack _ _ ⟨Value.ref (hp.objs.size + 1) :: us, []⟩ (Value.ref (hp.objs.size + 1) :: us ++ []) _ _ _ (room.make C us []) (I2.env0.make C us []) (hb _ (Value.ref (hp.objs.size + 1) :: us) I2.kIn len) both sp) fun r s' end_ => ?_
  cases r with
  | error er =>
    obtain ⟨_, _, _, _, _, _, _, _, _, _, _, _, no⟩ := end_
    exact no.elim
  | ok fl =>
    cases fl with
    | ret u =>
      obtain ⟨v, H2, os2, bare2, un2, hok2, rv, ev, dx, n, ne, eH⟩ := end_
      subst ev
      generalize hA : hp.objs.size + 1 = A at *
      have eH2 : H2 = upd (upd H1 dx (exd dx [(f, y)])) A (exo A C (some dx)) := by
        rw [eH]
        funext b
        by_cases h1 : b = A
        · rw [h1, upd_same, upd_same]
        · rw [upd_ne h1, upd_ne h1]
          by_cases h2 : b = dx
          · rw [h2, upd_same, upd_same]
          · rw [upd_ne h2, upd_ne h2, upd_ne h1]
      obtain ⟨h2, g2, d2, t2, os'⟩ := s'
      have nh : ∀ {b : Addr} {o : Obj}, hp.get? b = some o → b ≠ A := fun {b o} z => Nat.ne_of_lt (Nat.lt_of_lt_of_le (Heap.lt_size z) top)
      have up : ∀ {b : Addr}, b ≠ A → H1 b = none → upd H1 A (exo A C none) b = none := fun {b} hb n => by rw [upd_ne hb]; exact n
      have U : Un (frs X.stack) [] H1 H2 hp h2 := {
        keep := fun b o z n hf hx => un2.keep b o (stays b o z) (up (nh z) n) hf hx
        slot := fun b o z n hf hx => un2.slot b o (stays b o z) (up (nh z) n) hf hx
        free := fun b o z n hx => un2.free b o (stays b o z) (up (nh z) n) hx
        there := fun b o z hx => un2.there b o (stays b o z) hx
        tups := fun b xs z => un2.tups b xs (by rw [upd_ne (ne_of_none z free)]; exact z)
        frzs := fun b o v z => un2.frzs b o v (by rw [upd_ne (ne_of_none z free)]; exact z)
        tbls := fun b ps z => un2.tbls b ps (by rw [upd_ne (ne_of_none z free)]; exact z) }
      refine ⟨rv, .ref A, H2, I1.call' (ch := []) os2 U hok2 bare2 (fun b z => absurd z (by simp)), rfl, ?_⟩
      rw [eH2]
      exact fin A dx free n ne
    | next => exact end_.elim
    | brk => exact end_.elim
    | cont => exact end_.elim
/-- isinstance(e, c), e an exception kept as a value -/
def rIsV (K : PySem.W.Frag) : List V → Hp → VK → Prop := fun xs H Q => ∃ (a C : Addr) (c : V) (cv : Value) (b : Bool), xs = [.ref a, c] ∧ ((∃ t, H a = some (exq a C t)) ∨ ∃ dx fs, H a = some (exo a C (some dx)) ∧ H dx = some (exd dx fs)) ∧ L2.ExcC K C ∧ (∀ u, RelV c u → u = cv) ∧ PySem.W.kitOne K (.ref C) cv = some b ∧ Q (.bl b) H
theorem exq_at {P : Program} {w : World} {C : Addr} (hok : HOk P w H h) (e : H a = some (exq a C t)) : h.get? a = some ({ cls := .ref C, dict := none, data := .fields #[.ref t, .none, .none, .none, .bool false, .none] } : Obj) := by
  have x : ObjOk P w H h a (.ext fun h => h.get? a = some ({ cls := .ref C, dict := none, data := .fields #[.ref t, .none, .none, .none, .bool false, .none] } : Obj)) := hok a _ e
  exact x.1
theorem kit_exc {K : PySem.W.Frag} {C x : Addr} {ox : Obj} {od : Option Obj} (c : L2.ExcC K C) : PySem.W.KitX K (.ref x) (.ref C) (fun h => PySem.W.InstAt h x ox C od) :=
  PySem.W.kitx_exc (by
    obtain ⟨cd, hc, _⟩ := PySem.W.any_some c.hd
    rw [hc]
    rfl) c.hg c.hk c.hs c.ha c.hn c.ht c.hm
theorem call_isV : CallR X (.builtin "isinstance") (rIsV X.K) := by
  intro pins s σ H xs us Q I r q
  obtain ⟨a, C, c, cv, b, rfl, at_, ec, hcv, k, q⟩ := q
  obtain ⟨u1, u2, rfl, r1, r2⟩ := vals2 r
  obtain rfl : u1 = Value.ref a := r1
  have e2 := hcv _ r2
  subst e2
  rcases at_ with ⟨t, ea⟩ | ⟨dx, fs, ea, ed⟩
  · have z := exq_at I.hok ea
    exact PySem.W.kia_one (kit_exc (od := none) ec) I.kIn ⟨z, rfl, rfl, trivial⟩ k (fun z => nomatch z) fun tk => ⟨.bl b, H, I.tok tk, rfl, q⟩
  · obtain ⟨t1, z⟩ := exo_at I.hok ea
    obtain ⟨mA, hns, _⟩ := exd_at I.hok ed
    obtain ⟨od, ho, hl⟩ := lookIn_ns hns
    exact PySem.W.kia_one (kit_exc (od := some od) ec) I.kIn ⟨z, rfl, rfl, ho⟩ k (fun z => nomatch z) fun tk => ⟨.bl b, H, I.tok tk, rfl, q⟩
/-- str(e), e an exception of one text, kept as a value -/
def rStrV (K : PySem.W.Frag) : List V → Hp → VK → Prop := fun xs H Q => ∃ (a C t : Addr) (m : Str), xs = [.ref a] ∧ H a = some (exq a C t) ∧ H t = some (.tup [.str m]) ∧ PySem.W.findIn K (.ref C) "__str__" = some (some (.builtin "BaseException.__str__")) ∧ PySem.W.subIn K (.ref C) (.type "BaseException") = some true ∧ Q (.str m) H
theorem call_strV (hu : X.A.units + 2 < cLine) : CallR X (.type "str") (rStrV X.K) := by
  intro pins s σ H xs us Q I r q
  obtain ⟨a, C, t, m, rfl, ea, et, f, sb, q⟩ := q
  obtain ⟨u1, rfl, r1⟩ := vals1 r
  obtain rfl : u1 = Value.ref a := r1
  obtain ⟨_, its, rv, o, e1, e2, n, e3⟩ := (show ObjOk X.prog X.w H s.heap t (.tup [.str m]) from I.hok t _ et)
  obtain ⟨u2, rfl, tk, rfl⟩ := vals1 rv
  exact PySem.P.str_of_C_one hu ⟨I.kIn, _, _, exq_at I.hok ea, rfl, rfl, rfl⟩ ⟨o, n, e1, e2, e3⟩ f sb ⟨.str m, H, I, ⟨tk, rfl⟩, q⟩
/-- e.f, e an exception kept as a value -/
theorem pe_fldV {e : Expr} {te : TE} {pos : Pos} {n : Str} {C : Addr} (T : XfC X.K C) (hno : PySem.W.findIn X.K (.ref C) n = some none) (he : PE X e te) (hb : attributeBase e n X.env (eval e X.env) = eval e X.env) :
    PE X (.Attribute e n pos) (fun σ H Q => te σ H fun x H1 => ∃ a dx fs v, x = .ref a ∧ H1 a = some (exo a C (some dx)) ∧ H1 dx = some (exd dx fs) ∧ fs.lookup n = some v ∧ Q v H1) := by
  refine ⟨fun pins s σ H Q I q => ?_⟩
  refine attr_of hb (thn (he.run pins s σ H _ I q) fun u s1 got => ?_)
  obtain ⟨x, H1, I1, rx, a, dx, fs, v, rfl, ea, ed, l, fin⟩ := got
  obtain rfl : u = Value.ref a := rx
  obtain ⟨t1, z⟩ := exo_at I1.hok ea
  obtain ⟨mA, hns, rel⟩ := exd_at I1.hok ed
  obtain ⟨od, ho, hl⟩ := lookIn_ns hns
  have rel := rel n
  rw [l] at rel
  obtain ⟨w, hw, rw'⟩ := RelO.some_of (v := v) (o := mA n) rel
  have J : PySem.W.InstAt s1.heap a _ C (some od) := ⟨z, rfl, rfl, ho⟩
  exact HandSPX.exc_get I1.kIn J T.ga T.gg T.exC (PySem.W.findObj_own T.hdC hno rfl (by rw [hl, hw])) (handed_of rw') ⟨v, H1, I1.tok _, rw', fin⟩
end
end DX

set_option Elab.async false
set_option linter.all false
set_option maxRecDepth 100000
set_option maxHeartbeats 4000000
/-! DX4: exceptions as values, at data level. -/
namespace DL
open PySem L2 PySem.Spec
/-- what the head tells of a class whose exceptions are values -/
structure XvC (K : PySem.W.Frag) (C : Addr) : Prop where
  ec : L2.ExcC K C
  st : PySem.W.findIn K (.ref C) "__str__" = some (some (.builtin "BaseException.__str__"))
structure XnC (X : Cx) (C : Addr) (y : Str) : Prop where
  dbg : (y == ("__debug__" : Str)) = false
  at_ : X.mg y = some (.ref C)
  kp : PySem.W.keepIn X.K (.ref C) = true
  ex : ∃ (B newId initId : String) (bmB : List Value), ExcBaseFacts B newId initId bmB ∧ PySem.W.excIn X.K C bmB newId = true
/-- the facts of the classes whose exceptions are values, and of those with an own __init__ -/
structure XcOk (G : Gs) (T : Tb) (er : Bool) (X : Cx) : Prop where
  xv : ∀ i y, T.xv[i]? = some y → XnC X (G.ob i) y
  vc : ∀ c, okC T.xv.length T.ei.length c = true → XvC X.K (G.ob c)
  rm : er = true → Room 2 X.A
  ei : ∀ j y f, T.ei[j]? = some (y, f) → InitC G X.prog X.w X.K X.mg X.base (500 + j) y ∧ G.fld (500 + j) = f
  cx : ∀ (j : Nat) (y : Str) (cs : List Nat), T.cx[j]? = some (y, cs) → ∃ v cv, ((y == ("__debug__" : Str)) = false ∧ X.mg y = some cv ∧ RelV v cv ∨ y = "ValueError" ∧ v = .ty "ValueError") ∧ (∀ u, RelV v u → u = cv) ∧ ∀ c, okC T.xv.length T.ei.length c = true → PySem.W.kitOne X.K (.ref (G.ob c)) cv = some (cs.contains c)
section
variable {G : Gs} {W : WX} {X : Cx} {e : Expr} {fe : Env → M D} {y : Str} {p pos : Pos}
theorem de_exn {i : Nat} (c : XnC X (G.ob i) y) (hg : Gl X y) (he : DE G W X e fe) (hs : starEach [e] X.env = [(false, eval e X.env)]) : DE G W X (.Call (.Name y p) [e] [] pos) (fUn (fun _ => gExn i) fe) := by
  obtain ⟨B, nI, iI, bmB, F, q⟩ := c.ex
  refine (DX.pe_exn F q c.at_ c.kp hg he hs c.dbg).imp fun σ H Q ⟨w, δ, r, en, p⟩ => ?_
  refine tE_of r en p fun d v w1 H1 e1 r1 en1 dv q1 => fun a t na nt ne => ?_
  obtain ⟨d', g1, g2⟩ := q1.lift
  cases d with
  | str m =>
    cases g1
    obtain ⟨rfl, ho⟩ := str_dat dv
    have x1 : Ext w1 w1 H1 (upd H1 t (.tup [.str ⟨m.toArray⟩])) := Ext.alloc nt
    have na2 : upd H1 t (.tup [.str ⟨m.toArray⟩]) a = none := by rw [upd_ne ne]; exact na
    have x2 : Ext w1 w1 _ (upd (upd H1 t (.tup [.str ⟨m.toArray⟩])) a (exq a (G.ob i) t)) := Ext.alloc na2
    refine g2 w1 _ (x1.trans x2) ((r1.alloc nt).alloc na2) rfl _ ?_
    simp only [Dat]
    exact ⟨⟨a, rfl, t, upd_same, r1.dead na, by rw [upd_ne (Ne.symm ne), upd_same], r1.dead nt⟩, ho⟩
  | _ => cases g1
theorem de_exi {i : Nat} (ic : InitC G X.prog X.w X.K X.mg X.base i y) (room : Room 2 X.A) (hg : Gl X y) (he : DE G W X e fe) (hs : starEach [e] X.env = [(false, eval e X.env)]) : DE G W X (.Call (.Name y p) [e] [] pos) (fUn (fun _ => gExi i) fe) := by
  obtain ⟨fI, fd, ps, h1, h2, h3, h4⟩ := ic.ini
  refine (DX.pe_exi ic.T h1 h2 ic.hno h4 room h3 hg ic.at_ ic.dbg he hs).imp fun σ H Q ⟨w, δ, r, en, p⟩ => ?_
  refine tE_of r en p fun d v w1 H1 e1 r1 en1 dv q1 => fun a t na nt ne => ?_
  obtain ⟨d', g1, g2⟩ := q1.lift
  cases d with
  | int k =>
    cases g1
    obtain rfl := int_dat dv
    have x1 : Ext w1 w1 H1 (upd H1 t (exd t [(G.fld i, .int k)])) := Ext.alloc nt
    have na2 : upd H1 t (exd t [(G.fld i, .int k)]) a = none := by rw [upd_ne (Ne.symm ne)]; exact na
    have x2 : Ext w1 w1 _ (upd (upd H1 t (exd t [(G.fld i, .int k)])) a (exo a (G.ob i) (some t))) := Ext.alloc na2
    refine g2 w1 _ (x1.trans x2) ((r1.alloc nt).alloc na2) rfl _ ?_
    simp only [Dat]
    exact ⟨a, rfl, t, upd_same, r1.dead na, by rw [upd_ne ne, upd_same], r1.dead nt⟩
  | _ => cases g1
theorem de_isx {ok : Nat → Bool} {cs : List Nat} {cls : Str} {p2 : Pos} {v : V} {cv : Value} (hg : Gl X "isinstance") (hm : X.mg "isinstance" = none) (hc : PE X (.Name cls p2) (tC v)) (hr : ∀ u, RelV v u → u = cv) (he : DE G W X e fe) (hn : notStar e = true) (hs : starEach [e, .Name cls p2] X.env = [(false, eval e X.env), (false, eval (.Name cls p2) X.env)])
    (k : ∀ c, ok c = true → L2.ExcC X.K (G.ob c) ∧ PySem.W.kitOne X.K (.ref (G.ob c)) cv = some (cs.contains c)) : DE G W X (.Call (.Name "isinstance" p) [e, .Name cls p2] [] pos) (fUn (fun _ => gIsx ok cs) fe) := by
  refine (pe_callB DX.call_isV hg hm PyProof.Rows.boot_isinstance (pa_cons he (pa_cons hc pa_nil rfl) hs) (by decide) (by decide) hs rfl).imp fun σ H Q ⟨w, δ, r, en, p⟩ => ?_
  refine tE_of r en p fun d v w1 H1 e1 r1 en1 dv q1 => ?_
  obtain ⟨d', g1, g2⟩ := q1.lift
  have g1 : gIsx ok cs d = some d' := g1
  unfold gIsx at g1
  have key : ∀ c, xcl d = some c → ok c = true ∧ d' = .bl (cs.contains c) := fun c hc => by
    rw [hc] at g1
    simp only at g1
    split at g1
    · exact ⟨by assumption, (Option.some.inj g1).symm⟩
    · cases g1
  have fin := g2 w1 H1 (Ext.refl _ _) r1 rfl
  cases d with
  | exn c m =>
    obtain ⟨k1, rfl⟩ := key c rfl
    simp only [Dat] at dv
    obtain ⟨⟨a, rfl, t, ea, _⟩, _⟩ := dv
    obtain ⟨k2, k3⟩ := k c k1
    exact ⟨a, _, _, cv, _, rfl, .inl ⟨t, ea⟩, k2, hr, k3, fin _ (dat_bl ..)⟩
  | exi c j =>
    obtain ⟨k1, rfl⟩ := key c rfl
    simp only [Dat] at dv
    obtain ⟨a, rfl, dx, ea, _, ed, _⟩ := dv
    obtain ⟨k2, k3⟩ := k c k1
    exact ⟨a, _, _, cv, _, rfl, .inr ⟨dx, _, ea, ed⟩, k2, hr, k3, fin _ (dat_bl ..)⟩
  | _ => cases g1
theorem de_stx {ok : Nat → Bool} (hu : X.A.units + 2 < cLine) (hg : Gl X "str") (hm : X.mg "str" = none) (he : DE G W X e fe) (hs : starEach [e] X.env = [(false, eval e X.env)])
    (k : ∀ c, ok c = true → XvC X.K (G.ob c)) : DE G W X (.Call (.Name "str" p) [e] [] pos) (fUn (fun _ => gStx ok) fe) := by
  refine (pe_callTy (DX.call_strV hu) hg hm PyProof.Rows.boot_str (pa_cons he pa_nil hs) (by decide) (by decide) hs rfl).imp fun σ H Q ⟨w, δ, r, en, p⟩ => ?_
  refine tE_of r en p fun d v w1 H1 e1 r1 en1 dv q1 => ?_
  obtain ⟨d', g1, g2⟩ := q1.lift
  cases d with
  | exn c m =>
    have g1 : (if ok c = true then some (D.str m) else none) = some d' := g1
    split at g1
    · rename_i k1
      cases g1
      simp only [Dat] at dv
      obtain ⟨⟨a, rfl, t, ea, _, et, _⟩, ho⟩ := dv
      exact ⟨a, _, t, _, rfl, ea, et, (k c k1).st, (k c k1).ec.hs, g2 w1 H1 (Ext.refl _ _) r1 rfl _ (dat_str ho)⟩
    · cases g1
  | _ => cases g1
theorem de_fld {i : Nat} {n : Str} (ic : InitC G X.prog X.w X.K X.mg X.base i y) (hf : G.fld i = n) (he : DE G W X e fe) (hb : attributeBase e n X.env (eval e X.env) = eval e X.env) : DE G W X (.Attribute e n pos) (fUn (fun _ => gFld i) fe) := by
  subst hf
  refine (DX.pe_fldV ic.xf ic.hno he hb).imp fun σ H Q ⟨w, δ, r, en, p⟩ => ?_
  refine tE_of r en p fun d v w1 H1 e1 r1 en1 dv q1 => ?_
  obtain ⟨d', g1, g2⟩ := q1.lift
  cases d with
  | exi c j =>
    simp only [gFld] at g1
    by_cases hc : c = i
    · rw [if_pos hc] at g1
      subst hc
      simp only [Dat] at dv
      obtain ⟨a, rfl, dx, ea, _, ed, _⟩ := dv
      have e2 : D.int j = d' := Option.some.inj g1
      rw [← e2] at g2
      exact ⟨a, dx, _, _, rfl, ea, ed, by simp [List.lookup], g2 w1 H1 (Ext.refl _ _) r1 rfl _ (dat_int ..)⟩
    · rw [if_neg hc] at g1
      cases g1
  | _ => cases g1
end
end DL

set_option Elab.async false
set_option linter.all false
set_option maxRecDepth 100000
set_option maxHeartbeats 4000000
/-! DL11: written code that is a core expression does what the core means. -/
namespace DL
open PySem L2 PySem.Spec

/-! ### small facts of the syntax -/
theorem star_cons {e : Expr} (h : notStar e = true) (es : List Expr) (env : PySem.Env) : starEach (e :: es) env = (false, eval e env) :: starEach es env := by
  cases e <;> first | rfl | (simp [notStar] at h)
theorem back_any (pos : Pos) (l : List (Bool × Sem Value)) : (backTo pos l).any (·.1) = l.any (·.1) := by
  unfold backTo
  rw [List.any_map]
  rfl
theorem star_any0 : ∀ {es : List Expr} (env : PySem.Env), es.all notStar = true → (starEach es env).any (·.1) = false
  | [], _, _ => by simp [starEach]
  | e :: es, env, h => by
    simp only [List.all_cons, Bool.and_eq_true] at h
    rw [star_cons h.1, List.any_cons, star_any0 env h.2]
    rfl
theorem star_any {es : List Expr} (pos : Pos) (env : PySem.Env) (h : es.all notStar = true) : (backTo pos (starEach es env)).any (·.1) = false := (back_any _ _).trans (star_any0 env h)
theorem star_len : ∀ (es : List Expr) (env : PySem.Env), (starEach es env).length = es.length
  | [], _ => by simp [starEach]
  | e :: es, env => by
    have ih := star_len es env
    cases e <;> simp [starEach, ih]
theorem true_tst {x : Expr} (h : tst x = false) (env : PySem.Env) (whole : Sem Value) : isTrue x env whole = (do let v ← whole; standAt x.pos; holding [v] (truthy v)) := by
  cases x with
  | UnaryOp op y p => cases op <;> first | rfl | (simp [tst] at h)
  | BoolOp op y p => simp [tst] at h
  | IfExp a b c d => simp [tst] at h
  | Compare a b c d => simp [tst] at h
  | _ => rfl
theorem sup_base {o : Expr} (h : sup o = false) (n : Str) (env : PySem.Env) (w : Sem Value) : attributeBase o n env w = w := by
  cases o <;> first | rfl | (simp [sup] at h)
theorem set_iter {e : Expr} (h : isSet e = false) (env : PySem.Env) (x : Value) : foldedSetIterable e env x = pure x := by
  cases e <;> first | rfl | (simp [isSet] at h)
theorem asg_cons {e : Expr} (h : notStar e = true) (es : List Expr) (env : PySem.Env) : assignEach (e :: es) env = (false, assign e env) :: assignEach es env := by
  cases e <;> first | rfl | (simp [notStar] at h)
theorem asg_len : ∀ {es : List Expr} (env : PySem.Env), es.all notStar = true → (assignEach es env).length = es.length ∧ (assignEach es env).all (fun q => !q.1) = true
  | [], _, _ => ⟨rfl, rfl⟩
  | e :: es, env, h => by
    simp only [List.all_cons, Bool.and_eq_true] at h
    have ih := asg_len env h.2
    rw [asg_cons h.1]
    exact ⟨by simp [ih.1], by simp [ih.2]⟩
theorem asg_none {es : List Expr} {env : PySem.Env} (h : es.all notStar = true) : (assignEach es env).findIdx? (·.1) = none := by
  rw [List.findIdx?_eq_none_iff]
  intro q hq
  have := List.all_eq_true.mp (asg_len env h).2 q hq
  simpa using this
theorem ix_plain {b : Expr} (h : ∀ l u p, b ≠ .Slice l u none p) : PlainIx b := by
  intro o i
  cases b with
  | Slice l u s p =>
    cases s with
    | none => exact absurd rfl (h l u p)
    | some s => rfl
  | _ => rfl

/-! ### the context -/
def bltN : List Str := ["len", "abs", "max", "min", "isinstance", "int", "str", "tuple", "list", "bool", "range", "enumerate", "zip", "sorted", "ValueError"]
structure XOk0 (G : Gs) (T : Tb) (P : Nat → List D → M D) (K : Nat → D) (b : Bk) (W : WX) (X : Cx) : Prop where
  hK : X.K = G.K
  hW : X.w = G.W
  hN : X.N = b.N
  nd : b.N.Nodup
  sc : X.env.scope = b.sc
  fb : X.fn = b.fb
  calm : X.calm = true
  tk : L2N.Takes X W
  lv : ∃ k, Room k X.A ∧ ∀ i y n, T.fn[i]? = some (y, n) → ∃ f fd ps, X.mg y = some (.ref f) ∧ PySem.W.keepIn X.K (.ref f) = true ∧ Binds X.K fd ps [] ∧ ps.length = n ∧ FnOk X.prog X.w X.K X.mg X.base (L2N.CX X.prog X.w) k f fd ps (spD G (P i))
  bl : ∀ y ∈ bltN, X.mg y = none
  cs : ∀ i y, T.cs[i]? = some y → ∃ u v, X.mg y = some u ∧ RelV v u ∧ ∀ w H, Rep G w H → Dat G w H (K i) v
  xc : XcOk G T b.er X
structure XOk (G : Gs) (T : Tb) (P : Nat → List D → M D) (K : Nat → D) (b : Bk) (W : WX) (X : Cx) : Prop extends XOk0 G T P K b W X where
  er : b.er = true → ∀ (params : Arguments) (body : Expr) (scope : Scope) (p lpos pos : Pos) (f : Env → M D), glB b "_law_error" = true → noPar params = true → LamX.lamSB b.sc scope = true →
    (∀ (W' : WX) (X' : Cx), XOk0 G T (shift P) K (b.lam scope) W' X' → DE G W' X' body f) → DE G W X (.Call (.Name "_law_error" p) [.Lambda params body scope lpos] [] pos) (fErr K f)
section
variable {G : Gs} {T : Tb} {P : Nat → List D → M D} {K : Nat → D} {b : Bk} {W : WX} {X : Cx}
theorem XOk.un (o : XOk G T P K b W X) : X.A.units + 65 < cLine := by
  obtain ⟨k, r, _⟩ := o.lv
  have := r.un
  omega
theorem XOk.gl (o : XOk G T P K b W X) {y : Str} (h : glB b y = true) : Gl X y := by
  unfold glB at h
  show X.env.scope.names.lookup y = _
  rw [o.sc]
  exact eq_of_beq h
theorem XOk.vis (o : XOk G T P K b W X) {y : Str} (h : visB b y = true) : Vis X.env.scope y := by
  unfold visB at h
  unfold Vis
  rw [o.sc]
  split at h <;> simp_all
theorem XOk.blk (o : XOk G T P K b W X) {scope : Scope} (s : Shared) (H : Hp) (C : Addr) (cl : List (Str × Addr)) (fp : List Addr) : XOk G T P K (b.in scope) W0 (X.blk s H scope (compEnvC scope cl C X.env) fp) where
  hK := o.hK
  hW := o.hW
  hN := o.hN
  nd := o.nd
  sc := by
    show relabel scope X.env = relS scope b.sc
    unfold relabel relS PySem.Env.kindOf
    rw [o.sc]
  fb := rfl
  calm := o.calm
  tk := fun u s' ⟨a, B, sI, pins, σ, H, cls, d, e, I, nb, up, sky, na, os, ag, w⟩ => w.elim
  lv := o.lv
  bl := o.bl
  cs := o.cs
  xc := ⟨fun i y h => ⟨(o.xc.xv i y h).dbg, (o.xc.xv i y h).at_, (o.xc.xv i y h).kp, (o.xc.xv i y h).ex⟩, o.xc.vc, fun h => (by cases h), o.xc.ei, o.xc.cx⟩
  er := fun h => by cases h

/-! ### targets -/
mutual
theorem tg_ok (o : XOk G T P K b W X) : ∀ (g : Tg) (x : Expr), Tg.ck b g x = true → DG G X x g.ix g.g
  | .nm i, x, h => by
    unfold Tg.ck at h
    split at h
    · rename_i j y p e
      cases e
      simp only [Bool.and_eq_true] at h
      have h1 := eq_of_beq h.1
      have h2 := h.2
      unfold locB at h2
      simp only [Tg.ix, Tg.g]
      refine dg_name (by rw [o.hN]; exact o.nd) (by rw [o.hN]; exact h1) ?_ ?_
      · unfold L2.Loc
        rw [o.sc]
        split at h2 <;> simp_all
      · rw [o.sc, o.fb]
        split at h2 <;> simp_all
    · rename_i e
      cases e
    · cases h
  | .tup n r, x, h => by
    unfold Tg.ck at h
    split at h
    · rename_i e
      cases e
    · rename_i n' r' es k p e
      cases e
      simp only [Bool.and_eq_true] at h
      have h1 := eq_of_beq h.1
      have h2 := tgs_ok o r es h.2
      simp only [Tg.ix, Tg.g]
      exact dg_tupX o.hK o.calm h2.1 ((asg_len X.env h2.2).1.trans h1) (asg_none h2.2)
    · cases h
  | .nil, x, h => by simp [Tg.ck] at h
  | .cons a r, x, h => by simp [Tg.ck] at h
theorem tgs_ok (o : XOk G T P K b W X) : ∀ (g : Tg) (es : List Expr), Tg.cks b g es = true → DGs G X es g.ix g.gs ∧ es.all notStar = true
  | .nil, es, h => by
    unfold Tg.cks at h
    split at h
    · exact ⟨by simp only [Tg.ix, Tg.gs]; exact dgs_nil, rfl⟩
    · rename_i e; cases e
    · cases h
  | .cons a r, es, h => by
    unfold Tg.cks at h
    split at h
    · rename_i e; cases e
    · rename_i a' r' e es e2
      cases e2
      simp only [Bool.and_eq_true] at h
      have h1 := tg_ok o a e h.1.2
      have h2 := tgs_ok o r es h.2
      simp only [Tg.ix, Tg.gs]
      exact ⟨dgs_cons h1 h2.1 (by rw [asg_cons h.1.1]; rfl), by simp [h.1.1, h2.2]⟩
    · cases h
  | .nm i, es, h => by simp [Tg.cks] at h
  | .tup n r, es, h => by simp [Tg.cks] at h
end
theorem blk_ok (o : XOk G T P K b W X) {scope : Scope} (h : blkB b scope = true) : BlkOk X.N X.env.scope scope (ownOf b.N scope) := by
  unfold blkB at h
  simp only [Bool.and_eq_true, List.all_eq_true] at h
  obtain ⟨h1, h2⟩ := h
  refine ⟨eq_of_beq h1, fun y hy => eq_of_beq (h2 y hy).1, fun p hp => ?_, fun y hy e => ?_, fun y hy e => ?_⟩
  · unfold ownOf at hp
    rw [List.mem_filterMap] at hp
    obtain ⟨y, hy, e⟩ := hp
    split at e
    · cases q : List.idxOf? y.1 b.N with
      | none =>
        rw [q] at e
        cases e
      | some i =>
        rw [q] at e
        cases e
        rw [o.hN]
        rw [List.idxOf?_eq_some_iff] at q
        obtain ⟨hh, h1, _⟩ := q
        exact List.getElem?_eq_some_iff.mpr ⟨hh, by simpa using h1⟩
    · cases e
  · have := (h2 y hy).2
    rw [o.sc]
    simp only [Bool.or_eq_true] at this
    rcases this with (z | z) | z
    · rw [e] at z
      simp at z
    · exact .inl (eq_of_beq z)
    · exact .inr (eq_of_beq z)
  · rw [o.hN]
    by_cases hm : y.1 ∈ b.N
    · left
      cases q : List.idxOf? y.1 b.N with
      | none =>
        rw [List.idxOf?_eq_none_iff] at q
        exact absurd hm (by simpa using q)
      | some i =>
        refine List.mem_map.mpr ⟨(y.1, i), ?_, rfl⟩
        unfold ownOf
        rw [List.mem_filterMap]
        refine ⟨y, hy, ?_⟩
        rw [if_pos, q]
        · rfl
        · rcases e with e | e <;> simp [e]
    · exact .inr hm

/-! ### operations by number -/
theorem bo_ok (o : XOk G T P K b W X) (k : Bo) : OpR X (binaryOp k.op) (rD G k.g) := by
  cases k with
  | add => exact op_addG2 o.hK
  | sub => exact op_subG2
  | mul => exact op_mulG o.hK
  | div => exact op_divG
  | mod => exact op_modG
  | pow => exact op_powG
theorem co_ok (o : XOk G T P K b W X) (k : Co) : OpR X (compareOp k.op) (rD G k.g) := by
  have hu := o.un
  cases k with
  | eq => exact op_eqG o.hK (by omega)
  | ne => exact op_neG o.hK (by omega)
  | lt => exact op_ltG
  | le => exact op_leG
  | gt => exact op_gtG
  | ge => exact op_geG
  | is => exact op_isG
  | isn => exact op_isNotG
  | inn => exact op_inG o.hK o.hW hu
  | nin => exact op_notInG o.hK o.hW hu
theorem de_blt (o : XOk G T P K b W X) (k : Bt) {e : Expr} {es : List Expr} {fs : Env → M (List D)} {p pos : Pos} (hg : glB b k.nm = true) (ha : DA G W X (e :: es) fs) (hs : (e :: es).all notStar = true) : DE G W X (.Call (.Name k.nm p) (e :: es) [] pos) (fDs k.g fs) := by
  have hs' := hs
  simp only [List.all_cons, Bool.and_eq_true] at hs'
  have hg := o.gl hg
  have h1 := star_cons hs'.1 es X.env
  have h2 := star_any pos X.env hs'.2
  have bl := o.bl
  cases k with
  | len => exact de_callB (call_lenG o.hK) hg (bl _ (by decide)) PySem.boot_len ha (by decide) (by decide) h1 h2
  | abs => exact de_callB call_absG hg (bl _ (by decide)) PyProof.Rows.boot_abs ha (by decide) (by decide) h1 h2
  | max => exact de_callB (call_maxG o.calm) hg (bl _ (by decide)) PyProof.Rows.boot_max ha (by decide) (by decide) h1 h2
  | min => exact de_callB (call_minG o.calm) hg (bl _ (by decide)) PyProof.Rows.boot_min ha (by decide) (by decide) h1 h2
  | isi => exact de_callB (call_isiG o.hK) hg (bl _ (by decide)) PyProof.Rows.boot_isinstance ha (by decide) (by decide) h1 h2
  | int => exact de_callTy call_intG hg (bl _ (by decide)) PyProof.Rows.boot_int ha (by decide) (by decide) h1 h2
  | str => exact de_callTy call_strG hg (bl _ (by decide)) PyProof.Rows.boot_str ha (by decide) (by decide) h1 h2
  | tup => exact de_callTy (call_tupleG o.hK) hg (bl _ (by decide)) PyProof.Rows.boot_tuple ha (by decide) (by decide) h1 h2
  | lst => exact de_callTy (call_listG o.hK) hg (bl _ (by decide)) PyProof.Rows.boot_list ha (by decide) (by decide) h1 h2
theorem few_ok {e : Expr} {es : List Expr} {pos : Pos} {env : PySem.Env} (hs : (e :: es).all notStar = true) (hl : (e :: es).length < 29) :
    ((backTo pos (starEach (e :: es) env)).all (fun x => !x.1) && (backToKw pos (keywordEach [] env)).all (fun x => x.1.isSome) && decide ((e :: es).length + ([] : List Keyword).length + (if ([] : List Keyword).isEmpty then 0 else 1) < 30)) = true := by
  have h1 : (backTo pos (starEach (e :: es) env)).all (fun x => !x.1) = true := by
    have := star_any pos env hs
    rw [List.any_eq_false] at this
    rw [List.all_eq_true]
    intro x hx
    have := this x hx
    simpa using this
  have h2 : (backToKw pos (keywordEach [] env)).all (fun x => x.1.isSome) = true := by simp [backToKw, keywordEach]
  rw [h1, h2]
  simp only [Bool.true_and, decide_eq_true_eq]
  simp only [List.length_cons] at hl
  simp only [List.length_cons, List.length_nil, List.isEmpty_nil, if_true]
  omega
theorem de_mth (o : XOk G T P K b W X) (m : Mt) {x : Expr} {es : List Expr} {fo : Env → M D} {fs : Env → M (List D)} {p pos : Pos} (ho : DE G W X x fo) (ha : DA G W X es fs) (hn : es = [] → fs = fNil) (hs : es.all notStar = true) (hl : es.length < 29) (hb : sup x = false) (hp : (p.endLine == pos.line) = true) :
    DE G W X (.Call (.Attribute x m.nm p) es [] pos) (fMx m.T m.g fo fs) := by
  have h0 := sup_base hb m.nm X.env (eval x X.env)
  have key : ∀ {id : String}, PySem.PlainAttrs (tyNm m.T) → PySem.Slot (tyNm m.T) m.nm id → typeOf (.builtin id) = pure (.type "method_descriptor") → MtR X id (rMx G m.g) → DE G W X (.Call (.Attribute x m.nm p) es [] pos) (fMx m.T m.g fo fs) := by
    intro id pa sl hty hm
    cases es with
    | nil =>
      rw [hn rfl]
      exact de_mx0 o.hK pa sl hty hm ho h0 hp
    | cons e es =>
      have hs' := hs
      simp only [List.all_cons, Bool.and_eq_true] at hs'
      exact de_mx o.hK pa sl hty hm ho ha h0 (few_ok hs hl) hp (star_cons hs'.1 es X.env) (star_any pos X.env hs'.2)
  cases m with
  | split => exact key F.plainAttrs_str F.slot_str_split F.type_str_split mt_splitG.lift
  | join => exact key F.plainAttrs_str F.slot_str_join F.type_str_join mt_joinG.lift
  | upper => exact key F.plainAttrs_str F.slot_str_upper F.type_str_upper mt_upperG.lift
  | append => exact key F.plainAttrs_list F.slot_list_append F.type_list_append mt_appM
  | index => exact key F.plainAttrs_list F.slot_list_index F.type_list_index (mt_indexG o.hK o.un).lift
theorem un_negG : UnR X (unaryOp .USub) (rU1 G fun _ d => (toI d).map fun i => .int (-i)) := un_neg.imp fun x H Q ⟨w, a, d, r, da, g, q⟩ => by
  cases a with
  | int i =>
    cases g
    exact ⟨i, int_dat da, q w H _ (Ext.refl _ _) r rfl (dat_int ..)⟩
  | _ => cases g
theorem de_not {e : Expr} {fa : Env → M D} {pos : Pos} (hK : X.K = G.K) (ha : DE G W X e fa) : DE G W X (.UnaryOp .Not e pos) (fUn gNot fa) := by
  refine (pe_notT ha).imp fun σ H Q ⟨w, δ, r, en, p⟩ => ?_
  refine tE_of r en p fun x v w1 H1 e1 r1 en1 d1 h1 => ?_
  obtain ⟨d, g1, g2⟩ := h1.lift
  unfold gNot at g1
  cases e : tru w1.μ x with
  | none =>
    rw [e] at g1
    cases g1
  | some k =>
    rw [e] at g1
    cases g1
    exact ⟨k, by rw [hK]; exact tru_of r1 d1 e, g2 w1 H1 (Ext.refl _ _) r1 rfl _ (dat_bl ..)⟩
theorem de_cst (o : XOk G T P K b W X) {i : Nat} {y : Str} {p : Pos} (hi : T.cs[i]? = some y) (hg : glB b y = true) (hd : (y == ("__debug__" : Str)) = false) : DE G W X (.Name y p) (fC (K i)) := by
  obtain ⟨u, v, hm, hr, hd'⟩ := o.cs i y hi
  exact (pe_glob (o.gl hg) hm hr hd).imp fun σ H Q ⟨w, δ, r, en, p⟩ => p.ret r v (hd' w H r)

/-! ### the theorem -/
/-- written code that is c does what c means -/
structure Snd (G : Gs) (T : Tb) (P : Nat → List D → M D) (K : Nat → D) (c : C) : Prop where
  e : ∀ {b W X x}, XOk G T P K b W X → (ck T c).e b x = true → DE G W X x (sem P K c).e
  t : ∀ {b W X x}, XOk G T P K b W X → (ck T c).t b x = true → DT G W X x (sem P K c).t
  w : ∀ {k b W X es pos}, XOk G T P K b W X → (ck T c).w k b es = true → DW G W X (.BoolOp (boK k) es pos) (sem P K c).t
  v : ∀ {k b W X es pos}, XOk G T P K b W X → (ck T c).v k b es = true → DE G W X (.BoolOp (boK k) es pos) (sem P K c).e
  a : ∀ {b W X es}, XOk G T P K b W X → (ck T c).a b es = true → DA G W X es (sem P K c).a ∧ es.all notStar = true ∧ (es = [] → (sem P K c).a = fNil)
  i : ∀ {b W X tg x}, XOk G T P K b W X → (ck T c).i b tg x = true → DI G W X tg x (sem P K c).a
theorem snd_ET {c : C} {e t : Bk → Expr → Bool} (hc : ck T c = ckET e t) (he : ∀ {b W X x}, XOk G T P K b W X → e b x = true → DE G W X x (sem P K c).e) (ht : ∀ {b W X x}, XOk G T P K b W X → t b x = true → DT G W X x (sem P K c).t) : Snd G T P K c where
  e := fun o h => he o (by rw [hc] at h; exact h)
  t := fun o h => ht o (by rw [hc] at h; exact h)
  w := fun {k b W X es pos} o h => by
    rw [hc] at h
    simp only [ckET] at h
    split at h
    · cases k
      · exact dw_or1 (ht o h)
      · exact dw_and1 (ht o h)
    · cases h
  v := fun {k b W X es pos} o h => by
    rw [hc] at h
    simp only [ckET] at h
    split at h
    · exact de_one (he o h)
    · cases h
  a := fun o h => by
    rw [hc] at h
    cases h
  i := fun o h => by
    rw [hc] at h
    cases h
theorem snd_E {c : C} {e : Bk → Expr → Bool} {f : Env → M D} (hc : ck T c = ckE e) (hs : sem P K c = ofE f) (he : ∀ {b W X x}, XOk G T P K b W X → e b x = true → DE G W X x f) : Snd G T P K c :=
  snd_ET hc (fun o h => by rw [hs]; exact he o h) fun {b W X x} o h => by
    simp only [Bool.and_eq_true] at h
    rw [hs]
    exact dt_tru o.hK (he o h.1) (true_tst (by simpa using h.2) X.env)
theorem snd_I {c : C} {i : Bk → Expr → Expr → Bool} {f : Env → M (List D)} (hc : ck T c = ckI i) (hs : sem P K c = ofA f) (hi : ∀ {b W X tg x}, XOk G T P K b W X → i b tg x = true → DI G W X tg x f) : Snd G T P K c where
  e := fun o h => by rw [hc] at h; cases h
  t := fun o h => by rw [hc] at h; cases h
  w := fun o h => by rw [hc] at h; cases h
  v := fun o h => by rw [hc] at h; cases h
  a := fun o h => by rw [hc] at h; cases h
  i := fun o h => by rw [hc] at h; rw [hs]; exact hi o h
end
end DL

set_option Elab.async false
set_option linter.all false
set_option maxRecDepth 100000
set_option maxHeartbeats 4000000
/-! DL12: the theorem on core expressions. -/
namespace DL
open PySem L2 PySem.Spec
section
variable {G : Gs} {T : Tb} {P : Nat → List D → M D} {K : Nat → D} {b : Bk} {W : WX} {X : Cx}
theorem ds_items {tg x : Expr} {k : List D → Option (List D)} {fs : Env → M (List D)} (h : DI G W X tg x (fun δ => bnd (fs δ) fun ds => lift fun _ => k ds)) : DI G W X tg x (fItems k fs) := h
theorem part_none : PO X none (tO G W (part none)) := do_none
theorem snd_var (i : Nat) : Snd G T P K (.var i) := snd_E rfl rfl fun {b W X x} o h => by
  split at h
  · simp only [Bool.and_eq_true] at h
    have hd := okN_d h.2
    exact de_var (by rw [o.hN]; exact eq_of_beq h.1.1) (o.vis h.1.2) hd.1 hd.2
  · cases h
theorem snd_lit (d : D) : Snd G T P K (.lit d) := snd_E rfl rfl fun {b W X x} o h => by
  split at h
  · exact de_non
  · rw [eq_of_beq h]
    exact de_bl
  · rw [eq_of_beq h]
    exact de_int
  · simp only [Bool.and_eq_true] at h
    exact de_str (eq_of_beq h.1) h.2
  · cases h
theorem snd_ty (n : Nat) : Snd G T P K (.ty n) := snd_E rfl rfl fun {b W X x} o h => by
  split at h
  · simp only [Bool.and_eq_true] at h
    have hg := o.gl h.2
    have e := eq_of_beq h.1
    subst e
    have key : ∀ {N : String}, (N : Str) ∈ bltN → bootBuiltins (N : Str) = some (.type N) → ((N : Str) == ("__debug__" : Str)) = false → (N : Str) ≠ "__name__" → Gl X (N : Str) → ∀ {p}, DE G W X (.Name (N : Str) p) (fC (.ty N)) := fun {N} hb h1 h2 h3 hg {p} =>
      de_c (pe_bltn (v := .ty N) hg (o.bl _ hb) h1 (by rfl) h3 h2) fun _ _ => by simp [Dat]
    unfold tyS at hg ⊢
    split at hg
    · exact key (by decide) PyProof.Rows.boot_int (by decide) (by decide) hg
    · exact key (by decide) PyProof.Rows.boot_bool (by decide) (by decide) hg
    · exact key (by decide) PyProof.Rows.boot_str (by decide) (by decide) hg
    · exact key (by decide) PyProof.Rows.boot_tuple (by decide) (by decide) hg
    · exact key (by decide) PyProof.Rows.boot_list (by decide) (by decide) hg
  · cases h
theorem snd_cst (i : Nat) : Snd G T P K (.cst i) := snd_E rfl rfl fun {b W X x} o h => by
  split at h
  · simp only [Bool.and_eq_true] at h
    exact de_cst o (eq_of_beq h.1.1) h.1.2 (okN_d h.2).1
  · cases h
theorem snd_bin (k : Bo) {a c : C} (ha : Snd G T P K a) (hc : Snd G T P K c) : Snd G T P K (.bin k a c) := snd_E rfl rfl fun {b W X x} o h => by
  split at h
  · simp only [Bool.and_eq_true] at h
    rw [eq_of_beq h.1.1]
    exact de_op (bo_ok o k) (ha.e o h.1.2) (hc.e o h.2)
  · cases h
theorem snd_cmp (k : Co) {a c : C} (ha : Snd G T P K a) (hc : Snd G T P K c) : Snd G T P K (.cmp k a c) := by
  refine snd_ET rfl (fun {b W X x} o h => ?_) (fun {b W X x} o h => ?_)
  · split at h
    · simp only [Bool.and_eq_true, Bool.not_eq_true'] at h
      have e := eq_of_beq h.1.1.1
      subst e
      exact de_cmp (co_ok o k) (ha.e o h.1.1.2) (hc.e o h.1.2) h.2
    · cases h
  · split at h
    · simp only [Bool.and_eq_true, Bool.not_eq_true'] at h
      have e := eq_of_beq h.1.1.1
      subst e
      exact dt_cmp (co_ok o k) (ha.e o h.1.1.2) (hc.e o h.1.2) h.2
    · cases h
theorem snd_chn (k k' : Co) {a c d : C} (ha : Snd G T P K a) (hc : Snd G T P K c) (hd : Snd G T P K d) : Snd G T P K (.chn k k' a c d) := by
  refine snd_ET rfl (fun {b W X x} o h => ?_) (fun {b W X x} o h => ?_)
  · split at h
    · simp only [Bool.and_eq_true, Bool.not_eq_true'] at h
      obtain ⟨⟨⟨⟨⟨h1, h2⟩, h3⟩, h4⟩, h5⟩, h6⟩ := h
      have e := eq_of_beq h1
      subst e
      have e := eq_of_beq h2
      subst e
      exact de_chain (co_ok o k) (co_ok o k') (ha.e o h3) (hc.e o h4) (hd.e o h5) h6
    · cases h
  · split at h
    · simp only [Bool.and_eq_true, Bool.not_eq_true'] at h
      obtain ⟨⟨⟨⟨⟨h1, h2⟩, h3⟩, h4⟩, h5⟩, h6⟩ := h
      have e := eq_of_beq h1
      subst e
      have e := eq_of_beq h2
      subst e
      exact dt_chain (co_ok o k) (co_ok o k') (ha.e o h3) (hc.e o h4) (hd.e o h5) h6
    · cases h
theorem snd_neg {a : C} (ha : Snd G T P K a) : Snd G T P K (.neg a) := snd_E rfl rfl fun {b W X x} o h => by
  split at h
  · exact de_un un_negG (ha.e o h)
  · cases h
theorem snd_not {a : C} (ha : Snd G T P K a) : Snd G T P K (.not a) := by
  refine snd_ET rfl (fun {b W X x} o h => ?_) (fun {b W X x} o h => ?_)
  · split at h
    · exact de_not o.hK (ha.e o h)
    · cases h
  · split at h
    · exact dt_not (ha.t o h)
    · cases h
theorem sem_bo (k : Bool) (a r : C) : sem P K (.bo k a r) = if k = true then ⟨fAndV (sem P K a).e (sem P K r).e, fAnd (sem P K a).t (sem P K r).t, bad⟩ else ⟨fOrV (sem P K a).e (sem P K r).e, fOr (sem P K a).t (sem P K r).t, bad⟩ := rfl
def boW (T : Tb) (k : Bool) (a r : C) : Bk → List Expr → Bool := fun b es => match es with
  | x :: y :: es => (ck T a).t b x && (ck T r).w k b (y :: es)
  | _ => false
def boV (T : Tb) (k : Bool) (a r : C) : Bk → List Expr → Bool := fun b es => match es with
  | x :: y :: es => (ck T a).e b x && (ck T r).v k b (y :: es)
  | _ => false
def boT (T : Tb) (k : Bool) (a r : C) : Bk → Expr → Bool := fun b x => match x with
  | .BoolOp p es _ => p == boK k && boW T k a r b es
  | _ => false
def boE (T : Tb) (k : Bool) (a r : C) : Bk → Expr → Bool := fun b x => match x with
  | .BoolOp p es _ => p == boK k && boV T k a r b es
  | _ => false
theorem ck_bo (k : Bool) (a r : C) : ck T (.bo k a r) = ⟨boE T k a r, boT T k a r, fun k' b es => match es with
      | [x] => boT T k a r b x
      | es => k' == k && boW T k a r b es, fun k' b es => match es with
      | [x] => boE T k a r b x
      | es => k' == k && boV T k a r b es, noB, fun _ _ _ => false⟩ := rfl
theorem snd_bo (k : Bool) {a r : C} (ha : Snd G T P K a) (hr : Snd G T P K r) : Snd G T P K (.bo k a r) := by
  have hw : ∀ {b W X es pos}, XOk G T P K b W X → boW T k a r b es = true → DW G W X (.BoolOp (boK k) es pos) (sem P K (.bo k a r)).t := fun {b W X es pos} o h => by
    unfold boW at h
    split at h
    · simp only [Bool.and_eq_true] at h
      rw [sem_bo]
      cases k
      · exact dw_or (ha.t o h.1) (hr.w (k := false) o h.2)
      · exact dw_and (ha.t o h.1) (hr.w (k := true) o h.2)
    · cases h
  have hv : ∀ {b W X es pos}, XOk G T P K b W X → boV T k a r b es = true → DE G W X (.BoolOp (boK k) es pos) (sem P K (.bo k a r)).e := fun {b W X es pos} o h => by
    unfold boV at h
    split at h
    · simp only [Bool.and_eq_true] at h
      rw [sem_bo]
      cases k
      · exact de_or (ha.e o h.1) (hr.v (k := false) o h.2)
      · exact de_and (ha.e o h.1) (hr.v (k := true) o h.2)
    · cases h
  have he : ∀ {b W X x}, XOk G T P K b W X → boE T k a r b x = true → DE G W X x (sem P K (.bo k a r)).e := fun {b W X x} o h => by
    unfold boE at h
    split at h
    · simp only [Bool.and_eq_true] at h
      rw [eq_of_beq h.1]
      exact hv o h.2
    · cases h
  have ht : ∀ {b W X x}, XOk G T P K b W X → boT T k a r b x = true → DT G W X x (sem P K (.bo k a r)).t := fun {b W X x} o h => by
    unfold boT at h
    split at h
    · simp only [Bool.and_eq_true] at h
      rw [eq_of_beq h.1]
      exact (hw o h.2).pt
    · cases h
  refine ⟨fun o h => he o (by rw [ck_bo] at h; exact h), fun o h => ht o (by rw [ck_bo] at h; exact h), fun {k' b W X es pos} o h => ?_, fun {k' b W X es pos} o h => ?_, fun o h => ?_, fun o h => ?_⟩
  · rw [ck_bo] at h
    simp only at h
    split at h
    · cases k'
      · exact dw_or1 (ht o h)
      · exact dw_and1 (ht o h)
    · simp only [Bool.and_eq_true] at h
      rw [eq_of_beq h.1]
      exact hw o h.2
  · rw [ck_bo] at h
    simp only at h
    split at h
    · exact de_one (he o h)
    · simp only [Bool.and_eq_true] at h
      rw [eq_of_beq h.1]
      exact hv o h.2
  · rw [ck_bo] at h
    cases h
  · rw [ck_bo] at h
    cases h
theorem snd_ix {a c : C} (ha : Snd G T P K a) (hc : Snd G T P K c) : Snd G T P K (.ix a c) := snd_E rfl rfl fun {b W X x} o h => by
  split at h
  · rename_i y z p
    simp only [Bool.and_eq_true] at h
    refine de_ix (ix_G o.hK o.hW (by have := o.un; omega)) (ha.e o h.1.1) (hc.e o h.1.2) (ix_plain fun l u q e => ?_)
    subst e
    simp [isSl] at h
  · cases h
theorem snd_sl {a lo hi : C} (ha : Snd G T P K a) (hl : Snd G T P K lo) (hh : Snd G T P K hi) : Snd G T P K (.sl a lo hi) := snd_E rfl rfl fun {b W X x} o h => by
  have key : ∀ {c : C} {l : Option Expr}, Snd G T P K c → (match l with | none => c.isNil | some l => !c.isNil && (ck T c).e b l) = true → PO X l (tO G W (part (if c.isNil = true then none else some (sem P K c).e))) := fun {c l} hc h => by
    split at h
    · rw [if_pos h]
      exact do_none
    · simp only [Bool.and_eq_true, Bool.not_eq_true'] at h
      rw [if_neg (by rw [h.1]; exact Bool.false_ne_true)]
      exact do_some (hc.e o h.2)
  split at h
  · simp only [Bool.and_eq_true] at h
    exact de_slice o.hK (ha.e o h.1.1) (key hl h.1.2) (key hh h.2)
  · cases h
theorem snd_tup {as : C} (ha : Snd G T P K as) : Snd G T P K (.tup as) := snd_E rfl rfl fun {b W X x} o h => by
  split at h
  · exact de_tup (ha.a o h).1
  · cases h
theorem snd_lst {as : C} (ha : Snd G T P K as) : Snd G T P K (.lst as) := snd_E rfl rfl fun {b W X x} o h => by
  split at h
  · exact de_lst (ha.a o h).1
  · cases h
theorem snd_cell {as : C} (ha : Snd G T P K as) : Snd G T P K (.cell as) := snd_E rfl rfl fun {b W X x} o h => by
  split at h
  · exact de_cell (ha.a o h).1
  · cases h
theorem snd_frz {a : C} (ha : Snd G T P K a) : Snd G T P K (.frz a) := snd_E rfl rfl fun {b W X x} o h => de_frz (ha.e o h)
theorem snd_ife {t a c : C} (ht : Snd G T P K t) (ha : Snd G T P K a) (hc : Snd G T P K c) : Snd G T P K (.ife t a c) := snd_E rfl rfl fun {b W X x} o h => by
  split at h
  · simp only [Bool.and_eq_true] at h
    exact de_if (ht.t o h.1.1) (ha.e o h.1.2) (hc.e o h.2)
  · cases h
theorem snd_call (f : Nat) {as : C} (ha : Snd G T P K as) : Snd G T P K (.call f as) := snd_E rfl rfl fun {b W X x} o h => by
  split at h
  · simp only [Bool.and_eq_true] at h
    obtain ⟨⟨⟨h1, h2⟩, h3⟩, h4⟩ := h
    obtain ⟨k, hr, hf⟩ := o.lv
    obtain ⟨f', fd, ps, hm, hk, hb, hn, F⟩ := hf _ _ _ (eq_of_beq h1)
    obtain ⟨d1, d2, _⟩ := ha.a o h4
    simp only [List.all_cons, Bool.and_eq_true] at d2
    exact de_call o.tk F hr (o.gl h2) hm hk hb d1 (okN_d h3).1 (star_cons d2.1 _ X.env) (star_any _ X.env d2.2)
  · cases h
theorem snd_call0 (f : Nat) : Snd G T P K (.call0 f) := snd_E rfl rfl fun {b W X x} o h => by
  split at h
  · simp only [Bool.and_eq_true] at h
    obtain ⟨⟨h1, h2⟩, h3⟩ := h
    obtain ⟨k, hr, hf⟩ := o.lv
    obtain ⟨f', fd, ps, hm, hk, hb, hn, F⟩ := hf _ _ _ (eq_of_beq h1)
    exact de_call0 o.tk F hr (o.gl h2) hm hk hb (okN_d h3).1
  · cases h
theorem snd_blt (k : Bt) {as : C} (ha : Snd G T P K as) : Snd G T P K (.blt k as) := snd_E rfl rfl fun {b W X x} o h => by
  split at h
  · simp only [Bool.and_eq_true] at h
    obtain ⟨⟨h1, h2⟩, h3⟩ := h
    have e := eq_of_beq h1
    subst e
    obtain ⟨d1, d2, _⟩ := ha.a o h3
    exact de_blt o k h2 d1 d2
  · cases h
theorem snd_mth (m : Mt) {a as : C} (ha : Snd G T P K a) (hs : Snd G T P K as) : Snd G T P K (.mth m a as) := snd_E rfl rfl fun {b W X x} o h => by
  split at h
  · simp only [Bool.and_eq_true, Bool.not_eq_true', decide_eq_true_eq] at h
    obtain ⟨⟨⟨⟨⟨h1, h2⟩, h3⟩, h4⟩, h5⟩, h6⟩ := h
    have e := eq_of_beq h1
    subst e
    obtain ⟨d1, d2, d3⟩ := hs.a o h3
    exact de_mth o m (ha.e o h2) d1 d3 d2 h6 h4 h5
  · cases h
theorem snd_nil : Snd G T P K .nil where
  e := fun o h => by simp [ck, noB] at h
  t := fun o h => by simp [ck, noB] at h
  w := fun o h => by simp [ck] at h
  v := fun o h => by simp [ck] at h
  a := fun {b W X es} o h => by
    simp only [ck] at h
    cases es with
    | nil => exact ⟨da_nil, rfl, fun _ => rfl⟩
    | cons e es => cases h
  i := fun o h => by simp [ck] at h
theorem snd_cons {a r : C} (ha : Snd G T P K a) (hr : Snd G T P K r) : Snd G T P K (.cons a r) where
  e := fun o h => by simp [ck, noB] at h
  t := fun o h => by simp [ck, noB] at h
  w := fun o h => by simp [ck] at h
  v := fun o h => by simp [ck] at h
  a := fun {b W X es} o h => by
    simp only [ck] at h
    split at h
    · simp only [Bool.and_eq_true] at h
      obtain ⟨⟨h1, h2⟩, h3⟩ := h
      obtain ⟨d1, d2, _⟩ := hr.a o h3
      exact ⟨da_cons (ha.e o h2) d1 (star_cons h1 _ X.env), by simp [h1, d2], fun e => by cases e⟩
    · cases h
  i := fun o h => by simp [ck] at h
theorem snd_it {a : C} (ha : Snd G T P K a) : Snd G T P K (.it a) := snd_I rfl rfl fun {b W X tg x} o h => di_any o.hK (ha.e o h)
theorem snd_rng {as : C} (ha : Snd G T P K as) : Snd G T P K (.rng as) := snd_I rfl rfl fun {b W X tg x} o h => by
  split at h
  · simp only [Bool.and_eq_true] at h
    obtain ⟨⟨h1, h2⟩, h3⟩ := h
    have e := eq_of_beq h1
    subst e
    obtain ⟨d1, d2, _⟩ := ha.a o h3
    simp only [List.all_cons, Bool.and_eq_true] at d2
    exact di_rng (o.gl h2) (o.bl _ (by decide)) d1 (star_cons d2.1 _ X.env)
  · cases h
theorem snd_en {as : C} (ha : Snd G T P K as) : Snd G T P K (.en as) := snd_I rfl rfl fun {b W X tg x} o h => by
  split at h
  · simp only [Bool.and_eq_true] at h
    obtain ⟨⟨⟨h1, h2⟩, ht⟩, h3⟩ := h
    have e := eq_of_beq h1
    subst e
    obtain ⟨d1, d2, _⟩ := ha.a o h3
    simp only [List.all_cons, Bool.and_eq_true] at d2
    cases tg with
    | Tuple es k p => exact di_enumA o.hK (o.gl h2) (o.bl _ (by decide)) d1 (star_cons d2.1 _ X.env)
    | _ => simp [isTup] at ht
  · cases h
theorem snd_zp {as : C} (ha : Snd G T P K as) : Snd G T P K (.zp as) := snd_I rfl rfl fun {b W X tg x} o h => by
  split at h
  · simp only [Bool.and_eq_true] at h
    obtain ⟨⟨⟨h1, h2⟩, ht⟩, h3⟩ := h
    have e := eq_of_beq h1
    subst e
    obtain ⟨d1, d2, _⟩ := ha.a o h3
    simp only [List.all_cons, Bool.and_eq_true] at d2
    cases tg with
    | Tuple es k p => exact di_zip o.hK (o.gl h2) (o.bl _ (by decide)) d1 (star_cons d2.1 _ X.env) (star_any _ X.env (by simp [d2.2.1]))
    | _ => simp [isTup] at ht
  · cases h
theorem snd_lrng {a : C} (ha : Snd G T P K a) : Snd G T P K (.lrng a) := snd_E rfl rfl fun {b W X x} o h => by
  split at h
  · simp only [Bool.and_eq_true] at h
    obtain ⟨⟨⟨⟨⟨h1, h2⟩, h3⟩, h4⟩, h5⟩, h6⟩ := h
    have e := eq_of_beq h1
    subst e
    have e := eq_of_beq h3
    subst e
    exact de_lrng o.calm (o.gl h2) (o.bl _ (by decide)) (o.gl h4) (o.bl _ (by decide)) (ha.e o h6) (star_cons h5 _ X.env)
  · cases h
theorem snd_comp (own : List Nat) (g : Tg) {it te el : C} (hi : Snd G T P K it) (ht : Snd G T P K te) (he : Snd G T P K el) : Snd G T P K (.comp own g it te el) := snd_E rfl rfl fun {b W X x} o h => by
  split at h
  · rename_i e tg iter ifs scope p
    simp only [Bool.and_eq_true] at h
    obtain ⟨⟨⟨⟨⟨⟨⟨h1, h2⟩, h3⟩, h4⟩, h5⟩, h6⟩, h7⟩, h8⟩ := h
    have e1 := eq_of_beq h1
    subst e1
    refine de_comp o.calm (by rw [o.hN]; exact o.nd) (hi.i o h5) (blk_ok o h2) (fun i hix => ?_) (fun s H C cl fp => tg_ok (o.blk s H C cl fp) g tg h6) (fun s H C cl fp => ?_) (fun s H C cl fp => he.e (o.blk s H C cl fp) h8) (set_iter (by simpa using h3) X.env)
    · have := List.all_eq_true.mp h4 i hix
      simpa using this
    · split at h7
      · rw [if_pos h7]
        exact dts_nil
      · simp only [Bool.and_eq_true, Bool.not_eq_true'] at h7
        rw [if_neg (by rw [h7.1]; exact Bool.false_ne_true)]
        exact dts_one (ht.t (o.blk s H C cl fp) h7.2)
      · cases h7
  · cases h
theorem snd_rev {a : C} (ha : Snd G T P K a) : Snd G T P K (.rev a) := snd_E rfl rfl fun {b W X x} o h => by
  split at h
  · simp only [Bool.and_eq_true] at h
    have e := eq_of_beq h.1
    subst e
    exact de_rev o.hK (ha.e o h.2)
  · cases h
theorem snd_err {a : C} (ha : Snd G T (shift P) K a) : Snd G T P K (.err a) := snd_E rfl rfl fun {b W X x} o h => by
  split at h
  · simp only [Bool.and_eq_true] at h
    obtain ⟨⟨⟨⟨⟨h1, h2⟩, h3⟩, h4⟩, h5⟩, h6⟩ := h
    have e := eq_of_beq h2
    subst e
    exact o.er h1 _ _ _ _ _ _ _ h3 h4 h5 fun W' X' o' => ha.e ⟨o', fun z => by cases z⟩ h6
  · cases h
/-- THE THEOREM on expressions -/
theorem snd_dis (kvs : List (List Nat × List Nat)) : Snd G T P K (.dis kvs) := snd_E rfl rfl fun {b W X x} o h => by
  split at h
  · simp only [Bool.and_eq_true, decide_eq_true_eq, Bool.not_eq_true'] at h
    obtain ⟨⟨⟨h1, h2⟩, h3⟩, h4⟩ := h
    exact de_dis h1 (fun e => by rw [e] at h2; cases h2) h3 h4
  · cases h
/-- what is not come to -/
theorem snd_any : Snd G T P K .any where
  e := fun o h => ⟨fun pins s σ H Q I ⟨w, δ, _, _, p⟩ => p.elim⟩
  t := fun o h => ⟨fun pins s σ H Q I ⟨w, δ, _, _, p⟩ => p.elim⟩
  w := fun o h => by cases h
  v := fun o h => by cases h
  a := fun o h => by cases h
  i := fun o h => by cases h
theorem snd_exn (i : Nat) {a : C} (ha : Snd G T P K a) : Snd G T P K (.exn i a) := snd_E rfl rfl fun {b W X x} o h => by
  split at h
  · simp only [Bool.and_eq_true] at h
    obtain ⟨⟨⟨h1, h2⟩, h3⟩, h4⟩ := h
    exact de_exn (o.xc.xv i _ (eq_of_beq h1)) (o.gl h2) (ha.e o h4) (star_cons h3 [] X.env)
  · cases h
theorem snd_exi (j : Nat) {a : C} (ha : Snd G T P K a) : Snd G T P K (.exi j a) := snd_E rfl rfl fun {b W X x} o h => by
  split at h
  · simp only [Bool.and_eq_true] at h
    obtain ⟨⟨⟨⟨h1, h2⟩, h3⟩, h4⟩, h5⟩ := h
    have h2 := eq_of_beq h2
    cases q : T.ei[j]? with
    | none =>
      rw [q] at h2
      cases h2
    | some z =>
      obtain ⟨y, f⟩ := z
      rw [q] at h2
      cases h2
      exact de_exi (o.xc.ei j _ _ q).1 (o.xc.rm h1) (o.gl h3) (ha.e o h5) (star_cons h4 [] X.env)
  · cases h
theorem snd_isx (j n m : Nat) (cs : List Nat) {a : C} (ha : Snd G T P K a) : Snd G T P K (.isx j n m cs a) := snd_E rfl rfl fun {b W X x} o h => by
  split at h
  · simp only [Bool.and_eq_true] at h
    obtain ⟨⟨⟨⟨⟨⟨⟨h1, h2⟩, h3⟩, h4⟩, h5⟩, h6⟩, h7⟩, h8⟩ := h
    have e1 := eq_of_beq h1
    subst e1
    have e4 := eq_of_beq h4
    have e5 := eq_of_beq h5
    subst e4 e5
    obtain ⟨v, cv, nm, k1, k2⟩ := o.xc.cx j _ _ (eq_of_beq h3)
    refine de_isx (v := v) (cv := cv) (o.gl h2) (o.bl _ (by decide)) ?_ k1 (ha.e o h8) h7 (star_cons h7 [_] X.env) fun c hc => ⟨(o.xc.vc c hc).ec, k2 c hc⟩
    rcases nm with ⟨d, m, r⟩ | ⟨rfl, rfl⟩
    · exact pe_glob (o.gl h6) m r d
    · exact pe_bltn (v := .ty "ValueError") (o.gl h6) (o.bl _ (by decide)) PyProof.Rows.Boot.«ValueError» (by rfl) (by decide) (by decide)
  · cases h
theorem snd_stx (n m : Nat) {a : C} (ha : Snd G T P K a) : Snd G T P K (.stx n m a) := snd_E rfl rfl fun {b W X x} o h => by
  split at h
  · simp only [Bool.and_eq_true] at h
    obtain ⟨⟨⟨⟨⟨h1, h2⟩, h4⟩, h5⟩, h7⟩, h8⟩ := h
    have e1 := eq_of_beq h1
    subst e1
    have e4 := eq_of_beq h4
    have e5 := eq_of_beq h5
    subst e4 e5
    have hu := o.un
    exact de_stx (by omega) (o.gl h2) (o.bl _ (by decide)) (ha.e o h8) (star_cons h7 [] X.env) fun c hc => o.xc.vc c hc
  · cases h
theorem snd_fld (j : Nat) {a : C} (ha : Snd G T P K a) : Snd G T P K (.fld j a) := snd_E rfl rfl fun {b W X x} o h => by
  split at h
  · simp only [Bool.and_eq_true, Bool.not_eq_true'] at h
    obtain ⟨⟨h1, h2⟩, h3⟩ := h
    have h1 := eq_of_beq h1
    cases q : T.ei[j]? with
    | none =>
      rw [q] at h1
      cases h1
    | some z =>
      obtain ⟨y, f⟩ := z
      rw [q] at h1
      cases h1
      obtain ⟨ic, hf⟩ := o.xc.ei j _ _ q
      exact de_fld ic hf (ha.e o h3) (sup_base h2 _ X.env _)
  · cases h
theorem snd : ∀ (c : C) (P : Nat → List D → M D), Snd G T P K c
  | .var i, P => snd_var i
  | .lit d, P => snd_lit d
  | .ty n, P => snd_ty n
  | .cst i, P => snd_cst i
  | .bin k a c, P => snd_bin k (snd a P) (snd c P)
  | .cmp k a c, P => snd_cmp k (snd a P) (snd c P)
  | .chn k k' a c d, P => snd_chn k k' (snd a P) (snd c P) (snd d P)
  | .neg a, P => snd_neg (snd a P)
  | .not a, P => snd_not (snd a P)
  | .bo k a r, P => snd_bo k (snd a P) (snd r P)
  | .ix a c, P => snd_ix (snd a P) (snd c P)
  | .sl a lo hi, P => snd_sl (snd a P) (snd lo P) (snd hi P)
  | .tup as, P => snd_tup (snd as P)
  | .lst as, P => snd_lst (snd as P)
  | .cell as, P => snd_cell (snd as P)
  | .frz a, P => snd_frz (snd a P)
  | .ife t a c, P => snd_ife (snd t P) (snd a P) (snd c P)
  | .call f as, P => snd_call f (snd as P)
  | .call0 f, P => snd_call0 f
  | .blt k as, P => snd_blt k (snd as P)
  | .mth m a as, P => snd_mth m (snd a P) (snd as P)
  | .comp own g it te el, P => snd_comp own g (snd it P) (snd te P) (snd el P)
  | .nil, P => snd_nil
  | .cons a r, P => snd_cons (snd a P) (snd r P)
  | .it a, P => snd_it (snd a P)
  | .rng as, P => snd_rng (snd as P)
  | .en as, P => snd_en (snd as P)
  | .zp as, P => snd_zp (snd as P)
  | .lrng a, P => snd_lrng (snd a P)
  | .rev a, P => snd_rev (snd a P)
  | .err a, P => snd_err (snd a (shift P))
  | .dis kvs, P => snd_dis kvs
  | .any, P => snd_any
  | .exn i a, P => snd_exn i (snd a P)
  | .exi j a, P => snd_exi j (snd a P)
  | .isx j n m cs a, P => snd_isx j n m cs (snd a P)
  | .stx n m a, P => snd_stx n m (snd a P)
  | .fld j a, P => snd_fld j (snd a P)
end
end DL

set_option Elab.async false
set_option linter.all false
set_option maxRecDepth 100000
set_option maxHeartbeats 4000000
/-! DL13: the core of statements, bodies of defs. -/
namespace DL
open PySem L2 PySem.Spec

inductive S where
  | nil | cons (s r : S)
  | pass | doc | ret (c : C) | retN | drop (c : C)
  | asg (g : Tg) (c : C) | setc (i : Nat) (c : C) | par (i j : Nat) (as : C) | par3 (i j l : Nat) (as : C)
  | setIx (c o i : C) | ite (t : C) (a r : S) | for (it : C) (g : Tg) (body : S) | whl (n : Nat) (t : C) (body : S)
  | brk | cnt | raise (e : Nat) | raiseA (j : Nat) (c : C) | tryA (j i : Nat) (c : C) | any
def semS (P : Nat → List D → M D) (K : Nat → D) : S → Env → SM
  | .nil => nxt
  | .cons s r => fSeq (semS P K s) (semS P K r)
  | .pass => nxt
  | .doc => nxt
  | .ret c => fRet (sem P K c).e
  | .retN => fun _ μ => some (.ret .non, μ)
  | .drop c => fDrop (sem P K c).e
  | .asg g c => fAsg (sem P K c).e g.g
  | .setc i c => fAsg (sem P K c).e (tgN i)
  | .par i j as => fPar i j (sem P K as).a
  | .par3 i j l as => fPar3 i j l (sem P K as).a
  | .setIx c o i => fSetIx (sem P K c).e (sem P K o).e (sem P K i).e
  | .ite t a r => fIte (sem P K t).t (semS P K a) (semS P K r)
  | .for it g body => fFor (sem P K it).a g.g (semS P K body)
  | .whl n t body => fun δ μ => whileS (sem P K t).t (semS P K body) n δ μ
  | .brk => fun δ μ => some (.brk δ, μ)
  | .cnt => fun δ μ => some (.cnt δ, μ)
  | .raise e => fun δ μ => some (.exc ⟨e, none⟩ δ, μ)
  | .raiseA j c => fRaise (500 + j) (sem P K c).e
  | .tryA j i c => fTry (500 + j) (sem P K c).e
  | .any => fun _ _ => none

/-- no exchange of stores: the value is no comprehension (or its name is no plain local of the line) -/
def lcB (b : Bk) (x : Str) : Bool := b.sc.names.lookup x == some .local
def swNo (b : Bk) (tg e : Expr) : Bool := !isCmp e || (match tg, e with
  | .Name y p, .ListComp _ _ s p2 => !(lcB b y && p.line == p2.line && !(s.names.any fun q => q.1 == y && (q.2 == .local || q.2 == .cell)))
  | .Name .., _ => false
  | _, _ => true)
def swTup : Expr → Expr → Bool
  | .Tuple .., .Tuple .. => true
  | .List .., .Tuple .. => true
  | _, _ => false
/-- a, b = x, y with all alike constants: a tuple is made -/
def allFold : Expr → Bool
  | .Tuple vs _ _ => vs.all (foldedForSure 8)
  | _ => false
/-- a name gets a comprehension's list, stored within the comprehension -/
def lcScope : Expr → Option Scope
  | .ListComp _ _ s _ => some s
  | _ => none
/-- some target of the tuple is no plain local -/
def notLoc (b : Bk) : Expr → Bool
  | .Tuple ts _ _ => ts.any fun
    | .Name id _ => !(b.sc.names.lookup id == some .local)
    | _ => true
  | _ => false
structure CkS where
  s : Bk → Stmt → Bool
  l : Bk → List Stmt → Bool
def sS (s : Bk → Stmt → Bool) : CkS := ⟨s, fun _ _ => false⟩
def ckS (T : Tb) (Ex : List Str) : S → CkS
  | .nil => ⟨fun _ _ => false, fun _ l => l.isEmpty⟩
  | .cons s r => ⟨fun _ _ => false, fun b l => match l with
    | x :: l => (ckS T Ex s).s b x && (ckS T Ex r).l b l
    | [] => false⟩
  | .pass => sS fun _ x => match x with
    | .Pass _ => true
    | _ => false
  | .doc => sS fun _ x => match x with
    | .Expr (.Constant (.str _) _ _) _ => true
    | _ => false
  | .ret c => sS fun b x => match x with
    | .Return (some e) _ => (ck T c).e b e
    | _ => false
  | .retN => sS fun b x => match x with
    | .Return none _ => true
    | _ => false
  | .drop c => sS fun b x => match x with
    | .Expr e _ => (ck T c).e b e && !isCmp e
    | _ => false
  | .asg g c => sS fun b x => match x with
    | .Assign [t] e _ => (ck T c).e b e && g.ck b t && notStar t && swNo b t e && (!swTup t e || allFold e || notLoc b t)
    | _ => false
  | .setc i c => sS fun b x => match x, c with
    | .Assign [.Name y p] (.ListComp e [⟨tg, iter, ifs, 0⟩] scope p2) _, .comp own g it te el => b.N[i]? == some y && lcB b y && p.line == p2.line && !(scope.names.any fun q => q.1 == y && (q.2 == .local || q.2 == .cell)) && (ck T c).e b (.ListComp e [⟨tg, iter, ifs, 0⟩] scope p2)
    | _, _ => false
  | .par i j as => sS fun b x => match x with
    | .Assign [.Tuple [.Name y p, .Name z p'] k q] (.Tuple [u, v] k2 q2) _ => b.N[i]? == some y && b.N[j]? == some z && lcB b y && lcB b z && !(y == z) && p'.line == p.line && !([u, v].all (foldedForSure 8)) && !([u, v].all (constantsAlone 8)) && (ck T as).a b [u, v]
    | _ => false
  | .par3 i j l as => sS fun b x => match x with
    | .Assign [.Tuple [.Name y p, .Name z p', .Name w p''] k q] (.Tuple [u, v, t] k2 q2) _ => b.N[i]? == some y && b.N[j]? == some z && b.N[l]? == some w && lcB b y && lcB b z && lcB b w && !(y == z) && !(y == w) && !(z == w) && p'.line == p.line && p''.line == p.line && !([u, v, t].all (foldedForSure 8)) && !([u, v, t].all (constantsAlone 8)) && (ck T as).a b [u, v, t]
    | _ => false
  | .setIx c o i => sS fun b x => match x with
    | .Assign [.Subscript y z _] e _ => (ck T c).e b e && (ck T o).e b y && (ck T i).e b z && !isSl z && !isCmp e
    | _ => false
  | .ite t a r => sS fun b x => match x with
    | .If u y z _ => (ck T t).t b u && (ckS T Ex a).l b y && (ckS T Ex r).l b z
    | _ => false
  | .for it g body => sS fun b x => match x with
    | .For tg iter y [] _ => (ck T it).i b tg iter && g.ck b tg && !isSet iter && (ckS T Ex body).l b y
    | _ => false
  | .whl n t body => sS fun b x => match x with
    | .While u y [] _ => (ck T t).t b u && (ckS T Ex body).l b y
    | _ => false
  | .brk => sS fun _ x => match x with
    | .Break _ => true
    | _ => false
  | .cnt => sS fun _ x => match x with
    | .Continue _ => true
    | _ => false
  | .any => sS fun _ _ => true
  | .raiseA j c => sS fun b x => match x with
    | .Raise (some (.Call (.Name y _) [e] [] _)) none _ => b.er && (T.ei[j]?.map (·.1)) == some y && glB b y && notStar e && (ck T c).e b e
    | _ => false
  | .tryA j i c => sS fun b x => match x with
    | .Try [.Return (some e) _] [.ExceptHandler (some (.Name y _)) (some n1) [.Return (some (.Attribute (.Name n2 _) f _)) _] _] [] [] _ => b.er && T.ei[j]? == some (y, f) && glB b y && n1 == n2 && b.N[i]? == some n1 && lcB b n1 && okN n1 && (ck T c).e ⟨b.N, b.sc, b.fb, false⟩ e
    | _ => false
  | .raise i => sS fun b x => match x with
    | .Raise (some (.Call (.Name y _) [.Constant (.str _) _ _] [] _)) none _ => Ex[i]? == some y && glB b y && okN y
    | _ => false

/-! ### small facts -/
theorem sw_no {e : Expr} (h : isCmp e = false) (t : Option Expr) (l : Nat) (env : PySem.Env) : swapsWith e t l env = pure false := by
  cases e <;> first | rfl | (simp [isCmp] at h)
theorem sole_no {e t : Expr} (h : isCmp e = false) (l : Nat) (env : PySem.Env) : swapsWithSole [t] e l env = pure false := sw_no h _ _ _
theorem st_no {t e : Expr} (h : swTup t e = false) (env : PySem.Env) : swappedStores [t] e env = pure none := by
  cases t <;> first | rfl | skip
  all_goals cases e <;> first | rfl | (simp [swTup] at h)
structure XSOk (G : Gs) (T : Tb) (Ex : List Str) (P : Nat → List D → M D) (K : Nat → D) (b : Bk) (W : WX) (X : Cx) : Prop extends XOk G T P K b W X where
  own : PassesOwn (model X.prog X.w) X.A X.env X.xe
  kind : X.env.scope.kind = .function
  stk : X.stack = X.env :: X.outer
  frm : X.env.frame = some X.env.locals
  ex : ∀ i y, Ex[i]? = some y → X.mg y = some (.ref (G.ob i)) ∧ PySem.W.keepIn X.K (.ref (G.ob i)) = true ∧ Raises X (.ref (G.ob i)) ∧ ∃ (B newId initId : String) (bmB : List Value), ExcBaseFacts B newId initId bmB ∧ PySem.W.excIn X.K (G.ob i) bmB newId = true
section
variable {G : Gs} {T : Tb} {Ex : List Str} {P : Nat → List D → M D} {K : Nat → D} {b : Bk} {W : WX} {X : Cx}
theorem XSOk.bkind (o : XSOk G T Ex P K b W X) : X.env.blockKind = .function := by
  unfold PySem.Env.blockKind
  rw [o.kind]
  rfl
theorem XSOk.lc (o : XSOk G T Ex P K b W X) {y : Str} (h : lcB b y = true) : X.env.scope.names.lookup y = some .local := by
  rw [o.sc]
  exact eq_of_beq h
theorem st_fold {t e : Expr} (h : allFold e = true) (env : PySem.Env) : swappedStores [t] e env = pure none := by
  cases e with
  | Tuple vs k p =>
    simp only [allFold] at h
    by_cases ht : swTup t (.Tuple vs k p) = true
    · cases t <;> first | (simp [swTup] at ht; done) | skip
      all_goals
        unfold swappedStores
        simp only
        split
        · rfl
        split
        · rfl
        split
        · rfl
        rfl
    · exact st_no (by simpa using ht) env
  | _ => simp [allFold] at h
theorem sole_sw (o : XSOk G T Ex P K b W X) {t e : Expr} (h : swNo b t e = true) (l : Nat) : swapsWithSole [t] e l X.env = pure false := by
  by_cases hc : isCmp e = false
  · exact sole_no hc l X.env
  · cases e with
    | ListComp el gs s p2 =>
      cases t with
      | Name y p =>
        show (pure (X.env.blockKind == .function && X.env.kindOf y == some .local && p.line == p2.line && !(s.names.any fun q => q.1 == y && (q.2 == .local || q.2 == .cell))) : Sem Bool) = pure false
        have e1 : X.env.kindOf y = b.sc.names.lookup y := by
          unfold PySem.Env.kindOf
          rw [o.sc]
        rw [o.bkind, e1]
        have h : (!isCmp (.ListComp el gs s p2) || !(lcB b y && p.line == p2.line && !(s.names.any fun q => q.1 == y && (q.2 == .local || q.2 == .cell)))) = true := h
        have hc : isCmp (.ListComp el gs s p2) = true := rfl
        rw [hc] at h
        unfold lcB at h
        simp only [Bool.not_true, Bool.false_or, Bool.not_eq_true'] at h
        have e2 : (ScopeKind.function == ScopeKind.function) = true := rfl
        rw [e2, Bool.true_and, h]
      | _ => rfl
    | SetComp el gs s p2 =>
      cases t with
      | Name y p => cases h
      | _ => rfl
    | DictComp el v gs s p2 =>
      cases t with
      | Name y p => cases h
      | _ => rfl
    | _ => exact absurd rfl hc
theorem fm_lt {α β : Type} (f : α → Option β) : ∀ l : List α, (∃ x ∈ l, f x = none) → (l.filterMap f).length < l.length
  | [], h => by obtain ⟨x, hx, _⟩ := h; cases hx
  | a :: l, h => by
    by_cases ha : f a = none
    · rw [List.filterMap_cons_none ha, List.length_cons]
      exact Nat.lt_succ_of_le (List.length_filterMap_le _ _)
    · obtain ⟨x, hx, h⟩ := h
      have hx : x ∈ l := by
        rcases List.mem_cons.mp hx with e | hx
        · rw [e] at h
          exact absurd h ha
        · exact hx
      cases q : f a with
      | none => exact absurd q ha
      | some v =>
        rw [List.filterMap_cons_some q, List.length_cons, List.length_cons]
        exact Nat.succ_lt_succ (fm_lt f l ⟨x, hx, h⟩)
theorem st_loc {t e : Expr} {env : PySem.Env} (hb : ∀ y, env.kindOf y = b.sc.names.lookup y) (h : notLoc b t = true) : swappedStores [t] e env = pure none := by
  cases t with
  | Tuple ts k p =>
    simp only [notLoc, List.any_eq_true] at h
    obtain ⟨x, hx, hn⟩ := h
    by_cases ht : swTup (.Tuple ts k p) e = true
    · cases e with
      | Tuple vs k2 p2 =>
        unfold swappedStores
        simp only
        split
        · rfl
        split
        · rfl
        split
        · rfl
        rename_i h3
        refine absurd ?_ h3
        have key : (List.filterMap (fun
            | Expr.Name id pos => if (env.kindOf id == some NameKind.local && pos.line == (Option.map (fun x => x.pos.line) ts.head?).getD 0) = true then some id else none
            | _ => none) ts).length < ts.length := by
          refine fm_lt _ ts ⟨x, hx, ?_⟩
          cases x with
          | Name id pos =>
            simp only at hn ⊢
            rw [if_neg]
            rw [hb]
            simp only [Bool.not_eq_true'] at hn
            rw [hn]
            simp
          | _ => rfl
        rw [Bool.or_eq_true]
        left
        rw [bne_iff_ne]
        exact Nat.ne_of_lt key
      | _ => simp [swTup] at ht
    · exact st_no (by simpa using ht) env
  | _ => simp [notLoc] at h
theorem st_par {env : PySem.Env} {y z : Str} {p p' : Pos} {k k2 : Nat} {q q2 : Pos} {u v : Expr} (hk : env.blockKind = .function) (hy : env.kindOf y = some .local) (hz : env.kindOf z = some .local) (hne : y ≠ z) (hp : p'.line = p.line) (hu : notStar u = true) (hv : notStar v = true)
    (h1 : [u, v].all (foldedForSure 8) = false) (h2 : [u, v].all (constantsAlone 8) = false) : swappedStores [.Tuple [.Name y p, .Name z p'] k q] (.Tuple [u, v] k2 q2) env = pure (some [y, z]) := by
  have hs : ([u, v].any fun | .Starred .. => true | _ => false) = false := by
    cases u <;> cases v <;> first | rfl | (simp [notStar] at hu; done) | (simp [notStar] at hv; done)
  have hn : List.filterMap (fun
            | Expr.Name id pos => if (env.kindOf id == some NameKind.local && pos.line == (Option.map (fun (x : Expr) => x.pos.line) [Expr.Name y p, Expr.Name z p'].head?).getD 0) = true then some id else none
            | _ => none) [Expr.Name y p, Expr.Name z p'] = [y, z] := by
    have e : (Option.map (fun (x : Expr) => x.pos.line) [Expr.Name y p, Expr.Name z p'].head?).getD 0 = p.line := rfl
    rw [e]
    simp [hy, hz, hp]
  have he : ([y, z] : List Str).eraseDups.length = 2 := by
    rw [List.eraseDups_cons]
    have : ([z].filter fun b => !b == y) = [z] := by
      simp [Ne.symm hne]
    rw [this]
    rfl
  unfold swappedStores
  simp only []
  split
  · rename_i h
    exfalso
    simp [hk] at h
  split
  · rename_i h
    exact absurd (hs.symm.trans h) Bool.false_ne_true
  split
  · rename_i h
    have h' : (([y, z] : List Str).length != 2 || ([y, z] : List Str).eraseDups.length != ([y, z] : List Str).length) = true := by
      rw [← hn]
      exact h
    rw [he] at h'
    simp at h'
  split
  · rename_i h
    exact absurd (h1.symm.trans h) Bool.false_ne_true
  split
  · rename_i h
    exact absurd (h2.symm.trans h) Bool.false_ne_true
  exact congrArg (fun l => (pure (some l) : Sem (Option (List Str)))) hn
theorem st_par3 {env : PySem.Env} {y z w : Str} {p p' p'' : Pos} {k k2 : Nat} {q q2 : Pos} {u v t : Expr} (hk : env.blockKind = .function) (hy : env.kindOf y = some .local) (hz : env.kindOf z = some .local) (hw : env.kindOf w = some .local) (h12 : y ≠ z) (h13 : y ≠ w) (h23 : z ≠ w) (hp : p'.line = p.line) (hp' : p''.line = p.line) (hu : notStar u = true) (hv : notStar v = true) (ht : notStar t = true)
    (h1 : [u, v, t].all (foldedForSure 8) = false) (h2 : [u, v, t].all (constantsAlone 8) = false) : swappedStores [.Tuple [.Name y p, .Name z p', .Name w p''] k q] (.Tuple [u, v, t] k2 q2) env = pure (some [y, z, w]) := by
  have hs : ([u, v, t].any fun | .Starred .. => true | _ => false) = false := by
    have a : ∀ x : Expr, notStar x = true → (match x with | .Starred .. => true | _ => false) = false := fun x hx => by
      cases x <;> first | rfl | (simp [notStar] at hx; done)
    simp only [List.any_cons, List.any_nil, Bool.or_false, Bool.or_eq_false_iff]
    exact ⟨a u hu, a v hv, a t ht⟩
  have hn : List.filterMap (fun
            | Expr.Name id pos => if (env.kindOf id == some NameKind.local && pos.line == (Option.map (fun (x : Expr) => x.pos.line) [Expr.Name y p, Expr.Name z p', Expr.Name w p''].head?).getD 0) = true then some id else none
            | _ => none) [Expr.Name y p, Expr.Name z p', Expr.Name w p''] = [y, z, w] := by
    have e : (Option.map (fun (x : Expr) => x.pos.line) [Expr.Name y p, Expr.Name z p', Expr.Name w p''].head?).getD 0 = p.line := rfl
    rw [e]
    simp [hy, hz, hw, hp, hp']
  have he : ([y, z, w] : List Str).eraseDups.length = 3 := by
    rw [List.eraseDups_cons]
    have : ([z, w].filter fun b => !b == y) = [z, w] := by
      simp [Ne.symm h12, Ne.symm h13]
    rw [this, List.eraseDups_cons]
    have : ([w].filter fun b => !b == z) = [w] := by
      simp [Ne.symm h23]
    rw [this]
    rfl
  unfold swappedStores
  simp only []
  split
  · rename_i h
    exfalso
    simp [hk] at h
  split
  · rename_i h
    exact absurd (hs.symm.trans h) Bool.false_ne_true
  split
  · rename_i h
    have h' : (([y, z, w] : List Str).length != 3 || ([y, z, w] : List Str).eraseDups.length != ([y, z, w] : List Str).length) = true := by
      rw [← hn]
      exact h
    rw [he] at h'
    simp at h'
  split
  · rename_i h
    exact absurd (h1.symm.trans h) Bool.false_ne_true
  split
  · rename_i h
    exact absurd (h2.symm.trans h) Bool.false_ne_true
  exact congrArg (fun l => (pure (some l) : Sem (Option (List Str)))) hn
end
end DL

set_option Elab.async false
set_option linter.all false
set_option maxRecDepth 100000
set_option maxHeartbeats 4000000
/-! DL14: the theorem on core statements. -/
namespace DL
open PySem L2 PySem.Spec
section
variable {G : Gs} {T : Tb} {Ex : List Str} {P : Nat → List D → M D} {K : Nat → D} {b : Bk} {W : WX} {X : Cx}
structure SndS (G : Gs) (T : Tb) (Ex : List Str) (P : Nat → List D → M D) (K : Nat → D) (c : S) : Prop where
  s : ∀ {b W X x}, XSOk G T Ex P K b W X → (ckS T Ex c).s b x = true → DS G W X x (semS P K c)
  l : ∀ {b W X x}, XSOk G T Ex P K b W X → (ckS T Ex c).l b x = true → DSs G W X x (semS P K c)
theorem snd_S {c : S} {k : Bk → Stmt → Bool} (hc : ckS T Ex c = sS k) (h : ∀ {b W X x}, XSOk G T Ex P K b W X → k b x = true → DS G W X x (semS P K c)) : SndS G T Ex P K c where
  s := fun o q => h o (by rw [hc] at q; exact q)
  l := fun o q => by
    rw [hc] at q
    cases q
theorem asg_sub {o i : Expr} {p : Pos} {env : PySem.Env} (h : isSl i = false) (v : Value) : assign (.Subscript o i p) env v = (do
      let ov ← holding [v] (eval o env)
      let iv ← holding [v, ov] (eval i env)
      standAt p
      holding [v, ov, iv] (setItem ov iv v)
      release [v, ov, iv] []) := by
  cases i <;> first | rfl | (simp [isSl] at h)
theorem sndS_nil : SndS G T Ex P K .nil where
  s := fun o h => by cases h
  l := fun {b W X x} o h => by
    cases x with
    | nil => exact dss_nil
    | cons a l => cases h
theorem sndS_cons {s r : S} (hs : SndS G T Ex P K s) (hr : SndS G T Ex P K r) : SndS G T Ex P K (.cons s r) where
  s := fun o h => by cases h
  l := fun {b W X x} o h => by
    simp only [ckS] at h
    split at h
    · simp only [Bool.and_eq_true] at h
      exact dss_cons (hs.s o h.1) (hr.l o h.2)
    · cases h
theorem sndS_any : SndS G T Ex P K .any := snd_S rfl fun {b W X x} o h => ⟨fun pins s σ H D I ⟨w, δ, _, _, p⟩ => p.elim⟩
theorem sndS_pass : SndS G T Ex P K .pass := snd_S rfl fun {b W X x} o h => by
  split at h
  · exact ds_pass
  · cases h
theorem sndS_doc : SndS G T Ex P K .doc := snd_S rfl fun {b W X x} o h => by
  split at h
  · exact ds_doc
  · cases h
theorem sndS_ret (c : C) : SndS G T Ex P K (.ret c) := snd_S rfl fun {b W X x} o h => by
  split at h
  · exact ds_ret ((snd c _).e o.toXOk h)
  · cases h
theorem sndS_retN : SndS G T Ex P K .retN := snd_S rfl fun {b W X x} o h => by
  split at h
  · exact ds_retN
  · cases h
theorem sndS_drop (c : C) : SndS G T Ex P K (.drop c) := snd_S rfl fun {b W X x} o h => by
  split at h
  · simp only [Bool.and_eq_true, Bool.not_eq_true'] at h
    exact ds_expr ((snd c _).e o.toXOk h.1) (sw_no h.2 _ _ _)
  · cases h
theorem sndS_asg (g : Tg) (c : C) : SndS G T Ex P K (.asg g c) := snd_S rfl fun {b W X x} o h => by
  split at h
  · simp only [Bool.and_eq_true, Bool.not_eq_true', Bool.or_eq_true] at h
    obtain ⟨⟨⟨⟨h1, h2⟩, h3⟩, h4⟩, h5⟩ := h
    refine ds_asg ((snd c _).e o.toXOk h1) (tg_ok o.toXOk g _ h2) (sole_sw o h4 _) ?_ (by rw [asg_cons h3]; rfl)
    rcases h5 with (h5 | h5) | h5
    · exact st_no h5 _
    · exact st_fold h5 _
    · exact st_loc (b := b) (fun y => by unfold PySem.Env.kindOf; rw [o.sc]) h5
  · cases h
theorem sndS_par (i j : Nat) (as : C) : SndS G T Ex P K (.par i j as) := snd_S rfl fun {b W X x} o h => by
  split at h
  · simp only [Bool.and_eq_true, Bool.not_eq_true'] at h
    obtain ⟨⟨⟨⟨⟨⟨⟨⟨h1, h2⟩, h3⟩, h4⟩, h5⟩, h6⟩, h7⟩, h8⟩, h9⟩ := h
    have hne := ne_of_beq_false h5
    obtain ⟨d1, d2, _⟩ := (snd as _).a o.toXOk h9
    simp only [List.all_cons, List.all_nil, Bool.and_true, Bool.and_eq_true] at d2
    have h1 := eq_of_beq h1
    have h2 := eq_of_beq h2
    refine ds_par o.calm (by rw [o.hN]; exact o.nd) (by rw [o.hN]; exact h1) (by rw [o.hN]; exact h2) (fun e => ?_) (o.lc h3) (o.lc h4) d1 (st_par o.bkind (o.lc h3) (o.lc h4) hne (eq_of_beq h6) d2.1 d2.2 h7 h8)
    rw [e, h2] at h1
    exact hne (Option.some.inj h1).symm
  · cases h
theorem sndS_par3 (i j l : Nat) (as : C) : SndS G T Ex P K (.par3 i j l as) := snd_S rfl fun {b W X x} o h => by
  split at h
  · simp only [Bool.and_eq_true, Bool.not_eq_true'] at h
    obtain ⟨⟨⟨⟨⟨⟨⟨⟨⟨⟨⟨⟨⟨h1, h2⟩, h3⟩, h4⟩, h5⟩, h6⟩, h7⟩, h8⟩, h9⟩, h10⟩, h11⟩, h12⟩, h13⟩, h14⟩ := h
    have n1 := ne_of_beq_false h7
    have n2 := ne_of_beq_false h8
    have n3 := ne_of_beq_false h9
    obtain ⟨d1, d2, _⟩ := (snd as _).a o.toXOk h14
    simp only [List.all_cons, List.all_nil, Bool.and_true, Bool.and_eq_true] at d2
    have h1 := eq_of_beq h1
    have h2 := eq_of_beq h2
    have h3 := eq_of_beq h3
    refine ds_par3 o.calm (by rw [o.hN]; exact o.nd) (by rw [o.hN]; exact h1) (by rw [o.hN]; exact h2) (by rw [o.hN]; exact h3) (fun e => ?_) (fun e => ?_) (fun e => ?_) (o.lc h4) (o.lc h5) (o.lc h6) d1
      (st_par3 o.bkind (o.lc h4) (o.lc h5) (o.lc h6) n1 n2 n3 (eq_of_beq h10) (eq_of_beq h11) d2.1 d2.2.1 d2.2.2 h12 h13)
    · rw [e, h2] at h1
      exact n1 (Option.some.inj h1).symm
    · rw [e, h3] at h1
      exact n2 (Option.some.inj h1).symm
    · rw [e, h3] at h2
      exact n3 (Option.some.inj h2).symm
  · cases h
theorem sndS_setIx (c a i : C) : SndS G T Ex P K (.setIx c a i) := snd_S rfl fun {b W X x} o h => by
  split at h
  · simp only [Bool.and_eq_true, Bool.not_eq_true'] at h
    obtain ⟨⟨⟨⟨h1, h2⟩, h3⟩, h4⟩, h5⟩ := h
    exact ds_setIx ((snd c _).e o.toXOk h1) ((snd a _).e o.toXOk h2) ((snd i _).e o.toXOk h3) (sole_no h5 _ _) (st_no rfl _) (asg_sub h4)
  · cases h
theorem sndS_ite (t : C) {a r : S} (ha : SndS G T Ex P K a) (hr : SndS G T Ex P K r) : SndS G T Ex P K (.ite t a r) := snd_S rfl fun {b W X x} o h => by
  split at h
  · simp only [Bool.and_eq_true] at h
    exact ds_if ((snd t _).t o.toXOk h.1.1) (ha.l o h.1.2) (hr.l o h.2)
  · cases h
theorem sndS_for (it : C) (g : Tg) {body : S} (hb : SndS G T Ex P K body) : SndS G T Ex P K (.for it g body) := snd_S rfl fun {b W X x} o h => by
  split at h
  · simp only [Bool.and_eq_true, Bool.not_eq_true'] at h
    obtain ⟨⟨⟨h1, h2⟩, h3⟩, h4⟩ := h
    exact ds_for o.own o.calm ((snd it _).i o.toXOk h1) (tg_ok o.toXOk g _ h2) (hb.l o h4) (set_iter h3 X.env)
  · cases h
theorem sndS_whl (n : Nat) (t : C) {body : S} (hb : SndS G T Ex P K body) : SndS G T Ex P K (.whl n t body) := snd_S rfl fun {b W X x} o h => by
  split at h
  · simp only [Bool.and_eq_true] at h
    exact ds_while (fun _ _ => n) o.own ((snd t _).t o.toXOk h.1) (hb.l o h.2)
  · cases h
theorem sndS_brk : SndS G T Ex P K .brk := snd_S rfl fun {b W X x} o h => by
  split at h
  · exact ds_break
  · cases h
theorem sndS_cnt : SndS G T Ex P K .cnt := snd_S rfl fun {b W X x} o h => by
  split at h
  · exact ds_continue
  · cases h
theorem sndS_raise (i : Nat) : SndS G T Ex P K (.raise i) := snd_S rfl fun {b W X x} o h => by
  split at h
  · simp only [Bool.and_eq_true] at h
    obtain ⟨⟨h1, h2⟩, h3⟩ := h
    obtain ⟨e1, e2, e3, B, newId, initId, bmB, F, e4⟩ := o.ex i _ (eq_of_beq h1)
    exact ds_raise o.calm o.tk (L2N.pmk_own F e4 e1 e2 e3 (o.gl h2) (okN_d h3).1)
  · cases h
theorem sndS_setc (i : Nat) (c : C) : SndS G T Ex P K (.setc i c) := snd_S rfl fun {b W X x} o h => by
  split at h
  · rename_i y p e tg iter ifs scope p2 p3 own g it te el
    simp only [Bool.and_eq_true, Bool.not_eq_true'] at h
    obtain ⟨⟨⟨⟨h1, h2⟩, h3⟩, h4⟩, h5⟩ := h
    have h5 : (own == (ownOf b.N scope).map (·.2) && blkB b scope && !isSet iter && g.ix.all (own.contains ·) && (ck T it).i b tg iter && g.ck (b.in scope) tg && (match (generalizing := false) ifs with | [] => te.isNil | [u] => !te.isNil && (ck T te).t (b.in scope) u | _ => false) && (ck T el).e (b.in scope) e) = true := h5
    simp only [Bool.and_eq_true] at h5
    obtain ⟨⟨⟨⟨⟨⟨⟨g1, g2⟩, g3⟩, g4⟩, g5⟩, g6⟩, g7⟩, g8⟩ := h5
    have e1 := eq_of_beq g1
    subst e1
    have o' := o.toXOk
    refine ds_setComp o.calm (by rw [o.hN]; exact o.nd) (by rw [o.hN]; exact eq_of_beq h1) (o.lc h2) ((snd it _).i o' g5) (blk_ok o' g2) (fun i hix => ?_) ?_ (fun s H C cl fp => tg_ok (o'.blk s H C cl fp) g tg g6) (fun s H C cl fp => ?_) (fun s H C cl fp => (snd el _).e (o'.blk s H C cl fp) g8) (set_iter (by simpa using g3) X.env)
    · have := List.all_eq_true.mp g4 i hix
      simpa using this
    · have k1 := o.lc h2
      show (pure (X.env.blockKind == .function && X.env.kindOf y == some .local && p.line == p2.line && !(scope.names.any fun q => q.1 == y && (q.2 == .local || q.2 == .cell))) : Sem Bool) = pure true
      have k1' : X.env.kindOf y = some .local := k1
      rw [o.bkind, k1', h3, h4]
      rfl
    · split at g7
      · rw [if_pos g7]
        exact dts_nil
      · simp only [Bool.and_eq_true, Bool.not_eq_true'] at g7
        rw [if_neg (by rw [g7.1]; exact Bool.false_ne_true)]
        exact dts_one ((snd te _).t (o'.blk s H C cl fp) g7.2)
      · cases g7
  · cases h
theorem sndS_raiseA (j : Nat) (c : C) : SndS G T Ex P K (.raiseA j c) := snd_S rfl fun {b W X x} o h => by
  split at h
  · simp only [Bool.and_eq_true] at h
    obtain ⟨⟨⟨⟨h1, h2⟩, h3⟩, h4⟩, h5⟩ := h
    have rm := o.xc.rm h1
    have ex := o.xc.ei
    have h2 := eq_of_beq h2
    cases q : T.ei[j]? with
    | none =>
      rw [q] at h2
      cases h2
    | some z =>
      obtain ⟨y, f⟩ := z
      rw [q] at h2
      cases h2
      obtain ⟨ic, _⟩ := ex j _ _ q
      exact ds_raiseA o.calm o.tk ic rm (o.gl h3) ((snd c _).e o.toXOk h5) (star_cons h4 [] X.env)
  · cases h
theorem XOk0.tried (o : XOk0 G T P K b W X) {W' : WX} {pn : List (Addr × Obj)} {xe : Value → Shared → Prop} (tk : L2N.Takes (X.tr pn xe) W') : XOk G T P K ⟨b.N, b.sc, b.fb, false⟩ W' (X.tr pn xe) where
  hK := o.hK
  hW := o.hW
  hN := o.hN
  nd := o.nd
  sc := o.sc
  fb := o.fb
  calm := o.calm
  tk := tk
  lv := o.lv
  bl := o.bl
  cs := o.cs
  xc := ⟨fun i y h => ⟨(o.xc.xv i y h).dbg, (o.xc.xv i y h).at_, (o.xc.xv i y h).kp, (o.xc.xv i y h).ex⟩, o.xc.vc, fun h => (by cases h), o.xc.ei, o.xc.cx⟩
  er := fun h => by cases h
theorem sndS_tryA (j i : Nat) (c : C) : SndS G T Ex P K (.tryA j i c) := snd_S rfl fun {b W X x} o h => by
  split at h
  · rename_i e p1 y p2 n1 n2 p3 f p4 p5 p6 p7
    simp only [Bool.and_eq_true] at h
    obtain ⟨⟨⟨⟨⟨⟨⟨h1, h2⟩, h3⟩, h4⟩, h5⟩, h6⟩, h7⟩, h8⟩ := h
    obtain ⟨ic, hf⟩ := o.xc.ei j _ _ (eq_of_beq h2)
    have e4 := eq_of_beq h4
    subst e4
    subst hf
    exact ds_tryA ic o.stk o.frm (by rw [o.hN]; exact o.nd) (by rw [o.hN]; exact eq_of_beq h5) (o.lc h6) (o.gl h3) (okN_d h7).1 (okN_d h7).2 fun W' pn xe tk => (snd c _).e (o.toXOk.toXOk0.tried tk) h8
  · cases h
/-- THE THEOREM on statements -/
theorem sndS : ∀ c : S, SndS G T Ex P K c
  | .nil => sndS_nil
  | .cons s r => sndS_cons (sndS s) (sndS r)
  | .pass => sndS_pass
  | .doc => sndS_doc
  | .ret c => sndS_ret c
  | .retN => sndS_retN
  | .drop c => sndS_drop c
  | .asg g c => sndS_asg g c
  | .setc i c => sndS_setc i c
  | .par i j as => sndS_par i j as
  | .par3 i j l as => sndS_par3 i j l as
  | .setIx c o i => sndS_setIx c o i
  | .ite t a r => sndS_ite t (sndS a) (sndS r)
  | .for it g body => sndS_for it g (sndS body)
  | .whl n t body => sndS_whl n t (sndS body)
  | .brk => sndS_brk
  | .cnt => sndS_cnt
  | .raise e => sndS_raise e
  | .raiseA j c => sndS_raiseA j c
  | .tryA j i c => sndS_tryA j i c
  | .any => sndS_any
end
end DL

set_option Elab.async false
set_option linter.all false
set_option maxRecDepth 100000
set_option maxHeartbeats 4000000
/-! DL15: all defs of a module at once, by the depth of calls. -/
namespace DL
open PySem L2 PySem.Spec
/-- a def: its name, its parameters, its slots, where it is written, its core, whether what it made is let go -/
structure FnI where
  nm : Str
  ps : List Str
  N : List Str
  st : Stmt
  b : S
  cut : Bool
  er : Bool
def wrapM (c : Bool) (m : M D) : M D := if c = true then cutM m else m
/-- one call: P the defs one call deeper, P2 (from 1000000 on) two calls deeper; lo: no room for a lambda's calls -/
def stepP (fs : List FnI) (K : Nat → D) (lo : Bool) (P P2 : Nat → List D → M D) (i : Nat) (ds : List D) : M D :=
  if 1000000 ≤ i then P2 (i - 1000000) ds else match fs[i]? with
    | none => fun _ => none
    | some f => if (f.er && lo) = true then fun _ => none else wrapM f.cut (arity f.ps.length (runF f.N.length (semS P K f.b)) ds)
def noP : Nat → List D → M D := fun _ _ _ => none
/-- what the defs do, to a depth of calls; from 1000000 on: two calls deeper -/
def runP (fs : List FnI) (K : Nat → D) : Nat → Nat → List D → M D
  | 0 => noP
  | 1 => stepP fs K true noP noP
  | 2 => stepP fs K true (runP fs K 1) noP
  | k + 3 => stepP fs K false (runP fs K (k + 2)) (runP fs K (k + 1))
def lowB (k : Nat) : Bool := decide (k < 2)
theorem runP_succ (fs : List FnI) (K : Nat → D) (k i : Nat) (hi : i < 1000000) (f : FnI) (hf : fs[i]? = some f) :
    runP fs K (k + 1) i = fun ds => if (f.er && lowB k) = true then fun _ => none else wrapM f.cut (arity f.ps.length (runF f.N.length (semS (runP fs K k) K f.b)) ds) := by
  funext ds
  have h : ¬ 1000000 ≤ i := by omega
  match k with
  | 0 =>
    show stepP fs K true noP noP i ds = _
    unfold stepP
    rw [if_neg h, hf]
    rfl
  | 1 =>
    show stepP fs K true (runP fs K 1) noP i ds = _
    unfold stepP
    rw [if_neg h, hf]
    rfl
  | k + 2 =>
    show stepP fs K false (runP fs K (k + 2)) (runP fs K (k + 1)) i ds = _
    unfold stepP
    rw [if_neg h, hf]
    have e : lowB (k + 2) = false := by
      unfold lowB
      simp
    rw [e]
theorem runP_shift (fs : List FnI) (K : Nat → D) (k : Nat) : shift (runP fs K (k + 2)) = runP fs K k := by
  funext i ds
  unfold shift
  have h : 1000000 ≤ 1000000 + i := by omega
  have e : 1000000 + i - 1000000 = i := by omega
  match k with
  | 0 =>
    show stepP fs K true (runP fs K 1) noP (1000000 + i) ds = _
    unfold stepP
    rw [if_pos h, e]
    rfl
  | k + 1 =>
    show stepP fs K false (runP fs K (k + 2)) (runP fs K (k + 1)) (1000000 + i) ds = _
    unfold stepP
    rw [if_pos h, e]
/-- the classes of exceptions: with an own __init__ and the attribute; as values; what isinstance tells -/
structure EiT where
  ei : List (Str × Str)
  xv : List Str
  cx : List (Str × List Nat)
def tbOf (fs : List FnI) (cs : List Str) (ei : EiT) : Tb := ⟨fs.map fun f => (f.nm, f.ps.length), cs, ei.ei, ei.xv, ei.cx⟩
def bkOf (f : FnI) : Bk := ⟨f.N, defScope f.st, fun _ => true, f.er⟩
def okSc (f : FnI) : Bool := (defScope f.st).kind == .function && !(defScope f.st).isCoroutine && !(defScope f.st).isGenerator && decide f.N.Nodup && f.N.take f.ps.length == f.ps &&
  f.ps.all (fun x => (defScope f.st).names.lookup x == some .local || (defScope f.st).names.lookup x == some .cell) && (defScope f.st).names.all (fun y => !(y.2 == .free))
def okFn (T : Tb) (Ex : List Str) (f : FnI) : Bool := okSc f && (ckS T Ex f.b).l (bkOf f) (defBody f.st)
theorem okSc_of {f : FnI} (h : okSc f = true) : FnScope f.N f.ps (defScope f.st) := by
  unfold okSc at h
  simp only [Bool.and_eq_true, Bool.not_eq_true', List.all_eq_true, Bool.or_eq_true, decide_eq_true_eq] at h
  obtain ⟨⟨⟨⟨⟨⟨h1, h2⟩, h3⟩, h4⟩, h5⟩, h6⟩, h7⟩ := h
  refine ⟨eq_of_beq h1, h2, h3, h4, eq_of_beq h5, fun x hx => ?_, fun y hy e => ?_⟩
  · rcases h6 x hx with z | z
    · exact .inl (eq_of_beq z)
    · exact .inr (eq_of_beq z)
  · have := h7 y hy
    rw [e] at this
    simp at this
section
variable {G : Gs} {P : Program} {w : World} {K : PySem.W.Frag} {mg : Str → Option Value} {base : Heap} {fs : List FnI} {cs Ex : List Str} {ei : EiT} {Kc : Nat → D}
/-- what the head tells of the module -/
structure Hd (G : Gs) (P : Program) (w : World) (K : PySem.W.Frag) (mg : Str → Option Value) (fs : List FnI) (cs Ex : List Str) (ei : EiT) (Kc : Nat → D) : Prop where
  hK : K = G.K
  hW : w = G.W
  sz : fs.length ≤ 1000000
  fn : ∀ (i : Nat) (f : FnI), fs[i]? = some f → ∃ fa fd, mg f.nm = some (.ref fa) ∧ FunD K f.nm f.nm (defArgs f.st) (defBody f.st) (defScope f.st) [] [] fa fd ∧ Binds K fd f.ps []
  ok : ∀ (i : Nat) (f : FnI), fs[i]? = some f → okFn (tbOf fs cs ei) Ex f = true
  bl : ∀ y ∈ bltN, mg y = none
  cs : ∀ i y, cs[i]? = some y → ∃ u v, mg y = some u ∧ RelV v u ∧ ∀ w H, Rep G w H → Dat G w H (Kc i) v
  ex : ∀ i y, Ex[i]? = some y → mg y = some (.ref (G.ob i)) ∧ PySem.W.keepIn K (.ref (G.ob i)) = true ∧ PySem.W.subIn K (.ref (G.ob i)) (.type "BaseException") = some true ∧ PySem.W.typeIn K (.ref (G.ob i)) = some (.type "type") ∧
    ∃ (B newId initId : String) (bmB : List Value), ExcBaseFacts B newId initId bmB ∧ PySem.W.excIn K (G.ob i) bmB newId = true
/-- what the head tells of the classes of exceptions (a def's rule at depth 1 is asked) -/
structure XiHd (G : Gs) (P : Program) (w : World) (K : PySem.W.Frag) (mg : Str → Option Value) (base : Heap) (et : EiT) : Prop where
  xv : ∀ i y, et.xv[i]? = some y → (y == ("__debug__" : Str)) = false ∧ mg y = some (.ref (G.ob i)) ∧ PySem.W.keepIn K (.ref (G.ob i)) = true ∧ ∃ (B newId initId : String) (bmB : List Value), ExcBaseFacts B newId initId bmB ∧ PySem.W.excIn K (G.ob i) bmB newId = true
  vc : ∀ c, okC et.xv.length et.ei.length c = true → XvC K (G.ob c)
  ei : ∀ j y f, et.ei[j]? = some (y, f) → InitC G P w K mg base (500 + j) y ∧ G.fld (500 + j) = f
  cx : ∀ (j : Nat) (y : Str) (cs : List Nat), et.cx[j]? = some (y, cs) → ∃ v cv, ((y == ("__debug__" : Str)) = false ∧ mg y = some cv ∧ RelV v cv ∨ y = "ValueError" ∧ v = .ty "ValueError") ∧ (∀ u, RelV v u → u = cv) ∧ ∀ c, okC et.xv.length et.ei.length c = true → PySem.W.kitOne K (.ref (G.ob c)) cv = some (cs.contains c)
theorem XiHd.ok {X : Cx} (x : XiHd G P w K mg base ei) (h1 : X.prog = P) (h2 : X.w = w) (h3 : X.K = K) (h4 : X.mg = mg) (h5 : X.base = base) (er : Bool) (rm : er = true → Room 2 X.A) : XcOk G (tbOf fs cs ei) er X := by
  subst h1 h2 h3 h4 h5
  exact ⟨fun i y h => ⟨(x.xv i y h).1, (x.xv i y h).2.1, (x.xv i y h).2.2.1, (x.xv i y h).2.2.2⟩, x.vc, rm, x.ei, x.cx⟩
theorem fn_none {f : Addr} {fd : FuncData} {ps : List Str} {k : Nat} {h : List D → M D} (hn : ∀ ds μ, h ds μ = none) : FnOk P w K mg base (L2N.CX P w) k f fd ps (spD G h) where
  len := fun vs H Q E ⟨w, ds, r, dv, p⟩ => by
    rw [hn] at p
    exact p.elim
  run := fun A outer s H args us vs Q E hr e0 hb hv ⟨w, ds, r, dv, p⟩ => by
    rw [hn] at p
    exact p.elim
theorem wrap_ok {f : Addr} {fd : FuncData} {ps : List Str} {k : Nat} {h : List D → M D} (c : Bool) (F : FnOk P w K mg base (L2N.CX P w) k f fd ps (spD G h)) : FnOk P w K mg base (L2N.CX P w) k f fd ps (spD G fun ds => wrapM c (h ds)) := by
  unfold wrapM
  cases c
  · exact F
  · exact fn_cut F
/-- the defs keep their promises at the depth k -/
def OkAt (G : Gs) (P : Program) (w : World) (K : PySem.W.Frag) (mg : Str → Option Value) (base : Heap) (fs : List FnI) (Kc : Nat → D) (k : Nat) : Prop :=
  ∀ (i : Nat) (f : FnI) (fa : Addr) (fd : FuncData), fs[i]? = some f → mg f.nm = some (.ref fa) → FunD K f.nm f.nm (defArgs f.st) (defBody f.st) (defScope f.st) [] [] fa fd → FnOk P w K mg base (L2N.CX P w) k fa fd f.ps (spD G (runP fs Kc k i))
/-- the context of a def's body -/
abbrev bodyX (P : Program) (w : World) (K : PySem.W.Frag) (mg : Str → Option Value) (base : Heap) (f : FnI) (fa : Addr) (cdv : Value) (A : Around) (outer : List PySem.Env) (s : Shared) (H : Hp) (E : XK) : Cx := cxOf (L2N.CX P w) P w K mg base f.N f.nm (defScope f.st) fa cdv A outer s H E
theorem xs0_ok (D : Hd G P w K mg fs cs Ex ei Kc) {f : FnI} (S : FnScope f.N f.ps (defScope f.st)) {k : Nat} {fa : Addr} {cdv : Value} {A : Around} {outer : List PySem.Env} {s : Shared} {H : Hp} {E : XK}
    (xi : XiHd G P w K mg base ei) (hr : Room k (A.deeper (PyProof.Rows.envOfC f.nm (defScope f.st) s.heap.objs.size fa cdv))) (low : f.er = true → 2 ≤ k) (F : OkAt G P w K mg base fs Kc k) :
    XOk0 G (tbOf fs cs ei) (runP fs Kc k) Kc (bkOf f) (fun c d _ H => E c d H) (bodyX P w K mg base f fa cdv A outer s H E) where
  hK := D.hK
  hW := D.hW
  hN := rfl
  nd := S.nd
  sc := rfl
  fb := rfl
  calm := rfl
  tk := L2N.takes_of rfl rfl rfl rfl
  lv := by
    refine ⟨k, hr, fun i y n hi => ?_⟩
    unfold tbOf at hi
    simp only [List.getElem?_map] at hi
    cases q : fs[i]? with
    | none =>
      rw [q] at hi
      cases hi
    | some g =>
      rw [q] at hi
      cases hi
      obtain ⟨fa, fd, h1, h2, h3⟩ := D.fn i g q
      exact ⟨fa, fd, g.ps, h1, h2.kp, h3, rfl, F i g fa fd q h1 h2⟩
  bl := D.bl
  cs := D.cs
  xc := xi.ok rfl rfl rfl rfl rfl _ fun h => hr.mono (low h)
/-- the rule for a lambda that is tried, in the body of f at the depth k + 2 -/
def ErAt (G : Gs) (P : Program) (w : World) (K : PySem.W.Frag) (mg : Str → Option Value) (base : Heap) (fs : List FnI) (cs : List Str) (ei : EiT) (Kc : Nat → D) : Prop :=
  ∀ (k : Nat) (f : FnI) (fa : Addr) (cdv : Value) (A : Around) (outer : List PySem.Env) (s : Shared) (H : Hp) (E : XK), f ∈ fs → f.er = true → Room (k + 2) (A.deeper (PyProof.Rows.envOfC f.nm (defScope f.st) s.heap.objs.size fa cdv)) →
    (∃ (fd : FuncData), mg f.nm = some (.ref fa) ∧ FunD K f.nm f.nm (defArgs f.st) (defBody f.st) (defScope f.st) [] [] fa fd ∧ fd.code = cdv) → OkAt G P w K mg base fs Kc k →
    ∀ (params : Arguments) (body : Expr) (scope : Scope) (p lpos pos : Pos) (g : Env → M D), glB (bkOf f) "_law_error" = true → noPar params = true → LamX.lamSB (bkOf f).sc scope = true →
      (∀ (W' : WX) (X' : Cx), XOk0 G (tbOf fs cs ei) (runP fs Kc k) Kc ((bkOf f).lam scope) W' X' → DE G W' X' body g) → DE G (fun c d _ H => E c d H) (bodyX P w K mg base f fa cdv A outer s H E) (.Call (.Name "_law_error" p) [.Lambda params body scope lpos] [] pos) (fErr Kc g)
/-- a def keeps its promise: its body, read by a function; its code object is known -/
theorem fn_okC {x qual : Str} {params : Arguments} {body : List Stmt} {scope : Scope} {f : Addr} {fd : FuncData} {N ps : List Str} {k : Nat} {g : Env → SM}
    (F : FunD K x qual params body scope [] [] f fd) (S : FnScope N ps scope)
    (hb : ∀ (cdv : Value) (A : Around) (outer : List PySem.Env) (s : Shared) (H : Hp) (E : XK), fd.code = cdv → Room k (A.deeper (PyProof.Rows.envOfC qual scope s.heap.objs.size f cdv)) →
      DSs G (fun c d _ H => E c d H) (cxOf (L2N.CX P w) P w K mg base N qual scope f cdv A outer s H E) body g) :
    FnOk P w K mg base (L2N.CX P w) (k + 1) f fd ps (spD G (arity ps.length (runF N.length g))) := by
  obtain ⟨oc, od, dV, kV, doc, pm, an, cdv, ct, osl, rfl, lk, hcd, _, _⟩ := F.ex
  refine fn_of lk hcd S (fun vs H Q E p => spD_len p) fun A outer s H vs Q E hr p => ⟨_, hb cdv A outer s H E rfl hr, ?_⟩
  obtain ⟨w', ds, r, dv, p⟩ := p
  refine ⟨w', _, r, envR_start dv, ?_⟩
  unfold arity runF at p
  split at p
  · cases q : g (ds.map some ++ List.replicate (N.length - ds.length) none) w'.μ with
    | none =>
      rw [q] at p
      exact p.elim
    | some z =>
      rw [q] at p
      obtain ⟨o, μ'⟩ := z
      cases o with
      | nx δ => exact fun w2 H2 σ e2 r2 m2 _ => p w2 H2 e2 r2 m2 _ (by simp [Dat])
      | ret d => exact fun w2 H2 v e2 r2 m2 dv => p w2 H2 e2 r2 m2 v dv
      | brk δ => exact p.elim
      | cnt δ => exact p.elim
      | exc x δ => exact fun c d w2 H2 σ e2 r2 m2 _ z => p c d w2 H2 e2 r2 m2 z
  · exact p.elim
/-- THE THEOREM on defs -/
theorem fns_ok (D : Hd G P w K mg fs cs Ex ei Kc) (er : ErAt G P w K mg base fs cs ei Kc) (xi : XiHd G P w K mg base ei) (k : Nat) : ∀ j : Nat, j ≤ k → OkAt G P w K mg base fs Kc j := by
  induction k with
  | zero =>
    intro j hj
    have e : j = 0 := by omega
    subst e
    exact fun i f fa fd hi hm F => fn_none fun ds μ => rfl
  | succ k ih =>
    intro j hj
    by_cases h : j ≤ k
    · exact ih j h
    · have e : j = k + 1 := by omega
      subst e
      intro i f fa fd hi hm F
      have hlt : i < 1000000 := Nat.lt_of_lt_of_le (List.getElem?_eq_some_iff.mp hi).1 D.sz
      have ok := D.ok i f hi
      unfold okFn at ok
      simp only [Bool.and_eq_true] at ok
      have S := okSc_of ok.1
      rw [runP_succ fs Kc k i hlt f hi]
      by_cases hb : (f.er && lowB k) = true
      · simp only [if_pos hb]
        exact fn_none fun ds μ => rfl
      · simp only [if_neg hb]
        refine wrap_ok f.cut (fn_okC F S fun cdv A outer s H E hcode hr => (sndS f.b).l (b := bkOf f) ?_ ok.2)
        have low : f.er = true → 2 ≤ k := fun hbe => by
          rw [hbe, Bool.true_and] at hb
          unfold lowB at hb
          simpa using hb
        exact {
          xs0_ok (A := A) (outer := outer) (s := s) (H := H) (E := E) (cdv := cdv) (fa := fa) D S xi hr low (ih k (Nat.le_refl _)) with
          er := fun hbe => by
            have hbe : f.er = true := hbe
            rw [hbe, Bool.true_and] at hb
            have hk : 2 ≤ k := by
              unfold lowB at hb
              simpa using hb
            obtain ⟨k', rfl⟩ : ∃ k', k = k' + 2 := ⟨k - 2, by omega⟩
            rw [runP_shift]
            exact er k' f fa cdv A outer s H E (List.mem_of_getElem? hi) hbe hr ⟨fd, hm, F, hcode⟩ (ih k' (by omega))
          stk := rfl
          frm := rfl
          own := passes_of rfl
          kind := S.kind
          ex := fun i y hi => by
            obtain ⟨h1, h2, h3, h4, h5⟩ := D.ex i y hi
            exact ⟨h1, h2, raises_own h3 h4, h5⟩ }
end
end DL

set_option Elab.async false
set_option linter.all false
set_option maxRecDepth 100000
set_option maxHeartbeats 4000000
/-! DH1: within an except suite: the ends of walks, unpacking. -/
namespace DH
open PySem PySem.Spec PyProof.Rows HotX
section
variable {prog : Program} {w : World} {A : Around} {E : Value → Shared → Prop} {s : Shared}
theorem HotAt.keep {x1 : Addr} {h h' : Heap} (hot : HotAt A x1 h) (k : ∀ o, h.get? x1 = some o → h'.get? x1 = some o) : HotAt A x1 h' := by
  obtain ⟨hh, o, vs, e, d, c⟩ := hot
  exact ⟨hh, o, vs, k o e, d, c⟩
/-- a new StopIteration, raised -/
theorem stop_hot {α : Type} {x1 : Addr} {Q : α → Shared → Prop} (hot : HotAt A x1 s.heap)
    (hE : ∀ h' e, (∀ b o, s.heap.get? b = some o → h'.get? b = some o) → (∃ o, h'.get? e = some o ∧ o.cls = .type "StopIteration") → E (.ref e) { s with heap := h' }) :
    wpAny (model prog w) A (newExc (.type "StopIteration") []) (fun a s' => wpAny (model prog w) A (raiseNew a : Sem α) Q E s') E s := by
  obtain ⟨hh, o1, vs1, h1, d1, c1⟩ := hot
  simp only [newExc, newTuple]
  refine wpAny_bind (wpAny_newObj_type ?_ (by size_fits))
  refine wpAny_bind (m := firstArgMember _ _) (wpAny_of_eq (a := Value.none) (by first | rfl | (simp only [firstArgMember]; rfl)) ?_)
  refine wpAny_newObj_type ?_ (by size_fits)
  refine raiseNew_hot ⟨hh, o1, vs1, Heap.get?_push_of_some _ (Heap.get?_push_of_some _ h1), d1, c1⟩ (Nat.ne_of_lt (Heap.lt_size (Heap.get?_push_of_some _ h1))) (Heap.get?_push_size _ rfl) rfl (by first | (simp; done) | (simp; omega) | (simp only [Array.size_append]; simp; omega)) ?_
  refine hE _ _ (fun b o e => ?_) ⟨_, Heap.get?_update_self _ (Heap.get?_push_size _ rfl) rfl, rfl⟩
  rw [Heap.get?_update_other _ _ (Nat.ne_of_gt (Heap.lt_size (Heap.get?_push_of_some _ e)))]
  exact Heap.get?_push_of_some _ (Heap.get?_push_of_some _ e)
theorem next_tuple_endH {it t x1 : Addr} {i : Nat} {items} {Q : Option Value → Shared → Prop} (hot : HotAt A x1 s.heap) (hne : x1 ≠ it)
    (hit : IsTupIter s.heap it t i) (ht : IsTup s.heap t items) (hx : items[i]? = none)
    (hQ : ∀ h', Heap.ExtBut it s.heap h' → Q none { s with heap := h' }) : wpAny (model prog w) A (pyNext (.ref it)) Q E s := by
  obtain ⟨o, ho, hc, hd⟩ := id hit
  obtain ⟨ol, hol, _, nl, hdl⟩ := ht
  unfold pyNext
  refine wpAny_bind (wpAny_attempt (wpAny_callSpecial?_slot (name := Str.ofString "__next__") hit.typeIs slot_tupleiter_next
    (wpAny_call_entry slot_tupleiter_next hit.typeIs entry_tupleiter_next ?_ (args_tupleiter_next _))))
  show wpAny _ _ (field (.ref it) 0 >>= _) _ _ s
  refine wpAny_bind (wpAny_field ho hd (x := .ref t) rfl ?_)
  show wpAny _ _ (if (Value.ref t == Value.none) = true then _ else _) _ _ s
  rw [if_neg (show ¬ ((Value.ref t == Value.none) = true) from Bool.false_ne_true)]
  show wpAny _ _ (field (.ref it) 1 >>= _) _ _ s
  refine wpAny_bind (wpAny_field ho hd (x := .int i 0) rfl ?_)
  show wpAny _ _ (seqItems? (.ref t) >>= _) _ _ s
  refine wpAny_bind (wpAny_seqItems hol hdl ?_)
  simp only [Int.toNat_natCast, hx]
  refine wpAny_bind (wpAny_rule (wpAny_bind (wpAny_setField ho hd (by simp) ?_)))
  have hot2 : HotAt A.in1 x1 (s.heap.update it (Obj.mapFields (·.setIfInBounds 0 .none))) := HotAt.keep (A := A) hot fun o e => (Heap.get?_update_other _ _ (Ne.symm hne)).trans e
  refine wpAny_bind (stop_hot (s := { s with heap := _ }) hot2 fun h' e k he => ?_)
  obtain ⟨oe, he1, he2⟩ := he
  refine wpAny_bind (wpAny_isInstance (T := "StopIteration") (b := true) ⟨oe, he1, he2⟩ isSubtype_stop ?_)
  exact wpAny_pure (hQ _ fun b o hb e => k b o ((Heap.get?_update_other _ _ (Ne.symm hb)).trans e))
theorem unpackItemsH {t x1 : Addr} {items : Array Value} {Q : List Value → Shared → Prop} (hot : HotAt A x1 s.heap) (ht : IsTup s.heap t items)
    (hQ : ∀ h', Heap.ExtBut s.heap.objs.size s.heap h' → Q items.toList { s with heap := h' }) : wpAny (model prog w) A (unpackItems (.ref t) items.size none) Q E s := by
  have hlt : t ≠ s.heap.objs.size := by obtain ⟨o, ho, _⟩ := ht; exact Nat.ne_of_lt (Heap.lt_size ho)
  have hx : x1 < s.heap.objs.size := by
    obtain ⟨_, o, vs, e, _, _⟩ := hot
    exact Heap.lt_size e
  unfold unpackItems
  refine wpAny_bind ?_
  · unfold notIterableAtAll
    refine wpAny_bind (wpAny_specialOf ht.typeIs slot_tuple_iter.lookup ?_)
    refine wpAny_pure ?_
    simp only [Bool.false_eq_true, if_false]
    refine wpAny_bind (wpAny_holding (iter_tuple ht ?_))
    refine wpAny_bind (wpAny_holding (draw_tuple hlt items.size 0 _ _ ⟨_, Heap.get?_push_size _ rfl, rfl, rfl⟩ (ht.push _) (by omega) fun h₁ hit₁ hs₁ => ?_))
    have hall : List.take items.size (List.drop 0 items.toList) = items.toList := by
      rw [List.drop_zero]; exact List.take_of_length_le (by simp)
    rw [hall]
    rw [if_neg (by simp)]
    have ht₁ : IsTup h₁ t items := (ht.push _).extBut hs₁.extBut hlt
    have hot₁ : HotAt A x1 h₁ := HotAt.keep hot fun o e => (hs₁.extBut x1 o (Nat.ne_of_lt hx) (Heap.get?_push_of_some _ e))
    refine wpAny_bind (wpAny_holding (next_tuple_endH (s := { s with heap := h₁ }) hot₁ (Nat.ne_of_lt hx) hit₁ ht₁ (by simp) fun h₂ he₂ => ?_))
    simp only [Option.isSome_none, Bool.false_eq_true, if_false]
    refine wpAny_pure (hQ h₂ fun b o hb e => he₂ b o hb (hs₁.extBut b o hb (Heap.get?_push_of_some _ e)))
theorem assign_TupleH {env : Env} {elts : List Expr} {x0} {pos : Pos} {t x1 : Addr} {items : Array Value} {Q : Unit → Shared → Prop} (hot : HotAt A x1 s.heap) (ht : IsTup s.heap t items)
    (hn : (assignEach elts env).length = items.size) (hstar : (assignEach elts env).findIdx? (·.1) = none)
    (h : ∀ h', Heap.ExtBut s.heap.objs.size s.heap h' → wpAny (model prog w) A (assignInOrder ((assignEach elts env).map (·.2)) items.toList) Q E { s with heap := h' }) :
    wpAny (model prog w) A (assign (.Tuple elts x0 pos) env (.ref t)) Q E s := by
  rw [assign_Tuple]
  refine wpAny_bind (wpAny_standAt ?_)
  unfold unpack
  rw [hn, hstar]
  exact wpAny_bind (wpAny_holding (unpackItemsH hot ht h))
/-! ### zip: the first list ends -/
theorem nextOf_list_endH {it l x1 : Addr} {i : Nat} {items} {Q : Value → Shared → Prop} (hot : HotAt A x1 s.heap) (hne : x1 ≠ it)
    (hit : s.heap.IsListIter it l i) (hl : s.heap.IsList l items) (hx : items[i]? = none)
    (hE : ∀ h' e, Heap.ExtBut it s.heap h' → (∃ o, h'.get? e = some o ∧ o.cls = .type "StopIteration") → E (.ref e) { s with heap := h' }) :
    wpAny (model prog w) A (Builtin.SmallTypes.nextOf (.ref it)) Q E s := by
  obtain ⟨o, ho, hc, hd⟩ := id hit
  obtain ⟨ol, hol, _, nl, hdl⟩ := hl
  unfold Builtin.SmallTypes.nextOf
  refine wpAny_bind (wpAny_callSpecial?_slot (name := Str.ofString "__next__") hit.typeIs slot_listiter_next
    (wpAny_call_entry slot_listiter_next hit.typeIs entry_listiter_next ?_ (args_listiter_next _)))
  show wpAny _ _ (field (.ref it) 0 >>= _) _ _ s
  refine wpAny_bind (wpAny_field ho hd (x := .ref l) rfl ?_)
  show wpAny _ _ (if (Value.ref l == Value.none) = true then _ else _) _ _ s
  rw [if_neg (show ¬ ((Value.ref l == Value.none) = true) from Bool.false_ne_true)]
  show wpAny _ _ (field (.ref it) 1 >>= _) _ _ s
  refine wpAny_bind (wpAny_field ho hd (x := .int i 0) rfl ?_)
  show wpAny _ _ (seqItems? (.ref l) >>= _) _ _ s
  refine wpAny_bind (wpAny_seqItems hol hdl ?_)
  simp only [Int.toNat_natCast, hx]
  refine wpAny_bind (wpAny_rule (wpAny_bind (wpAny_setField ho hd (by simp) ?_)))
  have hot2 : HotAt A.in1 x1 (s.heap.update it (Obj.mapFields (·.setIfInBounds 0 .none))) := HotAt.keep (A := A) hot fun o e => (Heap.get?_update_other _ _ (Ne.symm hne)).trans e
  refine wpAny_bind (stop_hot (s := { s with heap := _ }) hot2 fun h' e k he => ?_)
  exact hE _ _ (fun b o hb e => k b o ((Heap.get?_update_other _ _ (Ne.symm hb)).trans e)) he
theorem zip_next_endH {z TI TO i1 i2 l1 l2 x1 : Addr} {k1 k2 : Nat} {xs : Array Value} {a b : Value} {Q : Fin → Shared → Prop} (hot : HotAt A x1 s.heap) (hnz : x1 ≠ z) (hni : x1 ≠ i1) (D : ZipApart z TI TO i1 i2 l1 l2)
    (hz : IsZip s.heap z TI TO .none) (hTI : IsPair s.heap TI (.ref i1) (.ref i2)) (hTO : IsPair s.heap TO a b)
    (h1 : s.heap.IsListIter i1 l1 k1) (h2 : s.heap.IsListIter i2 l2 k2) (hl1 : s.heap.IsList l1 xs) (hend : xs[k1]? = none)
    (hE : ∀ h' e, (∀ c o, c ≠ z → c ≠ TO → c ≠ i1 → c ≠ i2 → s.heap.get? c = some o → h'.get? c = some o) → (∃ o, h'.get? e = some o ∧ o.cls = .type "StopIteration") → E (.ref e) { s with heap := h' }) :
    wpAny (model prog w) A (Builtin.«zip.__next__» ⟨[.ref z], []⟩) Q E s := by
  show wpAny _ _ (field (.ref z) 2 >>= _) _ _ _
  refine wpAny_bind (wpAny_field hz rfl (x := .bool false) rfl ?_)
  show wpAny _ _ (field (.ref z) 3 >>= _) _ _ _
  refine wpAny_bind (wpAny_field hz rfl (x := .ref TI) rfl ?_)
  refine wpAny_bind (wpAny_seqItems hTI rfl ?_)
  show wpAny _ _ (Builtin.SmallTypes.ownedTupleIsFree (.ref z) >>= _) _ _ _
  refine wpAny_bind ?_
  unfold Builtin.SmallTypes.ownedTupleIsFree
  refine wpAny_bind (wpAny_field hz rfl (x := .none) rfl (wpAny_pure ?_))
  simp only [if_true]
  refine wpAny_bind (wpAny_rule ?_)
  refine wpAny_bind (wpAny_field hz rfl (x := .ref TO) rfl ?_)
  refine wpAny_bind (wpAny_setField_rec hz (by simp) fun h₁ hz₁ hs₁ => ?_)
  replace hz₁ : IsZip h₁ z TI TO .ellipsis := hz₁
  refine wpAny_bind ?_
  simp only [List.zipIdx_cons, List.zipIdx_nil, List.forIn_cons, List.forIn_nil]
  refine wpAny_bind (wpAny_bind (wpAny_onRaise ?_))
  show wpAny _ _ (Builtin.SmallTypes.nextOf (.ref i1) >>= _) _ _ _
  have hot₁ : HotAt A x1 h₁ := HotAt.keep hot fun o e => hs₁.extBut x1 o hnz e
  refine wpAny_bind (nextOf_list_endH (s := { s with heap := h₁ }) hot₁ hni (h1.extBut hs₁.extBut D.i1z) (hl1.extBut hs₁.extBut D.l1z) hend fun h₂ e hs₂ he => ?_)
  obtain ⟨oe, hoe, hce⟩ := he
  have hz₂ : IsZip h₂ z TI TO .ellipsis := hs₂ _ _ D.i1z.symm hz₁
  have hez : e ≠ z := fun x => by subst x; rw [hz₂] at hoe; cases hoe; simp at hce
  exact wpAny_setField_rec hz₂ (by simp) fun h₃ _ hs₃ => hE h₃ e (fun c o c1 _ c3 _ x => hs₃.extBut _ _ c1 (hs₂ _ _ c3 (hs₁.extBut _ _ c1 x))) ⟨oe, hs₃.extBut _ _ hez hoe, hce⟩
theorem pyNext_zip_endH {z TI TO i1 i2 l1 l2 x1 : Addr} {k1 k2 : Nat} {xs : Array Value} {a b : Value} {Q : Option Value → Shared → Prop} (hot : HotAt A x1 s.heap) (hnz : x1 ≠ z) (hni : x1 ≠ i1) (D : ZipApart z TI TO i1 i2 l1 l2)
    (hz : IsZip s.heap z TI TO .none) (hTI : IsPair s.heap TI (.ref i1) (.ref i2)) (hTO : IsPair s.heap TO a b)
    (h1 : s.heap.IsListIter i1 l1 k1) (h2 : s.heap.IsListIter i2 l2 k2) (hl1 : s.heap.IsList l1 xs) (hend : xs[k1]? = none)
    (hQ : ∀ h', (∀ c o, c ≠ z → c ≠ TO → c ≠ i1 → c ≠ i2 → s.heap.get? c = some o → h'.get? c = some o) → Q none { s with heap := h' }) : wpAny (model prog w) A (pyNext (.ref z)) Q E s := by
  have hT : s.TypeIs (.ref z) "zip" := ⟨_, hz, rfl⟩
  unfold pyNext
  refine wpAny_bind (wpAny_attempt (wpAny_callSpecial?_slot (name := Str.ofString "__next__") hT F.slot_zip_next
    (wpAny_call_entry F.slot_zip_next hT F.entry_zip_next (zip_next_endH (A := A.in1) hot hnz hni D hz hTI hTO h1 h2 hl1 hend fun h' e hk he => ?_) (F.args_zip_next_1 _))))
  obtain ⟨o, ho, hc⟩ := he
  refine wpAny_bind (wpAny_isInstance (T := "StopIteration") (b := true) ⟨o, ho, hc⟩ isSubtype_stop ?_)
  exact wpAny_pure (hQ _ hk)
end
end DH

set_option Elab.async false
set_option linter.all false
set_option maxRecDepth 100000
set_option maxHeartbeats 4000000
/-! DH2: within an except suite: zip, a comprehension over it, unpacking of its pairs. -/
namespace DH
open PySem PySem.Spec PyProof.Rows L2 HotX L2H
/-! ### zip of two lists, the first the shorter or as long -/
theorem turn_zipH {P : Program} {w : World} {K : PySem.W.Frag} {elts : List Expr} {kk : Nat} {tpos : Pos} {a b z TI TO i1 i2 : Addr} (D : ZipApart z TI TO i1 i2 a b) :
    TurnH P w K (.Tuple elts kk tpos) ⟨(Itz K a b).go, (Itz K a b).yld, fun i H => ∃ xs : List V, SqL K H a xs ∧ xs.length ≤ i⟩ [z, TI, TO, i1, i2] z (fun i h => IsZip h z TI TO .none ∧ IsPair h TI (.ref i1) (.ref i2) ∧ (∃ x y, IsPair h TO x y) ∧ h.IsListIter i1 a i ∧ h.IsListIter i2 b i) where
  mem := (turn_zip (P := P) (w := w) (K := K) (elts := elts) (kk := kk) (tpos := tpos) D).mem
  obj := (turn_zip (P := P) (w := w) (K := K) (elts := elts) (kk := kk) (tpos := tpos) D).obj
  keep := (turn_zip (P := P) (w := w) (K := K) (elts := elts) (kk := kk) (tpos := tpos) D).keep
  item := by
    intro X hP hw hK hc i pins s σ H E I hf st hg
    subst hP hw hK
    obtain ⟨hz, hTI, ⟨x0, y0, hTO⟩, h1, h2⟩ := st
    obtain ⟨xs, ys, x, y, hqx, hqy, hx, hy⟩ := hg
    obtain ⟨its, rv, p, _⟩ := I.list hqx
    obtain ⟨its2, rv2, p2, _⟩ := I.list hqy
    obtain ⟨u, hu, ru⟩ := rv.get hx
    obtain ⟨u2, hu2, ru2⟩ := rv2.get hy
    have hzl : z < s.heap.objs.size := Heap.lt_size hz
    refine wpAny_pyNext_zip_item D hz hTI hTO h1 h2 p.isList p2.isList (x := u) (y := u2) (by simpa using hu) (by simpa using hu2) fun h' z' TO' h1' h2' hT hsz hk => ?_
    refine ⟨_, rfl, wpAny_letOwnedTupleGo_zip (s := { s with heap := h' }) z' fun h'' z'' sb => ?_⟩
    have hT2 : h''.get? s.heap.objs.size = some { cls := .type "tuple", data := .seq #[u, u2] } := (sb.2 _ (Nat.ne_of_gt hzl)).trans hT
    have new : ObjOk X.prog X.w (upd H s.heap.objs.size (.tup [x, y])) h'' s.heap.objs.size (.tup [x, y]) :=
      ⟨by show 2 ≤ sizeLine; decide, [u, u2], .cons ru (.cons ru2 .nil), ⟨_, hT2, rfl, _, rfl⟩⟩
    have I1 : Inv X pins σ (upd H s.heap.objs.size (.tup [x, y])) { s with heap := h'' } :=
      I.turnedNew (t' := s.toks) (ch := [z, TI, TO, i1, i2]) (fun c o hb q => (sb.2 c (fun q' => hb (by simp [q']))).trans (hk c o (fun q' => hb (by simp [q'])) (fun q' => hb (by simp [q'])) (fun q' => hb (by simp [q'])) (fun q' => hb (by simp [q'])) q)) hf (Nat.le_refl _) new
    refine ⟨.ref s.heap.objs.size, _, I1, rfl, ⟨_, x, y, rfl, I.hok.fresh (Nat.le_refl _), rfl, fun l hl => by rw [I.list_inj hl hqx]; exact hx, fun l hl => by rw [I.list_inj hl hqy]; exact hy⟩, ⟨z'', ?_, ⟨u, u2, ?_⟩, ?_, ?_⟩, fun c hcm => ?_⟩
    · exact (sb.2 _ D.TIz).trans (hk _ _ D.TIz D.TITO D.TIi1 D.TIi2 hTI)
    · exact (sb.2 _ D.TOz).trans TO'
    · exact h1'.at fun o q => (sb.2 _ D.i1z).trans q
    · exact h2'.at fun o q => (sb.2 _ D.i2z).trans q
    · have hlt : c < s.heap.objs.size := by
        have e' : c = z ∨ c = TI ∨ c = TO ∨ c = i1 ∨ c = i2 := by simpa using hcm
        rcases e' with q | q | q | q | q
        · rw [q]; exact hzl
        · rw [q]; exact Heap.lt_size hTI
        · rw [q]; exact Heap.lt_size hTO
        · rw [q]; obtain ⟨_, e1, _⟩ := h1; exact Heap.lt_size e1
        · rw [q]; obtain ⟨_, e2, _⟩ := h2; exact Heap.lt_size e2
      rw [upd_ne (Nat.ne_of_lt hlt)]
      exact (hf c hcm).1
  done := by
    intro X hP hw hK hc i pins s σ H E I hf st hg
    subst hP hw hK
    obtain ⟨hz, hTI, ⟨x0, y0, hTO⟩, h1, h2⟩ := st
    obtain ⟨xs, hqx, hend⟩ := hg
    obtain ⟨its, rv, p, _⟩ := I.list hqx
    have l1 := rv.length
    have he : its.toArray[i]? = none := by simp; omega
    obtain ⟨q, ⟨hh, v1, e1, c1⟩, hq⟩ := hc
    have Pq := I.pin q (List.mem_append_left _ hq)
    have nz : ∀ b ∈ [z, TI, TO, i1, i2], q.1 ≠ b := fun b hb e => by
      have f := (hf b hb).2.2.2.2.2 q (List.mem_append_left _ hq)
      exact f e
    exact pyNext_zip_endH (x1 := q.1) ⟨hh, q.2, v1, Pq.1, e1, c1⟩ (nz z (by simp)) (nz i1 (by simp)) D hz hTI hTO h1 h2 p.isList he fun h' hk => ⟨rfl, I.turnedL (t' := s.toks) (ch := [z, TI, TO, i1, i2]) (fun c o hb q =>
      hk c o (fun q' => hb (by simp [q'])) (fun q' => hb (by simp [q'])) (fun q' => hb (by simp [q'])) (fun q' => hb (by simp [q'])) q) hf⟩
  self := (turn_zip (P := P) (w := w) (K := K) (elts := elts) (kk := kk) (tpos := tpos) D).self
end DH

set_option Elab.async false
set_option linter.all false
set_option maxRecDepth 100000
set_option maxHeartbeats 4000000
/-! DH3: within an except suite: unpacking, zip walked, a list comprehension. -/
namespace DH
open PySem PySem.Spec PyProof.Rows L2 HotX L2H
section
variable {X : Cx}
theorem pg_tupH {es : List Expr} {k : Nat} {pos : Pos} {t : TGs} {n : Nat} (hc : HotC X) (h : PGs X es t) (hn : (assignEach es X.env).length = n) (hst : (assignEach es X.env).findIdx? (·.1) = none) : PG X (.Tuple es k pos) (gTup X.K n t) := by
  refine ⟨fun pins s σ H v u Q I r hw => ?_⟩
  obtain ⟨a, xs, e1, hq, hl, hw⟩ := hw
  subst e1
  cases r
  obtain ⟨its, rv, ht, hz⟩ := I.tuple hq
  obtain ⟨x1, hot⟩ := hc.at I
  refine assign_TupleH hot ht (by simp [hn, ← hl, rv.length]) hst fun h' hx => ?_
  have I1 : Inv X pins σ H { s with heap := h' } := I.kept (t' := s.toks) fun b o e => hx b o (Nat.ne_of_lt (Heap.lt_size e)) e
  exact h.run pins _ σ H xs _ Q I1 (by simpa using rv) hw
/-- zip of two lists, the first the shorter or as long -/
def ItzH (K : PySem.W.Frag) (a b : Addr) : It := ⟨(Itz K a b).go, (Itz K a b).yld, fun i H => ∃ xs : List V, SqL K H a xs ∧ xs.length ≤ i⟩
def iZipH (K : PySem.W.Frag) (ta : TA) : TI := fun σ H R => ta σ H fun vs H1 => ∃ a b xs ys, vs = [.ref a, .ref b] ∧ SqL K H1 a xs ∧ SqL K H1 b ys ∧ R (ItzH K a b) H1
theorem pi_zipH {e e2 : Expr} {ta : TA} {p pos tpos : Pos} {elts : List Expr} {kk : Nat} (hg : Gl X "zip") (hm : X.mg "zip" = none) (ha : PA X [e, e2] ta)
    (hs : starEach [e, e2] X.env = (false, eval e X.env) :: starEach [e2] X.env) (hpl : (backTo pos (starEach [e2] X.env)).any (·.1) = false) :
    PIH X (.Tuple elts kk tpos) (.Call (.Name "zip" p) [e, e2] [] pos) (iZipH X.K ta) := by
  refine ⟨fun pins s σ H R I h => ?_⟩
  refine Call_ (ld_blt I hg hm PyProof.Rows.boot_zip (PyProof.Rows.callWith_type1 (thn (ha.run pos pins s σ H _ I h) fun us s1 ⟨vs, H1, I1, r1, q1⟩ => ?_) hs hpl))
  obtain ⟨a, b, xs, ys, ex, hqx, hqy, q⟩ := q1
  subst ex
  cases r1 with
  | cons r rr =>
    cases rr with
    | cons r' rr =>
      cases rr
      cases r
      cases r'
      have fresh5 : ∀ c, c ∈ [s1.heap.objs.size + 4, s1.heap.objs.size + 2, s1.heap.objs.size + 3, s1.heap.objs.size, s1.heap.objs.size + 1] → FpOk X pins H1 c := fun c hcm => by
        have hle : s1.heap.objs.size ≤ c := by
          simp only [List.mem_cons, List.not_mem_nil, or_false] at hcm
          rcases hcm with z | z | z | z | z <;> omega
        exact I1.fpOk hle (I1.hok.fresh hle)
      obtain ⟨its, rv, p1, _⟩ := I1.list hqx
      obtain ⟨its2, rv2, p2, _⟩ := I1.list hqy
      refine call_zip_2 p1.isList p2.isList fun h' hz hTI hTO h1 h2 hsz hk => wpAny_pyIter_zip hz ?_
      have I2 : Inv X pins σ H1 { s1 with heap := h' } := I1.kept (t' := s1.toks) hk
      exact ⟨s1.heap.objs.size + 4, [s1.heap.objs.size + 4, s1.heap.objs.size + 2, s1.heap.objs.size + 3, s1.heap.objs.size, s1.heap.objs.size + 1], _, _, H1, rfl, I2, turn_zipH (PySem.W.ktu_apart s1.heap.objs.size a b p1.lt p2.lt), ⟨hz, hTI, ⟨_, _, hTO⟩, h1, h2⟩, fresh5, q⟩
/-- the context of a comprehension's block there: the handled exception stays pinned -/
abbrev blkH (X : Cx) (p : Addr × Obj) (s : Shared) (H : Hp) (scope : Scope) (cenv : Env) (fp : List Addr) : Cx := (X.blk s H scope cenv fp).tr [p] fun _ _ => False
theorem pe_lcH {p : Addr × Obj} {elt tg iter : Expr} {ifs : List Expr} {scope : Scope} {own : List (Str × Nat)} {pos : Pos} {wi : TI} {g : TG} {tt : TT} {te : TE} (hot : Hot1 X.A p) (hpn : p ∈ X.pn) (hN : X.N.Nodup) (hi : PIH X tg iter wi) (ok : BlkOk X.N X.env.scope scope own)
    (hg : ∀ (s : Shared) (H : Hp) (C : Addr) (cl : List (Str × Addr)) (fp : List Addr), PG (blkH X p s H scope (compEnvC scope cl C X.env) fp) tg g) (ht : ∀ (s : Shared) (H : Hp) (C : Addr) (cl : List (Str × Addr)) (fp : List Addr), PTs (blkH X p s H scope (compEnvC scope cl C X.env) fp) ifs tt)
    (he : ∀ (s : Shared) (H : Hp) (C : Addr) (cl : List (Str × Addr)) (fp : List Addr), PE (blkH X p s H scope (compEnvC scope cl C X.env) fp) elt te) (hs : ∀ x, foldedSetIterable iter X.env x = pure x) :
    PE X (.ListComp elt [⟨tg, iter, ifs, 0⟩] scope pos) (tLc wi g tt te (own.map (·.2))) := by
  refine ⟨fun pins s σ H Q I h => ?_⟩
  rw [eval_ListComp]
  have hfree : ∀ y ∈ scope.names, y.2 = .free → ∃ c, X.env.cells.lookup y.1 = some c := fun y hy e => by
    rcases ok.free y hy e with k | k
    · exact I.ok.has _ (.inl k)
    · exact I.ok.has _ (.inr k)
  refine wpAny_comprehension_free (use := none) rfl hs (closure_ok hfree) ok.kind (fun y hy e => by rw [ok.uniq y hy, e])
    (thn (hi.run pins s σ H _ I h) fun xv s1 hx => thn hx fun itv s2 h2 => ?_)
  obtain ⟨it, fp, tn, J, H2, e, I2, T, st2, f2, q⟩ := h2
  subst e
  refine wpAny_newObj_type (newEnv_comp ?_) (by show 0 ≤ sizeLine; decide)
  generalize hD : s2.heap.objs.size = D
  have hDn : H2 D = none := I2.hok.fresh (Nat.le_of_eq hD)
  obtain ⟨W, ⟨m0, w0⟩, turn⟩ := q D hDn
  generalize hs3 : ({ s2 with heap := s2.heap.push { cls := .type "list", data := .seq ([] : List Value).toArray } } : Shared) = s3
  have I3 : Inv X pins σ (upd H2 D (.lst [])) s3 := by
    rw [← hs3]
    refine I2.laid (t' := s2.toks) (fun b o e => Heap.get?_push_of_some _ e) (Nat.le_of_eq hD) ⟨Nat.zero_le _, [], 0, .nil, ?_⟩
    rw [← hD]
    exact Heap.get?_push_size _ rfl
  have h3 : s3.heap = s2.heap.push { cls := .type "list", data := .seq ([] : List Value).toArray } := by rw [← hs3]
  have f3 : ∀ b ∈ fp, FpOk X pins (upd H2 D (.lst [])) b ∧ b < s3.heap.objs.size := fun b hb => by
    obtain ⟨o, e, _⟩ := T.obj _ _ st2 b hb
    have hlt := Heap.lt_size e
    refine ⟨⟨?_, (f2 b hb).2⟩, by rw [h3, Heap.size_push]; exact Nat.lt_succ_of_lt hlt⟩
    rw [upd_ne (by rw [← hD]; exact Nat.ne_of_lt hlt)]
    exact (f2 b hb).1
  have st3 : tn 0 s3.heap := T.keep _ _ _ st2 fun b _ o e => by rw [h3]; exact Heap.get?_push_of_some _ e
  have pin3 := I3.pin p (List.mem_append_left _ hpn)
  have pfs : p.1 ∉ frs X.stack := fun z => (List.mem_cons.mp (I3.stkSub p.1 z)).elim pin3.2.2.1 pin3.2.2.2.1
  have I4 := block_start I3 ok hN f3
  generalize hcl : cellsFrom (s3.heap.objs.size + 1) scope.names (cloFrom X.env.cells scope.names []) = cl at I4
  have pg := hg s3 (upd H2 D (.lst [])) s3.heap.objs.size cl fp
  have pt := ht s3 (upd H2 D (.lst [])) s3.heap.objs.size cl fp
  have pe := he s3 (upd H2 D (.lst [])) s3.heap.objs.size cl fp
  show codeAny _ _ (.compStart (.ListComp elt [⟨tg, iter, ifs, 0⟩] scope pos) 0 (.ref it) (.ref D) (compEnvC scope cl s3.heap.objs.size X.env)) (compPost (model X.prog X.w) X.A X.xe none (EP X pins σ Q) (.ref D) s3.heap.objs.size) { s3 with heap := pushCells (s3.heap.push { cls := .type "dict", data := .dict #[] }) scope.names }
  have nfp : ∀ b ∈ fp, (upd H2 D (.lst [])) b = none := fun b hb => (f3 b hb).1.1
  generalize hce : compEnvC scope cl s3.heap.objs.size X.env = ce at I4 pg pt pe ⊢
  have cL : ce.locals = s3.heap.objs.size := by subst hce; rfl
  generalize hH3 : upd H2 D (.lst []) = H3 at I3 I4 pg pt pe w0 nfp f3 pin3
  have kp4 : ∀ b o, s3.heap.get? b = some o → (pushCells (s3.heap.push { cls := .type "dict", data := .dict #[] }) scope.names).get? b = some o := fun b o e => pushCells_keeps _ _ _ _ (Heap.get?_push_of_some _ e)
  generalize hs4 : ({ s3 with heap := pushCells (s3.heap.push { cls := .type "dict", data := .dict #[] }) scope.names } : Shared) = s4 at I4 ⊢
  have kp4' : ∀ b o, s3.heap.get? b = some o → s4.heap.get? b = some o := by rw [← hs4]; exact kp4
  have st4 : tn 0 s4.heap := T.keep _ _ _ st3 fun b _ o e => kp4' b o e
  have I5 : Inv (blkH X p s3 H3 scope ce fp) [] (wipe σ (own.map (·.2))) H3 s4 := by
    have z := (I4.pins_of (pins' := [p]) fun r hr => by
      have e : r = p := by simpa using hr
      subst e
      exact ⟨kp4' _ _ pin3.1, pin3.2.1, by rw [cL]; exact Nat.ne_of_lt (Heap.lt_size pin3.1), pfs, pin3.2.2.2.2⟩).toTry (fun _ _ => False)
    exact z
  have hc : HotC (blkH X p s3 H3 scope ce fp) := ⟨p, hot, List.mem_cons_self⟩
  have pne : ∀ b ∈ fp, p.1 ≠ b := fun b hb => (f3 b hb).1.2.2.2.2.2 p (List.mem_append_left _ hpn)
  have stat : ∀ {σ' : L2.St} {H' : Hp} {s' : Shared}, Inv (blkH X p s3 H3 scope ce fp) [] σ' H' s' → (∀ b ∈ fp, H' b = none) → ∀ b ∈ fp, FpOk (blkH X p s3 H3 scope ce fp) [] H' b := fun {σ' H' s'} I' hn b hb =>
    ⟨hn b hb, (I'.ok.exf b hb).1, I'.ok.exfs b hb, .inl hb, fun x c e => (I'.ok.exf b hb).2 x c e, fun r hr => by
      have e : r = p := by simpa using hr
      rw [e]
      exact pne b hb⟩
  have loop : codeAny (model X.prog X.w) X.A (.compLoop (.ListComp elt [⟨tg, iter, ifs, 0⟩] scope pos) 0 (.ref it) (.ref D) ce) (compPost (model X.prog X.w) X.A X.xe none (EP X pins σ Q) (.ref D) s3.heap.objs.size) s4 := by
    refine compLoop_any (fun n s' => ∃ i H', Inv (blkH X p s3 H3 scope ce fp) [] (wipe σ (own.map (·.2))) H' s' ∧ tn i s'.heap ∧ (∀ b ∈ fp, H' b = none) ∧ W i n H') ?_ m0 ⟨0, H3, I5, st4, nfp, w0⟩
    rintro n s5 ⟨i, H5, J5, st5, n5, w5⟩
    rcases turn i n H5 w5 with ⟨stop, qq⟩ | ⟨go, Nx, hNx, step⟩
    · have td := T.done (blkH X p s3 H3 scope ce fp) rfl rfl rfl hc i [] s5 _ H5 (fun _ _ => False) J5 (stat J5 n5) st5 stop
      refine thnF td fun r s6 ⟨hr, I6⟩ => ?_
      subst hr
      have I7 : Inv X pins σ H5 s6 := I3.call' (ch := fp) I6.os I6.base I6.hok I6.bare fun b hb => ⟨(f3 b hb).1.2.2.2.1, (f3 b hb).1.2.1, (f3 b hb).1.2.2.2.2.1, (f3 b hb).1.2.2.2.2.2⟩
      have nC : H5 s3.heap.objs.size = none := by
        have z : H5 ce.locals = none := I6.free
        rw [cL] at z
        exact z
      obtain ⟨m, hn, _⟩ := I6.loc
      have hn : s6.heap.Ns ce.locals m := hn
      rw [cL] at hn
      obtain ⟨f0, f1, f3', f4, f5, f6⟩ := I3.fpOk (H' := H5) (Nat.le_refl _) nC
      exact ⟨m, hn, fun h'' sb => ⟨.ref D, H5, I7.turned (t' := s6.toks) (fun b o hb e => (sb.2 b hb).trans e) f0 f1 f4 f5 f6, rfl, qq⟩⟩
    · have ti := T.item (blkH X p s3 H3 scope ce fp) rfl rfl rfl hc i [] s5 _ H5 (fun _ _ => False) J5 (stat J5 n5) st5 go
      refine thnF ti fun r s6 ⟨u, hr, h6⟩ => ?_
      subst hr
      refine thnF h6 fun _ s7 ⟨x, H7, I7, r7, y7, st7, n7⟩ => ?_
      have I7' := I7.pinned (stat I7 n7) (T.obj _ _ st7)
      refine thnF (pg.run _ s7 _ H7 x u _ I7' r7 (step x H7 y7)) fun _ s8 ⟨σ8, H8, I8, hw8, q8⟩ => ?_
      refine thnF (pt.run _ s8 σ8 H8 _ I8 q8) fun b s9 ⟨H9, I9, q9⟩ => ?_
      have fin : ∀ {s' : Shared} {H' : Hp}, Inv (blkH X p s3 H3 scope ce fp) ([] ++ pinsAt fp s7.heap) σ8 H' s' → Nx H' → ∃ m, m < n ∧ ∃ i H', Inv (blkH X p s3 H3 scope ce fp) [] (wipe σ (own.map (·.2))) H' s' ∧ tn i s'.heap ∧ (∀ b ∈ fp, H' b = none) ∧ W i m H' := fun {s' H'} I' nx => by
        obtain ⟨m', hm, w'⟩ := hNx H' nx
        have pin' : ∀ b ∈ fp, ∀ o, s7.heap.get? b = some o → s'.heap.get? b = some o ∧ H' b = none := fun b hb o e =>
          let z := I'.pin (b, o) (List.mem_append_right _ (List.mem_append_right _ (mem_pinsAt hb e)))
          ⟨z.1, z.2.1⟩
        have hl : (wipe σ (own.map (·.2))).length = σ8.length := by rw [← hw8, wipe_length]
        refine ⟨m', hm, i + 1, H', (I'.unpinned (pins := [])).weak hl (fun j v e => ?_), T.keep _ _ _ st7 fun b hb o e => (pin' b hb o e).1, fun b hb => ?_, w'⟩
        · rw [← hw8] at e
          exact (wipe_some e).1
        · obtain ⟨o, e, _⟩ := T.obj _ _ st7 b hb
          exact (pin' b hb o e).2
      cases b with
      | false =>
        simp only [Bool.false_eq_true, if_false] at q9 ⊢
        exact fin I9 q9
      | true =>
        simp only [if_true] at q9 ⊢
        refine thnF (pe.run _ s9 σ8 H9 _ I9 q9) fun z s10 ⟨yv, H10, I10, r10, acc, hD10, hz10, nx⟩ => ?_
        exact app_ok (X := blkH X p s3 H3 scope ce fp) I10 hD10 hz10 r10 fun s11 I11 => fin I11 nx
  exact codeAny_compStart_list loop (T.self X.A 0 _ _ _ st4 loop)
end
end DH

set_option Elab.async false
set_option linter.all false
set_option maxRecDepth 100000
set_option maxHeartbeats 4000000
/-! DH4: within an except suite: the data-level rules. -/
namespace DL
open PySem L2 PySem.Spec
theorem call_isP {X : Cx} {a D : Addr} {oe : Obj} (hp : (a, oe) ∈ X.pn) (C : ExcC X.K D) (hz : oe.cls = .ref D ∧ oe.dict = none) (hf : ∃ vs, oe.data = .fields vs) : CallR X (.builtin "isinstance") (rIsE X.K D a) := by
  intro pins s σ H xs us Q I r h
  obtain ⟨c, cv, b, rfl, hcv, e, q⟩ := h
  obtain ⟨u1, u2, rfl, rx, rt⟩ := vals2 r
  cases rx
  have ec := hcv _ rt
  subst ec
  have hget := (I.pin (a, oe) (List.mem_append_left _ hp)).1
  obtain ⟨vs, hv⟩ := hf
  have J : PySem.W.InstAt s.heap a oe D none := by
    obtain ⟨oc, od, oda, osl⟩ := oe
    obtain ⟨h1, h2⟩ := hz
    dsimp only at h1 h2 hv
    subst h1 h2 hv
    exact ⟨hget, rfl, rfl, trivial⟩
  exact PySem.W.kia_one (PySem.W.handS_kitx_exc C.hg C.hk C.hs C.hd C.ha C.hn C.ht C.hm) I.kIn J e (fun z => nomatch z) fun tk => ⟨.bl b, H, I.kept (t' := tk) fun _ _ z => z, rfl, q⟩
/-- the module's objects, and one more: the exception -/
def obX (G : Gs) (a : Addr) : Gs := ⟨G.K, G.T, fun i => if i = 999 then a else G.ob i, G.W, G.fld, G.P⟩
/-- isinstance(e, class): e the exception in slot 0 -/
def fIs (b : Bool) : Env → M D := fun (δ : List (Option D)) μ => match δ[0]? with
  | some (some (D.ob 999)) => some (.ok (.bl b), μ)
  | _ => none
section
variable {G : Gs} {W : WX} {X : Cx}
theorem de_isP {a D : Addr} {oe : Obj} {e cls : Str} {p p1 p2 pos : Pos} {b : Bool} {v : V} {cv : Value} (hp : (a, oe) ∈ X.pn) (C : ExcC X.K D) (hz : oe.cls = .ref D ∧ oe.dict = none) (hf : ∃ vs, oe.data = .fields vs) (hN : X.N[0]? = some e) (hv : Vis X.env.scope e) (hd : okN e = true)
    (hg : Gl X "isinstance") (hm : X.mg "isinstance" = none) (hc : PE X (.Name cls p2) (tC v)) (hr : ∀ u, RelV v u → u = cv) (k : PySem.W.kitOne X.K (.ref D) cv = some b) : DE (obX G a) W X (.Call (.Name "isinstance" p) [.Name e p1, .Name cls p2] [] pos) (fIs b) := by
  refine (pe_callB (call_isP hp C hz hf) hg hm PyProof.Rows.boot_isinstance (pa_cons (pe_var hN hv (okN_d hd).1 (okN_d hd).2) (pa_cons hc pa_nil rfl) rfl) (by decide) (by decide) rfl rfl).imp fun σ H Q ⟨w, δ, r, en, p⟩ => ?_
  unfold fIs at p
  split at p
  · rename_i hδ
    obtain ⟨u, hu, du⟩ := en.at_ 0 _ hδ
    have du : u = .ref a := by simpa [Dat, obX] using du
    subst du
    exact ⟨_, hu, v, cv, b, rfl, hr, k, p.ret r _ (by simp [Dat])⟩
  · exact p.elim
theorem dg_tupH {es : List Expr} {k : Nat} {pos : Pos} {ix : List Nat} {g : Mu → List D → Env → Option Env} {n : Nat} (hK : X.K = G.K) (hc : L2H.HotC X) (h : DGs G X es ix g) (hn : (assignEach es X.env).length = n) (hst : (assignEach es X.env).findIdx? (·.1) = none) : DG G X (.Tuple es k pos) ix (tgT n g) := by
  refine (DH.pg_tupH hc h hn hst).imp fun v σ H Q ⟨w, δ, d, δ', r, en, dv, gg, q⟩ => ?_
  unfold tgT at gg
  split at gg
  · rename_i ds
    split at gg
    · rename_i hl
      obtain ⟨a, vs, rfl, h1, h2⟩ := tup_dat dv
      exact ⟨a, vs, rfl, by rw [hK]; exact h1.sq, h2.length.trans hl, w, δ, ds, δ', r, en, h2, gg, q⟩
    · cases gg
  · cases gg
theorem itd_zipH {w : Wd} {H : Hp} {a b : Addr} {vs us : List V} {ds es : List D} (hle : ds.length ≤ es.length) (h : LstAt w H a vs) (hd : Dats G w H ds vs) (h' : LstAt w H b us) (hd' : Dats G w H es us) : ∃ S, S w H ∧ ItD G (DH.ItzH G.K a b) (zipD ds es) S := by
  obtain ⟨S, s0, hS⟩ := itd_zip h hd h' hd'
  refine ⟨fun w H => S w H ∧ LstAt w H a vs ∧ Dats G w H ds vs, ⟨s0, h, hd⟩, fun w w' H H' s e => ⟨hS.keep _ _ _ _ s.1 e, s.2.1.ext e, Dats.ext e _ _ s.2.2⟩, fun w H s => ⟨vs, s.2.1.sq, ?_⟩, fun w H i s hi => hS.go w H i s.1 hi, fun w H i x H' d s r hi y => hS.yld w H i x H' d s.1 r hi y⟩
  rw [zipD_len, s.2.2.length]
  omega
def itmZH : List D → Option (List D)
  | [.lst xs, .lst ys] => if xs.length ≤ ys.length then some (zipD xs ys) else none
  | _ => none
theorem di_zipH {e e2 : Expr} {fs : Env → M (List D)} {p pos tpos : Pos} {elts : List Expr} {kk : Nat} (hK : X.K = G.K) (hg : Gl X "zip") (hm : X.mg "zip" = none) (ha : DA G W X [e, e2] fs)
    (hs : starEach [e, e2] X.env = (false, eval e X.env) :: starEach [e2] X.env) (hpl : (backTo pos (starEach [e2] X.env)).any (·.1) = false) :
    L2H.PIH X (.Tuple elts kk tpos) (.Call (.Name "zip" p) [e, e2] [] pos) (iD G W (fItems itmZH fs)) := by
  refine ⟨fun pins s σ H R I q => (DH.pi_zipH hg hm ha hs hpl).run pins s σ H R I ?_⟩
  obtain ⟨w, δ, r, en, p⟩ := q
  refine tA_of r en p fun ds vs w1 H1 e1 r1 en1 dv p1 => ?_
  obtain ⟨es, g1, g2⟩ := p1.lift
  unfold itmZH at g1
  split at g1
  · rename_i xs ys
    split at g1
    · rename_i hle
      cases g1
      obtain ⟨v, u, rfl, d1, d2⟩ := dats2 dv
      simp only [Dat] at d1 d2
      obtain ⟨a, vs, rfl, h1, h2⟩ := d1
      obtain ⟨b, us, rfl, h3, h4⟩ := d2
      obtain ⟨S, s0, hS⟩ := itd_zipH hle h1 h2 h3 h4
      exact ⟨a, b, vs, us, rfl, by rw [hK]; exact h1.sq, by rw [hK]; exact h3.sq, by rw [hK]; exact g2 w1 H1 (Ext.refl _ _) r1 rfl _ S s0 hS⟩
    · cases g1
  · cases g1
theorem de_compH {p : Addr × Obj} {elt tg iter : Expr} {ifs : List Expr} {scope : Scope} {own : List (Str × Nat)} {pos : Pos} {fi : Env → M (List D)} {ix : List Nat} {g : GF} {ft : Env → M Bool} {fe : Env → M D} (hot : L2H.Hot1 X.A p) (hpn : p ∈ X.pn) (hN : X.N.Nodup) (hi : L2H.PIH X tg iter (iD G W fi)) (ok : BlkOk X.N X.env.scope scope own) (hix : ∀ i ∈ ix, i ∈ own.map (·.2))
    (hg : ∀ (s : Shared) (H : Hp) (C : Addr) (cl : List (Str × Addr)) (fp : List Addr), DG G (DH.blkH X p s H scope (compEnvC scope cl C X.env) fp) tg ix g) (ht : ∀ (s : Shared) (H : Hp) (C : Addr) (cl : List (Str × Addr)) (fp : List Addr), PTs (DH.blkH X p s H scope (compEnvC scope cl C X.env) fp) ifs (tT G W0 ft))
    (he : ∀ (s : Shared) (H : Hp) (C : Addr) (cl : List (Str × Addr)) (fp : List Addr), DE G W0 (DH.blkH X p s H scope (compEnvC scope cl C X.env) fp) elt fe) (hs : ∀ x, foldedSetIterable iter X.env x = pure x) :
    DE G W X (.ListComp elt [⟨tg, iter, ifs, 0⟩] scope pos) (fComp fi (own.map (·.2)) g ft fe) :=
  (DH.pe_lcH hot hpn hN hi ok hg ht he hs).imp fun σ H Q ⟨w, δ, r, en, p⟩ => comp_of _ hix r en p
end
end DL

set_option Elab.async false
set_option linter.all false
set_option maxRecDepth 100000
set_option maxHeartbeats 4000000
/-! DH5: a def called within an except suite, with the very exception that is handled. -/
namespace DH
open PySem PySem.Spec PyProof.Rows L2 HotX L2H
section
variable {P : Program} {w : World} {K : PySem.W.Frag} {mg : Str → Option Value} {base : Heap} {k : Nat} {f : Addr} {x : Str} {params : Arguments} {body : List Stmt} {scope : Scope} {fd : FuncData} {N ps : List Str}
theorem run_P {CX : CXT} {A : Around} {outer : List Env} {s : Shared} {H : Hp} {us : List Value} {vs : List V} {Q : VK} {E : XK} {p : Addr × Obj} (F : FunD K x x params body scope [] [] f fd) (S : FnScope N ps scope) (hot : Hot1 A p) (hpin : PinOk outer H s p) (hr : RoomH (k + 1) A) (e0 : Env0 P w K mg base A outer s H) (hb : BindsTo s fd ⟨us, []⟩ (ps.zip us)) (r : Vals vs us) (hl : vs.length = ps.length)
    (hbody : ∀ cdv : Value, RoomH k (A.deeper (envOfC x scope s.heap.objs.size f cdv)) → ∃ t, PSs (cxH CX P w K mg base N x scope f cdv A outer s H E p) body t ∧ t { nx := fun _ H' => Q .non H', rt := Q } (L2.start N vs) H) :
    codeAny (model P w) A (.call (.ref f) ⟨us, []⟩) (CR CX outer P w H s Q E) s := by
  obtain ⟨oc, od, dV, kV, doc, pm, an, cdv, ct, osl, rfl, lk, hcd, _, _⟩ := F.ex
  have KX : K.In s.heap := e0.mod.kin.keeps fun b o e => (e0.bs b o e).1
  have lim : s.heap.NoLimit := e0.mod.nolimit.keeps fun b o e => (e0.bs b o e).1
  have hkind : ∀ y ∈ ps.zip us, scope.names.lookup y.1 = some .local ∨ (scope.names.lookup y.1 = some .cell ∧ ((cellsFrom (s.heap.objs.size + 1) scope.names []).lookup y.1).isSome = true) := fun ⟨n, v⟩ hy =>
    (S.par n (List.of_mem_zip hy).1).elim .inl fun q => .inr ⟨q, PySem.W.cellsFrom_some _ _ _ (.inl q)⟩
  refine codeAny_call_function hr.depth (KX _ _ lk) rfl S.co S.gen rfl (PySem.W.codeRec_of KX hcd) (hb _ _ _ _ ?_)
  refine wpAny_newFunctionEnv_cells S.kind hkind fun env he s1 x => ?_
  subst he
  refine ⟨lim.keeps x.toInCall.keep, codeAny_func ?_⟩
  obtain ⟨t, ht, hq⟩ := hbody cdv (hr.deeper _)
  refine wpAny_mono (ht.run [] s1 (L2.start N vs) H _ (inv_startH S hpin e0 hl r x) hq) (fun fl s' hs => ?_) fun e s' hs => hs
  cases fl with
  | ret u =>
    obtain ⟨v, σ', H', J, rv, q⟩ := hs
    exact ⟨v, H', J.os, J.bare, J.base, J.hok, rv, q⟩
  | next =>
    obtain ⟨σ', H', J, q⟩ := hs
    exact ⟨V.non, H', J.os, J.bare, J.base, J.hok, rfl, q⟩
  | brk =>
    obtain ⟨_, _, _, q⟩ := hs
    exact q.elim
  | cont =>
    obtain ⟨_, _, _, q⟩ := hs
    exact q.elim
end
section
variable {X : Cx}
/-- x(e): e the exception that the suite holds -/
theorem pe_callP {CX : CXT} {k i : Nat} {f : Addr} {x e : Str} {params : Arguments} {body : List Stmt} {scope : Scope} {fd : FuncData} {N ps : List Str} {p : Addr × Obj} {p1 p2 pos : Pos} {sp : Hp → VK → Prop} {E : XK} (hot : Hot1 X.A p) (hp : p ∈ X.pn) (hr : RoomH (k + 1) X.A)
    (F : FunD X.K x x params body scope [] [] f fd) (S : FnScope N ps scope) (hl : ps.length = 1) (hb : Binds X.K fd ps []) (hx : ∀ σ, PassesAt CX X σ E)
    (hg : Gl X x) (hm : X.mg x = some (.ref f)) (hdb : (x == ("__debug__" : Str)) = false) (hN : X.N[i]? = some e) (hv : Vis X.env.scope e) (hd : (e == ("__debug__" : Str)) = false) (hcd : (e == ("__classdict__" : Str)) = false)
    (hbody : ∀ (A : Around) (outer : List Env) (s : Shared) (H : Hp) (Q : VK) (cdv : Value), Hot1 A p → RoomH k (A.deeper (envOfC x scope s.heap.objs.size f cdv)) → sp H Q → ∃ t, PSs (cxH CX X.prog X.w X.K X.mg X.base N x scope f cdv A outer s H E p) body t ∧ t { nx := fun _ H' => Q .non H', rt := Q } (L2.start N [.ref p.1]) H) :
    PE X (.Call (.Name x p1) [.Name e p2] [] pos) (fun σ H Q => σ[i]? = some (some (.ref p.1)) ∧ sp H Q) := by
  refine ⟨fun pins s σ H Q I h => ?_⟩
  obtain ⟨h0, h1⟩ := h
  refine wpAny_Call_Name_kw (ld_glob I hg hm ?_ hdb)
  refine PySem.W.callWith_K (h₀ := X.base) I.ok.mod.kin F.kp (thn ((pa_cons (pe_var (i := i) hN hv hd hcd) pa_nil rfl).run pos pins s σ H (fun vs H1 => vs = [.ref p.1] ∧ sp H1 Q) I ⟨_, h0, rfl, h1⟩) fun us s1 ⟨vs, H1, I1, r, q⟩ => ⟨I1.kIn, ?_⟩) rfl rfl
  obtain ⟨rfl, q⟩ := q
  have hlu : us.length = ps.length := by rw [← r.length, hl]; rfl
  have b := hb s1 us I1.kIn (by rw [List.append_nil]; exact hlu)
  rw [List.append_nil] at b
  have P1 := I1.pin p (List.mem_append_left _ hp)
  have hpin : PinOk X.stack H1 s1 p := ⟨P1.1, P1.2.1, fun hm => (List.mem_cons.mp (I1.stkSub p.1 hm)).elim P1.2.2.1 P1.2.2.2.1, P1.2.2.2.2⟩
  refine wpAny_call (codeAny_mono (run_P (CX := CX) (E := E) (Q := Q) F S hot hpin hr I1.env0 b r hl.symm fun cdv hr' => hbody _ _ _ _ _ cdv hot hr' q) fun r s' hq => ?_)
  cases r with
  | error e => exact hx σ pins H1 s1 e s' I1 hq
  | ok fl =>
    cases fl with
    | ret u => exact I1.after hq
    | next => exact False.elim hq
    | brk => exact False.elim hq
    | cont => exact False.elim hq
end
end DH

set_option Elab.async false
set_option linter.all false
set_option maxRecDepth 100000
set_option maxHeartbeats 4000000
/-! DH6: what is told of an error: a list of isinstance's, zipped with the labels. -/
namespace DL
open PySem L2 PySem.Spec
def isiB (b : Bk) (e cls : Str) : Expr → Bool
  | .Call (.Name f _) [.Name y _, .Name c _] [] _ => f == ("isinstance" : Str) && glB b f && y == e && visB b e && okN e && c == cls
  | _ => false
def isisB (b : Bk) (e : Str) : List Str → List Expr → Bool
  | [], [] => true
  | c :: cl, x :: es => isiB b e c x && isisB b e cl es
  | _, _ => false
def fIsL : List Bool → Env → M (List D)
  | [] => fNil
  | b :: bs => fCons (fIs b) (fIsL bs)
def nmF (own : List Nat) (bs : List Bool) (lab : List Nat) : Env → SM :=
  fSeq (fAsg (fLst (fIsL bs)) (tgN 1)) (fSeq (fAsg (fC (.str lab)) (tgN 2)) (fSeq (fRet (fMx true (liftM gJoin) (fC (.str [32])) (fCons (fComp (fItems itmZH (fCons (fMx true (liftM gSplit) (fVar 2) (fCons (fC (.str [32])) fNil)) (fCons (fVar 1) fNil))) own
    (tgT 2 (tgsC (tgN 3) (tgsC (tgN 4) tgsN))) (fTru (fVar 4)) (fVar 3)) fNil))) nxt))
def nmB (b : Bk) (cl : List Str) (lab : List Nat) (own : List Nat) : List Stmt → Bool
  | [.Assign [.Name n1 _] (.List es _) _, .Assign [.Name n2 _] (.Constant (.str l) _ _) _, .Return (some (.Call (.Attribute (.Constant (.str sp) _ _) jn pj) [.ListComp (.Name w0 _) [⟨.Tuple [.Name w1 _, .Name g1 _] _ _, .Call (.Name zp _) [.Call (.Attribute (.Name n3 _) sl ps) [.Constant (.str sp2) _ _] [] pc, .Name n4 _] [] _, [.Name g2 _], 0⟩] sc2 _] [] pcall)) _] =>
    (match b.N with
    | [e, y1, y2, y3, y4] => isisB b e cl es && n1 == y1 && n2 == y2 && w1 == y3 && g1 == y4
    | _ => false) && b.N.length == 5 && decide b.N.Nodup && l.cps.toList == lab && okS lab && sp.cps.toList == [32] && sp2.cps.toList == [32] && jn == ("join" : Str) && sl == ("split" : Str) && zp == ("zip" : Str) && glB b zp && pj.endLine == pcall.line && ps.endLine == pc.line &&
    n3 == n2 && n4 == n1 && w0 == w1 && g2 == g1 && locB b n1 && locB b n2 && visB b n1 && visB b n2 && okN n1 && okN n2 && okN w1 && okN g1 && blkB b sc2 && own == (ownOf b.N sc2).map (·.2) && own.contains 3 && own.contains 4 && lcB (b.in sc2) w1 && lcB (b.in sc2) g1
  | _ => false
section
variable {G : Gs} {W : WX} {X : Cx}
/-- what is asked of the context, calm or not -/
structure XB (G : Gs) (b : Bk) (X : Cx) : Prop where
  hK : X.K = G.K
  hN : X.N = b.N
  sc : X.env.scope = b.sc
  fb : X.fn = b.fb
  bl : ∀ y ∈ bltN, X.mg y = none
theorem XB.gl {b : Bk} (o : XB G b X) {y : Str} (h : glB b y = true) : Gl X y := by
  unfold glB at h
  show X.env.scope.names.lookup y = _
  rw [o.sc]
  exact eq_of_beq h
theorem XB.vis {b : Bk} (o : XB G b X) {y : Str} (h : visB b y = true) : Vis X.env.scope y := by
  unfold visB at h
  unfold Vis
  rw [o.sc]
  split at h <;> simp_all
theorem XB.nm {b : Bk} (o : XB G b X) (nd : b.N.Nodup) {i : Nat} {y : Str} {p : Pos} (hi : b.N[i]? = some y) (h : locB b y = true) : DG G X (.Name y p) [i] (tgN i) := by
  unfold locB at h
  refine dg_name (by rw [o.hN]; exact nd) (by rw [o.hN]; exact hi) ?_ ?_
  · unfold L2.Loc
    rw [o.sc]
    split at h <;> simp_all
  · rw [o.sc, o.fb]
    split at h <;> simp_all
theorem XB.var {b : Bk} (o : XB G b X) {i : Nat} {y : Str} {p : Pos} (hi : b.N[i]? = some y) (hv : visB b y = true) (hd : okN y = true) : DE G W X (.Name y p) (fVar i) :=
  de_var (by rw [o.hN]; exact hi) (o.vis hv) (okN_d hd).1 (okN_d hd).2
theorem lc_loc {b : Bk} {y : Str} (h : lcB b y = true) : locB b y = true ∧ visB b y = true := by
  unfold lcB at h
  have h := eq_of_beq h
  unfold locB visB
  rw [h]
  exact ⟨rfl, rfl⟩
theorem isis_ok {b : Bk} {a D : Addr} {oe : Obj} {e : Str} (o : XB G b X) (hp : (a, oe) ∈ X.pn) (C : ExcC X.K D) (hz : oe.cls = .ref D ∧ oe.dict = none) (hf : ∃ vs, oe.data = .fields vs) (hN : b.N[0]? = some e) :
    ∀ (cl : List Str) (bs : List Bool) (es : List Expr), (∀ (i : Nat) (c : Str), cl[i]? = some c → ∃ (v : V) (cv : Value) (bb : Bool), (∀ p2, PE X (.Name c p2) (tC v)) ∧ (∀ u, RelV v u → u = cv) ∧ PySem.W.kitOne X.K (.ref D) cv = some bb ∧ bs[i]? = some bb) → cl.length = bs.length →
      isisB b e cl es = true → DA (obX G a) W X es (fIsL bs)
  | [], [], es, _, _, h => by
    cases es with
    | nil => exact da_nil
    | cons x es => simp [isisB] at h
  | [], b0 :: bs, es, _, hl, h => by simp at hl
  | c :: cl, [], es, _, hl, h => by simp at hl
  | c :: cl, b0 :: bs, es, hc, hl, h => by
    cases es with
    | nil => simp [isisB] at h
    | cons x es =>
      simp only [isisB, Bool.and_eq_true] at h
      obtain ⟨h1, h2⟩ := h
      have ih := isis_ok o hp C hz hf hN cl bs es (fun i c' q => hc (i + 1) c' (by simpa using q)) (by simpa using hl) h2
      obtain ⟨v, cv, bb, k1, k2, k3, k4⟩ := hc 0 c rfl
      simp only [List.getElem?_cons_zero, Option.some.injEq] at k4
      subst k4
      unfold isiB at h1
      split at h1
      · rename_i f p0 y p1 c' p2 p3
        simp only [Bool.and_eq_true] at h1
        obtain ⟨⟨⟨⟨⟨g1, g2⟩, g3⟩, g4⟩, g5⟩, g6⟩ := h1
        have e1 := eq_of_beq g1
        have e2 := eq_of_beq g3
        have e3 := eq_of_beq g6
        subst e1 e2 e3
        exact da_cons (de_isP hp C hz hf (by rw [o.hN]; exact hN) (o.vis g4) g5 (o.gl g2) (o.bl _ (by decide)) (k1 _) k2 k3) ih rfl
      · cases h1
theorem blk_okB {b : Bk} {scope : Scope} (hN : X.N = b.N) (hs : X.env.scope = b.sc) (h : blkB b scope = true) : BlkOk X.N X.env.scope scope (ownOf b.N scope) := by
  unfold blkB at h
  simp only [Bool.and_eq_true, List.all_eq_true] at h
  obtain ⟨h1, h2⟩ := h
  refine ⟨eq_of_beq h1, fun y hy => eq_of_beq (h2 y hy).1, fun p hp => ?_, fun y hy e => ?_, fun y hy e => ?_⟩
  · unfold ownOf at hp
    rw [List.mem_filterMap] at hp
    obtain ⟨y, hy, e⟩ := hp
    split at e
    · cases q : List.idxOf? y.1 b.N with
      | none =>
        rw [q] at e
        cases e
      | some i =>
        rw [q] at e
        cases e
        rw [hN]
        rw [List.idxOf?_eq_some_iff] at q
        obtain ⟨hh, h1, _⟩ := q
        exact List.getElem?_eq_some_iff.mpr ⟨hh, by simpa using h1⟩
    · cases e
  · have := (h2 y hy).2
    rw [hs]
    simp only [Bool.or_eq_true] at this
    rcases this with (z | z) | z
    · rw [e] at z
      simp at z
    · exact .inl (eq_of_beq z)
    · exact .inr (eq_of_beq z)
  · rw [hN]
    by_cases hm : y.1 ∈ b.N
    · left
      cases q : List.idxOf? y.1 b.N with
      | none =>
        rw [List.idxOf?_eq_none_iff] at q
        exact absurd hm (by simpa using q)
      | some i =>
        refine List.mem_map.mpr ⟨(y.1, i), ?_, rfl⟩
        unfold ownOf
        rw [List.mem_filterMap]
        refine ⟨y, hy, ?_⟩
        rw [if_pos, q]
        · rfl
        · rcases e with e | e <;> simp [e]
    · exact .inr hm
theorem nm_ds {b : Bk} {a D : Addr} {oe : Obj} {e : Str} {cl : List Str} {bs : List Bool} {lab own : List Nat} {body : List Stmt} (o : XB G b X) (hot : L2H.Hot1 X.A (a, oe)) (hp : (a, oe) ∈ X.pn) (C : ExcC X.K D) (hz : oe.cls = .ref D ∧ oe.dict = none) (hf : ∃ vs, oe.data = .fields vs)
    (hc : ∀ (i : Nat) (c : Str), cl[i]? = some c → ∃ (v : V) (cv : Value) (bb : Bool), (∀ p2, PE X (.Name c p2) (tC v)) ∧ (∀ u, RelV v u → u = cv) ∧ PySem.W.kitOne X.K (.ref D) cv = some bb ∧ bs[i]? = some bb) (hl : cl.length = bs.length) (h : nmB b cl lab own body = true) :
    DSs (obX G a) W X body (nmF own bs lab) := by
  unfold nmB at h
  split at h
  · rename_i n1 _ es _ _ n2 _ l _ _ _ sp _ _ jn pj w0 _ w1 _ g1 _ _ _ zp _ n3 _ sl ps sp2 _ _ pc n4 _ _ g2 _ sc2 _ pcall _
    simp only [Bool.and_eq_true, decide_eq_true_eq] at h
    obtain ⟨⟨⟨⟨⟨⟨⟨⟨⟨⟨⟨⟨⟨⟨⟨⟨⟨⟨⟨⟨⟨⟨⟨⟨⟨⟨⟨⟨⟨⟨h0, _⟩, nd⟩, a1⟩, a2⟩, a3⟩, a4⟩, a5⟩, a6⟩, a7⟩, a8⟩, a9⟩, b1⟩, b2⟩, b3⟩, b4⟩, b5⟩, b6⟩, b7⟩, b8⟩, b9⟩, c1⟩, c2⟩, c3⟩, c4⟩, c5⟩, c6⟩, c7⟩, c8⟩, c9⟩, d1⟩ := h
    split at h0
    · rename_i e y1 y2 y3 y4 hbN
      simp only [Bool.and_eq_true] at h0
      obtain ⟨⟨⟨⟨i1, i2⟩, i3⟩, i4⟩, i5⟩ := h0
      have z := eq_of_beq i2; subst z
      have z := eq_of_beq i3; subst z
      have z := eq_of_beq i4; subst z
      have z := eq_of_beq i5; subst z
      have z := eq_of_beq b2; subst z
      have z := eq_of_beq b3; subst z
      have z := eq_of_beq b4; subst z
      have z := eq_of_beq b5; subst z
      have z := eq_of_beq a5; subst z
      have z := eq_of_beq a6; subst z
      have z := eq_of_beq a7; subst z
      have z := eq_of_beq c6; subst z
      have a1 := eq_of_beq a1
      have a3 := eq_of_beq a3
      have a4 := eq_of_beq a4
      have o' : XB (obX G a) b X := ⟨o.hK, o.hN, o.sc, o.fb, o.bl⟩
      have N0 : b.N[0]? = some e := by rw [hbN]; rfl
      have N1 : b.N[1]? = some n4 := by rw [hbN]; rfl
      have N2 : b.N[2]? = some n3 := by rw [hbN]; rfl
      have N3 : b.N[3]? = some w0 := by rw [hbN]; rfl
      have N4 : b.N[4]? = some g2 := by rw [hbN]; rfl
      have hes := isis_ok (W := W) o hp C hz hf N0 cl bs es hc hl i1
      have blk : ∀ (s : Shared) (H : Hp) (C : Addr) (cc : List (Str × Addr)) (fp : List Addr), XB (obX G a) (b.in sc2) (DH.blkH X (a, oe) s H sc2 (compEnvC sc2 cc C X.env) fp) := fun s H C cc fp => ⟨o.hK, o.hN, by
        show relabel sc2 X.env = relS sc2 b.sc
        unfold relabel relS PySem.Env.kindOf
        rw [o.sc], rfl, o.bl⟩
      have hok : BlkOk X.N X.env.scope sc2 (ownOf b.N sc2) := blk_okB o.hN o.sc c5
      refine dss_cons (ds_asg (de_lst hes) (o'.nm nd N1 b6) (sole_no rfl _ _) (st_no rfl _) rfl) (dss_cons (ds_asg (de_str a1 a2) (o'.nm nd N2 b7) (sole_no rfl _ _) (st_no rfl _) rfl) (dss_cons (ds_ret ?_) dss_nil))
      refine de_mx (T := true) o.hK F.plainAttrs_str F.slot_str_join F.type_str_join mt_joinG.lift (de_str a3 (by decide)) (da_cons ?_ da_nil rfl) rfl (few_ok rfl (by simp)) a9 rfl rfl
      refine de_compH hot hp (by rw [o.hN]; exact nd) (di_zipH o.hK (o.gl a8) (o.bl _ (by decide)) (da_cons (de_mx (T := true) o.hK F.plainAttrs_str F.slot_str_split F.type_str_split mt_splitG.lift (o'.var N2 b9 c2) (da_cons (de_str a4 (by decide)) da_nil rfl) rfl (few_ok rfl (by simp)) b1 rfl rfl) (da_cons (o'.var N1 b8 c1) da_nil rfl) rfl) rfl rfl) hok
        (ix := [3] ++ ([4] ++ [])) (fun i hi => ?_) (fun s H C cc fp => ?_) (fun s H C cc fp => dts_one ?_) (fun s H C cc fp => (blk s H C cc fp).var N3 (lc_loc c9).2 c3) (set_iter rfl X.env)
      · have hi : i = 3 ∨ i = 4 := by simpa using hi
        rcases hi with rfl | rfl
        · simpa using c7
        · simpa using c8
      · refine dg_tupH (X := DH.blkH X (a, oe) s H sc2 (compEnvC sc2 cc C X.env) fp) o.hK ⟨(a, oe), hot, List.mem_cons_self⟩ (dgs_cons ((blk s H C cc fp).nm nd N3 (lc_loc c9).1) (dgs_cons ((blk s H C cc fp).nm nd N4 (lc_loc d1).1) dgs_nil rfl) rfl) rfl rfl
      · exact dt_tru o.hK ((blk s H C cc fp).var N4 (lc_loc d1).2 c4) (true_tst rfl _)
    · cases h0
  · cases h
end
end DL

set_option Elab.async false
set_option linter.all false
set_option maxRecDepth 100000
set_option maxHeartbeats 4000000
/-! DH7: a def that calls a lambda, exceptions with context None. -/
namespace DH
open PySem PySem.Spec PyProof.Rows L2 LamX
/-- the lambda's context, with the wish of L2N -/
def lamN (X : Cx) (A : Around) (outer : List Env) (s : Shared) (H : Hp) (E : XK) (scope : Scope) (f c' : Addr) : Cx :=
  (lamCx X A outer s H E scope f c').tr [] fun e s' => wpAny (model X.prog X.w) (A.deeper (lamEnv X scope s.heap.objs.size f c')) (leaving (lamEnv X scope s.heap.objs.size f c') e) (fun _ s'' => L2N.CX X.prog X.w outer H s E e s'') (fun e' s'' => L2N.CX X.prog X.w outer H s E e' s'') s'
section
variable {X : Cx} {pins : List (Addr × Obj)} {σ : L2.St} {H : Hp} {s : Shared}
theorem pe_actN {CXg : CXT} {Eg : XK} {Ng : List Str} {qg : Str} {sg : Scope} {g f c' : Addr} {cdg pm ctv : Value} {params : Arguments} {body : Expr} {scope : Scope} {k i : Nat} {a : Str} {pn : List (Addr × Obj)} {xe : Value → Shared → Prop} {W : WX} {E : XK} {tb : TE} {p1 p2 : Pos}
    (I : Inv X pins σ H s) (L : LamS X.env.scope scope) (hf : s.heap.get? f = some (PySem.W.kla_obj "<lambda>" (X.env.qual ++ "<lambda>") params body scope (cloFrom X.env.cells scope.names []) pm c' ctv)) (hfn : H f = none) (hfr : f ∉ frs X.stack)
    (hbind : bindArgs (PySem.W.kla_fn "<lambda>" (X.env.qual ++ "<lambda>") params body scope (cloFrom X.env.cells scope.names []) pm (.ref c') ctv) ⟨[], []⟩ = pure [])
    (tk : L2N.Takes ((cxOf CXg X.prog X.w X.K X.mg X.base Ng qg sg g cdg X.A X.stack s H Eg).tr pn xe) W) (hW : ∀ cls d σ' H', E cls d H' → W cls d σ' H') (hr : Room (k + 1) (X.A.deeper (envOfC qg sg s.heap.objs.size g cdg)))
    (hbody : ∀ (A : Around) (outer : List Env) (s : Shared) (H : Hp), Room k (A.deeper (lamEnv X scope s.heap.objs.size f c')) → PE (lamN X A outer s H E scope f c') body tb)
    (hN : Ng[i]? = some a) (hv : Vis sg a) (hd : (a == ("__debug__" : Str)) = false) (hcd : (a == ("__classdict__" : Str)) = false) :
    PE ((cxOf CXg X.prog X.w X.K X.mg X.base Ng qg sg g cdg X.A X.stack s H Eg).tr pn xe) (.Call (.Name a p1) [] [] p2)
      (fun σZ HZ Q => σZ[i]? = some (some (.ref f)) ∧ HZ c' = some (CodeO c' (X.env.qual ++ "<lambda>")) ∧ tb σ HZ Q) := by
  refine ⟨fun pinsZ sZ σZ HZ Q IZ h => ?_⟩
  obtain ⟨hs, hc, ht⟩ := h
  refine wpAny_Call_Name_kw (thn ((pe_var (pos := p1) (i := i) hN hv hd hcd).run pinsZ sZ σZ HZ (fun v H1 => v = .ref f ∧ H1 = HZ) IZ ⟨.ref f, hs, rfl, rfl⟩) fun u s1 ⟨v, H1, I1, r1, q1⟩ => ?_)
  obtain ⟨ev, eH⟩ := q1
  subst ev
  rw [eH] at I1
  obtain rfl : u = Value.ref f := r1
  have of1 := I1.base.keep f _ hf hfn hfr (fun z => nomatch (show f ∈ ([] : List Addr) from z))
  refine PySem.W.callWith_F0 ⟨_, _, _, _, of1⟩ ?_
  have un : Un (frs X.stack) [] H HZ s.heap s1.heap := I1.base
  obtain ⟨⟨oc, vs, t, hoc, hdc, hvc⟩, _, _⟩ := I1.hok c' _ hc
  have rc : codeAny (model X.prog X.w) (X.A.deeper (envOfC qg sg s.heap.objs.size g cdg)) (.call (.ref f) ⟨[], []⟩) (CR (L2N.CX X.prog X.w) (envOfC qg sg s.heap.objs.size g cdg :: X.stack) X.prog X.w HZ s1 Q E) s1 := by
    refine PySem.W.kla_callFunE hr.depth of1 rfl L.co L.gen rfl ⟨c', oc, vs, t, rfl, hoc, hdc, hvc⟩ ?_
    rw [hbind]
    refine wpAny_pure (wpAny_newFunctionEnv (fun y hy => (L.own y hy).2) (fun y hy => absurd hy (by simp)) (fun h₁ hns hsb => ⟨I1.nolimit.fresh _ hsb, ?_⟩) L.kind)
    show codeAny _ _ (.expr body (lamEnv X scope s1.heap.objs.size f c')) _ _
    have kp : ∀ b o, s1.heap.get? b = some o → h₁.get? b = some o := fun b o e => hsb.extBut b o (Nat.ne_of_lt (Heap.lt_size e)) (Heap.get?_push_of_some _ e)
    have J := (lam_start2 (A := X.A.deeper (envOfC qg sg s.heap.objs.size g cdg)) (outer := envOfC qg sg s.heap.objs.size g cdg :: X.stack) (s1 := s1) (HZ := HZ) (E := E) (f := f) (c' := c') (h₁ := h₁) (tk := s1.toks + ([] : List (Str × Value)).length) I L I1.env0 hr.hd un hns kp).toTry
      (fun e s' => wpAny (model X.prog X.w) ((X.A.deeper (envOfC qg sg s.heap.objs.size g cdg)).deeper (lamEnv X scope s1.heap.objs.size f c')) (leaving (lamEnv X scope s1.heap.objs.size f c') e) (fun _ s'' => L2N.CX X.prog X.w (envOfC qg sg s.heap.objs.size g cdg :: X.stack) HZ s1 E e s'') (fun e' s'' => L2N.CX X.prog X.w (envOfC qg sg s.heap.objs.size g cdg :: X.stack) HZ s1 E e' s'') s')
    refine PySem.W.kla_codeExpr (wpAny_mono ((hbody _ _ s1 HZ (hr.deeper _)).run [] _ _ HZ Q J ht) (fun v s' hq => ?_) fun e s' hq => hq)
    obtain ⟨w', H', J', rv, q⟩ := hq
    exact ⟨w', H', J'.os, J'.bare, J'.base, J'.hok, rv, q⟩
  have hx : Passes (L2N.CX X.prog X.w) ((cxOf CXg X.prog X.w X.K X.mg X.base Ng qg sg g cdg X.A X.stack s H Eg).tr pn xe) E := L2N.passes_call tk hW
  refine wpAny_call (codeAny_mono rc fun r s' hq => ?_)
  cases r with
  | error e => exact hx pinsZ σZ HZ s1 e s' I1 hq
  | ok fl =>
    cases fl with
    | ret u => exact I1.after hq
    | next => exact False.elim hq
    | brk => exact False.elim hq
    | cont => exact False.elim hq
/-- a def that calls what it got -/
def GivesN (X : Cx) (Ng : List Str) (x : Str) (sg : Scope) (g : Addr) (cdg : Value) (bg : List Stmt) (a : Str) (q : Str) (k : Nat) (TT : (XK → Hp → VK → Prop) → Hp → VK → Prop) : Prop :=
  ∀ (f c' : Addr) (s : Shared) (H : Hp) (Q : VK) (tl : XK → Hp → VK → Prop), Room (k + 1) (X.A.deeper (envOfC x sg s.heap.objs.size g cdg)) →
    (∀ (W : WX) (pn : List (Addr × Obj)) (xe : Value → Shared → Prop) (E : XK) (p1 p2 : Pos), L2N.Takes ((cxOf C8.CX0 X.prog X.w X.K X.mg X.base Ng x sg g cdg X.A X.stack s H C8.E0).tr pn xe) W → (∀ cls d σ' H', E cls d H' → W cls d σ' H') →
      PE ((cxOf C8.CX0 X.prog X.w X.K X.mg X.base Ng x sg g cdg X.A X.stack s H C8.E0).tr pn xe) (.Call (.Name a p1) [] [] p2) (fun σZ HZ Q => σZ[0]? = some (some (.ref f)) ∧ HZ c' = some (CodeO c' q) ∧ tl E HZ Q)) →
    H c' = some (CodeO c' q) → TT tl H Q →
    ∃ t, PSs (cxOf C8.CX0 X.prog X.w X.K X.mg X.base Ng x sg g cdg X.A X.stack s H C8.E0).nox bg t ∧ t { nx := fun _ H' => Q .non H', rt := Q } (L2.start Ng [.ref f]) H
theorem pe_lamcallN {T : List (Addr × Str)} {TT : (XK → Hp → VK → Prop) → Hp → VK → Prop} {x a : Str} {g c P : Addr} {k : Nat} {pg : Arguments} {bg : List Stmt} {sg : Scope} {dV kV doc pm cdv ct oc : Value} {an od : Option Addr} {osl : Array (Option Value)} {Ng : List Str}
    {params : Arguments} {body : Expr} {scope : Scope} {t : XK → TE} {p lpos pos : Pos} (hg : Gl X x) (hm : X.mg x = some (.ref g)) (hk : PySem.W.keepIn X.K (.ref g) = true)
    (lk : X.K.lookup g = some ⟨oc, od, .func (PySem.W.fnOf x x pg bg sg dV kV doc pm an cdv ct), osl⟩) (hcg : PySem.W.codeIn X.K cdv x = true) (hb : L2.Binds X.K (PySem.W.fnOf x x pg bg sg dV kV doc pm an cdv ct) [a] []) (Sg : FnScope Ng [a] sg) (hNg : Ng[0]? = some a) (hva : Vis sg a)
    (hG : GivesN X Ng x sg g cdv bg a (X.env.qual ++ "<lambda>") k TT)
    (TB : TabB X.base X.mg c P) (hcode : X.env.code = .ref c) (hmT : (P, X.env.qual ++ "<lambda>") ∈ T) (hu : ∀ p ∈ T, p.1 = P → p.2 = X.env.qual ++ "<lambda>") (hr : Room (k + 2) X.A) (L : LamS X.env.scope scope) (hdef : defaultsOf params X.env = ([], []))
    (hbind : ∀ (q : Str) (cl : List (Str × Addr)) (pm cv ctv : Value), bindArgs (PySem.W.kla_fn "<lambda>" q params body scope cl pm cv ctv) ⟨[], []⟩ = pure [])
    (hbody : ∀ (A : Around) (outer : List Env) (s : Shared) (H : Hp) (E : XK) (f c' : Addr), Room k (A.deeper (lamEnv X scope s.heap.objs.size f c')) → PE (lamN X A outer s H E scope f c') body (t E))
    (hdb : (x == ("__debug__" : Str)) = false) (hd : (a == ("__debug__" : Str)) = false) (hcd : (a == ("__classdict__" : Str)) = false) :
    PE X (.Call (.Name x p) [.Lambda params body scope lpos] [] pos) (tLam T TT t) := by
  refine ⟨fun pins s σ H Q I h => ?_⟩
  obtain ⟨hT, h⟩ := h
  refine wpAny_Call_Name_kw (ld_glob I hg hm ?_ hdb)
  refine PySem.W.callWith_K (h₀ := X.base) I.ok.mod.kin hk ?_ (by rfl) (by rfl)
  show wpAny _ _ (spliced ((false, eval (.Lambda params body scope lpos) X.env) :: backTo pos (starEach [] X.env))) _ _ s
  refine Calls.spliced_cons (lam_make2 I TB hcode hmT hu hT hdef (L.has I.ok) fun f c' pm' ctv H1 s' I1 eN T1 hf hfn hfr hco => ?_)
  refine Calls.spliced_nil ⟨I1.kIn, ?_⟩
  have rc : codeAny (model X.prog X.w) X.A (.call (.ref g) ⟨[.ref f], []⟩) (CR C8.CX0 X.stack X.prog X.w H1 s' Q C8.E0) s' := by
    refine run_ofS (N := Ng) (ps := [a]) (us := [.ref f]) (vs := [.ref f]) lk hcg Sg hr I1.env0 (hb s' [.ref f] I1.kIn rfl) (.cons rfl .nil) rfl fun hr' => ?_
    obtain ⟨t', ht', hq'⟩ := hG f c' s' H1 Q (fun E H' Q' => t E σ H' Q') hr' (fun W pn xe E p1 p2 tk hW => pe_actN (i := 0) I1 L hf hfn hfr (hbind _ _ _ _ _) tk hW hr' (fun A outer s H hr2 => hbody A outer s H E f c' hr2) hNg hva hd hcd) hco (h H1 eN T1)
    exact ⟨t', ht'.nox, hq'⟩
  refine wpAny_call (codeAny_mono rc fun r s2 hq => ?_)
  cases r with
  | error e => exact (show False from hq).elim
  | ok fl =>
    cases fl with
    | ret u => exact I1.after hq
    | next => exact False.elim hq
    | brk => exact False.elim hq
    | cont => exact False.elim hq
end
end DH

set_option Elab.async false
set_option linter.all false
set_option maxRecDepth 100000
set_option maxHeartbeats 4000000
/-! DH8: the def that tries what it got, and tells of its error. -/
namespace DL
open PySem L2 PySem.Spec
/-- all but the tables stays, nothing tracked is lost -/
structure Kept (T : List (Addr × Str)) (H H' : Hp) : Prop where
  same : ∀ a o, (∀ ps, o ≠ .tbl ps) → H a = some o → H' a = some o
  tab : LamX.Tabs T H'
theorem kept_of {G : Gs} {w' : Wd} {H H' : Hp} (e : Ext ⟨[], []⟩ w' H H') (r : Rep G w' H') : Kept G.T H H' :=
  ⟨fun a o hn h => e.same a o (by rintro (z | ⟨c, z, _⟩) <;> cases z) hn h, r.tab⟩
theorem Kept.ext {G : Gs} {w : Wd} {H H' : Hp} (k : Kept G.T H H') (r : Rep G w H) : Ext w w H H' where
  pre := ⟨[], by simp⟩
  live := fun a o h _ _ => h
  same := fun a o _ hn h => k.same a o hn h
  busy := rfl
  bk := fun a o ha h => by
    obtain ⟨o', h', hc⟩ := r.bt a ha
    rw [h] at h'
    cases h'
    exact k.same a o (CellK.ntbl hc) h
theorem Kept.rep {G : Gs} {w : Wd} {H H' : Hp} (k : Kept G.T H H') (r : Rep G w H) : Rep G w H' where
  nd := r.nd
  at_ := fun i a c hi => by
    have x := r.at_ i a c hi
    obtain ⟨o, ho, hc⟩ := x.trk
    exact x.ext (k.ext r).toSub (by rw [ho]; exact k.same a o (CellK.ntbl hc) ho)
  bt := fun a ha => by
    obtain ⟨o, h, hc⟩ := r.bt a ha
    exact ⟨o, k.same a o (CellK.ntbl hc) h, hc⟩
  bn := r.bn
  tab := k.tab

/-! ### what is told, by the class's number -/
structure Told where
  n : Nat
  cl : List Str
  bs : Nat → List Bool
  lab : List Nat
  own : List Nat
  S : Nat → List Nat
def δE : Env := [some (.ob 999), none, none, none, none]
def spN (G : Gs) (t : Told) (i : Nat) : Hp → VK → Prop := fun H Q => LamX.Tabs G.T H ∧ ∀ H', Kept G.T H H' → Q (.str ⟨(t.S i).toArray⟩) H'
structure ToldOk (G : Gs) (K : PySem.W.Frag) (mg : Str → Option Value) (b : Bk) (t : Told) : Prop where
  hK : K = G.K
  cls : ∀ i, i < t.n → ExcC K (G.ob i)
  len : ∀ i, i < t.n → t.cl.length = (t.bs i).length
  is_ : ∀ i, i < t.n → ∀ (j : Nat) (c : Str), t.cl[j]? = some c → ∃ bb, (t.bs i)[j]? = some bb ∧ ((∃ C, mg c = some (.ref C) ∧ PySem.W.kitOne K (.ref (G.ob i)) (.ref C) = some bb) ∨ ∃ T, mg c = none ∧ bootBuiltins c = some (.type T) ∧ PySem.W.kitOne K (.ref (G.ob i)) (.type T) = some bb)
  gl : ∀ c ∈ t.cl, glB b c = true ∧ okN c = true
  run : ∀ i, i < t.n → nmF t.own (t.bs i) t.lab δE [] = some (.ret (.str (t.S i)), [])
theorem nm_body {G : Gs} {P : Program} {w : World} {K : PySem.W.Frag} {mg : Str → Option Value} {base : Heap} {x : Str} {scope : Scope} {f : Addr} {cdv : Value} {A : Around} {outer : List PySem.Env} {s : Shared} {H : Hp} {E : XK} {a : Addr} {oe : Obj} {N : List Str} {body : List Stmt} {t : Told} {i : Nat} {Q : VK}
    (tok : ToldOk G K mg ⟨N, scope, fun _ => true, false⟩ t) (bl : ∀ y ∈ bltN, mg y = none) (hn : nmB ⟨N, scope, fun _ => true, false⟩ t.cl t.lab t.own body = true) (hl : N.length = 5) (hi : i < t.n) (hot : L2H.Hot1 A (a, oe)) (hz : oe.cls = .ref (G.ob i) ∧ oe.dict = none) (hf : ∃ vs, oe.data = .fields vs) (h : spN G t i H Q) :
    ∃ t, PSs (L2H.cxH C8.CX0 P w K mg base N x scope f cdv A outer s H E (a, oe)) body t ∧ t { nx := fun _ H' => Q .non H', rt := Q } (L2.start N [.ref a]) H := by
  have o : XB G ⟨N, scope, fun _ => true, false⟩ (L2H.cxH C8.CX0 P w K mg base N x scope f cdv A outer s H E (a, oe)) := ⟨tok.hK, rfl, rfl, rfl, bl⟩
  have hot' : L2H.Hot1 (L2H.cxH C8.CX0 P w K mg base N x scope f cdv A outer s H E (a, oe)).A (a, oe) := hot
  refine ⟨_, nm_ds (W := W0) (e := "") o hot' List.mem_cons_self (tok.cls i hi) hz hf (fun j c hj => ?_) (tok.len i hi) hn, ?_⟩
  · obtain ⟨bb, h1, h2⟩ := tok.is_ i hi j c hj
    obtain ⟨g1, g2⟩ := tok.gl c (List.mem_of_getElem? hj)
    rcases h2 with ⟨C, m1, k1⟩ | ⟨T, m1, m2, k1⟩
    · exact ⟨.ref C, .ref C, bb, fun p2 => pe_glob (o.gl g1) m1 rfl (okN_d g2).1, fun u r => r, k1, h1⟩
    · refine ⟨.ty T, .type T, bb, fun p2 => pe_bltn (o.gl g1) m1 m2 rfl ?_ (okN_d g2).1, fun u r => r, k1, h1⟩
      unfold okN at g2
      simp only [Bool.and_eq_true, Bool.not_eq_true'] at g2
      exact ne_of_beq_false g2.2
  · refine ⟨⟨[], []⟩, δE, ?_, ?_, ?_⟩
    · exact ⟨List.nodup_nil, (fun k a c hk => (by simp at hk)), (fun a ha => (by cases ha)), (fun a ha => (by cases ha)), h.1⟩
    · refine ⟨?_, fun j d hj => ?_⟩
      · show 5 = (L2.start N [.ref a]).length
        unfold L2.start
        simp [hl]
      · have e : j = 0 ∧ d = .ob 999 := by
          unfold δE at hj
          match j, hj with
          | 0, hj => exact ⟨rfl, by simpa using hj.symm⟩
          | 1, hj => simp at hj
          | 2, hj => simp at hj
          | 3, hj => simp at hj
          | 4, hj => simp at hj
          | n + 5, hj => simp at hj
        obtain ⟨rfl, rfl⟩ := e
        refine ⟨.ref a, ?_, by simp [Dat, obX]⟩
        unfold L2.start
        rfl
    · show PostS _ _ _ _ _ (nmF t.own (t.bs i) t.lab δE [])
      rw [tok.run i hi]
      refine fun w' H' v e r m dv => ?_
      have dv : v = .str ⟨(t.S i).toArray⟩ := (str_dat dv).1
      rw [dv]
      exact h.2 H' (kept_of (G := obX G a) e r)
end DL

set_option Elab.async false
set_option linter.all false
set_option maxRecDepth 100000
set_option maxHeartbeats 4000000
/-! DH9: a lambda that is tried: the rule. -/
namespace DL
open PySem L2 PySem.Spec
/-- the def that tries: try: a() / except kn as e: return nf(e) / return '' -/
def erB (b : Bk) (a kn nf : Str) : List Stmt → Bool
  | [.Try [.Expr (.Call (.Name a1 _) [] [] _) _] [.ExceptHandler (some (.Name k1 _)) (some e) [.Return (some (.Call (.Name n1 _) [.Name e2 _] [] _)) _] _] [] [] _, .Return (some (.Constant (.str l) _ _)) _] =>
    b.N == [a, e] && decide b.N.Nodup && a1 == a && k1 == kn && n1 == nf && e2 == e && glB b kn && okN kn && glB b nf && okN nf && lcB b e && okN e && visB b a && okN a && l.cps.toList == []
  | _ => false
def TTe (G : Gs) (t : Told) : (XK → Hp → VK → Prop) → Hp → VK → Prop := fun tl H Q => tl (fun cls d H' => ∃ i, i < t.n ∧ cls = .ref (G.ob i) ∧ d = none ∧ spN G t i H' Q) H fun _ H' => Q (.str ⟨([] : List Nat).toArray⟩) H'
theorem takesN0 {X : Cx} : L2N.Takes X (fun _ _ _ _ => False) := fun u s' ⟨_, _, _, _, _, _, _, _, _, _, _, _, _, _, _, _, w⟩ => w.elim
theorem gives_err {G : Gs} {X : Cx} {x a kn nf q : Str} {sg : Scope} {g CS fN : Addr} {cdg : Value} {k : Nat} {Ng N5 : List Str} {bg bN : List Stmt} {scN : Scope} {parN : Arguments} {fdN : FuncData} {psN : List Str} {t : Told}
    (tok : ToldOk G X.K X.mg ⟨N5, scN, fun _ => true, false⟩ t) (bl : ∀ y ∈ bltN, X.mg y = none) (hn : nmB ⟨N5, scN, fun _ => true, false⟩ t.cl t.lab t.own bN = true) (hl : N5.length = 5)
    (exm : ∀ i, i < t.n → PySem.W.exmOne X.K (.ref (G.ob i)) (.ref CS) = some true) (hb : erB ⟨Ng, sg, fun _ => true, false⟩ a kn nf bg = true) (mk : X.mg kn = some (.ref CS)) (mn : X.mg nf = some (.ref fN))
    (F : FunD X.K nf nf parN bN scN [] [] fN fdN) (S : FnScope N5 psN scN) (hp1 : psN.length = 1) (hB : Binds X.K fdN psN []) : DH.GivesN X Ng x sg g cdg bg a q k (TTe G t) := by
  intro f c' s H Q tl hr act hc h
  unfold erB at hb
  split at hb
  · rename_i a1 p1 p2 p3 k1 p4 e n1 p5 e2 p6 p7 p8 p9 p10 l kk p11 p12
    simp only [Bool.and_eq_true, decide_eq_true_eq] at hb
    obtain ⟨⟨⟨⟨⟨⟨⟨⟨⟨⟨⟨⟨⟨⟨hN, nd⟩, e1⟩, e3⟩, e4⟩, e5⟩, g1⟩, g2⟩, g3⟩, g4⟩, g5⟩, g6⟩, g7⟩, g8⟩, g9⟩ := hb
    have hN : Ng = [a, e] := eq_of_beq hN
    have z := eq_of_beq e1; subst z
    have z := eq_of_beq e3; subst z
    have z := eq_of_beq e4; subst z
    have z := eq_of_beq e5; subst z
    have hlt : l = ⟨([] : List Nat).toArray⟩ := by
      have := eq_of_beq g9
      cases l
      simp only at this
      congr 1
      simpa using this
    have N1 : Ng[1]? = some e2 := by rw [hN]; rfl
    have le : sg.names.lookup e2 = some .local := eq_of_beq g5
    have gk : sg.names.lookup k1 = some .globalImplicit := eq_of_beq g1
    have gn : sg.names.lookup n1 = some .globalImplicit := eq_of_beq g3
    refine ⟨_, pss_cons (L2N.ps_try_as (X := (cxOf C8.CX0 X.prog X.w X.K X.mg X.base Ng x sg g cdg X.A X.stack s H C8.E0).nox) (i := 1) (c := .ref CS)
      (tb := fun W D σ H => ∃ Ech : XK, (∀ cls d σ' H', Ech cls d H' → W cls d σ' H') ∧ σ[0]? = some (some (.ref f)) ∧ H c' = some (LamX.CodeO c' q) ∧ tl Ech H fun _ H' => D.nx σ H')
      (ts := fun a cls d D σ H => ∃ (i : Nat) (σ0 : L2.St), i < t.n ∧ cls = .ref (G.ob i) ∧ d = none ∧ σ = σ0.set 1 (some (.ref a)) ∧ spN G t i H D.rt) (Wout := fun _ _ _ _ => False) rfl rfl nd N1 le ⟨gk, (okN_d g2).1, .inl mk⟩ takesN0 (fun W pn xe tk po => ?_) (fun a oe cls d pn hz hf => ?_)) (pss_one (ps_ret pe_str)), ?_⟩
    · refine ⟨fun pins s' σ H' D I h' => ?_⟩
      obtain ⟨Ech, hW, h1, h2, h3⟩ := h'
      have hp := act W pn xe Ech p1 p2 tk hW
      have hq := pss_one (ps_expr (pos := p3) hp rfl)
      exact hq.run pins s' σ H' D I ⟨h1, h2, h3⟩
    · refine ⟨fun pins s' σ H' D I h' => ?_⟩
      obtain ⟨i, σ0, hi, rfl, rfl, rfl, h2⟩ := h'
      obtain ⟨vs, hv⟩ := hf
      have hot : L2H.Hot1 ((cxOf C8.CX0 X.prog X.w X.K X.mg X.base Ng x sg g cdg X.A X.stack s H C8.E0).nox.suite a ((a, oe) :: pn)).A (a, oe) := ⟨rfl, vs, hv, hz.2.2 vs hv⟩
      have hr' : L2H.RoomH (k + 1) ((cxOf C8.CX0 X.prog X.w X.K X.mg X.base Ng x sg g cdg X.A X.stack s H C8.E0).nox.suite a ((a, oe) :: pn)).A := ⟨hr.dp, hr.un⟩
      have hslot : (List.set σ0 1 (some (V.ref a)))[1]? = some (some (V.ref a)) := by
        have hlen := I.len
        rw [List.length_set] at hlen
        have h2 : Ng.length = 2 := by rw [hN]; rfl
        rw [List.getElem?_set_self]
        have : σ0.length = Ng.length := hlen
        omega
      have hpe := DH.pe_callP (CX := C8.CX0) (E := C8.E0) (k := k) (i := 1) (p1 := p5) (p2 := p6) (pos := p7) (p := (a, oe)) (sp := fun H Q => spN G t i H Q) hot List.mem_cons_self hr' F S hp1 hB (fun σ pins H s e s' I c => c.elim)
        gn mn (okN_d g4).1 N1 (.inl le) (okN_d g6).1 (okN_d g6).2 (fun A outer s H Q cdv h1 h3 h4 => nm_body tok bl hn hl hi h1 ⟨hz.1, hz.2.1⟩ ⟨vs, hv⟩ h4)
      exact (pss_one (ps_ret (pos := p8) hpe)).run pins s' _ H' D I ⟨hslot, h2⟩
    · refine ⟨fun cls d H' => ∃ i, i < t.n ∧ cls = .ref (G.ob i) ∧ d = none ∧ spN G t i H' Q, fun cls d σ' H' ⟨i, hi, e1, e2, h1⟩ => ⟨true, by rw [e1]; exact exm i hi, fun _ a _ => ⟨i, σ', hi, e1, e2, rfl, h1⟩, fun z => by cases z⟩, ?_, hc, ?_⟩
      · rw [hN]
        rfl
      · rw [hlt]
        exact h
  · cases hb
end DL

set_option Elab.async false
set_option linter.all false
set_option maxRecDepth 100000
set_option maxHeartbeats 4000000
/-! DH10: a lambda that is tried, at data level. -/
namespace DL
open PySem L2 PySem.Spec
section
variable {G : Gs} {P : Program} {w : World} {K : PySem.W.Frag} {mg : Str → Option Value} {base : Heap} {fs : List FnI} {cs Ex : List Str} {ei : EiT} {Kc : Nat → D}
/-- what the rule for a tried lambda needs of the module -/
structure ErHd (G : Gs) (K : PySem.W.Frag) (mg : Str → Option Value) (base : Heap) (fs : List FnI) (Kc : Nat → D) : Prop where
  tab : ∀ f ∈ fs, f.er = true → ∀ (fa : Addr) (fd : FuncData) (cdv : Value), mg f.nm = some (.ref fa) → FunD K f.nm f.nm (defArgs f.st) (defBody f.st) (defScope f.st) [] [] fa fd → fd.code = cdv →
    ∃ c Pt, cdv = .ref c ∧ LamX.TabB base mg c Pt ∧ (∀ L, (Pt, (PyProof.Rows.envOfC f.nm (defScope f.st) L fa cdv).qual ++ "<lambda>") ∈ G.T ∧ ∀ p ∈ G.T, p.1 = Pt → p.2 = (PyProof.Rows.envOfC f.nm (defScope f.st) L fa cdv).qual ++ "<lambda>")
  tell : ∃ (t : Told) (N5 : List Str) (bN : List Stmt) (scN : Scope) (parN : Arguments) (fdN : FuncData) (psN : List Str) (fN CS gE : Addr) (kn nf a : Str) (sgE : Scope) (Ng : List Str) (bgE : List Stmt) (parE : Arguments) (fdE : FuncData),
    ToldOk G K mg ⟨N5, scN, fun _ => true, false⟩ t ∧ nmB ⟨N5, scN, fun _ => true, false⟩ t.cl t.lab t.own bN = true ∧ N5.length = 5 ∧ (∀ i, i < t.n → PySem.W.exmOne K (.ref (G.ob i)) (.ref CS) = some true) ∧ erB ⟨Ng, sgE, fun _ => true, false⟩ a kn nf bgE = true ∧
    mg kn = some (.ref CS) ∧ mg nf = some (.ref fN) ∧ FunD K nf nf parN bN scN [] [] fN fdN ∧ FnScope N5 psN scN ∧ psN.length = 1 ∧ Binds K fdN psN [] ∧
    mg "_law_error" = some (.ref gE) ∧ FunD K "_law_error" "_law_error" parE bgE sgE [] [] gE fdE ∧ Binds K fdE [a] [] ∧ FnScope Ng [a] sgE ∧ Ng[0]? = some a ∧ Vis sgE a ∧ okN a = true ∧
    ∀ i s, Kc (1000 + i) = .str s → i < t.n ∧ t.S i = s ∧ okS s = true
theorem noPar_of {p : Arguments} (h : noPar p = true) : p = ⟨[], [], none, [], [], none, []⟩ := by
  obtain ⟨a, b, c, d, e, f, g⟩ := p
  unfold noPar at h
  simp only [Bool.and_eq_true, List.isEmpty_iff, Option.isNone_iff_eq_none] at h
  obtain ⟨⟨⟨⟨⟨⟨h1, h2⟩, h3⟩, h4⟩, h5⟩, h6⟩, h7⟩ := h
  subst h1 h2 h3 h4 h5 h6 h7
  rfl
theorem er_at (xi : XiHd G P w K mg base ei) (D : Hd G P w K mg fs cs Ex ei Kc) (hS : ∀ f ∈ fs, FnScope f.N f.ps (defScope f.st)) (eh : ErHd G K mg base fs Kc) : ErAt G P w K mg base fs cs ei Kc := by
  intro k f fa cdv A outer s H E hf her hr hfd Fk params body scope p lpos pos g hg hnp hls hbody
  obtain ⟨fd, hm, F, hcode⟩ := hfd
  obtain ⟨c, Pt, rfl, TB, hq⟩ := eh.tab f hf her fa fd cdv hm F hcode
  obtain ⟨t, N5, bN, scN, parN, fdN, psN, fN, CS, gE, kn, nf, a, sgE, Ng, bgE, parE, fdE, tok, hn, hl, exm, hb, mk, mn, FN, SN, hp1, hB, mE, FE, bE, SE, hNg, hva, ha, hKc⟩ := eh.tell
  have hpar := noPar_of hnp
  subst hpar
  obtain ⟨oc, od, dV, kV, doc, pm, an, cdg, ct, osl, rfl, lk, hcg, _, _⟩ := FE.ex
  have S := hS f hf
  refine (DH.pe_lamcallN (X := bodyX P w K mg base f fa (.ref c) A outer s H E) (T := G.T) (TT := TTe G t) (k := k) (t := fun E' => tE G (fun c d _ H => E' c d H) g) (c := c) (P := Pt) (Ng := Ng) (a := a) (eq_of_beq hg) mE FE.kp lk hcg bE SE hNg hva
    (gives_err (X := bodyX P w K mg base f fa (.ref c) A outer s H E) tok D.bl hn hl exm hb mk mn FN SN hp1 hB) TB rfl (hq _).1 (hq _).2 hr (LamX.lamS_by hls) rfl (fun q cl pm cv ctv => rfl) (fun A' outer' s' H' E' f' c' hr' => ?_) (by decide) (okN_d ha).1 (okN_d ha).2).imp fun σ H Q ⟨w, δ, r, en, p⟩ => ⟨r.tab, fun H1 eN T1 => ?_⟩
  · refine hbody (fun c d _ H => E' c d H) _ ?_
    exact {
      hK := D.hK, hW := D.hW, hN := rfl, nd := S.nd, sc := rfl, fb := rfl, calm := rfl, tk := L2N.takes_of rfl rfl rfl rfl
      lv := by
        refine ⟨k, hr', fun i y n hi => ?_⟩
        unfold tbOf at hi
        simp only [List.getElem?_map] at hi
        cases q : fs[i]? with
        | none =>
          rw [q] at hi
          cases hi
        | some g =>
          rw [q] at hi
          cases hi
          obtain ⟨fa, fd, h1, h2, h3⟩ := D.fn i g q
          exact ⟨fa, fd, g.ps, h1, h2.kp, h3, rfl, Fk i g fa fd q h1 h2⟩
      bl := D.bl
      cs := D.cs
      xc := xi.ok rfl rfl rfl rfl rfl _ fun h => (by cases h) }
  · have k1 : Kept G.T H H1 := ⟨fun a o hn h => eN a o h hn, T1⟩
    have e1 := k1.ext r
    refine ⟨w, δ, k1.rep r, en.ext e1.toSub, ?_⟩
    unfold fErr at p
    cases q : g δ w.μ with
    | none =>
      rw [q] at p
      exact p.elim
    | some z =>
      rw [q] at p
      obtain ⟨o, μ'⟩ := z
      cases o with
      | ok d => exact fun w' H' e r' m v dv => p w' H' (e1.trans e) r' m _ (dat_str rfl)
      | error x =>
        simp only at p
        split at p
        · rename_i s hx hs
          obtain ⟨g1, g2, g3⟩ := hKc _ _ hs
          refine fun cls d w' H' e r' m ex => ⟨x.cls, g1, ex.1, ?_, r'.tab, fun H2 k2 => ?_⟩
          · have := ex.2
            rw [hx] at this
            exact this
          · rw [g2]
            exact p w' H2 (e1.trans (e.trans (k2.ext r'))) (k2.rep r') m _ (dat_str g3)
        · exact p.elim
end
end DL

set_option Elab.async false
set_option linter.all false
set_option maxRecDepth 100000
set_option maxHeartbeats 4000000
/-! DF0: the head's facts, told of the written part and of the interpreter's own statics. -/
namespace DL
open PySem L2 PySem.Spec
/-- the addresses that are looked at -/
def asY (g : Addr → Option Obj) (n : Nat) : List Addr := He.asD g n ++ [cStatics]
def frY (g : Addr → Option Obj) (n : Nat) : PySem.W.Frag := He.frT g (asY g n)
def obsY (n : Nat) (fa : List He.Fa) (fn : List He.DefD) (ts : List He.Tab) (tf : List He.Defn) (ex : PySem.W.Frag → Bool) (g : Addr → Option Obj) : He.AlX := (He.obsT fa fn ts (frY g n), ex (frY g n) && He.tabsB g tf (frY g n))
section
variable {n : Nat} {fa : List He.Fa} {fn : List He.DefD} {ts : List He.Tab} {tf : List He.Defn} {ex : PySem.W.Frag → Bool} {w : World} {h : Heap}
theorem tab_at {g : Addr → Option Obj} {K : PySem.W.Frag} (b : He.tabsB g tf K = true) {p : He.Defn} (hp : p ∈ tf) : PySem.W.codeHdIn K (He.cT K p).1 (He.cT K p).2 = true ∧ ∃ o, g (He.cT K p).2 = some o ∧ He.emptyTab o = true := by
  unfold He.tabsB at b
  have z := List.all_eq_true.mp b p hp
  rw [Bool.and_eq_true] at z
  refine ⟨z.1, ?_⟩
  have z2 := z.2
  split at z2
  · rename_i o ho
    exact ⟨o, ho, z2⟩
  · cases z2
theorem saysY (e : obsY n fa fn ts tf ex h.get? = He.valX fn ts w) : He.SaysX fa fn ts tf ex w h (frY h.get? n) := by
  have one := congrArg Prod.fst e
  have two : (ex (frY h.get? n) && He.tabsB h.get? tf (frY h.get? n)) = true := congrArg Prod.snd e
  rw [Bool.and_eq_true] at two
  exact {
    t := one
    more := two.1
    hd := fun p hp => (tab_at two.2 hp).1
    out := fun p hp => by
      obtain ⟨o, a, b⟩ := (tab_at two.2 hp).2
      exact He.frT_none a b
    empty := fun p hp => by
      obtain ⟨o, a, b⟩ := (tab_at two.2 hp).2
      rw [a, He.emptyTab_eq b] }
end
def hookY (n : Nat) (fa : List He.Fa) (fn : List He.DefD) (ts : List He.Tab) (tf : List He.Defn) (ex : PySem.W.Frag → Bool) : PySem.W.Hook where
  α := He.AlX
  obs := fun s => obsY n fa fn ts tf ex s.heap.get?
  val := He.valX fn ts
  says := fun w h => ∃ K : PySem.W.Frag, K.In h ∧ He.SaysX fa fn ts tf ex w h K
  of := fun w s e => ⟨frY s.heap.get? n, He.frT_in, saysY e⟩
  keeps := fun w h h' q k => by
    obtain ⟨K, i, c⟩ := q
    refine ⟨K, PySem.W.Frag.In.keeps i k, { t := c.t, more := c.more, hd := c.hd, out := c.out, empty := fun p hp => k _ _ (c.empty p hp) }⟩
theorem obsY_eq {n : Nat} {fa : List He.Fa} {fn : List He.DefD} {ts : List He.Tab} {tf : List He.Defn} {ex : PySem.W.Frag → Bool} {g : Addr → Option Obj} {s : Shared} (h : ∀ a, g a = s.heap.get? a) : obsY n fa fn ts tf ex g = (hookY n fa fn ts tf ex).obs s := by
  obtain rfl : g = s.heap.get? := funext h
  rfl
end DL

set_option Elab.async false
set_option linter.all false
set_option maxRecDepth 100000
set_option maxHeartbeats 4000000
/-! DF1: from the head's facts and the plain law to the law's promise. -/
namespace DL
open PySem L2 PySem.Spec
def AllL {α : Type} (Q : α → Prop) : List α → Prop
  | [] => True
  | a :: l => Q a ∧ AllL Q l
theorem AllL.mem {α : Type} {Q : α → Prop} : ∀ {l : List α}, AllL Q l → ∀ a ∈ l, Q a
  | [], _, a, h => by cases h
  | b :: l, q, a, h => by
    rcases List.mem_cons.mp h with e | h
    · rw [e]
      exact q.1
    · exact AllL.mem q.2 a h
/-! ### constants of the module -/
def txV (s : List Nat) : Value → Bool
  | .str c _ => c.cps.toList == s && okS s
  | _ => false
theorem txV_ok {s : List Nat} {v : Value} (h : txV s v = true) : RelV (.str ⟨s.toArray⟩) v ∧ okS s = true := by
  unfold txV at h
  split at h
  · rename_i c t
    rw [Bool.and_eq_true] at h
    have e1 := eq_of_beq h.1
    have e2 : c = ⟨s.toArray⟩ := by
      obtain ⟨l⟩ := c
      have e1 : l.toList = s := e1
      rw [← e1]
    rw [e2]
    exact ⟨⟨t, rfl⟩, h.2⟩
  · cases h
def txsV : List D → List Value → Bool
  | [], [] => true
  | .str s :: ds, v :: vs => txV s v && txsV ds vs
  | _, _ => false
theorem txsV_ok {G : Gs} {w : Wd} {H : Hp} : ∀ {ds : List D} {its : List Value}, txsV ds its = true → ∃ vs, Vals vs its ∧ Dats G w H ds vs
  | [], [], _ => ⟨[], .nil, by simp [Dats]⟩
  | .str s :: ds, v :: its, h => by
    unfold txsV at h
    rw [Bool.and_eq_true] at h
    obtain ⟨h1, h2⟩ := txV_ok h.1
    obtain ⟨vs, h3, h4⟩ := txsV_ok (G := G) (w := w) (H := H) h.2
    refine ⟨_, .cons h1 h3, ?_⟩
    simp only [Dats]
    exact ⟨_, _, rfl, by simp [Dat, h2], h4⟩
  | [], _ :: _, h => by cases h
  | .str _ :: _, [], h => by cases h
def entB : List (List Nat × List Nat) → List DictEntry → Bool
  | [], [] => true
  | p :: r, e :: es => txV p.1 e.key && txV p.2 e.val && entB r es
  | _, _ => false
theorem ent_ok : ∀ {kvs : List (List Nat × List Nat)} {es : List DictEntry}, entB kvs es = true → (∀ p ∈ kvs, okS p.2 = true) ∧ es.any (·.refKey) = false ∧ ∀ z : List Nat, match dlook kvs z with
    | none => es.find? (·.key.isStr ⟨z.toArray⟩) = none
    | some s => ∃ e, es.find? (·.key.isStr ⟨z.toArray⟩) = some e ∧ RelV (.str ⟨s.toArray⟩) e.val
  | [], [], _ => ⟨fun p h => (by cases h), rfl, fun z => rfl⟩
  | p :: r, e :: es, h => by
    unfold entB at h
    simp only [Bool.and_eq_true] at h
    obtain ⟨⟨h1, h2⟩, h3⟩ := h
    obtain ⟨⟨t, k1⟩, _⟩ := txV_ok h1
    obtain ⟨k2, k3⟩ := txV_ok h2
    obtain ⟨i1, i2, i3⟩ := ent_ok h3
    refine ⟨fun q hq => ?_, ?_, fun z => ?_⟩
    · rcases List.mem_cons.mp hq with e | hq
      · rw [e]
        exact k3
      · exact i1 q hq
    · rw [List.any_cons, i2, Bool.or_false]
      unfold DictEntry.refKey
      rw [k1]
    · rw [dlook_cons, List.find?_cons, k1]
      have e1 : (Value.str ⟨p.1.toArray⟩ t).isStr ⟨z.toArray⟩ = decide (p.1 = z) := by
        show ((⟨p.1.toArray⟩ : Str) == ⟨z.toArray⟩) = _
        rw [Bool.eq_iff_iff, beq_iff_eq, decide_eq_true_iff]
        constructor
        · intro e
          have e : p.1.toArray = z.toArray := by injection e
          simpa using e
        · intro e
          rw [e]
      rw [e1]
      by_cases hz : p.1 = z
      · rw [if_pos hz, decide_eq_true hz]
        exact ⟨e, rfl, k2⟩
      · rw [if_neg hz, decide_eq_false hz]
        exact i3 z
  | [], _ :: _, h => by cases h
  | _ :: _, [], h => by cases h
/-- the constant's object, looked at -/
def conB (K : PySem.W.Frag) (a : Addr) : D → Bool
  | .int _ => true
  | .tup ds => (match K.lookup a with
    | some ⟨.type c, _, .seq its _, _⟩ => decide (c = "tuple") && (decide (its.size ≤ sizeLine) && txsV ds its.toList)
    | _ => false)
  | .dct kvs => (match K.lookup a with
    | some ⟨_, _, .dict es _, _⟩ => entB kvs es.toList
    | _ => false)
  | _ => false
def conFa (c : Str × D) : He.Fa := match c.2 with
  | .int i => .int c.1 i
  | _ => .glo c.1
def conTs (c : Str × D) : Option He.Tab := match c.2 with
  | .dct kvs => some (fun K => He.ga K c.1, kvs.map fun p => ⟨p.1.toArray⟩)
  | _ => none
/-- an exception class with an own __init__ that stores the attribute fld -/
structure ExI where
  nm : Str
  fld : Str
  ini : FnI
def inClass (j : Nat) : Stmt → Stmt
  | .ClassDef _ _ _ body _ _ _ _ _ _ _ => body.getD j (.Pass ⟨0, 0, 0, 0⟩)
  | s => s
/-- what is told of a law's module -/
structure LawI where
  fs : List FnI
  cs : List (Str × D)
  ex : List Str
  cl : List Str
  lab : List Nat
  own : List Nat
  fE : FnI
  fN : FnI
  a : Str
  kn : Str
  has : Bool
  exi : List ExI
  xvs : Bool
  cx : List (Str × List Nat)
def isVE (c : Str) : Bool := c == "ValueError"
def LawI.bs (I : LawI) (i : Nat) : List Bool := I.cl.map fun c => isVE c || c == I.ex.getD i ""
def LawI.S (I : LawI) (i : Nat) : List Nat := match nmF I.own (I.bs i) I.lab δE [] with
  | some (.ret (.str s), _) => s
  | _ => []
def LawI.told (I : LawI) : Told := ⟨I.ex.length, I.cl, I.bs, I.lab, I.own, I.S⟩
def LawI.Kc (I : LawI) (n : Nat) : D := if n < 1000 then (match I.cs[n]? with | some c => c.2 | none => .non) else if n - 1000 < I.ex.length then .str (I.S (n - 1000)) else .non
def dDf (f : FnI) : He.DefD := ⟨(f.nm, none), f.nm, f.nm, defArgs f.st, defBody f.st, defScope f.st, [], []⟩
def iqual (x : ExI) : Str := x.nm ++ ".__init__"
def dIn (x : ExI) : He.DefD := ⟨(x.nm, some "__init__"), "__init__", iqual x, defArgs x.ini.st, defBody x.ini.st, defScope x.ini.st, [], []⟩
def LawI.ef (I : LawI) : List FnI := if I.has = true then [I.fE, I.fN] else []
def LawI.ei (I : LawI) : List (Str × Str) := I.exi.map fun x => (x.nm, x.fld)
/-- the classes, by their numbers, whose exceptions are values -/
def LawI.xv (I : LawI) : List Str := if I.xvs = true then I.ex else []
def LawI.et (I : LawI) : EiT := ⟨I.ei, I.xv, I.cx⟩
/-- the class of such a number -/
def LawI.clsN (I : LawI) (c : Nat) : Str := if c < 500 then I.ex.getD c "" else (I.ei.getD (c - 500) ("", "")).1
def LawI.nums (I : LawI) : List Nat := List.range I.xv.length ++ (List.range I.ei.length).map (500 + ·)
def LawI.fnD (I : LawI) : List He.DefD := I.fs.map dDf ++ (I.ef.map dDf ++ I.exi.map dIn)
def LawI.fa (I : LawI) : List He.Fa := I.fs.map (fun f => .glo f.nm) ++ ((I.ef.map (fun f => .glo f.nm) ++ (I.exi.map (fun x => .glo x.nm) ++ (([.glo I.kn, .free "ValueError", .glo "KinError"] : List He.Fa) ++ (I.cx.filter (fun c => !isVE c.1)).map fun c => He.Fa.glo c.1))) ++ (bltN.map .free ++ (I.ex.map .glo ++ (I.ex.map .exc ++ (I.cs.map conFa ++ (I.ex.map (fun x => .exm x I.kn true) ++ (I.cl.filter (fun c => !isVE c)).map .glo))))))
def LawI.ts (I : LawI) : List He.Tab := I.cs.filterMap conTs
def LawI.lam (I : LawI) : List FnI := if I.has = true then I.fs.filter (·.er) else []
theorem LawI.lam_mem {I : LawI} (hh : I.has = true) {f : FnI} (hf : f ∈ I.fs) (her : f.er = true) : f ∈ I.lam := by
  unfold LawI.lam
  rw [if_pos hh]
  exact List.mem_filter.mpr ⟨hf, her⟩
def LawI.tf (I : LawI) : List He.Defn := I.lam.map fun f => (f.nm, none)
def excB (K : PySem.W.Frag) (D : Addr) : Bool :=
  He.eqO (PySem.W.findIn K (.ref D) "__getattribute__") (some (some (.builtin "BaseException.__getattribute__"))) && (He.eqO (PySem.W.findIn K (.ref D) "__getattr__") (some none) && (PySem.W.subIn K (.ref D) (.type "BaseException") == some true && (PySem.W.hasDictIn K D && (He.eqO (PySem.W.findIn K (.ref D) "__class__") (some (some (.builtin "object.__class__"))) && (He.eqO (PySem.W.specialIn K (.builtin "object.__class__") "__get__") (some (some (.builtin "getset_descriptor.__get__"))) && (PySem.W.takesIn K (.builtin "object.__class__") == some true && PySem.W.mroIn K D (.type "object") == some true))))))
theorem excB_ok {K : PySem.W.Frag} {D : Addr} (h : excB K D = true) : ExcC K D := by
  unfold excB at h
  simp only [Bool.and_eq_true, beq_iff_eq] at h
  obtain ⟨h1, h2, h3, h4, h5, h6, h7, h8⟩ := h
  exact ⟨He.eqO_ok h1, He.eqO_ok h2, h3, h4, He.eqO_ok h5, He.eqO_ok h6, h7, h8⟩
def kitB (K : PySem.W.Frag) (D : Addr) (c : Str) (b : Bool) : Bool := PySem.W.kitOne K (.ref D) (if isVE c = true then .type "ValueError" else .ref (He.ga K c)) == some b
def oexB (K : PySem.W.Frag) (C : Addr) : Bool := match K.lookup C with
  | some ⟨.type t, _, .cls cd, sl⟩ => (match cd.mro, sl.toList with
    | .ref D :: bm, [_, _, _, _, some (.builtin n), _] => t == "type" && D == C && n == "ValueError.__new__" && !cd.hasDel && cd.hasDict && PySem.HandSPX.refsVE bm
    | _, _ => false)
  | _ => false
theorem oexB_ok {K : PySem.W.Frag} {C : Addr} (h : oexB K C = true) : ∃ nm q N bs bm sn sub ab col dd k0 k1 k2 k3 k5, K.lookup C = some (excClassObj nm q C N bs bm true sn sub ab col dd k0 k1 k2 k3 k5 "ValueError.__new__") ∧ PySem.HandSPX.refsVE bm = true := by
  unfold oexB at h
  cases e : K.lookup C with
  | none =>
    rw [e] at h
    cases h
  | some o =>
    rw [e] at h
    split at h
    · rename_i t dd cd sl he
      split at h
      · rename_i D bm k0 k1 k2 k3 n k5 hm hs
        simp only [Bool.and_eq_true, beq_iff_eq, Bool.not_eq_true'] at h
        obtain ⟨⟨⟨⟨⟨rfl, rfl⟩, rfl⟩, d1⟩, d2⟩, d3⟩ := h
        obtain ⟨a1, a2, a3, a4, a5, a6, a7, a8, a9, a10, a11⟩ := cd
        simp only at hm d1 d2
        subst hm d1 d2
        obtain ⟨l⟩ := sl
        simp only at hs
        subst hs
        cases he
        exact ⟨a1, a5, a4, a2, bm, a7, a8, a9, a10, dd, k0, k1, k2, k3, k5, rfl, d3⟩
      · cases h
    · cases h
def cfB : Option PySem.W.CFound → Bool
  | some (.val (.builtin n)) => n == "ValueError.__init__"
  | _ => false
theorem cfB_ok {o : Option PySem.W.CFound} (h : cfB o = true) : o = some (.val (.builtin "ValueError.__init__")) := by
  unfold cfB at h
  split at h
  · rw [eq_of_beq h]
  · cases h
def exiB (K : PySem.W.Frag) (x : ExI) : Bool :=
  oexB K (He.ga K x.nm) && (He.eqO (PySem.W.findIn K (.ref (He.ga K x.nm)) "__setattr__") (some (some (.builtin "object.__setattr__"))) && (PySem.W.subIn K (.ref (He.ga K x.nm)) (.type "BaseException") == some true && (PySem.W.typeIn K (.ref (He.ga K x.nm)) == some (.type "type") &&
    (PySem.W.keepIn K (.ref (He.ga K x.nm)) && (He.eqO (PySem.W.findIn K (.ref (He.ga K x.nm)) x.fld) (some none) && (He.eqO (PySem.W.findIn K (.ref (He.ga K x.nm)) "__init__") (some (some (.ref (He.fAd K (x.nm, some "__init__"))))) && (PySem.W.typeIn K (.ref (He.fAd K (x.nm, some "__init__"))) == some (.type "function") &&
      (xfB K (He.ga K x.nm) && (PySem.W.exmOne K (.ref (He.ga K x.nm)) (.ref (He.ga K x.nm)) == some true && (PySem.W.readsIn K (He.ga K "KinError") (.type "type") && (He.eqO (PySem.W.specialIn K (.ref (He.ga K "KinError")) "__getattribute__") (some (some (.builtin "type.__getattribute__"))) && cfB (PySem.W.findCls K (.ref (He.ga K "KinError")) (.type "type") "__init__"))))))))))))
def xvB (K : PySem.W.Frag) (C : Addr) : Bool := excB K C && He.eqO (PySem.W.findIn K (.ref C) "__str__") (some (some (.builtin "BaseException.__str__")))
theorem xvB_ok {K : PySem.W.Frag} {C : Addr} (h : xvB K C = true) : XvC K C := by
  unfold xvB at h
  rw [Bool.and_eq_true] at h
  exact ⟨excB_ok h.1, He.eqO_ok h.2⟩
def LawI.xcB (I : LawI) (K : PySem.W.Frag) : Bool := I.nums.all fun n => xvB K (He.ga K (I.clsN n)) && I.cx.all fun c => kitB K (He.ga K (I.clsN n)) c.1 (c.2.contains n)
def LawI.exB (I : LawI) (K : PySem.W.Frag) : Bool :=
  (I.xcB K && I.exi.all (exiB K)) && (
  (List.range I.ex.length).all (fun i => excB K (He.ga K (I.ex.getD i "")) && I.cl.all fun c => kitB K (He.ga K (I.ex.getD i "")) c (isVE c || c == I.ex.getD i "")) &&
  I.cs.all (fun c => conB K (He.ga K c.1) c.2) &&
  I.lam.all fun f => I.lam.all fun g => f.nm == g.nm || !((He.cT K (f.nm, none)).2 == (He.cT K (g.nm, none)).2))
def lamQ (nm : Str) : Str := nm ++ ".<locals>." ++ "<lambda>"
def LawI.G (I : LawI) (K : PySem.W.Frag) (w : World) (P : Program) : Gs := ⟨K, I.lam.map fun f => ((He.cT K (f.nm, none)).2, lamQ f.nm), fun i => He.ga K (if i < 500 then I.ex.getD i "" else (I.ei.getD (i - 500) ("", "")).1), w, fun i => (I.ei.getD (i - 500) ("", "")).2, P⟩
/-- the parameters are bound one by one -/
def BindOk (f : FnI) : Prop := ∀ (kV doc pm : Value) (an : Option Addr) (cdv ct : Value) (us : List Value), us.length = f.ps.length → bindArgs (PySem.W.fnOf f.nm f.nm (defArgs f.st) (defBody f.st) (defScope f.st) .none kV doc pm an cdv ct) ⟨us, []⟩ = pure (f.ps.zip us)
structure ErrOk (I : LawI) : Prop where
  bE : BindOk I.fE
  bN : BindOk I.fN
  sE : okSc I.fE = true
  sN : okSc I.fN = true
  nE : I.fE.nm = "_law_error"
  pE : I.fE.ps = [I.a]
  vE : (visB ⟨I.fE.N, defScope I.fE.st, fun _ => true, false⟩ I.a && okN I.a && I.fE.N.head? == some I.a) = true
  pN : I.fN.ps.length = 1
  lN : I.fN.N.length = 5
  nm : nmB ⟨I.fN.N, defScope I.fN.st, fun _ => true, false⟩ I.cl I.lab I.own (defBody I.fN.st) = true
  er : erB ⟨I.fE.N, defScope I.fE.st, fun _ => true, false⟩ I.a I.kn I.fN.nm (defBody I.fE.st) = true
  gl : (I.cl.all fun c => glB ⟨I.fN.N, defScope I.fN.st, fun _ => true, false⟩ c && okN c) = true
  run : ((List.range I.ex.length).all fun i => match nmF I.own (I.bs i) I.lab δE [] with
    | some (.ret (.str s), []) => okS s
    | _ => false) = true
def BindI (x : ExI) : Prop := ∀ (kV doc pm : Value) (an : Option Addr) (cdv ct : Value) (us : List Value), us.length = x.ini.ps.length → bindArgs (PySem.W.fnOf "__init__" (iqual x) (defArgs x.ini.st) (defBody x.ini.st) (defScope x.ini.st) .none kV doc pm an cdv ct) ⟨us, []⟩ = pure (x.ini.ps.zip us)
def okIn (x : ExI) : Bool := okSc x.ini && x.ini.ps == x.ini.N && DX.inB ⟨x.ini.N, defScope x.ini.st, fun _ => true, false⟩ x.fld (defBody x.ini.st) && okN x.nm
structure LawI.Ok (I : LawI) : Prop where
  cxd : (I.cx.all fun c => !(c.1 == ("__debug__" : Str))) = true
  exsz : I.ex.length ≤ 500
  exd : (I.ex.all fun y => !(y == ("__debug__" : Str))) = true
  inO : AllL (fun x => okIn x = true) I.exi
  inD : AllL BindI I.exi
  noE : I.has = false → (I.fs.all fun f => !glB (bkOf f) "_law_error") = true
  err : I.has = true → ErrOk I
  sz : I.fs.length ≤ 1000000
  csz : I.cs.length ≤ 1000
  ok : AllL (fun f => okFn (tbOf I.fs (I.cs.map (·.1)) I.et) I.ex f = true) I.fs
  bd : AllL BindOk I.fs
section
variable {l : PySem.W.OpenLaw} {w : World} {K : PySem.W.Frag} {mg : Str → Option Value} {h : Heap} {I : LawI}
theorem fnd (c : He.SaysX I.fa I.fnD I.ts I.tf I.exB w h K) (X : K.In h) (Gn : h.Ns mainGlobals mg) {f : FnI} (hd : dDf f ∈ I.fnD) (hg : He.Fa.glo f.nm ∈ I.fa) (hb : BindOk f) :
    ∃ fd, mg f.nm = some (.ref (He.ga K f.nm)) ∧ FunD K f.nm f.nm (defArgs f.st) (defBody f.st) (defScope f.st) [] [] (He.ga K f.nm) fd ∧ Binds K fd f.ps [] ∧ ∀ (s : Shared) (us : List Value), us.length = f.ps.length → BindsTo s fd ⟨us, []⟩ (f.ps.zip us) := by
  obtain ⟨fd, F⟩ := c.t.d.defs hd
  have F : FunD K f.nm f.nm (defArgs f.st) (defBody f.st) (defScope f.st) [] [] (He.ga K f.nm) fd := F
  exact ⟨fd, He.glo_ok X Gn (c.t.d.facts hg), F, F.bindsN hb, FunD.bindsA F hb⟩
theorem exB_x {I : LawI} {K : PySem.W.Frag} (m : I.exB K = true) : I.xcB K = true := by
  unfold LawI.exB at m
  exact (He.ba (He.ba m).1).1
theorem exB_m {I : LawI} {K : PySem.W.Frag} (m : I.exB K = true) : (I.exi.all (exiB K) = true ∧
    (List.range I.ex.length).all (fun i => excB K (He.ga K (I.ex.getD i "")) && I.cl.all fun c => kitB K (He.ga K (I.ex.getD i "")) c (isVE c || c == I.ex.getD i "")) = true) ∧ I.cs.all (fun c => conB K (He.ga K c.1) c.2) = true ∧
    (I.lam.all fun f => I.lam.all fun g => f.nm == g.nm || !((He.cT K (f.nm, none)).2 == (He.cT K (g.nm, none)).2)) = true := by
  unfold LawI.exB at m
  obtain ⟨m1, m⟩ := He.ba m
  have m1 := (He.ba m1).2
  obtain ⟨m, m4⟩ := He.ba m
  obtain ⟨m2, m3⟩ := He.ba m
  exact ⟨⟨m1, m2⟩, m3, m4⟩
theorem ob_ex {P : Program} (o : I.Ok) {i : Nat} (hi : i < I.ex.length) : (I.G K w P).ob i = He.ga K (I.ex.getD i "") := by
  show He.ga K (if i < 500 then I.ex.getD i "" else (I.ei.getD (i - 500) ("", "")).1) = _
  rw [if_pos (Nat.lt_of_lt_of_le hi o.exsz)]
theorem lawHd (o : I.Ok) (c : He.SaysX I.fa I.fnD I.ts I.tf I.exB w h K) (X : K.In h) (Gn : h.Ns mainGlobals mg) : Hd (I.G K w l.prog) l.prog w K mg I.fs (I.cs.map (·.1)) I.ex I.et I.Kc where
  hK := rfl
  hW := rfl
  sz := o.sz
  fn := fun i f hi => by
    have hm := List.mem_of_getElem? hi
    obtain ⟨fd, h1, h2, h3, _⟩ := fnd c X Gn (f := f) (List.mem_append.mpr (.inl (List.mem_map.mpr ⟨f, hm, rfl⟩))) (List.mem_append.mpr (.inl (List.mem_map.mpr ⟨f, hm, rfl⟩))) (o.bd.mem f hm)
    exact ⟨_, fd, h1, h2, h3⟩
  ok := fun i f hi => o.ok.mem f (List.mem_of_getElem? hi)
  bl := fun y hy => He.free_ok X Gn (c.t.d.facts (f := .free y) (by
    unfold LawI.fa
    simp only [List.mem_append, List.mem_map]
    exact .inr (.inr (.inl ⟨y, hy, rfl⟩))))
  cs := fun i y hi => by
    rw [List.getElem?_map] at hi
    cases q : I.cs[i]? with
    | none =>
      rw [q] at hi
      cases hi
    | some p =>
      rw [q] at hi
      cases hi
      have hlt : i < 1000 := Nat.lt_of_lt_of_le (List.getElem?_eq_some_iff.mp q).1 o.csz
      have hmem := List.mem_of_getElem? q
      have hKc : I.Kc i = p.2 := by
        unfold LawI.Kc
        rw [if_pos hlt, q]
      rw [hKc]
      have hfa := c.t.d.facts (f := conFa p) (by
        unfold LawI.fa
        simp only [List.mem_append, List.mem_map]
        exact .inr (.inr (.inr (.inr (.inr (.inl ⟨p, hmem, rfl⟩))))))
      have m := List.all_eq_true.mp (exB_m c.more).2.1 p hmem
      obtain ⟨nm, d⟩ := p
      cases d with
      | int j =>
        obtain ⟨t, ht⟩ := He.int_ok X Gn (x := nm) (i := j) hfa
        exact ⟨_, .int j, ht, ⟨t, rfl⟩, fun w H r => dat_int _ _ _ _⟩
      | tup ds =>
        have hg := He.glo_ok X Gn (x := nm) hfa
        refine ⟨_, .ref (He.ga K nm), hg, rfl, fun w' H r => ?_⟩
        unfold conB at m
        simp only at m
        split at m
        · rename_i cc od its n sl hl
          simp only [Bool.and_eq_true, decide_eq_true_eq] at m
          obtain ⟨m1, m2, m3⟩ := m
          subst m1
          obtain ⟨vs, v1, v2⟩ := txsV_ok (G := I.G K w l.prog) (w := w') (H := H) m3
          simp only [Dat]
          exact ⟨He.ga K nm, vs, rfl, .inr ⟨_, its, n, hl, rfl, rfl, m2, v1⟩, v2⟩
        · cases m
      | dct kvs =>
        have hg := He.glo_ok X Gn (x := nm) hfa
        refine ⟨_, .ref (He.ga K nm), hg, rfl, fun w' H r => ?_⟩
        have ht : conTs (nm, .dct kvs) = some (fun K => He.ga K nm, kvs.map fun p => ⟨p.1.toArray⟩) := rfl
        have hts : ((fun K => He.ga K nm, kvs.map fun p => ⟨p.1.toArray⟩) : He.Tab) ∈ I.ts := List.mem_filterMap.mpr ⟨_, hmem, ht⟩
        obtain ⟨j, hj⟩ := List.mem_iff_getElem?.mp hts
        obtain ⟨es, n, KD⟩ := c.t.tab j hj
        have KD : KDict K w (He.ga K nm) es n := KD
        unfold conB at m
        simp only at m
        rw [KD.at_] at m
        simp only at m
        obtain ⟨e1, e2, e3⟩ := ent_ok m
        simp only [Dat]
        refine ⟨⟨He.ga K nm, rfl, .inr ⟨es, n, KD, fun z => ?_⟩⟩, e1⟩
        have e3 := e3 z
        have hns : PySem.W.nsIn (I.G K w l.prog).K (He.ga K nm) ⟨z.toArray⟩ = (match es.toList.find? (·.key.isStr ⟨z.toArray⟩) with
          | some e => some (some e.val)
          | none => if es.toList.any (·.refKey) then none else some none) := by
          unfold PySem.W.nsIn
          show (match K.lookup (He.ga K nm) with | some ⟨_, _, .dict es _, _⟩ => _ | _ => none) = _
          rw [KD.at_] <;> rfl
        rw [hns]
        cases hq : dlook kvs z with
        | none =>
          rw [hq] at e3
          simp only at e3
          rw [e3, e2]
          exact ⟨none, rfl, rfl⟩
        | some s0 =>
          rw [hq] at e3
          obtain ⟨e, h1, h2⟩ := e3
          rw [h1]
          exact ⟨some e.val, rfl, e.val, rfl, h2⟩
      | _ => cases m
  ex := fun i y hi => by
    have hm := List.mem_of_getElem? hi
    have e0 : (I.G K w l.prog).ob i = He.ga K (I.ex.getD i "") := ob_ex o (List.getElem?_eq_some_iff.mp hi).1
    have e : I.ex.getD i "" = y := by
      rw [List.getD_eq_getElem?_getD, hi]
      rfl
    have h1 := He.glo_ok X Gn (c.t.d.facts (f := .glo y) (by
      unfold LawI.fa
      simp only [List.mem_append, List.mem_map]
      exact .inr (.inr (.inr (.inl ⟨y, hm, rfl⟩)))))
    have h2 : (He.Fa.exc y).ok K = true := c.t.d.facts (f := .exc y) (by
      unfold LawI.fa
      simp only [List.mem_append, List.mem_map]
      exact .inr (.inr (.inr (.inr (.inl ⟨y, hm, rfl⟩)))))
    obtain ⟨k1, k2⟩ := He.ba h2
    obtain ⟨k2, k3⟩ := He.ba k2
    obtain ⟨k3, k4⟩ := He.ba k3
    rw [e0]
    show mg y = some (.ref (He.ga K (I.ex.getD i ""))) ∧ PySem.W.keepIn K (.ref (He.ga K (I.ex.getD i ""))) = true ∧ PySem.W.subIn K (.ref (He.ga K (I.ex.getD i ""))) (.type "BaseException") = some true ∧ PySem.W.typeIn K (.ref (He.ga K (I.ex.getD i ""))) = some (.type "type") ∧ ∃ (B newId initId : String) (bmB : List Value), ExcBaseFacts B newId initId bmB ∧ PySem.W.excIn K (He.ga K (I.ex.getD i "")) bmB newId = true
    rw [e]
    exact ⟨h1, k2, of_decide_eq_true k3, of_decide_eq_true k4, _, _, _, _, PySem.F.excBase_ValueError, k1⟩
theorem tab_get (o : I.Ok) (hh : I.has = true) (c : He.SaysX I.fa I.fnD I.ts I.tf I.exB w h K) {f : FnI} (hf : f ∈ I.fs) (her : f.er = true) : ((He.cT K (f.nm, none)).2, lamQ f.nm) ∈ (I.G K w l.prog).T ∧ ∀ p ∈ (I.G K w l.prog).T, p.1 = (He.cT K (f.nm, none)).2 → p.2 = lamQ f.nm := by
  have hl : f ∈ I.lam := I.lam_mem hh hf her
  refine ⟨List.mem_map.mpr ⟨f, hl, rfl⟩, fun p hp e => ?_⟩
  obtain ⟨g, hg, rfl⟩ := List.mem_map.mp hp
  have m := List.all_eq_true.mp (List.all_eq_true.mp (exB_m c.more).2.2 g hg) f hl
  rw [Bool.or_eq_true] at m
  rcases m with m | m
  · show lamQ g.nm = lamQ f.nm
    rw [eq_of_beq m]
  · rw [Bool.not_eq_true'] at m
    exact absurd e (by simpa using m)
theorem lawEr (o0 : I.Ok) (hh : I.has = true) (c : He.SaysX I.fa I.fnD I.ts I.tf I.exB w h K) (X : K.In h) (Gn : h.Ns mainGlobals mg) {base : Heap} (TB : ∀ p ∈ I.tf.map (He.cT K), LamX.TabB base mg p.1 p.2) : ErHd (I.G K w l.prog) K mg base I.fs I.Kc where
  tab := fun f hf her fa fd cdv hm F hc => by
    obtain ⟨fd', h1, _, _, _⟩ := fnd c X Gn (f := f) (List.mem_append.mpr (.inl (List.mem_map.mpr ⟨f, hf, rfl⟩))) (List.mem_append.mpr (.inl (List.mem_map.mpr ⟨f, hf, rfl⟩))) (o0.bd.mem f hf)
    rw [hm] at h1
    cases h1
    obtain ⟨oc, od, dV, kV, doc, pm, an, cdv', ct, osl, rfl, lk, hcd, _, _⟩ := F.ex
    obtain ⟨cc, hcc⟩ := He.codeIn_ref hcd
    have hcc : cdv' = .ref cc := hcc
    subst hcc
    have e := He.codeOf_eq (p := (f.nm, none)) (c := cc) lk rfl
    have hc : cdv = .ref cc := hc.symm
    refine ⟨cc, (He.cT K (f.nm, none)).2, hc, ?_, fun L => tab_get o0 hh c hf her⟩
    have := TB (He.cT K (f.nm, none)) (List.mem_map.mpr ⟨(f.nm, none), List.mem_map.mpr ⟨f, I.lam_mem hh hf her, rfl⟩, rfl⟩)
    have e2 : (He.cT K (f.nm, none)).1 = cc := e
    rw [e2] at this
    exact this
  tell := by
    have o := o0.err hh
    have hef : I.ef = [I.fE, I.fN] := if_pos hh
    have mE : dDf I.fE ∈ I.fnD := List.mem_append.mpr (.inr (List.mem_append.mpr (.inl (by rw [hef]; exact List.mem_cons_self))))
    have mN : dDf I.fN ∈ I.fnD := List.mem_append.mpr (.inr (List.mem_append.mpr (.inl (by rw [hef]; exact List.mem_cons_of_mem _ List.mem_cons_self))))
    obtain ⟨fdE, e1, FE, bE, _⟩ := fnd c X Gn mE (by unfold LawI.fa; rw [hef]; simp) o.bE
    obtain ⟨fdN, n1, FN, bN, _⟩ := fnd c X Gn mN (by unfold LawI.fa; rw [hef]; simp) o.bN
    have hkn := He.glo_ok X Gn (c.t.d.facts (f := .glo I.kn) (by unfold LawI.fa; simp))
    have hve : mg "ValueError" = none := He.free_ok X Gn (c.t.d.facts (f := .free "ValueError") (by unfold LawI.fa; simp))
    have m := (exB_m c.more).1.2
    rw [List.all_eq_true] at m
    have m := fun i (hi : i < I.ex.length) => He.ba (m i (List.mem_range.mpr hi))
    have run := o.run
    rw [List.all_eq_true] at run
    have key : ∀ i, i < I.ex.length → nmF I.own (I.bs i) I.lab δE [] = some (.ret (.str (I.S i)), []) ∧ okS (I.S i) = true := fun i hi => by
      have r := run i (List.mem_range.mpr hi)
      unfold LawI.S
      split at r
      · rename_i s hs
        rw [hs]
        exact ⟨rfl, r⟩
      · cases r
    have v := o.vE
    simp only [Bool.and_eq_true] at v
    obtain ⟨⟨v1, v2⟩, v3⟩ := v
    rw [o.nE] at e1 FE
    rw [o.pE] at bE
    refine ⟨I.told, I.fN.N, defBody I.fN.st, defScope I.fN.st, defArgs I.fN.st, fdN, I.fN.ps, He.ga K I.fN.nm, He.ga K I.kn, _, I.kn, I.fN.nm, I.a, defScope I.fE.st, I.fE.N, defBody I.fE.st, defArgs I.fE.st, fdE, ?_, o.nm, o.lN, fun i hi => ?_, o.er, hkn, n1, FN, okSc_of o.sN, o.pN, bN, e1, FE, bE, ?_, ?_, ?_, v2, fun i s hs => ?_⟩
    · exact {
        hK := rfl
        cls := fun i hi => by
          rw [ob_ex o0 hi]
          exact excB_ok (m i hi).1
        len := fun i hi => by
          show I.cl.length = (I.bs i).length
          unfold LawI.bs
          rw [List.length_map]
        is_ := fun i hi j cc hj => by
          have mem := List.mem_of_getElem? hj
          have k1 := List.all_eq_true.mp (m i hi).2 cc mem
          unfold kitB at k1
          rw [ob_ex o0 hi]
          refine ⟨isVE cc || cc == I.ex.getD i "", ?_, ?_⟩
          · show (I.bs i)[j]? = _
            unfold LawI.bs
            rw [List.getElem?_map]
            have hj : I.cl[j]? = some cc := hj
            rw [hj]
            rfl
          · cases q : isVE cc with
            | true =>
              rw [q] at k1
              have ecc : cc = "ValueError" := eq_of_beq q
              subst ecc
              exact .inr ⟨"ValueError", hve, by kernel_rfl, eq_of_beq k1⟩
            | false =>
              rw [q] at k1
              refine .inl ⟨He.ga K cc, He.glo_ok X Gn (c.t.d.facts (f := .glo cc) ?_), eq_of_beq k1⟩
              unfold LawI.fa
              simp only [List.mem_append, List.mem_map, List.mem_filter]
              exact .inr (.inr (.inr (.inr (.inr (.inr (.inr ⟨cc, ⟨mem, by rw [q]; rfl⟩, rfl⟩))))))
        gl := fun cc hcc => by
          have := List.all_eq_true.mp o.gl cc hcc
          exact He.ba this
        run := fun i hi => (key i hi).1 }
    · rw [ob_ex o0 hi]
      have e : (He.Fa.exm (I.ex.getD i "") I.kn true).ok K = true := c.t.d.facts (by
        unfold LawI.fa
        simp only [List.mem_append, List.mem_map]
        refine .inr (.inr (.inr (.inr (.inr (.inr (.inl ⟨I.ex.getD i "", ?_, rfl⟩))))))
        have hi : i < I.ex.length := hi
        rw [List.getD_eq_getElem?_getD, List.getElem?_eq_getElem hi]
        exact List.getElem_mem hi)
      exact of_decide_eq_true e
    · have := okSc_of o.sE
      rw [o.pE] at this
      exact this
    · have v3 := eq_of_beq v3
      cases q : I.fE.N with
      | nil =>
        rw [q] at v3
        cases v3
      | cons a r =>
        rw [q] at v3
        exact v3
    · unfold visB at v1
      unfold Vis
      split at v1 <;> simp_all
    · unfold LawI.Kc at hs
      rw [if_neg (by omega)] at hs
      have e : 1000 + i - 1000 = i := by omega
      rw [e] at hs
      by_cases hi : i < I.ex.length
      · rw [if_pos hi] at hs
        cases hs
        exact ⟨hi, rfl, (key i hi).2⟩
      · rw [if_neg hi] at hs
        cases hs
theorem lawIn (o : I.Ok) (c : He.SaysX I.fa I.fnD I.ts I.tf I.exB w h K) (X : K.In h) (Gn : h.Ns mainGlobals mg) {base : Heap} {j : Nat} {y fl : Str} (hj : I.ei[j]? = some (y, fl)) : InitC (I.G K w l.prog) l.prog w K mg base (500 + j) y ∧ (I.G K w l.prog).fld (500 + j) = fl := by
  unfold LawI.ei at hj
  rw [List.getElem?_map] at hj
  cases q : I.exi[j]? with
  | none =>
    rw [q] at hj
    cases hj
  | some x =>
    rw [q] at hj
    cases hj
    have hx := List.mem_of_getElem? q
    have eg : I.ei.getD (500 + j - 500) ("", "") = (x.nm, x.fld) := by
      have : 500 + j - 500 = j := by omega
      rw [this, List.getD_eq_getElem?_getD]
      unfold LawI.ei
      rw [List.getElem?_map, q]
      rfl
    have eo : (I.G K w l.prog).ob (500 + j) = He.ga K x.nm := by
      show He.ga K (if 500 + j < 500 then I.ex.getD (500 + j) "" else (I.ei.getD (500 + j - 500) ("", "")).1) = _
      rw [if_neg (by omega), eg]
    have ef : (I.G K w l.prog).fld (500 + j) = x.fld := by
      show (I.ei.getD (500 + j - 500) ("", "")).2 = _
      rw [eg]
    have m := List.all_eq_true.mp (exB_m c.more).1.1 x hx
    unfold exiB at m
    simp only [Bool.and_eq_true, beq_iff_eq] at m
    obtain ⟨m1, m2, m3, m4, m5, m6, m7, m8, m9, m10, m11, m12, m13⟩ := m
    have ok := o.inO.mem x hx
    unfold okIn at ok
    simp only [Bool.and_eq_true] at ok
    obtain ⟨⟨⟨k1, k2⟩, k3⟩, k4⟩ := ok
    obtain ⟨nm, qq, N, bs, bm, sn, sub, ab, col, dd, z0, z1, z2, z3, z5, hl, hr⟩ := oexB_ok m1
    have hg := He.glo_ok X Gn (c.t.d.facts (f := .glo x.nm) (by
      unfold LawI.fa
      simp only [List.mem_append, List.mem_map]
      exact .inr (.inl (.inr (.inl ⟨x, hx, rfl⟩)))))
    have hk := He.glo_ok X Gn (c.t.d.facts (f := .glo "KinError") (by
      unfold LawI.fa
      simp))
    obtain ⟨fd, F⟩ := c.t.d.defs (d := dIn x) (by
      unfold LawI.fnD
      simp only [List.mem_append, List.mem_map]
      exact .inr (.inr ⟨x, hx, rfl⟩))
    have F : FunD K "__init__" (iqual x) (defArgs x.ini.st) (defBody x.ini.st) (defScope x.ini.st) [] [] (He.fAd K (x.nm, some "__init__")) fd := F
    have S := okSc_of k1
    have k2 := eq_of_beq k2
    refine ⟨?_, ef⟩
    exact {
      at_ := by rw [eo]; exact hg
      dbg := (okN_d k4).1
      T := by
        rw [eo]
        exact ⟨⟨nm, qq, N, bs, bm, sn, sub, ab, col, dd, z0, z1, z2, z3, z5, hl, hr⟩, He.eqO_ok m2, m3, m4, m5⟩
      hno := by
        rw [eo, ef]
        exact He.eqO_ok m6
      ini := by
        rw [eo, ef]
        refine ⟨_, fd, x.ini.ps, He.eqO_ok m7, m8, F.bindsN (o.inD.mem x hx), ?_⟩
        rw [k2] at S ⊢
        exact DX.init_ok (B := He.ga K "KinError") (mc := .type "type") F S k3 hk ⟨m11, He.eqO_ok m12⟩ (cfB_ok m13)
      xf := by
        rw [eo]
        exact xfB_ok m9
      exm := by
        rw [eo]
        exact m10 }
theorem lawXi (o : I.Ok) (c : He.SaysX I.fa I.fnD I.ts I.tf I.exB w h K) (X : K.In h) (Gn : h.Ns mainGlobals mg) {base : Heap} : XiHd (I.G K w l.prog) l.prog w K mg base I.et where
  xv := fun i y hi => by
    have hx : I.xv[i]? = some y := hi
    unfold LawI.xv at hx
    split at hx
    · have D := (lawHd (l := l) (w := w) o c X Gn).ex i y hx
      refine ⟨?_, D.1, D.2.1, D.2.2.2.2⟩
      have := List.all_eq_true.mp o.exd y (List.mem_of_getElem? hx)
      simpa using this
    · cases hx
  vc := fun n hn => by
    have m := exB_x c.more
    have hm : n ∈ I.nums := by
      have hn : okC I.xv.length I.ei.length n = true := hn
      unfold okC at hn
      unfold LawI.nums
      simp only [Bool.or_eq_true, Bool.and_eq_true, decide_eq_true_eq] at hn
      simp only [List.mem_append, List.mem_range, List.mem_map]
      rcases hn with hn | ⟨h1, h2⟩
      · exact .inl hn
      · exact .inr ⟨n - 500, by omega, by omega⟩
    exact xvB_ok (He.ba (List.all_eq_true.mp m n hm)).1
  ei := fun j y f hj => lawIn (l := l) o c X Gn hj
  cx := fun j y cs hj => by
    have hj : I.cx[j]? = some (y, cs) := hj
    have hmem := List.mem_of_getElem? hj
    have m := exB_x c.more
    have key : ∀ n, okC I.xv.length I.ei.length n = true → kitB K (He.ga K (I.clsN n)) y (cs.contains n) = true := fun n hn => by
      have hm : n ∈ I.nums := by
        unfold okC at hn
        unfold LawI.nums
        simp only [Bool.or_eq_true, Bool.and_eq_true, decide_eq_true_eq] at hn
        simp only [List.mem_append, List.mem_range, List.mem_map]
        rcases hn with hn | ⟨h1, h2⟩
        · exact .inl hn
        · exact .inr ⟨n - 500, by omega, by omega⟩
      exact List.all_eq_true.mp (He.ba (List.all_eq_true.mp m n hm)).2 _ hmem
    cases q : isVE y with
    | true =>
      have ey : y = "ValueError" := eq_of_beq q
      subst ey
      refine ⟨.ty "ValueError", .type "ValueError", .inr ⟨rfl, rfl⟩, fun u hu => hu, fun n hn => ?_⟩
      have k1 := key n hn
      unfold kitB at k1
      exact eq_of_beq k1
    | false =>
      have hg := He.glo_ok X Gn (c.t.d.facts (f := .glo y) (by
        unfold LawI.fa
        simp only [List.mem_append, List.mem_map, List.mem_filter]
        exact .inr (.inl (.inr (.inr (.inr ⟨(y, cs), ⟨hmem, by rw [q]; rfl⟩, rfl⟩))))))
      have d := List.all_eq_true.mp o.cxd _ hmem
      refine ⟨.ref (He.ga K y), .ref (He.ga K y), .inl ⟨by simpa using d, hg, rfl⟩, fun u hu => hu, fun n hn => ?_⟩
      have k1 := key n hn
      unfold kitB at k1
      rw [q] at k1
      exact eq_of_beq k1
theorem dats_ints {G : Gs} {w : Wd} {H : Hp} : ∀ ns : List Int, Dats G w H (ns.map .int) (ns.map V.int)
  | [] => by simp [Dats]
  | n :: ns => by
    simp only [List.map_cons, Dats]
    exact ⟨_, _, rfl, dat_int _ _ _ _, dats_ints ns⟩
/-- THE LAW's promise -/
theorem law_at {n k li : Nat} {x : Str} {fl : FnI} {fa : Addr} (o : I.Ok) (c : He.SaysX I.fa I.fnD I.ts I.tf I.exB w h K) (X : K.In h) (Gn : h.Ns mainGlobals mg) (hl : I.fs[li]? = some fl) (hp : fl.ps = [x]) (hm : mg fl.nm = some (.ref fa))
    (pure : ∀ ns : List Int, ns.length ≤ n → (∀ z ∈ ns, Builtin.Int.intBits z ≤ 1048576) → ∃ μ, runP I.fs I.Kc k li [.fz (ns.map .int)] [] = some (.ok (.bl true), μ)) : LamX.LawAtS l w K (L2N.CX l.prog w) k n x mg fa h := by
  have hf := List.mem_of_getElem? hl
  obtain ⟨fd, h1, F, _, hb⟩ := fnd c X Gn (f := fl) (List.mem_append.mpr (.inl (List.mem_map.mpr ⟨fl, hf, rfl⟩))) (List.mem_append.mpr (.inl (List.mem_map.mpr ⟨fl, hf, rfl⟩))) (o.bd.mem fl hf)
  rw [hm] at h1
  cases h1
  refine ⟨fd, I.tf.map (He.cT K), spD (I.G K w l.prog) (runP I.fs I.Kc k li), fun p hp => ?_, fun p hp => ?_, fun p hp => ?_, fun s u => ?_, fun H a ns hlen hbits hT hS => ?_, fun base hK hN hTB => ?_⟩
  · obtain ⟨q, hq, rfl⟩ := List.mem_map.mp hp
    exact c.empty q hq
  · obtain ⟨q, hq, rfl⟩ := List.mem_map.mp hp
    exact c.out q hq
  · obtain ⟨q, hq, rfl⟩ := List.mem_map.mp hp
    exact PySem.W.codeHd_of_K X (c.hd q hq)
  · have := hb s [u] (by rw [hp]; rfl)
    rw [hp] at this
    exact this
  · obtain ⟨μ, e⟩ := pure ns hlen hbits
    refine ⟨⟨[], []⟩, [.fz (ns.map .int)], ⟨List.nodup_nil, (fun k a c hk => (by simp at hk)), (fun a ha => (by cases ha)), (fun a ha => (by cases ha)), fun p hp => ?_⟩, ?_, ?_⟩
    · obtain ⟨f, hf, rfl⟩ := List.mem_map.mp hp
      exact LamX.TabS.nil (hT (He.cT K (f.nm, none)) (List.mem_map.mpr ⟨(f.nm, none), List.mem_map.mpr ⟨f, hf, rfl⟩, rfl⟩))
    · simp only [Dats]
      refine ⟨_, _, rfl, ?_, rfl⟩
      simp only [Dat]
      refine ⟨a, ns.map V.int, rfl, ?_, dats_ints ns⟩
      rcases hS with z | z
      · refine .inl ⟨z, fun q => ?_⟩
        rcases q with q | ⟨cc, q, _⟩ <;> cases q
      · exact .inr z
    · have e : runP I.fs I.Kc k li [.fz (ns.map .int)] ((⟨[], []⟩ : Wd).μ) = some (.ok (.bl true), μ) := e
      rw [e]
      exact fun w' H' ext r m v dv => (by simpa [Dat] using dv)
  · have D := lawHd (l := l) (w := w) o c X Gn
    have xi := lawXi (l := l) (w := w) (base := base) o c X Gn
    have er : ErAt (I.G K w l.prog) l.prog w K mg base I.fs (I.cs.map (·.1)) I.et I.Kc := by
      cases hh : I.has with
      | true =>
        exact er_at (base := base) xi D (fun f hf => by
          have := o.ok.mem f hf
          unfold okFn at this
          exact okSc_of (He.ba this).1) (lawEr o hh c X Gn hTB)
      | false =>
        intro k f fa cdv A outer s H E hf her hr hfd Fk params body scope p lpos pos g hg
        have := List.all_eq_true.mp (o.noE hh) f hf
        rw [hg] at this
        cases this
    have := fns_ok D er xi k k (Nat.le_refl k) li fl _ fd hl hm F
    rw [hp] at this
    exact this
end
end DL

set_option Elab.async false
set_option linter.all false
set_option maxRecDepth 100000
set_option maxHeartbeats 0
namespace K17
open PySem L2 DL
def top (i : Nat) : Stmt := PySem.Challenge.pw_saidkin_k17_errors_and_their_classes.main.body.getD i (.Pass ⟨0, 0, 0, 0⟩)
def c__law_vat : S := (.cons (.asg (.nm 2) (.bin .add (.bin .mul (.lit (.int 7919)) (.var 1)) (.lit (.int 43)))) (.cons (.ite (.cmp .lt (.var 1) (.blt .len (.cons (.var 0) .nil))) (.cons (.asg (.nm 2) (.blt .abs (.cons (.blt .int (.cons (.ix (.var 0) (.var 1)) .nil)) .nil))) .nil) .nil) (.cons (.ret (.cell (.cons (.ife (.cmp .ge (.var 2) (.bin .pow (.lit (.int 10)) (.lit (.int 18)))) (.var 2) (.lit (.int 0))) (.cons (.bin .add (.bin .mod (.blt .int (.cons (.bin .add (.bin .add (.bin .mul (.var 2) (.lit (.int 131071))) (.bin .mul (.lit (.int 8191)) (.var 1))) (.lit (.int 5))) .nil)) (.lit (.int 2147483629))) (.lit (.int 1))) .nil)))) .nil)))
def c__law_under : S := (.cons (.ite (.cmp .gt (.ix (.var 0) (.lit (.int 0))) (.lit (.int 0))) (.cons (.asg (.nm 3) (.bin .mod (.blt .int (.cons (.ix (.var 0) (.lit (.int 0))) .nil)) (.var 1))) (.cons (.setIx (.bin .div (.ix (.var 0) (.lit (.int 0))) (.var 1)) (.var 0) (.lit (.int 0))) (.cons (.ret (.var 3)) .nil))) .nil) (.cons (.setIx (.bin .mod (.blt .int (.cons (.bin .add (.bin .mul (.ix (.var 0) (.lit (.int 1))) (.lit (.int 39373))) (.lit (.int 101))) .nil)) (.lit (.int 2147483629))) (.var 0) (.lit (.int 1))) (.cons (.asg (.nm 2) (.bin .mod (.blt .int (.cons (.bin .mul (.ix (.var 0) (.lit (.int 1))) (.bin .add (.bin .div (.ix (.var 0) (.lit (.int 1))) (.lit (.int 5))) (.lit (.int 9)))) .nil)) (.lit (.int 2147483587)))) (.cons (.ret (.bin .mod (.blt .int (.cons (.bin .div (.var 2) (.lit (.int 32))) .nil)) (.var 1))) .nil))))
def c__law_some : S := (.cons (.ret (.ix (.var 1) (.call 1 (.cons (.var 0) (.cons (.blt .len (.cons (.var 1) .nil)) .nil))))) .nil)
def c__law_names_of : S := (.cons (.asg (.nm 1) (.lst (.cons (.isx 0 11 2 [1] (.var 0)) (.cons (.isx 1 11 2 [2] (.var 0)) (.cons (.isx 2 11 2 [3] (.var 0)) (.cons (.isx 3 11 2 [4] (.var 0)) (.cons (.isx 4 11 2 [5] (.var 0)) (.cons (.isx 5 11 2 [6] (.var 0)) (.cons (.isx 6 11 2 [7] (.var 0)) (.cons (.isx 7 11 2 [8] (.var 0)) (.cons (.isx 8 11 2 [9] (.var 0)) (.cons (.isx 9 11 2 [10] (.var 0)) (.cons (.isx 10 11 2 [501] (.var 0)) (.cons (.isx 11 11 2 [500] (.var 0)) (.cons (.isx 12 11 2 [0, 1, 2, 3, 4, 5, 6, 7, 8, 9, 10, 500, 501] (.var 0)) .nil))))))))))))))) (.cons (.asg (.nm 2) (.lit (.str [102, 97, 109, 105, 108, 121, 32, 116, 97, 108, 107, 32, 99, 108, 97, 105, 109, 32, 115, 111, 109, 101, 98, 111, 100, 121, 32, 110, 117, 109, 98, 101, 114, 32, 119, 111, 114, 100, 32, 110, 111, 110, 101, 32, 117, 110, 108, 105, 107, 101, 32, 113, 117, 97, 114, 114, 101, 108, 32, 117, 110, 100, 111, 32, 116, 101, 120, 116, 32, 109, 97, 110, 121, 32, 118, 97, 108, 117, 101]))) (.cons (.ret (.mth .join (.lit (.str [32])) (.cons (.comp [3, 4] (.tup 2 (.cons (.nm 3) (.cons (.nm 4) .nil))) (.zp (.cons (.mth .split (.var 2) (.cons (.lit (.str [32])) .nil)) (.cons (.var 1) .nil))) (.var 4) (.var 3)) .nil))) .nil)))
def c_law : S := (.cons (.asg (.nm 1) (.lit (.str [102, 97, 109, 105, 108, 121, 32, 116, 97, 108, 107, 32, 99, 108, 97, 105, 109, 32, 115, 111, 109, 101, 98, 111, 100, 121, 32, 110, 117, 109, 98, 101, 114, 32, 119, 111, 114, 100, 32, 110, 111, 110, 101, 32, 117, 110, 108, 105, 107, 101, 32, 113, 117, 97, 114, 114, 101, 108, 32, 117, 110, 100, 111, 32, 116, 101, 120, 116, 32, 109, 97, 110, 121]))) (.cons (.for (.rng (.cons (.blt .max (.cons (.lit (.int 3)) (.cons (.blt .min (.cons (.lit (.int 6)) (.cons (.blt .len (.cons (.var 0) .nil)) .nil))) .nil))) .nil)) (.nm 2) (.cons (.asg (.nm 3) (.call 0 (.cons (.var 0) (.cons (.var 2) .nil)))) (.cons (.asg (.tup 2 (.cons (.nm 5) (.cons (.nm 6) .nil))) (.tup (.cons (.call 2 (.cons (.var 3) (.cons (.lst (.cons (.lit (.str [])) (.cons (.lit (.str [110, 111, 32, 116, 97, 108, 107])) (.cons (.lit (.str [97, 32, 98, 32, 99])) .nil)))) .nil))) (.cons (.call 1 (.cons (.var 3) (.cons (.lit (.int 1000)) .nil))) .nil)))) (.cons (.asg (.nm 4) (.lst (.cons (.exn 1 (.var 5)) (.cons (.exn 2 (.var 5)) (.cons (.exn 3 (.var 5)) (.cons (.exn 4 (.var 5)) .nil)))))) (.cons (.asg (.nm 4) (.bin .add (.var 4) (.lst (.cons (.exn 5 (.var 5)) (.cons (.exn 6 (.var 5)) (.cons (.exn 7 (.var 5)) (.cons (.exn 8 (.var 5)) .nil))))))) (.cons (.asg (.nm 4) (.bin .add (.var 4) (.lst (.cons (.exn 9 (.var 5)) (.cons (.exn 10 (.var 5)) (.cons (.exi 1 (.var 6)) (.cons (.exi 0 (.var 6)) .nil))))))) (.cons (.for (.zp (.cons (.var 4) (.cons (.mth .split (.var 1) (.cons (.lit (.str [32])) .nil)) .nil))) (.tup 2 (.cons (.nm 7) (.cons (.nm 8) .nil))) (.cons (.ite (.bo false (.cmp .ne (.call 3 (.cons (.var 7) .nil)) (.bin .add (.var 8) (.lit (.str [32, 118, 97, 108, 117, 101])))) (.not (.isx 13 11 2 [0, 1, 2, 3, 4, 5, 6, 7, 8, 9, 10, 500, 501] (.var 7)))) (.cons (.ret (.lit (.bl false))) .nil) .nil) .nil)) (.cons (.ite (.cmp .ne (.comp [7] (.nm 7) (.it (.sl (.var 4) .nil (.lit (.int 10)))) (.cmp .ne (.stx 11 2 (.var 7)) (.var 5)) (.var 7)) (.lst .nil)) (.cons (.ret (.lit (.bl false))) .nil) .nil) (.cons (.ite (.cmp .ne (.call 3 (.cons (.exn 0 (.var 5)) .nil)) (.lit (.str [118, 97, 108, 117, 101]))) (.cons (.ret (.lit (.bl false))) .nil) .nil) (.cons (.ite (.bo false (.cmp .ne (.fld 1 (.ix (.var 4) (.lit (.int 10)))) (.var 6)) (.cmp .ne (.fld 0 (.ix (.var 4) (.lit (.int 11)))) (.var 6))) (.cons (.ret (.lit (.bl false))) .nil) .nil) .nil)))))))))) (.cons (.ret (.lit (.bl true))) .nil)))
def fns : List FnI := [
  ⟨"_law_vat", ["_law_script", "_law_k"], ["_law_script", "_law_k", "_law_cell"], top 15, c__law_vat, false, false⟩,
  ⟨"_law_under", ["_law_vat_here", "_law_many"], ["_law_vat_here", "_law_many", "_law_wide", "_law_found"], top 16, c__law_under, false, false⟩,
  ⟨"_law_some", ["_law_vat_here", "_law_things"], ["_law_vat_here", "_law_things"], top 17, c__law_some, false, false⟩,
  ⟨"_law_names_of", ["_law_e"], ["_law_e", "_law_some_here", "_law_labels", "_law_word", "_law_good"], top 18, c__law_names_of, false, false⟩,
  ⟨"law", ["_law_script"], ["_law_script", "_law_labels", "_law_k", "_law_vat_here", "_law_errors_so", "_law_text", "_law_at", "_law_error", "_law_word"], top 19, c_law, false, true⟩
]
def fE : FnI := ⟨"", [], [], .Pass ⟨0, 0, 0, 0⟩, .nil, false, false⟩
def fN : FnI := ⟨"", [], [], .Pass ⟨0, 0, 0, 0⟩, .nil, false, false⟩
def I : LawI := ⟨fns, [], ["KinError", "InvalidFamily", "InvalidTalk", "InvalidClaim", "InvalidSomebody", "InvalidNumber", "InvalidWord", "NoFamily", "Unlike", "Quarrel", "NothingToUndo"], [], [], [3, 4], fE, fN, "", "KinError", false, [⟨"TooMany", "limit", ⟨"__init__", ["self", "limit"], ["self", "limit"], inClass 0 (top 12), .nil, false, false⟩⟩, ⟨"InvalidText", "line", ⟨"__init__", ["self", "line"], ["self", "line"], inClass 0 (top 13), .nil, false, false⟩⟩], true, [("InvalidFamily", [1]), ("InvalidTalk", [2]), ("InvalidClaim", [3]), ("InvalidSomebody", [4]), ("InvalidNumber", [5]), ("InvalidWord", [6]), ("NoFamily", [7]), ("Unlike", [8]), ("Quarrel", [9]), ("NothingToUndo", [10]), ("InvalidText", [501]), ("TooMany", [500]), ("ValueError", [0, 1, 2, 3, 4, 5, 6, 7, 8, 9, 10, 500, 501]), ("KinError", [0, 1, 2, 3, 4, 5, 6, 7, 8, 9, 10, 500, 501])]⟩
def at_ (i : Nat) : FnI := fns.getD i ⟨"", [], [], .Pass ⟨0, 0, 0, 0⟩, .nil, true, false⟩
theorem ok__law_vat : okFn (tbOf I.fs (I.cs.map (·.1)) I.et) I.ex (at_ 0) = true := by kernel_rfl
theorem bd__law_vat : BindOk (at_ 0) := fun _ _ _ _ _ _ us hl => match us, hl with | [_, _], _ => by kernel_rfl
theorem ok__law_under : okFn (tbOf I.fs (I.cs.map (·.1)) I.et) I.ex (at_ 1) = true := by kernel_rfl
theorem bd__law_under : BindOk (at_ 1) := fun _ _ _ _ _ _ us hl => match us, hl with | [_, _], _ => by kernel_rfl
theorem ok__law_some : okFn (tbOf I.fs (I.cs.map (·.1)) I.et) I.ex (at_ 2) = true := by kernel_rfl
theorem bd__law_some : BindOk (at_ 2) := fun _ _ _ _ _ _ us hl => match us, hl with | [_, _], _ => by kernel_rfl
theorem ok__law_names_of : okFn (tbOf I.fs (I.cs.map (·.1)) I.et) I.ex (at_ 3) = true := by kernel_rfl
theorem bd__law_names_of : BindOk (at_ 3) := fun _ _ _ _ _ _ us hl => match us, hl with | [_], _ => by kernel_rfl
theorem ok_law : okFn (tbOf I.fs (I.cs.map (·.1)) I.et) I.ex (at_ 4) = true := by kernel_rfl
theorem bd_law : BindOk (at_ 4) := fun _ _ _ _ _ _ us hl => match us, hl with | [_], _ => by kernel_rfl
theorem ok : I.Ok where
  exsz := by decide
  exd := by kernel_rfl
  cxd := by kernel_rfl
  inO := ⟨(by kernel_rfl), (by kernel_rfl), trivial⟩
  inD := ⟨(fun _ _ _ _ _ _ us hl => match us, hl with | [_, _], _ => by kernel_rfl), (fun _ _ _ _ _ _ us hl => match us, hl with | [_, _], _ => by kernel_rfl), trivial⟩
  noE := fun _ => (by kernel_rfl)
  err := fun h => (by cases h)
  sz := by decide
  csz := by decide
  ok := ⟨ok__law_vat, ok__law_under, ok__law_some, ok__law_names_of, ok_law, trivial⟩
  bd := ⟨bd__law_vat, bd__law_under, bd__law_some, bd__law_names_of, bd_law, trivial⟩
end K17

set_option Elab.async false
set_option linter.all false
set_option maxRecDepth 100000
set_option maxHeartbeats 4000000
/-! DP1: plain lemmas on what cores mean. -/
namespace DL
open PySem L2
section
variable {P : Nat → List D → M D} {K : Nat → D}
theorem s_var (i : Nat) : sem' (.var i) P K = ofE (fVar i) := rfl
theorem s_lit (d : D) : sem' (.lit d) P K = ofE (fC d) := rfl
theorem s_ty (n : Nat) : sem' (.ty n) P K = ofE (fC (.ty (tyS n))) := rfl
theorem s_cst (i : Nat) : sem' (.cst i) P K = ofE (fC (K i)) := rfl
theorem s_bin (o : Bo) (a b : C) : sem' (.bin o a b) P K = ofE (fOp o.g (sem' a P K).e (sem' b P K).e) := rfl
theorem s_cmp (o : Co) (a b : C) : sem' (.cmp o a b) P K = ⟨fOp o.g (sem' a P K).e (sem' b P K).e, fB (fOp o.g (sem' a P K).e (sem' b P K).e), bad⟩ := rfl
theorem s_chn (o o' : Co) (a b c : C) : sem' (.chn o o' a b c) P K = ⟨fChain o.g o'.g (sem' a P K).e (sem' b P K).e (sem' c P K).e, fB (fChain o.g o'.g (sem' a P K).e (sem' b P K).e (sem' c P K).e), bad⟩ := rfl
theorem s_neg (a : C) : sem' (.neg a) P K = ofE (fUn (fun _ d => (toI d).map fun i => .int (-i)) (sem' a P K).e) := rfl
theorem s_not (a : C) : sem' (.not a) P K = ⟨fUn gNot (sem' a P K).e, fNot (sem' a P K).t, bad⟩ := rfl
theorem s_and (a r : C) : sem' (.bo true a r) P K = ⟨fAndV (sem' a P K).e (sem' r P K).e, fAnd (sem' a P K).t (sem' r P K).t, bad⟩ := rfl
theorem s_or (a r : C) : sem' (.bo false a r) P K = ⟨fOrV (sem' a P K).e (sem' r P K).e, fOr (sem' a P K).t (sem' r P K).t, bad⟩ := rfl
theorem s_ix (a b : C) : sem' (.ix a b) P K = ofE (fOp gIx (sem' a P K).e (sem' b P K).e) := rfl
theorem s_sl (a lo hi : C) : sem' (.sl a lo hi) P K = ofE (fSl (sem' a P K).e (part (if lo.isNil = true then none else some (sem' lo P K).e)) (part (if hi.isNil = true then none else some (sem' hi P K).e))) := rfl
theorem s_tup (as : C) : sem' (.tup as) P K = ofE (fTup (sem' as P K).a) := rfl
theorem s_lst (as : C) : sem' (.lst as) P K = ofE (fLst (sem' as P K).a) := rfl
theorem s_cell (as : C) : sem' (.cell as) P K = ofE (fCell (sem' as P K).a) := rfl
theorem s_frz (a : C) : sem' (.frz a) P K = ofE (fFrz (sem' a P K).e) := rfl
theorem s_ife (t a b : C) : sem' (.ife t a b) P K = ofE (fIf (sem' t P K).t (sem' a P K).e (sem' b P K).e) := rfl
theorem s_call (f : Nat) (as : C) : sem' (.call f as) P K = ofE (fCall (P f) (sem' as P K).a) := rfl
theorem s_call0 (f : Nat) : sem' (.call0 f) P K = ofE (fun _ => noX (P f [])) := rfl
theorem s_blt (b : Bt) (as : C) : sem' (.blt b as) P K = ofE (fDs b.g (sem' as P K).a) := rfl
theorem s_mth (m : Mt) (o as : C) : sem' (.mth m o as) P K = ofE (fMx m.T m.g (sem' o P K).e (sem' as P K).a) := rfl
theorem s_comp (own : List Nat) (g : Tg) (it te el : C) : sem' (.comp own g it te el) P K = ofE (fComp (sem' it P K).a own g.g (if te.isNil = true then fun _ => ret true else (sem' te P K).t) (sem' el P K).e) := rfl
theorem s_nil : sem' .nil P K = ofA fNil := rfl
theorem s_cons (a r : C) : sem' (.cons a r) P K = ofA (fCons (sem' a P K).e (sem' r P K).a) := rfl
theorem s_it (a : C) : sem' (.it a) P K = ofA (fItm itmA (sem' a P K).e) := rfl
theorem s_rng (as : C) : sem' (.rng as) P K = ofA (fItems itmR (sem' as P K).a) := rfl
theorem s_en (as : C) : sem' (.en as) P K = ofA (fItems itmEO (sem' as P K).a) := rfl
theorem s_zp (as : C) : sem' (.zp as) P K = ofA (fItems itmZ (sem' as P K).a) := rfl
theorem s_lrng (a : C) : sem' (.lrng a) P K = ofE (fDs gLrng (fCons (sem' a P K).e fNil)) := rfl
theorem s_rev (a : C) : sem' (.rev a) P K = ofE (fUn gRev (sem' a P K).e) := rfl
theorem s_err (a : C) : sem' (.err a) P K = ofE (fErr K (sem' a (shift P) K).e) := rfl
theorem s_dis (kvs : List (List Nat × List Nat)) : sem' (.dis kvs) P K = ofE (fC (.dct kvs)) := rfl
theorem t_nil : semS P K .nil = nxt := rfl
theorem t_cons (s r : S) : semS P K (.cons s r) = fSeq (semS P K s) (semS P K r) := rfl
theorem t_ret (c : C) : semS P K (.ret c) = fRet (sem' c P K).e := rfl
theorem t_drop (c : C) : semS P K (.drop c) = fDrop (sem' c P K).e := rfl
theorem t_asg (g : Tg) (c : C) : semS P K (.asg g c) = fAsg (sem' c P K).e g.g := rfl
theorem t_setc (i : Nat) (c : C) : semS P K (.setc i c) = fAsg (sem' c P K).e (tgN i) := rfl
theorem t_par (i j : Nat) (as : C) : semS P K (.par i j as) = fPar i j (sem' as P K).a := rfl
theorem t_par3 (i j l : Nat) (as : C) : semS P K (.par3 i j l as) = fPar3 i j l (sem' as P K).a := rfl
theorem t_setIx (c o i : C) : semS P K (.setIx c o i) = fSetIx (sem' c P K).e (sem' o P K).e (sem' i P K).e := rfl
theorem t_ite (t : C) (a r : S) : semS P K (.ite t a r) = fIte (sem' t P K).t (semS P K a) (semS P K r) := rfl
theorem t_for (it : C) (g : Tg) (b : S) : semS P K (.for it g b) = fFor (sem' it P K).a g.g (semS P K b) := rfl
theorem t_whl (n : Nat) (t : C) (b : S) : semS P K (.whl n t b) = fun δ μ => whileS (sem' t P K).t (semS P K b) n δ μ := rfl
theorem t_raise (e : Nat) : semS P K (.raise e) = fun δ μ => some (.exc ⟨e, none⟩ δ, μ) := rfl
theorem of_e (f : Env → M D) : (ofE f).e = f := rfl
theorem of_t (f : Env → M D) : (ofE f).t = fTru f := rfl
theorem of_a (f : Env → M (List D)) : (ofA f).a = f := rfl
end
/-! ### running -/
section
variable {α β : Type} {μ μ' : Mu}
theorem bnd_ok {m : M α} {k : α → M β} {a : α} (h : m μ = some (.ok a, μ')) : bnd m k μ = k a μ' := by
  unfold bnd
  rw [h]
theorem bnd_ap (m : M α) (k : α → M β) : bnd m k μ = match m μ with
  | some (.ok a, μ1) => k a μ1
  | some (.error x, μ1) => some (.error x, μ1)
  | none => none := by
  unfold bnd
  cases m μ with
  | none => rfl
  | some z =>
    obtain ⟨o, μ1⟩ := z
    cases o <;> rfl
end
/-! ### loops -/
theorem compS_pure {g : GF} {ft : Env → M Bool} {fe : Env → M D} {δ : Env} {μ : Mu} (p : D → Bool) (f : D → D) : ∀ ds : List D,
    (∀ d ∈ ds, ∃ δ1, g μ d δ = some δ1 ∧ ft δ1 μ = some (.ok (p d), μ) ∧ (p d = true → fe δ1 μ = some (.ok (f d), μ))) → compS g ft fe δ ds μ = some (.ok ((ds.filter p).map f), μ)
  | [], _ => rfl
  | d :: ds, h => by
    obtain ⟨δ1, h1, h2, h3⟩ := h d List.mem_cons_self
    have ih := compS_pure p f ds fun d hd => h d (List.mem_cons_of_mem _ hd)
    unfold compS
    rw [h1]
    simp only
    have n2 : noM (ft δ1) μ = some (.ok (p d), μ) := by
      unfold noM
      rw [h2]
    rw [bnd_ok n2]
    cases q : p d with
    | false =>
      rw [if_neg (by simp), ih, List.filter_cons, q]
      rfl
    | true =>
      have n3 : noM (fe δ1) μ = some (.ok (f d), μ) := by
        unfold noM
        rw [h3 q]
      rw [if_pos rfl, bnd_ok n3, bnd_ok ih, List.filter_cons, q]
      rfl
/-- a comprehension that changes nothing -/
theorem comp_pure {P : Nat → List D → M D} {K : Nat → D} {own : List Nat} {g : Tg} {it te el : C} {δ : Env} {μ : Mu} {ds : List D} (p : D → Bool) (f : D → D) (hi : (sem' it P K).a δ μ = some (.ok ds, μ)) (hl : ds.length ≤ line)
    (h : ∀ d ∈ ds, ∃ δ1, g.g μ d (wipeD δ own) = some δ1 ∧ (if te.isNil = true then p d = true else (sem' te P K).t δ1 μ = some (.ok (p d), μ)) ∧ (p d = true → (sem' el P K).e δ1 μ = some (.ok (f d), μ))) :
    (sem' (.comp own g it te el) P K).e δ μ = some (.ok (.lst ((ds.filter p).map f)), μ) := by
  show fComp _ _ _ _ _ δ μ = _
  unfold fComp
  rw [bnd_ok hi, if_pos hl]
  have e := compS_pure (g := g.g) (ft := if te.isNil = true then fun _ => ret true else (sem' te P K).t) (fe := (sem' el P K).e) (δ := wipeD δ own) (μ := μ) p f ds fun d hd => by
    obtain ⟨δ1, h1, h2, h3⟩ := h d hd
    refine ⟨δ1, h1, ?_, h3⟩
    split
    · rename_i z
      rw [if_pos z] at h2
      rw [h2]
      rfl
    · rename_i z
      rw [if_neg z] at h2
      exact h2
  rw [bnd_ok e]
  rfl
/-- a comprehension's elements drawn one by one; J: what stays true of the changeable -/
theorem compS_draw {g : GF} {fe : Env → M D} {δ : Env} (J : Mu → Prop) (Q : D → Prop) : ∀ (ds : List D) (μ : Mu), J μ →
    (∀ d ∈ ds, ∀ μ, J μ → ∃ δ1, g μ d δ = some δ1 ∧ ∃ y μ', fe δ1 μ = some (.ok y, μ') ∧ Q y ∧ J μ') →
    ∃ ys μ', compS g (fun _ => ret true) fe δ ds μ = some (.ok ys, μ') ∧ ys.length = ds.length ∧ (∀ y ∈ ys, Q y) ∧ J μ'
  | [], μ, hJ, _ => ⟨[], μ, rfl, rfl, fun y h => (by cases h), hJ⟩
  | d :: ds, μ, hJ, h => by
    obtain ⟨δ1, h1, y, μ1, h2, h3, h4⟩ := h d List.mem_cons_self μ hJ
    obtain ⟨ys, μ2, i1, i2, i3, i4⟩ := compS_draw J Q ds μ1 h4 fun d hd => h d (List.mem_cons_of_mem _ hd)
    refine ⟨y :: ys, μ2, ?_, by simp [i2], fun z hz => ?_, i4⟩
    · unfold compS
      rw [h1]
      simp only
      have n2 : noM (ret (α := Bool) true) μ = some (.ok true, μ) := rfl
      rw [bnd_ok n2, if_pos rfl]
      have n3 : noM (fe δ1) μ = some (.ok y, μ1) := by
        unfold noM
        rw [h2]
      rw [bnd_ok n3, bnd_ok i1]
      rfl
    · rcases List.mem_cons.mp hz with e | hz
      · rw [e]
        exact h3
      · exact i3 z hz
theorem comp_draw {P : Nat → List D → M D} {K : Nat → D} {own : List Nat} {g : Tg} {it el : C} {δ : Env} {μ μ0 : Mu} {ds : List D} (J : Mu → Prop) (Q : D → Prop) (hi : (sem' it P K).a δ μ = some (.ok ds, μ0)) (hl : ds.length ≤ line) (hJ : J μ0)
    (h : ∀ d ∈ ds, ∀ μ, J μ → ∃ δ1, g.g μ d (wipeD δ own) = some δ1 ∧ ∃ y μ', (sem' el P K).e δ1 μ = some (.ok y, μ') ∧ Q y ∧ J μ') :
    ∃ ys μ', (sem' (.comp own g it .nil el) P K).e δ μ = some (.ok (.lst ys), μ') ∧ ys.length = ds.length ∧ (∀ y ∈ ys, Q y) ∧ J μ' := by
  obtain ⟨ys, μ', h1, h2, h3, h4⟩ := compS_draw (g := g.g) (fe := (sem' el P K).e) (δ := wipeD δ own) J Q ds μ0 hJ h
  refine ⟨ys, μ', ?_, h2, h3, h4⟩
  show fComp _ _ _ _ _ δ μ = _
  unfold fComp
  rw [bnd_ok hi, if_pos hl]
  have h1 : compS g.g (if C.nil.isNil = true then fun _ => ret true else (sem' .nil P K).t) (sem' el P K).e (wipeD δ own) ds μ0 = some (.ok ys, μ') := h1
  rw [bnd_ok h1]
  rfl
/-- a loop through: an invariant by places -/
theorem loop_thru {g : GF} {body : Env → SM} (Inv : Nat → Env → Mu → Prop) : ∀ (ds : List D) (i : Nat) (δ : Env) (μ : Mu), Inv i δ μ →
    (∀ (j : Nat) (d : D) (δ : Env) (μ : Mu), ds[j]? = some d → Inv (i + j) δ μ → ∃ δ1, g μ d δ = some δ1 ∧ ∃ δ2 μ2, body δ1 μ = some (.nx δ2, μ2) ∧ Inv (i + j + 1) δ2 μ2) →
    ∃ δ' μ', loopS g body ds δ μ = some (.nx δ', μ') ∧ Inv (i + ds.length) δ' μ'
  | [], i, δ, μ, h0, _ => ⟨δ, μ, rfl, h0⟩
  | d :: ds, i, δ, μ, h0, h => by
    obtain ⟨δ1, h1, δ2, μ2, h2, h3⟩ := h 0 d δ μ rfl h0
    obtain ⟨δ', μ', h4, h5⟩ := loop_thru Inv ds (i + 1) δ2 μ2 h3 fun j d δ μ hj hI => by
      have e : i + 1 + j = i + (j + 1) := by omega
      rw [e] at hI ⊢
      exact h (j + 1) d δ μ hj hI
    refine ⟨δ', μ', ?_, ?_⟩
    · unfold loopS
      simp only [h1, h2]
      exact h4
    · have e : i + (d :: ds).length = i + 1 + ds.length := by
        rw [List.length_cons]
        omega
      rw [e]
      exact h5
theorem for_thru {P : Nat → List D → M D} {K : Nat → D} {it : C} {g : Tg} {b : S} {δ : Env} {μ μ0 : Mu} {ds : List D} (Inv : Nat → Env → Mu → Prop) (hi : (sem' it P K).a δ μ = some (.ok ds, μ0)) (h0 : Inv 0 δ μ0)
    (h : ∀ (j : Nat) (d : D) (δ : Env) (μ : Mu), ds[j]? = some d → Inv j δ μ → ∃ δ1, g.g μ d δ = some δ1 ∧ ∃ δ2 μ2, semS P K b δ1 μ = some (.nx δ2, μ2) ∧ Inv (j + 1) δ2 μ2) :
    ∃ δ' μ', semS P K (.for it g b) δ μ = some (.nx δ', μ') ∧ Inv ds.length δ' μ' := by
  obtain ⟨δ', μ', h1, h2⟩ := loop_thru (g := g.g) (body := semS P K b) Inv ds 0 δ μ0 h0 fun j d δ μ hj hI => by
    rw [Nat.zero_add] at hI ⊢
    exact h j d δ μ hj hI
  rw [Nat.zero_add] at h2
  refine ⟨δ', μ', ?_, h2⟩
  show fFor _ _ _ δ μ = _
  unfold fFor sB
  rw [hi]
  exact h1
/-- a loop that looks for what is wrong, and then ends the def -/
theorem loop_all {g : GF} {body : Env → SM} {μ : Mu} (ok : D → Bool) (r : D) (Inv : Env → Prop) : ∀ (ds : List D) (δ : Env), Inv δ →
    (∀ d ∈ ds, ∀ δ, Inv δ → ∃ δ1, g μ d δ = some δ1 ∧ (ok d = true → ∃ δ2, body δ1 μ = some (.nx δ2, μ) ∧ Inv δ2) ∧ (ok d = false → body δ1 μ = some (.ret r, μ))) →
    (ds.all ok = true → ∃ δ', loopS g body ds δ μ = some (.nx δ', μ) ∧ Inv δ') ∧ (ds.all ok = false → loopS g body ds δ μ = some (.ret r, μ))
  | [], δ, h0, _ => ⟨fun _ => ⟨δ, rfl, h0⟩, fun z => by cases z⟩
  | d :: ds, δ, h0, h => by
    obtain ⟨δ1, h1, h2, h3⟩ := h d List.mem_cons_self δ h0
    cases q : ok d with
    | false =>
      refine ⟨fun z => ?_, fun _ => ?_⟩
      · rw [List.all_cons, q] at z
        cases z
      · unfold loopS
        simp only [h1, h3 q]
    | true =>
      obtain ⟨δ2, h4, h5⟩ := h2 q
      obtain ⟨i1, i2⟩ := loop_all ok r Inv ds δ2 h5 fun d hd => h d (List.mem_cons_of_mem _ hd)
      have e : loopS g body (d :: ds) δ μ = loopS g body ds δ2 μ := by
        conv => lhs; unfold loopS
        simp only [h1, h4]
      rw [e, List.all_cons, q, Bool.true_and]
      exact ⟨i1, i2⟩
theorem for_all {P : Nat → List D → M D} {K : Nat → D} {it : C} {g : Tg} {b : S} {δ : Env} {μ : Mu} {ds : List D} (ok : D → Bool) (r : D) (Inv : Env → Prop) (hi : (sem' it P K).a δ μ = some (.ok ds, μ)) (h0 : Inv δ)
    (h : ∀ d ∈ ds, ∀ δ, Inv δ → ∃ δ1, g.g μ d δ = some δ1 ∧ (ok d = true → ∃ δ2, semS P K b δ1 μ = some (.nx δ2, μ) ∧ Inv δ2) ∧ (ok d = false → semS P K b δ1 μ = some (.ret r, μ))) :
    (ds.all ok = true → ∃ δ', semS P K (.for it g b) δ μ = some (.nx δ', μ) ∧ Inv δ') ∧ (ds.all ok = false → semS P K (.for it g b) δ μ = some (.ret r, μ)) := by
  have e : semS P K (.for it g b) δ μ = loopS g.g (semS P K b) ds δ μ := by
    show fFor _ _ _ δ μ = _
    unfold fFor sB
    rw [hi]
  rw [e]
  exact loop_all ok r Inv ds δ h0 h
/-- a loop that goes on while its measure falls -/
theorem while_falls {ft : Env → M Bool} {body : Env → SM} {μ : Mu} (Inv : Env → Prop) (m : Env → Nat) (h : ∀ δ, Inv δ → ∃ b, ft δ μ = some (.ok b, μ) ∧ (b = true → ∃ δ2, body δ μ = some (.nx δ2, μ) ∧ Inv δ2 ∧ m δ2 < m δ)) :
    ∀ (n : Nat) (δ : Env), Inv δ → m δ < n → ∃ δ', whileS ft body n δ μ = some (.nx δ', μ) ∧ Inv δ' ∧ ft δ' μ = some (.ok false, μ)
  | 0, δ, _, hm => absurd hm (Nat.not_lt_zero _)
  | n + 1, δ, hI, hm => by
    obtain ⟨b, h1, h2⟩ := h δ hI
    cases b with
    | false =>
      refine ⟨δ, ?_, hI, h1⟩
      unfold whileS sB
      rw [h1]
      rfl
    | true =>
      obtain ⟨δ2, h3, h4, h5⟩ := h2 rfl
      obtain ⟨δ', i1, i2⟩ := while_falls Inv m h n δ2 h4 (by omega)
      refine ⟨δ', ?_, i2⟩
      unfold whileS sB
      rw [h1]
      simp only [if_pos, h3]
      exact i1
/-! ### sequences of statements -/
theorem seq_nx {f f' : Env → SM} {δ δ1 : Env} {μ μ1 : Mu} (h : f δ μ = some (.nx δ1, μ1)) : fSeq f f' δ μ = f' δ1 μ1 := by
  unfold fSeq
  rw [h]
theorem seq_ret {f f' : Env → SM} {δ : Env} {μ μ1 : Mu} {d : D} (h : f δ μ = some (.ret d, μ1)) : fSeq f f' δ μ = some (.ret d, μ1) := by
  unfold fSeq
  rw [h]
theorem run_ret {n : Nat} {g : Env → SM} {ds : List D} {μ μ' : Mu} {d : D} (h : g (ds.map some ++ List.replicate (n - ds.length) none) μ = some (.ret d, μ')) : runF n g ds μ = some (.ok d, μ') := by
  unfold runF
  rw [h]
theorem run_nx {n : Nat} {g : Env → SM} {ds : List D} {μ μ' : Mu} {δ : Env} (h : g (ds.map some ++ List.replicate (n - ds.length) none) μ = some (.nx δ, μ')) : runF n g ds μ = some (.ok .non, μ') := by
  unfold runF
  rw [h]
theorem run_exc {n : Nat} {g : Env → SM} {ds : List D} {μ μ' : Mu} {x : Xc} {δ : Env} (h : g (ds.map some ++ List.replicate (n - ds.length) none) μ = some (.exc x δ, μ')) : runF n g ds μ = some (.error x, μ') := by
  unfold runF
  rw [h]
/-- a def, called: its body's end -/
theorem call_body {fs : List FnI} {K : Nat → D} {k i : Nat} {f : FnI} {ds : List D} {μ : Mu} {r : Rs D} (hi : i < 1000000) (hf : fs[i]? = some f) (he : (f.er && lowB k) = false) (hc : f.cut = false) (hl : ds.length = f.ps.length)
    (h : runF f.N.length (semS (runP fs K k) K f.b) ds μ = r) : runP fs K (k + 1) i ds μ = r := by
  rw [runP_succ fs K k i hi f hf]
  simp only [he, Bool.false_eq_true, if_false, wrapM, hc, arity, hl, if_true]
  exact h
/-! ### plain values -/
def good (n : Nat) (d : D) : Prop := d.pln = true ∧ d.dep ≤ n
theorem plns_iff : ∀ {xs : List D}, D.plns xs = true ↔ ∀ x ∈ xs, x.pln = true
  | [] => by simp [D.plns]
  | x :: xs => by
    simp only [D.plns, Bool.and_eq_true, List.forall_mem_cons]
    rw [plns_iff]
theorem deps_iff : ∀ {xs : List D} {n : Nat}, D.deps xs ≤ n ↔ ∀ x ∈ xs, x.dep ≤ n
  | [], n => by simp [D.deps]
  | x :: xs, n => by
    simp only [D.deps, List.forall_mem_cons]
    rw [Nat.max_le, deps_iff]
theorem good_tup {xs : List D} {n : Nat} : good (n + 1) (.tup xs) ↔ ∀ x ∈ xs, good n x := by
  unfold good
  simp only [D.pln, D.dep, plns_iff, Nat.add_le_add_iff_right, deps_iff]
  exact ⟨fun h x hx => ⟨h.1 x hx, h.2 x hx⟩, fun h => ⟨fun x hx => (h x hx).1, fun x hx => (h x hx).2⟩⟩
theorem good_lst {xs : List D} {n : Nat} : good (n + 1) (.lst xs) ↔ ∀ x ∈ xs, good n x := by
  unfold good
  simp only [D.pln, D.dep, plns_iff, Nat.add_le_add_iff_right, deps_iff]
  exact ⟨fun h x hx => ⟨h.1 x hx, h.2 x hx⟩, fun h => ⟨fun x hx => (h x hx).1, fun x hx => (h x hx).2⟩⟩
theorem good.mono {n m : Nat} {d : D} (h : good n d) (hm : n ≤ m) : good m d := ⟨h.1, Nat.le_trans h.2 hm⟩
theorem good.shp {n : Nat} {d : D} (h : good n d) (hn : n ≤ 64) : shp d = true := by
  unfold DL.shp
  rw [h.1, decide_eq_true (Nat.le_trans h.2 hn)]
  rfl
theorem eqv_nil (xs : List D) : D.eqv (.lst xs) (.lst []) = xs.isEmpty := by
  cases xs <;> rfl
theorem eqv_tnil (xs : List D) : D.eqv (.tup xs) (.tup []) = xs.isEmpty := by
  cases xs <;> rfl
theorem peek_pln {d : D} (μ : Mu) (h : d.pln = true) : peek μ d = d := by
  cases d <;> first | rfl | (simp [D.pln] at h)
theorem filter_none {α : Type} (p : α → Bool) (l : List α) : (l.filter fun x => !p x).isEmpty = l.all p := by
  induction l with
  | nil => rfl
  | cons a l ih =>
    rw [List.filter_cons, List.all_cons]
    cases q : p a with
    | true => simpa using ih
    | false => rfl
theorem eq_ii (a b : Int) (μ : Mu) : gEq μ (.int a) (.int b) = some (.bl (decide (a = b))) := by
  unfold gEq
  rw [if_pos ⟨rfl, rfl⟩]
  rfl
theorem ne_ii (a b : Int) (μ : Mu) : gNe μ (.int a) (.int b) = some (.bl (!decide (a = b))) := by
  unfold gNe
  rw [if_pos ⟨rfl, rfl⟩]
  rfl
theorem eq_ss (a b : List Nat) (μ : Mu) : gEq μ (.str a) (.str b) = some (.bl (decide (a = b))) := by
  unfold gEq
  rw [if_pos ⟨rfl, rfl⟩]
  show some (D.bl (a == b)) = _
  congr 2
  exact Bool.eq_iff_iff.mpr (by rw [beq_iff_eq, decide_eq_true_iff])
theorem ne_ss (a b : List Nat) (μ : Mu) : gNe μ (.str a) (.str b) = some (.bl (!decide (a = b))) := by
  unfold gNe
  rw [if_pos ⟨rfl, rfl⟩]
  show some (D.bl (!(a == b))) = _
  congr 3
  exact Bool.eq_iff_iff.mpr (by rw [beq_iff_eq, decide_eq_true_iff])
/-- a list beside the empty one -/
theorem e_nil {n : Nat} {xs : List D} {μ : Mu} (hx : ∀ x ∈ xs, good n x) (hn : n ≤ 63) : gEq μ (.lst xs) (.lst []) = some (.bl xs.isEmpty) ∧ gNe μ (.lst xs) (.lst []) = some (.bl (!xs.isEmpty)) := by
  have g1 : shp (.lst xs) = true := (good_lst.mpr hx : good (n + 1) (.lst xs)).shp (by omega)
  have e1 : peek μ (.lst xs) = .lst xs := rfl
  have e2 : peek μ (.lst []) = .lst [] := rfl
  unfold gEq gNe
  rw [e1, e2, if_pos ⟨g1, by decide⟩, if_pos ⟨g1, by decide⟩, eqv_nil]
  exact ⟨rfl, rfl⟩
/-- what is not right of a list, beside the empty list -/
theorem comp_none {P : Nat → List D → M D} {K : Nat → D} {own : List Nat} {g : Tg} {it te el : C} {δ : Env} {μ : Mu} {ds : List D} (p : D → Bool) {n : Nat} (hi : (sem' it P K).a δ μ = some (.ok ds, μ)) (hl : ds.length ≤ line) (ht : te.isNil = false) (hg : ∀ d ∈ ds, good n d) (hn : n ≤ 63)
    (h : ∀ d ∈ ds, ∃ δ1, g.g μ d (wipeD δ own) = some δ1 ∧ (sem' te P K).t δ1 μ = some (.ok (!p d), μ) ∧ (sem' el P K).e δ1 μ = some (.ok d, μ)) :
    ∃ xs, (sem' (.comp own g it te el) P K).e δ μ = some (.ok (.lst xs), μ) ∧ gEq μ (.lst xs) (.lst []) = some (.bl (ds.all p)) ∧ gNe μ (.lst xs) (.lst []) = some (.bl (!ds.all p)) := by
  refine ⟨(ds.filter fun d => !p d).map id, comp_pure (fun d => !p d) id hi hl fun d hd => ?_, ?_⟩
  · obtain ⟨δ1, h1, h2, h3⟩ := h d hd
    refine ⟨δ1, h1, ?_, fun _ => h3⟩
    rw [ht, if_neg (by simp)]
    exact h2
  · rw [List.map_id]
    obtain ⟨e1, e2⟩ := e_nil (n := n) (xs := ds.filter fun d => !p d) (μ := μ) (fun x hx => hg x (List.mem_filter.mp hx).1) hn
    rw [filter_none] at e1 e2
    exact ⟨e1, e2⟩
theorem all_chr (p : D → Bool) (s : List Nat) : (chrD s).all p = s.all fun c => p (.str [c]) := by
  unfold chrD
  rw [List.all_map]
  rfl
theorem good_chr {s : List Nat} : ∀ x ∈ chrD s, good 0 x := by
  intro x hx
  unfold chrD at hx
  rw [List.mem_map] at hx
  obtain ⟨c, _, rfl⟩ := hx
  exact ⟨rfl, Nat.le_refl 0⟩
theorem len_chr (s : List Nat) : (chrD s).length = s.length := by
  unfold chrD
  rw [List.length_map]
theorem tru_bl (μ : Mu) (b : Bool) : tru μ (.bl b) = some b := rfl
theorem tru_non (μ : Mu) : tru μ .non = some false := rfl
theorem tru_int (μ : Mu) (i : Int) : tru μ (.int i) = some (i != 0) := rfl
theorem tru_tup (μ : Mu) (xs : List D) : tru μ (.tup xs) = some (!xs.isEmpty) := rfl
theorem tru_lst (μ : Mu) (xs : List D) : tru μ (.lst xs) = some (!xs.isEmpty) := rfl
theorem isn_non (μ : Mu) : gIsNot μ .non .non = some (.bl false) := rfl
theorem isn_ne {d : D} (μ : Mu) (h : d ≠ .non) : gIsNot μ d .non = some (.bl true) := by
  cases d <;> first | rfl | exact absurd rfl h
theorem is_non (μ : Mu) : gIs μ .non .non = some (.bl true) := rfl
theorem is_ne {d : D} (μ : Mu) (h : d ≠ .non) : gIs μ d .non = some (.bl false) := by
  cases d <;> first | rfl | exact absurd rfl h
theorem ixI {α : Type} {xs : List α} {i : Int} {a : α} (h0 : 0 ≤ i) (h : xs[i.toNat]? = some a) : L2.atI xs i = some a := by
  have hl := (List.getElem?_eq_some_iff.mp h).1
  have h1 : i < xs.length := by omega
  unfold L2.atI L2.ixN
  rw [if_pos h0, if_pos h1]
  exact h
theorem ix0 {α : Type} (a : α) (r : List α) : L2.atI (a :: r) 0 = some a := ixI (by omega) rfl
theorem ix1 {α : Type} (a b : α) (r : List α) : L2.atI (a :: b :: r) 1 = some b := ixI (by omega) rfl
theorem ix2 {α : Type} (a b c : α) (r : List α) : L2.atI (a :: b :: c :: r) 2 = some c := ixI (by omega) rfl
/-- a loop that looks for what is wrong, by places -/
theorem loop_look {g : GF} {body : Env → SM} {μ : Mu} (ok : D → Bool) (r : D) (Inv : Nat → Env → Prop) : ∀ (ds : List D) (i : Nat) (δ : Env), Inv i δ →
    (∀ (j : Nat) (d : D) (δ : Env), ds[j]? = some d → Inv (i + j) δ → ∃ δ1, g μ d δ = some δ1 ∧ (ok d = true → ∃ δ2, body δ1 μ = some (.nx δ2, μ) ∧ Inv (i + j + 1) δ2) ∧ (ok d = false → body δ1 μ = some (.ret r, μ))) →
    (ds.all ok = true → ∃ δ', loopS g body ds δ μ = some (.nx δ', μ) ∧ Inv (i + ds.length) δ') ∧ (ds.all ok = false → loopS g body ds δ μ = some (.ret r, μ))
  | [], i, δ, h0, _ => ⟨fun _ => ⟨δ, rfl, h0⟩, fun z => by cases z⟩
  | d :: ds, i, δ, h0, h => by
    obtain ⟨δ1, h1, h2, h3⟩ := h 0 d δ rfl h0
    cases q : ok d with
    | false =>
      refine ⟨fun z => ?_, fun _ => ?_⟩
      · rw [List.all_cons, q] at z
        cases z
      · unfold loopS
        simp only [h1, h3 q]
    | true =>
      obtain ⟨δ2, h4, h5⟩ := h2 q
      obtain ⟨i1, i2⟩ := loop_look ok r Inv ds (i + 1) δ2 h5 fun j d δ hj hI => by
        have e : i + 1 + j = i + (j + 1) := by omega
        rw [e] at hI ⊢
        exact h (j + 1) d δ hj hI
      have e : loopS g body (d :: ds) δ μ = loopS g body ds δ2 μ := by
        conv => lhs; unfold loopS
        simp only [h1, h4]
      have e2 : i + (d :: ds).length = i + 1 + ds.length := by
        rw [List.length_cons]
        omega
      rw [e, List.all_cons, q, Bool.true_and, e2]
      exact ⟨i1, i2⟩
theorem for_look {P : Nat → List D → M D} {K : Nat → D} {it : C} {g : Tg} {b : S} {δ : Env} {μ : Mu} {ds : List D} (ok : D → Bool) (r : D) (Inv : Nat → Env → Prop) (hi : (sem' it P K).a δ μ = some (.ok ds, μ)) (h0 : Inv 0 δ)
    (h : ∀ (j : Nat) (d : D) (δ : Env), ds[j]? = some d → Inv j δ → ∃ δ1, g.g μ d δ = some δ1 ∧ (ok d = true → ∃ δ2, semS P K b δ1 μ = some (.nx δ2, μ) ∧ Inv (j + 1) δ2) ∧ (ok d = false → semS P K b δ1 μ = some (.ret r, μ))) :
    (ds.all ok = true → ∃ δ', semS P K (.for it g b) δ μ = some (.nx δ', μ) ∧ Inv ds.length δ') ∧ (ds.all ok = false → semS P K (.for it g b) δ μ = some (.ret r, μ)) := by
  have e : semS P K (.for it g b) δ μ = loopS g.g (semS P K b) ds δ μ := by
    show fFor _ _ _ δ μ = _
    unfold fFor sB
    rw [hi]
  rw [e]
  have := loop_look (g := g.g) (body := semS P K b) (μ := μ) ok r Inv ds 0 δ h0 fun j d δ hj hI => by
    rw [Nat.zero_add] at hI ⊢
    exact h j d δ hj hI
  rw [Nat.zero_add] at this
  exact this
theorem enum_get {ds : List D} {j : Nat} {e : D} (h : (enumD ds)[j]? = some e) : ∃ d, ds[j]? = some d ∧ e = .tup [.int (j : Nat), d] := by
  unfold enumD at h
  rw [List.getElem?_zipWith] at h
  cases q : ds[j]? with
  | none =>
    rw [q] at h
    cases hr : (List.range ds.length)[j]? <;> rw [hr] at h <;> cases h
  | some d =>
    have hj := (List.getElem?_eq_some_iff.mp q).1
    rw [q, List.getElem?_range hj] at h
    cases h
    exact ⟨d, rfl, rfl⟩
theorem enum_len (ds : List D) : (enumD ds).length = ds.length := by
  unfold enumD
  rw [List.length_zipWith, List.length_range, Nat.min_self]
/-- numbered from i on -/
def enI : Nat → List D → List D
  | _, [] => []
  | i, d :: ds => .tup [.int (i : Nat), d] :: enI (i + 1) ds
theorem enI_eq : ∀ (ds : List D) (i : Nat), (List.range' i ds.length).zipWith (fun i d => .tup [.int (i : Nat), d]) ds = enI i ds
  | [], i => rfl
  | d :: ds, i => by
    rw [List.length_cons, List.range'_succ, List.zipWith_cons_cons, enI_eq ds (i + 1)]
    rfl
theorem enum_enI (ds : List D) : enumD ds = enI 0 ds := by
  unfold enumD
  rw [List.range_eq_range', enI_eq]
section
variable {P : Nat → List D → M D} {K : Nat → D} {c : C} {δ : Env} {μ μ' : Mu} {d : D}
theorem asg_ok {i : Nat} (h : (sem' c P K).e δ μ = some (.ok d, μ')) : semS P K (.asg (.nm i) c) δ μ = some (.nx (δ.set i (some d)), μ') := by
  rw [t_asg]
  unfold fAsg sB
  rw [h]
  rfl
theorem setc_ok {i : Nat} (h : (sem' c P K).e δ μ = some (.ok d, μ')) : semS P K (.setc i c) δ μ = some (.nx (δ.set i (some d)), μ') := by
  rw [t_setc]
  unfold fAsg sB
  rw [h]
  rfl
theorem ret_ok (h : (sem' c P K).e δ μ = some (.ok d, μ')) : semS P K (.ret c) δ μ = some (.ret d, μ') := by
  rw [t_ret]
  unfold fRet sB
  rw [h]
theorem lift_ok {α : Type} {f : Mu → Option α} {a : α} (h : f μ = some a) : lift f μ = some (.ok a, μ) := by
  unfold lift
  rw [h]
theorem op_ok {o : Bo} {c' : C} {μ1 μ2 : Mu} {a b : D} (h1 : (sem' c P K).e δ μ = some (.ok a, μ1)) (h2 : (sem' c' P K).e δ μ1 = some (.ok b, μ2)) (h3 : o.g μ2 a b = some d) : (sem' (.bin o c c') P K).e δ μ = some (.ok d, μ2) := by
  rw [s_bin, of_e]
  unfold fOp
  rw [bnd_ok h1, bnd_ok h2]
  exact lift_ok h3
theorem ite_yes {a r : S} (h : (sem' c P K).t δ μ = some (.ok true, μ')) : semS P K (.ite c a r) δ μ = semS P K a δ μ' := by
  rw [t_ite]
  unfold fIte sB
  rw [h]
  rfl
theorem ite_no {a r : S} (h : (sem' c P K).t δ μ = some (.ok false, μ')) : semS P K (.ite c a r) δ μ = semS P K r δ μ' := by
  rw [t_ite]
  unfold fIte sB
  rw [h]
  rfl
end
theorem err_ok {P : Nat → List D → M D} {K : Nat → D} {a : C} {δ : Env} {μ μ' : Mu} {c : Nat} {s : List Nat} (h : (sem' a (shift P) K).e δ μ = some (.error ⟨c, none⟩, μ')) (hK : K (1000 + c) = .str s) : (sem' (.err a) P K).e δ μ = some (.ok (.str s), μ') := by
  rw [s_err, of_e]
  unfold fErr
  rw [h]
  simp only [hK]
section
variable {P : Nat → List D → M D} {K : Nat → D} {δ : Env} {μ μ' : Mu} {a r : C}
theorem orv_yes (h : (sem' a P K).e δ μ = some (.ok (.bl true), μ')) : (sem' (.bo false a r) P K).e δ μ = some (.ok (.bl true), μ') := by
  have e : (sem' (.bo false a r) P K).e = fOrV (sem' a P K).e (sem' r P K).e := rfl
  rw [e]
  unfold fOrV
  rw [bnd_ok h]
  rfl
theorem orv_no (h : (sem' a P K).e δ μ = some (.ok (.bl false), μ')) : (sem' (.bo false a r) P K).e δ μ = (sem' r P K).e δ μ' := by
  have e : (sem' (.bo false a r) P K).e = fOrV (sem' a P K).e (sem' r P K).e := rfl
  rw [e]
  unfold fOrV
  rw [bnd_ok h]
  have e2 : lift (fun _ => toB (.bl false)) μ' = some (.ok false, μ') := rfl
  rw [bnd_ok e2]
  rfl
theorem cmp_ok {o : Co} {μ1 μ2 : Mu} {x y d : D} (h1 : (sem' a P K).e δ μ = some (.ok x, μ1)) (h2 : (sem' r P K).e δ μ1 = some (.ok y, μ2)) (h3 : o.g μ2 x y = some d) : (sem' (.cmp o a r) P K).e δ μ = some (.ok d, μ2) := by
  have e : (sem' (.cmp o a r) P K).e = fOp o.g (sem' a P K).e (sem' r P K).e := rfl
  rw [e]
  unfold fOp
  rw [bnd_ok h1, bnd_ok h2]
  exact lift_ok h3
theorem cmp_t {o : Co} {μ1 : Mu} {b : Bool} (h : (sem' (.cmp o a r) P K).e δ μ = some (.ok (.bl b), μ1)) : (sem' (.cmp o a r) P K).t δ μ = some (.ok b, μ1) := by
  have e : (sem' (.cmp o a r) P K).t = fB (sem' (.cmp o a r) P K).e := rfl
  rw [e]
  unfold fB
  rw [bnd_ok h]
  rfl
theorem args_ok {d : D} {ds : List D} {μ1 μ2 : Mu} (h1 : (sem' a P K).e δ μ = some (.ok d, μ1)) (h2 : (sem' r P K).a δ μ1 = some (.ok ds, μ2)) : (sem' (.cons a r) P K).a δ μ = some (.ok (d :: ds), μ2) := by
  rw [s_cons, of_a]
  unfold fCons
  rw [bnd_ok h1, bnd_ok h2]
  rfl
theorem call_ok {f : Nat} {ds : List D} {μ1 : Mu} {R : Rs D} (h1 : (sem' a P K).a δ μ = some (.ok ds, μ1)) (h2 : P f ds μ1 = R) : (sem' (.call f a) P K).e δ μ = R := by
  rw [s_call, of_e]
  unfold fCall
  rw [bnd_ok h1]
  exact h2
end
end DL

set_option Elab.async false
set_option linter.all false
set_option maxRecDepth 100000
set_option maxHeartbeats 4000000
namespace K17
open PySem L2 DL
abbrev Kc : Nat → D := I.Kc
abbrev rn (k i : Nat) (ds : List D) (μ : Mu) : Rs D := runP fns Kc k i ds μ
def words : D := .tup [.str [112, 97, 114, 101, 110, 116], .str [103, 114, 97, 110, 100, 112, 97, 114, 101, 110, 116], .str [115, 105, 98, 108, 105, 110, 103], .str [104, 97, 108, 102], .str [97, 117, 110, 116], .str [99, 111, 117, 115, 105, 110]]
def conD : List (List Nat × List Nat) := [([115, 97, 109, 101], [117, 110, 108, 105, 107, 101]), ([117, 110, 108, 105, 107, 101], [115, 97, 109, 101]), ([119, 111, 109, 97, 110], [109, 97, 110]), ([109, 97, 110], [119, 111, 109, 97, 110])]
end K17

set_option Elab.async false
set_option linter.all false
set_option maxRecDepth 100000
set_option maxHeartbeats 4000000
namespace K17
open PySem L2 DL
/-! ### whole numbers -/
def isW : D → Int → Int → Bool
  | .int i, a, b => decide (a ≤ i) && decide (i ≤ b)
  | _, _, _ => false
/-! ### ways -/
def isWay : D → Int → Bool
  | .str s, m => decide ((s.length : Int) ≤ m) && s.all fun c => decide (c ∈ [109, 102])
  | _, _ => false
end K17

set_option Elab.async false
set_option linter.all false
set_option maxRecDepth 100000
set_option maxHeartbeats 4000000
namespace K17
open PySem L2 DL
def intD (a : Nat) : D := .int a
theorem ltl {n : Nat} (h : n ≤ 16000000) : n ≤ line := by
  have : line = 16777216 := rfl
  omega
theorem rng_int (n : Nat) : rngD (n : Int) = (List.range n).map intD := by
  unfold rngD
  rw [Int.toNat_natCast]
  rfl
theorem len3 {xs : List D} (h : xs.length = 3) : ∃ a b c, xs = [a, b, c] := by
  match xs, h with
  | [a, b, c], _ => exact ⟨a, b, c, rfl⟩
theorem len2 {xs : List D} (h : xs.length = 2) : ∃ a b, xs = [a, b] := by
  match xs, h with
  | [a, b], _ => exact ⟨a, b, rfl⟩
def isT_ : D → Bool
  | .tup _ => true
  | _ => false
theorem isi_tup {d : D} (μ : Mu) (h : d.pln = true) : gIsi μ [d, .ty "tuple"] = some (.bl (isT_ d)) := by
  cases d <;> first | rfl | (simp [D.pln] at h)
def whoD (w : Nat) (s : List Nat) : D := .tup [.int w, .str s]
/-! ### somebody -/
def isSome_ (n : Int) (v : D) (m : Int) : Bool := match v with
  | .tup [a, b] => isW a 0 (n - 1) && isWay b m
  | _ => false
theorem some_no {n m : Int} {xs : List D} (h : xs.length ≠ 2) : isSome_ n (.tup xs) m = false := by
  match xs, h with
  | [], _ => rfl
  | [a], _ => rfl
  | [a, b], h => exact absurd rfl h
  | a :: b :: c :: r, _ => rfl
theorem isW_int {a N : Nat} (h : a < N) : isW (intD a) 0 ((N : Int) - 1) = true := by
  unfold isW intD
  simp
  omega
theorem some_who {N w : Nat} {s : List Nat} (hw : w < N) (hl : s.length ≤ 30) (hc : ∀ c ∈ s, c = 109 ∨ c = 102) : isSome_ N (whoD w s) 30 = true := by
  have e1 : isW (.int w) 0 ((N : Int) - 1) = true := isW_int hw
  have e2 : isWay (.str s) 30 = true := by
    simp only [isWay, Bool.and_eq_true, decide_eq_true_eq, List.all_eq_true]
    exact ⟨by omega, fun c hcc => by simpa using hc c hcc⟩
  show (isW (.int w) 0 ((N : Int) - 1) && isWay (.str s) 30) = true
  rw [e1, e2]
  rfl
theorem who_pln (w : Nat) (s : List Nat) : (whoD w s).pln = true := rfl
theorem who_len {w : Nat} {s : List Nat} (hl : s.length ≤ 30) : ∀ a t, whoD w s = .tup [a, .str t] → t.length ≤ line := by
  intro a t e
  cases e
  exact ltl (by omega)
end K17

set_option Elab.async false
set_option linter.all false
set_option maxRecDepth 100000
set_option maxHeartbeats 4000000
namespace K17
open PySem L2 DL
/-- what draws come from stands at j; nothing else is changeable -/
def Pr (c : CO) : Prop := ∃ x y : Int, c = .lst [.int x, .int y]
def VS (j : Nat) (μ : Mu) : Prop := (∃ x y : Int, μ[j]? = some (.lst [.int x, .int y])) ∧ ∀ c ∈ μ, Pr c
theorem VS.set {j : Nat} {μ : Mu} (h : VS j μ) (x y : Int) : VS j (μ.set j (.lst [.int x, .int y])) := by
  obtain ⟨⟨a, b, h⟩, h2⟩ := h
  refine ⟨⟨x, y, List.getElem?_set_self (List.getElem?_eq_some_iff.mp h).1⟩, fun c hc => ?_⟩
  rcases List.mem_or_eq_of_mem_set hc with z | z
  · exact h2 c z
  · exact ⟨x, y, z⟩
theorem under_pos (x y n : Int) (k j : Nat) (μ : Mu) (hj : μ[j]? = some (.lst [.int x, .int y])) (hx : 0 < x) (hn : 0 < n) (hn2 : n < 1073741824) :
    rn (k + 1) 1 [.loc j, .int n] μ = some (.ok (.int (x % n)), μ.set j (.lst [.int (x / n), .int y])) := by
  refine call_body (by decide) rfl rfl rfl rfl (run_ret ?_)
  show semS (runP fns Kc k) Kc c__law_under [some (.loc j), some (.int n), none, none] μ = _
  simp [s_var, s_lit, s_ty, s_cst, s_bin, s_cmp, s_chn, s_neg, s_not, s_and, s_or, s_ix, s_sl, s_tup, s_lst, s_cell, s_frz, s_ife, s_call, s_call0, s_blt, s_mth, s_nil, s_cons, s_it, s_en, s_zp, s_lrng, s_rev, s_err, s_dis, t_nil, t_cons, t_ret, t_drop, t_asg, t_setc, t_par, t_par3, t_setIx, t_ite, t_raise, of_e, of_t, of_a, fSeq, fRet, fDrop, fIte, fAsg, fPar, fPar3, fSetIx, sB, nxt, oNx, Tg.g, Tg.gs, tgN, tgX, tgsC, tgsN, bnd, lift, DL.ret, fVar, fC, fOp, fUn, fDs, fCons, fNil, fTup, fLst, fTru, fB, fNot, fAnd, fOr, fIf, fAndV, fOrV, fChain, fCall, fSl, part, fPart, fNoPart, C.isNil, fItm, fItems, wipeD, Bo.g, Co.g, Bt.g, gI, yes2, gLt, gLe, gGt, gGe, DL.gSub, gSub2, gDiv, gMod, toI, toB, peek, eq_ii, ne_ii, eq_ss, ne_ss, gIs, gIsNot, isC, gNot, gLen, gIsi, isT, tyN, tyS, gInt, gIx, gAdd2, gAdd, itmA, itmEO, Option.bind, Option.map, Option.join, List.set, tru_bl, tru_int, tru_tup, tru_lst, tru_non, c__law_under, hj, hx, hn, hn2, ix0, ix1, L2.ixN]
theorem under_neg (x y n : Int) (k j : Nat) (μ : Mu) (hj : μ[j]? = some (.lst [.int x, .int y])) (hl : j < μ.length) (hx : x ≤ 0) (hn : 0 < n) :
    ∃ r z : Int, 0 ≤ r ∧ r < n ∧ rn (k + 1) 1 [.loc j, .int n] μ = some (.ok (.int r), μ.set j (.lst [.int x, .int z])) := by
  refine ⟨((y * 39373 + 101) % 2147483629 * ((y * 39373 + 101) % 2147483629 / 5 + 9)) % 2147483587 / 32 % n, (y * 39373 + 101) % 2147483629, Int.emod_nonneg _ (by omega), Int.emod_lt_of_pos _ hn, ?_⟩
  refine call_body (by decide) rfl rfl rfl rfl (run_ret ?_)
  show semS (runP fns Kc k) Kc c__law_under [some (.loc j), some (.int n), none, none] μ = _
  have hx' : ¬ 0 < x := by omega
  have hs : ∀ v : CO, (μ.set j v)[j]? = some v := fun v => List.getElem?_set_self hl
  have hz1 : -18446744073709551616 < (y * 39373 + 101) % 2147483629 := by omega
  have hz2 : (y * 39373 + 101) % 2147483629 < 18446744073709551616 := by omega
  simp [s_var, s_lit, s_ty, s_cst, s_bin, s_cmp, s_chn, s_neg, s_not, s_and, s_or, s_ix, s_sl, s_tup, s_lst, s_cell, s_frz, s_ife, s_call, s_call0, s_blt, s_mth, s_nil, s_cons, s_it, s_en, s_zp, s_lrng, s_rev, s_err, s_dis, t_nil, t_cons, t_ret, t_drop, t_asg, t_setc, t_par, t_par3, t_setIx, t_ite, t_raise, of_e, of_t, of_a, fSeq, fRet, fDrop, fIte, fAsg, fPar, fPar3, fSetIx, sB, nxt, oNx, Tg.g, Tg.gs, tgN, tgX, tgsC, tgsN, bnd, lift, DL.ret, fVar, fC, fOp, fUn, fDs, fCons, fNil, fTup, fLst, fTru, fB, fNot, fAnd, fOr, fIf, fAndV, fOrV, fChain, fCall, fSl, part, fPart, fNoPart, C.isNil, fItm, fItems, wipeD, Bo.g, Co.g, Bt.g, gI, yes2, gLt, gLe, gGt, gGe, DL.gSub, gSub2, gDiv, gMod, toI, toB, peek, eq_ii, ne_ii, eq_ss, ne_ss, gIs, gIsNot, isC, gNot, gLen, gIsi, isT, tyN, tyS, gInt, gIx, gAdd2, gAdd, itmA, itmEO, Option.bind, Option.map, Option.join, List.set, tru_bl, tru_int, tru_tup, tru_lst, tru_non, c__law_under, hj, hs, hx', hn, hz1, hz2, List.set_set, ix0, ix1, L2.ixN, gMul]
theorem r_under (k j : Nat) (n : Nat) (hn : 0 < n) (hn2 : n < 1000000) (μ : Mu) (hv : VS j μ) : ∃ (r : Nat) (μ' : Mu), rn (k + 1) 1 [.loc j, .int n] μ = some (.ok (.int r), μ') ∧ r < n ∧ VS j μ' := by
  have hv0 := hv
  obtain ⟨⟨x, y, h⟩, _⟩ := hv
  by_cases hx : 0 < x
  · have e := under_pos x y n k j μ h hx (by omega) (by omega)
    have h0 : 0 ≤ x % (n : Int) := Int.emod_nonneg _ (by omega)
    have h1 : x % (n : Int) < n := Int.emod_lt_of_pos _ (by omega)
    refine ⟨(x % (n : Int)).toNat, _, ?_, by omega, hv0.set (x / n) y⟩
    rw [e, Int.toNat_of_nonneg h0]
  · obtain ⟨r, z, h0, h1, e⟩ := under_neg x y n k j μ h (List.getElem?_eq_some_iff.mp h).1 (by omega) (by omega)
    refine ⟨r.toNat, _, ?_, by omega, hv0.set x z⟩
    rw [e, Int.toNat_of_nonneg h0]
theorem r_some (k j : Nat) (xs : List D) (hx : 0 < xs.length) (hl : xs.length ≤ 1000) (μ : Mu) (hv : VS j μ) : ∃ (x : D) (μ' : Mu), rn (k + 2) 2 [.loc j, .lst xs] μ = some (.ok x, μ') ∧ x ∈ xs ∧ VS j μ' := by
  obtain ⟨r, μ', e, hr, hv'⟩ := r_under k j xs.length hx (by omega) μ hv
  refine ⟨xs[r], μ', ?_, List.getElem_mem hr, hv'⟩
  refine call_body (by decide) rfl rfl rfl rfl (run_ret ?_)
  show semS (runP fns Kc (k + 1)) Kc c__law_some [some (.loc j), some (.lst xs)] μ = _
  have hi : L2.atI xs (r : Int) = some xs[r] := ixI (by omega) (by rw [Int.toNat_natCast]; exact List.getElem?_eq_getElem hr)
  have e : runP fns Kc (k + 1) 1 [.loc j, .int xs.length] μ = _ := e
  simp [s_var, s_lit, s_ty, s_cst, s_bin, s_cmp, s_chn, s_neg, s_not, s_and, s_or, s_ix, s_sl, s_tup, s_lst, s_cell, s_frz, s_ife, s_call, s_call0, s_blt, s_mth, s_nil, s_cons, s_it, s_en, s_zp, s_lrng, s_rev, s_err, s_dis, t_nil, t_cons, t_ret, t_drop, t_asg, t_setc, t_par, t_par3, t_setIx, t_ite, t_raise, of_e, of_t, of_a, fSeq, fRet, fDrop, fIte, fAsg, fPar, fPar3, fSetIx, sB, nxt, oNx, Tg.g, Tg.gs, tgN, tgX, tgsC, tgsN, bnd, lift, DL.ret, fVar, fC, fOp, fUn, fDs, fCons, fNil, fTup, fLst, fTru, fB, fNot, fAnd, fOr, fIf, fAndV, fOrV, fChain, fCall, fSl, part, fPart, fNoPart, C.isNil, fItm, fItems, wipeD, Bo.g, Co.g, Bt.g, gI, yes2, gLt, gLe, gGt, gGe, DL.gSub, gSub2, gDiv, gMod, toI, toB, peek, eq_ii, ne_ii, eq_ss, ne_ss, gIs, gIsNot, isC, gNot, gLen, gIsi, isT, tyN, tyS, gInt, gIx, gAdd2, gAdd, itmA, itmEO, Option.bind, Option.map, Option.join, List.set, tru_bl, tru_int, tru_tup, tru_lst, tru_non, c__law_some, e, hi]
theorem r_vat (k : Nat) (ns : List Int) (i : Nat) (μ : Mu) : ∃ x y : Int, rn (k + 1) 0 [.fz (ns.map .int), .int i] μ = some (.ok (.loc μ.length), μ ++ [.lst [.int x, .int y]]) := by
  have h2 : 2 ≤ line := ltl (by omega)
  have key : ∀ c : Int, ∃ x y : Int, semS (runP fns Kc k) Kc (.ret (.cell (.cons (.ife (.cmp .ge (.var 2) (.bin .pow (.lit (.int 10)) (.lit (.int 18)))) (.var 2) (.lit (.int 0))) (.cons (.bin .add (.bin .mod (.blt .int (.cons (.bin .add (.bin .add (.bin .mul (.var 2) (.lit (.int 131071))) (.bin .mul (.lit (.int 8191)) (.var 1))) (.lit (.int 5))) .nil)) (.lit (.int 2147483629))) (.lit (.int 1))) .nil)))) [some (.fz (ns.map .int)), some (.int i), some (.int c)] μ = some (.ret (.loc μ.length), μ ++ [.lst [.int x, .int y]]) := by
    intro c
    by_cases hc : 10 ^ 18 ≤ c
    · refine ⟨c, (c * 131071 + 8191 * i + 5) % 2147483629 + 1, ?_⟩
      have hc' : (1000000000000000000 : Int) ≤ c := by omega
      simp [s_var, s_lit, s_ty, s_cst, s_bin, s_cmp, s_chn, s_neg, s_not, s_and, s_or, s_ix, s_sl, s_tup, s_lst, s_cell, s_frz, s_ife, s_call, s_call0, s_blt, s_mth, s_nil, s_cons, s_it, s_en, s_zp, s_lrng, s_rev, s_err, s_dis, t_nil, t_cons, t_ret, t_drop, t_asg, t_setc, t_par, t_par3, t_setIx, t_ite, t_raise, of_e, of_t, of_a, fSeq, fRet, fDrop, fIte, fAsg, fPar, fPar3, fSetIx, sB, nxt, oNx, Tg.g, Tg.gs, tgN, tgX, tgsC, tgsN, bnd, lift, DL.ret, fVar, fC, fOp, fUn, fDs, fCons, fNil, fTup, fLst, fTru, fB, fNot, fAnd, fOr, fIf, fAndV, fOrV, fChain, fCall, fSl, part, fPart, fNoPart, C.isNil, fItm, fItems, wipeD, Bo.g, Co.g, Bt.g, gI, yes2, gLt, gLe, gGt, gGe, DL.gSub, gSub2, gDiv, gMod, toI, toB, peek, eq_ii, ne_ii, eq_ss, ne_ss, gIs, gIsNot, isC, gNot, gLen, gIsi, isT, tyN, tyS, gInt, gIx, gAdd2, gAdd, itmA, itmEO, Option.bind, Option.map, Option.join, List.set, tru_bl, tru_int, tru_tup, tru_lst, tru_non, gPow, gMul, fCell, h2, hc']
    · refine ⟨0, (c * 131071 + 8191 * i + 5) % 2147483629 + 1, ?_⟩
      have hc' : ¬ (1000000000000000000 : Int) ≤ c := by omega
      simp [s_var, s_lit, s_ty, s_cst, s_bin, s_cmp, s_chn, s_neg, s_not, s_and, s_or, s_ix, s_sl, s_tup, s_lst, s_cell, s_frz, s_ife, s_call, s_call0, s_blt, s_mth, s_nil, s_cons, s_it, s_en, s_zp, s_lrng, s_rev, s_err, s_dis, t_nil, t_cons, t_ret, t_drop, t_asg, t_setc, t_par, t_par3, t_setIx, t_ite, t_raise, of_e, of_t, of_a, fSeq, fRet, fDrop, fIte, fAsg, fPar, fPar3, fSetIx, sB, nxt, oNx, Tg.g, Tg.gs, tgN, tgX, tgsC, tgsN, bnd, lift, DL.ret, fVar, fC, fOp, fUn, fDs, fCons, fNil, fTup, fLst, fTru, fB, fNot, fAnd, fOr, fIf, fAndV, fOrV, fChain, fCall, fSl, part, fPart, fNoPart, C.isNil, fItm, fItems, wipeD, Bo.g, Co.g, Bt.g, gI, yes2, gLt, gLe, gGt, gGe, DL.gSub, gSub2, gDiv, gMod, toI, toB, peek, eq_ii, ne_ii, eq_ss, ne_ss, gIs, gIsNot, isC, gNot, gLen, gIsi, isT, tyN, tyS, gInt, gIx, gAdd2, gAdd, itmA, itmEO, Option.bind, Option.map, Option.join, List.set, tru_bl, tru_int, tru_tup, tru_lst, tru_non, gPow, gMul, fCell, h2, hc']
  have e1 : semS (runP fns Kc k) Kc (.asg (.nm 2) (.bin .add (.bin .mul (.lit (.int 7919)) (.var 1)) (.lit (.int 43)))) [some (.fz (ns.map .int)), some (.int i), none] μ = some (.nx [some (.fz (ns.map .int)), some (.int i), some (.int (7919 * i + 43))], μ) := by
    simp [s_var, s_lit, s_ty, s_cst, s_bin, s_cmp, s_chn, s_neg, s_not, s_and, s_or, s_ix, s_sl, s_tup, s_lst, s_cell, s_frz, s_ife, s_call, s_call0, s_blt, s_mth, s_nil, s_cons, s_it, s_en, s_zp, s_lrng, s_rev, s_err, s_dis, t_nil, t_cons, t_ret, t_drop, t_asg, t_setc, t_par, t_par3, t_setIx, t_ite, t_raise, of_e, of_t, of_a, fSeq, fRet, fDrop, fIte, fAsg, fPar, fPar3, fSetIx, sB, nxt, oNx, Tg.g, Tg.gs, tgN, tgX, tgsC, tgsN, bnd, lift, DL.ret, fVar, fC, fOp, fUn, fDs, fCons, fNil, fTup, fLst, fTru, fB, fNot, fAnd, fOr, fIf, fAndV, fOrV, fChain, fCall, fSl, part, fPart, fNoPart, C.isNil, fItm, fItems, wipeD, Bo.g, Co.g, Bt.g, gI, yes2, gLt, gLe, gGt, gGe, DL.gSub, gSub2, gDiv, gMod, toI, toB, peek, eq_ii, ne_ii, eq_ss, ne_ss, gIs, gIsNot, isC, gNot, gLen, gIsi, isT, tyN, tyS, gInt, gIx, gAdd2, gAdd, itmA, itmEO, Option.bind, Option.map, Option.join, List.set, tru_bl, tru_int, tru_tup, tru_lst, tru_non, gMul]
  by_cases hi : i < ns.length
  · obtain ⟨x, y, e⟩ := key (if ns[i] < 0 then -ns[i] else ns[i])
    refine ⟨x, y, ?_⟩
    refine call_body (by decide) rfl rfl rfl rfl (run_ret ?_)
    show fSeq _ _ [some (.fz (ns.map .int)), some (.int i), none] μ = _
    refine (seq_nx e1).trans ?_
    have hix : L2.atI (ns.map D.int) (i : Int) = some (.int ns[i]) := ixI (by omega) (by
      rw [Int.toNat_natCast, List.getElem?_map, List.getElem?_eq_getElem hi]
      rfl)
    have e2 : semS (runP fns Kc k) Kc (.ite (.cmp .lt (.var 1) (.blt .len (.cons (.var 0) .nil))) (.cons (.asg (.nm 2) (.blt .abs (.cons (.blt .int (.cons (.ix (.var 0) (.var 1)) .nil)) .nil))) .nil) .nil) [some (.fz (ns.map .int)), some (.int i), some (.int (7919 * i + 43))] μ = some (.nx [some (.fz (ns.map .int)), some (.int i), some (.int (if ns[i] < 0 then -ns[i] else ns[i]))], μ) := by
      simp [s_var, s_lit, s_ty, s_cst, s_bin, s_cmp, s_chn, s_neg, s_not, s_and, s_or, s_ix, s_sl, s_tup, s_lst, s_cell, s_frz, s_ife, s_call, s_call0, s_blt, s_mth, s_nil, s_cons, s_it, s_en, s_zp, s_lrng, s_rev, s_err, s_dis, t_nil, t_cons, t_ret, t_drop, t_asg, t_setc, t_par, t_par3, t_setIx, t_ite, t_raise, of_e, of_t, of_a, fSeq, fRet, fDrop, fIte, fAsg, fPar, fPar3, fSetIx, sB, nxt, oNx, Tg.g, Tg.gs, tgN, tgX, tgsC, tgsN, bnd, lift, DL.ret, fVar, fC, fOp, fUn, fDs, fCons, fNil, fTup, fLst, fTru, fB, fNot, fAnd, fOr, fIf, fAndV, fOrV, fChain, fCall, fSl, part, fPart, fNoPart, C.isNil, fItm, fItems, wipeD, Bo.g, Co.g, Bt.g, gI, yes2, gLt, gLe, gGt, gGe, DL.gSub, gSub2, gDiv, gMod, toI, toB, peek, eq_ii, ne_ii, eq_ss, ne_ss, gIs, gIsNot, isC, gNot, gLen, gIsi, isT, tyN, tyS, gInt, gIx, gAdd2, gAdd, itmA, itmEO, Option.bind, Option.map, Option.join, List.set, tru_bl, tru_int, tru_tup, tru_lst, tru_non, hi, hix, gAbs]
    refine (seq_nx e2).trans ?_
    exact seq_ret e
  · obtain ⟨x, y, e⟩ := key (7919 * i + 43)
    refine ⟨x, y, ?_⟩
    refine call_body (by decide) rfl rfl rfl rfl (run_ret ?_)
    show fSeq _ _ [some (.fz (ns.map .int)), some (.int i), none] μ = _
    refine (seq_nx e1).trans ?_
    have e2 : semS (runP fns Kc k) Kc (.ite (.cmp .lt (.var 1) (.blt .len (.cons (.var 0) .nil))) (.cons (.asg (.nm 2) (.blt .abs (.cons (.blt .int (.cons (.ix (.var 0) (.var 1)) .nil)) .nil))) .nil) .nil) [some (.fz (ns.map .int)), some (.int i), some (.int (7919 * i + 43))] μ = some (.nx [some (.fz (ns.map .int)), some (.int i), some (.int (7919 * i + 43))], μ) := by
      simp [s_var, s_lit, s_ty, s_cst, s_bin, s_cmp, s_chn, s_neg, s_not, s_and, s_or, s_ix, s_sl, s_tup, s_lst, s_cell, s_frz, s_ife, s_call, s_call0, s_blt, s_mth, s_nil, s_cons, s_it, s_en, s_zp, s_lrng, s_rev, s_err, s_dis, t_nil, t_cons, t_ret, t_drop, t_asg, t_setc, t_par, t_par3, t_setIx, t_ite, t_raise, of_e, of_t, of_a, fSeq, fRet, fDrop, fIte, fAsg, fPar, fPar3, fSetIx, sB, nxt, oNx, Tg.g, Tg.gs, tgN, tgX, tgsC, tgsN, bnd, lift, DL.ret, fVar, fC, fOp, fUn, fDs, fCons, fNil, fTup, fLst, fTru, fB, fNot, fAnd, fOr, fIf, fAndV, fOrV, fChain, fCall, fSl, part, fPart, fNoPart, C.isNil, fItm, fItems, wipeD, Bo.g, Co.g, Bt.g, gI, yes2, gLt, gLe, gGt, gGe, DL.gSub, gSub2, gDiv, gMod, toI, toB, peek, eq_ii, ne_ii, eq_ss, ne_ss, gIs, gIsNot, isC, gNot, gLen, gIsi, isT, tyN, tyS, gInt, gIx, gAdd2, gAdd, itmA, itmEO, Option.bind, Option.map, Option.join, List.set, tru_bl, tru_int, tru_tup, tru_lst, tru_non, hi]
    refine (seq_nx e2).trans ?_
    exact seq_ret e
theorem itmR_small (r : Nat) (h : r < 1000) : itmR [.int r] = some (rngD r) := by
  unfold itmR
  exact if_pos ⟨by omega, by omega⟩
theorem rng_ok {P : Nat → List D → M D} {c : C} {r : Nat} {δ : DL.Env} {μ μ1 : Mu} (h : (sem' c P Kc).e δ μ = some (.ok (.int r), μ1)) (hr : r < 1000) : (sem' (.rng (.cons c .nil)) P Kc).a δ μ = some (.ok (rngD r), μ1) := by
  rw [s_rng, of_a]
  unfold fItems
  have e : (sem' (.cons c .nil) P Kc).a δ μ = some (.ok [.int r], μ1) := by
    rw [s_cons, of_a, s_nil, of_a]
    unfold fCons
    rw [bnd_ok h]
    rfl
  rw [bnd_ok e]
  exact lift_ok (itmR_small r hr)
theorem VS_new (μ : Mu) (x y : Int) (h : ∀ c ∈ μ, Pr c) : VS μ.length (μ ++ [.lst [.int x, .int y]]) := ⟨⟨x, y, by simp⟩, fun c hc => by
  rcases List.mem_append.mp hc with z | z
  · exact h c z
  · exact ⟨x, y, by simpa using z⟩⟩
/-! ### a drawn way -/
theorem rng_get {n j : Nat} {d : D} (h : (rngD (n : Int))[j]? = some d) : d = .int (j : Nat) ∧ j < n := by
  rw [rng_int, List.getElem?_map] at h
  cases q : (List.range n)[j]? with
  | none =>
    rw [q] at h
    cases h
  | some a =>
    rw [q] at h
    have hj := (List.getElem?_eq_some_iff.mp q).1
    rw [List.length_range] at hj
    rw [List.getElem?_range hj] at q
    cases q
    cases h
    exact ⟨rfl, hj⟩
theorem rng_len (n : Nat) : (rngD (n : Int)).length = n := by
  rw [rng_int, List.length_map, List.length_range]
def mf : List D := [.str [109], .str [102]]
def dwB : S := .cons (.asg (.nm 3) (.bin .add (.var 3) (.call 2 (.cons (.var 0) (.cons (.lst (.cons (.lit (.str [109])) (.cons (.lit (.str [102])) .nil))) .nil))))) .nil
def dwI : C := .rng (.cons (.call 1 (.cons (.var 0) (.cons (.bin .add (.var 2) (.lit (.int 1))) .nil))) .nil)
theorem dw_step (k j n m : Nat) (s : List Nat) (hs : s.length ≤ 900) (d : D) (c : Nat) (μ μ' : Mu) (e : runP fns Kc (k + 2) 2 [.loc j, .lst [.str [109], .str [102]]] μ = some (.ok (.str [c]), μ')) : semS (runP fns Kc (k + 2)) Kc dwB [some (.loc j), some (.int n), some (.int m), some (.str s), some d] μ = some (.nx [some (.loc j), some (.int n), some (.int m), some (.str (s ++ [c])), some d], μ') := by
  have h2 : 2 ≤ line := ltl (by omega)
  have hl : s.length + 1 ≤ line := ltl (by omega)
  simp [s_var, s_lit, s_ty, s_cst, s_bin, s_cmp, s_chn, s_neg, s_not, s_and, s_or, s_ix, s_sl, s_tup, s_lst, s_cell, s_frz, s_ife, s_call, s_call0, s_blt, s_mth, s_nil, s_cons, s_it, s_en, s_zp, s_lrng, s_rev, s_err, s_dis, t_nil, t_cons, t_ret, t_drop, t_asg, t_setc, t_par, t_par3, t_setIx, t_ite, t_raise, of_e, of_t, of_a, fSeq, fRet, fDrop, fIte, fAsg, fPar, fPar3, fSetIx, sB, nxt, oNx, Tg.g, Tg.gs, tgN, tgX, tgsC, tgsN, bnd, lift, DL.ret, fVar, fC, fOp, fUn, fDs, fCons, fNil, fTup, fLst, fTru, fB, fNot, fAnd, fOr, fIf, fAndV, fOrV, fChain, fCall, fSl, part, fPart, fNoPart, C.isNil, fItm, fItems, wipeD, Bo.g, Co.g, Bt.g, gI, yes2, gLt, gLe, gGt, gGe, DL.gSub, gSub2, gDiv, gMod, toI, toB, peek, eq_ii, ne_ii, eq_ss, ne_ss, gIs, gIsNot, isC, gNot, gLen, gIsi, isT, tyN, tyS, gInt, gIx, gAdd2, gAdd, itmA, itmEO, Option.bind, Option.map, Option.join, List.set, tru_bl, tru_int, tru_tup, tru_lst, tru_non, dwB, h2, e, hl]
theorem dw_loop (k j n m : Nat) (hm : m ≤ 10) (μ : Mu) (hv : VS j μ) : ∃ (s : List Nat) (o4 : Option D) (μ' : Mu), semS (runP fns Kc (k + 2)) Kc (.for dwI (.nm 4) dwB) [some (.loc j), some (.int n), some (.int m), some (.str []), none] μ = some (.nx [some (.loc j), some (.int n), some (.int m), some (.str s), o4], μ') ∧ s.length ≤ m ∧ (∀ c ∈ s, c = 109 ∨ c = 102) ∧ VS j μ' := by
  obtain ⟨r, μ1, e1, hr, hv1⟩ := r_under (k + 1) j (m + 1) (by omega) (by omega) μ hv
  have ec : ((m + 1 : Nat) : Int) = (m : Int) + 1 := by omega
  rw [ec] at e1
  have e1 : runP fns Kc (k + 2) 1 [.loc j, .int ((m : Int) + 1)] μ = some (.ok (.int r), μ1) := e1
  obtain ⟨δ', μ2, e2, s, o4, rfl, hs, hc, hv2⟩ := for_thru (P := runP fns Kc (k + 2)) (K := Kc) (it := dwI) (g := .nm 4) (b := dwB)
    (δ := [some (.loc j), some (.int n), some (.int m), some (.str []), none]) (μ := μ) (μ0 := μ1) (ds := rngD r)
    (fun i δ μ => ∃ s o4, δ = [some (.loc j), some (.int n), some (.int m), some (.str s), o4] ∧ s.length ≤ i ∧ (∀ c ∈ s, c = 109 ∨ c = 102) ∧ VS j μ)
    (rng_ok (by simp [s_var, s_lit, s_ty, s_cst, s_bin, s_cmp, s_chn, s_neg, s_not, s_and, s_or, s_ix, s_sl, s_tup, s_lst, s_cell, s_frz, s_ife, s_call, s_call0, s_blt, s_mth, s_nil, s_cons, s_it, s_en, s_zp, s_lrng, s_rev, s_err, s_dis, t_nil, t_cons, t_ret, t_drop, t_asg, t_setc, t_par, t_par3, t_setIx, t_ite, t_raise, of_e, of_t, of_a, fSeq, fRet, fDrop, fIte, fAsg, fPar, fPar3, fSetIx, sB, nxt, oNx, Tg.g, Tg.gs, tgN, tgX, tgsC, tgsN, bnd, lift, DL.ret, fVar, fC, fOp, fUn, fDs, fCons, fNil, fTup, fLst, fTru, fB, fNot, fAnd, fOr, fIf, fAndV, fOrV, fChain, fCall, fSl, part, fPart, fNoPart, C.isNil, fItm, fItems, wipeD, Bo.g, Co.g, Bt.g, gI, yes2, gLt, gLe, gGt, gGe, DL.gSub, gSub2, gDiv, gMod, toI, toB, peek, eq_ii, ne_ii, eq_ss, ne_ss, gIs, gIsNot, isC, gNot, gLen, gIsi, isT, tyN, tyS, gInt, gIx, gAdd2, gAdd, itmA, itmEO, Option.bind, Option.map, Option.join, List.set, tru_bl, tru_int, tru_tup, tru_lst, tru_non, e1]) (by omega))
    ⟨[], none, rfl, Nat.le_refl 0, (fun c h => by cases h), hv1⟩ (fun i d δ μ hd hI => by
      obtain ⟨s, o4, rfl, hs, hc, hv⟩ := hI
      obtain ⟨x, μ', e, hx, hv'⟩ := r_some k j mf (by decide) (by decide) μ hv
      have e : runP fns Kc (k + 2) 2 [.loc j, .lst [.str [109], .str [102]]] μ = some (.ok x, μ') := e
      have hi := (rng_get hd).2
      refine ⟨[some (.loc j), some (.int n), some (.int m), some (.str s), some d], rfl, ?_⟩
      have hx' : x = .str [109] ∨ x = .str [102] := by simpa [mf] using hx
      rcases hx' with rfl | rfl
      · refine ⟨_, μ', dw_step k j n m s (by omega) d 109 μ μ' e, s ++ [109], some d, rfl, by simp; omega, ?_, hv'⟩
        intro c hcc
        rcases List.mem_append.mp hcc with z | z
        · exact hc c z
        · exact .inl (by simpa using z)
      · refine ⟨_, μ', dw_step k j n m s (by omega) d 102 μ μ' e, s ++ [102], some d, rfl, by simp; omega, ?_, hv'⟩
        intro c hcc
        rcases List.mem_append.mp hcc with z | z
        · exact hc c z
        · exact .inr (by simpa using z))
  rw [rng_len] at hs
  exact ⟨s, o4, μ2, e2, by omega, hc, hv2⟩
end K17

set_option Elab.async false
set_option linter.all false
set_option maxRecDepth 100000
set_option maxHeartbeats 4000000
namespace K17
open PySem L2 DL
/-! ### values that are drawn -/
inductive OkV (n : Nat) : D → Prop
  | non : OkV n .non
  | bl (b : Bool) : OkV n (.bl b)
  | int (i : Int) : i.natAbs ≤ 10 ^ 31 + n → OkV n (.int i)
  | str (s : List Nat) : (∀ c ∈ s, c < 128) → s.length ≤ 40 + n → OkV n (.str s)
  | tup (xs : List D) : xs.length ≤ 10 + n → (∀ x ∈ xs, OkV n x) → OkV n (.tup xs)
  | lst (xs : List D) : xs.length ≤ 10 + n → (∀ x ∈ xs, OkV n x) → OkV n (.lst xs)
theorem OkV.mono {n m : Nat} (h : n ≤ m) {d : D} (o : OkV n d) : OkV m d := by
  induction o with
  | non => exact .non
  | bl b => exact .bl b
  | int i hi => exact .int i (by omega)
  | str s h1 h2 => exact .str s h1 (by omega)
  | tup xs h1 _ ih => exact .tup xs (by omega) ih
  | lst xs h1 _ ih => exact .lst xs (by omega) ih
theorem OkV.pln {n : Nat} {d : D} (o : OkV n d) : d.pln = true := by
  induction o with
  | non => rfl
  | bl b => rfl
  | int i hi => rfl
  | str s h1 h2 => rfl
  | tup xs h1 _ ih => exact plns_iff.mpr ih
  | lst xs h1 _ ih => exact plns_iff.mpr ih
theorem OkV.good {n m : Nat} {d : D} (o : OkV n d) (h : d.dep ≤ m) : good m d := ⟨o.pln, h⟩
def okb : Nat → D → Bool
  | _, .non => true
  | _, .bl _ => true
  | _, .int i => decide (i.natAbs ≤ 10 ^ 31)
  | _, .str s => s.all (fun c => decide (c < 128)) && decide (s.length ≤ 40)
  | k + 1, .tup xs => decide (xs.length ≤ 10) && xs.all (okb k)
  | k + 1, .lst xs => decide (xs.length ≤ 10) && xs.all (okb k)
  | _, _ => false
theorem okb_ok : ∀ (k : Nat) (d : D), okb k d = true → OkV 0 d := by
  intro k
  induction k with
  | zero =>
    intro d h
    cases d <;> first | exact .non | exact .bl _ | (simp [okb] at h; done) | skip
    · exact .int _ (by simpa [okb] using h)
    · simp only [okb, Bool.and_eq_true, List.all_eq_true, decide_eq_true_eq] at h
      exact .str _ h.1 h.2
  | succ k ih =>
    intro d h
    cases d <;> first | exact .non | exact .bl _ | (simp [okb] at h; done) | skip
    · exact .int _ (by simpa [okb] using h)
    · simp only [okb, Bool.and_eq_true, List.all_eq_true, decide_eq_true_eq] at h
      exact .str _ h.1 h.2
    · simp only [okb, Bool.and_eq_true, List.all_eq_true, decide_eq_true_eq] at h
      exact .tup _ h.1 fun x hx => ih x (h.2 x hx)
    · simp only [okb, Bool.and_eq_true, List.all_eq_true, decide_eq_true_eq] at h
      exact .lst _ h.1 fun x hx => ih x (h.2 x hx)
/-! ### any value -/
def st (s : String) : D := .str (s.toList.map Char.toNat)
def odd1 : List D := [.non, .bl true, .bl false, .int 0, .int 1, .int 2, .int (-1), .int (10 ^ 31), .str [], .str [109], .str [112, 97, 114, 101, 110, 116], .str [115, 97, 109, 101], .tup [], .lst [], .tup [.int 0, .str []], .tup [.int 1, .str [109, 102]], .str [106, 111, 105, 110, 101, 100]]
def odd2 : List D := [.tup [.str [115, 97, 109, 101], .tup [.int 0, .str []], .tup [.int 0, .str []]], .tup [.int 2, .tup []], .tup [.bl true, .non, .non], .tup [.str [119, 111, 109, 97, 110], .tup [.int 0, .str []], .tup [.int 0, .str [109]]]]
def oddL : List D := odd1 ++ odd2
theorem odd_ok : ∀ x ∈ oddL, OkV 0 x ∧ x.dep ≤ 2 := by
  have h : (oddL.all fun x => okb 4 x && decide (x.dep ≤ 2)) = true := by kernel_rfl
  intro x hx
  have := List.all_eq_true.mp h x hx
  rw [Bool.and_eq_true, decide_eq_true_iff] at this
  exact ⟨okb_ok 4 x this.1, this.2⟩
def hd1 : S → S
  | .cons a _ => a
  | s => s
def tl1 : S → S
  | .cons _ r => r
  | s => s
def odT : C := .bo false (.cmp .eq (.var 1) (.lit (.int 0))) (.cmp .lt (.call 1 (.cons (.var 0) (.cons (.lit (.int 9)) .nil))) (.lit (.int 6)))
def odR : S := .cons (.ret (.call 2 (.cons (.var 0) (.cons (.var 2) .nil)))) .nil
def odE : C := .ife (.cmp .eq (.call 1 (.cons (.var 0) (.cons (.lit (.int 3)) .nil))) (.lit (.int 0))) (.var 3) (.blt .tup (.cons (.var 3) .nil))
theorem odR_ok {P : Nat → List D → M D} (v d x : D) (μ μ' : Mu) (h : P 2 [v, .lst oddL] μ = some (.ok x, μ')) : semS P Kc odR [some v, some d, some (.lst oddL), none, none] μ = some (.ret x, μ') := by
  simp [s_var, s_lit, s_ty, s_cst, s_bin, s_cmp, s_chn, s_neg, s_not, s_and, s_or, s_ix, s_sl, s_tup, s_lst, s_cell, s_frz, s_ife, s_call, s_call0, s_blt, s_mth, s_nil, s_cons, s_it, s_en, s_zp, s_lrng, s_rev, s_err, s_dis, t_nil, t_cons, t_ret, t_drop, t_asg, t_setc, t_par, t_par3, t_setIx, t_ite, t_raise, of_e, of_t, of_a, fSeq, fRet, fDrop, fIte, fAsg, fPar, fPar3, fSetIx, sB, nxt, oNx, Tg.g, Tg.gs, tgN, tgX, tgsC, tgsN, bnd, lift, DL.ret, fVar, fC, fOp, fUn, fDs, fCons, fNil, fTup, fLst, fTru, fB, fNot, fAnd, fOr, fIf, fAndV, fOrV, fChain, fCall, fSl, part, fPart, fNoPart, C.isNil, fItm, fItems, wipeD, Bo.g, Co.g, Bt.g, gI, yes2, gLt, gLe, gGt, gGe, DL.gSub, gSub2, gDiv, gMod, toI, toB, peek, eq_ii, ne_ii, eq_ss, ne_ss, gIs, gIsNot, isC, gNot, gLen, gIsi, isT, tyN, tyS, gInt, gIx, gAdd2, gAdd, itmA, itmEO, Option.bind, Option.map, Option.join, List.set, tru_bl, tru_int, tru_tup, tru_lst, tru_non, odR, h]
/-! ### texts -/
def up1 (c : Nat) : Nat := if 97 ≤ c ∧ c ≤ 122 then c - 32 else c
theorem upper_one : ∀ c, c < 128 → Unicode.upperOf c = [up1 c] := by
  have h : ((List.range 128).all fun c => Unicode.upperOf c == [up1 c]) = true := by kernel_rfl
  intro c hc
  exact eq_of_beq (List.all_eq_true.mp h c (List.mem_range.mpr hc))
theorem mapIdx_const {α β : Type} (f : α → β) : ∀ l : List α, l.mapIdx (fun _ c => f c) = l.map f
  | [] => rfl
  | a :: l => by
    rw [List.mapIdx_cons, mapIdx_const f l]
    rfl
theorem flat_one (f : Nat → List Nat) (g : Nat → Nat) : ∀ s : List Nat, (∀ c ∈ s, f c = [g c]) → (s.map f).flatten = s.map g
  | [], _ => rfl
  | c :: s, h => by
    rw [List.map_cons, List.flatten_cons, h c List.mem_cons_self, flat_one f g s fun d hd => h d (List.mem_cons_of_mem _ hd)]
    rfl
theorem okS_128 {s : List Nat} (h : ∀ c ∈ s, c < 128) : okS s = true := by
  unfold okS
  rw [List.all_eq_true]
  intro c hc
  have := h c hc
  exact decide_eq_true (by omega)
theorem upper_ok (s : List Nat) (h : ∀ c ∈ s, c < 128) (hl : s.length ≤ 1000) (μ : Mu) : gUpper μ (.str s) [] = some (.str (s.map up1)) ∧ ∀ c ∈ s.map up1, c < 128 := by
  have h1 : ∀ c ∈ s.map up1, c < 128 := by
    intro c hc
    obtain ⟨d, hd, rfl⟩ := List.mem_map.mp hc
    have := h d hd
    unfold up1
    split <;> omega
  refine ⟨?_, h1⟩
  have e : cds (Txt.upper ⟨s.toArray⟩) = s.map up1 := by
    unfold cds Txt.upper placed
    simp only [Array.toList_flatten, Array.toList_mapIdx]
    rw [mapIdx_const (fun c => (Unicode.upperOf c).toArray), List.map_map]
    exact flat_one _ up1 s fun c hc => by
      show (Unicode.upperOf c).toArray.toList = _
      rw [upper_one c (h c hc)]
  show (if s.length ≤ 5592405 then mkS (Txt.upper ⟨s.toArray⟩) else none) = _
  rw [if_pos (by omega)]
  unfold mkS
  rw [e, if_pos (okS_128 h1)]
theorem dig_lt {n : Nat} : ∀ c ∈ (Nat.toDigits 10 n).map Char.toNat, c < 128 := by
  intro c hc
  obtain ⟨d, hd, rfl⟩ := List.mem_map.mp hc
  have := Nat.isDigit_of_mem_toDigits (by omega) (by omega) hd
  unfold Char.isDigit at this
  simp only [Bool.and_eq_true, decide_eq_true_eq] at this
  have h2 := this.2
  have h3 : d.val.toNat ≤ 57 := h2
  show d.val.toNat < 128
  omega
theorem str_int (i : Int) (hi : i.natAbs < 10 ^ 32) (μ : Mu) : ∃ s, gStr μ [.int i] = some (.str s) ∧ (∀ c ∈ s, c < 128) ∧ s.length ≤ 40 := by
  have hlog : i.natAbs.log2 < 1920 := by
    by_cases h0 : i.natAbs = 0
    · rw [h0]
      decide
    · rw [Nat.log2_lt h0]
      have : (10 : Nat) ^ 32 ≤ 2 ^ 1920 := Nat.le_of_ble_eq_true (by kernel_rfl)
      omega
  have key : ∀ (l : List Nat) (t : String), t.toList.map Char.toNat = l → (∀ c ∈ l, c < 128) → mkS (t : Str) = some (.str l) := by
    intro l t e h
    have e2 : cds (t : Str) = l := by
      show (Str.ofString t).cps.toList = l
      rw [Str.ofString_eq_toList]
      simpa using e
    unfold mkS
    rw [e2, if_pos (okS_128 h)]
  cases i with
  | ofNat n =>
    have hn : n < 10 ^ 32 := hi
    refine ⟨(Nat.toDigits 10 n).map Char.toNat, ?_, dig_lt, ?_⟩
    · show (if _ then mkS (toString (Int.ofNat n)) else none) = _
      rw [if_pos hlog]
      refine key _ _ ?_ dig_lt
      show ((Nat.repr n).toList).map Char.toNat = _
      unfold Nat.repr
      rw [String.toList_ofList]
    · rw [List.length_map]
      have := toDigits_len_pow (b := 10) (k := 32) (by omega) (by omega) hn
      omega
  | negSucc n =>
    have hn : n + 1 < 10 ^ 32 := hi
    have hc : ∀ c ∈ (45 :: (Nat.toDigits 10 (n + 1)).map Char.toNat), c < 128 := by
      intro c h
      rcases List.mem_cons.mp h with e | h
      · omega
      · exact dig_lt c h
    refine ⟨45 :: (Nat.toDigits 10 (n + 1)).map Char.toNat, ?_, hc, ?_⟩
    · show (if _ then mkS (toString (Int.negSucc n)) else none) = _
      rw [if_pos hlog]
      refine key _ _ ?_ hc
      show (("-" ++ Nat.repr (n + 1)).toList).map Char.toNat = _
      unfold Nat.repr
      rw [String.toList_append, String.toList_ofList, String.toList_ofList]
      rfl
    · rw [List.length_cons, List.length_map]
      have := toDigits_len_pow (b := 10) (k := 32) (by omega) (by omega) hn
      omega
end K17

set_option Elab.async false
set_option linter.all false
set_option maxRecDepth 100000
set_option maxHeartbeats 4000000
namespace K17
open PySem L2 DL
/-! ### law 17 -/
def le9 (f : D) (o1 o2 o3 o4 o5 o6 o7 o8 : Option D) : DL.Env := [some f, o1, o2, o3, o4, o5, o6, o7, o8]
def bodyOf : S → S
  | .for _ _ b => b
  | s => s
def xw : D := .str [102, 97, 109, 105, 108, 121, 32, 116, 97, 108, 107, 32, 99, 108, 97, 105, 109, 32, 115, 111, 109, 101, 98, 111, 100, 121, 32, 110, 117, 109, 98, 101, 114, 32, 119, 111, 114, 100, 32, 110, 111, 110, 101, 32, 117, 110, 108, 105, 107, 101, 32, 113, 117, 97, 114, 114, 101, 108, 32, 117, 110, 100, 111, 32, 116, 101, 120, 116, 32, 109, 97, 110, 121]
def xB : S := bodyOf (hd1 (tl1 c_law))
def xR : S := tl1 (tl1 xB)
def xs1 (t : List Nat) : List D := [.exn 1 t, .exn 2 t, .exn 3 t, .exn 4 t]
def xs2 (t : List Nat) : List D := xs1 t ++ [.exn 5 t, .exn 6 t, .exn 7 t, .exn 8 t]
def xs3 (t : List Nat) (a : Int) : List D := xs2 t ++ [.exn 9 t, .exn 10 t, .exi 501 a, .exi 500 a]
theorem x_1 (f : D) (o2 o3 o4 o7 o8 : Option D) (t : List Nat) (a : Int) (μ : Mu) : semS (runP fns Kc 39) Kc (hd1 xR) (le9 f (some xw) o2 o3 o4 (some (.str t)) (some (.int a)) o7 o8) μ = some (.nx (le9 f (some xw) o2 o3 (some (.lst (xs1 t))) (some (.str t)) (some (.int a)) o7 o8), μ) := by kernel_rfl
theorem x_2 (f : D) (o2 o3 o7 o8 : Option D) (t : List Nat) (a : Int) (μ : Mu) : semS (runP fns Kc 39) Kc (hd1 (tl1 xR)) (le9 f (some xw) o2 o3 (some (.lst (xs1 t))) (some (.str t)) (some (.int a)) o7 o8) μ = some (.nx (le9 f (some xw) o2 o3 (some (.lst (xs2 t))) (some (.str t)) (some (.int a)) o7 o8), μ) := by kernel_rfl
theorem x_3 (f : D) (o2 o3 o7 o8 : Option D) (t : List Nat) (a : Int) (μ : Mu) : semS (runP fns Kc 39) Kc (hd1 (tl1 (tl1 xR))) (le9 f (some xw) o2 o3 (some (.lst (xs2 t))) (some (.str t)) (some (.int a)) o7 o8) μ = some (.nx (le9 f (some xw) o2 o3 (some (.lst (xs3 t a))) (some (.str t)) (some (.int a)) o7 o8), μ) := by kernel_rfl
theorem x_4 (f : D) (o2 o3 o7 o8 : Option D) (t : List Nat) (a : Int) (μ : Mu) : semS (runP fns Kc 39) Kc (hd1 (tl1 (tl1 (tl1 xR)))) (le9 f (some xw) o2 o3 (some (.lst (xs3 t a))) (some (.str t)) (some (.int a)) o7 o8) μ = some (.nx (le9 f (some xw) o2 o3 (some (.lst (xs3 t a))) (some (.str t)) (some (.int a)) (some (.exi 500 a)) (some (.str [109, 97, 110, 121]))), μ) := by kernel_rfl
theorem x_5a (f : D) (o2 o3 o7 o8 : Option D) (a : Int) (μ : Mu) : semS (runP fns Kc 39) Kc (hd1 (tl1 (tl1 (tl1 (tl1 xR))))) (le9 f (some xw) o2 o3 (some (.lst (xs3 [] a))) (some (.str [])) (some (.int a)) o7 o8) μ = some (.nx (le9 f (some xw) o2 o3 (some (.lst (xs3 [] a))) (some (.str [])) (some (.int a)) o7 o8), μ) := by kernel_rfl
theorem x_5b (f : D) (o2 o3 o7 o8 : Option D) (a : Int) (μ : Mu) : semS (runP fns Kc 39) Kc (hd1 (tl1 (tl1 (tl1 (tl1 xR))))) (le9 f (some xw) o2 o3 (some (.lst (xs3 [110, 111, 32, 116, 97, 108, 107] a))) (some (.str [110, 111, 32, 116, 97, 108, 107])) (some (.int a)) o7 o8) μ = some (.nx (le9 f (some xw) o2 o3 (some (.lst (xs3 [110, 111, 32, 116, 97, 108, 107] a))) (some (.str [110, 111, 32, 116, 97, 108, 107])) (some (.int a)) o7 o8), μ) := by kernel_rfl
theorem x_5c (f : D) (o2 o3 o7 o8 : Option D) (a : Int) (μ : Mu) : semS (runP fns Kc 39) Kc (hd1 (tl1 (tl1 (tl1 (tl1 xR))))) (le9 f (some xw) o2 o3 (some (.lst (xs3 [97, 32, 98, 32, 99] a))) (some (.str [97, 32, 98, 32, 99])) (some (.int a)) o7 o8) μ = some (.nx (le9 f (some xw) o2 o3 (some (.lst (xs3 [97, 32, 98, 32, 99] a))) (some (.str [97, 32, 98, 32, 99])) (some (.int a)) o7 o8), μ) := by kernel_rfl
theorem x_6 (f : D) (o2 o3 o4 o7 o8 : Option D) (t : List Nat) (a : Int) (μ : Mu) : semS (runP fns Kc 39) Kc (hd1 (tl1 (tl1 (tl1 (tl1 (tl1 xR)))))) (le9 f (some xw) o2 o3 o4 (some (.str t)) (some (.int a)) o7 o8) μ = some (.nx (le9 f (some xw) o2 o3 o4 (some (.str t)) (some (.int a)) o7 o8), μ) := by kernel_rfl
def xL : S := .ite (.bo false (.cmp .ne (.fld 1 (.ix (.var 4) (.lit (.int 10)))) (.var 6)) (.cmp .ne (.fld 0 (.ix (.var 4) (.lit (.int 11)))) (.var 6))) (.cons (.ret (.lit (.bl false))) .nil) .nil
theorem x_f {P : Nat → List D → M D} (i : Nat) (hi : i = 10 ∨ i = 11) (f : D) (o1 o2 o3 o7 o8 : Option D) (t : List Nat) (a : Int) (μ : Mu) : (sem' (.fld (11 - i) (.ix (.var 4) (.lit (.int i)))) P Kc).e (le9 f o1 o2 o3 (some (.lst (xs3 t a))) (some (.str t)) (some (.int a)) o7 o8) μ = some (.ok (.int a), μ) := by
  rcases hi with rfl | rfl <;> kernel_rfl
theorem x_7 {P : Nat → List D → M D} (f : D) (o1 o2 o3 o7 o8 : Option D) (t : List Nat) (a : Int) (μ : Mu) : semS P Kc xL (le9 f o1 o2 o3 (some (.lst (xs3 t a))) (some (.str t)) (some (.int a)) o7 o8) μ = some (.nx (le9 f o1 o2 o3 (some (.lst (xs3 t a))) (some (.str t)) (some (.int a)) o7 o8), μ) := by
  have e1 := x_f (P := P) 10 (.inl rfl) f o1 o2 o3 o7 o8 t a μ
  have e2 := x_f (P := P) 11 (.inr rfl) f o1 o2 o3 o7 o8 t a μ
  simp only [Nat.reduceSub] at e1 e2
  have e1 : (sem' (.fld 1 (.ix (.var 4) (.lit (.int 10)))) P Kc).e (le9 f o1 o2 o3 (some (.lst (xs3 t a))) (some (.str t)) (some (.int a)) o7 o8) μ = some (.ok (.int a), μ) := e1
  have e2 : (sem' (.fld 0 (.ix (.var 4) (.lit (.int 11)))) P Kc).e (le9 f o1 o2 o3 (some (.lst (xs3 t a))) (some (.str t)) (some (.int a)) o7 o8) μ = some (.ok (.int a), μ) := e2
  have v : (sem' (.var 6) P Kc).e (le9 f o1 o2 o3 (some (.lst (xs3 t a))) (some (.str t)) (some (.int a)) o7 o8) μ = some (.ok (.int a), μ) := rfl
  unfold xL
  generalize le9 f o1 o2 o3 (some (.lst (xs3 t a))) (some (.str t)) (some (.int a)) o7 o8 = δ at e1 e2 v
  simp [t_ite, s_or, s_cmp, fIte, fOr, fB, fOp, of_e, of_t, e1, e2, v, bnd, lift, DL.ret, Co.g, ne_ii, toB, sB]
  rfl
theorem x_sh : xR = .cons (hd1 xR) (.cons (hd1 (tl1 xR)) (.cons (hd1 (tl1 (tl1 xR))) (.cons (hd1 (tl1 (tl1 (tl1 xR)))) (.cons (hd1 (tl1 (tl1 (tl1 (tl1 xR))))) (.cons (hd1 (tl1 (tl1 (tl1 (tl1 (tl1 xR)))))) (.cons xL .nil)))))) := rfl
def txs : List D := [.str [], .str [110, 111, 32, 116, 97, 108, 107], .str [97, 32, 98, 32, 99]]
theorem x_5 (f : D) (o2 o3 o7 o8 : Option D) (t : List Nat) (ht : D.str t ∈ txs) (a : Int) (μ : Mu) : semS (runP fns Kc 39) Kc (hd1 (tl1 (tl1 (tl1 (tl1 xR))))) (le9 f (some xw) o2 o3 (some (.lst (xs3 t a))) (some (.str t)) (some (.int a)) o7 o8) μ = some (.nx (le9 f (some xw) o2 o3 (some (.lst (xs3 t a))) (some (.str t)) (some (.int a)) o7 o8), μ) := by
  simp only [txs, List.mem_cons, List.not_mem_nil, or_false, D.str.injEq] at ht
  rcases ht with rfl | rfl | rfl
  · exact x_5a f o2 o3 o7 o8 a μ
  · exact x_5b f o2 o3 o7 o8 a μ
  · exact x_5c f o2 o3 o7 o8 a μ
theorem x_rest (f : D) (o2 o3 o4 o7 o8 : Option D) (t : List Nat) (ht : D.str t ∈ txs) (a : Int) (μ : Mu) : ∃ p4 p7 p8, semS (runP fns Kc 39) Kc xR (le9 f (some xw) o2 o3 o4 (some (.str t)) (some (.int a)) o7 o8) μ = some (.nx (le9 f (some xw) o2 o3 p4 (some (.str t)) (some (.int a)) p7 p8), μ) := by
  refine ⟨some (.lst (xs3 t a)), some (.exi 500 a), some (.str [109, 97, 110, 121]), ?_⟩
  rw [x_sh, t_cons, seq_nx (x_1 f o2 o3 o4 o7 o8 t a μ), t_cons, seq_nx (x_2 f o2 o3 o7 o8 t a μ), t_cons, seq_nx (x_3 f o2 o3 o7 o8 t a μ), t_cons, seq_nx (x_4 f o2 o3 o7 o8 t a μ), t_cons, seq_nx (x_5 f o2 o3 _ _ t ht a μ), t_cons, seq_nx (x_6 f o2 o3 _ _ _ t a μ), t_cons]
  exact (seq_nx (x_7 f (some xw) o2 o3 _ _ t a μ)).trans rfl
def le17 (f : D) (o1 o2 o3 o4 o5 o6 o7 o8 : Option D) : DL.Env := le9 f o1 o2 o3 o4 o5 o6 o7 o8
def xT : C := .lst (.cons (.lit (.str [])) (.cons (.lit (.str [110, 111, 32, 116, 97, 108, 107])) (.cons (.lit (.str [97, 32, 98, 32, 99])) .nil)))
def xP : S := .asg (.tup 2 (.cons (.nm 5) (.cons (.nm 6) .nil))) (.tup (.cons (.call 2 (.cons (.var 3) (.cons xT .nil))) (.cons (.call 1 (.cons (.var 3) (.cons (.lit (.int 1000)) .nil))) .nil)))
def xV : S := .asg (.nm 3) (.call 0 (.cons (.var 0) (.cons (.var 2) .nil)))
theorem xB_sh : xB = .cons xV (.cons xP xR) := rfl
theorem x_step (i : Nat) (ns : List Int) (o3 o4 o5 o6 o7 o8 : Option D) (μ : Mu) (hm : ∀ c ∈ μ, Pr c) :
    ∃ (p3 p4 p5 p6 p7 p8 : Option D) (μ' : Mu), semS (runP fns Kc 39) Kc xB (le9 (.fz (ns.map .int)) (some xw) (some (.int i)) o3 o4 o5 o6 o7 o8) μ = some (.nx (le9 (.fz (ns.map .int)) (some xw) (some (.int i)) p3 p4 p5 p6 p7 p8), μ') ∧ ∀ c ∈ μ', Pr c := by
  obtain ⟨x, y, e1⟩ := r_vat 38 ns i μ
  have hv1 := VS_new μ x y hm
  have e1 : runP fns Kc 39 0 [.fz (ns.map .int), .int i] μ = some (.ok (.loc μ.length), μ ++ [.lst [.int x, .int y]]) := e1
  generalize μ ++ [.lst [.int x, .int y]] = μ1 at e1 hv1
  generalize μ.length = j at e1 hv1
  obtain ⟨d, μ2, e2, hd, hv2⟩ := r_some 37 j txs (by decide) (by decide) μ1 hv1
  have e2 : runP fns Kc 39 2 [.loc j, .lst txs] μ1 = some (.ok d, μ2) := e2
  obtain ⟨a, μ3, e3, ha, hv3⟩ := r_under 38 j 1000 (by omega) (by omega) μ2 hv2
  have e3 : runP fns Kc 39 1 [.loc j, .int 1000] μ2 = some (.ok (.int a), μ3) := e3
  have ht : ∃ t, d = .str t := by
    simp only [txs, List.mem_cons, List.not_mem_nil, or_false] at hd
    rcases hd with rfl | rfl | rfl <;> exact ⟨_, rfl⟩
  obtain ⟨t, rfl⟩ := ht
  have f1 : semS (runP fns Kc 39) Kc xV (le9 (.fz (ns.map .int)) (some xw) (some (.int i)) o3 o4 o5 o6 o7 o8) μ = some (.nx (le9 (.fz (ns.map .int)) (some xw) (some (.int i)) (some (.loc j)) o4 o5 o6 o7 o8), μ1) := asg_ok (call_ok (args_ok (d := .fz (ns.map .int)) rfl (args_ok (d := .int i) rfl rfl)) e1)
  have f2 : semS (runP fns Kc 39) Kc xP (le9 (.fz (ns.map .int)) (some xw) (some (.int i)) (some (.loc j)) o4 o5 o6 o7 o8) μ1 = some (.nx (le9 (.fz (ns.map .int)) (some xw) (some (.int i)) (some (.loc j)) o4 (some (.str t)) (some (.int a)) o7 o8), μ3) := by
    have g1 : (sem' (.call 2 (.cons (.var 3) (.cons xT .nil))) (runP fns Kc 39) Kc).e (le9 (.fz (ns.map .int)) (some xw) (some (.int i)) (some (.loc j)) o4 o5 o6 o7 o8) μ1 = some (.ok (.str t), μ2) := call_ok (args_ok (d := .loc j) rfl (args_ok (d := .lst txs) rfl rfl)) e2
    have g2 : (sem' (.call 1 (.cons (.var 3) (.cons (.lit (.int 1000)) .nil))) (runP fns Kc 39) Kc).e (le9 (.fz (ns.map .int)) (some xw) (some (.int i)) (some (.loc j)) o4 o5 o6 o7 o8) μ2 = some (.ok (.int a), μ3) := call_ok (args_ok (d := .loc j) rfl (args_ok (d := .int (1000 : Nat)) rfl rfl)) e3
    have g3 := args_ok g1 (args_ok g2 (show (sem' .nil (runP fns Kc 39) Kc).a (le9 (.fz (ns.map .int)) (some xw) (some (.int i)) (some (.loc j)) o4 o5 o6 o7 o8) μ3 = some (.ok [], μ3) from rfl))
    unfold xP
    rw [t_asg, s_tup, of_e]
    unfold fAsg sB fTup fDs
    simp only [bnd, g3]
    rfl
  obtain ⟨p4, p7, p8, f3⟩ := x_rest (.fz (ns.map .int)) (some (.int i)) (some (.loc j)) o4 o7 o8 t hd a μ3
  refine ⟨some (.loc j), p4, some (.str t), some (.int a), p7, p8, μ3, ?_, hv3.2⟩
  rw [xB_sh, t_cons, seq_nx f1, t_cons, seq_nx f2]
  exact f3
def xM : C := .blt .max (.cons (.lit (.int 3)) (.cons (.blt .min (.cons (.lit (.int 6)) (.cons (.blt .len (.cons (.var 0) .nil)) .nil))) .nil))
theorem xM_ok {P : Nat → List D → M D} (ns : List Int) (o1 o2 o3 o4 o5 o6 o7 o8 : Option D) (μ : Mu) : ∃ m : Nat, m ≤ 6 ∧ (sem' xM P Kc).e (le9 (.fz (ns.map .int)) o1 o2 o3 o4 o5 o6 o7 o8) μ = some (.ok (.int m), μ) := by
  unfold le9
  by_cases h1 : ns.length < 6
  · by_cases h2 : 3 < ns.length
    · refine ⟨ns.length, by omega, ?_⟩
      have h1' : (ns.length : Int) < 6 := by omega
      have h2' : (3 : Int) < ns.length := by omega
      simp [s_var, s_lit, s_ty, s_cst, s_bin, s_cmp, s_chn, s_neg, s_not, s_and, s_or, s_ix, s_sl, s_tup, s_lst, s_cell, s_frz, s_ife, s_call, s_call0, s_blt, s_mth, s_nil, s_cons, s_it, s_en, s_zp, s_lrng, s_rev, s_err, s_dis, t_nil, t_cons, t_ret, t_drop, t_asg, t_setc, t_par, t_par3, t_setIx, t_ite, t_raise, of_e, of_t, of_a, fSeq, fRet, fDrop, fIte, fAsg, fPar, fPar3, fSetIx, sB, nxt, oNx, Tg.g, Tg.gs, tgN, tgX, tgsC, tgsN, bnd, lift, DL.ret, fVar, fC, fOp, fUn, fDs, fCons, fNil, fTup, fLst, fTru, fB, fNot, fAnd, fOr, fIf, fAndV, fOrV, fChain, fCall, fSl, part, fPart, fNoPart, C.isNil, fItm, fItems, wipeD, Bo.g, Co.g, Bt.g, gI, yes2, gLt, gLe, gGt, gGe, DL.gSub, gSub2, gDiv, gMod, toI, toB, peek, eq_ii, ne_ii, eq_ss, ne_ss, gIs, gIsNot, isC, gNot, gLen, gIsi, isT, tyN, tyS, gInt, gIx, gAdd2, gAdd, itmA, itmEO, Option.bind, Option.map, Option.join, List.set, tru_bl, tru_int, tru_tup, tru_lst, tru_non, xM, gMax, gMin, h1', h2']
    · refine ⟨3, by omega, ?_⟩
      have h1' : (ns.length : Int) < 6 := by omega
      have h2' : ¬ (3 : Int) < ns.length := by omega
      simp [s_var, s_lit, s_ty, s_cst, s_bin, s_cmp, s_chn, s_neg, s_not, s_and, s_or, s_ix, s_sl, s_tup, s_lst, s_cell, s_frz, s_ife, s_call, s_call0, s_blt, s_mth, s_nil, s_cons, s_it, s_en, s_zp, s_lrng, s_rev, s_err, s_dis, t_nil, t_cons, t_ret, t_drop, t_asg, t_setc, t_par, t_par3, t_setIx, t_ite, t_raise, of_e, of_t, of_a, fSeq, fRet, fDrop, fIte, fAsg, fPar, fPar3, fSetIx, sB, nxt, oNx, Tg.g, Tg.gs, tgN, tgX, tgsC, tgsN, bnd, lift, DL.ret, fVar, fC, fOp, fUn, fDs, fCons, fNil, fTup, fLst, fTru, fB, fNot, fAnd, fOr, fIf, fAndV, fOrV, fChain, fCall, fSl, part, fPart, fNoPart, C.isNil, fItm, fItems, wipeD, Bo.g, Co.g, Bt.g, gI, yes2, gLt, gLe, gGt, gGe, DL.gSub, gSub2, gDiv, gMod, toI, toB, peek, eq_ii, ne_ii, eq_ss, ne_ss, gIs, gIsNot, isC, gNot, gLen, gIsi, isT, tyN, tyS, gInt, gIx, gAdd2, gAdd, itmA, itmEO, Option.bind, Option.map, Option.join, List.set, tru_bl, tru_int, tru_tup, tru_lst, tru_non, xM, gMax, gMin, h1', h2']
  · refine ⟨6, by omega, ?_⟩
    have h1' : ¬ (ns.length : Int) < 6 := by omega
    simp [s_var, s_lit, s_ty, s_cst, s_bin, s_cmp, s_chn, s_neg, s_not, s_and, s_or, s_ix, s_sl, s_tup, s_lst, s_cell, s_frz, s_ife, s_call, s_call0, s_blt, s_mth, s_nil, s_cons, s_it, s_en, s_zp, s_lrng, s_rev, s_err, s_dis, t_nil, t_cons, t_ret, t_drop, t_asg, t_setc, t_par, t_par3, t_setIx, t_ite, t_raise, of_e, of_t, of_a, fSeq, fRet, fDrop, fIte, fAsg, fPar, fPar3, fSetIx, sB, nxt, oNx, Tg.g, Tg.gs, tgN, tgX, tgsC, tgsN, bnd, lift, DL.ret, fVar, fC, fOp, fUn, fDs, fCons, fNil, fTup, fLst, fTru, fB, fNot, fAnd, fOr, fIf, fAndV, fOrV, fChain, fCall, fSl, part, fPart, fNoPart, C.isNil, fItm, fItems, wipeD, Bo.g, Co.g, Bt.g, gI, yes2, gLt, gLe, gGt, gGe, DL.gSub, gSub2, gDiv, gMod, toI, toB, peek, eq_ii, ne_ii, eq_ss, ne_ss, gIs, gIsNot, isC, gNot, gLen, gIsi, isT, tyN, tyS, gInt, gIx, gAdd2, gAdd, itmA, itmEO, Option.bind, Option.map, Option.join, List.set, tru_bl, tru_int, tru_tup, tru_lst, tru_non, xM, gMax, gMin, h1']
def xF : S := .for (.rng (.cons xM .nil)) (.nm 2) xB
theorem xl_sh : c_law = .cons (.asg (.nm 1) (.lit xw)) (.cons xF (tl1 (tl1 c_law))) := rfl
theorem x_tail (f : D) (o1 o2 o3 o4 o5 o6 o7 o8 : Option D) (μ : Mu) : semS (runP fns Kc 39) Kc (tl1 (tl1 c_law)) (le9 f o1 o2 o3 o4 o5 o6 o7 o8) μ = some (.ret (.bl true), μ) := by
  kernel_rfl
theorem x_loop (ns : List Int) : ∃ (o2 o3 o4 o5 o6 o7 o8 : Option D) (μ : Mu), semS (runP fns Kc 39) Kc xF (le9 (.fz (ns.map .int)) (some xw) none none none none none none none) [] = some (.nx (le9 (.fz (ns.map .int)) (some xw) o2 o3 o4 o5 o6 o7 o8), μ) := by
  obtain ⟨m, hm, em⟩ := xM_ok (P := runP fns Kc 39) ns (some xw) none none none none none none none []
  obtain ⟨δ', μ', e, o2, o3, o4, o5, o6, o7, o8, rfl, _⟩ := for_thru (P := runP fns Kc 39) (K := Kc) (it := .rng (.cons xM .nil)) (g := .nm 2) (b := xB) (δ := le9 (.fz (ns.map .int)) (some xw) none none none none none none none) (μ := []) (μ0 := []) (ds := rngD m)
    (fun i δ μ => ∃ o2 o3 o4 o5 o6 o7 o8, δ = le9 (.fz (ns.map .int)) (some xw) o2 o3 o4 o5 o6 o7 o8 ∧ ∀ c ∈ μ, Pr c) (rng_ok em (by omega)) ⟨none, none, none, none, none, none, none, rfl, fun c hc => by cases hc⟩ (fun i d δ μ hd hI => by
      obtain ⟨o2, o3, o4, o5, o6, o7, o8, rfl, hp⟩ := hI
      obtain ⟨rfl, _⟩ := rng_get hd
      obtain ⟨p3, p4, p5, p6, p7, p8, μ', e, hp'⟩ := x_step i ns o3 o4 o5 o6 o7 o8 μ hp
      exact ⟨le9 (.fz (ns.map .int)) (some xw) (some (.int i)) o3 o4 o5 o6 o7 o8, rfl, _, μ', e, some (.int i), p3, p4, p5, p6, p7, p8, rfl, hp'⟩)
  exact ⟨o2, o3, o4, o5, o6, o7, o8, μ', e⟩
theorem pure (ns : List Int) : ∃ μ, runP I.fs I.Kc 40 4 [.fz (ns.map .int)] [] = some (.ok (.bl true), μ) := by
  obtain ⟨o2, o3, o4, o5, o6, o7, o8, μ, e⟩ := x_loop ns
  refine ⟨μ, ?_⟩
  refine call_body (k := 39) (by decide) rfl rfl rfl rfl (run_ret ?_)
  show semS (runP fns Kc 39) Kc c_law (le9 (.fz (ns.map .int)) none none none none none none none none) [] = _
  have f1 : semS (runP fns Kc 39) Kc (.asg (.nm 1) (.lit xw)) (le9 (.fz (ns.map .int)) none none none none none none none none) [] = some (.nx (le9 (.fz (ns.map .int)) (some xw) none none none none none none none), []) := rfl
  rw [xl_sh, t_cons, seq_nx f1, t_cons, seq_nx e]
  exact x_tail _ _ o2 o3 o4 o5 o6 o7 o8 μ
end K17

set_option Elab.async false
set_option linter.all false
set_option maxRecDepth 100000
set_option maxHeartbeats 0
namespace K17
open PySem L2 DL
abbrev R : PySem.W.OpenRow := PySem.W.OpenLaw.row PySem.Challenge.rw_saidkin_k17_errors_and_their_classes
abbrev hk : PySem.W.Hook := hookY 4 I.fa I.fnD I.ts I.tf I.exB
def ob (s : PySem.W.SharedT) : He.AlX := obsY 4 I.fa I.fnD I.ts I.tf I.exB (HandSHeadRun.getT s)
theorem ob_eq (s : PySem.W.SharedT) : ob s = hk.obs s.abs := obsY_eq (HandSHeadRun.getT_eq s)
def loose0 : List PySem.Str := ["KinError", "InvalidFamily", "InvalidTalk", "InvalidClaim", "InvalidSomebody", "InvalidNumber", "InvalidWord", "NoFamily", "Unlike", "Quarrel", "NothingToUndo", "TooMany", "InvalidText", "_law_vat", "_law_under", "_law_some", "_law_names_of"]
def loose : List PySem.Str := loose0
/-- the world, by what it tells of one row (a written dict's keys ask for it) -/
def fixW (w : World) (b : Bool) : World := { w with params := { w.params with followText := fun k => if k == "special-get-raises" then b else w.params.followText k } }
theorem fixW_eq (w : World) : fixW w (w.params.followText "special-get-raises") = w := by
  have hf : (fun k => if (k == "special-get-raises") = true then w.params.followText "special-get-raises" else w.params.followText k) = w.params.followText := by
    funext k
    by_cases e : k = "special-get-raises"
    · subst e
      simp
    · simp [e]
  exact congrArg (fun f => ({ w with params := { w.params with followText := f } } : World)) hf
theorem runT (w : World) : HandSHeadRun.RunEq R (PySem.W.view R.prog [19]) hk ob 9000 loose (fixW w true) := by
  intro os
  kernel_rfl
theorem runF (w : World) : HandSHeadRun.RunEq R (PySem.W.view R.prog [19]) hk ob 9000 loose (fixW w false) := by
  intro os
  kernel_rfl
theorem run (w : World) : HandSHeadRun.RunEq R (PySem.W.view R.prog [19]) hk ob 9000 loose w := by
  rw [← fixW_eq w]
  cases w.params.followText "special-get-raises"
  · exact runF w
  · exact runT w
end K17

set_option Elab.async false
set_option linter.all false
set_option maxRecDepth 100000
set_option maxHeartbeats 0
open PySem PySem.W PySem.Calls PyProof.Rows in
theorem K17.holds (pure : ∀ ns : List Int, ns.length ≤ 63 → (∀ z ∈ ns, Builtin.Int.intBits z ≤ 1048576) → ∃ μ, DL.runP K17.I.fs K17.I.Kc 40 4 [.fz (ns.map .int)] [] = some (.ok (.bl true), μ)) : PySem.Challenge.rw_saidkin_k17_errors_and_their_classes.Holds := by
  w_on; o_law
  refine HandSHeadRun.head_any (r := OpenLaw.row PySem.Challenge.rw_saidkin_k17_errors_and_their_classes) (q := view (OpenLaw.row PySem.Challenge.rw_saidkin_k17_errors_and_their_classes).prog [19]) (H := K17.hk) (ob := K17.ob) (M := 9000) (loose := K17.loose) (d := HandSHeadRun.topDef (OpenLaw.row PySem.Challenge.rw_saidkin_k17_errors_and_their_classes).prog 19) (kwd := []) K17.ob_eq
    (by kernel_rfl) (fun s => by kernel_rfl) K17.run (by kernel_rfl) (by kernel_rfl) (by kernel_rfl) (by rfl) (by first | assumption | decide +kernel) (by decide +kernel) ⟨rfl, rfl, rfl, rfl, rfl, by decide +kernel⟩ ?hw ?hc
  case hw => w_witness2
  case hc =>
    refine LamX.walk_ofTsE (l := PySem.Challenge.rw_saidkin_k17_errors_and_their_classes) (n := 63) (k := 40) (x := "_law_script") (CX := fun w => L2N.CX (PySem.Challenge.rw_saidkin_k17_errors_and_their_classes).prog w) rfl (by decide) (by kernel_rfl) ⟨rfl, by decide, by decide⟩ ?F ?E
    case F =>
      intro w mg fa h Y Gn hmg0
      obtain ⟨K, KX, c⟩ := Y
      have hmg : mg ("law" : PySem.Str) = some (.ref fa) := by
        have e : (HandSHeadRun.topDef (OpenLaw.row PySem.Challenge.rw_saidkin_k17_errors_and_their_classes).prog 19).name = ("law" : PySem.Str) := by kernel_rfl
        rw [← e]
        exact hmg0
      exact ⟨K, KX, DL.law_at (I := K17.I) (li := 4) K17.ok c KX Gn rfl rfl hmg pure⟩
    case E =>
      intro w H s e s' z
      obtain ⟨a, B, H', cls, d, _, _, _, _, _, _, _, q⟩ := z
      exact q

theorem PySem.Challenge.cw_saidkin_k17_errors_and_their_classes_holds : PySem.Challenge.rw_saidkin_k17_errors_and_their_classes.Holds :=
  K17.holds fun ns _ _ => K17.pure ns
