import PyProof.Rows.All
import Wide.All
import OpenK.AllK
import Wide.FinOn
import HandS.ForMost
import HandS.Exc
import HandS.TupAny
import HandS.Deep
import HandS.IsInst
import HandS.RaiseMore
import HandS.SetFor
import HandS.More
import HandS.TupLen
import KE.SortData
import HandS.Iter
import KE.GoesNew
import KE.KDictCopyH
import KE.KTupTabMore
import KE.KDictPairs
import KE.KDictWalk
import HandS.Words
import HandS.Ends
import HandS.Style
import PyProof.Rows.ReprOcc
import PyProof.ReprRoads
import KE.DataMinMax
import HandS.TupLe
import PyProof.Rows.RowBridgeK
import HandS.Zip
import KE.KRevSl
import HandS.TupMul
import HandS.Text
import PyProof.Rows.IntBool
import PyProof.CallStr
import KE.GoesNewDict
import HandS.Conv
import KE.KUnpackStar
import HandS.DictTup
import PySem.Challenge.RW_drawerways_k05_deeds_by_kind
set_option Elab.async false
set_option linter.all false
set_option maxRecDepth 100000
namespace DL
open PySem PySem.Spec PyProof.Rows L2

/-- the module's known objects; the program, the world -/
structure KW where
  fr : PySem.W.Frag
  P : Program
  w : World
end DL
abbrev L2.Cx.KW (X : L2.Cx) : DL.KW := ⟨X.K, X.prog, X.w⟩
namespace DL
open PySem PySem.Spec PyProof.Rows L2

/-- deep values: tuples by their contents, all that may change by its address -/
inductive D where
  | non | bl (b : Bool) | int (i : Int) | str (x : Str) | tup (ds : List D) | wt (ds : List D) | fz (ds : List D) | ref (a : Addr) | ty (n : String)

/-- what stands at an address that may change -/
inductive AO where
  | lst (ds : List D)
  | dct (kvs : List (D × D))
  /-- a dict while a loop walks it: read only -/
  | fdc (o : Obj) (kvs : List (D × D))
  | set (ds : List D)
  | ins (C : Addr) (fs : List (Str × D))

abbrev Sto := Addr → Option AO
def put (S : Sto) (a : Addr) (o : AO) : Sto := fun b => if b = a then some o else S b
@[simp] theorem put_same {S : Sto} {a : Addr} {o : AO} : put S a o a = some o := by simp [put]
theorem put_ne {S : Sto} {a b : Addr} {o : AO} (h : b ≠ a) : put S a o b = S b := by simp [put, h]
theorem put_put {S : Sto} {a : Addr} {o u : AO} : put (put S a o) a u = put S a u := by
  funext b; unfold put; split <;> rfl
/-- all that stood stands -/
def Grow (S S' : Sto) : Prop := ∀ a o, S a = some o → S' a = some o
theorem Grow.refl (S : Sto) : Grow S S := fun _ _ h => h
theorem Grow.trans {S S1 S2 : Sto} (a : Grow S S1) (b : Grow S1 S2) : Grow S S2 := fun c o h => b c o (a c o h)
theorem Grow.put {S : Sto} {p : Addr} {o : AO} (h : S p = none) : Grow S (put S p o) := fun b u e => by
  rw [put_ne (fun z => by subst z; rw [h] at e; cases e)]; exact e
theorem Grow.then {S S1 : Sto} {p : Addr} {o : AO} (g : Grow S S1) (h : S1 p = none) : Grow S (DL.put S1 p o) := g.trans (.put h)
theorem Grow.free {S S1 : Sto} (g : Grow S S1) {p : Addr} (h : S1 p = none) : S p = none := by
  cases e : S p with
  | none => rfl
  | some o => rw [g p o e] at h; cases h
theorem ne_sn {S : Sto} {a b : Addr} {o : AO} (h : S a = some o) (n : S b = none) : a ≠ b := by
  intro e; subst e; rw [h] at n; cases n

/-- a tuple, its object known (so it has no dict of its own) -/
def TupAt (K : KW) (H : Hp) (a : Addr) (xs : List V) : Prop :=
  (∃ o : Obj, o.dict = none ∧ H a = some (.frz o (.tup xs))) ∨
    ∃ (o : Obj) (its : Array Value) (n : Nat), K.fr.lookup a = some o ∧ o.cls = .type "tuple" ∧ o.dict = none ∧ o.data = .seq its n ∧ its.size ≤ sizeLine ∧ Vals xs its.toList
section
variable (K : KW)
/-- a list that is read only: the script -/
def FzAt (H : Hp) (a : Addr) (xs : List V) : Prop :=
  (∃ o, H a = some (.frz o (.lst xs))) ∨
    ∃ (o : Obj) (its : Array Value) (n : Nat), K.fr.lookup a = some o ∧ o.cls = .type "list" ∧ o.dict = none ∧ o.data = .seq its n ∧ its.size ≤ sizeLine ∧ Vals xs its.toList
mutual
inductive RelD (H : Hp) : V → D → Prop
  | non : RelD H .non .non
  | bl (b) : RelD H (.bl b) (.bl b)
  | int (i) : RelD H (.int i) (.int i)
  | str (x) : PyData.strOk x = true → RelD H (.str x) (.str x)
  | ty (n) : RelD H (.ty n) (.ty n)
  | ref (a) : RelD H (.ref a) (.ref a)
  | tup {a vs ds} : TupAt K H a vs → RelDs H vs ds → RelD H (.ref a) (.tup ds)
  | wt {a vs ds} : H a = some (.tup vs) → RelDs H vs ds → RelD H (.ref a) (.wt ds)
  | fz {a vs ds} : FzAt K H a vs → RelDs H vs ds → RelD H (.ref a) (.fz ds)
inductive RelDs (H : Hp) : List V → List D → Prop
  | nil : RelDs H [] []
  | cons {v d vs ds} : RelD H v d → RelDs H vs ds → RelDs H (v :: vs) (d :: ds)
end
end

/-- tuples stay -/
def stays : HO → Bool
  | .tup _ => true
  | .frz _ (.lst _) => true
  | .frz _ (.tup _) => true
  | _ => false
def Ev (H H' : Hp) : Prop := ∀ a o, H a = some o → stays o = true → H' a = some o
theorem Ev.refl (H : Hp) : Ev H H := fun _ _ h _ => h
theorem Ev.trans {H H1 H2 : Hp} (a : Ev H H1) (b : Ev H1 H2) : Ev H H2 := fun c o h z => b c o (a c o h z) z
theorem Ev.new {H : Hp} {p : Addr} {o : HO} (h : H p = none) : Ev H (upd H p o) := fun b xs e _ => by
  rw [upd_ne (ne_of_none e h)]; exact e
theorem Ev.upd {H : Hp} {p : Addr} {u o : HO} (h : H p = some u) (hu : stays u = false) : Ev H (upd H p o) := fun b x e z => by
  have n : b ≠ p := fun q => by subst q; rw [e] at h; cases h; rw [hu] at z; cases z
  rw [upd_ne n]; exact e

section
variable {K : KW} {H H' : Hp}
theorem TupAt.ev {a : Addr} {xs : List V} (h : TupAt K H a xs) (e : Ev H H') : TupAt K H' a xs := h.elim (fun ⟨o, d, h⟩ => .inl ⟨o, d, e _ _ h rfl⟩) .inr
theorem FzAt.ev {a : Addr} {xs : List V} (h : FzAt K H a xs) (e : Ev H H') : FzAt K H' a xs := h.elim (fun ⟨o, h⟩ => .inl ⟨o, e _ _ h rfl⟩) .inr
theorem FzAt.sq {a : Addr} {xs : List V} (h : FzAt K H a xs) : SqL K.fr H a xs := h.elim (fun ⟨o, h⟩ => .inl (.inr ⟨o, h⟩)) .inr
theorem TupAt.sq {a : Addr} {xs : List V} (h : TupAt K H a xs) : SqT K.fr H a xs := h.elim (fun ⟨o, _, h⟩ => .inl (.inr ⟨o, h⟩)) fun ⟨o, its, n, h1, h2, _, h3⟩ => .inr ⟨o, its, n, h1, h2, h3⟩
mutual
theorem RelD.ev : ∀ {v : V} {d : D}, RelD K H v d → Ev H H' → RelD K H' v d
  | _, _, .non, _ => .non
  | _, _, .bl b, _ => .bl b
  | _, _, .int i, _ => .int i
  | _, _, .str x h, _ => .str x h
  | _, _, .ty n, _ => .ty n
  | _, _, .ref a, _ => .ref a
  | _, _, .tup t r, e => .tup (t.ev e) (RelDs.ev r e)
  | _, _, .wt t r, e => .wt (e _ _ t rfl) (RelDs.ev r e)
  | _, _, .fz t r, e => .fz (t.ev e) (RelDs.ev r e)
theorem RelDs.ev : ∀ {vs : List V} {ds : List D}, RelDs K H vs ds → Ev H H' → RelDs K H' vs ds
  | _, _, .nil, _ => .nil
  | _, _, .cons r t, e => .cons (RelD.ev r e) (RelDs.ev t e)
end
theorem RelDs.length : ∀ {vs : List V} {ds : List D}, RelDs K H vs ds → vs.length = ds.length
  | _, _, .nil => rfl
  | _, _, .cons _ t => by simp [RelDs.length t]
theorem RelDs.get : ∀ {vs : List V} {ds : List D} {i : Nat} {d : D}, RelDs K H vs ds → ds[i]? = some d → ∃ v, vs[i]? = some v ∧ RelD K H v d
  | _, _, _, _, .nil, e => by simp at e
  | _, _, 0, _, .cons r _, e => by simp at e; subst e; exact ⟨_, rfl, r⟩
  | _, _, i + 1, d, .cons _ t, e => by
    obtain ⟨u, h1, h2⟩ := RelDs.get (i := i) (d := d) t (by simpa using e)
    exact ⟨u, by simpa using h1, h2⟩
theorem RelDs.getV : ∀ {vs : List V} {ds : List D} {i : Nat} {v : V}, RelDs K H vs ds → vs[i]? = some v → ∃ d, ds[i]? = some d ∧ RelD K H v d
  | _, _, _, _, .nil, e => by simp at e
  | _, _, 0, _, .cons r _, e => by simp at e; subst e; exact ⟨_, rfl, r⟩
  | _, _, i + 1, d, .cons _ t, e => by
    obtain ⟨u, h1, h2⟩ := RelDs.getV (i := i) (v := d) t (by simpa using e)
    exact ⟨u, by simpa using h1, h2⟩
theorem RelDs.append : ∀ {vs ws : List V} {ds es : List D}, RelDs K H vs ds → RelDs K H ws es → RelDs K H (vs ++ ws) (ds ++ es)
  | _, _, _, _, .nil, s => s
  | _, _, _, _, .cons r t, s => .cons r (RelDs.append t s)
theorem RelDs.take : ∀ {vs : List V} {ds : List D} (n : Nat), RelDs K H vs ds → RelDs K H (vs.take n) (ds.take n)
  | _, _, 0, _ => .nil
  | _, _, _ + 1, .nil => .nil
  | _, _, n + 1, .cons r t => .cons r (RelDs.take n t)
theorem RelDs.drop : ∀ {vs : List V} {ds : List D} (n : Nat), RelDs K H vs ds → RelDs K H (vs.drop n) (ds.drop n)
  | _, _, 0, r => r
  | _, _, _ + 1, .nil => .nil
  | _, _, n + 1, .cons _ t => RelDs.drop n t
theorem RelDs.set {v : V} {d : D} (r : RelD K H v d) : ∀ {vs : List V} {ds : List D} (i : Nat), RelDs K H vs ds → RelDs K H (vs.set i v) (ds.set i d)
  | _, _, _, .nil => .nil
  | _, _, 0, .cons _ t => .cons r t
  | _, _, i + 1, .cons q t => .cons q (RelDs.set r i t)
theorem RelDs.ints : ∀ (ns : List Int), RelDs K H (ns.map V.int) (ns.map D.int)
  | [] => .nil
  | n :: r => .cons (.int n) (RelDs.ints r)
end

mutual
def D.beq : D → D → Bool
  | .non, .non => true
  | .bl a, .bl b => a == b
  | .int a, .int b => a == b
  | .str a, .str b => a == b
  | .tup a, .tup b => D.beqs a b
  | .wt a, .wt b => D.beqs a b
  | .fz a, .fz b => D.beqs a b
  | .ref a, .ref b => Nat.beq a b
  | .ty a, .ty b => a == b
  | _, _ => false
def D.beqs : List D → List D → Bool
  | [], [] => true
  | a :: r, b :: t => D.beq a b && D.beqs r t
  | _, _ => false
end
mutual
theorem D.eq_of_beq : ∀ {a b : D}, D.beq a b = true → a = b
  | .non, b, h => by cases b <;> first | rfl | cases h
  | .bl x, b, h => by cases b <;> first | (simp [D.beq] at h; rw [h]) | cases h
  | .int x, b, h => by cases b <;> first | (simp [D.beq] at h; rw [h]) | cases h
  | .str x, b, h => by cases b <;> first | (simp [D.beq] at h; rw [h]) | cases h
  | .tup x, b, h => by
    cases b with
    | tup y => exact congrArg D.tup (D.eqs_of_beq (by rw [D.beq] at h; exact h))
    | _ => simp [D.beq] at h
  | .wt x, b, h => by
    cases b with
    | wt y => exact congrArg D.wt (D.eqs_of_beq (by rw [D.beq] at h; exact h))
    | _ => simp [D.beq] at h
  | .fz x, b, h => by
    cases b with
    | fz y => exact congrArg D.fz (D.eqs_of_beq (by rw [D.beq] at h; exact h))
    | _ => simp [D.beq] at h
  | .ref x, b, h => by
    cases b with
    | ref y => exact congrArg D.ref (Nat.eq_of_beq_eq_true (by rw [D.beq] at h; exact h))
    | _ => simp [D.beq] at h
  | .ty x, b, h => by cases b <;> first | (simp [D.beq] at h; rw [h]) | cases h
theorem D.eqs_of_beq : ∀ {a b : List D}, D.beqs a b = true → a = b
  | [], b, h => by cases b <;> first | rfl | cases h
  | x :: r, b, h => by
    cases b with
    | nil => cases h
    | cons y t =>
      simp only [D.beqs, Bool.and_eq_true] at h
      rw [D.eq_of_beq h.1, D.eqs_of_beq h.2]
end
mutual
theorem D.beq_refl : ∀ a : D, D.beq a a = true
  | .non => rfl
  | .bl x => by simp [D.beq]
  | .int x => by simp [D.beq]
  | .str x => by simp [D.beq]
  | .tup x => by rw [D.beq]; exact D.beqs_refl x
  | .wt x => by rw [D.beq]; exact D.beqs_refl x
  | .fz x => by rw [D.beq]; exact D.beqs_refl x
  | .ref x => by rw [D.beq]; exact Nat.beq_refl x
  | .ty x => by simp [D.beq]
theorem D.beqs_refl : ∀ a : List D, D.beqs a a = true
  | [] => rfl
  | x :: r => by rw [D.beqs, D.beq_refl x, D.beqs_refl r]; rfl
end
instance : DecidableEq D := fun a b => if h : D.beq a b = true then .isTrue (D.eq_of_beq h) else .isFalse fun e => h (e ▸ D.beq_refl a)
/-- a key of a dict as a value -/
def kD : Key → D
  | .inl i => .int i
  | .inr x => .str x
theorem kD_inj {a b : Key} (h : kD a = kD b) : a = b := by
  cases a <;> cases b <;> simp [kD] at h <;> simp [h]
def kTD (k : List Key) : D := .tup (k.map kD)
theorem kDs_inj : ∀ {a b : List Key}, a.map kD = b.map kD → a = b
  | [], [], _ => rfl
  | [], _ :: _, h => by simp at h
  | _ :: _, [], h => by simp at h
  | x :: r, y :: t, h => by
    simp only [List.map_cons, List.cons.injEq] at h
    rw [kD_inj h.1, kDs_inj h.2]
theorem kTD_inj {a b : List Key} (h : kTD a = kTD b) : a = b := kDs_inj (D.tup.inj h)
inductive RelKV {κ : Type} (f : κ → D) (K : KW) (H : Hp) : List (κ × V) → List (D × D) → Prop
  | nil : RelKV f K H [] []
  | cons {k v d r t} : (∀ x, f k = .str x → PyData.strOk x = true) → RelD K H v d → RelKV f K H r t → RelKV f K H ((k, v) :: r) ((f k, d) :: t)
/-- a dict whose keys are tuples: its object -/
def TDo (K : KW) (a : Addr) (xs : List (List Key × Addr × Value)) (h : Heap) : Prop :=
  (xs.length ≤ sizeLine ∧ (a == sysModules) = false) ∧ ∃ o es ep, h.get? a = some o ∧ o.ExactDict ∧ o.data = .dict es ep ∧ es.toList = xs.map (entryOfKey (tupleKind (mixKind K.P K.w))) ∧ (xs.map (·.1)).Nodup
def TDn (K : KW) (a : Addr) (xs : List (List Key × Addr × Value)) : HO := .ext (TDo K a xs)
/-- the tuple at b is the key k -/
def KeyT (K : KW) (H : Hp) (b : Addr) (k : List Key) : Prop := TupAt K H b (k.map kV) ∧ RelDs K H (k.map kV) (k.map kD)
theorem KeyT.ev {K : KW} {H H' : Hp} {b : Addr} {k : List Key} (h : KeyT K H b k) (e : Ev H H') : KeyT K H' b k := ⟨h.1.ev e, h.2.ev e⟩
inductive RelTV (K : KW) (H : Hp) : List (List Key × Addr × Value) → List (D × D) → Prop
  | nil : RelTV K H [] []
  | cons {k b u v d r t} : KeyT K H b k → RelV v u → RelD K H v d → RelTV K H r t → RelTV K H ((k, b, u) :: r) ((kTD k, d) :: t)
theorem RelTV.ev {K : KW} {H H' : Hp} : ∀ {xs : List (List Key × Addr × Value)} {kvs : List (D × D)}, RelTV K H xs kvs → Ev H H' → RelTV K H' xs kvs
  | _, _, .nil, _ => .nil
  | _, _, .cons t v r q, e => .cons (t.ev e) v (r.ev e) (q.ev e)
theorem RelTV.length {K : KW} {H : Hp} : ∀ {xs : List (List Key × Addr × Value)} {kvs : List (D × D)}, RelTV K H xs kvs → xs.length = kvs.length
  | _, _, .nil => rfl
  | _, _, .cons _ _ _ t => by simp [t.length]
section
variable (K : KW)
/-- what a store's object is in the heap of the layer below -/
def OkO (H : Hp) (a : Addr) : AO → Prop
  | .lst ds => ∃ vs, H a = some (.lst vs) ∧ RelDs K H vs ds
  | .dct kvs => (∃ es : List (Key × V), H a = some (.dK es) ∧ RelKV kD K H es kvs) ∨ ∃ xs, H a = some (TDn K a xs) ∧ RelTV K H xs kvs
  | .fdc o kvs => (∃ es : List (Key × V), H a = some (.frz o (.dK es)) ∧ RelKV kD K H es kvs) ∨ ∃ xs, H a = some (.frz o (TDn K a xs)) ∧ RelTV K H xs kvs
  | .set ds => False
  | .ins C fs => False
def HR (H : Hp) (S : Sto) : Prop := ∀ a o, S a = some o → OkO K H a o
end

theorem RelKV.ev {κ : Type} {f : κ → D} {K : KW} {H H' : Hp} : ∀ {es : List (κ × V)} {kvs : List (D × D)}, RelKV f K H es kvs → Ev H H' → RelKV f K H' es kvs
  | _, _, .nil, _ => .nil
  | _, _, .cons h r t, e => .cons h (r.ev e) (t.ev e)
theorem RelKV.length {κ : Type} {f : κ → D} {K : KW} {H : Hp} : ∀ {es : List (κ × V)} {kvs : List (D × D)}, RelKV f K H es kvs → es.length = kvs.length
  | _, _, .nil => rfl
  | _, _, .cons _ _ t => by simp [t.length]
abbrev DSt := List (Option D)
def RelOD (K : KW) (H : Hp) : Option V → Option D → Prop
  | some v, some d => RelD K H v d
  | _, none => True
  | none, some _ => False
inductive StR (K : KW) (H : Hp) : L2.St → DSt → Prop
  | nil : StR K H [] []
  | cons {v d vs ds} : RelOD K H v d → StR K H vs ds → StR K H (v :: vs) (d :: ds)
section
variable {K : KW} {H H' : Hp}
theorem StR.ev : ∀ {σ : L2.St} {τ : DSt}, StR K H σ τ → Ev H H' → StR K H' σ τ
  | _, _, .nil, _ => .nil
  | v :: _, d :: _, .cons r t, e => .cons (by
      cases d with
      | none => cases v <;> trivial
      | some d => cases v with
        | none => exact r
        | some v => exact RelD.ev r e) (StR.ev t e)
theorem StR.length : ∀ {σ : L2.St} {τ : DSt}, StR K H σ τ → σ.length = τ.length
  | _, _, .nil => rfl
  | _, _, .cons _ t => by simp [StR.length t]
theorem StR.get : ∀ {σ : L2.St} {τ : DSt} {i : Nat} {d : D}, StR K H σ τ → τ[i]? = some (some d) → ∃ v, σ[i]? = some (some v) ∧ RelD K H v d
  | _, _, _, _, .nil, e => by simp at e
  | v :: _, _, 0, d, .cons r _, e => by
    simp at e; subst e
    cases v with
    | none => exact r.elim
    | some v => exact ⟨v, rfl, r⟩
  | _, _, i + 1, d, .cons _ t, e => by
    obtain ⟨u, h1, h2⟩ := StR.get (i := i) (d := d) t (by simpa using e)
    exact ⟨u, by simpa using h1, h2⟩
theorem StR.set {v : V} {d : D} (r : RelD K H v d) : ∀ {σ : L2.St} {τ : DSt} (i : Nat), StR K H σ τ → StR K H (σ.set i (some v)) (τ.set i (some d))
  | _, _, _, .nil => .nil
  | _, _, 0, .cons _ t => .cons r t
  | _, _, i + 1, .cons q t => .cons q (StR.set r i t)
theorem StR.setN : ∀ {σ : L2.St} {τ : DSt} (i : Nat), StR K H σ τ → StR K H (σ.set i none) (τ.set i none)
  | _, _, _, .nil => .nil
  | _, _, 0, .cons _ t => .cons (by trivial) t
  | _, _, i + 1, .cons q t => .cons q (StR.setN i t)
theorem StR.nones : ∀ n : Nat, StR K H (List.replicate n none) (List.replicate n none)
  | 0 => .nil
  | n + 1 => .cons trivial (StR.nones n)
theorem StR.somes : ∀ {vs : List V} {ds : List D}, RelDs K H vs ds → ∀ {σ : L2.St} {τ : DSt}, StR K H σ τ → StR K H (vs.map some ++ σ) (ds.map some ++ τ)
  | _, _, .nil, _, _, s => s
  | _, _, .cons r t, _, _, s => .cons r (StR.somes t s)

theorem OkO.ev {a : Addr} {o : AO} (h : OkO K H a o) (e : Ev H H') (k : ∀ u, H a = some u → H' a = some u) : OkO K H' a o := by
  cases o with
  | lst ds => obtain ⟨vs, h1, h2⟩ := h; exact ⟨vs, k _ h1, h2.ev e⟩
  | dct kvs =>
    rcases h with ⟨es, h1, h2⟩ | ⟨es, h1, h2⟩
    · exact .inl ⟨es, k _ h1, h2.ev e⟩
    · exact .inr ⟨es, k _ h1, h2.ev e⟩
  | fdc o kvs =>
    rcases h with ⟨es, h1, h2⟩ | ⟨es, h1, h2⟩
    · exact .inl ⟨es, k _ h1, h2.ev e⟩
    · exact .inr ⟨es, k _ h1, h2.ev e⟩
  | set _ => exact h.elim
  | ins _ _ => exact h.elim
/-- a new object below that the store does not know -/
theorem HR.new {S : Sto} {p : Addr} {o : HO} (h : HR K H S) (n : H p = none) : HR K (upd H p o) S := fun a u e =>
  (h a u e).ev (.new n) fun x q => by rw [upd_ne (ne_of_none q n)]; exact q
end
end DL

namespace DL
open PySem PySem.Spec PyProof.Rows L2

abbrev KD := D → Sto → Prop
abbrev DTE := DSt → Sto → KD → Prop
abbrev DTT := DSt → Sto → (Bool → Sto → Prop) → Prop
abbrev DTA := DSt → Sto → (List D → Sto → Prop) → Prop
structure DEnds where
  nx : DSt → Sto → Prop
  rt : KD
  bk : DSt → Sto → Prop
  ct : DSt → Sto → Prop
abbrev DTS := DEnds → DSt → Sto → Prop

def Up (K : KW) (H : Hp) (Q : KD) : VK := fun v H' => Ev H H' ∧ ∃ d S', HR K H' S' ∧ RelD K H' v d ∧ Q d S'
def UpT (K : KW) (H : Hp) (Q : Bool → Sto → Prop) : Bool → Hp → Prop := fun b H' => Ev H H' ∧ ∃ S', HR K H' S' ∧ Q b S'
def UpA (K : KW) (H : Hp) (Q : List D → Sto → Prop) : List V → Hp → Prop := fun vs H' => Ev H H' ∧ ∃ ds S', HR K H' S' ∧ RelDs K H' vs ds ∧ Q ds S'
def UpS (K : KW) (H : Hp) (Q : DSt → Sto → Prop) : L2.St → Hp → Prop := fun σ H' => Ev H H' ∧ ∃ τ S', HR K H' S' ∧ StR K H' σ τ ∧ Q τ S'
def UpE (K : KW) (H : Hp) (Dn : DEnds) : Ends := ⟨UpS K H Dn.nx, Up K H Dn.rt, UpS K H Dn.bk, UpS K H Dn.ct⟩
section
variable {K : KW} {H H1 H' : Hp}
theorem Up.of {Q : KD} {v : V} {d : D} {S' : Sto} (e : Ev H H') (h : HR K H' S') (r : RelD K H' v d) (q : Q d S') : Up K H Q v H' := ⟨e, d, S', h, r, q⟩
theorem Up.back {Q : KD} {v : V} (e : Ev H H1) (u : Up K H1 Q v H') : Up K H Q v H' := ⟨e.trans u.1, u.2⟩
theorem UpT.back {Q : Bool → Sto → Prop} {v : Bool} (e : Ev H H1) (u : UpT K H1 Q v H') : UpT K H Q v H' := ⟨e.trans u.1, u.2⟩
theorem UpA.back {Q : List D → Sto → Prop} {v : List V} (e : Ev H H1) (u : UpA K H1 Q v H') : UpA K H Q v H' := ⟨e.trans u.1, u.2⟩
theorem UpS.back {Q : DSt → Sto → Prop} {v : L2.St} (e : Ev H H1) (u : UpS K H1 Q v H') : UpS K H Q v H' := ⟨e.trans u.1, u.2⟩
theorem UpS.same {Q : DSt → Sto → Prop} {σ : L2.St} {τ : DSt} {S : Sto} (st : StR K H σ τ) (h : HR K H S) (q : Q τ S) : UpS K H Q σ H := ⟨.refl _, τ, S, h, st, q⟩
end

structure DE (X : Cx) (e : Expr) (t : DTE) : Prop where
  run : ∀ (pins : List (Addr × Obj)) (s : Shared) (σ : L2.St) (H : Hp) (τ : DSt) (S : Sto) (Q : KD), Inv X pins σ H s → StR X.KW H σ τ → HR X.KW H S → t τ S Q →
    wpAny (model X.prog X.w) X.A (eval e X.env) (EP X pins σ (Up X.KW H Q)) X.xe s
structure DT (X : Cx) (e : Expr) (t : DTT) : Prop where
  run : ∀ (pins : List (Addr × Obj)) (s : Shared) (σ : L2.St) (H : Hp) (τ : DSt) (S : Sto) (Q : Bool → Sto → Prop), Inv X pins σ H s → StR X.KW H σ τ → HR X.KW H S → t τ S Q →
    wpAny (model X.prog X.w) X.A (isTrue e X.env (eval e X.env)) (TP X pins σ (UpT X.KW H Q)) X.xe s
structure DW (X : Cx) (e : Expr) (t : DTT) : Prop where
  run : ∀ (whole : Sem Value) (pins : List (Addr × Obj)) (s : Shared) (σ : L2.St) (H : Hp) (τ : DSt) (S : Sto) (Q : Bool → Sto → Prop), Inv X pins σ H s → StR X.KW H σ τ → HR X.KW H S → t τ S Q →
    wpAny (model X.prog X.w) X.A (isTrue e X.env whole) (TP X pins σ (UpT X.KW H Q)) X.xe s
structure DAr (X : Cx) (es : List Expr) (t : DTA) : Prop where
  run : ∀ (pos : Pos) (pins : List (Addr × Obj)) (s : Shared) (σ : L2.St) (H : Hp) (τ : DSt) (S : Sto) (Q : List D → Sto → Prop), Inv X pins σ H s → StR X.KW H σ τ → HR X.KW H S → t τ S Q →
    wpAny (model X.prog X.w) X.A (spliced (backTo pos (starEach es X.env))) (AP X pins σ (UpA X.KW H Q)) X.xe s
structure DSm (X : Cx) (st : Stmt) (t : DTS) : Prop where
  run : ∀ (pins : List (Addr × Obj)) (s : Shared) (σ : L2.St) (H : Hp) (τ : DSt) (S : Sto) (Dn : DEnds), Inv X pins σ H s → StR X.KW H σ τ → HR X.KW H S → t Dn τ S →
    wpAny (model X.prog X.w) X.A (exec st X.env) (SP X pins (UpE X.KW H Dn)) X.xe s
structure DSs (X : Cx) (st : List Stmt) (t : DTS) : Prop where
  run : ∀ (pins : List (Addr × Obj)) (s : Shared) (σ : L2.St) (H : Hp) (τ : DSt) (S : Sto) (Dn : DEnds), Inv X pins σ H s → StR X.KW H σ τ → HR X.KW H S → t Dn τ S →
    wpAny (model X.prog X.w) X.A (execs st X.env) (SP X pins (UpE X.KW H Dn)) X.xe s

/-! ### as judgements of the layer below -/
def loE (K : KW) (t : DTE) : TE := fun σ H R => ∃ τ S Q, StR K H σ τ ∧ HR K H S ∧ t τ S Q ∧ ∀ v H', Up K H Q v H' → R v H'
def loT (K : KW) (t : DTT) : TT := fun σ H R => ∃ τ S Q, StR K H σ τ ∧ HR K H S ∧ t τ S Q ∧ ∀ v H', UpT K H Q v H' → R v H'
def loA (K : KW) (t : DTA) : TA := fun σ H R => ∃ τ S Q, StR K H σ τ ∧ HR K H S ∧ t τ S Q ∧ ∀ v H', UpA K H Q v H' → R v H'
def loS (K : KW) (t : DTS) : TS := fun D σ H => ∃ τ S Dn, StR K H σ τ ∧ HR K H S ∧ t Dn τ S ∧ (∀ σ' H', UpS K H Dn.nx σ' H' → D.nx σ' H') ∧ (∀ v H', Up K H Dn.rt v H' → D.rt v H') ∧
  (∀ σ' H', UpS K H Dn.bk σ' H' → D.bk σ' H') ∧ ∀ σ' H', UpS K H Dn.ct σ' H' → D.ct σ' H'
section
variable {X : Cx}
theorem SP.imp {pins : List (Addr × Obj)} {D D' : Ends} {f : Flow} {s : Shared} (h : SP X pins D f s) (h1 : ∀ σ H, D.nx σ H → D'.nx σ H) (h2 : ∀ v H, D.rt v H → D'.rt v H) (h3 : ∀ σ H, D.bk σ H → D'.bk σ H) (h4 : ∀ σ H, D.ct σ H → D'.ct σ H) : SP X pins D' f s := by
  cases f with
  | next => obtain ⟨a, b, c, d⟩ := h; exact ⟨a, b, c, h1 _ _ d⟩
  | brk => obtain ⟨a, b, c, d⟩ := h; exact ⟨a, b, c, h3 _ _ d⟩
  | cont => obtain ⟨a, b, c, d⟩ := h; exact ⟨a, b, c, h4 _ _ d⟩
  | ret u => obtain ⟨a, b, c, d, e, g⟩ := h; exact ⟨a, b, c, d, e, h2 _ _ g⟩
theorem DE.lo {e : Expr} {t : DTE} (h : DE X e t) : PE X e (loE X.KW t) := ⟨fun pins s σ H R I ⟨τ, S, Q, st, hr, q, k⟩ => thn (h.run pins s σ H τ S Q I st hr q) fun u s' ⟨v, H', I', r, q'⟩ => ⟨v, H', I', r, k _ _ q'⟩⟩
theorem DT.lo {e : Expr} {t : DTT} (h : DT X e t) : PT X e (loT X.KW t) := ⟨fun pins s σ H R I ⟨τ, S, Q, st, hr, q, k⟩ => thn (h.run pins s σ H τ S Q I st hr q) fun u s' ⟨H', I', q'⟩ => ⟨H', I', k _ _ q'⟩⟩
theorem DAr.lo {e : List Expr} {t : DTA} (h : DAr X e t) : PA X e (loA X.KW t) := ⟨fun pos pins s σ H R I ⟨τ, S, Q, st, hr, q, k⟩ => thn (h.run pos pins s σ H τ S Q I st hr q) fun u s' ⟨v, H', I', r, q'⟩ => ⟨v, H', I', r, k _ _ q'⟩⟩
theorem DSm.lo {st : Stmt} {t : DTS} (h : DSm X st t) : PS X st (loS X.KW t) := ⟨fun pins s σ H D I ⟨τ, S, Dn, st, hr, q, k1, k2, k3, k4⟩ => thn (h.run pins s σ H τ S Dn I st hr q) fun f s' z => SP.imp z k1 k2 k3 k4⟩
theorem DSs.lo {st : List Stmt} {t : DTS} (h : DSs X st t) : PSs X st (loS X.KW t) := ⟨fun pins s σ H D I ⟨τ, S, Dn, st, hr, q, k1, k2, k3, k4⟩ => thn (h.run pins s σ H τ S Dn I st hr q) fun f s' z => SP.imp z k1 k2 k3 k4⟩
theorem loE.mk {K : KW} {t : DTE} {σ : L2.St} {H : Hp} {R : VK} {τ : DSt} {S : Sto} {Q : KD} (st : StR K H σ τ) (hr : HR K H S) (q : t τ S Q) (k : ∀ v H', Up K H Q v H' → R v H') : loE K t σ H R := ⟨τ, S, Q, st, hr, q, k⟩
/-- by a judgement below -/
theorem DE.up {e : Expr} {t : DTE} {u : TE} (h : PE X e u) (c : ∀ (σ : L2.St) (H : Hp) (τ : DSt) (S : Sto) (Q : KD), StR X.KW H σ τ → HR X.KW H S → t τ S Q → u σ H (Up X.KW H Q)) : DE X e t :=
  ⟨fun pins s σ H τ S Q I st hr q => h.run pins s σ H _ I (c σ H τ S Q st hr q)⟩
theorem DT.up {e : Expr} {t : DTT} {u : TT} (h : PT X e u) (c : ∀ (σ : L2.St) (H : Hp) (τ : DSt) (S : Sto) (Q : Bool → Sto → Prop), StR X.KW H σ τ → HR X.KW H S → t τ S Q → u σ H (UpT X.KW H Q)) : DT X e t :=
  ⟨fun pins s σ H τ S Q I st hr q => h.run pins s σ H _ I (c σ H τ S Q st hr q)⟩
theorem DW.up {e : Expr} {t : DTT} {u : TT} (h : PW X e u) (c : ∀ (σ : L2.St) (H : Hp) (τ : DSt) (S : Sto) (Q : Bool → Sto → Prop), StR X.KW H σ τ → HR X.KW H S → t τ S Q → u σ H (UpT X.KW H Q)) : DW X e t :=
  ⟨fun wh pins s σ H τ S Q I st hr q => h.run wh pins s σ H _ I (c σ H τ S Q st hr q)⟩
theorem DW.dt {e : Expr} {t : DTT} (h : DW X e t) : DT X e t := ⟨h.run _⟩
theorem DW.lo {e : Expr} {t : DTT} (h : DW X e t) : PW X e (loT X.KW t) := ⟨fun wh pins s σ H R I ⟨τ, S, Q, st, hr, q, k⟩ => thn (h.run wh pins s σ H τ S Q I st hr q) fun u s' ⟨H', I', q'⟩ => ⟨H', I', k _ _ q'⟩⟩
theorem DAr.up {e : List Expr} {t : DTA} {u : TA} (h : PA X e u) (c : ∀ (σ : L2.St) (H : Hp) (τ : DSt) (S : Sto) (Q : List D → Sto → Prop), StR X.KW H σ τ → HR X.KW H S → t τ S Q → u σ H (UpA X.KW H Q)) : DAr X e t :=
  ⟨fun pos pins s σ H τ S Q I st hr q => h.run pos pins s σ H _ I (c σ H τ S Q st hr q)⟩
theorem DSm.up {st : Stmt} {t : DTS} {u : TS} (h : PS X st u) (c : ∀ (σ : L2.St) (H : Hp) (τ : DSt) (S : Sto) (Dn : DEnds), StR X.KW H σ τ → HR X.KW H S → t Dn τ S → u (UpE X.KW H Dn) σ H) : DSm X st t :=
  ⟨fun pins s σ H τ S Dn I st hr q => h.run pins s σ H _ I (c σ H τ S Dn st hr q)⟩
theorem DSs.up {st : List Stmt} {t : DTS} {u : TS} (h : PSs X st u) (c : ∀ (σ : L2.St) (H : Hp) (τ : DSt) (S : Sto) (Dn : DEnds), StR X.KW H σ τ → HR X.KW H S → t Dn τ S → u (UpE X.KW H Dn) σ H) : DSs X st t :=
  ⟨fun pins s σ H τ S Dn I st hr q => h.run pins s σ H _ I (c σ H τ S Dn st hr q)⟩

/-! ### constants, names -/
def dC (d : D) : DTE := fun _ S Q => Q d S
def dV (i : Nat) : DTE := fun τ S Q => match τ[i]? with | some (some d) => Q d S | _ => False
theorem de_c {e : Expr} {v : V} {d : D} (h : PE X e (tC v)) (r : ∀ H, RelD X.KW H v d) : DE X e (dC d) := .up h fun _ H _ S _ _ hr q => .of (.refl _) hr (r H) q
variable {pos : Pos}
theorem de_int {i j} : DE X (.Constant (.int i) j pos) (dC (.int i)) := de_c pe_int fun _ => .int i
theorem de_bl {b j} : DE X (.Constant (.bool b) j pos) (dC (.bl b)) := de_c pe_bl fun _ => .bl b
theorem de_non {j} : DE X (.Constant .none j pos) (dC .non) := de_c pe_non fun _ => .non
theorem de_str {x j} (h : PyData.strOk x = true := by decide +kernel) : DE X (.Constant (.str x) j pos) (dC (.str x)) := de_c pe_str fun _ => .str x h
theorem de_v (i : Nat) {x : Str} (hN : X.N[i]? = some x := by rfl) (hv : Vis X.env.scope x := by first | exact Or.inl rfl | exact Or.inr (Or.inl rfl) | exact Or.inr (Or.inr rfl)) (hd : (x == ("__debug__" : Str)) = false := by decide)
    (hcd : (x == ("__classdict__" : Str)) = false := by decide) : DE X (.Name x pos) (dV i) := .up (pe_var (i := i) hN hv hd hcd) fun σ H τ S Q st hr q => by
  unfold dV at q
  cases e : τ[i]? with
  | none => rw [e] at q; exact q.elim
  | some o =>
    cases o with
    | none => rw [e] at q; exact q.elim
    | some d =>
      rw [e] at q
      obtain ⟨v, h1, h2⟩ := st.get e
      exact ⟨v, h1, .of (.refl _) hr h2 q⟩

/-! ### operations by values -/
/-- a two-place operation -/
def DOp (X : Cx) (f : Value → Value → Sem Value) (r : D → D → Sto → KD → Prop) : Prop :=
  ∃ rh : R2, OpR X f rh ∧ ∀ (x y : V) (dx dy : D) (H : Hp) (S : Sto) (Q : KD) (R : VK), HR X.KW H S → RelD X.KW H x dx → RelD X.KW H y dy → r dx dy S Q → (∀ v H', Up X.KW H Q v H' → R v H') → rh x y H R
def dBin (r : D → D → Sto → KD → Prop) (ta tb : DTE) : DTE := fun τ S Q => ta τ S fun x S1 => tb τ S1 fun y S2 => r x y S2 Q
variable {a b c : Expr} {ta tb tc : DTE} {r : D → D → Sto → KD → Prop}
theorem bin_lo {K : KW} {σ : L2.St} {H : Hp} {τ : DSt} {S : Sto} {R : V → V → Hp → Prop} {r' : D → D → Sto → Prop} (st : StR K H σ τ) (hr : HR K H S) (q : ta τ S fun x S1 => tb τ S1 fun y S2 => r' x y S2)
    (k : ∀ x y dx dy H2 S2, Ev H H2 → HR K H2 S2 → RelD K H2 x dx → RelD K H2 y dy → r' dx dy S2 → R x y H2) : loE K ta σ H fun x H1 => loE K tb σ H1 fun y H2 => R x y H2 :=
  .mk st hr q fun _ _ ⟨e1, _, _, hr1, r1, q1⟩ => .mk (st.ev e1) hr1 q1 fun _ _ ⟨e2, _, _, hr2, r2, q2⟩ => k _ _ _ _ _ _ (e1.trans e2) hr2 (r1.ev e2) r2 q2
theorem de_op {op : Operator} (ho : DOp X (binaryOp op) r) (ha : DE X a ta) (hb : DE X b tb) : DE X (.BinOp a op b pos) (dBin r ta tb) := by
  obtain ⟨rh, h1, h2⟩ := ho
  exact .up (pe_op h1 ha.lo hb.lo) fun σ H τ S Q st hr q => bin_lo st hr q fun x y dx dy H2 S2 e hr2 r1 r2 q2 => h2 x y dx dy H2 S2 Q _ hr2 r1 r2 q2 fun v H' u => u.back e
theorem de_cmp {op : CmpOp} (ho : DOp X (compareOp op) r) (ha : DE X a ta) (hb : DE X b tb) (hm : behindInMarks op b = false) : DE X (.Compare a [op] [b] pos) (dBin r ta tb) := by
  obtain ⟨rh, h1, h2⟩ := ho
  exact .up (pe_cmpR h1 ha.lo hb.lo hm) fun σ H τ S Q st hr q => bin_lo st hr q fun x y dx dy H2 S2 e hr2 r1 r2 q2 => h2 x y dx dy H2 S2 Q _ hr2 r1 r2 q2 fun v H' u => u.back e
/-- a value as a test: a bool -/
def isB (Q : Bool → Sto → Prop) : KD := fun d S => match d with | .bl b => Q b S | _ => False
theorem isB.of {Q : Bool → Sto → Prop} {K : KW} {H H' : Hp} {v : V} (u : Up K H (isB Q) v H') : ∃ b, v = .bl b ∧ UpT K H Q b H' := by
  obtain ⟨e, d, S', hr, r, q⟩ := u
  cases d with
  | bl b => cases r; exact ⟨b, rfl, e, S', hr, q⟩
  | _ => exact q.elim
def dTst (t : DTE) : DTT := fun τ S Q => t τ S (isB Q)
theorem dt_cmp {op : CmpOp} (ho : DOp X (compareOp op) r) (ha : DE X a ta) (hb : DE X b tb) (hm : behindInMarks op b = false) : DT X (.Compare a [op] [b] pos) (dTst (dBin r ta tb)) := by
  obtain ⟨rh, h1, h2⟩ := ho
  exact .up (pt_cmpR h1 ha.lo hb.lo hm) fun σ H τ S Q st hr q => bin_lo st hr q fun x y dx dy H2 S2 e hr2 r1 r2 q2 => h2 x y dx dy H2 S2 _ _ hr2 r1 r2 q2 fun v H' u => by
    obtain ⟨k, e1, u1⟩ := isB.of u
    exact ⟨k, e1, u1.back e⟩
theorem dt_val {e : Expr} {t : DTE} (h : DE X e t) (he : ∀ whole, isTrue e X.env whole = (do let v ← whole; standAt e.pos; holding [v] (truthy v)) := by intro _; rfl) : DT X e (dTst t) :=
  .up (pt_val h.lo he) fun σ H τ S Q st hr q => .mk st hr q fun v H' u => isB.of u
def dAnd (t u : DTT) : DTT := fun τ S Q => t τ S fun c S1 => if c = true then u τ S1 Q else Q false S1
def dOr (t u : DTT) : DTT := fun τ S Q => t τ S fun c S1 => if c = true then Q true S1 else u τ S1 Q
def dNot (t : DTT) : DTT := fun τ S Q => t τ S fun c S1 => Q (!c) S1
variable {t u : DTT} {rest : List Expr}
theorem dw_and1 (ha : DT X a t) : DW X (.BoolOp .And [a] pos) t := .up (pw_and1 ha.lo) fun _ _ τ S Q st hr q => ⟨τ, S, Q, st, hr, q, fun _ _ z => z⟩
theorem dw_or1 (ha : DT X a t) : DW X (.BoolOp .Or [a] pos) t := .up (pw_or1 ha.lo) fun _ _ τ S Q st hr q => ⟨τ, S, Q, st, hr, q, fun _ _ z => z⟩
theorem dw_and (ha : DT X a t) (hb : DW X (.BoolOp .And (b :: rest) pos) u) : DW X (.BoolOp .And (a :: b :: rest) pos) (dAnd t u) := .up (pw_and ha.lo hb.lo) fun σ H τ S Q st hr q =>
  ⟨τ, S, _, st, hr, q, fun c H1 ⟨e, S1, hr1, q1⟩ => by
    cases c with
    | true => exact ⟨τ, S1, Q, st.ev e, hr1, q1, fun _ _ z => z.back e⟩
    | false => exact ⟨e, S1, hr1, q1⟩⟩
theorem dw_or (ha : DT X a t) (hb : DW X (.BoolOp .Or (b :: rest) pos) u) : DW X (.BoolOp .Or (a :: b :: rest) pos) (dOr t u) := .up (pw_or ha.lo hb.lo) fun σ H τ S Q st hr q =>
  ⟨τ, S, _, st, hr, q, fun c H1 ⟨e, S1, hr1, q1⟩ => by
    cases c with
    | false => exact ⟨τ, S1, Q, st.ev e, hr1, q1, fun _ _ z => z.back e⟩
    | true => exact ⟨e, S1, hr1, q1⟩⟩
theorem dt_not (ha : DT X a t) : DT X (.UnaryOp .Not a pos) (dNot t) := .up (pt_not ha.lo) fun σ H τ S Q st hr q => ⟨τ, S, _, st, hr, q, fun c H1 ⟨e, S1, hr1, q1⟩ => ⟨e, S1, hr1, q1⟩⟩
/-- .. as values: all but the last bools -/
def dAndV (ta tb : DTE) : DTE := fun τ S Q => ta τ S (isB fun c S1 => if c = true then tb τ S1 Q else Q (.bl false) S1)
def dOrV (ta tb : DTE) : DTE := fun τ S Q => ta τ S (isB fun c S1 => if c = true then Q (.bl true) S1 else tb τ S1 Q)
def dNotV (ta : DTE) : DTE := fun τ S Q => ta τ S (isB fun c S1 => Q (.bl (!c)) S1)
theorem de_one {op} (h : DE X a ta) : DE X (.BoolOp op [a] pos) ta := .up (pe_one h.lo) fun _ _ τ S Q st hr q => .mk st hr q fun _ _ z => z
theorem de_and (ha : DE X a ta) (hb : DE X (.BoolOp .And (b :: rest) pos) tb) : DE X (.BoolOp .And (a :: b :: rest) pos) (dAndV ta tb) := .up (pe_and ha.lo hb.lo) fun σ H τ S Q st hr q =>
  .mk st hr q fun v H' z => by
    obtain ⟨k, e1, e, S1, hr1, q1⟩ := isB.of z
    refine ⟨k, e1, ?_⟩
    cases k with
    | true => exact .mk (st.ev e) hr1 q1 fun _ _ z => z.back e
    | false => exact .of e hr1 (.bl false) q1
theorem de_or (ha : DE X a ta) (hb : DE X (.BoolOp .Or (b :: rest) pos) tb) : DE X (.BoolOp .Or (a :: b :: rest) pos) (dOrV ta tb) := .up (pe_or ha.lo hb.lo) fun σ H τ S Q st hr q =>
  .mk st hr q fun v H' z => by
    obtain ⟨k, e1, e, S1, hr1, q1⟩ := isB.of z
    refine ⟨k, e1, ?_⟩
    cases k with
    | false => exact .mk (st.ev e) hr1 q1 fun _ _ z => z.back e
    | true => exact .of e hr1 (.bl true) q1
theorem de_not (ha : DE X a ta) : DE X (.UnaryOp .Not a pos) (dNotV ta) := .up (pe_not ha.lo) fun σ H τ S Q st hr q =>
  .mk st hr q fun v H' z => by
    obtain ⟨k, e1, e, S1, hr1, q1⟩ := isB.of z
    exact ⟨k, e1, .of e hr1 (.bl (!k)) q1⟩
def dIf (t : DTT) (ta tb : DTE) : DTE := fun τ S Q => t τ S fun c S1 => if c = true then ta τ S1 Q else tb τ S1 Q
theorem de_if (hc : DT X c t) (ha : DE X a ta) (hb : DE X b tb) : DE X (.IfExp c a b pos) (dIf t ta tb) := .up (pe_ifExp hc.lo ha.lo hb.lo) fun σ H τ S Q st hr q =>
  ⟨τ, S, _, st, hr, q, fun c H1 ⟨e, S1, hr1, q1⟩ => by
    cases c with
    | true => exact .mk (st.ev e) hr1 q1 fun _ _ z => z.back e
    | false => exact .mk (st.ev e) hr1 q1 fun _ _ z => z.back e⟩
/-- a op b op' c -/
def dChain (r r' : D → D → Sto → KD → Prop) (ta tb tc : DTE) : DTE := fun τ S Q => ta τ S fun x S1 => tb τ S1 fun y S2 => r x y S2 (isB fun k S3 => if k = true then tc τ S3 fun z S4 => r' y z S4 Q else Q (.bl false) S3)
theorem de_chain {op op' : CmpOp} {r' : D → D → Sto → KD → Prop} (ho : DOp X (compareOp op) r) (ho' : DOp X (compareOp op') r') (ha : DE X a ta) (hb : DE X b tb) (hc : DE X c tc)
    (hm : lastMarks [op, op'] [b, c] = false) : DE X (.Compare a [op, op'] [b, c] pos) (dChain r r' ta tb tc) := by
  obtain ⟨rh, h1, h2⟩ := ho
  obtain ⟨rh', h1', h2'⟩ := ho'
  refine .up (pe_chain h1 h1' ha.lo hb.lo hc.lo hm) fun σ H τ S Q st hr q => bin_lo st hr q fun x y dx dy H2 S2 e hr2 r1 r2 q2 => h2 x y dx dy H2 S2 _ _ hr2 r1 r2 q2 fun v H' z => ?_
  obtain ⟨k, e1, e3, S3, hr3, q3⟩ := isB.of z
  refine ⟨k, e1, ?_⟩
  cases k with
  | false => exact .of (e.trans e3) hr3 (.bl false) q3
  | true => exact .mk (st.ev (e.trans e3)) hr3 q3 fun w H4 ⟨e4, dw, S4, hr4, r4, q4⟩ => h2' y w dy dw H4 S4 _ _ hr4 (r2.ev (e3.trans e4)) r4 q4 fun _ _ z => z.back ((e.trans e3).trans e4)

/-! ### one-place operations, calls of built-ins -/
def DUn (X : Cx) (f : Value → Sem Value) (r : D → Sto → KD → Prop) : Prop :=
  ∃ rh, UnR X f rh ∧ ∀ (x : V) (dx : D) (H : Hp) (S : Sto) (Q : KD) (R : VK), HR X.KW H S → RelD X.KW H x dx → r dx S Q → (∀ v H', Up X.KW H Q v H' → R v H') → rh x H R
def dUn (r : D → Sto → KD → Prop) (ta : DTE) : DTE := fun τ S Q => ta τ S fun x S1 => r x S1 Q
theorem de_un {op : UnaryOp} {r : D → Sto → KD → Prop} (ho : DUn X (unaryOp op) r) (ha : DE X a ta) : DE X (.UnaryOp op a pos) (dUn r ta) := by
  obtain ⟨rh, h1, h2⟩ := ho
  exact .up (pe_un h1 ha.lo) fun σ H τ S Q st hr q => .mk st hr q fun v H1 ⟨e, d, S1, hr1, r1, q1⟩ => h2 v d H1 S1 Q _ hr1 r1 q1 fun _ _ z => z.back e

def dNil : DTA := fun _ S Q => Q [] S
def dCons (ta : DTE) (t : DTA) : DTA := fun τ S Q => ta τ S fun x S1 => t τ S1 fun xs S2 => Q (x :: xs) S2
variable {es : List Expr} {tr : DTA}
theorem da_nil : DAr X [] dNil := .up pa_nil fun _ H _ S _ _ hr q => ⟨.refl _, [], S, hr, .nil, q⟩
theorem da_cons (ha : DE X a ta) (hb : DAr X es tr) (hs : starEach (a :: es) X.env = (false, eval a X.env) :: starEach es X.env := by rfl) : DAr X (a :: es) (dCons ta tr) :=
  .up (pa_cons ha.lo hb.lo hs) fun σ H τ S Q st hr q => .mk st hr q fun v H1 ⟨e, d, S1, hr1, r1, q1⟩ => ⟨τ, S1, _, st.ev e, hr1, q1, fun vs H2 ⟨e2, ds, S2, hr2, r2, q2⟩ => ⟨e.trans e2, d :: ds, S2, hr2, .cons (r1.ev e2) r2, q2⟩⟩
/-- a call of a known built-in -/
def DCall (X : Cx) (f : Value) (r : List D → Sto → KD → Prop) : Prop :=
  ∀ (pins : List (Addr × Obj)) (s : Shared) (σ : L2.St) (H : Hp) (xs : List V) (us : List Value) (ds : List D) (S : Sto) (Q : KD), Inv X pins σ H s → Vals xs us → HR X.KW H S → RelDs X.KW H xs ds → r ds S Q →
    wpAny (model X.prog X.w) X.A (call f us) (EP X pins σ (Up X.KW H Q)) X.xe s
/-- what it asks of values below -/
def loC (K : KW) (r : List D → Sto → KD → Prop) : List V → Hp → VK → Prop := fun xs H R => ∃ ds S Q, HR K H S ∧ RelDs K H xs ds ∧ r ds S Q ∧ ∀ v H', Up K H Q v H' → R v H'
theorem DCall.lo {f : Value} {r : List D → Sto → KD → Prop} (h : DCall X f r) : CallR X f (loC X.KW r) := fun pins s σ H xs us R I v ⟨ds, S, Q, hr, rd, q, k⟩ => thn (h pins s σ H xs us ds S Q I v hr rd q) fun u s' ⟨z, H', I', r', q'⟩ => ⟨z, H', I', r', k _ _ q'⟩
def dCB (r : List D → Sto → KD → Prop) (t : DTA) : DTE := fun τ S Q => t τ S fun ds S1 => r ds S1 Q
theorem cb_lo {K : KW} {r : List D → Sto → KD → Prop} {σ : L2.St} {H : Hp} {τ : DSt} {S : Sto} {Q : KD} {t : DTA} (st : StR K H σ τ) (hr : HR K H S) (q : dCB r t τ S Q) : tCB (loC K r) (loA K t) σ H (Up K H Q) :=
  ⟨τ, S, _, st, hr, q, fun vs H1 ⟨e, ds, S1, hr1, r1, q1⟩ => ⟨ds, S1, Q, hr1, r1, q1, fun _ _ z => z.back e⟩⟩
theorem de_callB {x : Str} {p : Pos} {id : String} {r : List D → Sto → KD → Prop} (hc : DCall X (.builtin id) r) (hg : Gl X x) (hm : X.mg x = none) (hv : bootBuiltins x = some (.builtin id)) (ha : DAr X (a :: es) tr) (hn : x ≠ "__name__" := by decide) (hdb : (x == ("__debug__" : Str)) = false := by decide)
    (he : starEach (a :: es) X.env = (false, eval a X.env) :: starEach es X.env := by rfl) (hpl : (backTo pos (starEach es X.env)).any (·.1) = false := by rfl) : DE X (.Call (.Name x p) (a :: es) [] pos) (dCB r tr) :=
  .up (pe_callB hc.lo hg hm hv ha.lo hn hdb he hpl) fun _ _ _ _ _ st hr q => cb_lo st hr q
theorem de_callT {x : Str} {p : Pos} {T : String} {r : List D → Sto → KD → Prop} (hc : DCall X (.type T) r) (hg : Gl X x) (hm : X.mg x = none) (hv : bootBuiltins x = some (.type T)) (ha : DAr X (a :: es) tr) (hn : x ≠ "__name__" := by decide) (hdb : (x == ("__debug__" : Str)) = false := by decide)
    (he : starEach (a :: es) X.env = (false, eval a X.env) :: starEach es X.env := by rfl) (hpl : (backTo pos (starEach es X.env)).any (·.1) = false := by rfl) : DE X (.Call (.Name x p) (a :: es) [] pos) (dCB r tr) :=
  .up (pe_callTy hc.lo hg hm hv ha.lo hn hdb he hpl) fun _ _ _ _ _ st hr q => cb_lo st hr q
theorem de_callT0 {x : Str} {p : Pos} {T : String} {r : List D → Sto → KD → Prop} (hc : DCall X (.type T) r) (hg : Gl X x) (hm : X.mg x = none) (hv : bootBuiltins x = some (.type T)) (hn : x ≠ "__name__" := by decide) (hdb : (x == ("__debug__" : Str)) = false := by decide) :
    DE X (.Call (.Name x p) [] [] pos) (dCB r dNil) :=
  .up (pe_callTy0 hc.lo hg hm hv hn hdb) fun σ H τ S Q st hr q => ⟨[], S, Q, hr, .nil, q, fun _ _ z => z⟩

/-! ### displays -/
def dTup (t : DTA) : DTE := fun τ S Q => t τ S fun ds S1 => ds.length ≤ sizeLine ∧ Q (.tup ds) S1
def dLst (t : DTA) : DTE := fun τ S Q => t τ S fun ds S1 => ds.length ≤ sizeLine ∧ ∀ p, S1 p = none → Q (.ref p) (put S1 p (.lst ds))
theorem HR.free {K : KW} {H : Hp} {S : Sto} {p : Addr} (h : HR K H S) (n : H p = none) : S p = none := by
  cases e : S p with
  | none => rfl
  | some o =>
    have := h p o e
    cases o with
    | lst ds => obtain ⟨_, z, _⟩ := this; rw [n] at z; cases z
    | dct kvs => rcases this with ⟨_, z, _⟩ | ⟨_, z, _⟩ <;> (rw [n] at z; cases z)
    | fdc o kvs => rcases this with ⟨_, z, _⟩ | ⟨_, z, _⟩ <;> (rw [n] at z; cases z)
    | set ds => exact this.elim
    | ins C fs => exact this.elim
/-- a new list -/
theorem HR.lst {K : KW} {H : Hp} {S : Sto} {p : Addr} {vs : List V} {ds : List D} (h : HR K H S) (n : H p = none) (r : RelDs K H vs ds) : HR K (upd H p (.lst vs)) (put S p (.lst ds)) := fun a o e => by
  by_cases z : a = p
  · subst z; rw [put_same] at e; cases e; exact ⟨vs, upd_same, r.ev (.new n)⟩
  · rw [put_ne z] at e; exact h.new n a o e
/-- an object changed -/
theorem HR.chg {K : KW} {H : Hp} {S : Sto} {p : Addr} {u o : HO} {b : AO} (h : HR K H S) (e : H p = some u) (hu : stays u = false) (k : OkO K (upd H p o) p b) : HR K (upd H p o) (put S p b) := fun a x q => by
  by_cases z : a = p
  · subst z; rw [put_same] at q; cases q; exact k
  · rw [put_ne z] at q; exact (h a x q).ev (.upd e hu) fun y w => by rw [upd_ne z]; exact w
/-- the object of a tuple just laid -/
def tupO (us : List Value) : Obj := { cls := .type "tuple", data := .seq us.toArray }
theorem Inv.laidT {X : Cx} {pins : List (Addr × Obj)} {s : Shared} {σ : L2.St} {H : Hp} {vs : List V} {us : List Value} (I : Inv X pins σ H s) (r : Vals vs us) (z : vs.length ≤ sizeLine) :
    Inv X pins σ (upd H s.heap.objs.size (.frz (tupO us) (.tup vs))) { s with heap := s.heap.push (tupO us) } :=
  I.laid (t' := s.toks) (fun b u e => Heap.get?_push_of_some _ e) (Nat.le_refl _) ⟨Heap.get?_push_size _ rfl, z, us, r, ⟨_, Heap.get?_push_size _ rfl, rfl, _, rfl⟩⟩
theorem relD_new {K : KW} {H : Hp} {p : Addr} {vs : List V} {ds : List D} {us : List Value} (n : H p = none) (r : RelDs K H vs ds) : RelD K (upd H p (.frz (tupO us) (.tup vs))) (.ref p) (.tup ds) :=
  .tup (.inl ⟨_, rfl, upd_same⟩) (r.ev (.new n))
theorem de_tup {k} (h : DAr X es tr) : DE X (.Tuple es k pos) (dTup tr) := ⟨fun pins s σ H τ S Q I st hr hq => by
  refine wpAny_Tuple_spliced (thn (h.run pos pins s σ H τ S _ I st hr hq) fun us s1 ⟨xs, H1, I1, r, e, ds, S1, hr1, rd, z, q⟩ => ⟨by rw [← r.length, rd.length]; exact z, ?_⟩)
  have hf : H1 s1.heap.objs.size = none := I1.hok.fresh (Nat.le_refl _)
  exact ⟨.ref s1.heap.objs.size, _, Inv.laidT I1 r (by rw [rd.length]; exact z), rfl, .of (e.trans (.new hf)) (hr1.new hf) (relD_new hf rd) q⟩⟩
theorem de_lst (h : DAr X es tr) : DE X (.List es pos) (dLst tr) := .up (pe_lst h.lo) fun σ H τ S Q st hr q => ⟨τ, S, _, st, hr, q, fun vs H1 ⟨e, ds, S1, hr1, r1, z, q1⟩ =>
  ⟨by rw [r1.length]; exact z, fun p n => .of (e.trans (.new n)) (hr1.lst n r1) (.ref p) (q1 p (hr1.free n))⟩⟩
end
end DL

namespace DL
open PySem PySem.Spec PyProof.Rows L2
section
variable {X : Cx} {pos : Pos}

theorem loS.e {K : KW} {t : DTS} {σ : L2.St} {H H0 : Hp} {τ : DSt} {S : Sto} {Dn : DEnds} (e : Ev H0 H) (st : StR K H σ τ) (hr : HR K H S) (q : t Dn τ S) : loS K t (UpE K H0 Dn) σ H :=
  ⟨τ, S, Dn, st, hr, q, fun _ _ z => z.back e, fun _ _ z => z.back e, fun _ _ z => z.back e, fun _ _ z => z.back e⟩

/-! ### statements -/
def dNext : DTS := fun Dn τ S => Dn.nx τ S
def dSeq (t u : DTS) : DTS := fun Dn τ S => t { Dn with nx := u Dn } τ S
variable {st : Stmt} {rest : List Stmt} {t u : DTS} {e : Expr} {te : DTE}
theorem dss_nil : DSs X [] dNext := .up pss_nil fun σ H τ S Dn st hr q => .same st hr q
theorem dss_cons (h1 : DSm X st t) (h2 : DSs X rest u) : DSs X (st :: rest) (dSeq t u) := .up (pss_cons h1.lo h2.lo) fun σ H τ S Dn sr hr q =>
  ⟨τ, S, { Dn with nx := u Dn }, sr, hr, q, fun σ' H' ⟨e, τ', S', hr', sr', q'⟩ => loS.e e sr' hr' q', fun _ _ z => z, fun _ _ z => z, fun _ _ z => z⟩
theorem dss_one (h1 : DSm X st t) : DSs X [st] t := .up (pss_one h1.lo) fun σ H τ S Dn sr hr q => loS.e (.refl _) sr hr q
def dBreak : DTS := fun Dn τ S => Dn.bk τ S
def dCont : DTS := fun Dn τ S => Dn.ct τ S
theorem ds_pass : DSm X (.Pass pos) dNext := .up ps_pass fun σ H τ S Dn st hr q => .same st hr q
theorem ds_break : DSm X (.Break pos) dBreak := .up ps_break fun σ H τ S Dn st hr q => .same st hr q
theorem ds_continue : DSm X (.Continue pos) dCont := .up ps_continue fun σ H τ S Dn st hr q => .same st hr q
theorem ds_doc {x j p} : DSm X (.Expr (.Constant (.str x) j p) pos) dNext := .up ps_doc fun σ H τ S Dn st hr q => .same st hr q
def dDrop (te : DTE) : DTS := fun Dn τ S => te τ S fun _ S1 => Dn.nx τ S1
theorem ds_expr (he : DE X e te) (hs : swapsWith e none pos.line X.env = pure false := by rfl) : DSm X (.Expr e pos) (dDrop te) := .up (ps_expr he.lo hs) fun σ H τ S Dn st hr q =>
  .mk st hr q fun v H1 ⟨e, d, S1, hr1, r1, q1⟩ => ⟨e, τ, S1, hr1, st.ev e, q1⟩
def dRet (te : DTE) : DTS := fun Dn τ S => te τ S Dn.rt
theorem ds_ret (he : DE X e te) : DSm X (.Return (some e) pos) (dRet te) := .up (ps_ret he.lo) fun σ H τ S Dn st hr q => .mk st hr q fun v H1 z => z
def dRetN : DTS := fun Dn _ S => Dn.rt .non S
theorem ds_retN : DSm X (.Return none pos) dRetN := .up ps_retN fun σ H τ S Dn st hr q => .of (.refl _) hr .non q
def dIfS (c : DTT) (t u : DTS) : DTS := fun Dn τ S => c τ S fun b S1 => if b = true then t Dn τ S1 else u Dn τ S1
theorem ds_if {c : Expr} {a b : List Stmt} {tc : DTT} (hc : DT X c tc) (ha : DSs X a t) (hb : DSs X b u) : DSm X (.If c a b pos) (dIfS tc t u) := .up (ps_if hc.lo ha.lo hb.lo) fun σ H τ S Dn st hr q =>
  ⟨τ, S, _, st, hr, q, fun c H1 ⟨e, S1, hr1, q1⟩ => by
    cases c with
    | true => exact loS.e e (st.ev e) hr1 q1
    | false => exact loS.e e (st.ev e) hr1 q1⟩
def dNever : DTS := fun _ _ _ => False
theorem ds_never : DSm X st dNever := .up ps_never fun _ _ _ _ _ _ _ q => q
theorem dss_never {sts : List Stmt} : DSs X sts dNever := .up pss_never fun _ _ _ _ _ _ _ q => q

/-! ### targets -/
abbrev DTG := D → DSt → Sto → (DSt → Sto → Prop) → Prop
abbrev DTGs := List D → DSt → Sto → (DSt → Sto → Prop) → Prop
def loG (K : KW) (g : DTG) : TG := fun v σ H R => ∃ d τ S Q, RelD K H v d ∧ StR K H σ τ ∧ HR K H S ∧ g d τ S Q ∧ ∀ σ' H', UpS K H Q σ' H' → R σ' H'
def loGs (K : KW) (g : DTGs) : TGs := fun vs σ H R => ∃ ds τ S Q, RelDs K H vs ds ∧ StR K H σ τ ∧ HR K H S ∧ g ds τ S Q ∧ ∀ σ' H', UpS K H Q σ' H' → R σ' H'
structure DG (X : Cx) (target : Expr) (g : DTG) : Prop where
  pg : PG X target (loG X.KW g)
structure DGs (X : Cx) (ts : List Expr) (g : DTGs) : Prop where
  pg : PGs X ts (loGs X.KW g)
theorem DG.up {tg : Expr} {g : DTG} {h : TG} (p : PG X tg h) (c : ∀ v σ H d τ S Q, RelD X.KW H v d → StR X.KW H σ τ → HR X.KW H S → g d τ S Q → h v σ H (UpS X.KW H Q)) : DG X tg g :=
  ⟨⟨fun pins s σ H v u R I r ⟨d, τ, S, Q, rd, st, hr, q, k⟩ => thn (p.run pins s σ H v u _ I r (c v σ H d τ S Q rd st hr q)) fun _ s' ⟨σ', H', I', z⟩ => ⟨σ', H', I', k _ _ z⟩⟩⟩
theorem DGs.up {tg : List Expr} {g : DTGs} {h : TGs} (p : PGs X tg h) (c : ∀ v σ H d τ S Q, RelDs X.KW H v d → StR X.KW H σ τ → HR X.KW H S → g d τ S Q → h v σ H (UpS X.KW H Q)) : DGs X tg g :=
  ⟨⟨fun pins s σ H v u R I r ⟨d, τ, S, Q, rd, st, hr, q, k⟩ => thn (p.run pins s σ H v u _ I r (c v σ H d τ S Q rd st hr q)) fun _ s' ⟨σ', H', I', z⟩ => ⟨σ', H', I', k _ _ z⟩⟩⟩
def gdName (i : Nat) : DTG := fun d τ S Q => Q (τ.set i (some d)) S
theorem dg_name {i : Nat} {x : Str} (hN : X.N.Nodup) (hi : X.N[i]? = some x) (hx : Loc X.env.scope x) (hf : X.fn x = true ∨ X.env.scope.names.lookup x = some .local := by first | exact .inl rfl | exact .inr rfl | assumption) : DG X (.Name x pos) (gdName i) :=
  .up (pg_name hN hi hx hf) fun v σ H d τ S Q rd st hr q => ⟨.refl _, _, S, hr, st.set rd i, q⟩
def gdNil : DTGs := fun ds τ S Q => ds = [] ∧ Q τ S
def gdCons (g : DTG) (h : DTGs) : DTGs := fun ds τ S Q => match ds with | d :: r => g d τ S fun τ' S' => h r τ' S' Q | [] => False
theorem dgs_nil : DGs X [] gdNil := .up pgs_nil fun v σ H d τ S Q rd st hr ⟨e, q⟩ => by
  subst e; cases rd; exact ⟨rfl, .same st hr q⟩
theorem dgs_cons {e : Expr} {es : List Expr} {g : DTG} {h : DTGs} (h1 : DG X e g) (h2 : DGs X es h) (hs : (assignEach (e :: es) X.env).map (·.2) = assign e X.env :: (assignEach es X.env).map (·.2) := by rfl) : DGs X (e :: es) (gdCons g h) :=
  .up (pgs_cons h1.pg h2.pg hs) fun v σ H ds τ S Q rd st hr q => by
    cases rd with
    | nil => exact q.elim
    | cons r t => exact ⟨_, _, rfl, _, τ, S, _, r, st, hr, q, fun σ' H' ⟨e, τ', S', hr', st', q'⟩ => ⟨_, τ', S', Q, t.ev e, st', hr', q', fun _ _ z => z.back e⟩⟩
/-- (a, b, ..) = a tuple or a list of that length -/
def gdTup (n : Nat) (g : DTGs) : DTG := fun d τ S Q => match d with | .tup ds => ds.length = n ∧ g ds τ S Q | .wt ds => ds.length = n ∧ g ds τ S Q | _ => False
theorem dg_tup {es : List Expr} {k : Nat} {g : DTGs} {n : Nat} (hc : X.calm = true) (h : DGs X es g) (hn : (assignEach es X.env).length = n := by rfl) (hst : (assignEach es X.env).findIdx? (·.1) = none := by rfl) : DG X (.Tuple es k pos) (gdTup n g) :=
  .up (pg_tup hc h.pg hn hst) fun v σ H d τ S Q rd st hr q => by
    cases d with
    | tup ds =>
      cases rd with
      | tup t r => exact ⟨_, _, rfl, t.sq, by rw [r.length]; exact q.1, _, τ, S, Q, r, st, hr, q.2, fun _ _ z => z⟩
    | wt ds =>
      cases rd with
      | wt t r => exact ⟨_, _, rfl, .inl (.inl t), by rw [r.length]; exact q.1, _, τ, S, Q, r, st, hr, q.2, fun _ _ z => z⟩
    | _ => exact q.elim
/-- o[i] = v by values -/
def DSet (X : Cx) (t : D → D → D → Sto → (Sto → Prop) → Prop) : Prop :=
  ∀ (pins : List (Addr × Obj)) (s : Shared) (σ : L2.St) (H : Hp) (o i v : V) (od id vd : D) (ov iv u : Value) (S : Sto) (Q : Sto → Prop), Inv X pins σ H s → HR X.KW H S → RelV o ov → RelV i iv → RelV v u → RelD X.KW H o od → RelD X.KW H i id → RelD X.KW H v vd → t od id vd S Q →
    wpAny (model X.prog X.w) X.A (setItem ov iv u) (fun _ s' => ∃ H', Inv X pins σ H' s' ∧ Ev H H' ∧ ∃ S', HR X.KW H' S' ∧ Q S') X.xe s
def gdSub (to ti : DTE) (t : D → D → D → Sto → (Sto → Prop) → Prop) : DTG := fun v τ S Q => to τ S fun o S1 => ti τ S1 fun i S2 => t o i v S2 fun S3 => Q τ S3
theorem dg_sub {o i : Expr} {to ti : DTE} {t : D → D → D → Sto → (Sto → Prop) → Prop} (ho : DE X o to) (hi : DE X i ti) (hs : DSet X t)
    (ha : ∀ v, assign (.Subscript o i pos) X.env v = (do
      let ov ← holding [v] (eval o X.env)
      let iv ← holding [v, ov] (eval i X.env)
      standAt pos
      holding [v, ov, iv] (setItem ov iv v)
      release [v, ov, iv] []) := by intro _; rfl) : DG X (.Subscript o i pos) (gdSub to ti t) := by
  refine .up (pg_sub (t := fun o i v H R => ∃ od id vd S Q, HR X.KW H S ∧ RelD X.KW H o od ∧ RelD X.KW H i id ∧ RelD X.KW H v vd ∧ t od id vd S Q ∧ ∀ H' S', Ev H H' → HR X.KW H' S' → Q S' → R H') ho.lo hi.lo ?_ ha) fun v σ H d τ S Q rd st hr q =>
    .mk st hr q fun o1 H1 ⟨e1, od, S1, hr1, r1, q1⟩ => .mk (st.ev e1) hr1 q1 fun i1 H2 ⟨e2, id, S2, hr2, r2, q2⟩ =>
      ⟨od, id, d, S2, _, hr2, r1.ev e2, r2, rd.ev (e1.trans e2), q2, fun H' S' e3 hr' q3 => ⟨(e1.trans e2).trans e3, τ, S', hr', st.ev ((e1.trans e2).trans e3), q3⟩⟩
  intro pins s σ H o i v ov iv u R I r1 r2 r3 ⟨od, id, vd, S, Q, hr, d1, d2, d3, q, k⟩
  exact thn (hs pins s σ H o i v od id vd ov iv u S Q I hr r1 r2 r3 d1 d2 d3 q) fun _ s' ⟨H', I', e, S', hr', q'⟩ => ⟨H', I', k H' S' e hr' q'⟩
def dAsg (te : DTE) (g : DTG) : DTS := fun Dn τ S => te τ S fun x S1 => g x τ S1 Dn.nx
theorem ds_asg {tg : Expr} {g : DTG} (he : DE X e te) (hg : DG X tg g) (hs : swapsWithSole [tg] e pos.line X.env = pure false := by rfl) (hw : swappedStores [tg] e X.env = pure none := by rfl)
    (h1 : (assignEach [tg] X.env).map (·.2) = [assign tg X.env] := by rfl) : DSm X (.Assign [tg] e pos) (dAsg te g) := .up (ps_asg he.lo hg.pg hs hw h1) fun σ H τ S Dn st hr q =>
  .mk st hr q fun v H1 ⟨e, d, S1, hr1, r1, q1⟩ => ⟨d, τ, S1, _, r1, st.ev e, hr1, q1, fun _ _ z => z.back e⟩
theorem ds_set {i : Nat} {x : Str} {p' : Pos} (hN : X.N.Nodup) (hi : X.N[i]? = some x) (hx : Loc X.env.scope x) (he : DE X e te) (hs : swapsWith e (some (.Name x p')) pos.line X.env = pure false := by rfl) (hf : X.fn x = true ∨ X.env.scope.names.lookup x = some .local := by first | exact .inl rfl | exact .inr rfl | assumption) :
    DSm X (.Assign [.Name x p'] e pos) (dAsg te (gdName i)) := .up (ps_set hN hi hx he.lo hs hf) fun σ H τ S Dn st hr q =>
  .mk st hr q fun v H1 ⟨e, d, S1, hr1, r1, q1⟩ => ⟨e, _, S1, hr1, (st.ev e).set r1 i, q1⟩
/-- a, b = x, y with plain local names -/
def dPar (i j : Nat) (ta : DTA) : DTS := fun Dn τ S => ta τ S fun ds S1 => match ds with | [x, y] => Dn.nx ((τ.set i (some x)).set j (some y)) S1 | _ => False
theorem ds_par {i j : Nat} {x y : Str} {a b : Expr} {ta : DTA} {px py pt : Pos} {kt k2 pt2} (hc : X.calm = true) (hN : X.N.Nodup) (hi : X.N[i]? = some x) (hj : X.N[j]? = some y) (hij : i ≠ j)
    (hx : X.env.scope.names.lookup x = some .local) (hy : X.env.scope.names.lookup y = some .local) (ha : DAr X [a, b] ta)
    (hw : swappedStores [.Tuple [.Name x px, .Name y py] kt pt] (.Tuple [a, b] k2 pt2) X.env = pure (some [x, y]))
    (hs : swapsWithSole [.Tuple [.Name x px, .Name y py] kt pt] (.Tuple [a, b] k2 pt2) pos.line X.env = pure false := by rfl) :
    DSm X (.Assign [.Tuple [.Name x px, .Name y py] kt pt] (.Tuple [a, b] k2 pt2) pos) (dPar i j ta) := .up (ps_par hc hN hi hj hij hx hy ha.lo hw hs) fun σ H τ S Dn st hr q =>
  ⟨τ, S, _, st, hr, q, fun vs H1 ⟨e, ds, S1, hr1, r1, q1⟩ => by
    cases r1 with
    | nil => exact q1.elim
    | cons r t =>
      cases t with
      | nil => exact q1.elim
      | cons r' t' =>
        cases t' with
        | nil => exact ⟨_, _, rfl, e, _, S1, hr1, (((st.ev e).set r i).set r' j), q1⟩
        | cons _ _ => exact q1.elim⟩

/-! ### while -/
def whF (c : DTT) (tb : DTS) (Dn : DEnds) : Nat → DSt → Sto → Prop
  | 0, _, _ => False
  | n + 1, τ, S => c τ S fun b S1 => if b = true then tb { Dn with nx := whF c tb Dn n, ct := whF c tb Dn n, bk := Dn.nx } τ S1 else Dn.nx τ S1
def dWhile (c : DTT) (tb : DTS) : DTS := fun Dn τ S => ∃ n, whF c tb Dn n τ S
theorem ds_while {c : Expr} {body : List Stmt} {tc : DTT} {tb : DTS} (hp : PassesOwn (model X.prog X.w) X.A X.env X.xe) (hc : DT X c tc) (hb : DSs X body tb) : DSm X (.While c body [] pos) (dWhile tc tb) :=
  .up (ps_while hp hc.lo hb.lo) fun σ H τ S Dn st hr ⟨n, q⟩ => by
    refine ⟨fun n σ' H' => UpS X.KW H (whF tc tb Dn n) σ' H', ⟨n, .same st hr q⟩, ?_⟩
    rintro m σ1 H1 ⟨e1, τ1, S1, hr1, st1, q1⟩
    cases m with
    | zero => exact q1.elim
    | succ m =>
      refine ⟨τ1, S1, _, st1, hr1, q1, fun b H2 ⟨e2, S2, hr2, q2⟩ => ?_⟩
      cases b with
      | false => exact ⟨e1.trans e2, τ1, S2, hr2, st1.ev e2, q2⟩
      | true => exact ⟨UpS X.KW H (whF tc tb Dn m), fun σ' H' z => ⟨m, Nat.lt_succ_self m, z⟩, loS.e (e1.trans e2) (st1.ev e2) hr2 q2⟩

/-! ### what a loop walks -/
abbrev DTI := DSt → Sto → (List D → (Sto → Prop) → Sto → Prop) → Prop
/-- the items ds, as long as the store is stable -/
def ItD (K : KW) (H0 : Hp) (ds : List D) (stab : Sto → Prop) : It :=
  ⟨fun i H => Ev H0 H ∧ (∃ S, HR K H S ∧ stab S) ∧ i < ds.length, fun i H x H' => Ev H H' ∧ (∀ S, HR K H S → HR K H' S) ∧ ∃ d, ds[i]? = some d ∧ RelD K H' x d, fun i H => Ev H0 H ∧ (∃ S, HR K H S ∧ stab S) ∧ i = ds.length⟩
def loI (K : KW) (wi : DTI) : TI := fun σ H R => ∃ τ S Rd, StR K H σ τ ∧ HR K H S ∧ wi τ S Rd ∧ ∀ ds stab S1 H1, Ev H H1 → HR K H1 S1 → Rd ds stab S1 → R (ItD K H1 ds stab) H1
structure DI (X : Cx) (tg iter : Expr) (wi : DTI) : Prop where
  pi : PI X tg iter (loI X.KW wi)
theorem Turn.imp {P : Program} {w : World} {K : PySem.W.Frag} {tg : Expr} {J J' : It} {fp : List Addr} {it : Addr} {tn : Nat → Heap → Prop} (T : Turn P w K tg J fp it tn) (h1 : ∀ i H, J'.go i H → J.go i H) (h2 : ∀ i H x H', J'.go i H → J.yld i H x H' → J'.yld i H x H')
    (h3 : ∀ i H, J'.stop i H → J.stop i H) : Turn P w K tg J' fp it tn where
  mem := T.mem
  obj := T.obj
  keep := T.keep
  item := fun X a b c d i pins s σ H E I f st g => thn (T.item X a b c d i pins s σ H E I f st (h1 _ _ g)) fun r s1 ⟨u, hu, z⟩ => ⟨u, hu, thn z fun _ s2 ⟨x, H', I', r', y, q⟩ => ⟨x, H', I', r', h2 _ _ _ _ g y, q⟩⟩
  done := fun X a b c d i pins s σ H E I f st g => T.done X a b c d i pins s σ H E I f st (h3 _ _ g)
  self := T.self
/-- by a rule below: its iterator is the items' -/
theorem DI.up {tg iter : Expr} {wi : DTI} {w : TI} (p : PI X tg iter w)
    (c : ∀ σ H τ S Rd, StR X.KW H σ τ → HR X.KW H S → wi τ S Rd → w σ H fun J H1 => ∃ ds stab S1, Ev H H1 ∧ HR X.KW H1 S1 ∧ Rd ds stab S1 ∧ (∀ i H, (ItD X.KW H1 ds stab).go i H → J.go i H) ∧ (∀ i H x H', (ItD X.KW H1 ds stab).go i H → J.yld i H x H' → (ItD X.KW H1 ds stab).yld i H x H') ∧ ∀ i H, (ItD X.KW H1 ds stab).stop i H → J.stop i H) : DI X tg iter wi :=
  ⟨⟨fun pins s σ H R I ⟨τ, S, Rd, st, hr, q, k⟩ => thn (p.run pins s σ H _ I (c σ H τ S Rd st hr q)) fun v s1 h => thn h fun itv s2 ⟨it, fp, tn, J, H', e, I', T, t0, f, ds, stab, S1, ev, hr1, rd, h1, h2, h3⟩ =>
    ⟨it, fp, tn, ItD X.KW H' ds stab, H', e, I', Turn.imp T h1 h2 h3, t0, f, k ds stab S1 H' ev hr1 rd⟩⟩⟩

def loopF (g : DTG) (tb : DTS) (Dn : DEnds) (stab : Sto → Prop) : List D → DSt → Sto → Prop
  | [], τ, S => stab S ∧ Dn.nx τ S
  | d :: ds, τ, S => stab S ∧ g d τ S fun τ2 S2 => tb { Dn with nx := loopF g tb Dn stab ds, ct := loopF g tb Dn stab ds, bk := Dn.nx } τ2 S2
def dFor (wi : DTI) (g : DTG) (tb : DTS) : DTS := fun Dn τ S => wi τ S fun ds stab S1 => loopF g tb Dn stab ds τ S1
theorem ds_for {tg iter : Expr} {body : List Stmt} {wi : DTI} {g : DTG} {tb : DTS} (hp : PassesOwn (model X.prog X.w) X.A X.env X.xe) (hc : X.calm = true) (hi : DI X tg iter wi) (hg : DG X tg g) (hb : DSs X body tb)
    (hs : ∀ x, foldedSetIterable iter X.env x = pure x := by intro _; rfl) : DSm X (.For tg iter body [] pos) (dFor wi g tb) :=
  .up (ps_for hp hc hi.pi hg.pg hb.lo hs) fun σ H τ S Dn st hr q => by
    refine ⟨τ, S, _, st, hr, q, fun ds stab S1 H1 e1 hr1 q1 => ?_⟩
    refine ⟨fun i m σ' H' => m = ds.length - i ∧ i ≤ ds.length ∧ Ev H1 H' ∧ UpS X.KW H (loopF g tb Dn stab (ds.drop i)) σ' H', ⟨ds.length, by simp, Nat.zero_le _, .refl _, e1, τ, S1, hr1, st.ev e1, by simpa using q1⟩, ?_⟩
    rintro i m σ2 H2 ⟨em, hi, e12, e2, τ2, S2, hr2, st2, q2⟩
    by_cases hlt : i < ds.length
    · rw [List.drop_eq_getElem_cons hlt] at q2
      refine .inr ⟨⟨e12, ⟨S2, hr2, q2.1⟩, hlt⟩, fun σ' H' => Ev H1 H' ∧ UpS X.KW H (loopF g tb Dn stab (ds.drop (i + 1))) σ' H', fun σ' H' ⟨z1, z⟩ => ⟨m - 1, by omega, by omega, by omega, z1, z⟩, fun x H3 ⟨e3, k3, d, hd, r3⟩ => ?_⟩
      rw [List.getElem?_eq_getElem hlt] at hd
      cases hd
      refine ⟨_, τ2, S2, _, r3, st2.ev e3, k3 _ hr2, q2.2, fun σ4 H4 ⟨e4, τ4, S4, hr4, st4, q4⟩ => ?_⟩
      have e14 : Ev H1 H4 := (e12.trans e3).trans e4
      have e04 : Ev H H4 := (e2.trans e3).trans e4
      refine ⟨τ4, S4, _, st4, hr4, q4, fun _ _ z => ⟨e14.trans z.1, z.back e04⟩, fun _ _ z => z.back e04, fun _ _ z => z.back e04, fun _ _ z => ⟨e14.trans z.1, z.back e04⟩⟩
    · have ei : i = ds.length := by omega
      subst ei
      rw [List.drop_length] at q2
      exact .inl ⟨⟨e12, ⟨S2, hr2, q2.1⟩, rfl⟩, e2, τ2, S2, hr2, st2, q2.2⟩
end
end DL

namespace DL
open PySem PySem.Spec PyProof.Rows L2

/-- what is wanted of an exception: its class, its fields -/
abbrev KX := Value → List (Str × D) → Sto → Prop
inductive RelFs (K : KW) (H : Hp) : List (Str × V) → List (Str × D) → Prop
  | nil : RelFs K H [] []
  | cons {n v d r t} : RelD K H v d → RelFs K H r t → RelFs K H ((n, v) :: r) ((n, d) :: t)
theorem RelFs.ev {K : KW} {H H' : Hp} : ∀ {vs ds}, RelFs K H vs ds → Ev H H' → RelFs K H' vs ds
  | _, _, .nil, _ => .nil
  | _, _, .cons r t, e => .cons (r.ev e) (t.ev e)
def UpX (K : KW) (H : Hp) (E : KX) : XK := fun cls dx H' => Ev H H' ∧ ∃ fs S', HR K H' S' ∧ ((dx = none ∧ fs = []) ∨ ∃ d vs, dx = some d ∧ H' d = some (.xd vs) ∧ RelFs K H' vs fs) ∧ E cls fs S'
theorem UpX.back {K : KW} {H H1 H' : Hp} {E : KX} {c d} (e : Ev H H1) (u : UpX K H1 E c d H') : UpX K H E c d H' := ⟨e.trans u.1, u.2⟩
abbrev DSp := List D → Sto → KD → KX → Prop
abbrev noX : KX := fun _ _ _ => False

structure FnD (P : Program) (w : World) (K : PySem.W.Frag) (mg : Str → Option Value) (base : Heap) (k : Nat) (f : Addr) (fd : FuncData) (ps : List Str) (sp : DSp) : Prop where
  len : ∀ ds S Q E, sp ds S Q E → ds.length = ps.length
  run : ∀ (A : Around) (outer : List Env) (s : Shared) (H : Hp) (args : Args) (us : List Value) (vs : List V) (ds : List D) (S : Sto) (Q : KD) (E : KX), Room k A → A.guards = some [] →
    Env0 P w K mg base A outer s H → BindsTo s fd args (ps.zip us) → Vals vs us → RelDs ⟨K, P, w⟩ H vs ds → HR ⟨K, P, w⟩ H S → sp ds S Q E →
    codeAny (model P w) A (.call (.ref f) args) (CR (CX P w) outer P w H s (Up ⟨K, P, w⟩ H Q) (UpX ⟨K, P, w⟩ H E)) s
section
variable {P : Program} {w : World} {K : PySem.W.Frag} {mg : Str → Option Value} {base : Heap} {j k : Nat} {f : Addr} {fd : FuncData} {ps : List Str} {sp sp' : DSp}
theorem FnD.mono (F : FnD P w K mg base j f fd ps sp) (h : j ≤ k) : FnD P w K mg base k f fd ps sp := ⟨F.len, fun A outer s H args us vs ds S Q E hr => F.run A outer s H args us vs ds S Q E (hr.mono h)⟩
theorem FnD.imp (F : FnD P w K mg base k f fd ps sp) (h : ∀ ds S Q E, sp' ds S Q E → sp ds S Q E) : FnD P w K mg base k f fd ps sp' :=
  ⟨fun ds S Q E q => F.len ds S Q E (h _ _ _ _ q), fun A outer s H args us vs ds S Q E hr hg he hb hv hd hs q => F.run A outer s H args us vs ds S Q E hr hg he hb hv hd hs (h _ _ _ _ q)⟩

theorem RelDs.vlen {K : KW} {H : Hp} {vs : List V} {ds : List D} {us : List Value} (r : RelDs K H vs ds) (v : Vals vs us) : us.length = ds.length := by rw [← v.length, r.length]

/-- the names' values at the entry -/
def startD (N : List Str) (ds : List D) : DSt := ds.map some ++ List.replicate (N.length - ds.length) none
theorem startD.rel {K : KW} {H : Hp} {N : List Str} {vs : List V} {ds : List D} (r : RelDs K H vs ds) : StR K H (L2.start N vs) (startD N ds) := by
  unfold L2.start startD
  rw [r.length]
  exact StR.somes r (StR.nones _)
def bodyEnds (Q : KD) : DEnds := ⟨fun _ S => Q .non S, Q, fun _ _ => False, fun _ _ => False⟩

/-- a def by its body -/
theorem FnD.of {x qual : Str} {st : Stmt} {N : List Str} (F : Fun K x qual st f fd) (S : FnScope N ps (defScope st)) (len : ∀ ds S Q E, sp ds S Q E → ds.length = ps.length)
    (hbody : ∀ (cdv : Value) (A : Around) (outer : List Env) (s : Shared) (H : Hp) (ds : List D) (So : Sto) (Q : KD) (E : KX), Room k (A.deeper (envOfC qual (defScope st) s.heap.objs.size f cdv)) → (A.deeper (envOfC qual (defScope st) s.heap.objs.size f cdv)).guards = some [] → sp ds So Q E →
      ∃ t, DSs (cxOf (CX P w) P w K mg base N qual (defScope st) f cdv A outer s H (UpX ⟨K, P, w⟩ H E)) (defBody st) t ∧ t (bodyEnds Q) (startD N ds) So) : FnD P w K mg base (k + 1) f fd ps sp := by
  obtain ⟨oc, od, kV, doc, pm, an, cdv, ct, osl, rfl, lk, hcd⟩ := F.ex
  refine ⟨len, fun A outer s H args us vs ds So Q E hr hgd e0 hb rv rd hR hsp => ?_⟩
  have hl : vs.length = ps.length := by rw [rd.length]; exact len _ _ _ _ hsp
  have stays : ∀ b o, base.get? b = some o → s.heap.get? b = some o := fun b o e => (e0.bs b o e).1
  have inK : K.In s.heap := e0.mod.kin.keeps stays
  have lim : s.heap.NoLimit := e0.mod.nolimit.keeps stays
  have params : ∀ y ∈ ps.zip us, (defScope st).names.lookup y.1 = some .local ∨ ((defScope st).names.lookup y.1 = some .cell ∧ ((cellsFrom (s.heap.objs.size + 1) (defScope st).names []).lookup y.1).isSome = true) := by
    rintro ⟨n, v⟩ hy
    rcases S.par n (List.of_mem_zip hy).1 with q | q
    · exact .inl q
    · exact .inr ⟨q, PySem.W.cellsFrom_some _ _ _ (.inl q)⟩
  refine codeAny_call_function hr.depth (inK _ _ lk) rfl S.co S.gen rfl (PySem.W.codeRec_of inK hcd) (hb _ _ _ _ (wpAny_newFunctionEnv_cells S.kind params fun env he s1 entered => ?_))
  subst he
  refine ⟨lim.keeps entered.toInCall.keep, codeAny_func ?_⟩
  obtain ⟨t, ht, hq⟩ := hbody cdv A outer s H ds So Q E (hr.deeper _) (by
    first
      | exact hgd
      | simpa [Around.deeper, Code.guards, pushGuards, Code.isGuard] using hgd) hsp
  have I := inv_start (CX := CX P w) (N := N) (mg := mg) (E := UpX ⟨K, P, w⟩ H E) S hr.hd e0 hl rv entered
  refine wpAny_mono (ht.run [] s1 (L2.start N vs) H _ So _ I (startD.rel rd) hR hq) (fun fl s' z => ?_) fun _ _ z => z
  have fin : ∀ {σ' H' v u}, Inv (cxOf (CX P w) P w K mg base N qual (defScope st) f cdv A outer s H (UpX ⟨K, P, w⟩ H E)) [] σ' H' s' → RelV v u → Up ⟨K, P, w⟩ H Q v H' → CE outer P w H s (Up ⟨K, P, w⟩ H Q) u s' :=
    fun J r q => ⟨_, _, J.os, J.bare, J.base, J.hok, r, q⟩
  cases fl with
  | ret u => obtain ⟨v, σ', H', J, r, q⟩ := z; exact fin J r q
  | next => obtain ⟨σ', H', J, e, τ', S', hr', _, q⟩ := z; exact fin (v := .non) (u := .none) J rfl (.of e hr' .non q)
  | brk => obtain ⟨_, _, _, _, _, _, _, _, q⟩ := z; exact q.elim
  | cont => obtain ⟨_, _, _, _, _, _, _, _, q⟩ := z; exact q.elim
end

/-! ### calls -/
section
variable {X : Cx} {k : Nat} {f : Addr} {fd : FuncData} {ps : List Str} {sp : DSp} {x : Str} {p pos : Pos} {e : Expr} {es : List Expr} {tr : DTA}
theorem noPass {H : Hp} {E : Value → Shared → Prop} {s s' : Shared} {e : Value} {outer : List Env} (c : CX X.prog X.w outer H s (UpX X.KW H noX) e s') : E e s' := by
  obtain ⟨_, _, _, _, _, _, _, _, _, _, _, _, _, _, _, _, _, z⟩ := c
  exact z.elim
/-- defaults, as they stand for all heaps -/
structure Dfl (P : Program) (w : World) (K : PySem.W.Frag) (dds : List D) (dfl : List Value) : Prop where
  ex : ∃ dvs, Vals dvs dfl ∧ ∀ H, RelDs ⟨K, P, w⟩ H dvs dds
theorem Dfl.nil {P : Program} {w : World} {K : PySem.W.Frag} : Dfl P w K [] [] := ⟨[], .nil, fun _ => .nil⟩
theorem runD {dds : List D} {dfl : List Value} {pins : List (Addr × Obj)} {σ : L2.St} {H : Hp} {s : Shared} {S : Sto} {Q : KD} {E : KX} {us : List Value} {vs : List V} {ds : List D} (F : FnD X.prog X.w X.K X.mg X.base k f fd ps sp) (hr : Room k X.A) (hgd : X.A.guards = some [])
    (hb : Binds X.K fd ps dfl) (hd : Dfl X.prog X.w X.K dds dfl) (I : Inv X pins σ H s) (r : Vals vs us) (rd : RelDs X.KW H vs ds) (hR : HR X.KW H S) (h : sp (ds ++ dds) S Q E) (hx : ∀ e s', CX X.prog X.w X.stack H s (UpX X.KW H E) e s' → X.xe e s') :
    wpAny (model X.prog X.w) X.A (call (.ref f) us) (EP X pins σ (Up X.KW H Q)) X.xe s := by
  obtain ⟨dvs, d1, d2⟩ := hd.ex
  have hl : (us ++ dfl).length = ps.length := by
    rw [List.length_append, ← r.length, ← d1.length, rd.length, (d2 H).length, ← List.length_append]
    exact F.len _ _ _ _ h
  refine wpAny_call (codeAny_mono (F.run X.A X.stack s H ⟨us, []⟩ (us ++ dfl) (vs ++ dvs) (ds ++ dds) S Q E hr hgd I.env0 (hb s us I.kIn hl) (r.append d1) (rd.append (d2 H)) hR h) fun res s' z => ?_)
  cases res with
  | error e => exact hx e s' z
  | ok fl =>
    cases fl with
    | ret u => exact I.after z
    | next => exact z.elim
    | brk => exact z.elim
    | cont => exact z.elim
def dCall (sp : DSp) (dds : List D) (t : DTA) : DTE := fun τ S Q => t τ S fun ds S1 => sp (ds ++ dds) S1 Q noX
/-- f(e, ..), from which no exception comes -/
theorem de_call {dds : List D} {dfl : List Value} (F : FnD X.prog X.w X.K X.mg X.base k f fd ps sp) (hr : Room k X.A) (hgd : X.A.guards = some []) (hg : Gl X x) (hm : X.mg x = some (.ref f)) (hk : PySem.W.keepIn X.K (.ref f) = true) (hb : Binds X.K fd ps dfl) (hd : Dfl X.prog X.w X.K dds dfl)
    (ha : DAr X (e :: es) tr) (hdb : (x == ("__debug__" : Str)) = false := by decide) (he : starEach (e :: es) X.env = (false, eval e X.env) :: starEach es X.env := by rfl) (hpl : (backTo pos (starEach es X.env)).any (·.1) = false := by rfl) :
    DE X (.Call (.Name x p) (e :: es) [] pos) (dCall sp dds tr) := by
  refine ⟨fun pins s σ H τ S Q I st hR q => wpAny_Call_Name_kw (ld_glob I hg hm ?_ hdb)⟩
  refine PySem.W.callWith_K (h₀ := X.base) I.ok.mod.kin hk (thn (ha.run pos pins s σ H τ S _ I st hR q) fun us s1 ⟨vs, H1, I1, r, ev, ds, S1, hR1, rd, q1⟩ => ⟨I1.kIn, ?_⟩) he hpl
  exact thn (runD F hr hgd hb hd I1 r rd hR1 q1 fun e s' c => noPass c) fun u s' ⟨v, H', I', r', z⟩ => ⟨v, H', I', r', z.back ev⟩
theorem de_call0 {dds : List D} {dfl : List Value} (F : FnD X.prog X.w X.K X.mg X.base k f fd ps sp) (hr : Room k X.A) (hgd : X.A.guards = some []) (hg : Gl X x) (hm : X.mg x = some (.ref f)) (hk : PySem.W.keepIn X.K (.ref f) = true) (hb : Binds X.K fd ps dfl) (hd : Dfl X.prog X.w X.K dds dfl)
    (hdb : (x == ("__debug__" : Str)) = false := by decide) : DE X (.Call (.Name x p) [] [] pos) (dCall sp dds dNil) := by
  refine ⟨fun pins s σ H τ S Q I st hR q => wpAny_Call_Name_kw (ld_glob I hg hm ?_ hdb)⟩
  exact PySem.W.callWith_K0 I.kIn hk (runD (us := []) F hr hgd hb hd I .nil .nil hR q fun e s' c => noPass c)
/-- no exception leaves: the wish dropped -/
theorem DSs.nox {st : List Stmt} {t : DTS} (h : DSs X.nox st t) : DSs X st t := ⟨fun pins s σ H τ S Dn I sr hr q =>
  wpAny_mono (h.run pins s σ H τ S Dn (I.wish _) sr hr q) (fun _ _ z => SP.unwish z) fun _ _ z => z.elim⟩
end
end DL

namespace DL
open PySem PySem.Spec PyProof.Rows L2

/-! ### plain data -/
mutual
def D.py : D → PyData
  | .non => .none | .bl b => .bool b | .int i => .int i | .str x => .str x
  | .tup ds => .tuple (D.pys ds) | .wt _ => .none | .fz ds => .list (D.pys ds) | .ref _ => .none | .ty _ => .none
def D.pys : List D → List PyData
  | [] => []
  | d :: r => D.py d :: D.pys r
end
mutual
/-- plain, at most n deep -/
def D.ok : D → Nat → Bool
  | .non, _ => true | .bl _, _ => true | .int _, _ => true | .str _, _ => true
  | .tup ds, n + 1 => D.oks ds n | .fz ds, n + 1 => D.oks ds n
  | _, _ => false
def D.oks : List D → Nat → Bool
  | [], _ => true
  | d :: r, n => D.ok d n && D.oks r n
end
/-- lists read out of the store, n deep -/
def rd : Nat → Sto → D → D
  | 0, _, d => d
  | n + 1, S, .tup ds => .tup (ds.map (rd n S))
  | n + 1, S, .fz ds => .fz (ds.map (rd n S))
  | n + 1, S, .ref a => match S a with | some (.lst ds) => .fz (ds.map (rd n S)) | _ => .ref a
  | _ + 1, _, d => d
theorem pys_map : ∀ ds : List D, D.pys ds = ds.map D.py
  | [] => rfl
  | d :: r => by rw [D.pys, pys_map r]; rfl
theorem oks_all : ∀ (ds : List D) (n : Nat), D.oks ds n = ds.all fun d => D.ok d n
  | [], _ => rfl
  | d :: r, n => by rw [D.oks, oks_all r]; rfl
section
variable {K : KW} {H : Hp} {S : Sto}
mutual
theorem dp_of : ∀ {v : V} {d : D}, RelD K H v d → ∀ m, d.ok m = true → Dp K.fr H v d.py ∧ d.py.canLay0 = true ∧ d.py.depth ≤ m
  | _, _, .non, m, _ => ⟨by rw [D.py]; exact .non, by simp [D.py, PyData.canLay0], by simp [D.py, PyData.depth]⟩
  | _, _, .bl b, m, _ => ⟨by rw [D.py]; exact .bl b, by simp [D.py, PyData.canLay0], by simp [D.py, PyData.depth]⟩
  | _, _, .int b, m, _ => ⟨by rw [D.py]; exact .int b, by simp [D.py, PyData.canLay0], by simp [D.py, PyData.depth]⟩
  | _, _, .str b h, m, _ => ⟨by rw [D.py]; exact .str b, by simp [D.py, PyData.canLay0, h], by simp [D.py, PyData.depth]⟩
  | _, _, .ty _, _, h => by simp [D.ok] at h
  | _, _, .ref _, _, h => by simp [D.ok] at h
  | _, _, .wt _ _, _, h => by simp [D.ok] at h
  | _, _, .tup _ _, 0, h => by simp [D.ok] at h
  | _, _, .fz _ _, 0, h => by simp [D.ok] at h
  | _, .tup ds, .tup t r, m + 1, h => by
    obtain ⟨a, b, c⟩ := dps_of r m (by simpa [D.ok] using h)
    refine ⟨by rw [D.py]; exact .tup t.sq a, by rw [D.py, PyData.canLay0]; exact b, by rw [D.py, PyData.depth]; omega⟩
  | _, .fz ds, .fz t r, m + 1, h => by
    obtain ⟨a, b, c⟩ := dps_of r m (by simpa [D.ok] using h)
    refine ⟨by rw [D.py]; exact .lst t.sq a, by rw [D.py, PyData.canLay0]; exact b, by rw [D.py, PyData.depth]; omega⟩
theorem dps_of : ∀ {vs : List V} {ds : List D}, RelDs K H vs ds → ∀ m, D.oks ds m = true → DpAll K.fr H vs (D.pys ds) ∧ PyData.canLayAll0 (D.pys ds) = true ∧ PyData.depthAll (D.pys ds) ≤ m
  | _, _, .nil, m, _ => ⟨by rw [D.pys]; exact .nil, by simp [D.pys, PyData.canLayAll0], by simp [D.pys, PyData.depthAll]⟩
  | _, _, .cons r t, m, h => by
    rw [D.oks, Bool.and_eq_true] at h
    obtain ⟨a, b, c⟩ := dp_of r m h.1
    obtain ⟨a', b', c'⟩ := dps_of t m h.2
    refine ⟨by rw [D.pys]; exact .cons a a', by rw [D.pys, PyData.canLayAll0, b, b']; rfl, by rw [D.pys, PyData.depthAll]; omega⟩
end
theorem rd_dps {n : Nat} (ih : ∀ {v : V} {d : D}, RelD K H v d → ∀ m, (rd n S d).ok m = true → Dp K.fr H v (rd n S d).py ∧ (rd n S d).py.canLay0 = true ∧ (rd n S d).py.depth ≤ m) :
    ∀ {vs : List V} {ds : List D}, RelDs K H vs ds → ∀ m, D.oks (ds.map (rd n S)) m = true → DpAll K.fr H vs (D.pys (ds.map (rd n S))) ∧ PyData.canLayAll0 (D.pys (ds.map (rd n S))) = true ∧ PyData.depthAll (D.pys (ds.map (rd n S))) ≤ m
  | _, _, .nil, m, _ => ⟨by rw [List.map_nil, D.pys]; exact .nil, by simp [D.pys, PyData.canLayAll0], by simp [D.pys, PyData.depthAll]⟩
  | _, _, .cons r t, m, h => by
    rw [List.map_cons, D.oks, Bool.and_eq_true] at h
    obtain ⟨a, b, c⟩ := ih r m h.1
    obtain ⟨a', b', c'⟩ := rd_dps ih t m h.2
    refine ⟨by rw [List.map_cons, D.pys]; exact .cons a a', by rw [List.map_cons, D.pys, PyData.canLayAll0, b, b']; rfl, by rw [List.map_cons, D.pys, PyData.depthAll]; omega⟩
theorem rd_dp (hr : HR K H S) : ∀ (n : Nat) {v : V} {d : D}, RelD K H v d → ∀ m, (rd n S d).ok m = true → Dp K.fr H v (rd n S d).py ∧ (rd n S d).py.canLay0 = true ∧ (rd n S d).py.depth ≤ m
  | 0, _, _, r, m, h => dp_of r m h
  | n + 1, v, d, r, m, h => by
    cases r with
    | tup t r =>
      rw [rd] at h ⊢
      cases m with
      | zero => simp [D.ok] at h
      | succ m =>
        obtain ⟨a, b, c⟩ := rd_dps (rd_dp hr n) r m (by simpa [D.ok] using h)
        exact ⟨by rw [D.py]; exact .tup t.sq a, by rw [D.py, PyData.canLay0]; exact b, by rw [D.py, PyData.depth]; omega⟩
    | wt t r => rw [rd] at h <;> first | (simp [D.ok] at h; done) | (intro _; nofun) | nofun
    | fz t r =>
      rw [rd] at h ⊢
      cases m with
      | zero => simp [D.ok] at h
      | succ m =>
        obtain ⟨a, b, c⟩ := rd_dps (rd_dp hr n) r m (by simpa [D.ok] using h)
        exact ⟨by rw [D.py]; exact .lst t.sq a, by rw [D.py, PyData.canLay0]; exact b, by rw [D.py, PyData.depth]; omega⟩
    | ref p =>
      rw [rd] at h ⊢
      split at h
      · rename_i ds e
        obtain ⟨vs, h1, h2⟩ := hr p _ e
        cases m with
        | zero => simp [D.ok] at h
        | succ m =>
          obtain ⟨a, b, c⟩ := rd_dps (rd_dp hr n) h2 m (by simpa [D.ok] using h)
          exact ⟨by show Dp K.fr H _ (D.py (.fz _)); rw [D.py]; exact .lst (.inl (.inl h1)) a, by show (D.py (.fz _)).canLay0 = true; rw [D.py, PyData.canLay0]; exact b, by show (D.py (.fz _)).depth ≤ _; rw [D.py, PyData.depth]; omega⟩
      · simp [D.ok] at h
    | non => exact dp_of .non m (by simpa [rd] using h)
    | bl b => exact dp_of (.bl b) m (by simpa [rd] using h)
    | int i => exact dp_of (.int i) m (by simpa [rd] using h)
    | str x hx => exact dp_of (.str x hx) m (by simpa [rd] using h)
    | ty x => simp [rd, D.ok] at h
end
theorem shaped_of {d : PyData} {m : Nat} (h1 : d.canLay0 = true) (h2 : d.depth ≤ m) (hm : m ≤ 64) : SeqAt.shaped d = true := by
  unfold SeqAt.shaped
  rw [h1, Bool.true_and]
  exact decide_eq_true (Nat.le_trans h2 hm)
/-- == of plain data -/
def D.eqv (a b : D) : Bool := PyData.eqv a.py b.py

/-! ### comparisons -/
abbrev DR := D → D → Sto → KD → Prop
def wEq : DR := fun x y S Q => (rd 6 S x).ok 40 = true ∧ (rd 6 S y).ok 40 = true ∧ Q (.bl ((rd 6 S x).eqv (rd 6 S y))) S
def wNe : DR := fun x y S Q => (rd 6 S x).ok 40 = true ∧ (rd 6 S y).ok 40 = true ∧ Q (.bl (!(rd 6 S x).eqv (rd 6 S y))) S
section
variable {X : Cx}
theorem dop_eq (hu : X.A.units + 64 < cLine) : DOp X (compareOp .Eq) wEq := ⟨_, op_eqD hu, fun x y dx dy H S Q R hr r1 r2 ⟨h1, h2, q⟩ k => by
  obtain ⟨a1, a2, a3⟩ := rd_dp hr 6 r1 40 h1
  obtain ⟨b1, b2, b3⟩ := rd_dp hr 6 r2 40 h2
  exact ⟨_, _, a1, b1, shaped_of a2 a3 (by decide), shaped_of b2 b3 (by decide), k _ _ (.of (.refl _) hr (.bl _) q)⟩⟩
theorem dop_ne (hu : X.A.units + 64 < cLine) : DOp X (compareOp .NotEq) wNe := ⟨_, op_neD hu, fun x y dx dy H S Q R hr r1 r2 ⟨h1, h2, q⟩ k => by
  obtain ⟨a1, a2, a3⟩ := rd_dp hr 6 r1 40 h1
  obtain ⟨b1, b2, b3⟩ := rd_dp hr 6 r2 40 h2
  exact ⟨_, _, a1, b1, shaped_of a2 a3 (by decide), shaped_of b2 b3 (by decide), k _ _ (.of (.refl _) hr (.bl _) q)⟩⟩
/-- of ints, of texts -/
def wCmp (p : Int → Int → Bool) (t : List Nat → List Nat → Bool) : DR := fun x y S Q => match x, y with
  | .int i, .int j => Q (.bl (p i j)) S
  | .str a, .str b => Q (.bl (t a.cps.toList b.cps.toList)) S
  | _, _ => False
theorem dop_cmp {op : CmpOp} {p : Int → Int → Bool} {t : List Nat → List Nat → Bool} (h1 : OpR X (compareOp op) (rI0 fun i j => .bl (p i j))) (h2 : OpR X (compareOp op) (fun x y H Q => ∃ i j, x = .str i ∧ y = .str j ∧ Q (.bl (t i.cps.toList j.cps.toList)) H)) :
    DOp X (compareOp op) (wCmp p t) := ⟨_, h1.or h2, fun x y dx dy H S Q R hr r1 r2 q k => by
  cases r1 <;> cases r2 <;> first
    | exact .inl ⟨_, _, rfl, rfl, k _ _ (.of (.refl _) hr (.bl _) q)⟩
    | exact .inr ⟨_, _, rfl, rfl, k _ _ (.of (.refl _) hr (.bl _) q)⟩
    | exact q.elim⟩
abbrev wLt : DR := wCmp (fun i j => decide (i < j)) (fun a b => decide (a < b))
abbrev wLe : DR := wCmp (fun i j => decide (i ≤ j)) (fun a b => !decide (b < a))
abbrev wGt : DR := wCmp (fun i j => decide (j < i)) (fun a b => decide (b < a))
abbrev wGe : DR := wCmp (fun i j => decide (j ≤ i)) (fun a b => !decide (a < b))
theorem dop_lt : DOp X (compareOp .Lt) wLt := dop_cmp op_lt op_lt_str
theorem dop_le : DOp X (compareOp .LtE) wLe := dop_cmp op_le op_le_str
theorem dop_gt : DOp X (compareOp .Gt) wGt := dop_cmp op_gt op_gt_str
theorem dop_ge : DOp X (compareOp .GtE) wGe := dop_cmp op_ge op_ge_str
/-- is None -/
def wIsN : DR := fun x y S Q => y = .non ∧ Q (.bl (decide (x = .non))) S
def wNotN : DR := fun x y S Q => y = .non ∧ Q (.bl (!decide (x = .non))) S
theorem relD_non {K : KW} {H : Hp} {v : V} {d : D} (r : RelD K H v d) : decide (v = .non) = decide (d = .non) := by
  cases r <;> simp
theorem dop_isN : DOp X (compareOp .Is) wIsN := ⟨_, op_isN, fun x y dx dy H S Q R hr r1 r2 ⟨e, q⟩ k => by
  subst e; cases r2
  exact ⟨rfl, by rw [relD_non r1]; exact k _ _ (.of (.refl _) hr (.bl _) q)⟩⟩
theorem dop_notN : DOp X (compareOp .IsNot) wNotN := ⟨_, op_notN, fun x y dx dy H S Q R hr r1 r2 ⟨e, q⟩ k => by
  subst e; cases r2
  exact ⟨rfl, by rw [relD_non r1]; exact k _ _ (.of (.refl _) hr (.bl _) q)⟩⟩

/-! ### arithmetic -/
theorem strOk_append {a b : Str} (h1 : PyData.strOk a = true) (h2 : PyData.strOk b = true) : PyData.strOk (a ++ b) = true := by
  unfold PyData.strOk at *
  show (Str.append a b).cps.all _ = true
  simp only [Str.append, Array.all_append, h1, h2, Bool.and_self]
def onL (S : Sto) (a : Addr) (k : List D → Prop) : Prop := match S a with | some (.lst ds) => k ds | _ => False
theorem onL.mk {S : Sto} {a : Addr} {k : List D → Prop} {ds : List D} (h : S a = some (.lst ds)) (q : k ds) : onL S a k := by unfold onL; rw [h]; exact q
theorem onL.out {S : Sto} {a : Addr} {k : List D → Prop} (h : onL S a k) : ∃ ds, S a = some (.lst ds) ∧ k ds := by
  unfold onL at h
  split at h
  · exact ⟨_, by assumption, h⟩
  · exact h.elim
@[simp] theorem onL_eq {S : Sto} {a : Addr} {k : List D → Prop} {ds : List D} (h : S a = some (.lst ds)) : onL S a k = k ds := by unfold onL; rw [h]
def wAdd : DR := fun x y S Q => match x, y with
  | .int i, .int j => Q (.int (i + j)) S
  | .int i, .bl b => Q (.int (i + b2i b)) S
  | .str a, .str b => a.length + b.length ≤ sizeLine ∧ Q (.str (a ++ b)) S
  | .tup a, .tup b => a.length + b.length ≤ sizeLine ∧ Q (.tup (a ++ b)) S
  | .ref a, .ref b => onL S a fun xs => onL S b fun ys => xs.length + ys.length ≤ sizeLine ∧ ∀ p, S p = none → Q (.ref p) (put S p (.lst (xs ++ ys)))
  | _, _ => False
/-- t + u, any t, u -/
def rCatA (K : PySem.W.Frag) : R2 := fun x y H Q => ∃ a b xs ys, x = .ref a ∧ y = .ref b ∧ SqT K H a xs ∧ SqT K H b ys ∧ xs.length + ys.length ≤ sizeLine ∧ (xs = [] → Q (.ref b) H) ∧ (ys = [] → Q (.ref a) H) ∧ (∀ p us, H p = none → Q (.ref p) (upd H p (.frz (tupO us) (.tup (xs ++ ys)))))
theorem op_catA : OpR X (binaryOp .Add) (rCatA X.K) := by
  intro pins s σ H x y v u Q I rx ry ⟨a, b, xs, ys, ex, ey, ha, hb, hz, q0, q1, q2⟩
  subst ex; subst ey
  cases rx; cases ry
  obtain ⟨its, r1, t1, _⟩ := I.tuple ha
  obtain ⟨its2, r2, t2, _⟩ := I.tuple hb
  by_cases h : its = []
  · subst h
    cases r1
    exact cat_tup0 t1 t2 ⟨.ref b, H, I, rfl, q0 rfl⟩
  · refine HT.cat_tup t1 t2 h (fun e => ?_) (fun _ => ?_) (by rw [← r1.length, ← r2.length]; exact hz)
    · subst e; cases r2
      exact ⟨.ref a, H, I, rfl, q1 rfl⟩
    · exact ⟨.ref s.heap.objs.size, _, Inv.laidT I (r1.append r2) (by rw [List.length_append]; exact hz), rfl, q2 _ _ (I.hok.fresh (Nat.le_refl _))⟩
theorem dop_add : DOp X (binaryOp .Add) wAdd := ⟨_, ((op_add.or op_add_ib).or op_add_str).or (op_catA.or op_cat), fun x y dx dy H S Q R hr r1 r2 q k => by
  cases r1 with
  | int i =>
    cases r2 <;> first
      | exact .inl (.inl (.inl ⟨_, _, rfl, rfl, k _ _ (.of (.refl _) hr (.int _) q)⟩))
      | exact .inl (.inl (.inr ⟨_, _, rfl, rfl, k _ _ (.of (.refl _) hr (.int _) q)⟩))
      | exact q.elim
  | str a h =>
    cases r2 with
    | str b h' => exact .inl (.inr ⟨_, _, rfl, rfl, q.1, k _ _ (.of (.refl _) hr (.str _ (strOk_append h h')) q.2)⟩)
    | _ => exact q.elim
  | tup t r =>
    cases r2 with
    | tup t' r' =>
      refine .inr (.inl ⟨_, _, _, _, rfl, rfl, t.sq, t'.sq, by rw [r.length, r'.length]; exact q.1, fun e => ?_, fun e => ?_, fun p us n => ?_⟩)
      · subst e; cases r; exact k _ _ (.of (.refl _) hr (.tup t' r') q.2)
      · subst e; cases r'
        have q' := q.2
        rw [List.append_nil] at q'
        exact k _ _ (.of (.refl _) hr (.tup t r) q')
      · exact k _ _ (.of (.new n) (hr.new n) (relD_new n (r.append r')) q.2)
    | _ => exact q.elim
  | ref a =>
    cases r2 with
    | ref b =>
      obtain ⟨xs, e1, q⟩ := onL.out q
      obtain ⟨ys, e2, q⟩ := onL.out q
      obtain ⟨v1, h1, d1⟩ := hr a _ e1
      obtain ⟨v2, h2, d2⟩ := hr b _ e2
      exact .inr (.inr ⟨_, _, _, _, rfl, rfl, h1, h2, by rw [d1.length, d2.length]; exact q.1, fun p n => k _ _ (.of (.new n) (hr.lst n (d1.append d2)) (.ref p) (q.2 p (hr.free n)))⟩)
    | _ => exact q.elim
  | _ => exact q.elim⟩
def wI (C : Int → Int → Prop) (g : Int → Int → Int) : DR := fun x y S Q => match x, y with
  | .int i, .int j => C i j ∧ Q (.int (g i j)) S
  | _, _ => False
theorem dop_I {op : Operator} {C : Int → Int → Prop} {g : Int → Int → Int} (h : OpR X (binaryOp op) (rI C fun i j => .int (g i j))) : DOp X (binaryOp op) (wI C g) := ⟨_, h, fun x y dx dy H S Q R hr r1 r2 q k => by
  cases r1 <;> cases r2 <;> first
    | exact ⟨_, _, rfl, rfl, q.1, k _ _ (.of (.refl _) hr (.int _) q.2)⟩
    | exact q.elim⟩
def wI0 (g : Int → Int → Int) : DR := fun x y S Q => match x, y with
  | .int i, .int j => Q (.int (g i j)) S
  | _, _ => False
theorem dop_sub : DOp X (binaryOp .Sub) (wI0 fun i j => i - j) := ⟨_, op_sub, fun x y dx dy H S Q R hr r1 r2 q k => by
  cases r1 <;> cases r2 <;> first
    | exact ⟨_, _, rfl, rfl, k _ _ (.of (.refl _) hr (.int _) q)⟩
    | exact q.elim⟩
abbrev wSub : DR := wI0 fun i j => i - j
abbrev wMul : DR := wI CMul fun i j => i * j
abbrev wMod : DR := wI (fun _ j => 0 < j) fun i j => i % j
abbrev wDiv : DR := wI CDiv fun i j => i / j
abbrev wPow : DR := wI CPow fun i j => i ^ j.toNat
theorem dop_mul : DOp X (binaryOp .Mult) wMul := dop_I op_mul
theorem dop_mod : DOp X (binaryOp .Mod) wMod := dop_I op_mod
theorem dop_div : DOp X (binaryOp .FloorDiv) wDiv := dop_I op_fdiv
theorem dop_pow : DOp X (binaryOp .Pow) wPow := dop_I op_pow
def wNeg : D → Sto → KD → Prop := fun x S Q => match x with | .int i => Q (.int (-i)) S | _ => False
theorem dun_neg : DUn X (unaryOp .USub) wNeg := ⟨_, un_neg, fun x dx H S Q R hr r q k => by
  cases r <;> first
    | exact ⟨_, rfl, k _ _ (.of (.refl _) hr (.int _) q)⟩
    | exact q.elim⟩
end
end DL

namespace DL
open PySem PySem.Spec PyProof.Rows L2
section
variable {X : Cx} {pos : Pos} {K : KW} {H : Hp} {S : Sto}

theorem RelD.lst {v : V} {a : Addr} {ds : List D} (hr : HR K H S) (r : RelD K H v (.ref a)) (e : S a = some (.lst ds)) : v = .ref a ∧ ∃ vs, H a = some (.lst vs) ∧ RelDs K H vs ds := by
  cases r
  exact ⟨rfl, hr a _ e⟩
theorem Dp.shaped_list {v : V} {m : Nat} {d : D} (hr : HR K H S) (r : RelD K H v d) (h : (rd 6 S d).ok m = true) (hm : m ≤ 64) : SeqAt.shaped (rd 6 S d).py = true := by
  obtain ⟨_, a, b⟩ := rd_dp hr 6 r m h
  exact shaped_of a b hm

/-! ### in -/
/-- the items of a list or a tuple -/
def D.items? : D → Option (List D)
  | .fz ds => some ds
  | .tup ds => some ds
  | _ => none
def onI (d : D) (k : List D → Prop) : Prop := match d.items? with | some ds => k ds | none => False
theorem onI.out {d : D} {k : List D → Prop} (h : onI d k) : ∃ ds, d.items? = some ds ∧ k ds := by
  unfold onI at h
  split at h
  · exact ⟨_, by assumption, h⟩
  · exact h.elim
/-- x in a list, a tuple; a text in a text -/
def wInS (neg : Bool) : DR := fun x y S Q => match x, y with
  | .str a, .str b => Q (.bl (neg != (!(Builtin.Str.occurrences b a 0 b.length 1).isEmpty))) S
  | _, _ => (rd 6 S x).ok 40 = true ∧ (rd 6 S y).ok 40 = true ∧ onI (rd 6 S y) fun ds => Q (.bl (neg != (ds.any fun z => z.eqv (rd 6 S x)))) S
def rInP (K : PySem.W.Frag) (neg : Bool) : R2 := fun x y H Q => ∃ d ds, Dp K H x d ∧ (Dp K H y (.list ds) ∨ Dp K H y (.tuple ds)) ∧ SeqAt.shaped d = true ∧ PyData.canLayAll0 ds = true ∧ Q (.bl (neg != ds.any fun z => PyData.eqv z d)) H
theorem op_inP (hu : X.A.units + 65 < cLine) : OpR X (compareOp .In) (rInP X.K false) := by
  intro pins s σ H x y v u Q I rx ry ⟨d, ds, hx, hy, sd, sl, q⟩
  obtain ⟨bs, r1⟩ := Dp.reads I d x v hx rx
  have room : X.A.units + 1 + min (PyData.depthAll ds) d.depth < cLine := by
    have := SeqAt.depth_of_shaped sd
    omega
  have fin : EP X pins σ Q (.bool (ds.any fun z => PyData.eqv z d)) s := ⟨.bl _, H, I, rfl, by simpa using q⟩
  rcases hy with hy | hy
  · obtain ⟨as, r2⟩ := Dp.reads I _ y u hy ry
    exact SeqAt.in_list_reads r2 r1 sl (SeqAt.canLay_of_shaped sd) room fin
  · obtain ⟨as, r2⟩ := Dp.reads I _ y u hy ry
    exact SeqAt.in_tuple_reads r2 r1 sl (SeqAt.canLay_of_shaped sd) room fin
theorem op_notInP (hu : X.A.units + 65 < cLine) : OpR X (compareOp .NotIn) (rInP X.K true) := by
  intro pins s σ H x y v u Q I rx ry ⟨d, ds, hx, hy, sd, sl, q⟩
  obtain ⟨bs, r1⟩ := Dp.reads I d x v hx rx
  have room : X.A.units + 1 + min (PyData.depthAll ds) d.depth < cLine := by
    have := SeqAt.depth_of_shaped sd
    omega
  have fin : EP X pins σ Q (.bool (!ds.any fun z => PyData.eqv z d)) s := ⟨.bl _, H, I, rfl, by simpa using q⟩
  rcases hy with hy | hy
  · obtain ⟨as, r2⟩ := Dp.reads I _ y u hy ry
    exact SeqAt.notIn_list_reads r2 r1 sl (SeqAt.canLay_of_shaped sd) room fin
  · obtain ⟨as, r2⟩ := Dp.reads I _ y u hy ry
    exact SeqAt.notIn_tuple_reads r2 r1 sl (SeqAt.canLay_of_shaped sd) room fin
theorem inP_of {neg : Bool} {x y : V} {dx dy : D} {R : VK} {Q : KD} (hr : HR K H S) (r1 : RelD K H x dx) (r2 : RelD K H y dy) (h1 : (rd 6 S dx).ok 40 = true) (h2 : (rd 6 S dy).ok 40 = true)
    (q : onI (rd 6 S dy) fun ds => Q (.bl (neg != (ds.any fun z => z.eqv (rd 6 S dx)))) S) (k : ∀ v H', Up K H Q v H' → R v H') : rInP K.fr neg x y H R := by
  obtain ⟨ds, e, q⟩ := onI.out q
  obtain ⟨a1, a2, a3⟩ := rd_dp hr 6 r1 40 h1
  obtain ⟨b1, b2, b3⟩ := rd_dp hr 6 r2 40 h2
  have fin : R (.bl (neg != ((D.pys ds).any fun z => PyData.eqv z (rd 6 S dx).py))) H := by
    have : ((D.pys ds).any fun z => PyData.eqv z (rd 6 S dx).py) = ds.any fun z => z.eqv (rd 6 S dx) := by rw [pys_map, List.any_map]; rfl
    rw [this]
    exact k _ _ (.of (.refl _) hr (.bl _) q)
  cases hd : rd 6 S dy with
  | fz es =>
    rw [hd] at e b1 b2 b3
    cases e
    rw [D.py] at b1 b2
    rw [PyData.canLay0] at b2
    exact ⟨_, _, a1, .inl b1, shaped_of a2 a3 (by decide), b2, fin⟩
  | tup es =>
    rw [hd] at e b1 b2 b3
    cases e
    rw [D.py] at b1 b2
    rw [PyData.canLay0] at b2
    exact ⟨_, _, a1, .inr b1, shaped_of a2 a3 (by decide), b2, fin⟩
  | _ => rw [hd] at e; cases e
theorem dop_inS (hu : X.A.units + 65 < cLine) : DOp X (compareOp .In) (wInS false) := ⟨_, op_in_str.or (op_inP hu), fun x y dx dy H S Q R hr r1 r2 q k => by
  cases r1 <;> cases r2 <;> first
    | exact .inl ⟨_, _, rfl, rfl, k _ _ (.of (.refl _) hr (.bl _) (by simpa [wInS] using q))⟩
    | exact .inr (inP_of hr (by constructor <;> assumption) (by constructor <;> assumption) q.1 q.2.1 q.2.2 k)⟩
theorem dop_notInS (hu : X.A.units + 65 < cLine) : DOp X (compareOp .NotIn) (wInS true) := ⟨_, op_notin_str.or (op_notInP hu), fun x y dx dy H S Q R hr r1 r2 q k => by
  cases r1 <;> cases r2 <;> first
    | exact .inl ⟨_, _, rfl, rfl, k _ _ (.of (.refl _) hr (.bl _) (by simpa [wInS] using q))⟩
    | exact .inr (inP_of hr (by constructor <;> assumption) (by constructor <;> assumption) q.1 q.2.1 q.2.2 k)⟩

/-! ### x[i] of lists, tuples, texts -/
/-- a subscript by values: as IxR -/
def DIx (X : Cx) (r : DR) : Prop :=
  ∃ rh : R2, IxR X rh ∧ ∀ (x y : V) (dx dy : D) (H : Hp) (S : Sto) (Q : KD) (R : VK), HR X.KW H S → RelD X.KW H x dx → RelD X.KW H y dy → r dx dy S Q → (∀ v H', Up X.KW H Q v H' → R v H') → rh x y H R
theorem de_ix {a b : Expr} {ta tb : DTE} {r : DR} (ho : DIx X r) (ha : DE X a ta) (hb : DE X b tb) (hs : PlainIx b) : DE X (.Subscript a b pos) (dBin r ta tb) := by
  obtain ⟨rh, h1, h2⟩ := ho
  exact .up (pe_ix h1 ha.lo hb.lo hs) fun σ H τ S Q st hr q => bin_lo st hr q fun x y dx dy H2 S2 e hr2 r1 r2 q2 => h2 x y dx dy H2 S2 Q _ hr2 r1 r2 q2 fun v H' u => u.back e
def onS {α : Type} (o : Option α) (k : α → Prop) : Prop := match o with | some x => k x | none => False
theorem onS.out {α : Type} {o : Option α} {k : α → Prop} (h : onS o k) : ∃ x, o = some x ∧ k x := by
  cases o with
  | none => exact h.elim
  | some x => exact ⟨x, rfl, h⟩
def wIx : DR := fun x y S Q => match x, y with
  | .tup ds, .int i => onS (atI ds i) fun d => Q d S
  | .fz ds, .int i => onS (atI ds i) fun d => Q d S
  | .ref a, .int i => onL S a fun ds => onS (atI ds i) fun d => Q d S
  | .str z, .int i => z.length ≤ sizeLine ∧ onS (atI z.cps.toList i) fun c => Q (.str ⟨#[c]⟩) S
  | _, _ => False
theorem RelDs.atI {vs : List V} {ds : List D} {i : Int} {d : D} (r : RelDs K H vs ds) (h : L2.atI ds i = some d) : ∃ v, L2.atI vs i = some v ∧ RelD K H v d := by
  unfold L2.atI at *
  rw [r.length]
  cases e : ixN ds.length i with
  | none => rw [e] at h; cases h
  | some j =>
    rw [e] at h
    obtain ⟨v, h1, h2⟩ := r.get (i := j) h
    exact ⟨v, h1, h2⟩
theorem strOk_one {z : Str} {i : Int} {c : Nat} (h : PyData.strOk z = true) (e : L2.atI z.cps.toList i = some c) : PyData.strOk ⟨#[c]⟩ = true := by
  unfold L2.atI at e
  cases q : ixN z.cps.toList.length i with
  | none => rw [q] at e; cases e
  | some j =>
    rw [q] at e
    have hm : c ∈ z.cps.toList := List.mem_of_getElem? e
    unfold PyData.strOk at *
    rw [← Array.all_toList] at h
    have := List.all_eq_true.mp h c hm
    simpa using this
theorem dix_seq : DIx X wIx := ⟨_, (ix_list.or ix_tup).or ix_str, fun x y dx dy H S Q R hr r1 r2 q k => by
  cases r1 <;> cases r2 <;> first
    | exact q.elim
    | (rename_i t r i
       obtain ⟨d, e, q⟩ := onS.out q
       obtain ⟨v, e1, r'⟩ := r.atI e
       exact .inl (.inr ⟨_, _, _, _, rfl, rfl, t.sq, e1, k _ _ (.of (.refl _) hr r' q)⟩))
    | (rename_i t r i
       obtain ⟨d, e, q⟩ := onS.out q
       obtain ⟨v, e1, r'⟩ := r.atI e
       exact .inl (.inl ⟨_, _, _, _, rfl, rfl, t.sq, e1, k _ _ (.of (.refl _) hr r' q)⟩))
    | (rename_i a i
       obtain ⟨ds, e0, q⟩ := onL.out q
       obtain ⟨d, e, q⟩ := onS.out q
       obtain ⟨vs, h1, r⟩ := hr a _ e0
       obtain ⟨v, e1, r'⟩ := r.atI e
       exact .inl (.inl ⟨_, _, _, _, rfl, rfl, SqL.of h1, e1, k _ _ (.of (.refl _) hr r' q)⟩))
    | (rename_i x hx i
       obtain ⟨z, q⟩ := q
       obtain ⟨c, e, q⟩ := onS.out q
       exact .inr ⟨_, _, _, rfl, rfl, z, e, k _ _ (.of (.refl _) hr (.str _ (strOk_one hx e)) q)⟩)⟩

/-! ### slices -/
abbrev DTO := DSt → Sto → (Option Int → Sto → Prop) → Prop
structure DPo (X : Cx) (e : Option Expr) (t : DTO) : Prop where
  po : PO X e (fun σ H R => ∃ τ S Q, StR X.KW H σ τ ∧ HR X.KW H S ∧ t τ S Q ∧ ∀ o H' S', Ev H H' → HR X.KW H' S' → Q o S' → R o H')
def dNoPart : DTO := fun _ S Q => Q none S
def isI (Q : Option Int → Sto → Prop) : KD := fun d S => match d with | .int i => Q (some i) S | _ => False
def dPart (t : DTE) : DTO := fun τ S Q => t τ S (isI Q)
theorem dpo_none : DPo X none dNoPart := ⟨⟨fun pins s σ H R I ⟨τ, S, Q, st, hr, q, k⟩ => po_none.run pins s σ H R I (k none H S (.refl _) hr q)⟩⟩
theorem dpo_some {e : Expr} {te : DTE} (h : DE X e te) : DPo X (some e) (dPart te) := ⟨⟨fun pins s σ H R I ⟨τ, S, Q, st, hr, q, k⟩ => (po_some h.lo).run pins s σ H R I (.mk st hr q fun v H' ⟨e, d, S', hr', r, q'⟩ => by
  cases r with
  | int i => exact ⟨i, rfl, k _ _ _ e hr' q'⟩
  | _ => exact q'.elim)⟩⟩
def cutD (ds : List D) (lo hi : Option Int) : List D := (ds.drop (HT.sIx ds.length 0 lo)).take (HT.sIx ds.length ds.length hi - HT.sIx ds.length 0 lo)
theorem RelDs.cut {vs : List V} {ds : List D} (r : RelDs K H vs ds) (lo hi : Option Int) : RelDs K H (cutV vs lo hi) (cutD ds lo hi) := by
  unfold cutV cutD
  rw [r.length]
  exact (r.drop _).take _
def wCut (x : D) (lo hi : Option Int) (S : Sto) (Q : KD) : Prop := match x with
  | .tup ds => Q (.tup (cutD ds lo hi)) S
  | .fz ds => ∀ p, S p = none → Q (.ref p) (put S p (.lst (cutD ds lo hi)))
  | .ref a => onL S a fun ds => ∀ p, S p = none → Q (.ref p) (put S p (.lst (cutD ds lo hi)))
  | .str z => z.length ≤ sizeLine ∧ Q (.str (cutS z lo hi)) S
  | _ => False
def dCut (te : DTE) (tl th : DTO) : DTE := fun τ S Q => te τ S fun x S1 => tl τ S1 fun l S2 => th τ S2 fun u S3 => wCut x l u S3 Q
theorem strOk_cut {z : Str} (h : PyData.strOk z = true) (lo hi : Option Int) : PyData.strOk (cutS z lo hi) = true := by
  unfold cutS PyData.strOk at *
  rw [← Array.all_toList] at h
  have h' := List.all_eq_true.mp h
  first
    | (rw [← Array.all_toList]
       refine List.all_eq_true.mpr fun c hc => h' c ?_
       simp at hc
       exact List.mem_of_mem_drop (List.mem_of_mem_take (by simpa using hc)))
    | skip
def rSlB (K : PySem.W.Frag) : V → Option Int → Option Int → Hp → VK → Prop := fun x lo hi H Q => ∃ a xs, x = .ref a ∧ SqT K H a xs ∧
  (HT.sIx xs.length 0 lo = 0 ∧ HT.sIx xs.length xs.length hi = xs.length → Q (.ref a) H) ∧ (∀ p us, H p = none → Q (.ref p) (upd H p (.frz (tupO us) (.tup (cutV xs lo hi)))))
theorem sl_tupB : SlR X (rSlB X.K) := by
  intro pins s σ H x v vl vu lo hi sl Q I rx hs pl pu h
  obtain ⟨a, xs, rfl, hx, q1, q2⟩ := h
  cases rx
  obtain ⟨its, r, ht, hz⟩ := I.tuple hx
  have hlen : its.toArray.size = xs.length := by rw [List.size_toArray]; exact r.length.symm
  refine ⟨"tuple", _, PyProof.Rows.slot_tuple_getitem.lookup, ht.typeIs, ?_⟩
  by_cases hw : HT.sIx xs.length 0 lo = 0 ∧ HT.sIx xs.length xs.length hi = xs.length
  · exact getItem_tuple_whole ht hs pl pu (by rw [hlen]; exact hw) ⟨.ref a, H, I, rfl, q1 hw⟩
  · refine HT.getItem_tuple_cut ht hs pl pu (by rw [hlen]; exact hw) ?_ (by rw [hlen]; exact hz)
    rw [hlen]
    exact ⟨.ref s.heap.objs.size, _, Inv.laidT I (vs := cutV xs lo hi) ((r.drop (HT.sIx xs.length 0 lo)).take (HT.sIx xs.length xs.length hi - HT.sIx xs.length 0 lo)) (Nat.le_trans (cutV_length xs lo hi) hz), rfl, q2 _ _ (I.hok.fresh (Nat.le_refl _))⟩
theorem de_cut {e : Expr} {lo hi : Option Expr} {te : DTE} {tl th : DTO} {p2 : Pos} (he : DE X e te) (hl : DPo X lo tl) (hh : DPo X hi th) : DE X (.Subscript e (.Slice lo hi none p2) pos) (dCut te tl th) :=
  .up (pe_slice ((sl_tupB.or sl_list).or sl_str) he.lo hl.po hh.po) fun σ H τ S Q st hr q => .mk st hr q fun x H1 ⟨e1, d, S1, hr1, r1, q1⟩ =>
    ⟨τ, S1, _, st.ev e1, hr1, q1, fun l H2 S2 e2 hr2 q2 => ⟨τ, S2, _, st.ev (e1.trans e2), hr2, q2, fun u H3 S3 e3 hr3 q3 => by
      have r3 := (r1.ev e2).ev e3
      have e03 := (e1.trans e2).trans e3
      cases r3 with
      | @tup a vs ds t r =>
        refine .inl (.inl ⟨_, _, rfl, t.sq, fun w => ?_, fun p us n => .of (e03.trans (.new n)) (hr3.new n) (relD_new n (r.cut l u)) q3⟩)
        have : cutD ds l u = ds := by
          unfold cutD
          rw [← r.length, w.1, w.2]
          simp [r.length]
        have q3' : Q (.tup (cutD ds l u)) S3 := q3
        rw [this] at q3'
        exact .of e03 hr3 (.tup t r) q3'
      | fz t r => exact .inl (.inr ⟨_, _, rfl, t.sq, fun p n => .of (e03.trans (.new n)) (hr3.lst n (r.cut l u)) (.ref p) (q3 p (hr3.free n))⟩)
      | ref a =>
        obtain ⟨ds, e0, q3⟩ := onL.out q3
        obtain ⟨vs, h1, r⟩ := hr3 a _ e0
        exact .inl (.inr ⟨_, _, rfl, SqL.of h1, fun p n => .of (e03.trans (.new n)) (hr3.lst n (r.cut l u)) (.ref p) (q3 p (hr3.free n))⟩)
      | str z hz => exact .inr ⟨_, rfl, q3.1, .of e03 hr3 (.str _ (strOk_cut hz l u)) q3.2⟩
      | _ => exact q3.elim⟩⟩

/-! ### dicts with tuple keys, below -/
theorem RelDs.kVs : ∀ {vs : List V} {ks : List Key}, RelDs K H vs (ks.map kD) → vs = ks.map kV
  | _, [], .nil => rfl
  | _, .inl i :: ks, .cons r t => by cases r; rw [RelDs.kVs t]; rfl
  | _, .inr x :: ks, .cons r t => by cases r; rw [RelDs.kVs t]; rfl
section
variable {pins : List (Addr × Obj)} {σ : L2.St} {s : Shared} {a : Addr}
theorem keyT {ks : List Key} (I : Inv X pins σ H s) (t : KeyT X.KW H a ks) : (tupleKind (mixKind X.prog X.w)).is s.heap ks a := by
  obtain ⟨its, r, p, _⟩ := I.tuple t.1.sq
  obtain ⟨o, h1, h2, n, h3⟩ := p
  exact ⟨o, its.toArray, n, h1, h2, h3, by simpa using items_are r⟩
theorem tdn_keys (I : Inv X pins σ H s) : ∀ {xs : List (List Key × Addr × Value)} {kvs : List (D × D)}, RelTV X.KW H xs kvs → ∀ x ∈ xs, (tupleKind (mixKind X.prog X.w)).is s.heap x.1 x.2.1
  | _, _, .nil, x, hx => nomatch hx
  | _, _, .cons t _ _ q, x, hx => by
    rcases List.mem_cons.mp hx with rfl | hx
    · exact keyT I t
    · exact tdn_keys I q x hx
theorem tdn_rd {xs : List (List Key × Addr × Value)} {kvs : List (D × D)} (I : Inv X pins σ H s) (e : Rd H a (TDn X.KW a xs)) (r : RelTV X.KW H xs kvs) :
    xs.length ≤ sizeLine ∧ (a == sysModules) = false ∧ s.heap.DictOfH (tupleKind (mixKind X.prog X.w)) a xs := by
  obtain ⟨⟨⟨z, y⟩, o, es, ep, h1, h2, h3, h4, h5⟩, _⟩ := (show ObjOk X.prog X.w H s.heap a (TDn X.KW a xs) from rd_of I.hok e)
  exact ⟨z, y, o, es, ep, h1, h2, h3, h4, tdn_keys I r, h5⟩
end
theorem call_lenK : CallR X (.builtin "len") (fun xs H Q => ∃ a kvs, xs = [V.ref a] ∧ Rd H a (.dK kvs) ∧ Q (.int kvs.length) H) := by
  intro pins s σ H xs us Q I r h
  obtain ⟨a, kvs, rfl, ha, q⟩ := h
  obtain ⟨u, rfl, ru⟩ := vals1 r
  cases ru
  exact d_len I ha fun t s' I' => ⟨.int kvs.length, H, I', ⟨t, rfl⟩, q⟩
theorem call_lenTD : CallR X (.builtin "len") (fun xs H Q => ∃ a es kvs, xs = [V.ref a] ∧ Rd H a (TDn X.KW a es) ∧ RelTV X.KW H es kvs ∧ Q (.int ((es.length : Nat) : Int)) H) := by
  intro pins s σ H xs us Q I r h
  obtain ⟨a, es, kvs, rfl, ha, rk, q⟩ := h
  obtain ⟨u, rfl, ru⟩ := vals1 r
  cases ru
  obtain ⟨z, hd, dd⟩ := tdn_rd I ha rk
  exact call_len_dictH hd dd (by rw [sizeLine_eq] at z; omega) ⟨.int ((es.length : Nat) : Int), H, I.tok _, ⟨_, rfl⟩, q⟩

/-! ### len, tuple, list -/
def DCall.of {f : Value} {r : List D → Sto → KD → Prop} {rh : List V → Hp → VK → Prop} (h : CallR X f rh) (c : ∀ xs H ds S (Q : KD) (R : VK), HR X.KW H S → RelDs X.KW H xs ds → r ds S Q → (∀ v H', Up X.KW H Q v H' → R v H') → rh xs H R) : DCall X f r :=
  fun pins s σ H xs us ds S Q I v hr rd q => h pins s σ H xs us _ I v (c xs H ds S Q _ hr rd q fun _ _ z => z)
def wLen : List D → Sto → KD → Prop := fun xs S Q => match xs with
  | [.tup ds] => Q (.int ds.length) S
  | [.fz ds] => Q (.int ds.length) S
  | [.str z] => z.length ≤ sizeLine ∧ Q (.int z.length) S
  | [.ref a] => match S a with | some (.lst ds) => Q (.int ds.length) S | some (.dct kvs) => Q (.int kvs.length) S | some (.fdc _ kvs) => Q (.int kvs.length) S | _ => False
  | _ => False
theorem dcall_len : DCall X (.builtin "len") wLen := .of ((call_len_seq.or call_len_str).or (call_lenK.or call_lenTD)) fun xs H ds S Q R hr rd q k => by
  cases rd with
  | nil => exact q.elim
  | cons r t =>
    cases t with
    | cons _ _ => cases r <;> exact q.elim
    | nil =>
      cases r with
      | tup t r => exact .inl (.inl ⟨_, _, rfl, .inr t.sq, by rw [r.length]; exact k _ _ (.of (.refl _) hr (.int _) q)⟩)
      | fz t r => exact .inl (.inl ⟨_, _, rfl, .inl t.sq, by rw [r.length]; exact k _ _ (.of (.refl _) hr (.int _) q)⟩)
      | str z h => exact .inl (.inr ⟨_, rfl, q.1, k _ _ (.of (.refl _) hr (.int _) q.2)⟩)
      | ref a =>
        simp only [wLen] at q
        split at q
        · rename_i ds e
          obtain ⟨vs, h1, r⟩ := hr a _ e
          exact .inl (.inl ⟨_, _, rfl, .inl (SqL.of h1), by rw [r.length]; exact k _ _ (.of (.refl _) hr (.int _) q)⟩)
        · rename_i kvs e
          rcases hr a _ e with ⟨es, h1, r⟩ | ⟨es, h1, r⟩
          · exact .inr (.inl ⟨_, _, rfl, .inl h1, by rw [r.length]; exact k _ _ (.of (.refl _) hr (.int _) q)⟩)
          · exact .inr (.inr ⟨_, _, _, rfl, .inl h1, r, by rw [r.length]; exact k _ _ (.of (.refl _) hr (.int _) q)⟩)
        · rename_i o kvs e
          rcases hr a _ e with ⟨es, h1, r⟩ | ⟨es, h1, r⟩
          · exact .inr (.inl ⟨_, _, rfl, .inr ⟨_, h1⟩, by rw [r.length]; exact k _ _ (.of (.refl _) hr (.int _) q)⟩)
          · exact .inr (.inr ⟨_, _, _, rfl, .inr ⟨_, h1⟩, r, by rw [r.length]; exact k _ _ (.of (.refl _) hr (.int _) q)⟩)
        · exact q.elim
      | _ => exact q.elim
def wTuple : List D → Sto → KD → Prop := fun xs S Q => match xs with
  | [.tup ds] => Q (.tup ds) S
  | [.fz ds] => Q (.tup ds) S
  | [.ref a] => onL S a fun ds => Q (.tup ds) S
  | _ => False
theorem call_tupleB : CallR X (.type "tuple") (fun xs H Q => ∃ p ys, xs = [.ref p] ∧ ((SqL X.K H p ys ∧ ∀ l us, H l = none → Q (.ref l) (upd H l (.frz (tupO us) (.tup ys)))) ∨ (SqT X.K H p ys ∧ Q (.ref p) H))) := by
  intro pins s σ H xs us Q I r h
  obtain ⟨p, ys, rfl, h⟩ := h
  obtain ⟨u, rfl, rx⟩ := vals1 r
  cases rx
  rcases h with ⟨hq, q⟩ | ⟨hq, q⟩
  · obtain ⟨its, r', pl, hz⟩ := I.list hq
    have hlen := r'.length
    refine call_tuple_list pl.isList (fun h' kp => ?_) (by simp only [List.size_toArray] <;> omega)
    have I1 : Inv X pins σ H { s with heap := h' } := I.kept (t' := s.toks) kp
    exact ⟨.ref h'.objs.size, _, Inv.laidT I1 r' hz, rfl, q _ _ (I1.hok.fresh (Nat.le_refl _))⟩
  · obtain ⟨its, r', pl, hz⟩ := I.tuple hq
    exact call_tuple_same pl ⟨.ref p, H, I, rfl, q⟩
theorem dcall_tuple : DCall X (.type "tuple") wTuple := .of call_tupleB fun xs H ds S Q R hr rd q k => by
  cases rd with
  | nil => exact q.elim
  | cons r t =>
    cases t with
    | cons _ _ => cases r <;> exact q.elim
    | nil =>
      cases r with
      | tup t r => exact ⟨_, _, rfl, .inr ⟨t.sq, k _ _ (.of (.refl _) hr (.tup t r) q)⟩⟩
      | fz t r => exact ⟨_, _, rfl, .inl ⟨t.sq, fun p us n => k _ _ (.of (.new n) (hr.new n) (relD_new n r) q)⟩⟩
      | ref a =>
        obtain ⟨ds, e, q⟩ := onL.out q
        obtain ⟨vs, h1, r⟩ := hr a _ e
        exact ⟨_, _, rfl, .inl ⟨SqL.of h1, fun p us n => k _ _ (.of (.new n) (hr.new n) (relD_new n r) q)⟩⟩
      | _ => exact q.elim
def wList : List D → Sto → KD → Prop := fun xs S Q => match xs with
  | [.tup ds] => ∀ p, S p = none → Q (.ref p) (put S p (.lst ds))
  | [.fz ds] => ∀ p, S p = none → Q (.ref p) (put S p (.lst ds))
  | [.ref a] => onL S a fun ds => ∀ p, S p = none → Q (.ref p) (put S p (.lst ds))
  | _ => False
theorem dcall_list : DCall X (.type "list") wList := .of call_list_of fun xs H ds S Q R hr rd q k => by
  cases rd with
  | nil => exact q.elim
  | cons r t =>
    cases t with
    | cons _ _ => cases r <;> exact q.elim
    | nil =>
      cases r with
      | tup t r => exact ⟨_, _, rfl, .inr t.sq, fun p n => k _ _ (.of (.new n) (hr.lst n r) (.ref p) (q p (hr.free n)))⟩
      | fz t r => exact ⟨_, _, rfl, .inl t.sq, fun p n => k _ _ (.of (.new n) (hr.lst n r) (.ref p) (q p (hr.free n)))⟩
      | ref a =>
        obtain ⟨ds, e, q⟩ := onL.out q
        obtain ⟨vs, h1, r⟩ := hr a _ e
        exact ⟨_, _, rfl, .inl (SqL.of h1), fun p n => k _ _ (.of (.new n) (hr.lst n r) (.ref p) (q p (hr.free n)))⟩
      | _ => exact q.elim
end
end DL

namespace DL
open PySem PySem.Spec PyProof.Rows L2
section
variable {X : Cx} {pos : Pos} {K : KW} {H : Hp} {S : Sto}

/-! ### methods of built-in types -/
def DMt (X : Cx) (id : String) (r : D → List D → Sto → KD → Prop) : Prop :=
  ∃ rh, MtR X id rh ∧ ∀ (x : V) (xs : List V) (dx : D) (ds : List D) (H : Hp) (S : Sto) (Q : KD) (R : VK), HR X.KW H S → RelD X.KW H x dx → RelDs X.KW H xs ds → r dx ds S Q → (∀ v H', Up X.KW H Q v H' → R v H') → rh x xs H R
def tyD (T : String) (x : D) (S : Sto) : Prop := match x with
  | .str _ => T = "str"
  | .fz _ => T = "list"
  | .ref a => match S a with | some (.lst _) => T = "list" | _ => False
  | _ => False
theorem tyD.v {T : String} {x : V} {d : D} (hr : HR K H S) (r : RelD K H x d) (h : tyD T d S) : tyV K.fr T x H := by
  cases r with
  | str z _ => exact h
  | fz t _ => exact .inl ⟨h, _, t.sq⟩
  | ref a =>
    simp only [tyD] at h
    split at h
    · rename_i ds e
      obtain ⟨vs, h1, _⟩ := hr a _ e
      exact .inl ⟨h, _, SqL.of h1⟩
    · exact h.elim
  | _ => exact h.elim
def dBM (T : String) (r : D → List D → Sto → KD → Prop) (to : DTE) (t : DTA) : DTE := fun τ S Q => to τ S fun x S1 => tyD T x S1 ∧ t τ S1 fun ds S2 => r x ds S2 Q
def dBM0 (T : String) (r : D → List D → Sto → KD → Prop) (to : DTE) : DTE := fun τ S Q => to τ S fun x S1 => tyD T x S1 ∧ r x [] S1 Q
variable {o e : Expr} {es : List Expr} {to : DTE} {t : DTA} {name : Str} {apos cpos : Pos} {T id : String} {r : D → List D → Sto → KD → Prop}
theorem de_bm0 (pa : PlainAttrs T) (slot : Slot T name id) (hty : typeOf (.builtin id) = pure (.type "method_descriptor")) (hm : DMt X id r) (ho : DE X o to)
    (hbase : attributeBase o name X.env (eval o X.env) = eval o X.env := by rfl) (hline : (apos.endLine == cpos.line) = true := by rfl) : DE X (.Call (.Attribute o name apos) [] [] cpos) (dBM0 T r to) := by
  obtain ⟨rh, h1, h2⟩ := hm
  exact .up (pe_bm0 pa slot hty h1 ho.lo hbase hline) fun σ H τ S Q st hr q => .mk st hr q fun v H1 ⟨e1, d, S1, hr1, r1, ty, q1⟩ => ⟨ty.v hr1 r1, h2 v [] d [] H1 S1 Q _ hr1 r1 .nil q1 fun _ _ z => z.back e1⟩
theorem de_bm (pa : PlainAttrs T) (slot : Slot T name id) (hty : typeOf (.builtin id) = pure (.type "method_descriptor")) (hm : DMt X id r) (ho : DE X o to) (ha : DAr X (e :: es) t)
    (hbase : attributeBase o name X.env (eval o X.env) = eval o X.env := by rfl)
    (hfew : ((backTo cpos (starEach (e :: es) X.env)).all (fun x => !x.1) && (backToKw cpos (keywordEach [] X.env)).all (fun x => x.1.isSome)
      && decide ((e :: es).length + ([] : List Keyword).length + (if ([] : List Keyword).isEmpty then 0 else 1) < 30)) = true := by rfl)
    (hline : (apos.endLine == cpos.line) = true := by rfl) (hs : starEach (e :: es) X.env = (false, eval e X.env) :: starEach es X.env := by rfl) (hplain : (backTo cpos (starEach es X.env)).any (·.1) = false := by rfl) :
    DE X (.Call (.Attribute o name apos) (e :: es) [] cpos) (dBM T r to t) := by
  obtain ⟨rh, h1, h2⟩ := hm
  exact .up (pe_bm pa slot hty h1 ho.lo ha.lo hbase hfew hline hs hplain) fun σ H τ S Q st hr q => .mk st hr q fun v H1 ⟨e1, d, S1, hr1, r1, ty, q1⟩ => ⟨ty.v hr1 r1, τ, S1, _, st.ev e1, hr1, q1, fun vs H2 ⟨e2, ds, S2, hr2, r2, q2⟩ =>
    h2 v vs d ds H2 S2 Q _ hr2 (r1.ev e2) r2 q2 fun _ _ z => z.back (e1.trans e2)⟩
theorem relD_ref {v : V} {a : Addr} (r : RelD K H v (.ref a)) : v = .ref a := by cases r; rfl
theorem RelDs.one {vs : List V} {d : D} (r : RelDs K H vs [d]) : ∃ v, vs = [v] ∧ RelD K H v d := by
  cases r with
  | cons r t => cases t; exact ⟨_, rfl, r⟩
theorem RelDs.two {vs : List V} {d e : D} (r : RelDs K H vs [d, e]) : ∃ v w, vs = [v, w] ∧ RelD K H v d ∧ RelD K H w e := by
  cases r with
  | cons r t => cases t with
    | cons r' t => cases t; exact ⟨_, _, rfl, r, r'⟩
/-- a list changed -/
theorem up_lst {a : Addr} {vs ws : List V} {ds : List D} {Q : KD} {v : V} {d : D} (hr : HR K H S) (h1 : H a = some (.lst vs)) (r : RelDs K H ws ds) (rv : RelD K H v d) (q : Q d (put S a (.lst ds))) : Up K H Q v (upd H a (.lst ws)) :=
  have e : Ev H (upd H a (.lst ws)) := .upd h1 rfl
  .of e (hr.chg (b := .lst ds) h1 rfl ⟨ws, upd_same, r.ev e⟩) (rv.ev e) q
def wAppend : D → List D → Sto → KD → Prop := fun x xs S Q => match x, xs with
  | .ref a, [y] => onL S a fun ds => ds.length < sizeLine ∧ Q .non (put S a (.lst (ds ++ [y])))
  | _, _ => False
theorem dmt_append : DMt X "list.append" wAppend := ⟨_, mt_append, fun x xs dx ds H S Q R hr r1 r2 q k => by
  unfold wAppend at q
  split at q
  · obtain ⟨ds, e, z, q⟩ := onL.out q
    obtain ⟨vs, h1, r⟩ := hr _ _ e
    obtain ⟨y, rfl, ry⟩ := r2.one
    exact ⟨_, vs, y, relD_ref r1, rfl, h1, by rw [r.length]; exact z, k _ _ (up_lst hr h1 (r.append (.cons ry .nil)) .non q)⟩
  · exact q.elim⟩
/-- list.extend by a tuple of any make -/
theorem list_extend_tupW (l : Addr) (items : Array Value) (n : Nat) (b : Addr) (items2 : Array Value) (n2 : Nat) (dd2 : Option Addr) (sl2 : Array (Option Value))
    (hs0 : ¬(!items.isEmpty && Builtin.List.listTooLong (items.size + items2.size)) = true) (hs1 : items.size ≤ sizeLine) (hs2 : items.size + items2.size ≤ sizeLine) :
    Meets (Builtin.«list.extend» ⟨[.ref l, .ref b], []⟩) (fun _ R s => s.heap.get? l = some { cls := .type "list", data := .seq items n } ∧ s.heap.get? b = some { cls := .type "tuple", dict := dd2, data := .seq items2 n2, slots := sl2 } ∧
      R (.ok (.ret Value.none)) { s with heap := s.heap.update l (Obj.mapSeq fun x => x ++ items2), toks := s.toks }) :=
  .of_wp fun prog w A R s h => by
    obtain ⟨hp, g, d, tk, os⟩ := s
    obtain ⟨hl, hb, h⟩ := h
    have f1 := AutoSeq1.idx_int
    have f2 := AutoSeq1.sub_tuple_tuple
    have f3 := AutoSeq1.sub_list_list
    have f4 := AutoSeq1.sub_tuple_list
    have f5 := AutoSeq1.sub_list_tuple
    have hz' : (items ++ items2).size ≤ sizeLine + 1 := by rw [Array.size_append]; omega
    wp_walk using (wpAny_updateSeq hl rfl (hz := hs1) (_hz' := hz')), wpAny_loadPart' hl, wpAny_loadPart' hb
    exact ⟨_, rfl, h⟩
def rExtT (K : PySem.W.Frag) : V → List V → Hp → VK → Prop := fun x vs H Q => ∃ l b xs zs, x = .ref l ∧ vs = [.ref b] ∧ H l = some (.lst xs) ∧ SqT K H b zs ∧ xs.length + zs.length ≤ sizeLine ∧ Q .non (upd H l (.lst (xs ++ zs)))
theorem mt_extT : MtR X "list.extend" (rExtT X.K) := by
  intro pins s σ H x vs v us Q I rx rv ⟨l, b, xs, zs, ex, ev, hH, hB, hz, q⟩
  subst ex; subst ev
  cases rx
  obtain ⟨u, rfl, ru⟩ := rv.one
  cases ru
  obtain ⟨z, its, n, r, hl, e⟩ := I.lstM hH
  obtain ⟨its2, r2, ⟨⟨cls, dd, data, sl⟩, ho, hc, n2, hd⟩, z2⟩ := I.tuple hB
  simp only at hc hd
  subst hc hd
  have hl2 := r2.length
  have hsz : its.toArray.size + its2.toArray.size ≤ sizeLine := by rw [List.size_toArray, List.size_toArray]; omega
  have hlong : ¬ (!its.toArray.isEmpty && Builtin.List.listTooLong (its.toArray.size + its2.toArray.size)) = true := by
    rw [notLongL hsz, Bool.and_false]
    exact Bool.false_ne_true
  refine call_meets PySem.F.slot_list_extend ⟨_, e, rfl⟩ PySem.F.entry_list_extend (PySem.F.args_list_extend_2 _ _)
    (list_extend_tupW l its.toArray n b its2.toArray n2 dd sl hlong (by rw [List.size_toArray]; omega) hsz) ⟨e, ho, ?_⟩
  refine ⟨.non, _, I.lset (its' := its ++ its2) hH e (by simp) (r.append r2) ?_, rfl, q⟩
  rw [List.length_append]
  omega
def wExtend : D → List D → Sto → KD → Prop := fun x xs S Q => match x, xs with
  | .ref a, [.tup es] => onL S a fun ds => ds.length + es.length ≤ sizeLine ∧ Q .non (put S a (.lst (ds ++ es)))
  | .ref a, [.ref b] => onL S a fun ds => onL S b fun es => ds.length + es.length ≤ sizeLine ∧ Q .non (put S a (.lst (ds ++ es)))
  | _, _ => False
theorem dmt_extend : DMt X "list.extend" wExtend := ⟨_, MtR.or mt_extend mt_extT, fun x xs dx ds H S Q R hr r1 r2 q k => by
  unfold wExtend at q
  split at q
  · obtain ⟨ds, e, z, q⟩ := onL.out q
    obtain ⟨vs, h1, r⟩ := hr _ _ e
    obtain ⟨y, rfl, ry⟩ := r2.one
    cases ry with
    | tup t rt => exact .inr ⟨_, _, vs, _, relD_ref r1, rfl, h1, t.sq, by rw [r.length, rt.length]; exact z, k _ _ (up_lst hr h1 (r.append rt) .non q)⟩
  · obtain ⟨ds, e, q⟩ := onL.out q
    obtain ⟨es, e2, z, q⟩ := onL.out q
    obtain ⟨vs, h1, r⟩ := hr _ _ e
    obtain ⟨ws, h2, rt⟩ := hr _ _ e2
    obtain ⟨y, rfl, ry⟩ := r2.one
    cases ry
    exact .inl ⟨_, _, vs, _, relD_ref r1, rfl, h1, h2, by rw [r.length, rt.length]; exact z, k _ _ (up_lst hr h1 (r.append rt) .non q)⟩
  · exact q.elim⟩
def wPop : D → List D → Sto → KD → Prop := fun x xs S Q => match x, xs with
  | .ref a, [] => onL S a fun ds => onS ds[ds.length - 1]? fun d => Q d (put S a (.lst ds.dropLast))
  | .ref a, [.int i] => onL S a fun ds => -(2 ^ 63) ≤ i ∧ i < 2 ^ 63 ∧ onS (seqIndex? i ds.length) fun j => onS ds[j]? fun d => Q d (put S a (.lst (ds.eraseIdx j)))
  | _, _ => False
theorem RelDs.dropLast {vs : List V} {ds : List D} (r : RelDs K H vs ds) : RelDs K H vs.dropLast ds.dropLast := by
  rw [List.dropLast_eq_take, List.dropLast_eq_take, r.length]
  exact r.take _
theorem RelDs.eraseIdx : ∀ {vs : List V} {ds : List D} (n : Nat), RelDs K H vs ds → RelDs K H (vs.eraseIdx n) (ds.eraseIdx n)
  | _, _, _, .nil => .nil
  | _, _, 0, .cons _ t => t
  | _, _, n + 1, .cons r t => .cons r (RelDs.eraseIdx n t)
theorem dmt_pop : DMt X "list.pop" wPop := ⟨_, MtR.or mt_pop mt_popAt, fun x xs dx ds H S Q R hr r1 r2 q k => by
  unfold wPop at q
  split at q
  · obtain ⟨ds, e, q⟩ := onL.out q
    obtain ⟨d, ed, q⟩ := onS.out q
    obtain ⟨vs, h1, r⟩ := hr _ _ e
    cases r2
    obtain ⟨y, hy, ry⟩ := r.get ed
    exact .inl ⟨_, vs, y, relD_ref r1, rfl, h1, by rw [r.length]; exact hy, k _ _ (up_lst hr h1 r.dropLast ry q)⟩
  · obtain ⟨ds, e, b1, b2, q⟩ := onL.out q
    obtain ⟨j, ej, q⟩ := onS.out q
    obtain ⟨d, ed, q⟩ := onS.out q
    obtain ⟨vs, h1, r⟩ := hr _ _ e
    obtain ⟨y, hy, ry⟩ := r.get ed
    obtain ⟨i', rfl, ri⟩ := r2.one
    cases ri
    exact .inr ⟨_, vs, _, j, y, relD_ref r1, rfl, h1, b1, b2, by rw [r.length]; exact ej, hy, k _ _ (up_lst hr h1 (r.eraseIdx j) ry q)⟩
  · exact q.elim⟩
def wInsert : D → List D → Sto → KD → Prop := fun x xs S Q => match x, xs with
  | .ref a, [.int i, y] => onL S a fun ds => ds.length < sizeLine ∧ 0 ≤ i ∧ i < 2 ^ 63 ∧ Q .non (put S a (.lst (ds.take i.toNat ++ [y] ++ ds.drop i.toNat)))
  | _, _ => False
theorem dmt_insert : DMt X "list.insert" wInsert := ⟨_, mt_insert, fun x xs dx ds H S Q R hr r1 r2 q k => by
  unfold wInsert at q
  split at q
  · obtain ⟨ds, e, z, b1, b2, q⟩ := onL.out q
    obtain ⟨vs, h1, r⟩ := hr _ _ e
    obtain ⟨i', y, rfl, ri, ry⟩ := r2.two
    cases ri
    exact ⟨_, vs, _, y, relD_ref r1, rfl, h1, by rw [r.length]; exact z, b1, b2, k _ _ (up_lst hr h1 (((r.take _).append (.cons ry .nil)).append (r.drop _)) .non q)⟩
  · exact q.elim⟩
/-- l.index(x): the first place of an equal one -/
def ixOf (x : D) : List D → Option Nat
  | [] => none
  | d :: r => if d.eqv x then some 0 else (ixOf x r).map (· + 1)
theorem ixOf_some {x : D} : ∀ {ds : List D} {j : Nat}, ixOf x ds = some j → ∃ d, ds[j]? = some d ∧ d.eqv x = true ∧ ∀ m d', m < j → ds[m]? = some d' → d'.eqv x = false
  | [], _, h => by cases h
  | d :: r, j, h => by
    unfold ixOf at h
    split at h
    · cases h
      exact ⟨d, rfl, by assumption, fun m d' z => absurd z (Nat.not_lt_zero m)⟩
    · rename_i hn
      cases e : ixOf x r with
      | none => rw [e] at h; cases h
      | some i =>
        rw [e] at h
        cases h
        obtain ⟨d1, a, b, c⟩ := ixOf_some e
        refine ⟨d1, by simpa using a, b, fun m d' z q => ?_⟩
        cases m with
        | zero => simp at q; subst q; simpa using hn
        | succ m => exact c m d' (Nat.lt_of_succ_lt_succ z) (by simpa using q)
def wIndex : D → List D → Sto → KD → Prop := fun x xs S Q => match xs with
  | [y] => (rd 6 S x).ok 40 = true ∧ (rd 6 S y).ok 40 = true ∧ match rd 6 S x with | .fz ds => onS (ixOf (rd 6 S y) ds) fun j => Q (.int j) S | _ => False
  | _ => False
theorem dmt_index (hu : X.A.units + 65 < cLine) : DMt X "list.index" wIndex := ⟨_, mt_indexD hu, fun x xs dx ds H S Q R hr r1 r2 q k => by
  unfold wIndex at q
  split at q
  · obtain ⟨o1, o2, q⟩ := q
    obtain ⟨y, rfl, ry⟩ := r2.one
    obtain ⟨a1, a2, a3⟩ := rd_dp hr 6 r1 40 o1
    obtain ⟨b1, b2, b3⟩ := rd_dp hr 6 ry 40 o2
    split at q
    · rename_i es e
      rw [e] at a1 a2 a3
      rw [D.py] at a1 a2 a3
      obtain ⟨j, ej, q⟩ := onS.out q
      obtain ⟨d, h1, h2, h3⟩ := ixOf_some ej
      have lk : ∀ m : Nat, (D.pys es)[m]? = es[m]?.map D.py := fun m => by rw [pys_map, List.getElem?_map]
      cases a1 with
      | lst hs ha =>
        refine ⟨_, y, _, _, j, d.py, rfl, rfl, .lst hs ha, b1, shaped_of a2 a3 (by decide), shaped_of b2 b3 (by decide), by rw [lk, h1]; rfl, h2, fun m z' hm hz => ?_, k _ _ (.of (.refl _) hr (.int _) q)⟩
        rw [lk] at hz
        cases e' : es[m]? with
        | none => rw [e'] at hz; cases hz
        | some d' => rw [e'] at hz; cases hz; exact h3 m d' hm e'
    · exact q.elim
  · exact q.elim⟩

/-! ### isinstance -/
def tyOf : D → Sto → Option String
  | .non, _ => some "NoneType" | .bl _, _ => some "bool" | .int _, _ => some "int" | .str _, _ => some "str" | .tup _, _ => some "tuple" | .fz _, _ => some "list"
  | .ref a, S => match S a with | some (.lst _) => some "list" | _ => none
  | .ty _, _ => none | .wt _, _ => none
def wIsi : List D → Sto → KD → Prop := fun xs S Q => match xs with
  | [x, .ty T] => onS (tyOf x S) fun t => onS (kitB t T) fun b => Q (.bl b) S
  | _ => False
theorem FzAt.ty {a : Addr} {vs : List V} (h : FzAt K H a vs) : TyX K.fr H (.ref a) (.type "list") := by
  rcases h with ⟨o, h⟩ | ⟨o, its, n, h, c, _⟩
  · exact .base (.frz h)
  · exact .kList h c
theorem TupAt.ty {a : Addr} {vs : List V} (h : TupAt K H a vs) : TyX K.fr H (.ref a) (.type "tuple") := by
  rcases h with ⟨o, _, h⟩ | ⟨o, its, n, h, c, _⟩
  · exact .fTuple h
  · exact .kTuple h c
theorem tyOf.x {v : V} {d : D} {t : String} (hr : HR K H S) (r : RelD K H v d) (h : tyOf d S = some t) : TyX K.fr H v (.type t) := by
  cases r with
  | non => cases h; exact .base .non
  | bl b => cases h; exact .base (.bl b)
  | int i => cases h; exact .base (.int i)
  | str x _ => cases h; exact .base (.str x)
  | tup t _ => cases h; exact t.ty
  | fz t _ => cases h; exact t.ty
  | ty _ => cases h
  | wt _ _ => cases h
  | ref a =>
    simp only [tyOf] at h
    split at h
    · rename_i ds e
      cases h
      obtain ⟨vs, h1, _⟩ := hr a _ e
      exact .base (.lst h1)
    · cases h
theorem dcall_isi : DCall X (.builtin "isinstance") wIsi := .of call_isi fun xs H ds S Q R hr rd q k => by
  unfold wIsi at q
  split at q
  · obtain ⟨t, et, q⟩ := onS.out q
    obtain ⟨b, eb, q⟩ := onS.out q
    obtain ⟨x, c, rfl, rx, rc⟩ := rd.two
    cases rc
    exact ⟨x, _, _, _, b, rfl, .ty _, tyOf.x hr rx et, kit_ty eb, k _ _ (.of (.refl _) hr (.bl _) q)⟩
  · exact q.elim
/-- a built-in class as a value -/
theorem de_ty {x : Str} {n : String} (hg : Gl X x) (hm : X.mg x = none) (hv : bootBuiltins x = some (.type n)) (hn : x ≠ "__name__" := by decide) (hd : (x == ("__debug__" : Str)) = false := by decide) : DE X (.Name x pos) (dC (.ty n)) :=
  de_c (v := .ty n) (pe_bltn hg hm hv rfl hn hd) fun _ => .ty n
end
end DL

namespace DL
open PySem PySem.Spec PyProof.Rows L2

/-! ### comprehensions of any clauses -/
def emitOf (e : Expr) (acc : Value) (env : Env) : Sem Unit := match e with
  | .ListComp elt _ _ _ => do let _ ← call (.builtin "list.append") [acc, ← eval elt env]
  | .SetComp elt _ _ _ => do let v ← eval elt env; standAt elt.pos; let _ ← call (.builtin "set.add") [acc, v]
  | .DictComp k v _ _ _ => do
    let kv ← eval k env
    let vv ← holding [kv] (eval v env)
    match acc with
    | .ref d => do
      standAt { k.pos with endLine := v.pos.endLine, endCol := v.pos.endCol }
      holding [kv, vv] (dictSet d kv vv)
    | _ => unsupported "internal:dictcomp"
  | _ => unsupported "internal:not-a-comprehension"
def isLC : Expr → Bool
  | .ListComp .. => true | .SetComp .. => true | .DictComp .. => true | _ => false
abbrev testsIn (env : Env) (ifs : List Expr) : Sem Bool := forIn ifs true fun c r => if r = true then do let ok ← isTrue c env (eval c env); pure (ForInStep.yield ok) else pure (ForInStep.yield r)
theorem turn_last {e : Expr} {d : Nat} {it acc : Value} {env : Env} {tg iter : Expr} {ifs : List Expr} (h0 : isLC e = true) (h1 : (clausesOf e)[d]? = some ⟨tg, iter, ifs, 0⟩) (h2 : (clausesOf e)[d + 1]? = none) :
    compTurn e d it acc env = (do
      standAt iter.pos
      match ← pyNext it with
      | none => pure (.done .next)
      | some v =>
        letOwnedTupleGo tg it v
        assign tg env v
        let ok ← testsIn env ifs
        if ok then
          emitOf e acc env
          again (.compLoop e d it acc env)
        else again (.compLoop e d it acc env)) := by
  cases e <;> first
    | (cases h0; done)
    | (simp only [clausesOf] at h1 h2
       unfold compTurn
       simp only [h1, h2]
       rfl)
theorem turn_more {e : Expr} {d : Nat} {it acc : Value} {env : Env} {tg iter tg' iter' : Expr} {ifs ifs' : List Expr} (h0 : isLC e = true) (h1 : (clausesOf e)[d]? = some ⟨tg, iter, ifs, 0⟩) (h2 : (clausesOf e)[d + 1]? = some ⟨tg', iter', ifs', 0⟩) :
    compTurn e d it acc env = (do
      standAt iter.pos
      match ← pyNext it with
      | none => pure (.done .next)
      | some v =>
        letOwnedTupleGo tg it v
        assign tg env v
        let ok ← testsIn env ifs
        if ok then
          let x ← eval iter' env
          standAt iter'.pos
          let x ← foldedSetIterable iter' env x
          let _ ← runOwn (.compStart e (d + 1) (← holding [x] (pyIter x)) acc env) env
          again (.compLoop e d it acc env)
        else again (.compLoop e d it acc env)) := by
  cases e <;> first
    | (cases h0; done)
    | (simp only [clausesOf] at h1 h2
       unfold compTurn
       simp only [h1, h2]
       rfl)

/-! ### readings -/
def wipeD (τ : DSt) : List Nat → DSt
  | [] => τ
  | v :: vs => (wipeD τ vs).set v none
theorem StR.wipe {K : KW} {H : Hp} {σ : L2.St} {τ : DSt} (r : StR K H σ τ) : ∀ vs : List Nat, StR K H (L2.wipe σ vs) (wipeD τ vs)
  | [] => r
  | v :: vs => (StR.wipe r vs).setN v
abbrev DEmT := DSt → Sto → (Sto → Prop) → Prop
def loopC (g : DTG) (tt : DTT) (vs : List Nat) (inner : DEmT) (stab : Sto → Prop) : List D → DSt → Sto → (Sto → Prop) → Prop
  | [], _, S, k => stab S ∧ k S
  | d :: ds, τ, S, k => stab S ∧ g d τ S fun τ2 S2 => wipeD τ2 vs = τ ∧ tt τ2 S2 fun b S3 => if b = true then inner τ2 S3 fun S4 => loopC g tt vs inner stab ds τ S4 k else loopC g tt vs inner stab ds τ S3 k
abbrev ClT := DTI × DTG × DTT × List Nat
def compR : List ClT → DEmT → DEmT
  | [], em => em
  | (wi, g, tt, vs) :: rs, em => fun τ S k => wi τ S fun ds stab S1 => loopC g tt vs (compR rs em) stab ds τ S1 k
/-- a clause's tests -/
structure DTs (X : Cx) (ifs : List Expr) (t : DTT) : Prop where
  run : ∀ (pins : List (Addr × Obj)) (s : Shared) (σ : L2.St) (H : Hp) (τ : DSt) (S : Sto) (Q : Bool → Sto → Prop), Inv X pins σ H s → StR X.KW H σ τ → HR X.KW H S → t τ S Q →
    wpAny (model X.prog X.w) X.A (testsIn X.env ifs) (TP X pins σ (UpT X.KW H Q)) X.xe s
def dYes : DTT := fun _ S Q => Q true S
theorem dts_nil {X : Cx} : DTs X [] dYes := ⟨fun pins s σ H τ S Q I st hr q => wpAny_tests_nil ⟨H, I, .refl _, S, hr, q⟩⟩
theorem dts_one {X : Cx} {c : Expr} {t : DTT} (h : DT X c t) : DTs X [c] t := ⟨fun pins s σ H τ S Q I st hr q => wpAny_tests_one (h.run pins s σ H τ S Q I st hr q)⟩
/-- further clauses -/
inductive DCl (Y : Cx) : List Comprehension → List ClT → Prop
  | nil : DCl Y [] []
  | cons {tg iter ifs wi g tt vs gs rs} : DI Y tg iter wi → DG Y tg g → DTs Y ifs tt → (∀ env x, foldedSetIterable iter env x = pure x) → DCl Y gs rs → DCl Y (⟨tg, iter, ifs, 0⟩ :: gs) ((wi, g, tt, vs) :: rs)
structure DEm (Y : Cx) (emit : Sem Unit) (em : DEmT) : Prop where
  run : ∀ (pins : List (Addr × Obj)) (s : Shared) (σ : L2.St) (H : Hp) (τ : DSt) (S : Sto) (k : Sto → Prop), Inv Y pins σ H s → StR Y.KW H σ τ → HR Y.KW H S → em τ S k →
    wpAny (model Y.prog Y.w) Y.A emit (fun _ s' => ∃ H' S', Inv Y pins σ H' s' ∧ Ev H H' ∧ HR Y.KW H' S' ∧ k S') (fun _ _ => False) s

theorem thnN {α : Type} {t : Sem α} {Q Q' : α → Shared → Prop} {M : Model} {A : Around} {E : Value → Shared → Prop} {s : Shared} (h : wpAny M A t Q (fun _ _ => False) s) (hQ : ∀ a s, Q a s → Q' a s) : wpAny M A t Q' E s := wpAny_mono h hQ fun _ _ z => z.elim

/-- a further clause's start -/
theorem start_more {prog : Program} {w : World} {A : Around} {R : Result → Shared → Prop} {s : Shared} {e : Expr} {d : Nat} {g : Comprehension} {it acc : Value} {env : Env} (hlc : isLC e = true) (hg : (clausesOf e)[d]? = some g) (ha : g.is_async = 0)
    (h0 : codeAny (model prog w) A (.compLoop e d it acc env) R s)
    (h : wpAny (model prog w) A (pyIter it) (fun it' s' => codeAny (model prog w) A (.compLoop e d it' acc env) R s') (notedBy (model prog w) A env fun x s' => R (.error x) s') s) : codeAny (model prog w) A (.compStart e d it acc env) R s := by
  have hb : (g.is_async != 0) = false := by rw [ha]; rfl
  refine codeAny_of_tree ?_
  cases e
  case ListComp | SetComp | DictComp =>
    all_goals
      show wpAny _ A ((compStart _ d it acc env).onRaise (fun x => do noteFrame x env; standAt theWindowsPlace)) _ _ s
      refine wpAny_notedAt ?_
      unfold compStart
      rw [hg]
      simp only [Option.elim_some, hb, Bool.false_eq_true, if_false]
      refine wpAny_bind (wpAny_askSetting (wpAny_ite ?_))
      split
      · first
          | exact wpAny_bind (wpAny_pure (wpAny_pure (And.intro rfl h0)))
          | exact wpAny_pure (And.intro rfl h0)
      · first
          | exact wpAny_bind (wpAny_rule (wpAny_bind (wpAny_standAt (wpAny_bind (wpAny_mono h (fun it' s' h' => wpAny_pure (And.intro rfl h')) fun _ _ x => x)))))
          | (refine wpAny_bind (wpAny_rule ?_); show wpAny _ _ (standAt _ >>= _) _ _ s; exact wpAny_bind (wpAny_standAt (wpAny_bind (wpAny_mono h (fun it' s' h' => wpAny_pure (And.intro rfl h')) fun _ _ x => x))))
  all_goals cases hlc
/-- a turn of a clause's loop -/
theorem loop_turn {prog : Program} {w : World} {A : Around} {R : Result → Shared → Prop} {s : Shared} {e : Expr} {d : Nat} {it acc : Value} {env : Env} (hlc : isLC e = true) (I : Nat → Shared → Prop)
    (turn : ∀ n s, I n s → wpAny (model prog w) A (compTurn e d it acc env) (fun fin s' => match fin with | .done f => R (.ok f) s' | .again c' => c' = .compLoop e d it acc env ∧ ∃ m, m < n ∧ I m s') (notedBy (model prog w) A env fun x s' => R (.error x) s') s)
    (n : Nat) (h : I n s) : codeAny (model prog w) A (.compLoop e d it acc env) R s := by
  cases e
  case ListComp | SetComp | DictComp =>
    all_goals
      refine codeAny_loop rfl I (fun n s hI => ?_) n h
      show wpAny _ A ((compTurn _ d it acc env).onRaise (fun x => do noteFrame x env; theTreesLotGoes x)) _ _ s
      exact wpAny_noted (turn n s hI)
  all_goals cases hlc
theorem DG.runF {Y : Cx} {tg : Expr} {g : DTG} (h : DG Y tg g) (hxe : Y.xe = fun _ _ => False) {pins : List (Addr × Obj)} {s : Shared} {σ : L2.St} {H : Hp} {τ : DSt} {S : Sto} {v : V} {d : D} {u : Value} {Q : DSt → Sto → Prop} (I : Inv Y pins σ H s) (r : RelV v u) (rd : RelD Y.KW H v d) (st : StR Y.KW H σ τ) (hr : HR Y.KW H S) (q : g d τ S Q) :
    wpAny (model Y.prog Y.w) Y.A (assign tg Y.env u) (fun _ s' => ∃ σ' H', Inv Y pins σ' H' s' ∧ UpS Y.KW H Q σ' H') (fun _ _ => False) s := by
  have z := h.pg.run _ s σ H v u _ I r ⟨d, τ, S, Q, rd, st, hr, q, fun _ _ z => z⟩
  rw [hxe] at z
  exact thnN z fun _ s' ⟨σ', H', a, b⟩ => ⟨σ', H', a, b⟩
theorem DI.runF {Y : Cx} {tg iter : Expr} {wi : DTI} (h : DI Y tg iter wi) (hxe : Y.xe = fun _ _ => False) {pins : List (Addr × Obj)} {s : Shared} {σ : L2.St} {H : Hp} {τ : DSt} {S : Sto} {Rd : List D → (Sto → Prop) → Sto → Prop} (I : Inv Y pins σ H s) (st : StR Y.KW H σ τ) (hr : HR Y.KW H S) (q : wi τ S Rd) :
    wpAny (model Y.prog Y.w) Y.A (eval iter Y.env) (fun v s1 => wpAny (model Y.prog Y.w) Y.A (pyIter v) (fun itv s2 => ∃ (it : Addr) (fp : List Addr) (tn : Nat → Heap → Prop) (H' : Hp) (ds : List D) (stab : Sto → Prop) (S1 : Sto), itv = .ref it ∧ Inv Y pins σ H' s2 ∧ Ev H H' ∧ HR Y.KW H' S1 ∧
      Turn Y.prog Y.w Y.K tg (ItD Y.KW H' ds stab) fp it tn ∧ tn 0 s2.heap ∧ (∀ b ∈ fp, FpOk Y pins H' b) ∧ Rd ds stab S1) (fun _ _ => False) s1) (fun _ _ => False) s := by
  have z := h.pi.run pins s σ H (fun J H' => ∃ ds stab S1, J = ItD Y.KW H' ds stab ∧ Ev H H' ∧ HR Y.KW H' S1 ∧ Rd ds stab S1) I ⟨τ, S, Rd, st, hr, q, fun ds stab S1 H1 e hr' rd => ⟨ds, stab, S1, rfl, e, hr', rd⟩⟩
  rw [hxe] at z
  refine thnN z fun v s1 h1 => thnN h1 fun itv s2 hp => ?_
  obtain ⟨it, fp, tn, J, H', e, I', T, t0, f, ds, stab, S1, ej, ev, hr', rd⟩ := hp
  subst ej
  exact ⟨it, fp, tn, H', ds, stab, S1, e, I', ev, hr', T, t0, f, rd⟩
theorem DTs.runF {Y : Cx} {ifs : List Expr} {t : DTT} (h : DTs Y ifs t) (hxe : Y.xe = fun _ _ => False) {pins : List (Addr × Obj)} {s : Shared} {σ : L2.St} {H : Hp} {τ : DSt} {S : Sto} {Q : Bool → Sto → Prop} (I : Inv Y pins σ H s) (st : StR Y.KW H σ τ) (hr : HR Y.KW H S) (q : t τ S Q) :
    wpAny (model Y.prog Y.w) Y.A (testsIn Y.env ifs) (fun b s' => ∃ H', Inv Y pins σ H' s' ∧ UpT Y.KW H Q b H') (fun _ _ => False) s := by
  have z := h.run _ s σ H τ S Q I st hr q
  rw [hxe] at z
  exact z
/-- what a turn does with its item, the tests held -/
structure DRest (Y : Cx) (rest : Sem Fin) (c : Code) (em : DEmT) : Prop where
  run : ∀ (pins : List (Addr × Obj)) (s : Shared) (σ : L2.St) (H : Hp) (τ : DSt) (S : Sto) (k : Sto → Prop), Inv Y pins σ H s → StR Y.KW H σ τ → HR Y.KW H S → em τ S k →
    wpAny (model Y.prog Y.w) Y.A rest (fun r s' => r = .again c ∧ ∃ σ' H' S', Inv Y pins σ' H' s' ∧ Ev H H' ∧ StR Y.KW H' σ' τ ∧ HR Y.KW H' S' ∧ k S') (fun _ _ => False) s
theorem clause_loop {Y : Cx} {e : Expr} {acc : Value} {em : DEmT} {d : Nat} {tg iter : Expr} {ifs : List Expr} {g : DTG} {tt : DTT} {vs : List Nat} {rest : Sem Fin} {it : Addr} (hlc : isLC e = true) (hc : Y.calm = true) (hxe : Y.xe = fun _ _ => False)
    (ht : compTurn e d (.ref it) acc Y.env = (do
      standAt iter.pos
      match ← pyNext (.ref it) with
      | none => pure (.done .next)
      | some v =>
        letOwnedTupleGo tg (.ref it) v
        assign tg Y.env v
        let ok ← testsIn Y.env ifs
        if ok then rest
        else again (.compLoop e d (.ref it) acc Y.env)))
    (hg : DG Y tg g) (hts : DTs Y ifs tt) (hrest : DRest Y rest (.compLoop e d (.ref it) acc Y.env) em) :
      ∀ (pins : List (Addr × Obj)) (s : Shared) (σ : L2.St) (H : Hp) (τ : DSt) (S : Sto) (k : Sto → Prop) (H0 : Hp) (fp : List Addr) (tn : Nat → Heap → Prop) (ds : List D) (stab : Sto → Prop),
        Inv Y pins σ H s → Ev H0 H → StR Y.KW H σ τ → HR Y.KW H S → Turn Y.prog Y.w Y.K tg (ItD Y.KW H0 ds stab) fp it tn → tn 0 s.heap → (∀ b ∈ fp, FpOk Y pins H b) → loopC g tt vs em stab ds τ S k →
        codeAny (model Y.prog Y.w) Y.A (.compLoop e d (.ref it) acc Y.env) (fun r s' => r = .ok .next ∧ ∃ σ' H' S', Inv Y pins σ' H' s' ∧ Ev H H' ∧ StR Y.KW H' σ' τ ∧ HR Y.KW H' S' ∧ k S') s := by
  intro pins s σ H τ S k H0 fp tn ds stab I e0 st hr T t0 f q
  refine loop_turn hlc (fun n s' => ∃ i σ' H' S', n = ds.length - i ∧ i ≤ ds.length ∧ Inv Y pins σ' H' s' ∧ Ev H H' ∧ StR Y.KW H' σ' τ ∧ HR Y.KW H' S' ∧ tn i s'.heap ∧ (∀ b ∈ fp, H' b = none) ∧ loopC g tt vs em stab (ds.drop i) τ S' k) ?_ ds.length
    ⟨0, σ, H, S, by simp, Nat.zero_le _, I, .refl _, st, hr, t0, fun b hb => (f b hb).1, by simpa using q⟩
  rintro n s5 ⟨i, σ5, H5, S5, en, hi, I5, e5, st5, hr5, t5, n5, q5⟩
  have stat : ∀ {H' : Hp}, (∀ b ∈ fp, H' b = none) → ∀ b ∈ fp, FpOk Y pins H' b := fun hn b hb => ⟨hn b hb, (f b hb).2⟩
  rw [ht]
  refine wpAny_bind (wpAny_standAt (wpAny_bind ?_))
  by_cases hlt : i < ds.length
  · rw [List.drop_eq_getElem_cons hlt] at q5
    have ti := T.item Y rfl rfl rfl hc i pins s5 σ5 H5 (fun _ _ => False) I5 (stat n5) t5 ⟨e0.trans e5, ⟨S5, hr5, q5.1⟩, hlt⟩
    refine thnN ti fun r s6 ⟨u, hr, h6⟩ => ?_
    subst hr
    refine wpAny_bind (thnN h6 fun _ s7 ⟨x, H7, I7, r7, y7, t7, n7⟩ => ?_)
    obtain ⟨e57, k57, dd, hdd, rd⟩ := y7
    rw [List.getElem?_eq_getElem hlt] at hdd
    cases hdd
    have I7' := I7.pinned (stat n7) (T.obj _ _ t7)
    have q7 := q5.2
    refine wpAny_bind (thnN (hg.runF hxe I7' r7 rd (st5.ev e57) (k57 _ hr5) q7) fun _ s8 ⟨σ8, H8, I8, e78, τ8, S8, hr8, st8, hw8, q8⟩ => ?_)
    refine wpAny_bind (thnN (hts.runF hxe I8 st8 hr8 q8) fun b s9 ⟨H9, I9, e89, S9, hr9, q9⟩ => ?_)
    -- the turn's end
    have e59 : Ev H5 H9 := (e57.trans e78).trans e89
    have fin : ∀ {s' : Shared} {σ' : L2.St} {H' : Hp} {S' : Sto}, Inv Y (pins ++ pinsAt fp s7.heap) σ' H' s' → Ev H9 H' → StR Y.KW H' σ' τ8 → HR Y.KW H' S' → loopC g tt vs em stab (ds.drop (i + 1)) τ S' k →
        ∃ m, m < n ∧ ∃ i σ' H' S', m = ds.length - i ∧ i ≤ ds.length ∧ Inv Y pins σ' H' s' ∧ Ev H H' ∧ StR Y.KW H' σ' τ ∧ HR Y.KW H' S' ∧ tn i s'.heap ∧ (∀ b ∈ fp, H' b = none) ∧ loopC g tt vs em stab (ds.drop i) τ S' k := fun {s' σ' H' S'} I' e' st' hr' q' => by
      have pin' : ∀ b ∈ fp, ∀ o, s7.heap.get? b = some o → s'.heap.get? b = some o ∧ H' b = none := fun b hb o e =>
        let z := I'.pin (b, o) (List.mem_append_right _ (List.mem_append_right _ (mem_pinsAt hb e)))
        ⟨z.1, z.2.1⟩
      refine ⟨ds.length - (i + 1), by omega, i + 1, L2.wipe σ' vs, H', S', rfl, hlt, (I'.unpinned).weak (wipe_length ..) fun j v e => (wipe_some e).1, (e5.trans e59).trans e', ?_, hr', T.keep _ _ _ t7 fun b hb o e => (pin' b hb o e).1, fun b hb => ?_, q'⟩
      · have z := StR.wipe st' vs
        rw [hw8] at z
        exact z
      · obtain ⟨o, e, _⟩ := T.obj _ _ t7 b hb
        exact (pin' b hb o e).2
    cases b with
    | false =>
      simp only [Bool.false_eq_true, if_false] at q9 ⊢
      exact wpAny_pure ⟨rfl, fin I9 (.refl _) (st8.ev e89) hr9 q9⟩
    | true =>
      simp only [if_true] at q9 ⊢
      refine thnN (hrest.run _ s9 σ8 H9 τ8 S9 _ I9 (st8.ev e89) hr9 q9) fun r s10 ⟨er, σ', H', S', I', e', st', hr', q'⟩ => ?_
      subst er
      exact ⟨rfl, fin I' e' st' hr' q'⟩
  · have ei : i = ds.length := by omega
    subst ei
    rw [List.drop_length] at q5
    have td := T.done Y rfl rfl rfl hc ds.length pins s5 σ5 H5 (fun _ _ => False) I5 (stat n5) t5 ⟨e0.trans e5, ⟨S5, hr5, q5.1⟩, rfl⟩
    refine thnN td fun r s6 ⟨hr, I6⟩ => ?_
    subst hr
    exact wpAny_pure ⟨rfl, σ5, H5, S5, I6, e5, st5, hr5, q5.2⟩
theorem drop_at {α : Type} {l : List α} {d : Nat} {a : α} {r : List α} (h : l.drop d = a :: r) : l[d]? = some a ∧ l.drop (d + 1) = r := by
  have h1 : (l.drop d)[0]? = some a := by rw [h]; rfl
  rw [List.getElem?_drop] at h1
  refine ⟨by simpa using h1, ?_⟩
  have h2 : (l.drop d).drop 1 = r := by rw [h]; rfl
  rw [List.drop_drop] at h2
  simpa [Nat.add_comm] using h2
/-- THE LOOP of a clause and of those behind it -/
theorem comp_loop {Y : Cx} {e : Expr} {acc : Value} {em : DEmT} (hlc : isLC e = true) (hc : Y.calm = true) (hxe : Y.xe = fun _ _ => False) (hem : DEm Y (emitOf e acc Y.env) em) :
    ∀ (gs : List Comprehension) (rs : List ClT) (tg iter : Expr) (ifs : List Expr) (g : DTG) (tt : DTT) (vs : List Nat) (d : Nat), (clausesOf e).drop d = ⟨tg, iter, ifs, 0⟩ :: gs → DG Y tg g → DTs Y ifs tt → DCl Y gs rs →
      ∀ (pins : List (Addr × Obj)) (s : Shared) (σ : L2.St) (H : Hp) (τ : DSt) (S : Sto) (k : Sto → Prop) (H0 : Hp) (it : Addr) (fp : List Addr) (tn : Nat → Heap → Prop) (ds : List D) (stab : Sto → Prop),
        Inv Y pins σ H s → Ev H0 H → StR Y.KW H σ τ → HR Y.KW H S → Turn Y.prog Y.w Y.K tg (ItD Y.KW H0 ds stab) fp it tn → tn 0 s.heap → (∀ b ∈ fp, FpOk Y pins H b) → loopC g tt vs (compR rs em) stab ds τ S k →
        codeAny (model Y.prog Y.w) Y.A (.compLoop e d (.ref it) acc Y.env) (fun r s' => r = .ok .next ∧ ∃ σ' H' S', Inv Y pins σ' H' s' ∧ Ev H H' ∧ StR Y.KW H' σ' τ ∧ HR Y.KW H' S' ∧ k S') s := by
  intro gs
  induction gs with
  | nil =>
    intro rs tg iter ifs g tt vs d hd hg hts hcl pins s σ H τ S k H0 it fp tn ds stab I e0 st hr T t0 f q
    cases hcl
    obtain ⟨h1, h2⟩ := drop_at hd
    have h3 : (clausesOf e)[d + 1]? = none := by
      have z : ((clausesOf e).drop (d + 1))[0]? = none := by rw [h2]; rfl
      rw [List.getElem?_drop] at z
      simpa using z
    refine clause_loop hlc hc hxe (rest := do emitOf e acc Y.env; again (.compLoop e d (.ref it) acc Y.env)) (em := em) (turn_last hlc h1 h3) hg hts ⟨fun pins s σ H τ S k I st hr q => ?_⟩ pins s σ H τ S k H0 fp tn ds stab I e0 st hr T t0 f q
    exact wpAny_bind (thnN (hem.run pins s σ H τ S k I st hr q) fun _ s' ⟨H', S', I', e', hr', q'⟩ => wpAny_pure ⟨rfl, σ, H', S', I', e', st.ev e', hr', q'⟩)
  | cons g2 gs ih =>
    intro rs tg iter ifs g tt vs d hd hg hts hcl pins s σ H τ S k H0 it fp tn ds stab I e0 st hr T t0 f q
    cases hcl with
    | @cons tg' iter' ifs' wi' g' tt' vs' _ rs' hi' hg' ht' hf' hcl' =>
    obtain ⟨h1, h2⟩ := drop_at hd
    obtain ⟨h3, _⟩ := drop_at h2
    refine clause_loop hlc hc hxe (em := compR ((wi', g', tt', vs') :: rs') em) (turn_more hlc h1 h3) hg hts ⟨fun pins s σ H τ S k I st hr q => ?_⟩ pins s σ H τ S k H0 fp tn ds stab I e0 st hr T t0 f q
    refine wpAny_bind (thnN (hi'.runF hxe I st hr (Rd := fun ds stab S1 => loopC g' tt' vs' (compR rs' em) stab ds τ S1 k) q) fun v s1 h1 => ?_)
    refine wpAny_bind (wpAny_standAt (wpAny_bind (wpAny_of_eq (hf' _ _) ?_)))
    refine wpAny_bind (wpAny_holding (thnN h1 fun itv s2 ⟨it2, fp2, tn2, H2, ds2, stab2, S2, ei, I2, ev2, hr2, T2, t2, f2, q2⟩ => ?_))
    subst ei
    have st2 := st.ev ev2
    have loop := ih rs' tg' iter' ifs' g' tt' vs' (d + 1) h2 hg' ht' hcl' pins s2 σ H2 τ S2 k H2 it2 fp2 tn2 ds2 stab2 I2 (.refl _) st2 hr2 T2 t2 f2 q2
    refine wpAny_bind (wpAny_runOwn (h := none) ?_ (by intro x; cases x))
    rw [Around.mark_none]
    have R2 : codeAny (model Y.prog Y.w) Y.A (.compLoop e (d + 1) (.ref it2) acc Y.env) (fun r s' => match r with | .ok f => wpAny (model Y.prog Y.w) Y.A (do let _ ← pure f; again (.compLoop e d (.ref it) acc Y.env)) (fun r s' => r = .again (.compLoop e d (.ref it) acc Y.env) ∧ ∃ σ' H' S', Inv Y pins σ' H' s' ∧ Ev H H' ∧ StR Y.KW H' σ' τ ∧ HR Y.KW H' S' ∧ k S') (fun _ _ => False) s' | .error e => cameBackBy (model Y.prog Y.w) Y.A Y.env (fun _ _ => False) e s') s2 := by
      refine codeAny_mono loop ?_
      rintro r s' ⟨rfl, σ', H', S', I', e', st', hr', q'⟩
      exact wpAny_bind (wpAny_pure (wpAny_pure ⟨rfl, σ', H', S', I', ev2.trans e', st', hr', q'⟩))
    exact start_more hlc h3 rfl R2 (T2.self _ 0 _ _ _ t2 R2)
end DL

namespace DL
open PySem PySem.Spec PyProof.Rows L2

/-! ### a whole comprehension -/
/-- what is asked in the block -/
structure CompB (Y : Cx) (e tg : Expr) (ifs : List Expr) (gs : List Comprehension) (g : DTG) (tt : DTT) (rs : List ClT) (em : Addr → DEmT) : Prop where
  tgt : DG Y tg g
  tst : DTs Y ifs tt
  cls : DCl Y gs rs
  emit : ∀ D, DEm Y (emitOf e (.ref D) Y.env) (em D)
abbrev BlkAll (X : Cx) (scope : Scope) (φ : Cx → Prop) : Prop := ∀ (s : Shared) (H : Hp) (C : Addr) (cl : List (Str × Addr)) (fp : List Addr), φ (X.blk s H scope (compEnvC scope cl C X.env) fp)
/-- the new thing that a comprehension fills -/
structure NewAcc (X : Cx) (newAcc : Sem Value) (ob : Obj) (o : HO) (ao : AO) : Prop where
  lay : ∀ (s : Shared) (E : Value → Shared → Prop) (Q : Value → Shared → Prop), Q (.ref s.heap.objs.size) { s with heap := s.heap.push ob } → wpAny (model X.prog X.w) X.A newAcc Q E s
  ok : ∀ (h : Heap) (H : Hp), sysModules < h.objs.size → ObjOk X.prog X.w (upd H h.objs.size o) (h.push ob) h.objs.size o
  rel : ∀ (H : Hp) (D : Addr), OkO X.KW (upd H D o) D ao
  st : stays o = false
theorem HR.newO {K : KW} {H : Hp} {S : Sto} {D : Addr} {o : HO} {ao : AO} (h : HR K H S) (n : H D = none) (r : OkO K (upd H D o) D ao) : HR K (upd H D o) (put S D ao) := fun a u e => by
  by_cases ha : a = D
  · subst ha; rw [put_same] at e; cases e; exact r
  · rw [put_ne ha] at e; exact (h.new n) a u e
def dComp (wi : DTI) (g : DTG) (tt : DTT) (vs all : List Nat) (rs : List ClT) (em : Addr → DEmT) (ao : AO) : DTE := fun τ S Q => wi τ S fun ds stab S1 => ∀ D, S1 D = none → loopC g tt vs (compR rs (em D)) stab ds (wipeD τ all) (put S1 D ao) (fun S2 => Q (.ref D) S2)
section
variable {X : Cx}
theorem comp_core {pins : List (Addr × Obj)} {s : Shared} {σ : L2.St} {H : Hp} {τ : DSt} {S : Sto} {Q : D → Sto → Prop} {e tg iter : Expr} {ifs : List Expr} {gs : List Comprehension} {scope : Scope} {own : List (Str × Nat)} {pos' : Pos} {wi : DTI} {g : DTG} {tt : DTT} {vs : List Nat} {rs : List ClT} {em : Addr → DEmT} {newAcc : Sem Value} {ob : Obj} {o : HO} {ao : AO}
    {use : Option (Value → Sem Unit)} {Qf : Value → Shared → Prop}
    (hlc : isLC e = true) (hcl : clausesOf e = ⟨tg, iter, ifs, 0⟩ :: gs) (hc : X.calm = true) (hN : X.N.Nodup) (I : Inv X pins σ H s) (st : StR X.KW H σ τ) (hr : HR X.KW H S) (hi : DI X tg iter wi) (ok : BlkOk X.N X.env.scope scope own)
    (hb : BlkAll X scope fun Y => CompB Y e tg ifs gs g tt rs em) (na : NewAcc X newAcc ob o ao) (hs : ∀ x, foldedSetIterable iter X.env x = pure x)
    (h : dComp wi g tt vs (own.map (·.2)) rs em ao τ S Q)
    (hRR : ∀ D C s' m H' S', Inv X pins σ H' s' → Ev H H' → HR X.KW H' S' → Q (.ref D) S' → s'.heap.Ns C m → FpOk X pins H' C → compPost (model X.prog X.w) X.A X.xe use Qf (.ref D) C (.ok .next) s') :
    wpAny (model X.prog X.w) X.A (comprehension e scope X.env pos' newAcc false (eval iter X.env) use) Qf X.xe s := by
  have hfree : ∀ y ∈ scope.names, y.2 = .free → ∃ c, X.env.cells.lookup y.1 = some c := fun y hy e => (ok.free y hy e).elim (fun k => I.ok.has _ (.inl k)) fun k => I.ok.has _ (.inr k)
  refine wpAny_comprehension_free (use := use) hcl hs (closure_ok hfree) ok.kind (fun y hy e => by rw [ok.uniq y hy, e]) ?_
  refine thn (hi.pi.run pins s σ H (fun J H' => ∃ ds stab S1, J = ItD X.KW H' ds stab ∧ Ev H H' ∧ HR X.KW H' S1 ∧ ∀ D, S1 D = none → loopC g tt vs (compR rs (em D)) stab ds (wipeD τ (own.map (·.2))) (put S1 D ao) (fun S2 => Q (.ref D) S2)) I
    ⟨τ, S, _, st, hr, h, fun ds stab S1 H1 e1 hr1 rd => ⟨ds, stab, S1, rfl, e1, hr1, rd⟩⟩) fun xv s1 hx => thn hx fun itv s2 h2 => ?_
  obtain ⟨it, fp, tn, J, H2, ei, I2, T, t2, f2, ds, stab, S2, ej, ev2, hr2, q⟩ := h2
  subst ei
  subst ej
  refine na.lay _ _ _ (newEnv_comp ?_)
  generalize hD : s2.heap.objs.size = D
  have hDn : H2 D = none := I2.hok.fresh (Nat.le_of_eq hD)
  have hSn : S2 D = none := hr2.free hDn
  have q := q D hSn
  -- the new thing
  generalize hs3 : ({ s2 with heap := s2.heap.push ob } : Shared) = s3
  have I3 : Inv X pins σ (upd H2 D o) s3 := by
    rw [← hs3, ← hD]
    exact I2.laid (t' := s2.toks) (fun b _ e => Heap.get?_push_of_some _ e) (Nat.le_refl _) (na.ok _ _ I2.big)
  have h3 : s3.heap = s2.heap.push ob := by rw [← hs3]
  have hr3 : HR X.KW (upd H2 D o) (put S2 D ao) := hr2.newO hDn (na.rel _ _)
  have ev3 : Ev H2 (upd H2 D o) := .new hDn
  have f3 : ∀ b ∈ fp, FpOk X pins (upd H2 D o) b ∧ b < s3.heap.objs.size := fun b hb => by
    obtain ⟨ob', eb, _⟩ := T.obj _ _ t2 b hb
    have hlt := Heap.lt_size eb
    refine ⟨⟨?_, (f2 b hb).2⟩, by rw [h3, Heap.size_push]; exact Nat.lt_succ_of_lt hlt⟩
    rw [upd_ne (by rw [← hD]; exact Nat.ne_of_lt hlt)]
    exact (f2 b hb).1
  have t3 : tn 0 s3.heap := T.keep _ _ _ t2 fun b _ _ e => by rw [h3]; exact Heap.get?_push_of_some _ e
  have I4 := block_start I3 ok hN f3
  have B := hb s3 (upd H2 D o) s3.heap.objs.size (cellsFrom (s3.heap.objs.size + 1) scope.names (cloFrom X.env.cells scope.names [])) fp
  show codeAny _ _ (.compStart e 0 (.ref it) (.ref D) (compEnvC scope (cellsFrom (s3.heap.objs.size + 1) scope.names (cloFrom X.env.cells scope.names [])) s3.heap.objs.size X.env)) (compPost (model X.prog X.w) X.A X.xe use Qf (.ref D) s3.heap.objs.size) { s3 with heap := pushCells (s3.heap.push { cls := .type "dict", data := .dict #[] }) scope.names }
  generalize hce : compEnvC scope (cellsFrom (s3.heap.objs.size + 1) scope.names (cloFrom X.env.cells scope.names [])) s3.heap.objs.size X.env = ce at I4 B ⊢
  have cL : ce.locals = s3.heap.objs.size := by subst hce; rfl
  have nfp : ∀ b ∈ fp, (upd H2 D o) b = none := fun b hb => (f3 b hb).1.1
  generalize hH3 : upd H2 D o = H3 at I3 I4 B nfp f3 hr3 ev3
  generalize hs4 : ({ s3 with heap := pushCells (s3.heap.push { cls := .type "dict", data := .dict #[] }) scope.names } : Shared) = s4 at I4 ⊢
  have t4 : tn 0 s4.heap := T.keep _ _ _ t3 fun b _ _ e => by rw [← hs4]; exact pushCells_keeps _ _ _ _ (Heap.get?_push_of_some _ e)
  have f4 : ∀ b ∈ fp, FpOk (X.blk s3 H3 scope ce fp) [] H3 b := fun b hb => ⟨nfp b hb, (I4.ok.exf b hb).1, I4.ok.exfs b hb, .inl hb, fun x c e => (I4.ok.exf b hb).2 x c e, fun p hp => absurd (show p ∈ ([] : List (Addr × Obj)) ++ [] from hp) (by simp)⟩
  have st4 : StR X.KW H3 (L2.wipe σ (own.map (·.2))) (wipeD τ (own.map (·.2))) := StR.wipe (st.ev (ev2.trans ev3)) _
  have loop := comp_loop (Y := X.blk s3 H3 scope ce fp) (e := e) (acc := .ref D) (em := em D) hlc hc rfl (B.emit D) gs rs tg iter ifs g tt vs 0 (by rw [hcl]; rfl) B.tgt B.tst B.cls [] s4 _ H3 _ _ _ H2 it fp tn ds stab I4 ev3 st4 hr3 T t4 f4 q
  have loop' : codeAny (model X.prog X.w) X.A (.compLoop e 0 (.ref it) (.ref D) ce) (compPost (model X.prog X.w) X.A X.xe use Qf (.ref D) s3.heap.objs.size) s4 := by
    refine codeAny_mono loop ?_
    rintro r s6 ⟨rfl, σ6, H6, S6, I6, e6, st6, hr6, q6⟩
    have I7 : Inv X pins σ H6 s6 := I3.call' (ch := fp) I6.os I6.base I6.hok I6.bare fun b hb => ⟨(f3 b hb).1.2.2.2.1, (f3 b hb).1.2.1, (f3 b hb).1.2.2.2.2.1, (f3 b hb).1.2.2.2.2.2⟩
    have nC : H6 s3.heap.objs.size = none := by
      have z : H6 ce.locals = none := I6.free
      rw [cL] at z
      exact z
    obtain ⟨m, hn, _⟩ := I6.loc
    have hn : s6.heap.Ns ce.locals m := hn
    rw [cL] at hn
    exact hRR D s3.heap.objs.size s6 m H6 S6 I7 ((ev2.trans ev3).trans e6) hr6 q6 hn (I3.fpOk (Nat.le_refl _) nC)
  exact start_more hlc (by rw [hcl]; rfl) rfl loop' (T.self X.A 0 _ _ _ t4 loop')
/-- as a value -/
theorem comp_val {e tg iter : Expr} {ifs : List Expr} {gs : List Comprehension} {scope : Scope} {own : List (Str × Nat)} {pos' : Pos} {wi : DTI} {g : DTG} {tt : DTT} {vs : List Nat} {rs : List ClT} {em : Addr → DEmT} {newAcc : Sem Value} {ob : Obj} {o : HO} {ao : AO}
    (he : eval e X.env = comprehension e scope X.env pos' newAcc false (eval iter X.env) none)
    (hlc : isLC e = true) (hcl : clausesOf e = ⟨tg, iter, ifs, 0⟩ :: gs) (hc : X.calm = true) (hN : X.N.Nodup) (hi : DI X tg iter wi) (ok : BlkOk X.N X.env.scope scope own)
    (hb : BlkAll X scope fun Y => CompB Y e tg ifs gs g tt rs em) (na : NewAcc X newAcc ob o ao) (hs : ∀ x, foldedSetIterable iter X.env x = pure x) : DE X e (dComp wi g tt vs (own.map (·.2)) rs em ao) := by
  refine ⟨fun pins s σ H τ S Q I st hr h => ?_⟩
  rw [he]
  refine comp_core hlc hcl hc hN I st hr hi ok hb na hs h fun D C s' m H' S' I' e' hr' q hn f => ⟨m, hn, fun h'' sb => ?_⟩
  obtain ⟨f0, f1, f2, f3, f4, f5⟩ := f
  exact ⟨.ref D, H', I'.turned (t' := s'.toks) (fun b _ hb e => (sb.2 b hb).trans e) f0 f1 f3 f4 f5, rfl, .of e' hr' (.ref D) q⟩
def emLst (te : DTE) (D : Addr) : DEmT := fun τ S k => te τ S fun y S1 => onL S1 D fun acc => acc.length < sizeLine ∧ k (put S1 D (.lst (acc ++ [y])))
theorem em_lst {Y : Cx} {elt : Expr} {gs : List Comprehension} {scope : Scope} {pos : Pos} {te : DTE} (hxe : Y.xe = fun _ _ => False) (he : DE Y elt te) (D : Addr) : DEm Y (emitOf (.ListComp elt gs scope pos) (.ref D) Y.env) (emLst te D) := by
  refine ⟨fun pins s σ H τ S k I st hr q => ?_⟩
  have z := he.run pins s σ H τ S _ I st hr q
  rw [hxe] at z
  show wpAny _ _ (do let v ← eval elt Y.env; let _ ← call (.builtin "list.append") [.ref D, v]) _ _ s
  refine wpAny_bind (thnN z fun u s1 ⟨v, H1, I1, r1, e1, d, S1, hr1, rd, q1⟩ => ?_)
  obtain ⟨acc, e, z, q1⟩ := onL.out q1
  obtain ⟨vs, h1, rv⟩ := hr1 _ _ e
  refine wpAny_bind (app_ok I1 h1 (by rw [rv.length]; exact z) r1 fun s2 I2 => wpAny_pure ⟨_, put S1 D (.lst (acc ++ [d])), I2, e1.trans (.upd h1 rfl), ?_, q1⟩)
  have e2 : Ev H1 (upd H1 D (.lst (vs ++ [v]))) := .upd h1 rfl
  exact hr1.chg h1 rfl ⟨_, upd_same, (rv.append (.cons rd .nil)).ev e2⟩
theorem na_lst : NewAcc X (newList []) { cls := .type "list", data := .seq ([] : List Value).toArray } (.lst []) (.lst []) where
  lay := fun s E Q q => wpAny_newObj_type q (by show 0 ≤ sizeLine; decide)
  ok := fun h H _ => ⟨Nat.zero_le _, [], 0, .nil, Heap.get?_push_size _ rfl⟩
  rel := fun H D => ⟨[], upd_same, .nil⟩
  st := rfl
def dLC (wi : DTI) (g : DTG) (tt : DTT) (vs all : List Nat) (rs : List ClT) (te : DTE) : DTE := dComp wi g tt vs all rs (emLst te) (.lst [])
theorem de_lc {elt tg iter : Expr} {ifs : List Expr} {gs : List Comprehension} {scope : Scope} {own : List (Str × Nat)} {pos : Pos} {wi : DTI} {g : DTG} {tt : DTT} {te : DTE} {vs : List Nat} {rs : List ClT}
    (hc : X.calm = true) (hN : X.N.Nodup) (hi : DI X tg iter wi) (ok : BlkOk X.N X.env.scope scope own)
    (hb : BlkAll X scope fun Y => DG Y tg g ∧ DTs Y ifs tt ∧ DCl Y gs rs ∧ DE Y elt te) (hs : ∀ x, foldedSetIterable iter X.env x = pure x := by intro _; rfl) :
    DE X (.ListComp elt (⟨tg, iter, ifs, 0⟩ :: gs) scope pos) (dLC wi g tt vs (own.map (·.2)) rs te) :=
  comp_val (pos' := firstIterPos (⟨tg, iter, ifs, 0⟩ :: gs) pos) rfl rfl rfl hc hN hi ok (fun s H C cl fp => let ⟨a, b, c, d⟩ := hb s H C cl fp; ⟨a, b, c, fun D => em_lst rfl d D⟩) na_lst hs
/-- name = [..] on one line, the name a local -/
theorem comp_asg {i : Nat} {y : Str} {py spos : Pos} {e tg iter : Expr} {ifs : List Expr} {gs : List Comprehension} {scope : Scope} {own : List (Str × Nat)} {pos' : Pos} {wi : DTI} {g : DTG} {tt : DTT} {vs : List Nat} {rs : List ClT} {em : Addr → DEmT} {newAcc : Sem Value} {ob : Obj} {o : HO} {ao : AO}
    (hy : X.N[i]? = some y) (hyl : X.env.scope.names.lookup y = some .local)
    (he : exec (.Assign [.Name y py] e spos) X.env = (do
      standAt spos
      evalThenUse e X.env (assign (.Name y py) X.env)
      pure .next))
    (hev : evalThenUse e X.env (assign (.Name y py) X.env) = (do let _ ← comprehension e scope X.env pos' newAcc false (eval iter X.env) (some (assign (.Name y py) X.env))))
    (hlc : isLC e = true) (hcl : clausesOf e = ⟨tg, iter, ifs, 0⟩ :: gs) (hc : X.calm = true) (hN : X.N.Nodup) (hi : DI X tg iter wi) (ok : BlkOk X.N X.env.scope scope own)
    (hb : BlkAll X scope fun Y => CompB Y e tg ifs gs g tt rs em) (na : NewAcc X newAcc ob o ao) (hs : ∀ x, foldedSetIterable iter X.env x = pure x) : DSm X (.Assign [.Name y py] e spos) (dAsg (dComp wi g tt vs (own.map (·.2)) rs em ao) (gdName i)) := by
  refine ⟨fun pins s σ H τ S Dn I st hr h => ?_⟩
  rw [he]
  refine wpAny_bind (wpAny_standAt (wpAny_bind ?_))
  rw [hev]
  have h : dComp wi g tt vs (own.map (·.2)) rs em ao τ S (fun x S1 => gdName i x τ S1 Dn.nx) := h
  refine wpAny_bind (thn (comp_core (Qf := fun _ s' => SP X pins (UpE X.KW H Dn) .next s') hlc hcl hc hN I st hr hi ok hb na hs h fun L C s' m H' S' I' e' hr' q hn f => ?_) fun _ s' hq => wpAny_pure (wpAny_pure hq))
  show wpAny _ _ (assign (.Name y py) X.env (.ref L)) _ _ _
  refine wpAny_assign_Name (store_ok2 (v := V.ref L) I' hN hy (.inl hyl) rfl (fun s2 I2 ⟨a, sb, ha⟩ => ?_) (.inr hyl))
  obtain ⟨f0, f1, f2, f3, f4, f5⟩ := f
  have haC : C ≠ a := by
    rcases ha with z | z
    · rw [z]; exact f1
    · exact fun e => f4 y a z e.symm
  refine ⟨m, hn.sameBut sb haC, fun h3 sb3 => ?_⟩
  exact ⟨_, H', I2.turned (t' := s2.toks) (fun b _ hb e => (sb3.2 b hb).trans e) f0 f1 f3 f4 f5, e', _, S', hr', (st.ev e').set (.ref L) i, q⟩
theorem ds_lc {i : Nat} {y : Str} {py spos : Pos} {elt tg iter : Expr} {ifs : List Expr} {gs : List Comprehension} {scope : Scope} {own : List (Str × Nat)} {pos : Pos} {wi : DTI} {g : DTG} {tt : DTT} {te : DTE} {vs : List Nat} {rs : List ClT}
    (hc : X.calm = true) (hN : X.N.Nodup) (hy : X.N[i]? = some y) (hyl : X.env.scope.names.lookup y = some .local) (hsw : swapsWith (.ListComp elt (⟨tg, iter, ifs, 0⟩ :: gs) scope pos) (some (.Name y py)) spos.line X.env = pure true)
    (hi : DI X tg iter wi) (ok : BlkOk X.N X.env.scope scope own)
    (hb : BlkAll X scope fun Y => DG Y tg g ∧ DTs Y ifs tt ∧ DCl Y gs rs ∧ DE Y elt te) (hs : ∀ x, foldedSetIterable iter X.env x = pure x := by intro _; rfl) :
    DSm X (.Assign [.Name y py] (.ListComp elt (⟨tg, iter, ifs, 0⟩ :: gs) scope pos) spos) (dAsg (dLC wi g tt vs (own.map (·.2)) rs te) (gdName i)) :=
  comp_asg (pos' := firstIterPos (⟨tg, iter, ifs, 0⟩ :: gs) pos) hy hyl (exec_Assign_Name_used _ _ _ _ hsw) rfl rfl rfl hc hN hi ok (fun s H C cl fp => let ⟨a, b, c, d⟩ := hb s H C cl fp; ⟨a, b, c, fun D => em_lst rfl d D⟩) na_lst hs
end
end DL

namespace DL
open PySem PySem.Spec PyProof.Rows L2

/-! ### what is walked -/
section
variable {X : Cx} {tg : Expr} {pins : List (Addr × Obj)} {σ : L2.St} {H : Hp} {s : Shared} {E : Value → Shared → Prop} {K : KW}
/-- an iterator over ds has come -/
def ItP (X : Cx) (pins : List (Addr × Obj)) (σ : L2.St) (tg : Expr) (H : Hp) (ds : List D) (stab : Sto → Prop) (itv : Value) (s2 : Shared) : Prop :=
  ∃ (it : Addr) (fp : List Addr) (tn : Nat → Heap → Prop), itv = .ref it ∧ Inv X pins σ H s2 ∧ Turn X.prog X.w X.K tg (ItD X.KW H ds stab) fp it tn ∧ tn 0 s2.heap ∧ ∀ b ∈ fp, FpOk X pins H b
theorem itP_one {tk : Nat} {ds : List D} {stab : Sto → Prop} {tn : Nat → Heap → Prop} (I : Inv X pins σ H s) (o : Obj) (T : Turn X.prog X.w X.K tg (ItD X.KW H ds stab) [s.heap.objs.size] s.heap.objs.size tn) (st : tn 0 (s.heap.push o)) :
    ItP X pins σ tg H ds stab (.ref s.heap.objs.size) { s with heap := s.heap.push o, toks := tk } := by
  refine ⟨s.heap.objs.size, [s.heap.objs.size], tn, rfl, I.kept fun b ob e => Heap.get?_push_of_some _ e, T, st, fun b hb => ?_⟩
  have e : b = s.heap.objs.size := by simpa using hb
  subst e
  exact I.fpOk (Nat.le_refl _) (I.hok.fresh (Nat.le_refl _))
/-- a turn over a list, told as one over the items -/
theorem turnD_list {P : Program} {w : World} {a it : Addr} {ds : List D} {stab : Sto → Prop} (hs : ∀ H' S, Ev H H' → HR K H' S → stab S → ∃ vs, SqL K.fr H' a vs ∧ RelDs K H' vs ds) : Turn P w K.fr tg (ItD K H ds stab) [it] it (fun i h => h.IsListIter it a i) := by
  refine Turn.imp (turn_list a it) (fun i H' ⟨e, ⟨S, hr, z⟩, hi⟩ => ?_) (fun i H' x H2 ⟨e, ⟨S, hr, z⟩, hi⟩ ⟨e2, y⟩ => ?_) fun i H' ⟨e, ⟨S, hr, z⟩, hi⟩ => ?_
  · obtain ⟨vs, q, r⟩ := hs H' S e hr z
    obtain ⟨v, h1, _⟩ := r.get (List.getElem?_eq_getElem hi)
    exact ⟨vs, v, q, h1⟩
  · subst e2
    obtain ⟨vs, q, r⟩ := hs _ S e hr z
    obtain ⟨v, h1, h2⟩ := r.get (List.getElem?_eq_getElem hi)
    have := y vs q
    rw [this] at h1; cases h1
    exact ⟨.refl _, fun _ h => h, _, List.getElem?_eq_getElem hi, h2⟩
  · obtain ⟨vs, q, r⟩ := hs H' S e hr z
    exact ⟨vs, q, by rw [r.length]; omega⟩
theorem turnD_tup {P : Program} {w : World} {a it : Addr} {ds : List D} {stab : Sto → Prop} (hs : ∀ H', Ev H H' → ∃ vs, SqT K.fr H' a vs ∧ RelDs K H' vs ds) : Turn P w K.fr tg (ItD K H ds stab) [it] it (fun i h => h.IsTupleIter it a i) := by
  refine Turn.imp (turn_tuple a it) (fun i H' ⟨e, _, hi⟩ => ?_) (fun i H' x H2 ⟨e, _, hi⟩ ⟨e2, y⟩ => ?_) fun i H' ⟨e, _, hi⟩ => ?_
  · obtain ⟨vs, q, r⟩ := hs H' e
    obtain ⟨v, h1, _⟩ := r.get (List.getElem?_eq_getElem hi)
    exact ⟨vs, v, q, h1⟩
  · subst e2
    obtain ⟨vs, q, r⟩ := hs _ e
    obtain ⟨v, h1, h2⟩ := r.get (List.getElem?_eq_getElem hi)
    have := y vs q
    rw [this] at h1; cases h1
    exact ⟨.refl _, fun _ h => h, _, List.getElem?_eq_getElem hi, h2⟩
  · obtain ⟨vs, q, r⟩ := hs H' e
    exact ⟨vs, q, by rw [r.length]; omega⟩
theorem turnD_str {P : Program} {w : World} {it : Addr} {x : Str} {t : Tok} {ty : String} {stab : Sto → Prop} (hx : PyData.strOk x = true) (hty : ty = "str_ascii_iterator" ∨ ty = "str_iterator") :
    Turn P w K.fr tg (ItD K H (x.cps.toList.map fun c => D.str ⟨#[c]⟩) stab) [it] it (fun i h => h.IsStrIter it ty x t i) := by
  refine Turn.imp (turn_str it x t ty hty) (fun i H' ⟨e, _, hi⟩ => by show i < x.cps.size; simpa using hi) (fun i H' y H2 ⟨e, _, hi⟩ ⟨e2, c, hc, ey⟩ => ?_) fun i H' ⟨e, _, hi⟩ => by show x.cps.size ≤ i; simp at hi; exact Nat.le_of_eq hi.symm
  subst e2 ey
  refine ⟨.refl _, fun _ h => h, .str ⟨#[c]⟩, by simp [hc], .str _ ?_⟩
  have hm : c ∈ x.cps := Array.mem_of_getElem? hc
  unfold PyData.strOk at hx ⊢
  have := Array.all_eq_true_iff_forall_mem.mp hx c hm
  simpa using this
abbrev WIt := D → Sto → (List D → (Sto → Prop) → Sto → Prop) → Prop
/-- a list, a tuple, a text walked -/
def wIter : WIt := fun d S R => match d with
  | .tup ds => R ds (fun _ => True) S
  | .fz ds => R ds (fun _ => True) S
  | .str x => R (x.cps.toList.map fun c => D.str ⟨#[c]⟩) (fun _ => True) S
  | .ref a => onL S a fun ds => R ds (fun S' => S' a = some (.lst ds)) S
  | _ => False
theorem iter_seq {v : V} {u : Value} {d : D} {S : Sto} {R : List D → (Sto → Prop) → Sto → Prop} (I : Inv X pins σ H s) (rv : RelV v u) (rd : RelD X.KW H v d) (hr : HR X.KW H S) (w : wIter d S R) :
    wpAny (model X.prog X.w) X.A (pyIter u) (fun itv s2 => ∃ ds stab, ItP X pins σ tg H ds stab itv s2 ∧ R ds stab S) E s := by
  cases rd with
  | tup t r =>
    cases rv
    obtain ⟨its, rv, p, hz⟩ := I.tuple t.sq
    exact wpAny_pyIter_tuple (show s.heap.IsTuple _ its.toArray from p) ⟨_, _, itP_one (tk := s.toks) I _ (turnD_tup (K := X.KW) fun H' e => ⟨_, (t.ev e).sq, r.ev e⟩) ⟨_, Heap.get?_push_size _ rfl, rfl, rfl⟩, w⟩
  | fz t r =>
    cases rv
    obtain ⟨its, rv, p, hz⟩ := I.list t.sq
    exact wpAny_pyIter_list p.isList ⟨_, _, itP_one (tk := s.toks) I _ (turnD_list (K := X.KW) fun H' S' e _ _ => ⟨_, (t.ev e).sq, r.ev e⟩) ⟨_, Heap.get?_push_size _ rfl, rfl, rfl⟩, w⟩
  | ref a =>
    cases rv
    obtain ⟨ds, e, w⟩ := onL.out w
    obtain ⟨vs, h1, r⟩ := hr a _ e
    obtain ⟨its, rv, p, hz⟩ := I.list (SqL.of h1)
    exact wpAny_pyIter_list p.isList ⟨_, _, itP_one (tk := s.toks) I _ (turnD_list (K := X.KW) fun H' S' _ hr' (z : S' a = some (.lst ds)) => let ⟨vs', h', r'⟩ := hr' a _ z; ⟨vs', SqL.of h', r'⟩) ⟨_, Heap.get?_push_size _ rfl, rfl, rfl⟩, w⟩
  | str x hx =>
    obtain ⟨t, rfl⟩ := rv
    cases ha : x.cps.all (· < 128)
    · exact wpAny_pyIter_wide ha ⟨_, _, itP_one (tk := s.toks) I _ (turnD_str (K := X.KW) (t := t) hx (.inr rfl)) ⟨_, Heap.get?_push_size _ rfl, rfl, rfl⟩, w⟩
    · exact wpAny_pyIter_ascii ha ⟨_, _, itP_one (tk := s.toks) I _ (turnD_str (K := X.KW) (t := t) hx (.inl rfl)) ⟨_, Heap.get?_push_size _ rfl, rfl, rfl⟩, w⟩
  | _ => exact w.elim
def diVal (te : DTE) (w : WIt) : DTI := fun τ S R => te τ S fun d S1 => w d S1 R
theorem pie_of {H0 : Hp} {R : It → Hp → Prop} {ds : List D} {stab : Sto → Prop} {S1 : Sto} {Rd : List D → (Sto → Prop) → Sto → Prop} {itv : Value} {s2 : Shared} (e : Ev H0 H) (hr : HR X.KW H S1) (h : ItP X pins σ tg H ds stab itv s2) (rd : Rd ds stab S1)
    (k : ∀ ds stab S1 H1, Ev H0 H1 → HR X.KW H1 S1 → Rd ds stab S1 → R (ItD X.KW H1 ds stab) H1) : PIE X pins σ tg R itv s2 := by
  obtain ⟨it, fp, tn, e1, I, T, t0, f⟩ := h
  exact ⟨it, fp, tn, _, H, e1, I, T, t0, f, k _ _ _ _ e hr rd⟩
theorem di_val {e : Expr} {te : DTE} (he : DE X e te) : DI X tg e (diVal te wIter) := ⟨⟨fun pins s σ H R I ⟨τ, S, Rd, st, hr, q, k⟩ =>
  thn (he.run pins s σ H τ S _ I st hr q) fun u s1 ⟨v, H1, I1, rv, e1, d, S1, hr1, rd, q1⟩ => wpAny_mono (iter_seq I1 rv rd hr1 q1) (fun itv s2 ⟨ds, stab, h, rr⟩ => pie_of e1 hr1 h rr k) fun _ _ z => z⟩⟩
def rngD (lo : Int) : Nat → List D
  | 0 => []
  | n + 1 => .int lo :: rngD (lo + 1) n
theorem rngD_len (lo : Int) (n : Nat) : (rngD lo n).length = n := by induction n generalizing lo with
  | zero => rfl
  | succ n ih => simp [rngD, ih]
theorem rngD_get : ∀ (n : Nat) (lo : Int) (i : Nat), i < n → (rngD lo n)[i]? = some (.int (lo + i))
  | n + 1, lo, 0, _ => by simp [rngD]
  | n + 1, lo, i + 1, h => by
    have := rngD_get n (lo + 1) i (by omega)
    simp only [rngD, List.getElem?_cons_succ, this, Option.some.injEq, D.int.injEq]
    omega
/-- range(hi) -/
def diRng1 (ta : DTA) : DTI := fun τ S R => ta τ S fun ds S1 => match ds with
  | [.int j] => j < 2 ^ 62 ∧ -(2 ^ 62) ≤ j ∧ R (rngD 0 j.toNat) (fun _ => True) S1
  | _ => False
/-- range(lo, hi) -/
def diRng2 (ta : DTA) : DTI := fun τ S R => ta τ S fun ds S1 => match ds with
  | [.int i, .int j] => (-(2 ^ 62) ≤ i ∧ i < 2 ^ 62 ∧ -(2 ^ 62) ≤ j ∧ j < 2 ^ 62) ∧ R (rngD i (j - i).toNat) (fun _ => True) S1
  | _ => False
theorem itr_ok {lo : Int} {n : Nat} {H1 : Hp} (H0 : Hp) : (∀ i H, (ItD K H1 (rngD lo n) (fun _ => True)).go i H → (Itr lo n).go i H) ∧ (∀ i H x H', (ItD K H1 (rngD lo n) (fun _ => True)).go i H → (Itr lo n).yld i H x H' → (ItD K H1 (rngD lo n) (fun _ => True)).yld i H x H') ∧
    ∀ i H, (ItD K H1 (rngD lo n) (fun _ => True)).stop i H → (Itr lo n).stop i H := by
  refine ⟨fun i H ⟨_, _, h⟩ => by rw [rngD_len] at h; exact h, fun i H x H' ⟨_, _, h⟩ ⟨e, y⟩ => ?_, fun i H ⟨_, _, h⟩ => by rw [rngD_len] at h; exact Nat.le_of_eq h.symm⟩
  subst e y
  rw [rngD_len] at h
  exact ⟨.refl _, fun _ h => h, _, rngD_get n lo i h, .int _⟩
theorem di_range1 {a : Expr} {ta : DTA} {p pos : Pos} (hg : Gl X "range") (hm : X.mg "range" = none) (ha : DAr X [a] ta) (hs : starEach [a] X.env = [(false, eval a X.env)] := by rfl) : DI X tg (.Call (.Name "range" p) [a] [] pos) (diRng1 ta) :=
  .up (pi_range1 hg hm ha.lo hs) fun σ H τ S Rd st hr q => ⟨τ, S, _, st, hr, q, fun vs H1 ⟨e1, ds, S1, hr1, rd, q1⟩ => by
    simp only at q1
    split at q1
    · obtain ⟨v, rfl, r⟩ := rd.one
      cases r
      exact ⟨_, rfl, q1.2.1, q1.1, _, _, S1, e1, hr1, q1.2.2, itr_ok H⟩
    · exact q1.elim⟩
theorem di_range2 {a b : Expr} {ta : DTA} {p pos : Pos} (hg : Gl X "range") (hm : X.mg "range" = none) (ha : DAr X [a, b] ta) (hs : starEach [a, b] X.env = [(false, eval a X.env), (false, eval b X.env)] := by rfl) (hs2 : starEach [b] X.env = [(false, eval b X.env)] := by rfl) :
    DI X tg (.Call (.Name "range" p) [a, b] [] pos) (diRng2 ta) :=
  .up (pi_range2 hg hm ha.lo hs hs2) fun σ H τ S Rd st hr q => ⟨τ, S, _, st, hr, q, fun vs H1 ⟨e1, ds, S1, hr1, rd, q1⟩ => by
    simp only at q1
    split at q1
    · obtain ⟨v, v', rfl, r, r'⟩ := rd.two
      cases r
      cases r'
      exact ⟨_, _, rfl, q1.1, _, _, S1, e1, hr1, q1.2, itr_ok H⟩
    · exact q1.elim⟩
end
end DL

namespace DL
open PySem PySem.Spec PyProof.Rows L2

/-! ### enumerate -/
set_option maxHeartbeats 1000000 in
theorem enum_new1 {v : Value} {o : Obj} {Hh : Heap → Prop} (B : Begins v o Hh) :
    Meets (Builtin.«enumerate.__new__» ⟨[.type "enumerate", v], []⟩) (fun _ R s => Hh s.heap ∧
      R (.ok (.ret (.ref (s.heap.push o).objs.size))) { s with heap := (s.heap.push o).push { cls := .type "enumerate", data := .fields #[.none, .bool false, .ref s.heap.objs.size, rawInt 0, .none, .none] } }) :=
  .of_wp fun prog w A R s h => by
    obtain ⟨hp, g, d, tk, os⟩ := s; obtain ⟨h1, h⟩ := h
    have hsub := sub_enumerate
    have q1 : ∀ {A' : Around} {E : Value → Shared → Prop} {Q : Value → Shared → Prop}, Q (.ref hp.objs.size) ⟨hp.push o, g, d, tk, os⟩ → wpAny (model prog w) A' (pyIter v) Q E ⟨hp, g, d, tk, os⟩ :=
      fun q => B.iter prog w _ _ ⟨hp, g, d, tk, os⟩ _ h1 q
    wp_walk using q1
    refine wpAny_stack_any fun st => wpAny_pure ?_
    split
    · rename_i c _ _ _ _ _
      cases (c == Value.type "enumerate")
      · wp_walk using q1
        exact ⟨_, rfl, h⟩
      · wp_walk using q1
        exact ⟨_, rfl, h⟩
    · wp_walk using q1
      exact ⟨_, rfl, h⟩
theorem enum_call1 {prog : Program} {w : World} {A : Around} {E : Value → Shared → Prop} {s : Shared} {v : Value} {o : Obj} {Hh : Heap → Prop} {Q : Value → Shared → Prop} (B : Begins v o Hh) (h1 : Hh s.heap)
    (h : ∀ h', IsEnum h' (s.heap.objs.size + 1) s.heap.objs.size 0 .none → h'.get? s.heap.objs.size = some o → h'.objs.size = s.heap.objs.size + 2 →
      (∀ b o, s.heap.get? b = some o → h'.get? b = some o) → Q (.ref (s.heap.objs.size + 1)) { s with heap := h' }) :
    wpAny (model prog w) A (call (.type "enumerate") [v]) Q E s := by
  refine callType_new F.called_enumerate (by decide) (F.typeCall_enumerate_1 _) (F.newCall_enumerate_1 _) (fun obj => F.args_object_init_2 obj _) F.entry_enumerate_new (enum_new1 B) ⟨h1, ?_⟩
  have hz : (s.heap.push o).objs.size = s.heap.objs.size + 1 := Heap.size_push ..
  show _ ∧ _
  rw [hz]
  have he : IsEnum ((s.heap.push o).push { cls := .type "enumerate", data := .fields #[.none, .bool false, .ref s.heap.objs.size, rawInt 0, .none, .none] }) (s.heap.objs.size + 1) s.heap.objs.size 0 .none := by
    have := Heap.get?_push_size (s.heap.push o) (o := { cls := .type "enumerate", data := .fields #[.none, .bool false, .ref s.heap.objs.size, rawInt 0, .none, .none] }) rfl
    rw [hz] at this; exact this
  exact ⟨⟨_, he, rfl⟩, h _ he (Heap.get?_push_of_some _ (Heap.get?_push_size _ B.free)) (by rw [Heap.size_push, hz]) fun b o x => Heap.get?_push_of_some _ (Heap.get?_push_of_some _ x)⟩
def enumD : Nat → List D → List D
  | _, [] => []
  | i, d :: ds => .wt [.int (i : Int), d] :: enumD (i + 1) ds
theorem enumD_len (ds : List D) : ∀ i : Nat, (enumD i ds).length = ds.length := by induction ds with
  | nil => intro i; rfl
  | cons d ds ih => intro i; simp [enumD, ih]
theorem enumD_get : ∀ (ds : List D) (i j : Nat) (d : D), ds[j]? = some d → (enumD i ds)[j]? = some (.wt [.int ((i + j : Nat) : Int), d])
  | d :: ds, i, 0, _, h => by simp at h; subst h; simp [enumD]
  | d :: ds, i, j + 1, x, h => by
    have := enumD_get ds (i + 1) j x (by simpa using h)
    simp only [enumD, List.getElem?_cons_succ, this]
    have : i + 1 + j = i + (j + 1) := by omega
    rw [this]
section
variable {X : Cx} {tg : Expr} {pins : List (Addr × Obj)} {σ : L2.St} {H : Hp} {s : Shared} {E : Value → Shared → Prop} {K : KW}
/-- the pairs laid -/
theorem enum_yld {S : Sto} {T : Addr} {i : Nat} {x : V} {d : D} {ds : List D} (hn : H T = none) (hd : ds[i]? = some d) (r : RelD K H x d) :
    Ev H (upd H T (.tup [.int (i : Nat), x])) ∧ (∀ S, HR K H S → HR K (upd H T (.tup [.int (i : Nat), x])) S) ∧ ∃ e, (enumD 0 ds)[i]? = some e ∧ RelD K (upd H T (.tup [.int (i : Nat), x])) (.ref T) e := by
  refine ⟨.new hn, fun S h => h.new hn, _, enumD_get ds 0 i d hd, .wt upd_same (.cons ?_ (.cons (r.ev (.new hn)) .nil))⟩
  rw [Nat.zero_add]
  exact .int _
theorem turnD_enumL {P : Program} {w : World} {elts : List Expr} {kk : Nat} {tpos : Pos} {a e it : Addr} {ds : List D} {stab : Sto → Prop} (hs : ∀ H' S, Ev H H' → HR K H' S → stab S → ∃ vs, SqL K.fr H' a vs ∧ RelDs K H' vs ds) :
    Turn P w K.fr (.Tuple elts kk tpos) (ItD K H (enumD 0 ds) stab) [e, it] e (fun i h => (∃ old, IsEnum h e it ((i : Nat) : Int) old) ∧ h.IsListIter it a i ∧ e ≠ it) := by
  refine Turn.imp (turn_enum a e it) (fun i H' ⟨ev, ⟨S, hr, z⟩, hi⟩ => ?_) (fun i H' x H2 ⟨ev, ⟨S, hr, z⟩, hi⟩ y => ?_) fun i H' ⟨ev, ⟨S, hr, z⟩, hi⟩ => ?_
  · obtain ⟨vs, q, r⟩ := hs H' S ev hr z
    rw [enumD_len] at hi
    obtain ⟨v, h1, _⟩ := r.get (List.getElem?_eq_getElem hi)
    exact ⟨vs, v, q, h1⟩
  · obtain ⟨T, v, e1, e2, e3, y⟩ := y
    subst e1 e3
    obtain ⟨vs, q, r⟩ := hs _ S ev hr z
    rw [enumD_len] at hi
    obtain ⟨v', h1, h2⟩ := r.get (List.getElem?_eq_getElem hi)
    rw [y vs q] at h1; cases h1
    exact enum_yld (S := S) e2 (List.getElem?_eq_getElem hi) h2
  · obtain ⟨vs, q, r⟩ := hs H' S ev hr z
    rw [enumD_len] at hi
    exact ⟨vs, q, by rw [r.length]; omega⟩
/-- over a tuple -/
theorem turnD_enumT {P : Program} {w : World} {elts : List Expr} {kk : Nat} {tpos : Pos} {a e it : Addr} {ds : List D} {stab : Sto → Prop} (hs : ∀ H', Ev H H' → ∃ vs, SqT K.fr H' a vs ∧ RelDs K H' vs ds) :
    Turn P w K.fr (.Tuple elts kk tpos) (ItD K H (enumD 0 ds) stab) [e, it] e (fun i h => (∃ old, IsEnum h e it ((i : Nat) : Int) old) ∧ h.IsTupleIter it a i ∧ e ≠ it) where
  mem := by simp
  obj := fun i h st b hb => by
    obtain ⟨⟨old, he⟩, ⟨o, ho, hc, hd⟩, _⟩ := st
    rcases (by simpa using hb : b = e ∨ b = it) with rfl | rfl
    · exact ⟨_, he, fun v q => nomatch q⟩
    · exact ⟨o, ho, fun v q => by rw [hd] at q; cases q⟩
  keep := fun i h h' st k => let ⟨⟨old, he⟩, hi, hne⟩ := st; ⟨⟨old, k e (by simp) _ he⟩, hi.at fun o q => k it (by simp) o q, hne⟩
  item := by
    intro X hP hw hK hc i pins s σ H' E I hf st hg
    obtain ⟨Kf, KP, Kw⟩ := K
    change X.K = Kf at hK
    subst hP hw hK
    obtain ⟨⟨old, he⟩, hit, hne⟩ := st
    obtain ⟨ev, _, hi⟩ := hg
    rw [enumD_len] at hi
    obtain ⟨vs, hq, rr⟩ := hs H' ev
    obtain ⟨x, hx, rx⟩ := rr.get (List.getElem?_eq_getElem hi)
    obtain ⟨its, rv, p, hz⟩ := I.tuple hq
    obtain ⟨u, hu, ru⟩ := rv.get hx
    have hel : e < s.heap.objs.size := Heap.lt_size he
    have hil : it < s.heap.objs.size := by obtain ⟨_, q, _⟩ := hit; exact Heap.lt_size q
    have hta : s.heap.IsTuple a its.toArray := p
    have hae : a ≠ e := fun z => by
      subst z
      obtain ⟨o, h1, h2, _⟩ := hta
      have h1' := he
      rw [IsEnum] at h1'
      rw [h1] at h1'; cases h1'; exact absurd (Value.type.inj h2) (by decide)
    have hai : a ≠ it := fun z => by
      subst z
      obtain ⟨o, h1, h2, _⟩ := hta
      obtain ⟨o', h3, h4, _⟩ := hit
      rw [h1] at h3; cases h3; rw [h2] at h4; exact absurd (Value.type.inj h4) (by decide)
    have D := Draws.tuple (prog := X.prog) (w := X.w) (A := X.A.in1) (I.ok.hd hc) it a hai its.toArray
    have G := GoesN.enumFrom (elts := elts) (x1 := kk) (pos := tpos) 0 D e hne (by simp [hne, Ne.symm hae]) (by simp)
    have hsz : i < its.toArray.size := by
      have := rv.length
      have := rr.length
      simp; omega
    refine thn (G.goes i s _ E hsz ⟨⟨old, by simpa using he⟩, hit, hta⟩ fun v h' tk Y St' k _ => ?_) fun r s1 h => h
    obtain ⟨T, t, y, ev', hT0, hy, hT⟩ := Y
    subst ev'
    have hyu : y = u := by
      rw [show its.toArray[i]? = some u by simpa using hu] at hy
      cases hy; rfl
    subst hyu
    obtain ⟨⟨old', he'⟩, hit', _⟩ := St'
    have hT0' : H' T = none := I.hok.fresh hT0
    have new : ObjOk X.prog X.w (upd H' T (.tup [.int (i : Nat), x])) h' T (.tup [.int (i : Nat), x]) :=
      ⟨by show 2 ≤ sizeLine; decide, [.int (0 + (i : Int)) t, y], .cons ⟨t, by rw [Int.zero_add]⟩ (.cons ru .nil), hT⟩
    have I1 : Inv X pins σ (upd H' T (.tup [.int (i : Nat), x])) { s with heap := h', toks := tk } :=
      I.turnedNew (ch := [e, it]) (fun b ob hb q => k b ob hb q) hf hT0 new
    refine ⟨.ref T, _, I1, rfl, enum_yld (S := fun _ => none) hT0' (List.getElem?_eq_getElem hi) rx, ⟨⟨old', ?_⟩, hit', hne⟩, fun b hb => ?_⟩
    · have e1 : ((i + 1 : Nat) : Int) = 0 + ((i + 1 : Nat) : Int) := by omega
      rw [e1]; exact he'
    · have hb' : b < s.heap.objs.size := by
        rcases (by simpa using hb : b = e ∨ b = it) with rfl | rfl
        · exact hel
        · exact hil
      rw [upd_ne (Nat.ne_of_lt (Nat.lt_of_lt_of_le hb' hT0))]
      exact (hf b hb).1
  done := by
    intro X hP hw hK hc i pins s σ H' E I hf st hg
    obtain ⟨Kf, KP, Kw⟩ := K
    change X.K = Kf at hK
    subst hP hw hK
    obtain ⟨⟨old, he⟩, hit, hne⟩ := st
    obtain ⟨ev, _, hi⟩ := hg
    rw [enumD_len] at hi
    obtain ⟨vs, hq, rr⟩ := hs H' ev
    obtain ⟨its, rv, p, hz⟩ := I.tuple hq
    have hta : s.heap.IsTuple a its.toArray := p
    have hae : a ≠ e := fun z => by
      subst z
      obtain ⟨o, h1, h2, _⟩ := hta
      have h1' := he
      rw [IsEnum] at h1'
      rw [h1] at h1'; cases h1'; exact absurd (Value.type.inj h2) (by decide)
    have hai : a ≠ it := fun z => by
      subst z
      obtain ⟨o, h1, h2, _⟩ := hta
      obtain ⟨o', h3, h4, _⟩ := hit
      rw [h1] at h3; cases h3; rw [h2] at h4; exact absurd (Value.type.inj h4) (by decide)
    have D := Draws.tuple (prog := X.prog) (w := X.w) (A := X.A.in1) (I.ok.hd hc) it a hai its.toArray
    have G := GoesN.enumFrom (elts := elts) (x1 := kk) (pos := tpos) 0 D e hne (by simp [hne, Ne.symm hae]) (by simp)
    have hsz : its.toArray.size = i := by
      have := rv.length
      have := rr.length
      simp; omega
    rw [hsz] at G
    exact G.stops s _ E ⟨⟨old, by simpa using he⟩, hit, hta⟩ fun h' tk k _ => I.turnedL (ch := [e, it]) (fun b ob hb q => k b ob hb q) hf
  self := fun A i s Q E st h => let ⟨⟨_, he⟩, _⟩ := st; wpAny_pyIter_enum he h
def wEnum : WIt := fun d S R => match d with
  | .tup ds => R (enumD 0 ds) (fun _ => True) S
  | .fz ds => R (enumD 0 ds) (fun _ => True) S
  | .ref a => onL S a fun ds => R (enumD 0 ds) (fun S' => S' a = some (.lst ds)) S
  | _ => False
def diEnum (ta : DTA) : DTI := fun τ S R => ta τ S fun ds S1 => match ds with
  | [d] => wEnum d S1 R
  | _ => False
theorem itP_enum {ds : List D} {stab : Sto → Prop} {tn : Nat → Heap → Prop} {h' : Heap} (I : Inv X pins σ H s) (k : ∀ b o, s.heap.get? b = some o → h'.get? b = some o)
    (T : Turn X.prog X.w X.K tg (ItD X.KW H ds stab) [s.heap.objs.size + 1, s.heap.objs.size] (s.heap.objs.size + 1) tn) (st : tn 0 h') : ItP X pins σ tg H ds stab (.ref (s.heap.objs.size + 1)) { s with heap := h' } := by
  refine ⟨_, _, tn, rfl, I.kept (t' := s.toks) k, T, st, fun b hb => ?_⟩
  have hle : s.heap.objs.size ≤ b := by
    rcases (by simpa using hb : b = s.heap.objs.size + 1 ∨ b = s.heap.objs.size) with z | z
    · rw [z]; exact Nat.le_add_right _ _
    · rw [z]; exact Nat.le_refl _
  exact I.fpOk hle (I.hok.fresh hle)
theorem di_enum {e : Expr} {ta : DTA} {p pos tpos : Pos} {elts : List Expr} {kk : Nat} (hg : Gl X "enumerate") (hm : X.mg "enumerate" = none) (ha : DAr X [e] ta) (hs : starEach [e] X.env = [(false, eval e X.env)] := by rfl) :
    DI X (.Tuple elts kk tpos) (.Call (.Name "enumerate" p) [e] [] pos) (diEnum ta) := ⟨⟨fun pins s σ H R I ⟨τ, S, Rd, st, hr, q, k⟩ => by
  refine Call_ (ld_blt I hg hm boot_enumerate (PyProof.Rows.callWith_type1 (thn (ha.run pos pins s σ H τ S _ I st hr q) fun us s1 ⟨vs, H1, I1, rv, e1, ds, S1, hr1, rd, q1⟩ => ?_) hs rfl))
  simp only at q1
  split at q1
  · rename_i d
    obtain ⟨v, rfl, r⟩ := rd.one
    cases rv with
    | cons rv t =>
    cases t
    cases r with
    | tup t r =>
      cases rv
      obtain ⟨its, rv, p', hz⟩ := I1.tuple t.sq
      exact enum_call1 (begins_tuple _ its.toArray) p' fun h' he hit hsz hk => wpAny_pyIter_enum he (pie_of e1 hr1 (itP_enum I1 hk (turnD_enumT (K := X.KW) fun H' e => ⟨_, (t.ev e).sq, r.ev e⟩) ⟨⟨.none, he⟩, ⟨_, hit, rfl, rfl⟩, Nat.succ_ne_self _⟩) q1 k)
    | fz t r =>
      cases rv
      obtain ⟨its, rv, p', hz⟩ := I1.list t.sq
      exact call_enumerate_list p'.isList fun h' he hit hsz hk => wpAny_pyIter_enum he (pie_of e1 hr1 (itP_enum I1 hk (turnD_enumL (K := X.KW) fun H' S' e _ _ => ⟨_, (t.ev e).sq, r.ev e⟩) ⟨⟨.none, he⟩, hit, Nat.succ_ne_self _⟩) q1 k)
    | ref a =>
      cases rv
      obtain ⟨ds, e, q1⟩ := onL.out q1
      obtain ⟨vs, h1, r⟩ := hr1 a _ e
      obtain ⟨its, rv, p', hz⟩ := I1.list (SqL.of h1)
      exact call_enumerate_list p'.isList fun h' he hit hsz hk => wpAny_pyIter_enum he (pie_of e1 hr1 (itP_enum I1 hk (turnD_enumL (K := X.KW) fun H' S' _ hr' (z : S' a = some (.lst ds)) => let ⟨vs', h', r'⟩ := hr' a _ z; ⟨vs', SqL.of h', r'⟩) ⟨⟨.none, he⟩, hit, Nat.succ_ne_self _⟩) q1 k)
    | _ => exact q1.elim
  · exact q1.elim⟩⟩
end
end DL

namespace DL
open PySem PySem.Spec PyProof.Rows L2

/-! ### dicts: keys are ints, texts, or flat tuples of these -/
def leafK : D → Option Key
  | .int i => some (.inl i)
  | .str x => some (.inr x)
  | _ => none
def leafKs : List D → Option (List Key)
  | [] => some []
  | d :: ds => match leafK d, leafKs ds with | some k, some ks => some (k :: ks) | _, _ => none
def leafT : D → Option (List Key)
  | .tup ds => leafKs ds
  | _ => none
theorem leafK_eq {d : D} {k : Key} (h : leafK d = some k) : d = kD k := by
  cases d <;> simp [leafK] at h <;> subst h <;> rfl
theorem leafKs_eq : ∀ {ds : List D} {ks : List Key}, leafKs ds = some ks → ds = ks.map kD
  | [], ks, h => by simp [leafKs] at h; subst h; rfl
  | d :: ds, ks, h => by
    simp only [leafKs] at h
    split at h
    · rename_i k ks' h1 h2
      cases h
      rw [leafK_eq h1, leafKs_eq h2]; rfl
    · cases h
theorem leafT_eq {d : D} {ks : List Key} (h : leafT d = some ks) : d = kTD ks := by
  cases d <;> simp [leafT] at h
  rw [leafKs_eq h]; rfl
theorem leafK_kD (k : Key) : leafK (kD k) = some k := by cases k <;> rfl
theorem leafKs_kD : ∀ ks : List Key, leafKs (ks.map kD) = some ks
  | [] => rfl
  | k :: r => by simp [leafKs, leafK_kD, leafKs_kD r]
theorem leafT_kTD (k : List Key) : leafT (kTD k) = some k := leafKs_kD k
theorem leafK_kTD (k : List Key) : leafK (kTD k) = none := rfl
theorem leafT_kD (k : Key) : leafT (kD k) = none := by cases k <;> rfl
def dGet (kvs : List (D × D)) (k : D) : Option D := (kvs.find? fun p => decide (p.1 = k)).map (·.2)
def dPut (kvs : List (D × D)) (k v : D) : List (D × D) := if (kvs.any fun p => decide (p.1 = k)) = true then kvs.map (fun p => if p.1 = k then (p.1, v) else p) else kvs ++ [(k, v)]
def kvDrop (kvs : List (D × D)) (k : D) : List (D × D) := kvs.filter fun p => decide (p.1 ≠ k)
/-- the key is of the kind that stands there -/
def keyFit (kvs : List (D × D)) (k : D) : Bool := match kvs with
  | [] => (leafK k).isSome || (leafT k).isSome || decide (k = .non)
  | (k0, _) :: _ => if (leafK k0).isSome then (leafK k).isSome || decide (k = .non) else (leafT k0).isSome && (leafT k).isSome
def keyFitW (kvs : List (D × D)) (k : D) : Bool := keyFit kvs k && decide (k ≠ .non)
def RelOk (K : KW) (H : Hp) : Option V → Option D → Prop
  | some v, some d => RelD K H v d
  | none, none => True
  | _, _ => False
section
variable {K : KW} {H H' : Hp}
theorem RelKV.val {κ : Type} [DecidableEq κ] {f : κ → D} (inj : ∀ a b, f a = f b → a = b) (k : κ) : ∀ {es : List (κ × V)} {kvs : List (D × D)}, RelKV f K H es kvs → RelOk K H (valV es k) (dGet kvs (f k))
  | _, _, .nil => trivial
  | _, _, .cons (k := k0) (v := v) (d := d) (r := r) (t := t) hk rd rt => by
    by_cases e : k0 = k
    · subst e
      rw [valV_pos rfl]
      have : dGet ((f k0, d) :: t) (f k0) = some d := by simp [dGet]
      rw [this]; exact rd
    · have ne : f k0 ≠ f k := fun z => e (inj _ _ z)
      rw [valV_neg (p := (k0, v)) e]
      have : dGet ((f k0, d) :: t) (f k) = dGet t (f k) := by simp [dGet, ne]
      rw [this]; exact RelKV.val inj k rt
theorem RelKV.anyK {κ : Type} [DecidableEq κ] {f : κ → D} (inj : ∀ a b, f a = f b → a = b) (k : κ) : ∀ {es : List (κ × V)} {kvs : List (D × D)}, RelKV f K H es kvs → (es.any fun p => decide (p.1 = k)) = kvs.any fun p => decide (p.1 = f k)
  | _, _, .nil => rfl
  | _, _, .cons (k := k0) (t := t) hk rd rt => by
    simp only [List.any_cons]
    rw [RelKV.anyK inj k rt]
    by_cases e : k0 = k
    · subst e; simp
    · have ne : f k0 ≠ f k := fun z => e (inj _ _ z)
      simp [e, ne]
theorem RelKV.repl {κ : Type} [DecidableEq κ] {f : κ → D} (inj : ∀ a b, f a = f b → a = b) (k : κ) {v : V} {d : D} (r : RelD K H v d) : ∀ {es : List (κ × V)} {kvs : List (D × D)}, RelKV f K H es kvs →
    RelKV f K H (es.map fun p => if p.1 = k then (p.1, v) else p) (kvs.map fun p => if p.1 = f k then (p.1, d) else p)
  | _, _, .nil => .nil
  | _, _, .cons (k := k0) (t := t) hk rd rt => by
    simp only [List.map_cons]
    by_cases e : k0 = k
    · subst e; simp only [if_true]; exact .cons hk r (RelKV.repl inj _ r rt)
    · have ne : f k0 ≠ f k := fun z => e (inj _ _ z)
      rw [if_neg e, if_neg ne]
      exact .cons hk rd (RelKV.repl inj k r rt)
theorem RelKV.snoc {κ : Type} {f : κ → D} (k : κ) (hk : ∀ x, f k = .str x → PyData.strOk x = true) {v : V} {d : D} (r : RelD K H v d) : ∀ {es : List (κ × V)} {kvs : List (D × D)}, RelKV f K H es kvs → RelKV f K H (es ++ [(k, v)]) (kvs ++ [(f k, d)])
  | _, _, .nil => .cons hk r .nil
  | _, _, .cons h rd rt => .cons h rd (RelKV.snoc k hk r rt)
theorem RelKV.put {κ : Type} [DecidableEq κ] {f : κ → D} (inj : ∀ a b, f a = f b → a = b) (k : κ) (hk : ∀ x, f k = .str x → PyData.strOk x = true) {v : V} {d : D} (r : RelD K H v d) {es : List (κ × V)} {kvs : List (D × D)} (h : RelKV f K H es kvs) : RelKV f K H (putK es k v) (dPut kvs (f k) d) := by
  unfold putK dPut
  rw [h.anyK inj k]
  split
  · exact h.repl inj k r
  · exact h.snoc k hk r
theorem RelD.kV {v : V} {k : Key} (r : RelD K H v (kD k)) : v = L2.kV k := by cases k <;> cases r <;> rfl
theorem RelD.kT {v : V} {k : List Key} (r : RelD K H v (kTD k)) : ∃ b, v = .ref b ∧ KeyT K H b k := by
  cases r with
  | tup t r =>
    have e := r.kVs
    subst e
    exact ⟨_, rfl, t, r⟩
theorem RelD.kOk {v : V} {k : Key} (r : RelD K H v (kD k)) : ∀ x, kD k = .str x → PyData.strOk x = true := fun x e => by
  rw [e] at r
  cases r; assumption
theorem put_id {S : Sto} {a : Addr} {o : AO} (h : S a = some o) : put S a o = S := by
  funext b; unfold put; split
  · rename_i e; subst e; exact h.symm
  · rfl
theorem RelTV.val (k : List Key) : ∀ {xs : List (List Key × Addr × Value)} {kvs : List (D × D)}, RelTV K H xs kvs → ∃ o : Option V, RelO o ((atKey xs k).map (·.2)) ∧ RelOk K H o (dGet kvs (kTD k))
  | _, _, .nil => ⟨none, trivial, trivial⟩
  | _, _, .cons (k := k0) (b := b) (u := u) (v := v) (d := d) (r := r) (t := t) tt rv rd rt => by
    by_cases e : k0 = k
    · subst e
      have h1 : atKey ((k0, b, u) :: r) k0 = some (b, u) := by simp [atKey]
      have h2 : dGet ((kTD k0, d) :: t) (kTD k0) = some d := by simp [dGet]
      rw [h1, h2]
      exact ⟨some v, rv, rd⟩
    · have ne : kTD k0 ≠ kTD k := fun z => e (kTD_inj z)
      have h1 : atKey ((k0, b, u) :: r) k = atKey r k := by simp [atKey, List.find?_cons, e]
      have h2 : dGet ((kTD k0, d) :: t) (kTD k) = dGet t (kTD k) := by simp [dGet, ne]
      rw [h1, h2]
      exact RelTV.val k rt
theorem RelTV.repl (k : List Key) {v : V} {u : Value} {d : D} (rv : RelV v u) (rd : RelD K H v d) : ∀ {xs : List (List Key × Addr × Value)} {kvs : List (D × D)}, RelTV K H xs kvs → RelTV K H (xs.map (putAt k u)) (kvs.map fun p => if p.1 = kTD k then (p.1, d) else p)
  | _, _, .nil => .nil
  | _, _, .cons (k := k0) (t := t) tt rv' rd' rt => by
    simp only [List.map_cons, putAt]
    by_cases e : k0 = k
    · subst e; simp only [if_true]; exact .cons tt rv rd (RelTV.repl _ rv rd rt)
    · have ne : kTD k0 ≠ kTD k := fun z => e (kTD_inj z)
      rw [if_neg e, if_neg ne]
      exact .cons tt rv' rd' (RelTV.repl k rv rd rt)
theorem RelTV.snoc (k : List Key) {b : Addr} {v : V} {u : Value} {d : D} (tb : KeyT K H b k) (rv : RelV v u) (rd : RelD K H v d) : ∀ {xs : List (List Key × Addr × Value)} {kvs : List (D × D)}, RelTV K H xs kvs → RelTV K H (xs ++ [(k, b, u)]) (kvs ++ [(kTD k, d)])
  | _, _, .nil => .cons tb rv rd .nil
  | _, _, .cons tt rv' rd' rt => .cons tt rv' rd' (RelTV.snoc k tb rv rd rt)
theorem dGet_any (k : D) : ∀ kvs : List (D × D), (kvs.any fun p => decide (p.1 = k)) = (dGet kvs k).isSome
  | [] => rfl
  | p :: r => by
    have ih := dGet_any k r
    unfold dGet at *
    by_cases e : p.1 = k
    · simp [e]
    · simp only [List.any_cons, e, decide_false, Bool.false_or, List.find?_cons]; exact ih
theorem RelOk.isSome {o : Option V} {p : Option D} (r : RelOk K H o p) : o.isSome = p.isSome := by cases o <;> cases p <;> first | rfl | exact r.elim
theorem RelTV.put (k : List Key) {b : Addr} {v : V} {u : Value} {d : D} (tb : KeyT K H b k) (rv : RelV v u) (rd : RelD K H v d) {xs : List (List Key × Addr × Value)} {kvs : List (D × D)} (h : RelTV K H xs kvs) : RelTV K H (storedH xs k b u) (dPut kvs (kTD k) d) := by
  obtain ⟨o, h1, h2⟩ := h.val k
  have e : (kvs.any fun p => decide (p.1 = kTD k)) = (atKey xs k).isSome := by
    rw [dGet_any, ← h2.isSome, h1.isSome_eq, Option.isSome_map]
  unfold storedH dPut
  rw [e]
  split
  · exact h.repl k rv rd
  · exact h.snoc k tb rv rd
/-- an empty dict, told as one of the other kind -/
def conv (K : KW) (H H' : Hp) (a : Addr) : Prop := H' = H ∨ (H a = some (.dK []) ∧ H' = upd H a (TDn K a [])) ∨ (H a = some (TDn K a []) ∧ H' = upd H a (.dK []))
theorem conv.ev {a : Addr} (c : conv K H H' a) : Ev H H' := by
  rcases c with rfl | ⟨h, rfl⟩ | ⟨h, rfl⟩
  · exact .refl _
  · exact .upd h rfl
  · exact .upd h rfl
theorem TDn_inj {a : Addr} {xs ys : List (List Key × Addr × Value)} (h : TDn K a xs = TDn K a ys) : TDo K a xs = TDo K a ys := by
  unfold TDn at h
  exact HO.ext.inj h
theorem conv.hr {S : Sto} {a : Addr} (c : conv K H H' a) (hr : HR K H S) (e : S a = some (.dct [])) : HR K H' S := by
  rcases c with rfl | ⟨h, rfl⟩ | ⟨h, rfl⟩
  · exact hr
  · rw [← put_id e]
    exact hr.chg h rfl (.inr ⟨[], upd_same, .nil⟩)
  · rw [← put_id e]
    exact hr.chg h rfl (.inl ⟨[], upd_same, .nil⟩)
theorem Inv.conv {X : Cx} {pins : List (Addr × Obj)} {s : Shared} {σ : L2.St} {H H' : Hp} {a : Addr} (I : Inv X pins σ H s) (c : conv X.KW H H' a) : Inv X pins σ H' s := by
  rcases c with rfl | ⟨h, rfl⟩ | ⟨h, rfl⟩
  · exact I
  · obtain ⟨z, hd, vs, rel, o, es, ep, h1, h2, h3, h4, h5, h6⟩ := (show ObjOk X.prog X.w H s.heap a (.dK []) from I.hok a _ h)
    have ev : vs = [] := by have := rel.length; exact List.length_eq_zero_iff.mp this.symm
    subst ev
    have ee : es.toList = [] := by have := h5.length; exact List.length_eq_zero_iff.mp this
    refine I.write (t' := s.toks) (x := a) (e := a) (by rw [h]; trivial) (.inl rfl) (fun b u _ q => q) ⟨o, h1⟩ ⟨⟨⟨Nat.zero_le _, hd⟩, o, es, ep, h1, h2, h3, ee, List.nodup_nil⟩, ⟨o, h1⟩, fun h1 h2 ⟨z, o, es, ep, q, r⟩ k => ⟨z, o, es, ep, k _ q, r⟩⟩
  · obtain ⟨⟨⟨z, hd⟩, o, es, ep, h1, h2, h3, h4, h5⟩, _⟩ := (show ObjOk X.prog X.w H s.heap a (TDn X.KW a []) from I.hok a _ h)
    have ee : es.toList = [] := h4
    have ea : es = #[] := by simpa using ee
    subst ea
    exact I.write (t' := s.toks) (x := a) (e := a) (by rw [h]; trivial) (.inl rfl) (fun b u _ q => q) ⟨o, h1⟩ ⟨Nat.zero_le _, hd, [], .nil, o, #[], ep, h1, h2, h3, (by intro e he; simp at he), .nil, List.nodup_nil⟩
theorem keyFit.kD {es : List (Key × V)} {kvs : List (D × D)} {d : D} (r : RelKV DL.kD K H es kvs) (h : keyFit kvs d = true) (hn : kvs ≠ []) : (∃ k, d = DL.kD k) ∨ d = .non := by
  cases r with
  | nil => exact absurd rfl hn
  | @cons k v e r t hk rd rt =>
    simp only [keyFit, leafK_kD, Option.isSome_some, if_true, Bool.or_eq_true, decide_eq_true_eq] at h
    rcases h with h | h
    · obtain ⟨k', e⟩ := Option.isSome_iff_exists.mp h
      exact .inl ⟨k', leafK_eq e⟩
    · exact .inr h
theorem keyFit.kTD {es : List (List Key × Addr × Value)} {kvs : List (D × D)} {d : D} (r : RelTV K H es kvs) (h : keyFit kvs d = true) (hn : kvs ≠ []) : ∃ k, d = DL.kTD k := by
  cases r with
  | nil => exact absurd rfl hn
  | @cons k b u v d' r t tt rv rd rt =>
    simp only [keyFit, leafK_kTD, leafT_kTD, Option.isSome_none, Option.isSome_some, Bool.false_eq_true, if_false, Bool.true_and] at h
    obtain ⟨k', e⟩ := Option.isSome_iff_exists.mp h
    exact ⟨k', leafT_eq e⟩
theorem keyFit.nil {d : D} (h : keyFit [] d = true) : (∃ k, d = DL.kD k) ∨ (∃ k, d = DL.kTD k) ∨ d = .non := by
  simp only [keyFit, Bool.or_eq_true, decide_eq_true_eq] at h
  rcases h with (h | h) | h
  · obtain ⟨k', e⟩ := Option.isSome_iff_exists.mp h
    exact .inl ⟨k', leafK_eq e⟩
  · obtain ⟨k', e⟩ := Option.isSome_iff_exists.mp h
    exact .inr (.inl ⟨k', leafT_eq e⟩)
  · exact .inr (.inr h)
/-- what stands at the key -/
def DGy (K : KW) (H : Hp) (a : Addr) (y : V) (o : Option V) : Prop :=
  (∃ kvs k, Rd H a (.dK kvs) ∧ y = L2.kV k ∧ o = valV kvs k) ∨ (y = .non ∧ o = none ∧ ∃ kvs, Rd H a (.dK kvs)) ∨
    ∃ xs kvs k b, Rd H a (TDn K a xs) ∧ RelTV K H xs kvs ∧ y = .ref b ∧ KeyT K H b k ∧ RelO o ((atKey xs k).map (·.2))
def rdD (S : Sto) (a : Addr) (d : D) : Option (List (D × D)) := match S a with
  | some (.dct kvs) => if keyFit kvs d = true then some kvs else none
  | some (.fdc _ kvs) => if keyFit kvs d = true ∧ kvs ≠ [] then some kvs else none
  | _ => none
theorem dGet_non_kD : ∀ {es : List (Key × V)} {kvs : List (D × D)}, RelKV DL.kD K H es kvs → dGet kvs .non = none
  | _, _, .nil => rfl
  | _, _, .cons (k := k) (t := t) hk rd rt => by
    have ne : DL.kD k ≠ .non := by cases k <;> simp [DL.kD]
    have := dGet_non_kD rt
    unfold dGet at *
    simpa [List.find?_cons, ne] using this
/-- a dict whose own kind is told: a key looked up -/
theorem dget_rd {S : Sto} {a : Addr} {kvs : List (D × D)} {y : V} {d : D} (hn : kvs ≠ []) (fit : keyFit kvs d = true) (r : RelD K H y d)
    (h : (∃ es, Rd H a (.dK es) ∧ RelKV DL.kD K H es kvs) ∨ ∃ xs, Rd H a (TDn K a xs) ∧ RelTV K H xs kvs) : ∃ o, DGy K H a y o ∧ RelOk K H o (dGet kvs d) := by
  rcases h with ⟨ks, h1, rk⟩ | ⟨ks, h1, rk⟩
  · rcases keyFit.kD rk fit hn with ⟨k, rfl⟩ | rfl
    · have ey := r.kV
      subst ey
      exact ⟨_, .inl ⟨_, k, h1, rfl, rfl⟩, rk.val (fun a b => kD_inj) k⟩
    · cases r
      exact ⟨none, .inr (.inl ⟨rfl, rfl, _, h1⟩), by rw [dGet_non_kD rk]; trivial⟩
  · obtain ⟨k, rfl⟩ := keyFit.kTD rk fit hn
    obtain ⟨b, rfl, hb⟩ := r.kT
    obtain ⟨o, h2, h3⟩ := rk.val k
    exact ⟨o, .inr (.inr ⟨ks, kvs, k, b, h1, rk, rfl, hb, h2⟩), h3⟩
theorem dget_ok {S : Sto} {a : Addr} {kvs : List (D × D)} {y : V} {d : D} (hr : HR K H S) (e : rdD S a d = some kvs) (r : RelD K H y d) : ∃ o H', conv K H H' a ∧ HR K H' S ∧ DGy K H' a y o ∧ RelOk K H' o (dGet kvs d) := by
  unfold rdD at e
  split at e
  · rename_i kvs' es
    split at e
    · rename_i fit
      cases e
      by_cases hn : kvs = []
      · subst hn
        have go : ∀ H', conv K H H' a → DGy K H' a y none → ∃ o H', conv K H H' a ∧ HR K H' S ∧ DGy K H' a y o ∧ RelOk K H' o (dGet [] d) := fun H' c g => ⟨none, H', c, c.hr hr es, g, trivial⟩
        have tp : ∀ b ks, TupAt K H b ks → ∀ H', conv K H H' a → TupAt K H' b ks := fun b ks t H' c => t.ev c.ev
        rcases keyFit.nil fit with ⟨k, rfl⟩ | ⟨k, rfl⟩ | rfl
        · have ey := r.kV
          subst ey
          rcases hr a _ es with ⟨ks, h1, rk⟩ | ⟨ks, h1, rk⟩
          · cases rk
            exact go H (.inl rfl) (.inl ⟨[], k, .inl h1, rfl, rfl⟩)
          · cases rk
            exact go _ (.inr (.inr ⟨h1, rfl⟩)) (.inl ⟨[], k, .inl upd_same, rfl, rfl⟩)
        · obtain ⟨b, rfl, hb⟩ := r.kT
          rcases hr a _ es with ⟨ks, h1, rk⟩ | ⟨ks, h1, rk⟩
          · cases rk
            have c : conv K H (upd H a (TDn K a [])) a := .inr (.inl ⟨h1, rfl⟩)
            exact go _ c (.inr (.inr ⟨[], [], k, b, .inl upd_same, .nil, rfl, hb.ev c.ev, trivial⟩))
          · cases rk
            exact go H (.inl rfl) (.inr (.inr ⟨[], [], k, b, .inl h1, .nil, rfl, hb, trivial⟩))
        · cases r
          rcases hr a _ es with ⟨ks, h1, rk⟩ | ⟨ks, h1, rk⟩
          · exact go H (.inl rfl) (.inr (.inl ⟨rfl, rfl, _, .inl h1⟩))
          · cases rk
            exact go _ (.inr (.inr ⟨h1, rfl⟩)) (.inr (.inl ⟨rfl, rfl, _, .inl upd_same⟩))
      · obtain ⟨o, h1, h2⟩ := dget_rd (S := S) hn fit r ((hr a _ es).imp (fun ⟨ks, h, r⟩ => ⟨ks, .inl h, r⟩) fun ⟨ks, h, r⟩ => ⟨ks, .inl h, r⟩)
        exact ⟨o, H, .inl rfl, hr, h1, h2⟩
    · cases e
  · rename_i ob kvs' es
    split at e
    · rename_i fit
      obtain ⟨fit, hn⟩ := fit
      cases e
      obtain ⟨o, h1, h2⟩ := dget_rd (S := S) hn fit r ((hr a _ es).imp (fun ⟨ks, h, r⟩ => ⟨ks, .inr ⟨_, h⟩, r⟩) fun ⟨ks, h, r⟩ => ⟨ks, .inr ⟨_, h⟩, r⟩)
      exact ⟨o, H, .inl rfl, hr, h1, h2⟩
    · cases e
  · cases e
end
end DL

namespace DL
open PySem PySem.Spec PyProof.Rows L2
section
variable {X : Cx} {pins : List (Addr × Obj)} {σ : L2.St} {H : Hp} {s : Shared} {a : Addr} {y : V} {u : Value} {o : Option V} {E : Value → Shared → Prop}
/-- a dict of ints and texts, asked for None -/
theorem leafMap {kvs : List (Key × V)} (I : Inv X pins σ H s) (e : Rd H a (.dK kvs)) : (a == sysModules) = false ∧ ∃ f, s.heap.MapOf (leafKind X.prog X.w) a f ∧ f .none = none := by
  obtain ⟨z, hd, vs, rel, o, es, ep, h1, h2, h3, h4, h5, h6⟩ := dk_rd I.hok e
  refine ⟨hd, fun k => findBy (leafKind X.prog X.w).is es k, ⟨o, es, ep, h1, h2, h3, fun e he => ?_, fun k => rfl⟩, ?_⟩
  · obtain ⟨k, q1, q2⟩ := h4 e he
    cases k with
    | inl i =>
      obtain ⟨t, ek⟩ := Value.isInt_shape (show Value.isInt i e.key = true from q1)
      refine ⟨.num i, ?_, q2⟩
      rw [ek]; exact leaf_int i t
    | inr x =>
      obtain ⟨t, ek⟩ := Value.isStrOf_shape (show Value.isStrOf x e.key = true from q1)
      refine ⟨.text x, ?_, q2⟩
      rw [ek]; exact leaf_str x t
  · show findBy (leafKind X.prog X.w).is es .none = none
    have : es.find? (fun e => (leafKind X.prog X.w).is .none e.key) = none := by
      rw [Array.find?_eq_none]
      intro e he
      obtain ⟨k, q1, q2⟩ := h4 e he
      cases k with
      | inl i =>
        obtain ⟨t, ek⟩ := Value.isInt_shape (show Value.isInt i e.key = true from q1)
        rw [ek]; exact (fun z => nomatch z)
      | inr x =>
        obtain ⟨t, ek⟩ := Value.isStrOf_shape (show Value.isStrOf x e.key = true from q1)
        rw [ek]; exact (fun z => nomatch z)
    unfold findBy
    rw [this]; rfl
theorem dy_in (hu : X.A.units + 1 < cLine) (I : Inv X pins σ H s) (g : DGy X.KW H a y o) (ry : RelV y u) : wpAny (model X.prog X.w) X.A (compareOp .In u (.ref a)) (fun r s' => r = .bool o.isSome ∧ Inv X pins σ H s') E s := by
  rcases g with ⟨kvs, k, e, ey, l⟩ | ⟨ey, eo, kvs, e⟩ | ⟨xs, kvs, k, b, e, rk, ey, tb, l⟩
  · subst ey
    obtain ⟨z, hd, vs, rel, dd⟩ := dk_rd I.hok e
    refine wpAny_in_of (kV_is ry) hd dd.mapOf ⟨?_, I.tok _⟩
    rw [← (rel.val k).isSome_eq, ← l]
  · subst ey eo
    cases ry
    obtain ⟨hd, f, hm, hf⟩ := leafMap I e
    refine wpAny_in_of (knd := leafKind X.prog X.w) (k := .none) leaf_none hd hm ⟨?_, I.tok _⟩
    rw [hf]
    rfl
  · subst ey
    cases ry
    obtain ⟨z, hd, dd⟩ := tdn_rd I e rk
    refine wpAny_in_heap (tupleKind_room_in1 hu) (keyT I tb) hd dd ⟨?_, I.tok _⟩
    rw [l.isSome_eq, Option.isSome_map]
theorem dy_notIn (hu : X.A.units + 1 < cLine) (I : Inv X pins σ H s) (g : DGy X.KW H a y o) (ry : RelV y u) : wpAny (model X.prog X.w) X.A (compareOp .NotIn u (.ref a)) (fun r s' => r = .bool (!o.isSome) ∧ Inv X pins σ H s') E s := by
  rcases g with ⟨kvs, k, e, ey, l⟩ | ⟨ey, eo, kvs, e⟩ | ⟨xs, kvs, k, b, e, rk, ey, tb, l⟩
  · subst ey
    obtain ⟨z, hd, vs, rel, dd⟩ := dk_rd I.hok e
    refine wpAny_notIn_of (kV_is ry) hd dd.mapOf ⟨?_, I.tok _⟩
    rw [← (rel.val k).isSome_eq, ← l]
  · subst ey eo
    cases ry
    obtain ⟨hd, f, hm, hf⟩ := leafMap I e
    refine wpAny_notIn_of (knd := leafKind X.prog X.w) (k := .none) leaf_none hd hm ⟨?_, I.tok _⟩
    rw [hf]
    rfl
  · subst ey
    cases ry
    obtain ⟨z, hd, dd⟩ := tdn_rd I e rk
    refine wpAny_notIn_heap (tupleKind_room_in1 hu) (keyT I tb) hd dd ⟨?_, I.tok _⟩
    rw [l.isSome_eq, Option.isSome_map]
theorem dy_item {v : V} (hu : X.A.units + 1 < cLine) (I : Inv X pins σ H s) (g : DGy X.KW H a y (some v)) (ry : RelV y u) : wpAny (model X.prog X.w) X.A (getItem (.ref a) u) (fun r s' => RelV v r ∧ Inv X pins σ H s') E s := by
  rcases g with ⟨kvs, k, e, ey, l⟩ | ⟨ey, eo, kvs, e⟩ | ⟨xs, kvs, k, b, e, rk, ey, tb, l⟩
  · subst ey
    obtain ⟨z, hd, vs, rel, dd⟩ := dk_rd I.hok e
    obtain ⟨w', hw, rw'⟩ := RelO.some_of (v := v) (o := valueAt vs k) (by rw [l]; exact rel.val k)
    exact wpAny_getItem_of (kV_is ry) dd.mapOf hw ⟨rw', I.tok _⟩
  · cases eo
  · subst ey
    cases ry
    obtain ⟨z, hd, dd⟩ := tdn_rd I e rk
    obtain ⟨w', hw, rw'⟩ := RelO.some_of (v := v) l
    obtain ⟨p, hp, hp2⟩ := Option.map_eq_some_iff.mp hw
    refine wpAny_getItem_heap (tupleKind_room_in1 hu) (keyT I tb) dd hp ⟨?_, I.tok _⟩
    rw [hp2]; exact rw'
theorem dy_get1 (hu : X.A.units + 1 < cLine) (I : Inv X pins σ H s) (g : DGy X.KW H a y o) (ry : RelV y u) : wpAny (model X.prog X.w) X.A (call (.builtin "dict.get") [.ref a, u]) (fun r s' => RelV (o.getD .non) r ∧ Inv X pins σ H s') E s := by
  rcases g with ⟨kvs, k, e, ey, l⟩ | ⟨ey, eo, kvs, e⟩ | ⟨xs, kvs, k, b, e, rk, ey, tb, l⟩
  · subst ey
    obtain ⟨z, hd, vs, rel, dd⟩ := dk_rd I.hok e
    refine call_meetsIn PySem.F.slot_dict_get dd.typeIs PySem.F.entry_dict_get (PySem.F.args_dict_get_2 _ _) (meets_dict_get (mixKind X.prog X.w) a (kV_is ry) hd) ⟨_, dd.mapOf, ?_, I.tok _⟩
    rw [l]
    exact (rel.val k).getD rfl
  · subst ey eo
    cases ry
    obtain ⟨hd, f, hm, hf⟩ := leafMap I e
    refine call_meetsIn PySem.F.slot_dict_get hm.typeIs PySem.F.entry_dict_get (PySem.F.args_dict_get_2 _ _) (meets_dict_get (leafKind X.prog X.w) a (k := .none) leaf_none hd) ⟨_, hm, ?_, I.tok _⟩
    rw [hf]; rfl
  · subst ey
    cases ry
    obtain ⟨z, hd, dd⟩ := tdn_rd I e rk
    refine call_meetsIn PySem.F.slot_dict_get dd.typeIs PySem.F.entry_dict_get (PySem.F.args_dict_get_2 _ _) (meetsH_dict_get (tupleKind (mixKind X.prog X.w)) a b hd) ⟨tupleKind_room_in1 hu, k, xs, keyT I tb, dd, ?_, I.tok _⟩
    exact l.getD rfl
theorem dy_get2 {d : V} {r : Value} (hu : X.A.units + 1 < cLine) (I : Inv X pins σ H s) (g : DGy X.KW H a y o) (ry : RelV y u) (rd : RelV d r) : wpAny (model X.prog X.w) X.A (call (.builtin "dict.get") [.ref a, u, r]) (fun r s' => RelV (o.getD d) r ∧ Inv X pins σ H s') E s := by
  rcases g with ⟨kvs, k, e, ey, l⟩ | ⟨ey, eo, kvs, e⟩ | ⟨xs, kvs, k, b, e, rk, ey, tb, l⟩
  · subst ey
    obtain ⟨z, hd, vs, rel, dd⟩ := dk_rd I.hok e
    refine call_meetsIn PySem.F.slot_dict_get dd.typeIs PySem.F.entry_dict_get (PySem.F.args_dict_get_3 _ _ _) (meets_dict_get_default (mixKind X.prog X.w) a (kV_is ry) hd r) ⟨_, dd.mapOf, ?_, I.tok _⟩
    rw [l]
    exact (rel.val k).getD rd
  · subst ey eo
    cases ry
    obtain ⟨hd, f, hm, hf⟩ := leafMap I e
    refine call_meetsIn PySem.F.slot_dict_get hm.typeIs PySem.F.entry_dict_get (PySem.F.args_dict_get_3 _ _ _) (meets_dict_get_default (leafKind X.prog X.w) a (k := .none) leaf_none hd r) ⟨_, hm, ?_, I.tok _⟩
    rw [hf]; exact rd
  · subst ey
    cases ry
    obtain ⟨z, hd, dd⟩ := tdn_rd I e rk
    refine call_meetsIn PySem.F.slot_dict_get dd.typeIs PySem.F.entry_dict_get (PySem.F.args_dict_get_3 _ _ _) (meetsH_dict_get_default (tupleKind (mixKind X.prog X.w)) a b hd r) ⟨tupleKind_room_in1 hu, k, xs, keyT I tb, dd, ?_, I.tok _⟩
    exact l.getD rd
theorem dy_type (I : Inv X pins σ H s) (g : DGy X.KW H a y o) : s.TypeIs (.ref a) "dict" ∧ ∀ b, Value.ref a = .ref b → ∃ ob, s.heap.get? b = some ob ∧ ob.dict = none := by
  have fin : (∃ o es ep, s.heap.get? a = some o ∧ o.ExactDict ∧ o.data = Data.dict es ep) → s.TypeIs (.ref a) "dict" ∧ ∀ b, Value.ref a = .ref b → ∃ ob, s.heap.get? b = some ob ∧ ob.dict = none := fun ⟨ob, es, ep, h1, h2, _⟩ =>
    ⟨⟨ob, h1, h2.1⟩, fun b e => by cases e; exact ⟨ob, h1, h2.2.1⟩⟩
  rcases g with ⟨kvs, k, e, ey, l⟩ | ⟨ey, eo, kvs, e⟩ | ⟨xs, kvs, k, b, e, rk, ey, tb, l⟩
  · obtain ⟨z, hd, vs, rel, ob, es, ep, h1, h2, h3, _⟩ := dk_rd I.hok e
    exact fin ⟨ob, es, ep, h1, h2, h3⟩
  · obtain ⟨z, hd, vs, rel, ob, es, ep, h1, h2, h3, _⟩ := dk_rd I.hok e
    exact fin ⟨ob, es, ep, h1, h2, h3⟩
  · obtain ⟨z, hd, ob, es, ep, h1, h2, h3, _⟩ := tdn_rd I e rk
    exact fin ⟨ob, es, ep, h1, h2, h3⟩
end
def onD (S : Sto) (a : Addr) (d : D) (k : List (D × D) → Prop) : Prop := match rdD S a d with | some kvs => k kvs | none => False
theorem onD.out {S : Sto} {a : Addr} {d : D} {k : List (D × D) → Prop} (h : onD S a d k) : ∃ kvs, rdD S a d = some kvs ∧ k kvs := by
  unfold onD at h
  split at h
  · exact ⟨_, by assumption, h⟩
  · exact h.elim
def isLst (S : Sto) : D → Bool
  | .ref a => match S a with | some (.lst _) => true | _ => false
  | _ => true
/-- x in a list, a tuple, a text, a dict -/
def wIn (neg : Bool) : DR := fun x y S Q => match isLst S y, y with
  | false, .ref a => onD S a x fun kvs => Q (.bl (neg != (dGet kvs x).isSome)) S
  | _, _ => wInS neg x y S Q
section
variable {X : Cx} {pos : Pos}
def rDIn (K : KW) (neg : Bool) : R2 := fun x y H Q => ∃ a o H', y = .ref a ∧ conv K H H' a ∧ DGy K H' a x o ∧ Q (.bl (neg != o.isSome)) H'
theorem op_din (hu : X.A.units + 1 < cLine) : OpR X (compareOp .In) (rDIn X.KW false) := by
  intro pins s σ H x y v u Q I rx ry ⟨a, o, H', ey, c, g, q⟩
  subst ey
  cases ry
  exact wpAny_mono (dy_in hu (Inv.conv I c) g rx) (fun r s' ⟨e, I'⟩ => ⟨.bl _, H', I', e, by simpa using q⟩) fun _ _ z => z
theorem op_dnotin (hu : X.A.units + 1 < cLine) : OpR X (compareOp .NotIn) (rDIn X.KW true) := by
  intro pins s σ H x y v u Q I rx ry ⟨a, o, H', ey, c, g, q⟩
  subst ey
  cases ry
  exact wpAny_mono (dy_notIn hu (Inv.conv I c) g rx) (fun r s' ⟨e, I'⟩ => ⟨.bl _, H', I', e, by simpa using q⟩) fun _ _ z => z
theorem rDIn_of {neg : Bool} {x : V} {dx : D} {H : Hp} {S : Sto} {Q : KD} {R : VK} {a : Addr} (hr : HR X.KW H S) (r1 : RelD X.KW H x dx) (q : onD S a dx fun kvs => Q (.bl (neg != (dGet kvs dx).isSome)) S) (k : ∀ v H', Up X.KW H Q v H' → R v H') : rDIn X.KW neg x (.ref a) H R := by
  obtain ⟨kvs, e, q⟩ := onD.out q
  obtain ⟨o, H', c, hr', g, ro⟩ := dget_ok hr e r1
  exact ⟨a, o, H', rfl, c, g, k _ _ (.of c.ev hr' (.bl _) (by rw [ro.isSome]; exact q))⟩
theorem dop_in (hu : X.A.units + 65 < cLine) : DOp X (compareOp .In) (wIn false) := by
  obtain ⟨rh, h1, h2⟩ := dop_inS (X := X) hu
  refine ⟨_, h1.or (op_din (by omega)), fun x y dx dy H S Q R hr r1 r2 q k => ?_⟩
  unfold wIn at q
  split at q
  · cases r2
    exact .inr (rDIn_of hr r1 q k)
  · exact .inl (h2 x y dx _ H S Q R hr r1 r2 q k)
theorem dop_notIn (hu : X.A.units + 65 < cLine) : DOp X (compareOp .NotIn) (wIn true) := by
  obtain ⟨rh, h1, h2⟩ := dop_notInS (X := X) hu
  refine ⟨_, h1.or (op_dnotin (by omega)), fun x y dx dy H S Q R hr r1 r2 q k => ?_⟩
  unfold wIn at q
  split at q
  · cases r2
    exact .inr (rDIn_of hr r1 q k)
  · exact .inl (h2 x y dx _ H S Q R hr r1 r2 q k)
/-- x[i] of lists, tuples, texts, dicts -/
def wAt : DR := fun x y S Q => match isLst S x, x with
  | false, .ref a => onD S a y fun kvs => onS (dGet kvs y) fun d => Q d S
  | _, _ => wIx x y S Q
def rDIx (K : KW) : R2 := fun x y H Q => ∃ a v H', x = .ref a ∧ conv K H H' a ∧ DGy K H' a y (some v) ∧ Q v H'
theorem ix_dict (hu : X.A.units + 1 < cLine) : IxR X (rDIx X.KW) := by
  intro value slice pins s σ H x y v u Q I rx ry h hs
  obtain ⟨a, w, H', rfl, c, g, q⟩ := h
  cases rx
  have I' := Inv.conv I c
  exact tail_any (dy_type I' g).1 slot_dict_getitem.lookup (wpAny_mono (dy_item hu I' g ry) (fun r s' ⟨e, I2⟩ => ⟨w, H', I2, e, q⟩) fun _ _ z => z) hs
theorem dix_at (hu : X.A.units + 1 < cLine) : DIx X wAt := by
  obtain ⟨rh, h1, h2⟩ := dix_seq (X := X)
  refine ⟨_, h1.or (ix_dict hu), fun x y dx dy H S Q R hr r1 r2 q k => ?_⟩
  unfold wAt at q
  split at q
  · cases r1
    obtain ⟨kvs, e, q⟩ := onD.out q
    obtain ⟨d, ed, q⟩ := onS.out q
    obtain ⟨o, H', c, hr', g, ro⟩ := dget_ok hr e r2
    rw [ed] at ro
    cases o with
    | none => exact ro.elim
    | some v => exact .inr ⟨_, v, H', rfl, c, g, k _ _ (.of c.ev hr' ro q)⟩
  · exact .inl (h2 x y _ dy H S Q R hr r1 r2 q k)
end
end DL

namespace DL
open PySem PySem.Spec PyProof.Rows L2

/-! ### d.get -/
section
variable {X : Cx} {o e f : Expr} {apos cpos : Pos} {to te tf : DTE}
def isRef (Q : Addr → Sto → Prop) : KD := fun d S => match d with | .ref a => Q a S | _ => False
def isDct (S : Sto) (a : Addr) : Prop := match S a with | some (.dct _) => True | some (.fdc _ _) => True | _ => False
theorem isDct_at {pins : List (Addr × Obj)} {σ : L2.St} {H : Hp} {s : Shared} {S : Sto} {a : Addr} (I : Inv X pins σ H s) (hr : HR X.KW H S) (h : isDct S a) : s.TypeIs (.ref a) "dict" ∧ ∀ b, Value.ref a = .ref b → ∃ ob, s.heap.get? b = some ob ∧ ob.dict = none := by
  have fin : (∃ o es ep, s.heap.get? a = some o ∧ o.ExactDict ∧ o.data = Data.dict es ep) → s.TypeIs (.ref a) "dict" ∧ ∀ b, Value.ref a = .ref b → ∃ ob, s.heap.get? b = some ob ∧ ob.dict = none := fun ⟨ob, es, ep, h1, h2, _⟩ =>
    ⟨⟨ob, h1, h2.1⟩, fun b e => by cases e; exact ⟨ob, h1, h2.2.1⟩⟩
  have go : ((∃ es, Rd H a (.dK es)) ∨ ∃ xs kvs, Rd H a (TDn X.KW a xs) ∧ RelTV X.KW H xs kvs) → _ := fun z => fin (by
    rcases z with ⟨es, e⟩ | ⟨xs, kvs, e, rk⟩
    · obtain ⟨z, hd, vs, rel, ob, es, ep, h1, h2, h3, _⟩ := dk_rd I.hok e
      exact ⟨ob, es, ep, h1, h2, h3⟩
    · obtain ⟨z, hd, ob, es, ep, h1, h2, h3, _⟩ := tdn_rd I e rk
      exact ⟨ob, es, ep, h1, h2, h3⟩)
  unfold isDct at h
  split at h
  · rename_i kvs e
    exact go ((hr a _ e).imp (fun ⟨es, q, _⟩ => ⟨es, .inl q⟩) fun ⟨xs, q, r⟩ => ⟨xs, kvs, .inl q, r⟩)
  · rename_i ob kvs e
    exact go ((hr a _ e).imp (fun ⟨es, q, _⟩ => ⟨es, .inr ⟨_, q⟩⟩) fun ⟨xs, q, r⟩ => ⟨xs, kvs, .inr ⟨_, q⟩, r⟩)
  · exact h.elim
def dGet1 (to te : DTE) : DTE := fun τ S Q => to τ S (isRef fun a S1 => isDct S1 a ∧ te τ S1 fun y S2 => onD S2 a y fun kvs => Q ((dGet kvs y).getD .non) S2)
def dGet2 (to te tf : DTE) : DTE := fun τ S Q => to τ S (isRef fun a S1 => isDct S1 a ∧ te τ S1 fun y S2 => tf τ S2 fun z S3 => onD S3 a y fun kvs => Q ((dGet kvs y).getD z) S3)
theorem RelOk.getD {K : KW} {H : Hp} {o : Option V} {p : Option D} {v : V} {d : D} (r : RelOk K H o p) (rd : RelD K H v d) : RelD K H (o.getD v) (p.getD d) := by
  cases o <;> cases p <;> first | exact rd | exact r | exact r.elim
theorem de_get1 (hu : X.A.units + 1 < cLine) (ho : DE X o to) (he : DE X e te) (m : M1 X o "get" apos e cpos) : DE X (.Call (.Attribute o "get" apos) [e] [] cpos) (dGet1 to te) := by
  refine ⟨fun pins s σ H τ S Q I st hr h => ?_⟩
  refine wpAny_Call_method m.base m.few m.line PySem.F.plainAttrs_dict PySem.F.slot_dict_get PySem.F.type_dict_get (thn (ho.run pins s σ H τ S _ I st hr h) fun u s1 ⟨x, H1, I1, rx, e1, d, S1, hr1, rd, q1⟩ => ?_)
  cases rd with
  | ref a =>
    obtain rfl : u = Value.ref a := rx
    obtain ⟨t1, t2⟩ := isDct_at I1 hr1 q1.1
    refine ⟨t1, t2, ?_⟩
    rw [m.trees]
    refine Calls.callWith_builtin rfl (Calls.evalArgs_plain (Calls.spliced_cons (thn (he.run pins s1 σ H1 τ S1 _ I1 (st.ev e1) hr1 q1.2) fun iv s2 ⟨y, H2, I2, ry, e2, yd, S2, hr2, ryd, q2⟩ => Calls.spliced_nil ?_)))
    obtain ⟨kvs, ek, q2⟩ := onD.out q2
    obtain ⟨ov, H', c, hr', g, ro⟩ := dget_ok hr2 ek ryd
    exact wpAny_mono (dy_get1 hu (Inv.conv I2 c) g ry) (fun r s3 ⟨er, I3⟩ => ⟨_, H', I3, er, .of ((e1.trans e2).trans c.ev) hr' (ro.getD .non) q2⟩) fun _ _ z => z
  | _ => exact q1.elim
theorem de_get2 (hu : X.A.units + 1 < cLine) (ho : DE X o to) (he : DE X e te) (hf : DE X f tf) (m : M2 X o "get" apos e f cpos) : DE X (.Call (.Attribute o "get" apos) [e, f] [] cpos) (dGet2 to te tf) := by
  refine ⟨fun pins s σ H τ S Q I st hr h => ?_⟩
  refine wpAny_Call_method m.base m.few m.line PySem.F.plainAttrs_dict PySem.F.slot_dict_get PySem.F.type_dict_get (thn (ho.run pins s σ H τ S _ I st hr h) fun u s1 ⟨x, H1, I1, rx, e1, d, S1, hr1, rd, q1⟩ => ?_)
  cases rd with
  | ref a =>
    obtain rfl : u = Value.ref a := rx
    obtain ⟨t1, t2⟩ := isDct_at I1 hr1 q1.1
    refine ⟨t1, t2, ?_⟩
    rw [m.trees]
    refine Calls.callWith_builtin rfl (Calls.evalArgs_plain (Calls.spliced_cons (thn (he.run pins s1 σ H1 τ S1 _ I1 (st.ev e1) hr1 q1.2) fun iv s2 ⟨y, H2, I2, ry, e2, yd, S2, hr2, ryd, q2⟩ =>
      Calls.spliced_cons (thn (hf.run pins s2 σ H2 τ S2 _ I2 (st.ev (e1.trans e2)) hr2 q2) fun fv s3 ⟨z, H3, I3, rz, e3, zd, S3, hr3, rzd, q3⟩ => Calls.spliced_nil ?_))))
    obtain ⟨kvs, ek, q3⟩ := onD.out q3
    obtain ⟨ov, H', c, hr', g, ro⟩ := dget_ok hr3 ek (ryd.ev e3)
    exact wpAny_mono (dy_get2 hu (Inv.conv I3 c) g ry rz) (fun r s4 ⟨er, I4⟩ => ⟨_, H', I4, er, .of (((e1.trans e2).trans e3).trans c.ev) hr' (ro.getD (rzd.ev c.ev)) q3⟩) fun _ _ z => z
  | _ => exact q1.elim
end

/-! ### d[k] = v -/
section
variable {X : Cx} {pins : List (Addr × Obj)} {σ : L2.St} {H : Hp} {s : Shared} {E : Value → Shared → Prop}
theorem length_storedH {κ : Type} [DecidableEq κ] (xs : List (κ × Addr × Value)) (k : κ) (b : Addr) (u : Value) : (storedH xs k b u).length ≤ xs.length + 1 := by
  unfold storedH
  split
  · simp
  · simp
/-- a key stored: by setItem, by a comprehension -/
theorem dput_ok {S : Sto} {a : Addr} {kvs : List (D × D)} {ky v : V} {kd vd : D} {ku vu : Value} {t : Sem Unit} (I : Inv X pins σ H s) (hr : HR X.KW H S) (es : S a = some (.dct kvs)) (fit : keyFitW kvs kd = true) (hz : kvs.length < sizeLine) (r1 : RelV ky ku) (r2 : RelV v vu) (d1 : RelD X.KW H ky kd) (d2 : RelD X.KW H v vd)
    (tK : ∀ (H : Hp) (s : Shared) (k : Key) (vs : List (Key × Value)) (Q : Unit → Shared → Prop), (mixKind X.prog X.w).is k ku = true → s.heap.DictOf (mixKind X.prog X.w) a vs → vs.length ≤ sizeLine → (∀ h', h'.DictOf (mixKind X.prog X.w) a (stored vs k vu) → Heap.SameBut a s.heap h' → ∀ tk, Q () { s with heap := h', toks := tk }) → wpAny (model X.prog X.w) X.A t Q E s)
    (tT : ∀ (H : Hp) (s : Shared) (k : List Key) (b : Addr) (xs : List (List Key × Addr × Value)) (Q : Unit → Shared → Prop), ku = .ref b → (tupleKind (mixKind X.prog X.w)).is s.heap k b → s.heap.DictOfH (tupleKind (mixKind X.prog X.w)) a xs → xs.length ≤ sizeLine → (∀ h', h'.DictOfH (tupleKind (mixKind X.prog X.w)) a (storedH xs k b vu) → Heap.SameBut a s.heap h' → ∀ tk, Q () { s with heap := h', toks := tk }) → wpAny (model X.prog X.w) X.A t Q E s) :
    wpAny (model X.prog X.w) X.A t (fun _ s' => ∃ H', Inv X pins σ H' s' ∧ Ev H H' ∧ HR X.KW H' (put S a (.dct (dPut kvs kd vd)))) E s := by
  unfold keyFitW at fit
  rw [Bool.and_eq_true, decide_eq_true_eq] at fit
  obtain ⟨fit, hnn⟩ := fit
  have doK : ∀ (H1 : Hp) (es1 : List (Key × V)) (k : Key), Inv X pins σ H1 s → Ev H H1 → HR X.KW H1 S → H1 a = some (.dK es1) → RelKV DL.kD X.KW H1 es1 kvs → kd = DL.kD k → wpAny (model X.prog X.w) X.A t (fun _ s' => ∃ H', Inv X pins σ H' s' ∧ Ev H H' ∧ HR X.KW H' (put S a (.dct (dPut kvs kd vd)))) E s := by
    intro H1 es1 k I1 ev hr1 e1 rk ek
    subst ek
    have hkk := d1.kOk
    have ey := d1.kV
    subst ey
    obtain ⟨z, hd, vs, rel, dd⟩ := dk_of I1.hok e1
    have hzv : vs.length ≤ sizeLine := by rw [← rel.length]; exact z
    have hl : (putK es1 k v).length ≤ sizeLine := by have := length_putK es1 k v; have := rk.length; omega
    refine tK H1 s k vs _ (kV_is r1) dd hzv fun h' dd' hs tk => ?_
    have he : ∃ q, h'.get? a = some q := let ⟨q, _, _, hq, _⟩ := dd'; ⟨q, hq⟩
    have e2 : Ev H1 (upd H1 a (.dK (putK es1 k v))) := .upd e1 rfl
    exact ⟨_, d_write I1 (by rw [e1]; exact True.intro) hs he (dk_new hl hd (rel.put k r2) dd'), ev.trans e2, hr1.chg e1 rfl (.inl ⟨_, upd_same, ((rk.put (fun a b => kD_inj) k hkk (d2.ev ev)).ev e2)⟩)⟩
  have doT : ∀ (H1 : Hp) (xs : List (List Key × Addr × Value)) (k : List Key), Inv X pins σ H1 s → Ev H H1 → HR X.KW H1 S → H1 a = some (TDn X.KW a xs) → RelTV X.KW H1 xs kvs → kd = DL.kTD k → wpAny (model X.prog X.w) X.A t (fun _ s' => ∃ H', Inv X pins σ H' s' ∧ Ev H H' ∧ HR X.KW H' (put S a (.dct (dPut kvs kd vd)))) E s := by
    intro H1 xs k I1 ev hr1 e1 rk ek
    subst ek
    obtain ⟨b, rfl, tb⟩ := (d1.ev ev).kT
    cases r1
    obtain ⟨z, hd, dd⟩ := tdn_rd I1 (.inl e1) rk
    refine tT H1 s k b xs _ rfl (keyT I1 tb) dd z fun h' dd' hs tk => ?_
    obtain ⟨q, es, ep, hq, h2, h3, h4, _, h5⟩ := dd'
    have e2 : Ev H1 (upd H1 a (TDn X.KW a (storedH xs k b vu))) := .upd e1 rfl
    refine ⟨_, d_write (ob := TDn X.KW a (storedH xs k b vu)) I1 (by rw [e1]; exact True.intro) hs ⟨q, hq⟩ ⟨⟨⟨?_, hd⟩, q, es, ep, hq, h2, h3, h4, h5⟩, ⟨q, hq⟩, fun h1 h2 ⟨z, o, es, ep, q, r⟩ k => ⟨z, o, es, ep, k _ q, r⟩⟩, ev.trans e2, hr1.chg e1 rfl (.inr ⟨_, upd_same, (rk.put k tb r2 (d2.ev ev)).ev e2⟩)⟩
    have := length_storedH xs k b vu
    have := rk.length
    omega
  by_cases hn : kvs = []
  · subst hn
    rcases keyFit.nil fit with ⟨k, rfl⟩ | ⟨k, rfl⟩ | rfl
    · rcases hr a _ es with ⟨ks, h1, rk⟩ | ⟨ks, h1, rk⟩
      · exact doK H ks k I (.refl _) hr h1 rk rfl
      · cases rk
        have c : conv X.KW H (upd H a (.dK [])) a := .inr (.inr ⟨h1, rfl⟩)
        exact doK _ [] k (Inv.conv I c) c.ev (c.hr hr es) upd_same .nil rfl
    · rcases hr a _ es with ⟨ks, h1, rk⟩ | ⟨ks, h1, rk⟩
      · cases rk
        have c : conv X.KW H (upd H a (TDn X.KW a [])) a := .inr (.inl ⟨h1, rfl⟩)
        exact doT _ [] k (Inv.conv I c) c.ev (c.hr hr es) upd_same .nil rfl
      · exact doT H ks k I (.refl _) hr h1 rk rfl
    · exact absurd rfl hnn
  · rcases hr a _ es with ⟨ks, h1, rk⟩ | ⟨ks, h1, rk⟩
    · rcases keyFit.kD rk fit hn with ⟨k, rfl⟩ | rfl
      · exact doK H ks k I (.refl _) hr h1 rk rfl
      · exact absurd rfl hnn
    · obtain ⟨k, rfl⟩ := keyFit.kTD rk fit hn
      exact doT H ks k I (.refl _) hr h1 rk rfl
end
/-- o[i] = v of lists, dicts -/
def wSet : D → D → D → Sto → (Sto → Prop) → Prop := fun o i v S Q => match o with
  | .ref a => match S a with
    | some (.lst ds) => (match i with | .int k => (match ixN ds.length k with | some j => Q (put S a (.lst (ds.set j v))) | none => False) | _ => False)
    | some (.dct kvs) => keyFitW kvs i = true ∧ kvs.length < sizeLine ∧ Q (put S a (.dct (dPut kvs i v)))
    | _ => False
  | _ => False
theorem dset_any {X : Cx} (hu : X.A.units + 1 < cLine) : DSet X wSet := by
  intro pins s σ H o i v od id vd ov iv u S Q I hr ro ri rv d1 d2 d3 q
  unfold wSet at q
  split at q
  · rename_i a
    cases d1
    cases ro
    split at q
    · rename_i ds e
      split at q
      · rename_i k
        cases d2
        split at q
        · rename_i j ej
          obtain ⟨vs, h1, r⟩ := hr a _ e
          refine thn (set_list pins s σ H (V.ref a) (V.int k) v _ iv u (fun H' => H' = upd H a (.lst (vs.set j v))) I (show RelV (V.ref a) (Value.ref a) from rfl) ri rv ⟨a, vs, k, j, rfl, rfl, h1, by rw [r.length]; exact ej, rfl⟩) fun _ s' ⟨H', I', e'⟩ => ?_
          subst e'
          have ev : Ev H (upd H a (.lst (vs.set j v))) := .upd h1 rfl
          exact ⟨_, I', ev, _, hr.chg (b := .lst (ds.set j vd)) h1 rfl ⟨_, upd_same, (r.set d3 j).ev ev⟩, q⟩
        · exact q.elim
      · exact q.elim
    · rename_i kvs e
      refine thn (dput_ok I hr e q.1 q.2.1 ri rv d2 d3 (fun H s k vs Q hk dd hz h => wpAny_setItem_pairs (hsz := hz) hk dd fun h' dd' hs => h h' dd' hs _)
        (fun H s k b xs Q eb hk dd hz h => by subst eb; exact wpAny_setItem_heap (hsz := hz) (tupleKind_room_in1 hu) hk dd fun h' dd' hs => h h' dd' hs _)) fun _ s' ⟨H', I', ev, hr'⟩ => ⟨H', I', ev, _, hr', q.2.2⟩
    · exact q.elim
  · exact q.elim
end DL

namespace DL
open PySem PySem.Spec PyProof.Rows L2

/-! ### {k: v for ..}, {} -/
def emDct (tk tv : DTE) (D : Addr) : DEmT := fun τ S k => tk τ S fun kd S1 => tv τ S1 fun vd S2 => match S2 D with
  | some (.dct kvs) => keyFitW kvs kd = true ∧ kvs.length < sizeLine ∧ k (put S2 D (.dct (dPut kvs kd vd)))
  | _ => False
theorem em_dct {Y : Cx} {kx vx : Expr} {gs : List Comprehension} {scope : Scope} {pos : Pos} {tk tv : DTE} (hu : Y.A.units + 1 < cLine) (hxe : Y.xe = fun _ _ => False) (hk : DE Y kx tk) (hv : DE Y vx tv) (D : Addr) : DEm Y (emitOf (.DictComp kx vx gs scope pos) (.ref D) Y.env) (emDct tk tv D) := by
  refine ⟨fun pins s σ H τ S k I st hr q => ?_⟩
  have z := hk.run pins s σ H τ S _ I st hr q
  rw [hxe] at z
  show wpAny _ _ (do
    let kv ← eval kx Y.env
    let vv ← holding [kv] (eval vx Y.env)
    standAt { kx.pos with endLine := vx.pos.endLine, endCol := vx.pos.endCol }
    holding [kv, vv] (dictSet D kv vv)) _ _ s
  refine wpAny_bind (thnN z fun ku s1 ⟨kv, H1, I1, r1, e1, kd, S1, hr1, d1, q1⟩ => ?_)
  have z := hv.run pins s1 σ H1 τ S1 _ I1 (st.ev e1) hr1 q1
  rw [hxe] at z
  refine wpAny_bind (wpAny_holding (thnN z fun vu s2 ⟨vv, H2, I2, r2, e2, vd, S2, hr2, d2, q2⟩ => wpAny_bind (wpAny_standAt (wpAny_holding ?_))))
  simp only at q2
  split at q2
  · rename_i kvs e
    refine thn (dput_ok I2 hr2 e q2.1 q2.2.1 r1 r2 (d1.ev e2) d2 (fun H s k vs Q hk dd hz h => wpAny_dictSet_pairs (hsz := hz) hk dd fun h' dd' hs => h h' dd' hs _)
      (fun H s k b xs Q eb hk dd hz h => by subst eb; exact wpAny_dictSet_heap (hsz := hz) (show _ < _ by omega) hk dd fun h' dd' hs => h h' dd' hs _)) fun _ s' ⟨H', I', ev, hr'⟩ => ⟨H', _, I', (e1.trans e2).trans ev, hr', q2.2.2⟩
  · exact q2.elim
theorem na_dct {X : Cx} : NewAcc X newDict { cls := .type "dict", data := .dict #[] } (.dK []) (.dct []) where
  lay := fun s E Q q => wpAny_newObj_type q
  ok := fun h H hb => dk_empty h hb
  rel := fun H D => .inl ⟨[], upd_same, .nil⟩
  st := rfl
section
variable {X : Cx}
def dDC (wi : DTI) (g : DTG) (tt : DTT) (vs all : List Nat) (rs : List ClT) (tk tv : DTE) : DTE := dComp wi g tt vs all rs (emDct tk tv) (.dct [])
theorem de_dc {kx vx tg iter : Expr} {ifs : List Expr} {gs : List Comprehension} {scope : Scope} {own : List (Str × Nat)} {pos : Pos} {wi : DTI} {g : DTG} {tt : DTT} {tk tv : DTE} {vs : List Nat} {rs : List ClT}
    (hu : X.A.units + 1 < cLine) (hc : X.calm = true) (hN : X.N.Nodup) (hi : DI X tg iter wi) (ok : BlkOk X.N X.env.scope scope own)
    (hb : BlkAll X scope fun Y => DG Y tg g ∧ DTs Y ifs tt ∧ DCl Y gs rs ∧ DE Y kx tk ∧ DE Y vx tv) (hs : ∀ x, foldedSetIterable iter X.env x = pure x := by intro _; rfl) :
    DE X (.DictComp kx vx (⟨tg, iter, ifs, 0⟩ :: gs) scope pos) (dDC wi g tt vs (own.map (·.2)) rs tk tv) :=
  comp_val (pos' := firstIterPos (⟨tg, iter, ifs, 0⟩ :: gs) pos) rfl rfl rfl hc hN hi ok (fun s H C cl fp => let ⟨a, b, c, d, e⟩ := hb s H C cl fp; ⟨a, b, c, fun D => em_dct (Y := X.blk s H scope (compEnvC scope cl C X.env) fp) hu rfl d e D⟩) na_dct hs
theorem ds_dc {i : Nat} {y : Str} {py spos : Pos} {kx vx tg iter : Expr} {ifs : List Expr} {gs : List Comprehension} {scope : Scope} {own : List (Str × Nat)} {pos : Pos} {wi : DTI} {g : DTG} {tt : DTT} {tk tv : DTE} {vs : List Nat} {rs : List ClT}
    (hu : X.A.units + 1 < cLine) (hc : X.calm = true) (hN : X.N.Nodup) (hy : X.N[i]? = some y) (hyl : X.env.scope.names.lookup y = some .local) (hsw : swapsWith (.DictComp kx vx (⟨tg, iter, ifs, 0⟩ :: gs) scope pos) (some (.Name y py)) spos.line X.env = pure true)
    (hi : DI X tg iter wi) (ok : BlkOk X.N X.env.scope scope own)
    (hb : BlkAll X scope fun Y => DG Y tg g ∧ DTs Y ifs tt ∧ DCl Y gs rs ∧ DE Y kx tk ∧ DE Y vx tv) (hs : ∀ x, foldedSetIterable iter X.env x = pure x := by intro _; rfl) :
    DSm X (.Assign [.Name y py] (.DictComp kx vx (⟨tg, iter, ifs, 0⟩ :: gs) scope pos) spos) (dAsg (dDC wi g tt vs (own.map (·.2)) rs tk tv) (gdName i)) :=
  comp_asg (pos' := firstIterPos (⟨tg, iter, ifs, 0⟩ :: gs) pos) hy hyl (exec_Assign_Name_used _ _ _ _ hsw) rfl rfl rfl hc hN hi ok (fun s H C cl fp => let ⟨a, b, c, d, e⟩ := hb s H C cl fp; ⟨a, b, c, fun D => em_dct (Y := X.blk s H scope (compEnvC scope cl C X.env) fp) hu rfl d e D⟩) na_dct hs
def dNewD : DTE := fun _ S Q => ∀ p, S p = none → Q (.ref p) (put S p (.dct []))
theorem HR.dct0 {K : KW} {H : Hp} {S : Sto} {p : Addr} (hr : HR K H S) (n : H p = none) : HR K (upd H p (.dK [])) (put S p (.dct [])) := hr.newO n (.inl ⟨[], upd_same, .nil⟩)
theorem de_newD {pos : Pos} : DE X (.Dict [] [] pos) dNewD := .up pe_dnewK fun σ H τ S Q st hr q => fun p n => .of (.new n) (hr.dct0 n) (.ref p) (q p (hr.free n))

/-! ### {k: v, ..} -/
def dPairs : List (DTE × DTE) → DSt → Sto → (List (D × D) → Sto → Prop) → Prop
  | [], _, S, Q => Q [] S
  | (tk, tv) :: r, τ, S, Q => tk τ S fun x S1 => tv τ S1 fun y S2 => dPairs r τ S2 fun ps S3 => Q ((x, y) :: ps) S3
inductive RelPs (K : KW) (H : Hp) : List (V × V) → List (D × D) → Prop
  | nil : RelPs K H [] []
  | cons {k v kd vd r t} : RelD K H k kd → RelD K H v vd → RelPs K H r t → RelPs K H ((k, v) :: r) ((kd, vd) :: t)
theorem RelPs.ev {K : KW} {H H' : Hp} : ∀ {a b}, RelPs K H a b → Ev H H' → RelPs K H' a b
  | _, _, .nil, _ => .nil
  | _, _, .cons a b t, e => .cons (a.ev e) (b.ev e) (t.ev e)
structure DPs (X : Cx) (pos : Pos) (keys : List (Option Expr)) (values : List Expr) (trs : List (DTE × DTE)) : Prop where
  run : ∀ (pins : List (Addr × Obj)) (s : Shared) (σ : L2.St) (H : Hp) (τ : DSt) (S : Sto) (Q : List (D × D) → Sto → Prop), Inv X pins σ H s → StR X.KW H σ τ → HR X.KW H S → dPairs trs τ S Q →
    wpAny (model X.prog X.w) X.A (evalPairs (pairTrees keys values X.env pos)) (fun vs s' => ∃ ps H', Inv X pins σ H' s' ∧ VV ps vs ∧ Ev H H' ∧ ∃ ds S', HR X.KW H' S' ∧ RelPs X.KW H' ps ds ∧ Q ds S') X.xe s
theorem dps_nil {pos : Pos} : DPs X pos [] [] [] := ⟨fun pins s σ H τ S Q I st hr h => pairTrees_nil_walk ⟨[], H, I, .nil, .refl _, [], S, hr, .nil, h⟩⟩
theorem dps_cons {pos : Pos} {k v : Expr} {ks : List (Option Expr)} {vs : List Expr} {tk tv : DTE} {trs : List (DTE × DTE)} (hk : DE X k tk) (hv : DE X v tv) (h : DPs X pos ks vs trs) :
    DPs X pos (some k :: ks) (v :: vs) ((tk, tv) :: trs) := ⟨fun pins s σ H τ S Q I st hr q =>
  pairTrees_cons_walk (thn (hk.run pins s σ H τ S _ I st hr q) fun u s1 ⟨x, H1, I1, rx, e1, xd, S1, hr1, dx, q1⟩ => thn (hv.run pins s1 σ H1 τ S1 _ I1 (st.ev e1) hr1 q1) fun w2 s2 ⟨y, H2, I2, ry, e2, yd, S2, hr2, dy, q2⟩ =>
    thn (h.run pins s2 σ H2 τ S2 _ I2 (st.ev (e1.trans e2)) hr2 q2) fun ws s3 ⟨ps, H3, I3, rel, e3, ds, S3, hr3, dp, q3⟩ => ⟨(x, y) :: ps, H3, I3, .cons ⟨rx, ry⟩ rel, (e1.trans e2).trans e3, (xd, yd) :: ds, S3, hr3, .cons (dx.ev (e2.trans e3)) (dy.ev e3) dp, q3⟩)⟩
def kvMerge (kvs more : List (D × D)) : List (D × D) := more.foldl (fun acc kv => dPut acc kv.1 kv.2) kvs
def leafAll (ps : List (D × D)) : Bool := ps.all fun p => (leafK p.1).isSome
theorem relPs_K {K : KW} {H : Hp} : ∀ {ps : List (V × V)} {ds : List (D × D)}, RelPs K H ps ds → leafAll ds = true → ∃ es : List (Key × V), ps = es.map (fun kv => (L2.kV kv.1, kv.2)) ∧ RelKV kD K H es ds
  | _, _, .nil, _ => ⟨[], rfl, .nil⟩
  | _, _, .cons rk rv t, h => by
    simp only [leafAll, List.all_cons, Bool.and_eq_true] at h
    obtain ⟨k, ek⟩ := Option.isSome_iff_exists.mp h.1
    obtain ⟨es, e1, e2⟩ := relPs_K t h.2
    have := leafK_eq ek
    subst this
    have hkk := rk.kOk
    have e3 := rk.kV
    subst e3
    exact ⟨(k, _) :: es, by rw [List.map_cons, e1], .cons hkk rv e2⟩
theorem relKV_merge {K : KW} {H : Hp} : ∀ {more : List (Key × V)} {md : List (D × D)}, RelKV kD K H more md → ∀ {es : List (Key × V)} {ds : List (D × D)}, RelKV kD K H es ds → RelKV kD K H (mergeK es more) (kvMerge ds md)
  | _, _, .nil, _, _, h => h
  | _, _, .cons (k := k) hk r t, es, ds, h => by
    show RelKV kD K H (mergeK (putK es k _) _) (kvMerge (dPut ds (kD k) _) _)
    exact relKV_merge t (h.put (fun a b => kD_inj) k hk r)
/-- a display of at most 15 pairs, its keys ints and texts -/
def dDisp (trs : List (DTE × DTE)) : DTE := fun τ S Q => ∀ p, S p = none → dPairs trs τ (put S p (.dct [])) fun ps S1 => S1 p = some (.dct []) ∧ (leafAll ps = true ∧ ps.length ≤ 15) ∧ Q (.ref p) (put S1 p (.dct (kvMerge [] ps)))
theorem relPs_len {K : KW} {H : Hp} : ∀ {ps : List (V × V)} {ds : List (D × D)}, RelPs K H ps ds → ps.length = ds.length
  | _, _, .nil => rfl
  | _, _, .cons _ _ t => by simp [relPs_len t]
theorem de_disp {pos : Pos} {keys : List (Option Expr)} {values : List Expr} {trs : List (DTE × DTE)} (h : DPs X pos keys values trs) (hall : keys.all (·.isSome) = true) (hl : keys.length = values.length) (h0 : keys ≠ [])
    (h15 : keys.length ≤ 15) : DE X (.Dict keys values pos) (dDisp trs) := ⟨fun pins s σ H τ S Q I st hr q => by
  have hn := I.hok.fresh (Nat.le_refl s.heap.objs.size)
  have I1 := I.laid (a := s.heap.objs.size) (o := .dK []) (h' := s.heap.push { cls := .type "dict", data := .dict #[] }) (t' := s.toks) (fun _ _ q => Heap.get?_push_of_some _ q) (Nat.le_refl _) (dk_empty s.heap I.big)
  have e0 : Ev H (upd H s.heap.objs.size (.dK [])) := .new hn
  refine wpAny_Dict_walk (knd := mixKind X.prog X.w) hall hl h0 h15 (thn (h.run pins _ σ _ τ _ _ I1 (st.ev e0) (hr.dct0 hn) (q _ (hr.free hn))) fun ws s2 ⟨ps, H2, I2, rel, e2, ds, S2, hr2, rp, q1, q2, q3⟩ => ?_)
  obtain ⟨es, ep, rk⟩ := relPs_K rp q2.1
  subst ep
  obtain ⟨rs, c, rk'⟩ := carries_of (P := X.prog) (w := X.w) rel
  obtain ⟨H3, c3, hr3, e3⟩ : ∃ H3, conv X.KW H2 H3 s.heap.objs.size ∧ HR X.KW H3 S2 ∧ H3 s.heap.objs.size = some (.dK []) := by
    rcases hr2 _ _ q1 with ⟨ks, h1, rk⟩ | ⟨ks, h1, rk⟩
    · cases rk; exact ⟨H2, .inl rfl, hr2, h1⟩
    · cases rk
      have c : conv X.KW H2 (upd H2 s.heap.objs.size (.dK [])) s.heap.objs.size := .inr (.inr ⟨h1, rfl⟩)
      exact ⟨_, c, c.hr hr2 q1, upd_same⟩
  have I3 := Inv.conv I2 c3
  obtain ⟨z, hd, vs0, r0, dd⟩ := dk_of I3.hok e3
  cases r0
  refine ⟨rs, c, dd, fun h' dd' hs => ?_⟩
  have hz : (mergeK [] es).length ≤ sizeLine := by
    have h1 := length_mergeK es []
    rw [List.length_nil] at h1
    have h2 : es.length ≤ 15 := by
      have := rk.length
      have := q2.2
      omega
    rw [sizeLine_eq]; omega
  have he : ∃ q, h'.get? s.heap.objs.size = some q := let ⟨q, _, _, hq, _⟩ := dd'; ⟨q, hq⟩
  have e4 : Ev H3 (upd H3 s.heap.objs.size (.dK (mergeK [] es))) := .upd e3 rfl
  refine ⟨.ref s.heap.objs.size, _, d_write I3 (by rw [e3]; exact True.intro) hs he (dk_new hz hd (rk'.merge .nil) dd'), rfl, .of (((e0.trans e2).trans c3.ev).trans e4) (hr3.chg (b := .dct (kvMerge [] ds)) e3 rfl (.inl ⟨_, upd_same, ?_⟩)) (.ref _) q3⟩
  exact (relKV_merge (rk.ev c3.ev) .nil).ev e4⟩
end
end DL

namespace DL
open PySem PySem.Spec PyProof.Rows L2

/-! ### dict(..) -/
def seqOf (S : Sto) : D → Option (List D)
  | .tup ds => some ds
  | .fz ds => some ds
  | .ref a => match S a with | some (.lst ds) => some ds | _ => none
  | _ => none
def pairD : D → Option (D × D)
  | .tup [k, v] => some (k, v)
  | _ => none
def pairsD : List D → Option (List (D × D))
  | [] => some []
  | d :: ds => match pairD d, pairsD ds with | some p, some ps => some (p :: ps) | _, _ => none
def tupAll (ps : List (D × D)) : Bool := ps.all fun p => (leafT p.1).isSome
theorem pairD_eq {d : D} {p : D × D} (h : pairD d = some p) : d = .tup [p.1, p.2] := by
  unfold pairD at h
  split at h
  · cases h; rfl
  · cases h
section
variable {X : Cx} {pins : List (Addr × Obj)} {σ : L2.St} {H : Hp} {s : Shared} {S : Sto}
theorem tup_obj {a : Addr} {vs : List V} (I : Inv X pins σ H s) (t : TupAt X.KW H a vs) : ∃ its : List Value, Vals vs its ∧ PlainSeq "tuple" s.heap a its.toArray ∧ vs.length ≤ sizeLine := by
  rcases t with ⟨o, hd, h⟩ | ⟨o, its, n, h1, h2, h3, h4, h5, h6⟩
  · obtain ⟨e, z, its, r, o', h1, h2, n, h3⟩ := (show ObjOk X.prog X.w H s.heap a (.frz o (.tup vs)) from I.hok a _ h)
    rw [e] at h1; cases h1
    exact ⟨its, r, ⟨o, n, e, h2, hd, h3⟩, z⟩
  · exact ⟨its.toList, h6, ⟨o, n, I.kIn _ _ h1, h2, h3, h4⟩, by rw [h6.length]; simpa using h5⟩
theorem lst_obj {a : Addr} {vs : List V} (I : Inv X pins σ H s) (q : SqL X.K H a vs) : ∃ its : List Value, Vals vs its ∧ PlainSeq "list" s.heap a its.toArray ∧ vs.length ≤ sizeLine := by
  obtain ⟨its, rv, ⟨o, n, ho, hc, hd, hdat⟩, hz⟩ := I.list q
  exact ⟨its, rv, ⟨o, n, ho, hc, hd, hdat⟩, hz⟩
theorem seq_at {v : V} {u : Value} {d : D} {ds : List D} (I : Inv X pins σ H s) (hr : HR X.KW H S) (rv : RelV v u) (rd : RelD X.KW H v d) (h : seqOf S d = some ds) :
    ∃ a its vs, u = .ref a ∧ v = .ref a ∧ Vals vs its ∧ RelDs X.KW H vs ds ∧ vs.length ≤ sizeLine ∧ (PlainSeq "list" s.heap a its.toArray ∨ PlainSeq "tuple" s.heap a its.toArray) := by
  cases rd with
  | tup t r =>
    cases h; cases rv
    obtain ⟨its, a, b, c⟩ := tup_obj I t
    exact ⟨_, its, _, rfl, rfl, a, r, c, .inr b⟩
  | fz t r =>
    cases h; cases rv
    obtain ⟨its, a, b, c⟩ := lst_obj I t.sq
    exact ⟨_, its, _, rfl, rfl, a, r, c, .inl b⟩
  | ref a =>
    simp only [seqOf] at h
    split at h
    · rename_i ds' e
      cases h; cases rv
      obtain ⟨vs, h1, r⟩ := hr a _ e
      obtain ⟨its, x, b, c⟩ := lst_obj I (SqL.of h1)
      exact ⟨_, its, _, rfl, rfl, x, r, c, .inl b⟩
    · cases h
  | _ => cases h
/-- the pairs laid, read -/
theorem pairs_at (I : Inv X pins σ H s) : ∀ {vs : List V} {ds : List D} {its : List Value} {pd : List (D × D)}, Vals vs its → RelDs X.KW H vs ds → pairsD ds = some pd →
    ∃ (ps : List (Value × Value)) (kv : List (V × V)) (Ts : List Addr), its = Ts.map Value.ref ∧ Ts.length = ps.length ∧ VV kv ps ∧ RelPs X.KW H kv pd ∧ ∀ (j : Nat) (k v : Value), ps[j]? = some (k, v) → ∃ T, Ts[j]? = some T ∧ s.heap.IsTuple T #[k, v]
  | _, _, _, _, .nil, .nil, h => by cases h; exact ⟨[], [], [], rfl, rfl, .nil, .nil, fun j k v e => by simp at e⟩
  | _, _, _, _, .cons rv tv, .cons rd td, h => by
    simp only [pairsD] at h
    split at h
    · rename_i p ps' h1 h2
      cases h
      obtain ⟨ps, kv, Ts, e1, e2, e3, e4, e5⟩ := pairs_at I tv td h2
      have := pairD_eq h1
      subst this
      cases rd with
      | tup t r =>
        cases rv
        rename_i b vs'
        obtain ⟨its', r1, p1, _⟩ := I.tuple t.sq
        cases r with
        | cons ra r =>
        cases r with
        | cons rb r =>
        cases r
        cases r1 with
        | cons rka r1 =>
        cases r1 with
        | cons rkb r1 =>
        cases r1
        rename_i ka kb
        refine ⟨(ka, kb) :: ps, (_, _) :: kv, b :: Ts, by rw [List.map_cons, e1], by simp [e2], .cons ⟨rka, rkb⟩ e3, .cons ra rb e4, fun j k v e => ?_⟩
        cases j with
        | zero =>
          simp only [List.getElem?_cons_zero, Option.some.injEq, Prod.mk.injEq] at e
          obtain ⟨rfl, rfl⟩ := e
          exact ⟨b, rfl, p1⟩
        | succ j => simpa using e5 j k v (by simpa using e)
    · cases h
theorem pairItems_of {its : List Value} {ps : List (Value × Value)} {Ts : List Addr} (e1 : its = Ts.map Value.ref) (e2 : Ts.length = ps.length) (e5 : ∀ (j : Nat) (k v : Value), ps[j]? = some (k, v) → ∃ T, Ts[j]? = some T ∧ s.heap.IsTuple T #[k, v]) :
    PairItems s.heap its.toArray (fun j => Ts.getD j 0) ps := by
  refine ⟨by subst e1; simp [e2], fun j k v e => ?_⟩
  obtain ⟨T, h1, h2⟩ := e5 j k v e
  subst e1
  have : (fun j => Ts.getD j 0) j = T := by simp [List.getD, h1]
  rw [this]
  exact ⟨by simp [h1], .inl h2⟩
theorem vv_get : ∀ {kv : List (V × V)} {ps : List (Value × Value)}, VV kv ps → ∀ {i : Nat} {k v : Value}, ps[i]? = some (k, v) → ∃ a b, kv[i]? = some (a, b) ∧ RelV a k ∧ RelV b v := by
  intro kv ps h
  induction h with
  | nil => intro i k v e; simp at e
  | @cons p q ps qs h t ih =>
    intro i k v e
    cases i with
    | zero =>
      simp only [List.getElem?_cons_zero, Option.some.injEq] at e
      subst e
      exact ⟨_, _, rfl, h.1, h.2⟩
    | succ i => simpa using ih (by simpa using e)
/-- dict(s) of a list or a tuple of pairs, its keys ints and texts -/
theorem dict_pairsK {E : Value → Shared → Prop} {a : Addr} {its : List Value} {vs : List V} {ds : List D} {pd : List (D × D)} {Q : Value → Shared → Prop} (hc : X.calm = true) (I : Inv X pins σ H s) (rv : Vals vs its) (rd : RelDs X.KW H vs ds) (hz : vs.length ≤ sizeLine)
    (hp : PlainSeq "list" s.heap a its.toArray ∨ PlainSeq "tuple" s.heap a its.toArray) (h : pairsD ds = some pd) (hl : leafAll pd = true)
    (k : ∀ p es s', H p = none → RelKV kD X.KW H es (kvMerge [] pd) → Inv X pins σ (upd H p (.dK es)) s' → Q (.ref p) s') : wpAny (model X.prog X.w) X.A (call (.type "dict") [.ref a]) Q E s := by
  obtain ⟨ps, kv, Ts, e1, e2, e3, e4, e5⟩ := pairs_at I rv rd h
  obtain ⟨es, ek, rk⟩ := relPs_K e4 hl
  subst ek
  obtain ⟨rs, c, rk'⟩ := carries_of (P := X.prog) (w := X.w) e3
  have pi := pairItems_of e1 e2 e5
  have hn : ps.length ≤ sizeLine := by
    have h1 := rv.length
    have h2 : its.length = ps.length := by rw [e1, List.length_map, e2]
    omega
  have have' : PairsHave (mixKind X.prog X.w) ps.length (PairRel ps) rs := by
    refine ⟨c.length, ?_⟩
    clear pi e5 e2 hn e3 rk' rk
    induction ps generalizing rs with
    | nil => intro i key v e; exact absurd (show ([] : List (Value × Value))[i]? = some (key, v) from e) (by simp)
    | cons p ps ih =>
      cases rs with
      | nil => exact c.elim
      | cons q rs =>
        obtain ⟨pk, pv⟩ := p
        obtain ⟨qk, qv⟩ := q
        obtain ⟨c1, c2, c3⟩ := c
        intro i key v e
        cases i with
        | zero =>
          have e : some (pk, pv) = some (key, v) := e
          cases e
          exact ⟨qk, by rw [c2]; rfl, c1⟩
        | succ i => exact ih rs c3 i key v e
  have fin : ∀ h' tk, h'.DictOf (mixKind X.prog X.w) s.heap.objs.size (merged [] rs) → (∀ b o, b ∉ ([] : List Addr) → s.heap.get? b = some o → h'.get? b = some o) → Q (.ref s.heap.objs.size) { s with heap := h', toks := tk } := by
    intro h' tk hd' hk
    have hm : (s.heap.objs.size == sysModules) = false := beq_eq_false_iff_ne.mpr (Nat.ne_of_gt I.big)
    have hlen : (mergeK [] es).length ≤ sizeLine := by
      refine Nat.le_trans (length_mergeK es []) ?_
      have : es.length = rs.length := rk'.length
      have := c.length
      simp only [List.length_nil, Nat.zero_add]
      omega
    exact k _ _ _ (I.hok.fresh (Nat.le_refl _)) (relKV_merge rk .nil) (I.laid (t' := tk) (fun b o e => hk b o (by simp) e) (Nat.le_refl _) (show ObjOk X.prog X.w _ _ _ (.dK (mergeK [] es)) from ⟨hlen, hm, merged [] rs, KV.merge rk' .nil, hd'⟩))
  rcases hp with hp | hp
  · exact PySem.call_dict_pairs (PairArg.list (prog := X.prog) (w := X.w) a its.toArray (fun j => Ts.getD j 0) ps) (I.ok.hd hc) ⟨hp, pi⟩ have' hn fin
  · exact PySem.call_dict_pairs (PairArg.tuple (prog := X.prog) (w := X.w) a its.toArray (fun j => Ts.getD j 0) ps) (I.ok.hd hc) ⟨hp, pi⟩ have' hn fin
theorem relPs_T {K : KW} : ∀ {ps : List (V × V)} {ds : List (D × D)} {vs : List (Value × Value)}, RelPs K H ps ds → VV ps vs → tupAll ds = true →
    ∃ xs : List (List Key × Addr × Value), RelTV K H xs ds ∧ xs.length = vs.length ∧ ∀ (i : Nat) (k v : Value), vs[i]? = some (k, v) → ∃ (kk : List Key) (b : Addr), xs[i]? = some (kk, b, v) ∧ k = Value.ref b
  | _, _, _, .nil, .nil, _ => ⟨[], .nil, rfl, fun i k v e => by simp at e⟩
  | _, _, _, .cons rk rv t, .cons rr tt, h => by
    simp only [tupAll, List.all_cons, Bool.and_eq_true] at h
    obtain ⟨k, ek⟩ := Option.isSome_iff_exists.mp h.1
    obtain ⟨xs, e1, e2, e3⟩ := relPs_T t tt h.2
    have := leafT_eq ek
    subst this
    obtain ⟨b, eb, tb⟩ := rk.kT
    subst eb
    obtain ⟨r1, r2⟩ := rr
    have r1 : _ = Value.ref b := r1
    refine ⟨(k, b, _) :: xs, .cons tb r2 rv e1, by simp [e2], fun i k' v e => ?_⟩
    cases i with
    | zero =>
      simp only [List.getElem?_cons_zero, Option.some.injEq] at e
      subst e
      exact ⟨k, b, rfl, r1⟩
    | succ i => simpa using e3 i k' v (by simpa using e)
theorem relTV_all {K : KW} : ∀ {xs : List (List Key × Addr × Value)} {ds : List (D × D)}, RelTV K H xs ds → ∀ {ys : List (List Key × Addr × Value)} {es : List (D × D)}, RelTV K H ys es → RelTV K H (storedAllH ys xs) (kvMerge es ds)
  | _, _, .nil, _, _, h => h
  | _, _, .cons (k := k) (b := b) (u := u) tb ru rd t, ys, es, h => by
    show RelTV K H (storedAllH (storedH ys k b u) _) (kvMerge (dPut es (kTD k) _) _)
    exact relTV_all t (h.put k tb ru rd)
/-- .. its keys tuples -/
theorem dict_pairsT {E : Value → Shared → Prop} {a : Addr} {its : List Value} {vs : List V} {ds : List D} {pd : List (D × D)} {Q : Value → Shared → Prop} (hu : X.A.units + 2 < cLine) (hc : X.calm = true) (I : Inv X pins σ H s) (rv : Vals vs its) (rd : RelDs X.KW H vs ds) (hz : vs.length ≤ sizeLine)
    (hp : PlainSeq "list" s.heap a its.toArray ∨ PlainSeq "tuple" s.heap a its.toArray) (h : pairsD ds = some pd) (hl : tupAll pd = true)
    (k : ∀ p xs s', H p = none → RelTV X.KW H xs (kvMerge [] pd) → Inv X pins σ (upd H p (TDn X.KW p xs)) s' → Q (.ref p) s') : wpAny (model X.prog X.w) X.A (call (.type "dict") [.ref a]) Q E s := by
  obtain ⟨ps, kv, Ts, e1, e2, e3, e4, e5⟩ := pairs_at I rv rd h
  obtain ⟨xs, rk, el, ex⟩ := relPs_T e4 e3 hl
  have pi := pairItems_of e1 e2 e5
  have hn : ps.length ≤ sizeLine := by
    have h1 := rv.length
    have h2 : its.length = ps.length := by rw [e1, List.length_map, e2]
    omega
  have have' : PairsHaveH (tupleKind (mixKind X.prog X.w)) ps.length (PairRel ps) xs := ⟨el, ex⟩
  have keys := tdn_keys I rk
  have stay : KeysStay (tupleKind (mixKind X.prog X.w)) s.heap s.heap.objs.size [] xs := by
    intro h' hk x hx
    obtain ⟨o, arr, n, g1, g2, g3, g4⟩ := keys x hx
    exact ⟨o, arr, n, hk _ _ (Nat.ne_of_lt (Heap.lt_size g1)) (by simp) g1, g2, g3, g4⟩
  have fin : ∀ h' tk, h'.DictOfH (tupleKind (mixKind X.prog X.w)) s.heap.objs.size (storedAllH [] xs) → (∀ b o, b ∉ ([] : List Addr) → s.heap.get? b = some o → h'.get? b = some o) → Q (.ref s.heap.objs.size) { s with heap := h', toks := tk } := by
    intro h' tk hd' hk
    have hm : (s.heap.objs.size == sysModules) = false := beq_eq_false_iff_ne.mpr (Nat.ne_of_gt I.big)
    have hlen := storedAllH_length xs []
    obtain ⟨o, es, ep, g1, g2, g3, g4, _, g5⟩ := hd'
    refine k _ _ _ (I.hok.fresh (Nat.le_refl _)) (relTV_all rk .nil) (I.laid (o := TDn X.KW s.heap.objs.size (storedAllH [] xs)) (t' := tk) (fun b o e => hk b o (by simp) e) (Nat.le_refl _) ⟨⟨⟨?_, hm⟩, o, es, ep, g1, g2, g3, g4, g5⟩, ⟨o, g1⟩, fun h1 h2 ⟨z, o, es, ep, q, r⟩ k => ⟨z, o, es, ep, k _ q, r⟩⟩)
    simp only [List.length_nil, Nat.zero_add] at hlen
    omega
  rcases hp with hp | hp
  · exact PySem.call_dict_pairsH (PairArg.list (prog := X.prog) (w := X.w) a its.toArray (fun j => Ts.getD j 0) ps) (I.ok.hd hc) (show _ < _ by show X.A.in1.units + 1 < cLine; simp [Around.in1]; omega) ⟨hp, pi⟩ have' stay hn fin
  · exact PySem.call_dict_pairsH (PairArg.tuple (prog := X.prog) (w := X.w) a its.toArray (fun j => Ts.getD j 0) ps) (I.ok.hd hc) (show _ < _ by show X.A.in1.units + 1 < cLine; simp [Around.in1]; omega) ⟨hp, pi⟩ have' stay hn fin
def wDict : List D → Sto → KD → Prop := fun xs S Q => match xs with
  | [] => ∀ p, S p = none → Q (.ref p) (put S p (.dct []))
  | [d] => match seqOf S d with
    | some ds => onS (pairsD ds) fun ps => (leafAll ps || tupAll ps) = true ∧ ∀ p, S p = none → Q (.ref p) (put S p (.dct (kvMerge [] ps)))
    | none => match d with
      | .ref a => match S a with
        | some (.dct kvs) => kvs ≠ [] ∧ leafAll kvs = true ∧ ∀ p, S p = none → Q (.ref p) (put S p (.dct kvs))
        | _ => False
      | _ => False
  | _ => False
theorem dcall_dict (hu : X.A.units + 2 < cLine) (hc : X.calm = true) : DCall X (.type "dict") wDict := by
  intro pins s σ H xs us ds S Q I rv hr rd q
  unfold wDict at q
  split at q
  · cases rd; cases rv
    have n := I.hok.fresh (Nat.le_refl s.heap.objs.size)
    exact FK.call_dict0 ⟨.ref s.heap.objs.size, _, I.laid (a := s.heap.objs.size) (o := .dK []) (t' := s.toks) (fun _ _ q => Heap.get?_push_of_some _ q) (Nat.le_refl _) (dk_empty s.heap I.big), rfl, .of (.new n) (hr.dct0 n) (.ref _) (q _ (hr.free n))⟩
  · rename_i d
    obtain ⟨v, rfl, r⟩ := rd.one
    cases rv with
    | cons rv t =>
    cases t
    split at q
    · rename_i ds e
      obtain ⟨pd, ep, q1, q2⟩ := onS.out q
      obtain ⟨a, its, vs, rfl, rfl, z1, z2, z3, z4⟩ := seq_at I hr rv r e
      by_cases hl : leafAll pd = true
      · exact dict_pairsK hc I z1 z2 z3 z4 ep hl fun p es s' n rk I' => ⟨.ref p, _, I', rfl, .of (.new n) (hr.newO (ao := .dct _) n (.inl ⟨es, upd_same, rk.ev (.new n)⟩)) (.ref p) (q2 p (hr.free n))⟩
      · have ht : tupAll pd = true := by simpa [hl] using q1
        exact dict_pairsT hu hc I z1 z2 z3 z4 ep ht fun p es s' n rk I' => ⟨.ref p, _, I', rfl, .of (.new n) (hr.newO (ao := .dct _) n (.inr ⟨es, upd_same, rk.ev (.new n)⟩)) (.ref p) (q2 p (hr.free n))⟩
    · split at q
      · rename_i a _
        cases r
        cases rv
        split at q
        · rename_i kvs e
          obtain ⟨q1, q2, q3⟩ := q
          rcases hr a _ e with ⟨es, h1, rk⟩ | ⟨es, h1, rk⟩
          · exact d_copyOf I (.inl h1) fun p s' n I' => ⟨.ref p, _, I', rfl, .of (.new n) (hr.newO (ao := .dct _) n (.inl ⟨es, upd_same, rk.ev (.new n)⟩)) (.ref p) (q3 p (hr.free n))⟩
          · cases rk with
            | nil => exact absurd rfl q1
            | cons _ _ _ _ => simp [leafAll, leafK_kTD] at q2
        · exact q.elim
      · exact q.elim
  · exact q.elim
end
end DL

namespace DL
open PySem PySem.Spec PyProof.Rows L2

/-! ### a dict walked: it is locked meanwhile -/
def EntAt (K : KW) (H : Hp) (es : Array DictEntry) (kvs : List (D × D)) : Prop :=
  es.size = kvs.length ∧ ∀ (i : Nat) (en : DictEntry) (kd vd : D), es[i]? = some en → kvs[i]? = some (kd, vd) → (∃ k, RelV k en.key ∧ RelD K H k kd) ∧ ∃ v, RelV v en.val ∧ RelD K H v vd
section
variable {X : Cx} {pins : List (Addr × Obj)} {σ : L2.St} {H : Hp} {s : Shared}
theorem relKV_get {κ : Type} {f : κ → D} {K : KW} : ∀ {es : List (κ × V)} {kvs : List (D × D)}, RelKV f K H es kvs → ∀ {i : Nat} {kd vd : D}, kvs[i]? = some (kd, vd) → ∃ k v, es[i]? = some (k, v) ∧ kd = f k ∧ (∀ x, f k = .str x → PyData.strOk x = true) ∧ RelD K H v vd
  | _, _, .nil, i, kd, vd, e => by simp at e
  | _, _, .cons hk r t, 0, kd, vd, e => by
    simp only [List.getElem?_cons_zero, Option.some.injEq, Prod.mk.injEq] at e
    obtain ⟨rfl, rfl⟩ := e
    exact ⟨_, _, rfl, rfl, hk, r⟩
  | _, _, .cons hk r t, i + 1, kd, vd, e => by
    obtain ⟨k, v, h⟩ := relKV_get t (i := i) (by simpa using e)
    exact ⟨k, v, by simpa using h⟩
theorem relTV_get {K : KW} : ∀ {xs : List (List Key × Addr × Value)} {kvs : List (D × D)}, RelTV K H xs kvs → ∀ {i : Nat} {kd vd : D}, kvs[i]? = some (kd, vd) → ∃ k b u v, xs[i]? = some (k, b, u) ∧ kd = kTD k ∧ KeyT K H b k ∧ RelV v u ∧ RelD K H v vd
  | _, _, .nil, i, kd, vd, e => by simp at e
  | _, _, .cons tb ru r t, 0, kd, vd, e => by
    simp only [List.getElem?_cons_zero, Option.some.injEq, Prod.mk.injEq] at e
    obtain ⟨rfl, rfl⟩ := e
    exact ⟨_, _, _, _, rfl, rfl, tb, ru, r⟩
  | _, _, .cons tb ru r t, i + 1, kd, vd, e => by
    obtain ⟨k, b, u, v, h⟩ := relTV_get t (i := i) (by simpa using e)
    exact ⟨k, b, u, v, by simpa using h⟩
/-- the locked dict, as it stands -/
theorem fdc_at {S : Sto} {a : Addr} {o : Obj} {kvs : List (D × D)} (I : Inv X pins σ H s) (hr : HR X.KW H S) (e : S a = some (.fdc o kvs)) :
    (a == sysModules) = false ∧ s.heap.get? a = some o ∧ o.ExactDict ∧ ∃ es ep, o.data = .dict es ep ∧ EntAt X.KW H es kvs := by
  rcases hr a _ e with ⟨ks, h1, rk⟩ | ⟨xs, h1, rk⟩
  · obtain ⟨z, hd, vs, kv, o', es, ep, ho, hx, hdt, hk, hp, hn⟩ := dk_rd I.hok (.inr ⟨_, h1⟩)
    have hg : s.heap.get? a = some o := (show ObjOk X.prog X.w H s.heap a (.frz o (.dK ks)) from I.hok a _ h1).1
    rw [hg] at ho; cases ho
    have hsz : es.size = kvs.length := by
      have l1 := hp.length
      have l2 : ks.length = vs.length := Paired.length kv
      have l3 := rk.length
      rw [Array.length_toList] at l1
      omega
    refine ⟨hd, hg, hx, es, ep, hdt, hsz, fun i en kd vd e1 e2 => ?_⟩
    obtain ⟨k, v, q1, rfl, hs, q3⟩ := relKV_get rk e2
    obtain ⟨u, q4, q5⟩ := kv_get kv q1
    obtain ⟨q6, q7⟩ := hp.get? (e := en) (by simpa using e1) q4
    refine ⟨⟨L2.kV k, relV_key q6, ?_⟩, v, by rw [q7]; exact q5, q3⟩
    cases k with
    | inl i => exact .int i
    | inr x => exact .str x (hs x rfl)
  · obtain ⟨z, hd, o', es, ep, ho, hx, hdt, hes, _, _⟩ := tdn_rd I (.inr ⟨_, h1⟩) rk
    have hg : s.heap.get? a = some o := (show ObjOk X.prog X.w H s.heap a (.frz o (TDn X.KW a xs)) from I.hok a _ h1).1
    rw [hg] at ho; cases ho
    refine ⟨hd, hg, hx, es, ep, hdt, by rw [size_of_entries hes, rk.length], fun i en kd vd e1 e2 => ?_⟩
    obtain ⟨k, b, u, v, q1, rfl, q3, q4, q5⟩ := relTV_get rk e2
    have q := entry_at hes i
    rw [e1, q1] at q
    have q' := Option.some.inj q
    exact ⟨⟨.ref b, by rw [q']; rfl, .tup q3.1 q3.2⟩, v, by rw [q']; exact q4, q5⟩

/-! ### locks -/
/-- the statement runs while the dict in slot i, if it is one, is locked -/
def dLockS (i : Nat) (t : DTS) : DTS := fun Dn τ S => match τ[i]? with
  | some (some (.ref d)) => match S d with
    | some (.dct kvs) => ∀ od, t ⟨fun τ' S' => S' d = some (.fdc od kvs) ∧ Dn.nx τ' (put S' d (.dct kvs)), fun v S' => S' d = some (.fdc od kvs) ∧ Dn.rt v (put S' d (.dct kvs)), fun τ' S' => S' d = some (.fdc od kvs) ∧ Dn.bk τ' (put S' d (.dct kvs)), fun τ' S' => S' d = some (.fdc od kvs) ∧ Dn.ct τ' (put S' d (.dct kvs))⟩ τ (put S d (.fdc od kvs))
    | _ => t Dn τ S
  | _ => t Dn τ S
def dLockE (i : Nat) (t : DTE) : DTE := fun τ S Q => match τ[i]? with
  | some (some (.ref d)) => match S d with
    | some (.dct kvs) => ∀ od, t τ (put S d (.fdc od kvs)) fun v S' => S' d = some (.fdc od kvs) ∧ Q v (put S' d (.dct kvs))
    | _ => t τ S Q
  | _ => t τ S Q
theorem lock_hr {K : KW} {S : Sto} {d : Addr} {kvs : List (D × D)} (hr : HR K H S) (e : S d = some (.dct kvs)) : ∃ u, H d = some u ∧ Mut (some u) ∧ stays u = false ∧ ∀ od, Ev H (upd H d (.frz od u)) ∧ HR K (upd H d (.frz od u)) (put S d (.fdc od kvs)) := by
  rcases hr d _ e with ⟨es, h1, rk⟩ | ⟨xs, h1, rk⟩
  · exact ⟨_, h1, trivial, rfl, fun od => ⟨.upd h1 rfl, hr.chg (b := .fdc od kvs) h1 rfl (.inl ⟨es, upd_same, rk.ev (.upd h1 rfl)⟩)⟩⟩
  · exact ⟨_, h1, trivial, rfl, fun od => ⟨.upd h1 rfl, hr.chg (b := .fdc od kvs) h1 rfl (.inr ⟨xs, upd_same, rk.ev (.upd h1 rfl)⟩)⟩⟩
theorem unlock_hr {K : KW} {S : Sto} {d : Addr} {od : Obj} {kvs : List (D × D)} (hr : HR K H S) (e : S d = some (.fdc od kvs)) : ∃ u, H d = some (.frz od u) ∧ Ev H (upd H d u) ∧ HR K (upd H d u) (put S d (.dct kvs)) := by
  rcases hr d _ e with ⟨es, h1, rk⟩ | ⟨xs, h1, rk⟩
  · exact ⟨_, h1, .upd h1 rfl, hr.chg (b := .dct kvs) h1 rfl (.inl ⟨es, upd_same, rk.ev (.upd h1 rfl)⟩)⟩
  · exact ⟨_, h1, .upd h1 rfl, hr.chg (b := .dct kvs) h1 rfl (.inr ⟨xs, upd_same, rk.ev (.upd h1 rfl)⟩)⟩
theorem ds_lock (i : Nat) {st : Stmt} {t : DTS} (h : DSm X st t) : DSm X st (dLockS i t) := by
  refine ⟨fun pins s σ H τ S Dn I st hr hw => ?_⟩
  unfold dLockS at hw
  split at hw
  · rename_i d _
    split at hw
    · rename_i kvs e
      obtain ⟨u, hd, mu, _, k⟩ := lock_hr hr e
      obtain ⟨od, I1⟩ := I.lock hd mu
      obtain ⟨e1, hr1⟩ := k od
      refine thn (h.run pins s σ _ τ _ _ I1 (st.ev e1) hr1 (hw od)) fun f s1 q => ?_
      cases f with
      | next =>
        obtain ⟨σ', H', I2, ev, τ', S', hr', st', eS, q⟩ := q
        obtain ⟨u', hd', ev', hr2⟩ := unlock_hr hr' eS
        exact ⟨σ', _, I2.unlock hd' (I.nofrz hd mu), (e1.trans ev).trans ev', τ', _, hr2, st'.ev ev', q⟩
      | brk =>
        obtain ⟨σ', H', I2, ev, τ', S', hr', st', eS, q⟩ := q
        obtain ⟨u', hd', ev', hr2⟩ := unlock_hr hr' eS
        exact ⟨σ', _, I2.unlock hd' (I.nofrz hd mu), (e1.trans ev).trans ev', τ', _, hr2, st'.ev ev', q⟩
      | cont =>
        obtain ⟨σ', H', I2, ev, τ', S', hr', st', eS, q⟩ := q
        obtain ⟨u', hd', ev', hr2⟩ := unlock_hr hr' eS
        exact ⟨σ', _, I2.unlock hd' (I.nofrz hd mu), (e1.trans ev).trans ev', τ', _, hr2, st'.ev ev', q⟩
      | ret v =>
        obtain ⟨x, σ', H', I2, r, ev, dv, S', hr', rv, eS, q⟩ := q
        obtain ⟨u', hd', ev', hr2⟩ := unlock_hr hr' eS
        exact ⟨x, σ', _, I2.unlock hd' (I.nofrz hd mu), r, (e1.trans ev).trans ev', dv, _, hr2, rv.ev ev', q⟩
    · exact h.run pins s σ H τ S Dn I st hr hw
  · exact h.run pins s σ H τ S Dn I st hr hw
theorem de_lock (i : Nat) {e : Expr} {t : DTE} (h : DE X e t) : DE X e (dLockE i t) := by
  refine ⟨fun pins s σ H τ S Q I st hr hw => ?_⟩
  unfold dLockE at hw
  split at hw
  · rename_i d _
    split at hw
    · rename_i kvs e
      obtain ⟨u, hd, mu, _, k⟩ := lock_hr hr e
      obtain ⟨od, I1⟩ := I.lock hd mu
      obtain ⟨e1, hr1⟩ := k od
      refine thn (h.run pins s σ _ τ _ _ I1 (st.ev e1) hr1 (hw od)) fun v s1 ⟨x, H', I2, r, ev, dv, S', hr', rv, eS, q⟩ => ?_
      obtain ⟨u', hd', ev', hr2⟩ := unlock_hr hr' eS
      exact ⟨x, _, I2.unlock hd' (I.nofrz hd mu), r, (e1.trans ev).trans ev', dv, _, hr2, rv.ev ev', q⟩
    · exact h.run pins s σ H τ S Q I st hr hw
  · exact h.run pins s σ H τ S Q I st hr hw

/-! ### the iterators -/
theorem fdc_raw {S : Sto} {a : Addr} {o : Obj} {kvs : List (D × D)} {es : Array DictEntry} {ep : Nat} (hod : o.data = .dict es ep) (I : Inv X pins σ H s) (hr : HR X.KW H S) (e : S a = some (.fdc o kvs)) :
    s.heap.DictRaw a es ep ∧ EntAt X.KW H es kvs := by
  obtain ⟨_, hg, hx, es', ep', hdt, ea⟩ := fdc_at I hr e
  obtain ⟨rfl, rfl⟩ := dict_ep hod hdt
  exact ⟨⟨o, hg, hx, hdt⟩, ea⟩
theorem turnD_keys {P : Program} {w : World} {K : KW} {tg : Expr} {H0 : Hp} {kvs : List (D × D)} {d it : Addr} {o : Obj} {es : Array DictEntry} {ep : Nat} (hod : o.data = .dict es ep) (hsz : es.size = kvs.length) (hK : K.P = P ∧ K.w = w) :
    Turn P w K.fr tg (ItD K H0 (kvs.map (·.1)) fun S' => S' d = some (.fdc o kvs)) [it] it (fun i h => h.IsKeyIter it d i kvs.length ep) where
  mem := by simp
  obj := fun i h st b hb => by
    obtain rfl : b = it := by simpa using hb
    obtain ⟨oi, e, c, dd⟩ := st
    exact ⟨oi, e, fun v z => by rw [dd] at z; cases z⟩
  keep := fun i h h' st k => st.at fun oi e => k it (by simp) oi e
  item := by
    intro X hP hw hKK hc i pins s σ H E I hf st hg
    obtain ⟨Kf, KP, Kw⟩ := K
    change X.K = Kf at hKK
    obtain ⟨hP', hw'⟩ := hK
    change KP = P at hP'
    change Kw = w at hw'
    subst hP hw hKK hP' hw'
    obtain ⟨ev, ⟨S, hr, hs⟩, hi⟩ := hg
    rw [List.length_map] at hi
    obtain ⟨f0, f1, f2, f3, f4, f5⟩ := hf it (by simp)
    obtain ⟨raw, ea⟩ := fdc_raw hod I hr hs
    rw [← hsz] at st hi
    have hi2 : i < kvs.length := by rw [← hsz]; exact hi
    refine wpAny_pyNext_keys_item_raw st raw hi fun h' st' sb => ?_
    have I1 : Inv X pins σ H { s with heap := h' } := I.turned (t' := s.toks) (fun b ob hb e => (sb.2 b hb).trans e) f0 f1 f3 f4 f5
    obtain ⟨oi, e, c, dd⟩ := id st'
    obtain ⟨⟨k, rk, dk⟩, _⟩ := ea.2 i es[i] (kvs[i]).1 (kvs[i]).2 (Array.getElem?_eq_getElem hi) (List.getElem?_eq_getElem hi2)
    refine ⟨_, rfl, go_of (s := { s with heap := h' }) e c dd (by decide) ⟨k, H, I1, rk, ⟨.refl _, fun _ z => z, (kvs[i]).1, by simp [hi2], dk⟩, ?_, fun b hb => (hf b hb).1⟩⟩
    rw [← hsz]; exact st'
  done := by
    intro X hP hw hKK hc i pins s σ H E I hf st hg
    obtain ⟨Kf, KP, Kw⟩ := K
    change X.K = Kf at hKK
    obtain ⟨hP', hw'⟩ := hK
    change KP = P at hP'
    change Kw = w at hw'
    subst hP hw hKK hP' hw'
    obtain ⟨ev, ⟨S, hr, hs⟩, hi⟩ := hg
    rw [List.length_map] at hi
    obtain ⟨f0, f1, f2, f3, f4, f5⟩ := hf it (by simp)
    obtain ⟨raw, ea⟩ := fdc_raw hod I hr hs
    rw [← hsz] at st
    exact wpAny_pyNext_keys_end_raw (I.ok.hd hc) st raw (by omega) fun h' eb => ⟨rfl, I.turned (t' := s.toks) (fun b ob hb e => eb b ob hb e) f0 f1 f3 f4 f5⟩
  self := fun A i s Q E st h => by
    refine wpAny_pyIter_slot st.typeIs F.slot_dict_keyiterator_iter (wpAny_call_entry F.slot_dict_keyiterator_iter st.typeIs F.entry_dict_keyiterator_iter ?_ (F.args_dict_keyiterator_iter_1 _))
    show wpAny _ _ (ret (.ref it)) _ _ s
    exact wpAny_pure ⟨_, rfl, "dict_keyiterator", _, st.typeIs, F.slot_dict_keyiterator_next.lookup, h⟩
theorem turnD_vals {P : Program} {w : World} {K : KW} {tg : Expr} {H0 : Hp} {kvs : List (D × D)} {d it : Addr} {o : Obj} {es : Array DictEntry} {ep : Nat} (hod : o.data = .dict es ep) (hsz : es.size = kvs.length) (hK : K.P = P ∧ K.w = w) :
    Turn P w K.fr tg (ItD K H0 (kvs.map (·.2)) fun S' => S' d = some (.fdc o kvs)) [it] it (fun i h => h.IsValIter it d i kvs.length ep) where
  mem := by simp
  obj := fun i h st b hb => by
    obtain rfl : b = it := by simpa using hb
    obtain ⟨oi, e, c, dd⟩ := st
    exact ⟨oi, e, fun v z => by rw [dd] at z; cases z⟩
  keep := fun i h h' st k => st.at fun oi e => k it (by simp) oi e
  item := by
    intro X hP hw hKK hc i pins s σ H E I hf st hg
    obtain ⟨Kf, KP, Kw⟩ := K
    change X.K = Kf at hKK
    obtain ⟨hP', hw'⟩ := hK
    change KP = P at hP'
    change Kw = w at hw'
    subst hP hw hKK hP' hw'
    obtain ⟨ev, ⟨S, hr, hs⟩, hi⟩ := hg
    rw [List.length_map] at hi
    obtain ⟨f0, f1, f2, f3, f4, f5⟩ := hf it (by simp)
    obtain ⟨raw, ea⟩ := fdc_raw hod I hr hs
    rw [← hsz] at st hi
    have hi2 : i < kvs.length := by rw [← hsz]; exact hi
    refine wpAny_pyNext_values_item_raw st raw hi fun h' st' sb => ?_
    have I1 : Inv X pins σ H { s with heap := h' } := I.turned (t' := s.toks) (fun b ob hb e => (sb.2 b hb).trans e) f0 f1 f3 f4 f5
    obtain ⟨oi, e, c, dd⟩ := id st'
    obtain ⟨_, k, rk, dk⟩ := ea.2 i es[i] (kvs[i]).1 (kvs[i]).2 (Array.getElem?_eq_getElem hi) (List.getElem?_eq_getElem hi2)
    refine ⟨_, rfl, go_of (s := { s with heap := h' }) e c dd (by decide) ⟨k, H, I1, rk, ⟨.refl _, fun _ z => z, (kvs[i]).2, by simp [hi2], dk⟩, ?_, fun b hb => (hf b hb).1⟩⟩
    rw [← hsz]; exact st'
  done := by
    intro X hP hw hKK hc i pins s σ H E I hf st hg
    obtain ⟨Kf, KP, Kw⟩ := K
    change X.K = Kf at hKK
    obtain ⟨hP', hw'⟩ := hK
    change KP = P at hP'
    change Kw = w at hw'
    subst hP hw hKK hP' hw'
    obtain ⟨ev, ⟨S, hr, hs⟩, hi⟩ := hg
    rw [List.length_map] at hi
    obtain ⟨f0, f1, f2, f3, f4, f5⟩ := hf it (by simp)
    obtain ⟨raw, ea⟩ := fdc_raw hod I hr hs
    rw [← hsz] at st
    exact wpAny_pyNext_values_end_raw (I.ok.hd hc) st raw (by omega) fun h' eb => ⟨rfl, I.turned (t' := s.toks) (fun b ob hb e => eb b ob hb e) f0 f1 f3 f4 f5⟩
  self := fun A i s Q E st h => wpAny_pyIter_valiter st h
def fdcOf (S : Sto) : D → Option (Addr × Obj × List (D × D))
  | .ref a => match S a with | some (.fdc o kvs) => some (a, o, kvs) | _ => none
  | _ => none
/-- a list, a tuple, a text, a locked dict walked -/
def wIterA : WIt := fun d S R => match fdcOf S d with
  | some (a, o, kvs) => R (kvs.map (·.1)) (fun S' => S' a = some (.fdc o kvs)) S
  | none => wIter d S R
theorem fdcOf_eq {S : Sto} {d : D} {a : Addr} {o : Obj} {kvs : List (D × D)} (h : fdcOf S d = some (a, o, kvs)) : d = .ref a ∧ S a = some (.fdc o kvs) := by
  unfold fdcOf at h
  split at h
  · split at h
    · cases h; exact ⟨rfl, by assumption⟩
    · cases h
  · cases h
variable {tg : Expr}
theorem di_any {e : Expr} {te : DTE} (he : DE X e te) : DI X tg e (diVal te wIterA) := ⟨⟨fun pins s σ H R I ⟨τ, S, Rd, st, hr, q, k⟩ =>
  thn (he.run pins s σ H τ S _ I st hr q) fun u s1 ⟨v, H1, I1, rv, e1, d, S1, hr1, rd, q1⟩ => by
    unfold wIterA at q1
    simp only at q1
    split at q1
    · rename_i a o kvs ef
      obtain ⟨rfl, eS⟩ := fdcOf_eq ef
      cases rd; cases rv
      obtain ⟨hs, hg, hx, es, ep, hdt, ea⟩ := fdc_at I1 hr1 eS
      refine iter_keys hs hg hx hdt (pie_of e1 hr1 (itP_one (tk := s1.toks) I1 _ (turnD_keys (K := X.KW) hdt ea.1 ⟨rfl, rfl⟩) ⟨_, Heap.get?_push_size _ rfl, rfl, ?_⟩) q1 k)
      rw [ea.1] <;> rfl
    · exact wpAny_mono (iter_seq I1 rv rd hr1 q1) (fun itv s2 ⟨ds, stab, h, rr⟩ => pie_of e1 hr1 h rr k) fun _ _ z => z⟩⟩
def wVals : WIt := fun d S R => match fdcOf S d with
  | some (a, o, kvs) => R (kvs.map (·.2)) (fun S' => S' a = some (.fdc o kvs)) S
  | none => False
variable {apos cpos : Pos}
theorem di_values {e : Expr} {te : DTE} (he : DE X e te) (hbase : attributeBase e "values" X.env (eval e X.env) = eval e X.env := by rfl) (hline : (apos.endLine == cpos.line) = true := by rfl) : DI X tg (.Call (.Attribute e "values" apos) [] [] cpos) (diVal te wVals) := ⟨⟨fun pins s σ H R I ⟨τ, S, Rd, st, hr, q, k⟩ => by
  refine wpAny_Call_method (T := "dict") (id := "dict.values") hbase rfl hline F.plainAttrs_dict F.slot_dict_values F.type_dict_values (thn (he.run pins s σ H τ S _ I st hr q) fun u s1 ⟨v, H1, I1, rv, e1, d, S1, hr1, rd, q1⟩ => ?_)
  unfold wVals at q1
  simp only at q1
  split at q1
  · rename_i a o kvs ef
    obtain ⟨rfl, eS⟩ := fdcOf_eq ef
    cases rd; cases rv
    obtain ⟨hs, hg, hx, es, ep, hdt, ea⟩ := fdc_at I1 hr1 eS
    have raw : s1.heap.DictRaw a es ep := ⟨o, hg, hx, hdt⟩
    refine ⟨raw.typeIs, fun b e => by cases e; exact ⟨o, hg, hx.2.1⟩, ?_⟩
    have I2 : Inv X pins σ H1 { s1 with heap := s1.heap.push { cls := .type "dict_values", data := .fields #[.ref a] } } := I1.kept (t' := s1.toks) fun b ob q => Heap.get?_push_of_some _ q
    have fin : wpAny (model X.prog X.w) X.A (pyIter (.ref s1.heap.objs.size)) (PIE X pins σ tg R) X.xe { s1 with heap := s1.heap.push { cls := .type "dict_values", data := .fields #[.ref a] } } := by
      refine wpAny_pyIter_values_raw (d := a) ⟨_, Heap.get?_push_size _ rfl, rfl, rfl⟩ (raw.at fun ob q => Heap.get?_push_of_some _ q) (pie_of e1 hr1 (itP_one (tk := s1.toks) I2 _ (turnD_vals (K := X.KW) hdt ea.1 ⟨rfl, rfl⟩) ⟨_, Heap.get?_push_size _ rfl, rfl, ?_⟩) q1 k)
      rw [ea.1] <;> rfl
    show wpAny _ _ (callWith cpos (.builtin "dict.values") [.ref a] [] []) _ X.xe s1
    exact method_meetsIn F.slot_dict_values F.entry_dict_values rfl (PySem.evalArgs_none ⟨rfl, raw.typeIs, F.args_dict_values_1 _, _, meets_dict_values_raw a hs, ⟨es, ep, raw⟩, fin⟩)
  · exact q1.elim⟩⟩
end
end DL

namespace DL
open PySem PySem.Spec PyProof.Rows L2

/-! ### the law's own call -/
theorem relDs_ints (K : KW) (H : Hp) (ns : List Int) : RelDs K H (ns.map V.int) (ns.map D.int) := .ints ns
/-- an abstract heap that tracks the script alone, at most -/
structure Start (K : PySem.W.Frag) (s : Shared) (a : Addr) (ns : List Int) (H : Hp) : Prop where
  one : ∀ b, H b ≠ none → b = a ∧ ∃ o, H b = some (.frz o (.lst (ns.map V.int)))
  out : H a ≠ none → K.lookup a = none
theorem start_env {P : Program} {w : World} {K : PySem.W.Frag} {mg mb : Str → Option Value} {a : Addr} {s : Shared} {vs : List Value} {ns : List Int} {H : Hp} (KX : K.In s.heap) (hns : s.heap.Ns mainGlobals mg) (hb : s.heap.Ns builtinsNs mb) (hbb : ∀ x : Str, x ≠ "__name__" → mb x = bootBuiltins x)
    (hlim : s.heap.NoLimit) (hg : s.gens = #[]) (ha : s.heap.get? a = some { cls := .type "list", data := .seq vs.toArray }) (St : Start K s a ns H) (hok : HOk P w H s.heap) : Env0 P w K mg (hidT s.heap H) callerA [] s H ∧ K.In (hidT s.heap H) ∧ (hidT s.heap H).Ns mainGlobals mg := by
  have free : ∀ {b : Addr} {o : Obj}, s.heap.get? b = some o → (∀ xs n, o.data = .seq xs n → False) → H b = none := fun {b o} e d => by
    cases q : H b with
    | none => rfl
    | some u =>
      obtain ⟨rfl, _⟩ := St.one b (by rw [q]; simp)
      rw [ha] at e; cases e
      exact (d _ _ rfl).elim
  have ns_in : ∀ {b : Addr} {m : Str → Option Value}, s.heap.Ns b m → (hidT s.heap H).Ns b m := fun ⟨o, es, ep, e, d, r⟩ => ⟨o, es, ep, hidT_get e (free e fun xs n z => by rw [d] at z; cases z), d, r⟩
  have k_in : K.In (hidT s.heap H) := fun b o e => hidT_get (KX b o e) (by
    cases q : H b with
    | none => rfl
    | some u =>
      obtain ⟨rfl, _⟩ := St.one b (by rw [q]; simp)
      rw [St.out (by rw [q]; simp)] at e; cases e)
  obtain ⟨mc, l1, l2⟩ := hlim
  exact ⟨⟨rfl, ⟨k_in, ns_in hns, ⟨mb, ns_in hb, hbb⟩, mc, ns_in l1, l2⟩, fun b o e => of_hidT e, Nat.le_of_eq (hidT_size _ _), trivial, fun b hb => (nomatch hb), hok, .of_eq hg⟩, k_in, ns_in hns⟩
theorem call_ends {P : Program} {w : World} {K : PySem.W.Frag} {a : Addr} {s s' : Shared} {ns : List Int} {H : Hp} {r : Result} (St : Start K s a ns H) (hok : HOk P w H s.heap)
    (h : CR (CX P w) [] P w H s (Up ⟨K, P, w⟩ H fun d _ => d = .bl true) (UpX ⟨K, P, w⟩ H noX) r s') : r = .ok (.ret (.bool true)) ∧ OldK s.heap s'.heap ∧ s'.os = s.os ∧ AllBare s'.gens := by
  cases r with
  | error e =>
    obtain ⟨_, _, _, _, _, _, _, _, _, _, _, _, _, _, _, _, _, z⟩ := (show CX P w [] H s (UpX ⟨K, P, w⟩ H noX) e s' from h)
    exact z.elim
  | ok fl =>
    cases fl with
    | next => exact h.elim
    | brk => exact h.elim
    | cont => exact h.elim
    | ret u =>
      obtain ⟨v, H', os, bare, un, hok', rv, _, d, S', _, rd, q⟩ := h
      subst q
      cases rd
      cases rv
      refine ⟨rfl, OldK.of_keep fun b o e => ?_, os, bare⟩
      by_cases n : H b = none
      · exact un.keep b o e n (fun z => nomatch z) (fun z => nomatch z)
      · obtain ⟨_, ob, z⟩ := St.one b n
        have e1 := (show ObjOk P w H s.heap b (.frz ob (.lst (ns.map V.int))) from hok b _ z).1
        have e2 := (show ObjOk P w H' s'.heap b (.frz ob (.lst (ns.map V.int))) from hok' b _ (un.frzs b ob _ z)).1
        rw [e] at e1; cases e1
        exact e2
theorem entry {P : Program} {w : World} {K : PySem.W.Frag} {mg mb : Str → Option Value} {k : Nat} {fa a : Addr} {fd : FuncData} {x : Str} {sp : DSp} {s : Shared} {vs : List Value} {ns : List Int}
    (KX : K.In s.heap) (hns : s.heap.Ns mainGlobals mg) (hb : s.heap.Ns builtinsNs mb) (hbb : ∀ x : Str, x ≠ "__name__" → mb x = bootBuiltins x) (hlim : s.heap.NoLimit) (hg : s.gens = #[])
    (ha : s.heap.get? a = some { cls := .type "list", data := .seq vs.toArray }) (hi : IntsAre vs ns) (hl : ns.length ≤ sizeLine) (hr : Room k callerA)
    (F : ∀ base : Heap, K.In base → base.Ns mainGlobals mg → FnD P w K mg base k fa fd [x] sp) (hbind : ∀ (s : Shared) (u : Value), BindsTo s fd ⟨[u], []⟩ [(x, u)])
    (hsp : sp [.fz (ns.map D.int)] (fun _ => none) (fun d _ => d = .bl true) noX) :
    codeAny (model P w) callerA (.call (.ref fa) ⟨[.ref a], []⟩) (fun r s' => r = .ok (.ret (.bool true)) ∧ OldK s.heap s'.heap ∧ s'.os = s.os ∧ AllBare s'.gens) s := by
  have rv := vals_ints hi
  have go : ∀ H : Hp, Start K s a ns H → FzAt ⟨K, P, w⟩ H a (ns.map V.int) → HOk P w H s.heap → codeAny (model P w) callerA (.call (.ref fa) ⟨[.ref a], []⟩) (fun r s' => r = .ok (.ret (.bool true)) ∧ OldK s.heap s'.heap ∧ s'.os = s.os ∧ AllBare s'.gens) s := by
    intro H St hz hok
    obtain ⟨e0, b1, b2⟩ := start_env KX hns hb hbb hlim hg ha St hok
    exact codeAny_mono ((F _ b1 b2).run callerA [] s H ⟨[.ref a], []⟩ [.ref a] [.ref a] _ _ _ _ hr rfl e0 (hbind s (.ref a)) (.cons rfl .nil) (.cons (.fz hz (relDs_ints _ _ ns)) .nil) (fun b o e => absurd (show (none : Option AO) = some o from e) (by simp)) hsp) fun r s' h => call_ends St hok h
  cases hk : K.lookup a with
  | some o =>
    have e := KX a o hk
    rw [ha] at e
    cases e
    refine go (fun _ => none) ⟨fun b z => absurd rfl z, fun z => absurd rfl z⟩ (.inr ⟨_, vs.toArray, _, hk, rfl, rfl, rfl, ?_, by simpa using rv⟩) fun b u z => by cases z
    rw [List.size_toArray, hi.length]; exact hl
  | none =>
    refine go (upd (fun _ => none) a (.frz { cls := .type "list", data := .seq vs.toArray } (.lst (ns.map V.int)))) ⟨fun b z => ?_, fun _ => hk⟩ (.inl ⟨_, upd_same⟩) fun b u z => ?_
    · by_cases e : b = a
      · subst e; exact ⟨rfl, _, upd_same⟩
      · rw [upd_ne e] at z; exact absurd rfl z
    · by_cases e : b = a
      · subst e; rw [upd_same] at z; cases z
        exact ⟨ha, by rw [List.length_map]; exact hl, vs, _, rv, ha⟩
      · rw [upd_ne e] at z; cases z
/-- the goal behind the head -/
theorem walk_law {l : PySem.W.OpenLaw} {n k : Nat} {q : Program} {loose : List Str} {XP : (Str → Option Value) → Heap → Prop} {YP : World → Heap → Prop} {d : DefRec} {K : Params → PySem.W.Frag} {sp : DSp} {x : Str}
    (hn : l.most = some n) (hn2 : n ≤ sizeLine) (hdf : d.params.defaults = []) (hr : Room k callerA)
    (hY : ∀ (w : World) (h : Heap), YP w h → (K w.params).In h)
    (F : ∀ (w : World) (mg : Str → Option Value) (fa : Addr) (h : Heap), (K w.params).In h → h.Ns mainGlobals mg → mg d.name = some (.ref fa) →
      ∃ fd : FuncData, (∀ (s : Shared) (u : Value), BindsTo s fd ⟨[u], []⟩ [(x, u)]) ∧
        ∀ base : Heap, (K w.params).In base → base.Ns mainGlobals mg → FnD l.prog w (K w.params) mg base k fa fd [x] sp)
    (hsp : ∀ ns : List Int, ns.length ≤ n → sp [.fz (ns.map D.int)] (fun _ => none) (fun d _ => d = .bl true) noX) :
    PySem.W.WalkO q loose XP YP l.row.toRowW d [] (fun f vs => PySem.call f vs) := by
  refine Att.attach_call hn hdf fun w s₀ s₁ mg mb fa o pm cd doc a vs ns G Y ho hd hcd hmg hobj hints hlen hg => ?_
  have KX := hY w _ Y
  obtain ⟨fd, hb, hF⟩ := F w mg fa _ KX G.T.g hmg
  exact entry KX G.T.g G.T.b G.T.builtins G.T.nolimit hg hobj hints (Nat.le_trans hlen hn2) hr hF hb (hsp ns hlen)
end DL

namespace DL
open PySem PySem.Spec PyProof.Rows L2

/-! ### a def that may be called by its name -/
structure CalD (P : Program) (w : World) (K : PySem.W.Frag) (mg : Str → Option Value) (base : Heap) (k : Nat) (x : Str) (sp : DSp) (dds : List D) : Prop where
  ex : ∃ (f : Addr) (fd : FuncData) (ps : List Str) (dfl : List Value), FnD P w K mg base k f fd ps sp ∧ mg x = some (.ref f) ∧ PySem.W.keepIn K (.ref f) = true ∧ Binds K fd ps dfl ∧ Dfl P w K dds dfl
section
variable {P : Program} {w : World} {K : PySem.W.Frag} {mg : Str → Option Value} {base : Heap}
theorem CalD.of {x : Str} {st : Stmt} {f : Addr} {fd : FuncData} {N ps : List Str} {k : Nat} {sp : DSp} (F : Fun K x x st f fd) (S : FnScope N ps (defScope st)) (hm : mg x = some (.ref f)) (hb : Binds K fd ps []) (len : ∀ ds S Q E, sp ds S Q E → ds.length = ps.length)
    (hbody : ∀ (cdv : Value) (A : Around) (outer : List Env) (s : Shared) (H : Hp) (ds : List D) (So : Sto) (Q : KD) (E : KX), Room k (A.deeper (envOfC x (defScope st) s.heap.objs.size f cdv)) → (A.deeper (envOfC x (defScope st) s.heap.objs.size f cdv)).guards = some [] → sp ds So Q E →
      ∃ t, DSs (cxOf (CX P w) P w K mg base N x (defScope st) f cdv A outer s H (UpX ⟨K, P, w⟩ H E)).nox (defBody st) t ∧ t (bodyEnds Q) (startD N ds) So) : CalD P w K mg base (k + 1) x sp [] :=
  ⟨f, fd, ps, [], FnD.of F S len (fun cdv A outer s H ds So Q E hr hg hs => let ⟨t, a, b⟩ := hbody cdv A outer s H ds So Q E hr hg hs; ⟨t, a.nox, b⟩), hm, F.kp, hb, .nil⟩
theorem CalD.mono {x : Str} {j k : Nat} {sp : DSp} {dds : List D} (C : CalD P w K mg base j x sp dds) (h : j ≤ k) : CalD P w K mg base k x sp dds :=
  let ⟨f, fd, ps, dfl, a, b⟩ := C.ex; ⟨f, fd, ps, dfl, a.mono h, b⟩
end
theorem room_u {k : Nat} {A : Around} (r : Room k A) : A.units + 100 < cLine := by have := r.un; omega
section
variable {X : Cx} {x : Str} {k : Nat} {sp : DSp} {dds : List D} {p pos : Pos} {e : Expr} {es : List Expr} {tr : DTA}
theorem de_cal (C : CalD X.prog X.w X.K X.mg X.base k x sp dds) (hr : Room k X.A) (hgd : X.A.guards = some []) (hg : Gl X x) (ha : DAr X (e :: es) tr) (hdb : (x == ("__debug__" : Str)) = false := by decide)
    (he : starEach (e :: es) X.env = (false, eval e X.env) :: starEach es X.env := by rfl) (hpl : (backTo pos (starEach es X.env)).any (·.1) = false := by rfl) :
    DE X (.Call (.Name x p) (e :: es) [] pos) (dCall sp dds tr) := by
  obtain ⟨f, fd, ps, dfl, F, hm, hk, hb, hd⟩ := C.ex
  exact de_call F hr hgd hg hm hk hb hd ha hdb he hpl
theorem de_cal0 (C : CalD X.prog X.w X.K X.mg X.base k x sp dds) (hr : Room k X.A) (hgd : X.A.guards = some []) (hg : Gl X x) (hdb : (x == ("__debug__" : Str)) = false := by decide) : DE X (.Call (.Name x p) [] [] pos) (dCall sp dds dNil) := by
  obtain ⟨f, fd, ps, dfl, F, hm, hk, hb, hd⟩ := C.ex
  exact de_call0 F hr hgd hg hm hk hb hd hdb
end
/-- a comprehension on one line goes straight into a plain local -/
theorem sw_comp {e : Expr} {scope : Scope} {py : Pos} {y : Str} {l : Nat} {env : Env} (he : (∃ a b p, e = .ListComp a b scope p) ∨ ∃ a c b p, e = .DictComp a c b scope p) (hk : env.scope.kind = .function) (hy : env.scope.names.lookup y = some .local) (hl : (py.line == e.pos.line) = true)
    (ha : (scope.names.any fun (n, k) => n == y && (k == .local || k == .cell)) = false) : swapsWith e (some (.Name y py)) l env = pure true := by
  have ky : env.kindOf y = some .local := hy
  have hb : env.blockKind = .function := by unfold Env.blockKind; rw [hk]; rfl
  rcases he with ⟨a, b, p, rfl⟩ | ⟨a, c, b, p, rfl⟩ <;>
    (unfold swapsWith
     simp only [hb, ky, ha, hl]
     rfl)
/-- a, b, c = x, y, z with plain local names -/
def dPar3 (i j l : Nat) (ta : DTA) : DTS := fun Dn τ S => ta τ S fun ds S1 => match ds with | [x, y, z] => Dn.nx (((τ.set i (some x)).set j (some y)).set l (some z)) S1 | _ => False
theorem ds_par3 {X : Cx} {i j l : Nat} {x y z : Str} {a b c : Expr} {ta : DTA} {px py pz pt pos : Pos} {kt k2 pt2} (hc : X.calm = true) (hN : X.N.Nodup) (hi : X.N[i]? = some x) (hj : X.N[j]? = some y) (hl : X.N[l]? = some z) (hij : i ≠ j) (hil : i ≠ l) (hjl : j ≠ l)
    (hx : X.env.scope.names.lookup x = some .local) (hy : X.env.scope.names.lookup y = some .local) (hz : X.env.scope.names.lookup z = some .local) (ha : DAr X [a, b, c] ta)
    (hw : swappedStores [.Tuple [.Name x px, .Name y py, .Name z pz] kt pt] (.Tuple [a, b, c] k2 pt2) X.env = pure (some [x, y, z]))
    (hs : swapsWithSole [.Tuple [.Name x px, .Name y py, .Name z pz] kt pt] (.Tuple [a, b, c] k2 pt2) pos.line X.env = pure false := by rfl) :
    DSm X (.Assign [.Tuple [.Name x px, .Name y py, .Name z pz] kt pt] (.Tuple [a, b, c] k2 pt2) pos) (dPar3 i j l ta) := .up (ps_par3 hc hN hi hj hl hij hil hjl hx hy hz ha.lo hw hs) fun σ H τ S Dn st hr q =>
  ⟨τ, S, _, st, hr, q, fun vs H1 ⟨e, ds, S1, hr1, r1, q1⟩ => by
    cases r1 with
    | nil => exact q1.elim
    | cons r t => cases t with
      | nil => exact q1.elim
      | cons r' t' => cases t' with
        | nil => exact q1.elim
        | cons r2 t2 => cases t2 with
          | nil => exact ⟨_, _, _, rfl, e, _, S1, hr1, ((((st.ev e).set r i).set r' j).set r2 l), q1⟩
          | cons _ _ => exact q1.elim⟩
end DL

namespace DL
open PySem PySem.Spec PyProof.Rows L2

/-! ### set(l) of a list of ints -/
/-- a set's first object -/
def setNew (w : World) : Obj := { cls := .type "set", dict := none, data := .set #[] 0 (.fresh 0 0 (!w.params.followText "set-order")) }
def litNew (l : Addr) : Obj := { cls := .type "list_iterator", data := .fields #[.ref l, .int 0 0] }
section
variable {P : Program} {w : World} {A : Around} {E : Value → Shared → Prop} {s : Shared}
/-- what the filling leaves -/
abbrev FilledBy (w : World) (s : Shared) (ns : List Int) (s₂ : Shared) : Prop := ∃ h' tk c, s₂ = { s with heap := h', toks := tk } ∧ SetR w h' s.heap.objs.size (fun j => decide (j ∈ ns)) c ∧ c ≤ ns.length ∧ ∀ b o, s.heap.get? b = some o → h'.get? b = some o
set_option maxRecDepth 100000 in
set_option maxHeartbeats 3200000 in
theorem set_init_list {l : Addr} {items : Array Value} (ns : List Int) (hh : A.handled = none) (hl : s.heap.IsList l items) (hit : IntsAre items.toList ns) (hb : ns.length + 1 < scanBound) :
    codeAny (model P w) A (.call (.builtin "set.__init__") ⟨[.ref s.heap.objs.size, .ref l], []⟩) (wants (fun r s₂ => r = .none ∧ FilledBy w s ns s₂) E) { s with heap := s.heap.push (setNew w) } := by
  have hisz : items.size = ns.length := by
    have q := IntsAre.length hit
    simpa using q
  have hS : (s.heap.push (setNew w)).get? s.heap.objs.size = some (setNew w) := Heap.get?_push_size _ rfl
  have hT : Shared.TypeIs { s with heap := s.heap.push (setNew w) } (.ref s.heap.objs.size) "set" := ⟨_, hS, rfl⟩
  have hz : (s.heap.push (setNew w)).objs.size = s.heap.objs.size + 1 := Heap.size_push ..
  refine codeAny_call_builtin F.called_set.init.plain F.entry_set_init (check_set_init_1 hT ?_)
  obtain ⟨⟨ocls, odict, odata, oslots⟩, hol, hcl, nl, hdl⟩ := hl
  simp only at hcl hdl
  subst hcl; subst hdl
  have hol' : (s.heap.push (setNew w)).get? l = some { cls := .type "list", dict := odict, data := .seq items nl, slots := oslots } := Heap.get?_push_of_some _ hol
  have hsls := F.sub_list_set
  have hslf := F.sub_list_frozenset
  have hne : (Value.type "list" == Value.type "dict") = false := by decide
  have hl1 : (s.heap.push (setNew w)).IsList l items := ⟨_, hol', rfl, nl, rfl⟩
  have hlS : l < s.heap.objs.size := Heap.lt_size hol
  have hneI : l ≠ (s.heap.push (setNew w)).objs.size := by rw [hz]; exact Nat.ne_of_lt (Nat.lt_succ_of_lt hlS)
  unfold Builtin.«set.__init__» noKeywords Builtin.Frozenset.updateFrom
  generalize hPI : pyIter = PI
  wp_walk
  subst hPI
  refine wpAny_pyIter_list hl1 (wpAny_bind (wpAny_runValue ?_))
  have hh3 : A.in1.in1.handled = none := by simp [hh]
  have hSf : s.heap.objs.size ∉ [(s.heap.push (setNew w)).objs.size, l] := by
    simp only [hz, List.mem_cons, List.not_mem_nil, or_false, not_or]
    exact ⟨Nat.ne_of_lt (Nat.lt_succ_self _), Nat.ne_of_gt hlS⟩
  have hval : ∀ (i : Nat) (v : Value), items[i]? = some v → ∃ k t, ns[i]? = some k ∧ v = .int k t := fun i v hv => by
    have hi : i < ns.length := by rw [← hisz]; exact (Array.getElem?_eq_some_iff.mp hv).1
    obtain ⟨t, e⟩ := PyProof.Rows.IntsAre.int_at hit i v (by simpa using hv)
    refine ⟨ns[i], t, List.getElem?_eq_getElem hi, ?_⟩
    rw [e, List.getD_eq_getElem?_getD, List.getElem?_eq_getElem hi] <;> rfl
  have hget : ((s.heap.push (setNew w)).push (litNew l)).get? s.heap.objs.size = some (setNew w) := Heap.get?_push_of_some _ hS
  refine set_update_ints ((Walks.list hh3 _ l hneI items).toS) s.heap.objs.size hSf ns hisz hb hval (items.size - 0) 0 { s with heap := (s.heap.push (setNew w)).push (litNew l) } (by omega) (Nat.zero_le _) ⟨⟨_, Heap.get?_push_size _ rfl, rfl, rfl⟩, hl1.push _⟩ ?hS0 ?hR
  case hS0 => exact ⟨0, Nat.le_refl 0, setR_new_at hget⟩
  case hR =>
  intro s' c' hm hc' hS'
  obtain ⟨h', g2, d', tk', os'⟩ := s'
  cases (show g2 = s.gens from hm.gens)
  cases (show d' = s.drawn from hm.drawn)
  cases (show os' = s.os from hm.os)
  show wpAny _ _ _ _ _ _
  refine wpAny_pure ?_
  show wpAny _ _ (ret Value.none) _ _ _
  rw [hisz] at hc'
  refine wpAny_pure ⟨rfl, h', tk', c', rfl, hS', hc', fun b o e => hm.heap b o ?_ (Heap.get?_push_of_some _ (Heap.get?_push_of_some _ e))⟩
  have hb0 : b < s.heap.objs.size := Heap.lt_size e
  simp only [List.mem_cons, List.not_mem_nil, or_false, not_or]
  refine ⟨Nat.ne_of_lt hb0, Nat.ne_of_lt ?_⟩
  show b < (s.heap.push (setNew w)).objs.size
  rw [hz]; exact Nat.lt_succ_of_lt hb0
set_option maxRecDepth 100000 in
set_option maxHeartbeats 3200000 in
theorem set_of_list {l : Addr} {items : Array Value} (ns : List Int) {Q : Value → Shared → Prop} (hh : A.handled = none) (hl : s.heap.IsList l items) (hit : IntsAre items.toList ns) (hb : ns.length + 1 < scanBound)
    (h : ∀ (h' : Heap) (tk c : Nat), SetR w h' s.heap.objs.size (fun j => decide (j ∈ ns)) c → c ≤ ns.length → (∀ b o, s.heap.get? b = some o → h'.get? b = some o) → Q (.ref s.heap.objs.size) { s with heap := h', toks := tk }) :
    wpAny (model P w) A (call (.type "set") [.ref l]) Q E s := by
  obtain ⟨c, tl, hmro⟩ := F.called_set.mro
  have hmade := F.called_set.made
  have hsub := F.called_set.sub
  refine wpAny_call (codeAny_of_tree ?_)
  show wpAny _ _ (callAny (.type "set") _) _ _ _
  refine wpAny_pure ⟨Code.quiet_builtin _ (by decide +kernel), codeAny_builtin F.entry_type_call ?_⟩
  rw [Around.under_plain (weight_type_call_type "set" [.ref l] []) rfl]
  have h1 := F.called_set.notType
  have h2 := F.called_set.canCreate
  have hct := F.typeCall_set_1 (.ref l)
  repeat (any_goals (first | assumption | wp_step))
  refine codeAny_mono (code_set_led1 (.ref l) (E := E) (Q₁ := fun obj s₁ => obj = .ref s.heap.objs.size ∧ s₁ = { s with heap := s.heap.push (setNew w) }) ⟨rfl, rfl⟩) fun r s₁ hr => ?_
  cases r with
  | error e => exact hr
  | ok fl =>
    cases fl with
    | ret obj =>
      obtain ⟨rfl, rfl⟩ := hr
      have hT : Shared.TypeIs { s with heap := s.heap.push (setNew w) } (.ref s.heap.objs.size) "set" := ⟨_, Heap.get?_push_size _ rfl, rfl⟩
      have hli := F.called_set.init.lookup
      have hbi := F.called_set.init.bind (.ref s.heap.objs.size)
      repeat (any_goals (first | assumption | wp_step))
      refine codeAny_mono (set_init_list ns (E := E) (by simp [hh]) hl hit hb) fun r₂ s₂ hr₂ => ?_
      cases r₂ with
      | error e => exact hr₂
      | ok fl₂ =>
        cases fl₂ with
        | ret r =>
          obtain ⟨rfl, h', tk, c', rfl, hS', hc', hk'⟩ := hr₂
          repeat (any_goals (first | assumption | wp_step))
          exact h _ _ _ hS' hc' hk'
        | _ => exact hr₂.elim
    | _ => exact hr.elim
end
end DL

namespace DL
open PySem PySem.Spec PyProof.Rows L2

/-! ### sorted -/
abbrev enc6 (S : Sto) (d : D) : PyData := (rd 6 S d).py
def dLe (S : Sto) (a b : D) : Bool := PySem.W.dataLe false (enc6 S) a b
structure SortOk (S : Sto) (ds : List D) : Prop where
  ok : ∀ d ∈ ds, (rd 6 S d).ok 40 = true
  alk : PySem.W.AllAlike (ds.map (enc6 S))
  srt : PySem.W.Sortable (ds.map (enc6 S))
def lstOf (S : Sto) : D → Option (List D)
  | .fz ds => some ds
  | .ref a => match S a with | some (.lst ds) => some ds | _ => none
  | _ => none
section
variable {X : Cx} {pins : List (Addr × Obj)} {σ : L2.St} {H : Hp} {s : Shared} {S : Sto}
theorem lst_at {v : V} {u : Value} {d : D} {ds : List D} (I : Inv X pins σ H s) (hr : HR X.KW H S) (rv : RelV v u) (rd : RelD X.KW H v d) (h : lstOf S d = some ds) :
    ∃ a its vs, u = .ref a ∧ v = .ref a ∧ Vals vs its ∧ RelDs X.KW H vs ds ∧ vs.length ≤ sizeLine ∧ s.heap.IsList a its.toArray := by
  cases rd with
  | fz t r =>
    cases h; cases rv
    obtain ⟨its, a, b, c⟩ := I.list t.sq
    exact ⟨_, its, _, rfl, rfl, a, r, c, b.isList⟩
  | ref a =>
    simp only [lstOf] at h
    split at h
    · rename_i ds' e
      cases h; cases rv
      obtain ⟨vs, h1, r⟩ := hr a _ e
      obtain ⟨its, x, b, c⟩ := I.list (SqL.of h1)
      exact ⟨_, its, _, rfl, rfl, x, r, c, b.isList⟩
    · cases h
  | _ => cases h
theorem each_of : ∀ {vs : List V} {its : List Value} {ds : List D}, Vals vs its → RelDs X.KW H vs ds → PySem.W.EachIs (fun (u : Value) (b : V × D) => RelV b.1 u ∧ RelD X.KW H b.1 b.2) its (vs.zip ds)
  | _, _, _, .nil, .nil => .nil
  | _, _, _, .cons a t, .cons b r => .cons ⟨a, b⟩ (each_of t r)
theorem of_each : ∀ {its : List Value} {bs : List (V × D)}, PySem.W.EachIs (fun (u : Value) (b : V × D) => RelV b.1 u ∧ RelD X.KW H b.1 b.2) its bs → Vals (bs.map (·.1)) its ∧ RelDs X.KW H (bs.map (·.1)) (bs.map (·.2))
  | _, _, .nil => ⟨.nil, .nil⟩
  | _, _, .cons a t => ⟨.cons a.1 (of_each t).1, .cons a.2 (of_each t).2⟩
theorem zip_snd : ∀ {vs : List V} {ds : List D}, vs.length = ds.length → (vs.zip ds).map (·.2) = ds
  | [], [], _ => rfl
  | _ :: _, _ :: _, h => by simp [zip_snd (by simpa using h)]
theorem sorted_ok {E : Value → Shared → Prop} {a : Addr} {its : List Value} {vs : List V} {ds : List D} {Q : Value → Shared → Prop} (hu : X.A.units + 65 < cLine) (I : Inv X pins σ H s) (hr : HR X.KW H S) (rv : Vals vs its) (r : RelDs X.KW H vs ds) (hz : vs.length ≤ sizeLine) (hl : s.heap.IsList a its.toArray) (so : SortOk S ds)
    (k : ∀ p vs' s', H p = none → RelDs X.KW H vs' (ds.mergeSort (dLe S)) → Inv X pins σ (upd H p (.lst vs')) s' → Q (.ref p) s') : wpAny (model X.prog X.w) X.A (call (.builtin "sorted") [.ref a]) Q E s := by
  have el : vs.length = ds.length := r.length
  have e2 := zip_snd el
  have mem2 : ∀ b ∈ vs.zip ds, b.2 ∈ ds := fun b hb => by rw [← e2]; exact List.mem_map.mpr ⟨b, hb, rfl⟩
  have em : (vs.zip ds).map (fun b => enc6 S b.2) = ds.map (enc6 S) := by
    have := congrArg (List.map (enc6 S)) e2
    rw [List.map_map] at this
    exact this
  have E := each_of rv r
  have ER : PySem.W.EachIs (fun (u : Value) (b : V × D) => ∃ as, Reads s.heap u (enc6 S b.2) as) its (vs.zip ds) := by
    have all : ∀ b ∈ vs.zip ds, (rd 6 S b.2).ok 40 = true := fun b hb => so.ok _ (mem2 b hb)
    clear em mem2 e2 rv hl r el hz
    generalize vs.zip ds = bs at E all
    induction E with
    | nil => exact .nil
    | cons h t ih =>
      refine .cons ?_ (ih fun b hb => all b (List.mem_cons_of_mem _ hb))
      obtain ⟨dp, _, _⟩ := rd_dp hr 6 h.2 40 (all _ List.mem_cons_self)
      exact Dp.reads I _ _ _ dp h.1
  have hlen : (vs.zip ds).length = vs.length := by simp [el]
  refine PySem.W.sorted_data (bs := vs.zip ds) (enc := fun b => enc6 S b.2) hl E ER (by rw [em]; exact so.alk) (by rw [em]; exact so.srt) (by rw [hlen]; exact hz) (fun b hb => ?_) fun out ho eo => ?_
  · have q := so.ok _ (mem2 b hb)
    -- the depth
    have : (enc6 S b.2).depth ≤ 40 := by
      have hm := mem2 b hb
      obtain ⟨i, hi, e⟩ := List.getElem_of_mem hm
      obtain ⟨v, _, rdd⟩ := r.get (i := i) (d := b.2) (by rw [List.getElem?_eq_getElem hi, e])
      exact (rd_dp hr 6 rdd 40 q).2.2
    omega
  · obtain ⟨c, hc⟩ := PyProof.Rows.sortedAll_at s.heap its out.toArray
    obtain ⟨o1, o2⟩ := of_each eo
    have ms : ((vs.zip ds).mergeSort (PySem.W.dataLe false fun b => enc6 S b.2)).map (·.2) = ds.mergeSort (dLe S) := by
      have q := List.map_mergeSort (r := PySem.W.dataLe false fun b : V × D => enc6 S b.2) (s := dLe S) (f := fun b : V × D => b.2) (l := vs.zip ds) (fun a _ b _ => rfl)
      rw [e2] at q
      exact q
    rw [ms] at o2
    have n1 : H (s.heap.objs.size + 1) = none := I.hok.fresh (Nat.le_succ _)
    refine k _ _ _ n1 o2 (I.laid (t' := s.toks) (fun b o e => PyProof.Rows.sortedAll_old e) (Nat.le_succ _) ⟨?_, out, c, o1, hc⟩)
    rw [o1.length, ho, hlen]; exact hz
def wSorted : List D → Sto → KD → Prop := fun xs S Q => match xs with
  | [d] => onS (lstOf S d) fun ds => SortOk S ds ∧ ∀ p, S p = none → Q (.ref p) (put S p (.lst (ds.mergeSort (dLe S))))
  | _ => False
theorem dcall_sorted (hc : X.calm = true) (hu : X.A.units + 65 < cLine) : DCall X (.builtin "sorted") wSorted := by
  intro pins s σ H xs us ds S Q I rv hr rd q
  unfold wSorted at q
  split at q
  · rename_i d
    obtain ⟨v, rfl, r⟩ := rd.one
    cases rv with
    | cons rv t =>
    cases t
    obtain ⟨es, ee, so, q⟩ := onS.out q
    obtain ⟨a, its, vs, rfl, rfl, z1, z2, z3, z4⟩ := lst_at I hr rv r ee
    exact sorted_ok hu I hr z1 z2 z3 z4 so fun p vs' s' n r' I' => ⟨.ref p, _, I', rfl, .of (.new n) (hr.lst n r') (.ref p) (q p (hr.free n))⟩
  · exact q.elim
/-! ### sorted(set(l)) of ints -/
def intsD : List D → Option (List Int)
  | [] => some []
  | .int i :: r => (intsD r).map (i :: ·)
  | _ :: _ => none
theorem intsD_eq : ∀ {ds : List D} {ns : List Int}, intsD ds = some ns → ds = ns.map D.int
  | [], ns, h => by cases h; rfl
  | d :: r, ns, h => by
    cases d <;> simp only [intsD] at h <;> first | (cases h; done) | skip
    obtain ⟨ms, h1, h2⟩ := Option.map_eq_some_iff.mp h
    subst h2
    rw [intsD_eq h1]; rfl
theorem intsD_map (ns : List Int) : intsD (ns.map D.int) = some ns := by induction ns with
  | nil => rfl
  | cons n r ih => simp [intsD, ih]
theorem ints_vals : ∀ {vs : List V} {its : List Value} {ns : List Int}, Vals vs its → RelDs X.KW H vs (ns.map D.int) → IntsAre its ns
  | _, _, [], .nil, .nil => .nil
  | _, _, n :: r, .cons a t, .cons b q => by
    cases b
    obtain ⟨tk, rfl⟩ := a
    exact .cons n tk (ints_vals t q)
def dSortedSet (te : DTE) : DTE := fun τ S Q => te τ S fun d S1 => onS (lstOf S1 d) fun ds => onS (intsD ds) fun ns => ns.length < 63 ∧ ∀ (ms : List Int) (p : Addr), ms.Pairwise (· < ·) → (∀ k, k ∈ ms ↔ k ∈ ns) → S1 p = none → Q (.ref p) (put S1 p (.lst (ms.map D.int)))
theorem de_sortedSet {e : Expr} {te : DTE} {p1 p2 q1 q2 : Pos} (hc : X.calm = true) (hu : X.A.units + 65 < cLine) (hm1 : X.mg "sorted" = none) (hm2 : X.mg "set" = none) (hg1 : Gl X "sorted") (hg2 : Gl X "set") (he : DE X e te)
    (na : starEach [e] X.env = (false, eval e X.env) :: starEach [] X.env := by rfl) :
    DE X (.Call (.Name "sorted" p1) [.Call (.Name "set" p2) [e] [] q2] [] q1) (dSortedSet te) := ⟨fun pins s σ H τ S Q I st hr q => by
  refine Call_ (ld_blt I hg1 hm1 boot_sorted ?_)
  refine PyProof.Rows.callWith_builtin1 (PyProof.Rows.args_cons ?_ rfl) rfl rfl
  refine Call_ (ld_blt I hg2 hm2 boot_set ?_)
  refine PyProof.Rows.callWith_type1 (PyProof.Rows.args_cons (thn (he.run pins s σ H τ S _ I st hr q) fun v s1 ⟨x, H1, I1, r1, e1, d, S1, hr1, rd, q1⟩ => PyProof.Rows.args_nil ?_) na) na rfl
  obtain ⟨ds, ed, q1⟩ := onS.out q1
  obtain ⟨ns, en, h63, q9⟩ := onS.out q1
  have := intsD_eq en
  subst this
  obtain ⟨a, its, vs, rfl, rfl, z1, z2, z3, z4⟩ := lst_at I1 hr1 r1 rd ed
  refine set_of_list ns (I1.ok.hd hc) z4 (by simpa using ints_vals z1 z2) (by show _ < 4096; omega) fun h' tk c hR hcn hk => ?_
  have I2 : Inv X pins σ H1 { s1 with heap := h', toks := tk } := I1.kept hk
  refine PyProof.Rows.args_nil (sorted_set hR (I2.ok.hd hc) (by omega) fun s' p out c' ms k g o hp hg hi hs hm hl => ?_)
  have hlen : (ms.map V.int).length ≤ sizeLine := by rw [List.length_map, hl, sizeLine_eq]; omega
  have hn : H1 p = none := I2.hok.fresh hp
  have J : Inv X pins σ (upd H1 p (.lst (ms.map V.int))) { ({ s1 with heap := h', toks := tk } : Shared) with heap := s'.heap, gens := s'.gens, drawn := s'.drawn, toks := s'.toks } :=
    I2.call (ch := []) (Un.laid k hp hn) (I2.hok.laid k hp ⟨hlen, out.toList, c', vals_of_ints hi, hg⟩) (by rw [g]; exact I2.bare) (fun _ z => nomatch z)
  have e : s' = { ({ s1 with heap := h', toks := tk } : Shared) with heap := s'.heap, gens := s'.gens, drawn := s'.drawn, toks := s'.toks } := by
    cases s'
    cases o
    rfl
  rw [e]
  exact ⟨.ref p, _, J, rfl, .of (e1.trans (.new hn)) (hr1.lst hn (.ints ms)) (.ref p) (q9 ms p hs (fun k => by rw [hm k, decide_eq_true_eq]) (hr1.free hn))⟩⟩
/-! ### max, min -/
def maxI : List Int → Int
  | [] => 0
  | x :: r => r.foldl max x
def minI : List Int → Int
  | [] => 0
  | x :: r => r.foldl min x
theorem foldl_max : ∀ (r : List Int) (x : Int), (r.foldl max x = x ∨ r.foldl max x ∈ r) ∧ x ≤ r.foldl max x ∧ ∀ y ∈ r, y ≤ r.foldl max x
  | [], x => ⟨.inl rfl, Int.le_refl _, fun y h => nomatch h⟩
  | z :: r, x => by
    obtain ⟨h1, h2, h3⟩ := foldl_max r (max x z)
    simp only [List.foldl_cons, List.mem_cons]
    refine ⟨?_, by omega, fun y h => ?_⟩
    · rcases h1 with h | h
      · by_cases e : x ≤ z
        · exact .inr (.inl (by rw [h]; omega))
        · exact .inl (by rw [h]; omega)
      · exact .inr (.inr h)
    · rcases h with rfl | h
      · omega
      · exact h3 y h
theorem foldl_min : ∀ (r : List Int) (x : Int), (r.foldl min x = x ∨ r.foldl min x ∈ r) ∧ r.foldl min x ≤ x ∧ ∀ y ∈ r, r.foldl min x ≤ y
  | [], x => ⟨.inl rfl, Int.le_refl _, fun y h => nomatch h⟩
  | z :: r, x => by
    obtain ⟨h1, h2, h3⟩ := foldl_min r (min x z)
    simp only [List.foldl_cons, List.mem_cons]
    refine ⟨?_, by omega, fun y h => ?_⟩
    · rcases h1 with h | h
      · by_cases e : x ≤ z
        · exact .inl (by rw [h]; omega)
        · exact .inr (.inl (by rw [h]; omega))
      · exact .inr (.inr h)
    · rcases h with rfl | h
      · omega
      · exact h3 y h
theorem maxI_uniq {ns : List Int} {m : Int} (hm : m ∈ ns) (h : ∀ y ∈ ns, y ≤ m) : m = maxI ns := by
  cases ns with
  | nil => cases hm
  | cons x r =>
    obtain ⟨h1, h2, h3⟩ := foldl_max r x
    have a : m ≤ r.foldl max x := by
      rcases List.mem_cons.mp hm with rfl | hm
      · exact h2
      · exact h3 m hm
    have b : r.foldl max x ≤ m := by
      rcases h1 with e | e
      · rw [e]; exact h x List.mem_cons_self
      · exact h _ (List.mem_cons_of_mem _ e)
    exact Int.le_antisymm a b
theorem minI_uniq {ns : List Int} {m : Int} (hm : m ∈ ns) (h : ∀ y ∈ ns, m ≤ y) : m = minI ns := by
  cases ns with
  | nil => cases hm
  | cons x r =>
    obtain ⟨h1, h2, h3⟩ := foldl_min r x
    have a : r.foldl min x ≤ m := by
      rcases List.mem_cons.mp hm with rfl | hm
      · exact h2
      · exact h3 m hm
    have b : m ≤ r.foldl min x := by
      rcases h1 with e | e
      · rw [e]; exact h x List.mem_cons_self
      · exact h _ (List.mem_cons_of_mem _ e)
    exact Int.le_antisymm b a
def wMaxI : List D → Sto → KD → Prop := fun xs S Q => match xs with
  | [.int i, .int j] => Q (.int (if j > i then j else i)) S
  | [d] => onS (lstOf S d) fun ds => onS (intsD ds) fun ns => ns ≠ [] ∧ Q (.int (maxI ns)) S
  | _ => False
def wMin : List D → Sto → KD → Prop := fun xs S Q => match xs with
  | [.int i, .int j] => Q (.int (if j < i then j else i)) S
  | [d] => onS (lstOf S d) fun ds => onS (intsD ds) fun ns => ns ≠ [] ∧ Q (.int (minI ns)) S
  | _ => False
theorem lst_sq {v : V} {d : D} {ds : List D} (hr : HR X.KW H S) (rd : RelD X.KW H v d) (h : lstOf S d = some ds) : ∃ a vs, v = .ref a ∧ SqL X.K H a vs ∧ RelDs X.KW H vs ds := by
  cases rd with
  | fz t r => cases h; exact ⟨_, _, rfl, t.sq, r⟩
  | ref a =>
    simp only [lstOf] at h
    split at h
    · rename_i ds' e
      cases h
      obtain ⟨vs, h1, r⟩ := hr a _ e
      exact ⟨_, _, rfl, SqL.of h1, r⟩
    · cases h
  | _ => cases h
theorem relDs_intV : ∀ {vs : List V} {ns : List Int}, RelDs X.KW H vs (ns.map D.int) → vs = ns.map V.int
  | _, [], .nil => rfl
  | _, n :: r, .cons a t => by cases a; rw [relDs_intV t]; rfl
theorem dcall_maxI (hc : X.calm = true) : DCall X (.builtin "max") wMaxI := by
  refine .of ((call_max2 hc).or (cr_max hc)) fun xs H ds S Q R hr rd q k => ?_
  unfold wMaxI at q
  split at q
  · obtain ⟨a, b, rfl, ra, rb⟩ := rd.two
    cases ra; cases rb
    exact .inl ⟨_, _, rfl, k _ _ (.of (.refl _) hr (.int _) q)⟩
  · obtain ⟨v, rfl, r⟩ := rd.one
    obtain ⟨es, ee, q⟩ := onS.out q
    obtain ⟨ns, en, q1, q2⟩ := onS.out q
    have := intsD_eq en
    subst this
    obtain ⟨a, vs, rfl, sq, rr⟩ := lst_sq hr r ee
    have := relDs_intV rr
    subst this
    refine .inr ⟨a, ns, rfl, sq, List.length_pos_iff.mpr q1, fun m hm hall => ?_⟩
    rw [maxI_uniq hm hall]
    exact k _ _ (.of (.refl _) hr (.int _) q2)
  · exact q.elim
theorem dcall_min (hc : X.calm = true) : DCall X (.builtin "min") wMin := by
  refine .of ((call_min2 hc).or (cr_min hc)) fun xs H ds S Q R hr rd q k => ?_
  unfold wMin at q
  split at q
  · obtain ⟨a, b, rfl, ra, rb⟩ := rd.two
    cases ra; cases rb
    exact .inl ⟨_, _, rfl, k _ _ (.of (.refl _) hr (.int _) q)⟩
  · obtain ⟨v, rfl, r⟩ := rd.one
    obtain ⟨es, ee, q⟩ := onS.out q
    obtain ⟨ns, en, q1, q2⟩ := onS.out q
    have := intsD_eq en
    subst this
    obtain ⟨a, vs, rfl, sq, rr⟩ := lst_sq hr r ee
    have := relDs_intV rr
    subst this
    refine .inr ⟨a, ns, rfl, sq, List.length_pos_iff.mpr q1, fun m hm hall => ?_⟩
    rw [minI_uniq hm hall]
    exact k _ _ (.of (.refl _) hr (.int _) q2)
  · exact q.elim
end
end DL

namespace DL
open PySem PySem.Spec PyProof.Rows L2
open Builtin.Str (reprChar)

/-! ### repr -/
theorem strOk_mem {x : Str} : PyData.strOk x = true ↔ ∀ c ∈ x.cps.toList, c < 0x110000 := by
  unfold PyData.strOk
  rw [← Array.all_toList, List.all_eq_true]
  exact ⟨fun h c hc => by simpa using h c hc, fun h c hc => by simpa using h c hc⟩
theorem strOk_app {x y : Str} (h1 : PyData.strOk x = true) (h2 : PyData.strOk y = true) : PyData.strOk (x ++ y) = true := strOk_append h1 h2
theorem strOk_textFrom : ∀ (ts : List Str) (k : Nat) (acc : Str), PyData.strOk acc = true → (∀ t ∈ ts, PyData.strOk t = true) → PyData.strOk (textFrom k acc ts) = true
  | [], _, _, h, _ => h
  | t :: ts, k, acc, h, ht => by
    refine strOk_textFrom ts (k + 1) _ (strOk_app (strOk_app h ?_) (ht t List.mem_cons_self)) fun u hu => ht u (List.mem_cons_of_mem _ hu)
    split <;> decide +kernel
theorem strOk_join {sep : Str} (hs : PyData.strOk sep = true) : ∀ ts : List Str, (∀ t ∈ ts, PyData.strOk t = true) → PyData.strOk (Str.join sep ts) = true
  | [], _ => (by decide +kernel : PyData.strOk (Str.ofString "") = true)
  | [x], h => h x List.mem_cons_self
  | x :: y :: r, h => by
    show PyData.strOk (x ++ sep ++ Str.join sep (y :: r)) = true
    exact strOk_app (strOk_app (h x List.mem_cons_self) hs) (strOk_join hs (y :: r) fun t ht => h t (List.mem_cons_of_mem _ ht))
theorem hexd_lt (c : Nat) : ∀ x ∈ (Nat.toDigits 16 c).map Char.toNat, x < 0x110000 := by
  intro x hx
  obtain ⟨ch, _, rfl⟩ := List.mem_map.mp hx
  have := ch.valid
  unfold UInt32.isValidChar Nat.isValidChar at this
  show ch.val.toNat < _
  omega
theorem reprChar_lt {q c : Nat} (hc : c < 0x110000) : ∀ x ∈ reprChar q c, x < 0x110000 := by
  intro x hx
  unfold reprChar at hx
  have hex : ∀ (w : Nat) (x : Nat), x ∈ (List.replicate (w - ((Nat.toDigits 16 c).map Char.toNat).length) 48 ++ (Nat.toDigits 16 c).map Char.toNat) → x < 0x110000 := fun w x h => by
    rcases List.mem_append.mp h with h | h
    · rw [List.eq_of_mem_replicate h]; decide
    · exact hexd_lt c x h
  have two : ∀ (a b : Nat), a < 0x110000 → b < 0x110000 → ∀ x ∈ [a, b], x < 0x110000 := fun a b ha hb x h => by
    rcases List.mem_cons.mp h with rfl | h
    · exact ha
    · rw [List.mem_singleton.mp h]; exact hb
  split at hx
  · exact two _ _ (by decide) hc x hx
  split at hx
  · exact two _ _ (by decide) (by decide) x hx
  split at hx
  · exact two _ _ (by decide) (by decide) x hx
  split at hx
  · exact two _ _ (by decide) (by decide) x hx
  split at hx
  · rw [List.mem_singleton.mp hx]; exact hc
  split at hx
  · rcases List.mem_append.mp hx with h | h
    · exact two _ _ (by decide) (by decide) x h
    · exact hex _ x h
  split at hx
  · rcases List.mem_append.mp hx with h | h
    · exact two _ _ (by decide) (by decide) x h
    · exact hex _ x h
  · rcases List.mem_append.mp hx with h | h
    · exact two _ _ (by decide) (by decide) x h
    · exact hex _ x h
theorem foldl_repr_lt (q : Nat) : ∀ (l : List Nat) (acc : Array Nat), (∀ c ∈ l, c < 0x110000) → (∀ c ∈ acc.toList, c < 0x110000) → ∀ c ∈ (l.foldl (fun out c => out ++ (reprChar q c).toArray) acc).toList, c < 0x110000
  | [], acc, _, h => h
  | c :: r, acc, hl, h => by
    refine foldl_repr_lt q r _ (fun x hx => hl x (List.mem_cons_of_mem _ hx)) fun x hx => ?_
    simp only [Array.toList_append, List.mem_append] at hx
    rcases hx with hx | hx
    · exact h x hx
    · exact reprChar_lt (hl c List.mem_cons_self) x hx
theorem reprQuote_lt (x : Str) : reprQuote x < 0x110000 := by
  unfold reprQuote
  split <;> decide
theorem strOk_repr {x : Str} (h : PyData.strOk x = true) : PyData.strOk (reprText x) = true := by
  rw [strOk_mem] at h ⊢
  intro c hc
  unfold reprText at hc
  simp only [Array.toList_push, List.mem_append, List.mem_singleton] at hc
  rcases hc with hc | rfl
  · have e : x.cps.foldl (fun out c => out ++ (reprChar (reprQuote x) c).toArray) #[reprQuote x] = x.cps.toList.foldl (fun out c => out ++ (reprChar (reprQuote x) c).toArray) #[reprQuote x] := by rw [← Array.foldl_toList]
    rw [e] at hc
    exact foldl_repr_lt _ _ _ h (fun c hc => by
      have hc' : c = reprQuote x := by simpa using hc
      rw [hc']; exact reprQuote_lt x) c hc
  · exact reprQuote_lt x
theorem strOk_intT (i : Int) : PyData.strOk (PyData.int i).shown = true := by
  rw [strOk_mem]
  intro c hc
  by_cases h : c ≠ 45 ∧ (c < 48 ∨ 57 < c)
  · exact absurd hc (PyProof.Rows.shown_int_free' h i)
  · omega
mutual
theorem strOk_shown : ∀ d : PyData, d.canLay0 = true → PyData.strOk d.shown = true
  | .none, _ => by decide +kernel
  | .bool b, _ => by cases b <;> decide +kernel
  | .int i, _ => strOk_intT i
  | .str x, h => by rw [PyData.shown]; exact strOk_repr (by simpa [PyData.canLay0] using h)
  | .list xs, h => by
    rw [PyData.shown]
    exact strOk_app (strOk_textFrom _ _ _ (by decide +kernel) (strOk_shownAll xs (by simpa [PyData.canLay0] using h))) (by decide +kernel)
  | .tuple xs, h => by
    rw [PyData.shown]
    unfold tupleText
    refine strOk_app (strOk_app (by decide +kernel) (strOk_join (by decide +kernel) _ (strOk_shownAll xs (by simpa [PyData.canLay0] using h)))) ?_
    split <;> decide +kernel
  | .dict _, h => by simp [PyData.canLay0] at h
theorem strOk_shownAll : ∀ xs : List PyData, PyData.canLayAll0 xs = true → ∀ t ∈ PyData.shownAll xs, PyData.strOk t = true
  | [], _, t, ht => by simp [PyData.shownAll] at ht
  | x :: xs, h, t, ht => by
    have h' : x.canLay0 = true ∧ PyData.canLayAll0 xs = true := by simpa [PyData.canLayAll0] using h
    rw [PyData.shownAll] at ht
    rcases List.mem_cons.mp ht with rfl | ht
    · exact strOk_shown x h'.1
    · exact strOk_shownAll xs h'.2 t ht
end
section
variable {X : Cx}
/-- repr of a list or a tuple -/
def wRepr : List D → Sto → KD → Prop := fun xs S Q => match xs with
  | [d] => (rd 6 S d).ok 40 = true ∧ (rd 6 S d).py.showable = true ∧ (rd 6 S d).py.shown.length ≤ sizeLine ∧ (∃ ds, seqOf S d = some ds) ∧ Q (.str (rd 6 S d).py.shown) S
  | _ => False
theorem dcall_repr (hu : X.A.units + 65 < cLine) (hgd : X.A.guards = some []) : DCall X (.builtin "repr") wRepr := by
  intro pins s σ H xs us ds S Q I rv hr rd q
  unfold wRepr at q
  split at q
  · rename_i d
    obtain ⟨q1, q2, q3, ⟨es, ee⟩, q4⟩ := q
    obtain ⟨v, rfl, r⟩ := rd.one
    cases rv with
    | cons rv t =>
    cases t
    obtain ⟨dp, cl, dep⟩ := rd_dp hr 6 r 40 q1
    obtain ⟨a, its, vs, rfl, rfl, _⟩ := seq_at I hr rv r ee
    obtain ⟨as, rr⟩ := Dp.reads I _ _ _ dp rv
    refine repr_of_reads' rr q2 (PyData.noDict_hsm (PyData.hasDict_of_canLay _ cl)) hgd (by omega) (fun b o e => e) (fun h' u tk k => ?_) q3
    exact ⟨.str _, H, I.kept (t' := tk) k, ⟨u, rfl⟩, .of (.refl _) hr (.str _ (strOk_shown _ cl)) q4⟩
  · exact q.elim
end
end DL

namespace DL
open PySem PySem.Spec PyProof.Rows L2

/-! ### list(d.values()), list(d) -/
def dctOf (S : Sto) : D → Option (Addr × List (D × D))
  | .ref a => match S a with | some (.dct kvs) => some (a, kvs) | some (.fdc _ kvs) => some (a, kvs) | _ => none
  | _ => none
section
variable {X : Cx} {pins : List (Addr × Obj)} {σ : L2.St} {H : Hp} {s : Shared} {S : Sto}
theorem ent_K {a : Addr} {ks : List (Key × V)} {kvs : List (D × D)} (I : Inv X pins σ H s) (h1 : Rd H a (.dK ks)) (rk : RelKV kD X.KW H ks kvs) : (a == sysModules) = false ∧ kvs.length ≤ sizeLine ∧ ∃ es ep, s.heap.DictRaw a es ep ∧ EntAt X.KW H es kvs := by
  obtain ⟨z, hd, vs, kv, o, es, ep, ho, hx, hdt, hk, hp, hn⟩ := dk_rd I.hok h1
  have hsz : es.size = kvs.length := by
    have l1 := hp.length
    have l2 : ks.length = vs.length := Paired.length kv
    have l3 := rk.length
    rw [Array.length_toList] at l1
    omega
  refine ⟨hd, by rw [← rk.length]; exact z, es, ep, ⟨o, ho, hx, hdt⟩, hsz, fun i en kd vd e1 e2 => ?_⟩
  obtain ⟨k, v, q1, rfl, hs, q3⟩ := relKV_get rk e2
  obtain ⟨u, q4, q5⟩ := kv_get kv q1
  obtain ⟨q6, q7⟩ := hp.get? (e := en) (by simpa using e1) q4
  refine ⟨⟨L2.kV k, relV_key q6, ?_⟩, v, by rw [q7]; exact q5, q3⟩
  cases k with
  | inl i => exact .int i
  | inr x => exact .str x (hs x rfl)
theorem ent_T {a : Addr} {xs : List (List Key × Addr × Value)} {kvs : List (D × D)} (I : Inv X pins σ H s) (h1 : Rd H a (TDn X.KW a xs)) (rk : RelTV X.KW H xs kvs) : (a == sysModules) = false ∧ kvs.length ≤ sizeLine ∧ ∃ es ep, s.heap.DictRaw a es ep ∧ EntAt X.KW H es kvs := by
  obtain ⟨z, hd, o, es, ep, ho, hx, hdt, hes, _, _⟩ := tdn_rd I h1 rk
  refine ⟨hd, by rw [← rk.length]; exact z, es, ep, ⟨o, ho, hx, hdt⟩, by rw [size_of_entries hes, rk.length], fun i en kd vd e1 e2 => ?_⟩
  obtain ⟨k, b, u, v, q1, rfl, q3, q4, q5⟩ := relTV_get rk e2
  have q := entry_at hes i
  rw [e1, q1] at q
  have q' := Option.some.inj q
  exact ⟨⟨.ref b, by rw [q']; rfl, .tup q3.1 q3.2⟩, v, by rw [q']; exact q4, q5⟩
theorem ent_at {d : D} {a : Addr} {kvs : List (D × D)} (I : Inv X pins σ H s) (hr : HR X.KW H S) (e : dctOf S d = some (a, kvs)) : d = .ref a ∧ (a == sysModules) = false ∧ kvs.length ≤ sizeLine ∧ ∃ es ep, s.heap.DictRaw a es ep ∧ EntAt X.KW H es kvs := by
  unfold dctOf at e
  split at e
  · rename_i a'
    split at e
    · rename_i kvs' es
      cases e
      rcases hr a _ es with ⟨ks, h1, rk⟩ | ⟨xs, h1, rk⟩
      · exact ⟨rfl, ent_K I (.inl h1) rk⟩
      · exact ⟨rfl, ent_T I (.inl h1) rk⟩
    · rename_i o kvs' es
      cases e
      rcases hr a _ es with ⟨ks, h1, rk⟩ | ⟨xs, h1, rk⟩
      · exact ⟨rfl, ent_K I (.inr ⟨_, h1⟩) rk⟩
      · exact ⟨rfl, ent_T I (.inr ⟨_, h1⟩) rk⟩
    · cases e
  · cases e
/-- the items of a list laid from another thing's items, each related -/
theorem rel_items : ∀ (ds : List D) (vs : List Value), vs.length = ds.length → (∀ (i : Nat) (d : D) (u : Value), ds[i]? = some d → vs[i]? = some u → ∃ v, RelV v u ∧ RelD X.KW H v d) → ∃ ws, Vals ws vs ∧ RelDs X.KW H ws ds
  | [], [], _, _ => ⟨[], .nil, .nil⟩
  | d :: ds, u :: vs, hl, h => by
    obtain ⟨v, r1, r2⟩ := h 0 d u rfl rfl
    obtain ⟨ws, a, b⟩ := rel_items ds vs (by simpa using hl) fun i d' u' e1 e2 => h (i + 1) d' u' (by simpa using e1) (by simpa using e2)
    exact ⟨v :: ws, .cons r1 a, .cons r2 b⟩
def dList_values (td : DTE) : DTE := fun τ S Q => td τ S fun d S1 => match dctOf S1 d with
  | some (a, kvs) => ∀ p, S1 p = none → Q (.ref p) (put S1 p (.lst (kvs.map (·.2))))
  | none => False
theorem de_list_values {e : Expr} {te : DTE} {p pos apos cpos : Pos} (hc : X.calm = true) (hm : X.mg "list" = none) (hg : Gl X "list") (he : DE X e te) (hbase : attributeBase e "values" X.env (eval e X.env) = eval e X.env := by rfl) (hline : (apos.endLine == cpos.line) = true := by rfl)
    (na : starEach [(.Call (.Attribute e "values" apos) [] [] cpos : Expr)] X.env = [(false, eval (.Call (.Attribute e "values" apos) [] [] cpos) X.env)] := by rfl) :
    DE X (.Call (.Name "list" p) [.Call (.Attribute e "values" apos) [] [] cpos] [] pos) (dList_values te) := ⟨fun pins s σ H τ S Q I st hr q => by
  refine Call_ (ld_blt I hg hm boot_list ?_)
  refine PyProof.Rows.callWith_type1 (PyProof.Rows.args_cons ?_ na) na rfl
  refine wpAny_Call_method (T := "dict") (id := "dict.values") hbase rfl hline F.plainAttrs_dict F.slot_dict_values F.type_dict_values (thn (he.run pins s σ H τ S _ I st hr q) fun u s1 ⟨v, H1, I1, rv, e1, d, S1, hr1, rd, q1⟩ => ?_)
  simp only at q1
  split at q1
  · rename_i a kvs ef
    obtain ⟨rfl, hs, hz, es, ep, raw, ea⟩ := ent_at I1 hr1 ef
    cases rd; cases rv
    obtain ⟨o, hg', hx, hdt⟩ := id raw
    refine ⟨raw.typeIs, fun b e => by cases e; exact ⟨o, hg', hx.2.1⟩, ?_⟩
    have I2 : Inv X pins σ H1 { s1 with heap := s1.heap.push { cls := .type "dict_values", data := .fields #[.ref a] } } := I1.kept (t' := s1.toks) fun b ob q => Heap.get?_push_of_some _ q
    refine method_meetsIn F.slot_dict_values F.entry_dict_values rfl (PySem.evalArgs_none ⟨rfl, raw.typeIs, F.args_dict_values_1 _, _, meets_dict_values_raw a hs, ⟨es, ep, raw⟩, ?_⟩)
    refine PyProof.Rows.args_nil (PySem.W.kdl_call (n := es.size) KdlSrc.rawValues (I2.ok.hd hc) ⟨⟨_, Heap.get?_push_size _ rfl, rfl, rfl⟩, raw.at fun ob q => Heap.get?_push_of_some _ q⟩ (by rw [ea.1]; exact hz) fun h' tk acc c k hS hI => ?_)
    have hn : H1 s1.heap.objs.size = none := I1.hok.fresh (Nat.le_refl _)
    obtain ⟨hlen, hit⟩ := hI
    have hl2 : acc.toList.length = (kvs.map (·.2)).length := by rw [Array.length_toList, hlen, ea.1, List.length_map]
    obtain ⟨ws, w1, w2⟩ := rel_items (X := X) (H := H1) (kvs.map (·.2)) acc.toList hl2 fun i d u p1 p2 => by
      rw [List.getElem?_map] at p1
      cases p3 : kvs[i]? with
      | none => rw [p3] at p1; cases p1
      | some kv =>
        rw [p3] at p1; cases p1
        rw [Array.getElem?_toList] at p2
        obtain ⟨hi, rfl⟩ := hit i u p2
        exact (ea.2 i es[i] kv.1 kv.2 (by rw [Array.getElem?_eq_getElem hi]) p3).2
    have hn2 : H1 (s1.heap.push { cls := .type "dict_values", data := .fields #[.ref a] }).objs.size = none := I2.hok.fresh (Nat.le_refl _)
    have hlen2 : ws.length ≤ sizeLine := by rw [w2.length, List.length_map]; exact hz
    exact ⟨.ref _, _, I2.laid (o := .lst ws) (t' := tk) k (Nat.le_refl _) ⟨hlen2, acc.toList, c, w1, hS⟩, rfl, .of (e1.trans (.new hn2)) (hr1.lst hn2 w2) (.ref _) (q1 _ (hr1.free hn2))⟩
  · exact q1.elim⟩
end
end DL

namespace DL
open PySem PySem.Spec PyProof.Rows L2

/-! ### the readings, for simp -/
section
variable {τ : DSt} {S : Sto} {Dn : DEnds} {Q : KD} {QT : Bool → Sto → Prop} {QA : List D → Sto → Prop} {t u v : DTE} {ts us : DTS} {c : DTT} {ta : DTA} {r r' : DR} {d x y : D} {i j : Nat}
@[simp] theorem dC_eq : dC d τ S Q = Q d S := rfl
@[simp] theorem dV_eq : dV i τ S Q = match τ[i]? with | some (some d) => Q d S | _ => False := rfl
@[simp] theorem dBin_eq : dBin r t u τ S Q = t τ S fun x S1 => u τ S1 fun y S2 => r x y S2 Q := rfl
@[simp] theorem isB_bl {b : Bool} : isB QT (.bl b) S = QT b S := rfl
@[simp] theorem isI_int {n : Int} {Qi : Option Int → Sto → Prop} : isI Qi (.int n) S = Qi (some n) S := rfl
@[simp] theorem isRef_ref {n : Addr} {Qi : Addr → Sto → Prop} : isRef Qi (.ref n) S = Qi n S := rfl
@[simp] theorem dTst_eq : dTst t τ S QT = t τ S (isB QT) := rfl
@[simp] theorem dAnd_eq {c1 c2 : DTT} : dAnd c1 c2 τ S QT = c1 τ S fun b S1 => if b = true then c2 τ S1 QT else QT false S1 := rfl
@[simp] theorem dOr_eq {c1 c2 : DTT} : dOr c1 c2 τ S QT = c1 τ S fun b S1 => if b = true then QT true S1 else c2 τ S1 QT := rfl
@[simp] theorem dNot_eq : dNot c τ S QT = c τ S fun b S1 => QT (!b) S1 := rfl
@[simp] theorem dAndV_eq : dAndV t u τ S Q = t τ S (isB fun c S1 => if c = true then u τ S1 Q else Q (.bl false) S1) := rfl
@[simp] theorem dOrV_eq : dOrV t u τ S Q = t τ S (isB fun c S1 => if c = true then Q (.bl true) S1 else u τ S1 Q) := rfl
@[simp] theorem dNotV_eq : dNotV t τ S Q = t τ S (isB fun c S1 => Q (.bl (!c)) S1) := rfl
@[simp] theorem dIf_eq : dIf c t u τ S Q = c τ S fun b S1 => if b = true then t τ S1 Q else u τ S1 Q := rfl
@[simp] theorem dChain_eq : dChain r r' t u v τ S Q = t τ S fun x S1 => u τ S1 fun y S2 => r x y S2 (isB fun k S3 => if k = true then v τ S3 fun z S4 => r' y z S4 Q else Q (.bl false) S3) := rfl
@[simp] theorem dUn_eq {w : D → Sto → KD → Prop} : dUn w t τ S Q = t τ S fun x S1 => w x S1 Q := rfl
@[simp] theorem wNeg_int {n : Int} : wNeg (.int n) S Q = Q (.int (-n)) S := rfl
@[simp] theorem dNil_eq : dNil τ S QA = QA [] S := rfl
@[simp] theorem dCons_eq : dCons t ta τ S QA = t τ S fun x S1 => ta τ S1 fun xs S2 => QA (x :: xs) S2 := rfl
@[simp] theorem dCB_eq {w : List D → Sto → KD → Prop} : dCB w ta τ S Q = ta τ S fun ds S1 => w ds S1 Q := rfl
@[simp] theorem dTup_eq : dTup ta τ S Q = ta τ S fun ds S1 => ds.length ≤ sizeLine ∧ Q (.tup ds) S1 := rfl
@[simp] theorem dLst_eq : dLst ta τ S Q = ta τ S fun ds S1 => ds.length ≤ sizeLine ∧ ∀ p, S1 p = none → Q (.ref p) (put S1 p (.lst ds)) := rfl
@[simp] theorem dNext_eq : dNext Dn τ S = Dn.nx τ S := rfl
@[simp] theorem dSeq_eq : dSeq ts us Dn τ S = ts { Dn with nx := us Dn } τ S := rfl
@[simp] theorem dBreak_eq : dBreak Dn τ S = Dn.bk τ S := rfl
@[simp] theorem dCont_eq : dCont Dn τ S = Dn.ct τ S := rfl
@[simp] theorem dDrop_eq : dDrop t Dn τ S = t τ S fun _ S1 => Dn.nx τ S1 := rfl
@[simp] theorem dRet_eq : dRet t Dn τ S = t τ S Dn.rt := rfl
@[simp] theorem dRetN_eq : dRetN Dn τ S = Dn.rt .non S := rfl
@[simp] theorem dIfS_eq : dIfS c ts us Dn τ S = c τ S fun b S1 => if b = true then ts Dn τ S1 else us Dn τ S1 := rfl
@[simp] theorem dNever_eq : dNever Dn τ S = False := rfl
variable {k : DSt → Sto → Prop}
@[simp] theorem gdName_eq : gdName i d τ S k = k (τ.set i (some d)) S := rfl
@[simp] theorem gdNil_eq {ds : List D} : gdNil ds τ S k = (ds = [] ∧ k τ S) := rfl
@[simp] theorem gdCons_eq {g : DTG} {h : DTGs} {ds : List D} : gdCons g h (d :: ds) τ S k = g d τ S fun τ' S' => h ds τ' S' k := rfl
@[simp] theorem gdTup_tup {g : DTGs} {n : Nat} {ds : List D} : gdTup n g (.tup ds) τ S k = (ds.length = n ∧ g ds τ S k) := rfl
@[simp] theorem gdTup_wt {g : DTGs} {n : Nat} {ds : List D} : gdTup n g (.wt ds) τ S k = (ds.length = n ∧ g ds τ S k) := rfl
@[simp] theorem gdSub_eq {w : D → D → D → Sto → (Sto → Prop) → Prop} : gdSub t u w d τ S k = t τ S fun o S1 => u τ S1 fun i S2 => w o i d S2 fun S3 => k τ S3 := rfl
@[simp] theorem dAsg_eq {g : DTG} : dAsg t g Dn τ S = t τ S fun x S1 => g x τ S1 Dn.nx := rfl
@[simp] theorem dPar_eq : dPar i j ta Dn τ S = ta τ S fun ds S1 => match ds with | [x, y] => Dn.nx ((τ.set i (some x)).set j (some y)) S1 | _ => False := rfl
@[simp] theorem dPar3_eq {l : Nat} : dPar3 i j l ta Dn τ S = ta τ S fun ds S1 => match ds with | [x, y, z] => Dn.nx (((τ.set i (some x)).set j (some y)).set l (some z)) S1 | _ => False := rfl
@[simp] theorem dCall_eq {sp : DSp} {dds : List D} : dCall sp dds ta τ S Q = ta τ S fun ds S1 => sp (ds ++ dds) S1 Q noX := rfl
@[simp] theorem bodyEnds_nx : (bodyEnds Q).nx τ S = Q .non S := rfl
@[simp] theorem bodyEnds_rt : (bodyEnds Q).rt = Q := rfl
@[simp] theorem dNoPart_eq {Qi : Option Int → Sto → Prop} : dNoPart τ S Qi = Qi none S := rfl
@[simp] theorem dPart_eq {Qi : Option Int → Sto → Prop} : dPart t τ S Qi = t τ S (isI Qi) := rfl
@[simp] theorem dCut_eq {tl th : DTO} : dCut t tl th τ S Q = t τ S fun x S1 => tl τ S1 fun l S2 => th τ S2 fun u S3 => wCut x l u S3 Q := rfl
@[simp] theorem dBM_eq {T : String} {w : D → List D → Sto → KD → Prop} : dBM T w t ta τ S Q = t τ S fun x S1 => tyD T x S1 ∧ ta τ S1 fun ds S2 => w x ds S2 Q := rfl
@[simp] theorem dBM0_eq {T : String} {w : D → List D → Sto → KD → Prop} : dBM0 T w t τ S Q = t τ S fun x S1 => tyD T x S1 ∧ w x [] S1 Q := rfl
@[simp] theorem dFor_eq {wi : DTI} {g : DTG} : dFor wi g ts Dn τ S = wi τ S fun ds stab S1 => loopF g ts Dn stab ds τ S1 := rfl
@[simp] theorem dWhile_eq : dWhile c ts Dn τ S = ∃ n, whF c ts Dn n τ S := rfl
@[simp] theorem diVal_eq {w : WIt} {R : List D → (Sto → Prop) → Sto → Prop} : diVal t w τ S R = t τ S fun d S1 => w d S1 R := rfl
@[simp] theorem diRng1_eq {R : List D → (Sto → Prop) → Sto → Prop} : diRng1 ta τ S R = ta τ S fun ds S1 => match ds with | [.int j] => j < 2 ^ 62 ∧ -(2 ^ 62) ≤ j ∧ R (rngD 0 j.toNat) (fun _ => True) S1 | _ => False := rfl
@[simp] theorem dLC_eq {wi : DTI} {g : DTG} {tt : DTT} {vs all : List Nat} {rs : List ClT} : dLC wi g tt vs all rs t τ S Q = wi τ S fun ds stab S1 => ∀ D, S1 D = none → loopC g tt vs (compR rs (emLst t D)) stab ds (wipeD τ all) (put S1 D (.lst [])) (fun S2 => Q (.ref D) S2) := rfl
@[simp] theorem dDC_eq {wi : DTI} {g : DTG} {tt : DTT} {vs all : List Nat} {rs : List ClT} : dDC wi g tt vs all rs t u τ S Q = wi τ S fun ds stab S1 => ∀ D, S1 D = none → loopC g tt vs (compR rs (emDct t u D)) stab ds (wipeD τ all) (put S1 D (.dct [])) (fun S2 => Q (.ref D) S2) := rfl
@[simp] theorem dGet1_eq : dGet1 t u τ S Q = t τ S (isRef fun a S1 => isDct S1 a ∧ u τ S1 fun y S2 => onD S2 a y fun kvs => Q ((dGet kvs y).getD .non) S2) := rfl
@[simp] theorem dGet2_eq : dGet2 t u v τ S Q = t τ S (isRef fun a S1 => isDct S1 a ∧ u τ S1 fun y S2 => v τ S2 fun z S3 => onD S3 a y fun kvs => Q ((dGet kvs y).getD z) S3) := rfl
@[simp] theorem dYes_eq : dYes τ S QT = QT true S := rfl
@[simp] theorem wipeD_nil : wipeD τ [] = τ := rfl
@[simp] theorem wipeD_cons {n : Nat} {ns : List Nat} : wipeD τ (n :: ns) = (wipeD τ ns).set n none := rfl
-- values
variable {m n : Int} {a b : Addr} {ds es : List D}
@[simp] theorem wAdd_int : wAdd (.int m) (.int n) S Q = Q (.int (m + n)) S := rfl
@[simp] theorem wAdd_str {p q : Str} : wAdd (.str p) (.str q) S Q = (p.length + q.length ≤ sizeLine ∧ Q (.str (p ++ q)) S) := rfl
@[simp] theorem wAdd_tup : wAdd (.tup ds) (.tup es) S Q = (ds.length + es.length ≤ sizeLine ∧ Q (.tup (ds ++ es)) S) := rfl
@[simp] theorem wAdd_ref : wAdd (.ref a) (.ref b) S Q = onL S a fun xs => onL S b fun ys => xs.length + ys.length ≤ sizeLine ∧ ∀ p, S p = none → Q (.ref p) (put S p (.lst (xs ++ ys))) := rfl
@[simp] theorem wI0_int {g : Int → Int → Int} : wI0 g (.int m) (.int n) S Q = Q (.int (g m n)) S := rfl
@[simp] theorem wI_int {C : Int → Int → Prop} {g : Int → Int → Int} : wI C g (.int m) (.int n) S Q = (C m n ∧ Q (.int (g m n)) S) := rfl
@[simp] theorem wCmp_int {p : Int → Int → Bool} {t : List Nat → List Nat → Bool} : wCmp p t (.int m) (.int n) S Q = Q (.bl (p m n)) S := rfl
@[simp] theorem wIsN_eq : wIsN x .non S Q = Q (.bl (decide (x = .non))) S := by simp [wIsN]
@[simp] theorem wNotN_eq : wNotN x .non S Q = Q (.bl (!decide (x = .non))) S := by simp [wNotN]
@[simp] theorem wLen_tup : wLen [.tup ds] S Q = Q (.int ds.length) S := rfl
@[simp] theorem wLen_fz : wLen [.fz ds] S Q = Q (.int ds.length) S := rfl
@[simp] theorem wLen_lst (h : S a = some (.lst ds)) : wLen [.ref a] S Q = Q (.int ds.length) S := by simp [wLen, h]
@[simp] theorem wLen_dct {kvs : List (D × D)} (h : S a = some (.dct kvs)) : wLen [.ref a] S Q = Q (.int kvs.length) S := by simp [wLen, h]
@[simp] theorem wLen_fdc {o : Obj} {kvs : List (D × D)} (h : S a = some (.fdc o kvs)) : wLen [.ref a] S Q = Q (.int kvs.length) S := by simp [wLen, h]
@[simp] theorem onS_some {α : Type} {x : α} {k : α → Prop} : onS (some x) k = k x := rfl
@[simp] theorem wTuple_tup : wTuple [.tup ds] S Q = Q (.tup ds) S := rfl
@[simp] theorem wTuple_lst (h : S a = some (.lst ds)) : wTuple [.ref a] S Q = Q (.tup ds) S := by simp [wTuple, h]
@[simp] theorem wList_tup : wList [.tup ds] S Q = ∀ p, S p = none → Q (.ref p) (put S p (.lst ds)) := rfl
@[simp] theorem wList_fz : wList [.fz ds] S Q = ∀ p, S p = none → Q (.ref p) (put S p (.lst ds)) := rfl
@[simp] theorem wList_lst (h : S a = some (.lst ds)) : wList [.ref a] S Q = ∀ p, S p = none → Q (.ref p) (put S p (.lst ds)) := by simp [wList, h]
@[simp] theorem wAt_tup {i : Int} : wAt (.tup ds) (.int i) S Q = onS (atI ds i) fun d => Q d S := rfl
@[simp] theorem wAt_fz {i : Int} : wAt (.fz ds) (.int i) S Q = onS (atI ds i) fun d => Q d S := rfl
@[simp] theorem wAt_lst {i : Int} (h : S a = some (.lst ds)) : wAt (.ref a) (.int i) S Q = onS (atI ds i) fun d => Q d S := by simp [wAt, isLst, h, wIx]
theorem wAt_dct {kvs : List (D × D)} {v : D} (h : S a = some (.dct kvs)) (f : keyFit kvs y = true) (e : dGet kvs y = some v) : wAt (.ref a) y S Q = Q v S := by simp [wAt, isLst, h, onD, rdD, f, e]
theorem wAt_fdc {o : Obj} {kvs : List (D × D)} {v : D} (h : S a = some (.fdc o kvs)) (f : keyFit kvs y = true) (e : dGet kvs y = some v) : wAt (.ref a) y S Q = Q v S := by
  have hn : kvs ≠ [] := by intro z; subst z; cases e
  simp [wAt, isLst, h, onD, rdD, f, e, hn]
theorem wIn_dct {neg : Bool} {kvs : List (D × D)} (h : S a = some (.dct kvs)) (f : keyFit kvs x = true) : wIn neg x (.ref a) S Q = Q (.bl (neg != (dGet kvs x).isSome)) S := by simp [wIn, isLst, h, onD, rdD, f]
@[simp] theorem wSet_lst {i : Int} {v : D} {k : Sto → Prop} (h : S a = some (.lst ds)) : wSet (.ref a) (.int i) v S k = onS (ixN ds.length i) fun j => k (put S a (.lst (ds.set j v))) := by simp [wSet, h]; cases ixN ds.length i <;> rfl
@[simp] theorem wAppend_lst (h : S a = some (.lst ds)) : wAppend (.ref a) [y] S Q = (ds.length < sizeLine ∧ Q .non (put S a (.lst (ds ++ [y])))) := by simp [wAppend, h]
@[simp] theorem wExtend_tup (h : S a = some (.lst ds)) : wExtend (.ref a) [.tup es] S Q = (ds.length + es.length ≤ sizeLine ∧ Q .non (put S a (.lst (ds ++ es)))) := by simp [wExtend, h]
@[simp] theorem wExtend_lst (h : S a = some (.lst ds)) (h' : S b = some (.lst es)) : wExtend (.ref a) [.ref b] S Q = (ds.length + es.length ≤ sizeLine ∧ Q .non (put S a (.lst (ds ++ es)))) := by simp [wExtend, h, h']
@[simp] theorem tyD_lst (h : S a = some (.lst ds)) : tyD "list" (.ref a) S := by simp [tyD, h]
@[simp] theorem wIter_tup {R : List D → (Sto → Prop) → Sto → Prop} : wIterA (.tup ds) S R = R ds (fun _ => True) S := rfl
@[simp] theorem wIter_fz {R : List D → (Sto → Prop) → Sto → Prop} : wIterA (.fz ds) S R = R ds (fun _ => True) S := rfl
@[simp] theorem wIter_lst {R : List D → (Sto → Prop) → Sto → Prop} (h : S a = some (.lst ds)) : wIterA (.ref a) S R = R ds (fun S' => S' a = some (.lst ds)) S := by simp [wIterA, fdcOf, h, wIter]
@[simp] theorem wIter_fdc {R : List D → (Sto → Prop) → Sto → Prop} {o : Obj} {kvs : List (D × D)} (h : S a = some (.fdc o kvs)) : wIterA (.ref a) S R = R (kvs.map (·.1)) (fun S' => S' a = some (.fdc o kvs)) S := by simp [wIterA, fdcOf, h]
theorem put_of_ne {o : AO} (h : b ≠ a) : put S a o b = S b := put_ne h
theorem ne_of_free {p : Addr} {o : AO} (h : S p = none) (h' : S a = some o) : a ≠ p := fun e => by subst e; rw [h] at h'; cases h'
@[simp] theorem put_put' {o o' : AO} : put (put S a o) a o' = put S a o' := put_put
theorem put_self {o : AO} (h : S a = some o) : put S a o = S := by
  funext b; unfold put; split
  · rename_i e; rw [e, h]
  · rfl
theorem put_swap {o o' : AO} (h : a ≠ b) : put (put S a o) b o' = put (put S b o') a o := by
  funext c; unfold put; split <;> split <;> first | rfl | (rename_i e1 e2; exact absurd (e2.symm.trans e1) h)
end
end DL

namespace DL
open PySem PySem.Spec PyProof.Rows L2

/-! ### clean data: equality is equality -/
mutual
def D.cl : D → Nat → Bool
  | .non, _ => true | .int _, _ => true | .str _, _ => true
  | .tup ds, n + 1 => D.cls ds n | .fz ds, n + 1 => D.cls ds n
  | _, _ => false
def D.cls : List D → Nat → Bool
  | [], _ => true
  | d :: r, n => D.cl d n && D.cls r n
end
mutual
theorem D.ok_of_cl : ∀ (d : D) (n : Nat), d.cl n = true → d.ok n = true
  | .non, _, _ => rfl | .int _, _, _ => rfl | .str _, _, _ => rfl
  | .tup ds, n + 1, h => by rw [D.ok]; rw [D.cl] at h; exact D.oks_of_cls ds n h
  | .fz ds, n + 1, h => by rw [D.ok]; rw [D.cl] at h; exact D.oks_of_cls ds n h
  | .tup _, 0, h => by simp [D.cl] at h
  | .fz _, 0, h => by simp [D.cl] at h
  | .bl _, _, h => by simp [D.cl] at h
  | .wt _, _, h => by simp [D.cl] at h
  | .ref _, _, h => by simp [D.cl] at h
  | .ty _, _, h => by simp [D.cl] at h
theorem D.oks_of_cls : ∀ (ds : List D) (n : Nat), D.cls ds n = true → D.oks ds n = true
  | [], _, _ => rfl
  | d :: r, n, h => by
    rw [D.cls, Bool.and_eq_true] at h
    rw [D.oks, D.ok_of_cl d n h.1, D.oks_of_cls r n h.2]; rfl
end
mutual
theorem D.cl_up : ∀ (d : D) (n m : Nat), n ≤ m → d.cl n = true → d.cl m = true
  | .non, _, _, _, _ => by simp [D.cl]
  | .int _, _, _, _, _ => by simp [D.cl]
  | .str _, _, _, _, _ => by simp [D.cl]
  | .tup ds, n + 1, m, hm, h => by
    obtain ⟨m', rfl⟩ : ∃ m', m = m' + 1 := ⟨m - 1, by omega⟩
    rw [D.cl] at *; exact D.cls_up ds n m' (by omega) h
  | .fz ds, n + 1, m, hm, h => by
    obtain ⟨m', rfl⟩ : ∃ m', m = m' + 1 := ⟨m - 1, by omega⟩
    rw [D.cl] at *; exact D.cls_up ds n m' (by omega) h
  | .tup _, 0, _, _, h => by simp [D.cl] at h
  | .fz _, 0, _, _, h => by simp [D.cl] at h
  | .bl _, _, _, _, h => by simp [D.cl] at h
  | .wt _, _, _, _, h => by simp [D.cl] at h
  | .ref _, _, _, _, h => by simp [D.cl] at h
  | .ty _, _, _, _, h => by simp [D.cl] at h
theorem D.cls_up : ∀ (ds : List D) (n m : Nat), n ≤ m → D.cls ds n = true → D.cls ds m = true
  | [], _, _, _, _ => by simp [D.cls]
  | d :: r, n, m, hm, h => by
    rw [D.cls, Bool.and_eq_true] at *
    exact ⟨D.cl_up d n m hm h.1, D.cls_up r n m hm h.2⟩
end
mutual
theorem rd_ok : ∀ (d : D) (n k : Nat) (S : Sto), d.ok n = true → rd k S d = d
  | _, _, 0, _, _ => by simp [rd]
  | .non, _, _ + 1, _, _ => by simp [rd]
  | .bl _, _, _ + 1, _, _ => by simp [rd]
  | .int _, _, _ + 1, _, _ => by simp [rd]
  | .str _, _, _ + 1, _, _ => by simp [rd]
  | .tup ds, n + 1, k + 1, S, h => by rw [rd, rds_ok ds n k S (by rw [D.ok] at h; exact h)]
  | .fz ds, n + 1, k + 1, S, h => by rw [rd, rds_ok ds n k S (by rw [D.ok] at h; exact h)]
  | .tup _, 0, _ + 1, _, h => by simp [D.ok] at h
  | .fz _, 0, _ + 1, _, h => by simp [D.ok] at h
  | .wt _, _, _ + 1, _, h => by simp [D.ok] at h
  | .ref _, _, _ + 1, _, h => by simp [D.ok] at h
  | .ty _, _, _ + 1, _, h => by simp [D.ok] at h
theorem rds_ok : ∀ (ds : List D) (n k : Nat) (S : Sto), D.oks ds n = true → ds.map (rd k S) = ds
  | [], _, _, _, _ => rfl
  | d :: r, n, k, S, h => by
    rw [D.oks, Bool.and_eq_true] at h
    rw [List.map_cons, rd_ok d n k S h.1, rds_ok r n k S h.2]
end
theorem rd_cl {d : D} {n k : Nat} {S : Sto} (h : d.cl n = true) : rd k S d = d := rd_ok d n k S (D.ok_of_cl d n h)
mutual
theorem eqv_cl : ∀ (a b : D) (n m : Nat), a.cl n = true → b.cl m = true → PyData.eqv a.py b.py = decide (a = b)
  | .non, b, _, _, _, h => by cases b <;> simp [D.cl, D.py, PyData.eqv] at *
  | .int i, b, _, _, _, h => by
    cases b with
    | int j => simp only [D.py, PyData.eqv, D.int.injEq]; by_cases e : i = j <;> simp [e]
    | _ => simp [D.cl, D.py, PyData.eqv] at *
  | .str x, b, _, _, _, h => by
    cases b with
    | str y => simp only [D.py, PyData.eqv, D.str.injEq]; by_cases e : x = y <;> simp [e]
    | _ => simp [D.cl, D.py, PyData.eqv] at *
  | .tup ds, b, n + 1, m, h1, h => by
    rw [D.cl] at h1
    cases b with
    | tup es =>
      cases m with
      | zero => simp [D.cl] at h
      | succ m =>
        rw [D.cl] at h
        rw [D.py, D.py, PyData.eqv, eqvs_cl ds es n m h1 h]
        simp
    | _ => simp [D.cl, D.py, PyData.eqv] at *
  | .fz ds, b, n + 1, m, h1, h => by
    rw [D.cl] at h1
    cases b with
    | fz es =>
      cases m with
      | zero => simp [D.cl] at h
      | succ m =>
        rw [D.cl] at h
        rw [D.py, D.py, PyData.eqv, eqvs_cl ds es n m h1 h]
        simp
    | _ => simp [D.cl, D.py, PyData.eqv] at *
  | .tup _, _, 0, _, h, _ => by simp [D.cl] at h
  | .fz _, _, 0, _, h, _ => by simp [D.cl] at h
  | .bl _, _, _, _, h, _ => by simp [D.cl] at h
  | .wt _, _, _, _, h, _ => by simp [D.cl] at h
  | .ref _, _, _, _, h, _ => by simp [D.cl] at h
  | .ty _, _, _, _, h, _ => by simp [D.cl] at h
theorem eqvs_cl : ∀ (a b : List D) (n m : Nat), D.cls a n = true → D.cls b m = true → PyData.eqvAll (D.pys a) (D.pys b) = decide (a = b)
  | [], [], _, _, _, _ => by simp [D.pys, PyData.eqvAll]
  | [], _ :: _, _, _, _, _ => by simp [D.pys, PyData.eqvAll]
  | _ :: _, [], _, _, _, _ => by simp [D.pys, PyData.eqvAll]
  | a :: r, b :: t, n, m, h1, h2 => by
    rw [D.cls, Bool.and_eq_true] at h1 h2
    rw [D.pys, D.pys, PyData.eqvAll, eqv_cl a b n m h1.1 h2.1, eqvs_cl r t n m h1.2 h2.2]
    by_cases e : a = b <;> by_cases e' : r = t <;> simp [e, e']
end
/-- as a whole, n deep -/
theorem D.cls_iff {ds : List D} {n : Nat} : D.cls ds n = true ↔ ∀ d ∈ ds, d.cl n = true := by
  induction ds with
  | nil => simp [D.cls]
  | cons d r ih => rw [D.cls, Bool.and_eq_true, ih]; simp
/-- a value that reads as the clean c: itself, or a list in the store -/
def Reads (S : Sto) (x c : D) : Prop := rd 6 S x = c ∧ c.cl 20 = true
theorem Reads.cl {S : Sto} {x : D} (h : x.cl 20 = true) : Reads S x x := ⟨rd_cl h, h⟩
theorem Reads.lst {S : Sto} {a : Addr} {ds : List D} (e : S a = some (.lst ds)) (h : ∀ d ∈ ds, d.cl 19 = true) : Reads S (.ref a) (.fz ds) := by
  have hc : D.cls ds 19 = true := D.cls_iff.mpr h
  exact ⟨by rw [rd, e]; simp only; rw [rds_ok ds 19 5 S (D.oks_of_cls ds 19 hc)], by rw [D.cl]; exact hc⟩
section
variable {S : Sto} {Q : KD} {x y c e : D} {neg : Bool}
theorem wEq_of (h1 : Reads S x c) (h2 : Reads S y e) : wEq x y S Q = Q (.bl (decide (c = e))) S := by
  unfold wEq
  rw [h1.1, h2.1, D.eqv, eqv_cl c e 20 20 h1.2 h2.2]
  simp [D.ok_of_cl _ _ (D.cl_up _ 20 40 (by decide) h1.2), D.ok_of_cl _ _ (D.cl_up _ 20 40 (by decide) h2.2)]
theorem wNe_of (h1 : Reads S x c) (h2 : Reads S y e) : wNe x y S Q = Q (.bl (!decide (c = e))) S := by
  unfold wNe
  rw [h1.1, h2.1, D.eqv, eqv_cl c e 20 20 h1.2 h2.2]
  simp [D.ok_of_cl _ _ (D.cl_up _ 20 40 (by decide) h1.2), D.ok_of_cl _ _ (D.cl_up _ 20 40 (by decide) h2.2)]
theorem isLst_dct {a : Addr} (h : isLst S y = true) : wIn neg x y S Q = wInS neg x y S Q := by
  unfold wIn
  rw [h]
theorem mem_any {ds : List D} {c : D} {n : Nat} (h : ∀ d ∈ ds, d.cl n = true) (hc : c.cl n = true) : (ds.any fun z => z.eqv c) = decide (c ∈ ds) := by
  induction ds with
  | nil => simp
  | cons d r ih =>
    rw [List.any_cons, ih (fun z hz => h z (List.mem_cons_of_mem _ hz)), D.eqv, eqv_cl d c n n (h d (List.mem_cons_self ..)) hc]
    by_cases e : d = c
    · simp [e]
    · have : ¬ c = d := fun z => e z.symm
      simp [e, this]
theorem wIn_fz {ds : List D} (hl : isLst S y = true) (hs : (∃ a, x = .str a) → ¬ ∃ b, y = .str b) (h1 : Reads S x c) (h2 : Reads S y (.fz ds)) : wIn neg x y S Q = Q (.bl (neg != decide (c ∈ ds))) S := by
  have e : wInS neg x y S Q = ((rd 6 S x).ok 40 = true ∧ (rd 6 S y).ok 40 = true ∧ onI (rd 6 S y) fun ds => Q (.bl (neg != (ds.any fun z => z.eqv (rd 6 S x)))) S) := by
    unfold wInS
    split
    · exact absurd ⟨_, rfl⟩ (hs ⟨_, rfl⟩)
    · rfl
  rw [isLst_dct (a := 0) hl, e, h1.1, h2.1]
  have h3 := h2.2
  rw [D.cl] at h3
  have hx := h1.2
  simp only [onI, D.items?]
  rw [mem_any (n := 20) (D.cls_iff.mp (D.cls_up _ 19 20 (by decide) h3)) hx]
  have z : (D.fz ds).ok 40 = true := D.ok_of_cl _ _ (D.cl_up _ 20 40 (by decide) h2.2)
  simp [D.ok_of_cl _ _ (D.cl_up _ 20 40 (by decide) h1.2), z]
theorem wIn_tupR {ds : List D} (hl : isLst S y = true) (hs : (∃ a, x = .str a) → ¬ ∃ b, y = .str b) (h1 : Reads S x c) (h2 : Reads S y (.tup ds)) : wIn neg x y S Q = Q (.bl (neg != decide (c ∈ ds))) S := by
  have e : wInS neg x y S Q = ((rd 6 S x).ok 40 = true ∧ (rd 6 S y).ok 40 = true ∧ onI (rd 6 S y) fun ds => Q (.bl (neg != (ds.any fun z => z.eqv (rd 6 S x)))) S) := by
    unfold wInS
    split
    · exact absurd ⟨_, rfl⟩ (hs ⟨_, rfl⟩)
    · rfl
  rw [isLst_dct (a := 0) hl, e, h1.1, h2.1]
  have h3 := h2.2
  rw [D.cl] at h3
  have hx := h1.2
  simp only [onI, D.items?]
  rw [mem_any (n := 20) (D.cls_iff.mp (D.cls_up _ 19 20 (by decide) h3)) hx]
  have z : (D.tup ds).ok 40 = true := D.ok_of_cl _ _ (D.cl_up _ 20 40 (by decide) h2.2)
  simp [D.ok_of_cl _ _ (D.cl_up _ 20 40 (by decide) h1.2), z]
/-- in a list of the store -/
theorem wIn_lst {a : Addr} {ds : List D} (h : S a = some (.lst ds)) (h1 : Reads S x c) (h2 : ∀ d ∈ ds, d.cl 19 = true) : wIn neg x (.ref a) S Q = Q (.bl (neg != decide (c ∈ ds))) S :=
  wIn_fz (by simp [isLst, h]) (fun _ ⟨_, z⟩ => nomatch z) h1 (.lst h h2)
theorem wIn_tup {ds : List D} (h1 : Reads S x c) (h2 : ∀ d ∈ ds, d.cl 19 = true) : wIn neg x (.tup ds) S Q = Q (.bl (neg != decide (c ∈ ds))) S :=
  wIn_tupR rfl (fun _ ⟨_, z⟩ => nomatch z) h1 (.cl (by rw [D.cl]; exact D.cls_iff.mpr h2))
end

theorem ints_cl {ns : List Int} {n : Nat} : ∀ d ∈ ns.map D.int, d.cl n = true := fun d hd => by
  obtain ⟨i, _, rfl⟩ := List.mem_map.mp hd
  simp [D.cl]
theorem int_inj {a b : Int} (h : D.int a = D.int b) : a = b := by cases h; rfl
@[simp] theorem ints_eq {a b : List Int} : a.map D.int = b.map D.int ↔ a = b := ⟨fun h => List.map_inj_right (fun _ _ => int_inj) |>.mp h, fun h => by rw [h]⟩
@[simp] theorem mem_ints {a : Int} {b : List Int} : D.int a ∈ b.map D.int ↔ a ∈ b := by simp
/-! ### places -/
theorem atI_nat {α : Type} {xs : List α} {i : Nat} (h : i < xs.length) : atI xs (i : Int) = some xs[i] := by
  unfold atI ixN
  rw [if_pos (by omega), if_pos (by omega)]
  simp [h]
theorem atI_int {α : Type} {xs : List α} {i : Int} (h0 : 0 ≤ i) (h : i < xs.length) : atI xs i = some (xs[i.toNat]'(by omega)) := by
  unfold atI ixN
  rw [if_pos h0, if_pos h]
  have : i.toNat < xs.length := by omega
  simp [this]
theorem atI_last {α : Type} {xs : List α} (h : xs ≠ []) : atI xs (-1) = xs.getLast? := by
  have : 0 < xs.length := List.length_pos_iff.mpr h
  unfold atI ixN
  rw [if_neg (by decide), if_pos (by omega), List.getLast?_eq_getElem?]
  simp
  congr 1
  omega
@[simp] theorem atI0 {α : Type} {x : α} {r : List α} : atI (x :: r) 0 = some x := by
  have := atI_nat (xs := x :: r) (i := 0) (by simp)
  simpa using this
@[simp] theorem atI1 {α : Type} {x y : α} {r : List α} : atI (x :: y :: r) 1 = some y := by
  have := atI_nat (xs := x :: y :: r) (i := 1) (by simp)
  simpa using this
@[simp] theorem atI2 {α : Type} {x y z : α} {r : List α} : atI (x :: y :: z :: r) 2 = some z := by
  have := atI_nat (xs := x :: y :: z :: r) (i := 2) (by simp)
  simpa using this
@[simp] theorem atI3 {α : Type} {x y z u : α} {r : List α} : atI (x :: y :: z :: u :: r) 3 = some u := by
  have := atI_nat (xs := x :: y :: z :: u :: r) (i := 3) (by simp)
  simpa using this
theorem ixN_int {n : Nat} {i : Int} (h0 : 0 ≤ i) (h : i < n) : ixN n i = some i.toNat := by unfold ixN; rw [if_pos h0, if_pos h]
theorem wPop_at {S : Sto} {a : Addr} {ds : List D} {i : Int} {Q : KD} (h : S a = some (.lst ds)) (h0 : 0 ≤ i) (h1 : i < ds.length) (h2 : ds.length < 2 ^ 62) :
    wPop (.ref a) [.int i] S Q = Q (ds[i.toNat]'(by omega)) (put S a (.lst (ds.eraseIdx i.toNat))) := by
  have e : seqIndex? i ds.length = some i.toNat := by
    unfold seqIndex?
    simp only [if_neg (show ¬ i < 0 by omega)]
    simp [h0, h1]
  have hi : i.toNat < ds.length := by omega
  have z1 : -(2 ^ 63) ≤ i := by omega
  have z2 : i < 2 ^ 63 := by omega
  simp only [wPop, onL_eq h, e, onS_some, List.getElem?_eq_getElem hi]
  exact propext ⟨fun z => z.2.2, fun z => ⟨z1, z2, z⟩⟩
/-! ### loops -/
theorem rngD_eq (n : Nat) : ∀ k : Int, rngD k n = (List.range n).map fun i : Nat => D.int (k + (i : Int)) := by
  induction n with
  | zero => intro k; rfl
  | succ n ih =>
    intro k
    rw [rngD, ih, List.range_succ_eq_map, List.map_cons, List.map_map]
    simp only [Function.comp_def, List.cons.injEq, List.map_inj_left]
    refine ⟨by simp, fun i _ => ?_⟩
    congr 1
    omega
/-- a loop over ds: I holds before each item, of those that are done -/
theorem loop_of {g : DTG} {tb : DTS} {Dn : DEnds} {stab : Sto → Prop} (I : List D → DSt → Sto → Prop) {ds : List D}
    (hst : ∀ done τ S, I done τ S → stab S) (hend : ∀ τ S, I ds τ S → Dn.nx τ S)
    (step : ∀ done d rest τ S, ds = done ++ d :: rest → I done τ S → ∀ N : DSt → Sto → Prop, (∀ τ' S', I (done ++ [d]) τ' S' → N τ' S') → g d τ S fun τ2 S2 => tb { Dn with nx := N, ct := N, bk := Dn.nx } τ2 S2) :
    ∀ {τ : DSt} {S : Sto}, I [] τ S → loopF g tb Dn stab ds τ S := by
  have main : ∀ (rest done : List D), ds = done ++ rest → ∀ τ S, I done τ S → loopF g tb Dn stab rest τ S := by
    intro rest
    induction rest with
    | nil => intro done e τ S h; rw [List.append_nil] at e; subst e; exact ⟨hst _ _ _ h, hend _ _ h⟩
    | cons d rest ih =>
      intro done e τ S h
      exact ⟨hst _ _ _ h, step done d rest τ S e h _ fun τ' S' h' => ih (done ++ [d]) (by rw [e, List.append_assoc]; rfl) τ' S' h'⟩
  intro τ S h
  exact main ds [] rfl τ S h
/-- the same over things told by f -/
theorem loop_map {β : Type} {g : DTG} {tb : DTS} {Dn : DEnds} {stab : Sto → Prop} (f : β → D) (I : List β → DSt → Sto → Prop) {xs : List β}
    (hst : ∀ done τ S, I done τ S → stab S) (hend : ∀ τ S, I xs τ S → Dn.nx τ S)
    (step : ∀ done x rest τ S, xs = done ++ x :: rest → I done τ S → ∀ N : DSt → Sto → Prop, (∀ τ' S', I (done ++ [x]) τ' S' → N τ' S') → g (f x) τ S fun τ2 S2 => tb { Dn with nx := N, ct := N, bk := Dn.nx } τ2 S2) :
    ∀ {τ : DSt} {S : Sto}, I [] τ S → loopF g tb Dn stab (xs.map f) τ S := by
  have main : ∀ (rest done : List β), xs = done ++ rest → ∀ τ S, I done τ S → loopF g tb Dn stab (rest.map f) τ S := by
    intro rest
    induction rest with
    | nil => intro done e τ S h; rw [List.append_nil] at e; subst e; exact ⟨hst _ _ _ h, hend _ _ h⟩
    | cons d rest ih =>
      intro done e τ S h
      exact ⟨hst _ _ _ h, step done d rest τ S e h _ fun τ' S' h' => ih (done ++ [d]) (by rw [e, List.append_assoc]; rfl) τ' S' h'⟩
  intro τ S h
  exact main xs [] rfl τ S h
theorem rngD_map (n : Nat) : rngD 0 n = (List.range n).map fun i : Nat => D.int (i : Int) := by rw [rngD_eq]; simp
/-- a while by a measure -/
theorem while_of {c : DTT} {tb : DTS} {Dn : DEnds} (I : Nat → DSt → Sto → Prop)
    (step : ∀ n τ S, I n τ S → ∀ N : DSt → Sto → Prop, (∀ m τ' S', m < n → I m τ' S' → N τ' S') → c τ S fun b S1 => if b = true then tb { Dn with nx := N, ct := N, bk := Dn.nx } τ S1 else Dn.nx τ S1) :
    ∀ {n : Nat} {τ : DSt} {S : Sto}, I n τ S → dWhile c tb Dn τ S := by
  have main : ∀ (k n : Nat) τ S, n < k → I n τ S → whF c tb Dn k τ S := by
    intro k
    induction k with
    | zero => intro n τ S h; omega
    | succ k ih => exact fun n τ S h hi => step n τ S hi _ fun m τ' S' hm hi' => ih m τ' S' (by omega) hi'
  intro n τ S h
  exact ⟨n + 1, main (n + 1) n τ S (Nat.lt_succ_self n) h⟩
/-- [e for x in ds if c], where all is plain: f gives what each item brings -/
theorem lc_of {g : DTG} {tt : DTT} {vs : List Nat} {te : DTE} {D' : Addr} {stab : Sto → Prop} {τ : DSt} {S : Sto} {k : Sto → Prop} (f : D → List D) (ds : List D)
    (hst : ∀ o, stab (put S D' o)) (hz : ((ds.flatMap f).length) ≤ sizeLine)
    (step : ∀ d ∈ ds, ∀ (acc : List D) (k : Sto → Prop), acc.length + (f d).length ≤ sizeLine → k (put S D' (.lst (acc ++ f d))) → g d τ (put S D' (.lst acc)) fun τ2 S2 => wipeD τ2 vs = τ ∧ tt τ2 S2 fun b S3 => if b = true then emLst te D' τ2 S3 k else k S3)
    (hk : k (put S D' (.lst (ds.flatMap f)))) : loopC g tt vs (compR [] (emLst te D')) stab ds τ (put S D' (.lst [])) k := by
  have main : ∀ (rest done : List D), ds = done ++ rest → loopC g tt vs (compR [] (emLst te D')) stab rest τ (put S D' (.lst (done.flatMap f))) k := by
    intro rest
    induction rest with
    | nil => intro done e; rw [List.append_nil] at e; subst e; exact ⟨hst _, hk⟩
    | cons d rest ih =>
      intro done e
      have hd : d ∈ ds := by rw [e]; simp
      have hlen : (done.flatMap f).length + (f d).length ≤ sizeLine := by
        rw [e] at hz
        simp only [List.flatMap_append, List.flatMap_cons, List.length_append] at hz
        omega
      have e2 : (done ++ [d]).flatMap f = done.flatMap f ++ f d := by simp
      have e3 := ih (done ++ [d]) (by rw [e, List.append_assoc]; rfl)
      rw [e2] at e3
      exact ⟨hst _, step d hd _ _ hlen e3⟩
  exact main ds [] rfl
/-- the same over things told by enc -/
theorem lc_map {β : Type} {g : DTG} {tt : DTT} {vs : List Nat} {te : DTE} {D' : Addr} {stab : Sto → Prop} {τ : DSt} {S : Sto} {k : Sto → Prop} (enc : β → D) (f : β → List D) (xs : List β)
    (hst : ∀ o, stab (put S D' o)) (hz : ((xs.flatMap f).length) ≤ sizeLine)
    (step : ∀ x ∈ xs, ∀ (acc : List D) (k : Sto → Prop), acc.length + (f x).length ≤ sizeLine → k (put S D' (.lst (acc ++ f x))) → g (enc x) τ (put S D' (.lst acc)) fun τ2 S2 => wipeD τ2 vs = τ ∧ tt τ2 S2 fun b S3 => if b = true then emLst te D' τ2 S3 k else k S3)
    (hk : k (put S D' (.lst (xs.flatMap f)))) : loopC g tt vs (compR [] (emLst te D')) stab (xs.map enc) τ (put S D' (.lst [])) k := by
  have main : ∀ (rest done : List β), xs = done ++ rest → loopC g tt vs (compR [] (emLst te D')) stab (rest.map enc) τ (put S D' (.lst (done.flatMap f))) k := by
    intro rest
    induction rest with
    | nil => intro done e; rw [List.append_nil] at e; subst e; exact ⟨hst _, hk⟩
    | cons d rest ih =>
      intro done e
      have hd : d ∈ xs := by rw [e]; simp
      have hlen : (done.flatMap f).length + (f d).length ≤ sizeLine := by
        rw [e] at hz
        simp only [List.flatMap_append, List.flatMap_cons, List.length_append] at hz
        omega
      have e2 : (done ++ [d]).flatMap f = done.flatMap f ++ f d := by simp
      have e3 := ih (done ++ [d]) (by rw [e, List.append_assoc]; rfl)
      rw [e2] at e3
      exact ⟨hst _, step d hd _ _ hlen e3⟩
  exact main xs [] rfl
/-- a comprehension's clause by an invariant -/
theorem loopC_map {β : Type} {g : DTG} {tt : DTT} {vs : List Nat} {inner : DEmT} {stab : Sto → Prop} {τ : DSt} {k : Sto → Prop} (enc : β → D) (I : List β → Sto → Prop) {xs : List β}
    (hst : ∀ done S, I done S → stab S) (hend : ∀ S, I xs S → k S)
    (step : ∀ done x rest S, xs = done ++ x :: rest → I done S → ∀ N : Sto → Prop, (∀ S', I (done ++ [x]) S' → N S') → g (enc x) τ S fun τ2 S2 => wipeD τ2 vs = τ ∧ tt τ2 S2 fun b S3 => if b = true then inner τ2 S3 N else N S3) :
    ∀ {S : Sto}, I [] S → loopC g tt vs inner stab (xs.map enc) τ S k := by
  have main : ∀ (rest done : List β), xs = done ++ rest → ∀ S, I done S → loopC g tt vs inner stab (rest.map enc) τ S k := by
    intro rest
    induction rest with
    | nil => intro done e S h; rw [List.append_nil] at e; subst e; exact ⟨hst _ _ h, hend _ h⟩
    | cons d rest ih =>
      intro done e S h
      exact ⟨hst _ _ h, step done d rest S e h _ fun S' h' => ih (done ++ [d]) (by rw [e, List.append_assoc]; rfl) S' h'⟩
  intro S h
  exact main xs [] rfl S h
@[simp] theorem emDct_eq {tk tv : DTE} {D' : Addr} {τ : DSt} {S : Sto} {k : Sto → Prop} : emDct tk tv D' τ S k = tk τ S fun kd S1 => tv τ S1 fun vd S2 => match S2 D' with
  | some (.dct kvs) => keyFitW kvs kd = true ∧ kvs.length < sizeLine ∧ k (put S2 D' (.dct (dPut kvs kd vd)))
  | _ => False := rfl
@[simp] theorem compR_nil {em : DEmT} : compR [] em = em := rfl
@[simp] theorem compR_cons {wi : DTI} {g : DTG} {tt : DTT} {vs : List Nat} {rs : List ClT} {em : DEmT} {τ : DSt} {S : Sto} {k : Sto → Prop} : compR ((wi, g, tt, vs) :: rs) em τ S k = wi τ S fun ds stab S1 => loopC g tt vs (compR rs em) stab ds τ S1 k := rfl
/-- at most n each -/
theorem flatMap_le {α β : Type} (f : α → List β) (n : Nat) : ∀ xs : List α, (∀ x ∈ xs, (f x).length ≤ n) → (xs.flatMap f).length ≤ n * xs.length
  | [], _ => by simp
  | x :: xs, h => by
    have := flatMap_le f n xs fun z hz => h z (List.mem_cons_of_mem _ hz)
    have := h x (List.mem_cons_self ..)
    simp only [List.flatMap_cons, List.length_append, List.length_cons, Nat.mul_add]
    omega
@[simp] theorem emLst_eq {te : DTE} {D' : Addr} {τ : DSt} {S : Sto} {k : Sto → Prop} : emLst te D' τ S k = te τ S fun y S1 => onL S1 D' fun acc => acc.length < sizeLine ∧ k (put S1 D' (.lst (acc ++ [y]))) := rfl
end DL

namespace DL
open PySem PySem.Spec PyProof.Rows L2

/-! ### the law's tape: the list t, its cells c -/
def Tape (S : Sto) (t c : Addr) : Prop := ∃ (xs : List Int) (a b n : Int), S t = some (.lst [.ref c, .int a, .int b, .int n]) ∧ S c = some (.lst (xs.map D.int)) ∧ c ≠ t
/-- all but the tape stands -/
def Keeps (t : Addr) (S S' : Sto) : Prop := ∀ a o, a ≠ t → S a = some o → S' a = some o
theorem Keeps.refl {t : Addr} {S : Sto} : Keeps t S S := fun _ _ _ h => h
theorem Keeps.trans {t : Addr} {S S1 S2 : Sto} (h : Keeps t S S1) (k : Keeps t S1 S2) : Keeps t S S2 := fun a o z e => k a o z (h a o z e)
theorem Keeps.new {t p : Addr} {S : Sto} {o : AO} (h : S p = none) : Keeps t S (put S p o) := fun a u z e => by
  rw [put_ne (fun y => by subst y; rw [h] at e; cases e)]; exact e
/-- what is new may change -/
theorem Keeps.then {t p : Addr} {S S1 : Sto} {o : AO} (k : Keeps t S S1) (h : S p = none) : Keeps t S (put S1 p o) := fun a u z e => by
  rw [put_ne (fun y => by subst y; rw [h] at e; cases e)]; exact k a u z e
theorem Keeps.free {t p : Addr} {S S1 : Sto} (k : Keeps t S S1) (h : S1 p = none) (hpt : p ≠ t) : S p = none := by
  cases e : S p with
  | none => rfl
  | some o => rw [k p o hpt e] at h; cases h
section
variable {t c p : Addr} {S S1 : Sto} {o : AO}
theorem Tape.nt (T : Tape S t c) (h : S p = none) : p ≠ t := fun e => by subst e; obtain ⟨xs, a, b, n, h1, h2, h3⟩ := T; rw [h1] at h; cases h
theorem Tape.nc (T : Tape S t c) (h : S p = none) : p ≠ c := fun e => by subst e; obtain ⟨xs, a, b, n, h1, h2, h3⟩ := T; rw [h2] at h; cases h
theorem Tape.put (T : Tape S t c) (h1 : p ≠ t) (h2 : p ≠ c) : Tape (put S p o) t c := by
  obtain ⟨xs, a, b, n, h3, h4, h5⟩ := T
  exact ⟨xs, a, b, n, by rw [put_ne (Ne.symm h1)]; exact h3, by rw [put_ne (Ne.symm h2)]; exact h4, h5⟩
theorem Tape.new (T : Tape S t c) (h : S p = none) : Tape (DL.put S p o) t c := T.put (T.nt h) (T.nc h)
theorem Keeps.freeT (k : Keeps t S S1) (T : Tape S1 t c) (h : S1 p = none) : S p = none := k.free h (T.nt h)
end
/-- a number below many, told by the tape -/
def spPick : DSp := fun ds S Q E => ∃ t c many, ds = [.ref t, .int many] ∧ 0 < many ∧ many < 1000000 ∧ Tape S t c ∧ ∀ r S', 0 ≤ r → r < many → Tape S' t c → Keeps t S S' → Q (.int r) S'
theorem len_pick : ∀ ds S Q E, spPick ds S Q E → ds.length = 2 := fun _ _ _ _ ⟨_, _, _, e, _⟩ => by rw [e]; rfl
def spTape : DSp := fun ds S Q E => ∃ ns : List Int, ds = [.fz (ns.map D.int)] ∧ ∀ t c S', Tape S' t c → S t = none → S c = none → Grow S S' → Q (.ref t) S'
theorem len_tape : ∀ ds S Q E, spTape ds S Q E → ds.length = 1 := fun _ _ _ _ ⟨_, e, _⟩ => by rw [e]; rfl
theorem cutD_map {f : Int → D} {ns : List Int} {lo hi : Option Int} : ∃ ms : List Int, cutD (ns.map f) lo hi = ms.map f := ⟨(ns.drop (HT.sIx (ns.map f).length 0 lo)).take (HT.sIx (ns.map f).length (ns.map f).length hi - HT.sIx (ns.map f).length 0 lo), by
  unfold cutD
  rw [← List.map_drop, ← List.map_take]⟩
@[simp] theorem wCut_fz {ds : List D} {lo hi : Option Int} {S : Sto} {Q : KD} : wCut (.fz ds) lo hi S Q = ∀ p, S p = none → Q (.ref p) (put S p (.lst (cutD ds lo hi))) := rfl
@[simp] theorem wCut_tup {ds : List D} {lo hi : Option Int} {S : Sto} {Q : KD} : wCut (.tup ds) lo hi S Q = Q (.tup (cutD ds lo hi)) S := rfl
@[simp] theorem wCut_lst {a : Addr} {ds : List D} {lo hi : Option Int} {S : Sto} {Q : KD} (h : S a = some (.lst ds)) : wCut (.ref a) lo hi S Q = ∀ p, S p = none → Q (.ref p) (put S p (.lst (cutD ds lo hi))) := by simp [wCut, onL_eq h]
theorem vcTape {ds : List D} {S : Sto} {Q : KD} {E : KX} (h : spTape ds S Q E) : (dRet (dLst (dCons (dCB wList (dCons (dCut (dV 0) dNoPart (dPart (dC (.int 63)))) dNil)) (dCons (dC (.int 0)) (dCons (dC (.int 0)) (dCons (dC (.int 0)) dNil)))))) (bodyEnds Q) [ds[0]?] S := by
  obtain ⟨ns, rfl, k⟩ := h
  obtain ⟨ms, e⟩ := cutD_map (f := D.int) (ns := ns) (lo := none) (hi := some 63)
  simp [e]
  intro p hp q hq
  refine ⟨by decide, fun t ht => ?_⟩
  have h1 : S q = none := by
    cases z : S q with
    | none => rfl
    | some o => rw [put_ne (fun y => by subst y; rw [hp] at z; cases z), z] at hq; cases hq
  have h2 : put S p (.lst (ms.map D.int)) t = none := by
    cases z : put S p (.lst (ms.map D.int)) t with
    | none => rfl
    | some o => rw [put_ne (fun y => by subst y; rw [hq] at z; cases z), z] at ht; cases ht
  have h3 : S t = none := by
    cases z : S t with
    | none => rfl
    | some o => rw [put_ne (fun y => by subst y; rw [hp] at z; cases z), z] at h2; cases h2
  have hqt : q ≠ t := fun y => by subst y; rw [put_same] at ht; cases ht
  exact k t q _ ⟨ms, 0, 0, 0, put_same, by rw [put_ne hqt, put_same], hqt⟩ h3 h1 (((Grow.put hp).then hq).then ht)
end DL

namespace DL
open PySem PySem.Spec PyProof.Rows L2

/-! ### sorted: ints, pairs of ints -/
theorem lstOf_ref {S : Sto} {a : Addr} {ds : List D} (h : S a = some (.lst ds)) : lstOf S (.ref a) = some ds := by simp [lstOf, h]
theorem lstOf_fz {S : Sto} {ds : List D} : lstOf S (.fz ds) = some ds := rfl
theorem wSorted_of {β : Type} {S : Sto} {Q : KD} {d : D} (xs : List β) (g : β → D) (le : β → β → Bool) (h : lstOf S d = some (xs.map g)) (hc : ∀ x ∈ xs, (g x).cl 20 = true) (al : ∀ x ∈ xs, ∀ y ∈ xs, PySem.W.alike (g x).py (g y).py = true)
    (so : (∀ x ∈ xs, ∃ u r, (g x).py = .tuple (u :: r)) ∨ ∀ x ∈ xs, (g x).py ≠ .none ∧ ∀ ys, (g x).py ≠ .tuple ys) (hle : ∀ x y, PySem.W.dataLe false (fun b => (g b).py) x y = le x y)
    (q : ∀ p, S p = none → Q (.ref p) (put S p (.lst ((xs.mergeSort le).map g)))) : wSorted [d] S Q := by
  have er : ∀ x ∈ xs, rd 6 S (g x) = g x := fun x hx => rd_cl (hc x hx)
  have em : (xs.map g).map (enc6 S) = xs.map fun x => (g x).py := by
    rw [List.map_map]
    exact List.map_congr_left fun x hx => by show (rd 6 S (g x)).py = _; rw [er x hx]
  show onS (lstOf S d) _
  rw [h]
  refine ⟨⟨fun d hd => ?_, ?_, ?_⟩, fun p hp => ?_⟩
  · obtain ⟨x, hx, rfl⟩ := List.mem_map.mp hd
    rw [er x hx]
    exact D.ok_of_cl _ _ (D.cl_up _ 20 40 (by decide) (hc x hx))
  · rw [em]
    intro d hd d' hd'
    obtain ⟨x, hx, rfl⟩ := List.mem_map.mp hd
    obtain ⟨y, hy, rfl⟩ := List.mem_map.mp hd'
    exact al x hx y hy
  · rw [em]
    rcases so with so | so
    · refine .inl fun d hd => ?_
      obtain ⟨x, hx, rfl⟩ := List.mem_map.mp hd
      exact so x hx
    · refine .inr fun d hd => ?_
      obtain ⟨x, hx, rfl⟩ := List.mem_map.mp hd
      exact so x hx
  · have : (xs.map g).mergeSort (dLe S) = (xs.mergeSort le).map g := by
      rw [List.map_mergeSort]
      intro a ha b hb
      rw [← hle]
      show PySem.W.dataLe false _ a b = PySem.W.dataLe false (enc6 S) (g a) (g b)
      have e1 : enc6 S (g a) = (g a).py := by show (rd 6 S (g a)).py = _; rw [er a ha]
      have e2 : enc6 S (g b) = (g b).py := by show (rd 6 S (g b)).py = _; rw [er b hb]
      unfold PySem.W.dataLe PySem.W.sortLe
      simp only [e1, e2]
    rw [this]
    exact q p hp
theorem wSorted_ints {S : Sto} {Q : KD} {d : D} (ns : List Int) (h : lstOf S d = some (ns.map D.int))
    (q : ∀ p, S p = none → Q (.ref p) (put S p (.lst ((ns.mergeSort fun a b => decide (a ≤ b)).map D.int)))) : wSorted [d] S Q :=
  wSorted_of ns D.int _ h (fun _ _ => by simp [D.cl]) (fun _ _ _ _ => by simp [D.py, PySem.W.alike]) (.inr fun _ _ => by simp [D.py]) (fun x y => by
    have := PySem.W.dataLe_int (fun b : Int => b)
    simp only [D.py]
    rw [this]) q
def pairI (p : Int × Int) : D := .tup [.int p.1, .int p.2]
theorem wSorted_pairs {S : Sto} {Q : KD} {d : D} (ns : List (Int × Int)) (h : lstOf S d = some (ns.map pairI))
    (q : ∀ p, S p = none → Q (.ref p) (put S p (.lst ((ns.mergeSort fun p q => decide (p.1 < q.1 ∨ (p.1 = q.1 ∧ p.2 ≤ q.2))).map pairI)))) : wSorted [d] S Q :=
  wSorted_of ns pairI _ h (fun _ _ => by simp [pairI, D.cl, D.cls]) (fun _ _ _ _ => by simp [pairI, D.py, D.pys, PySem.W.alike, PySem.W.alikeAll]) (.inl fun _ _ => by simp [pairI, D.py, D.pys]) (fun x y => by
    have := PySem.W.dataLe_ii (fun b : Int × Int => b.1) (fun b => b.2)
    simp only [pairI, D.py, D.pys]
    rw [this]) q
theorem dSortedSet_of {t : DTE} {τ : DSt} {S : Sto} {Q : KD} : dSortedSet t τ S Q = t τ S fun d S1 => onS (lstOf S1 d) fun ds => onS (intsD ds) fun ns => ns.length < 63 ∧ ∀ (ms : List Int) (p : Addr), ms.Pairwise (· < ·) → (∀ k, k ∈ ms ↔ k ∈ ns) → S1 p = none → Q (.ref p) (put S1 p (.lst (ms.map D.int))) := rfl
/-! ### isinstance -/
section
variable {S : Sto} {Q : KD}
@[simp] theorem isi_int_int {n : Int} : wIsi [.int n, .ty "int"] S Q = Q (.bl true) S := (rfl)
@[simp] theorem isi_int_bool {n : Int} : wIsi [.int n, .ty "bool"] S Q = Q (.bl false) S := (rfl)
@[simp] theorem isi_int_tuple {n : Int} : wIsi [.int n, .ty "tuple"] S Q = Q (.bl false) S := (rfl)
@[simp] theorem isi_int_list {n : Int} : wIsi [.int n, .ty "list"] S Q = Q (.bl false) S := (rfl)
@[simp] theorem isi_int_str {n : Int} : wIsi [.int n, .ty "str"] S Q = Q (.bl false) S := (rfl)
@[simp] theorem isi_str_str {n : Str} : wIsi [.str n, .ty "str"] S Q = Q (.bl true) S := (rfl)
@[simp] theorem isi_str_int {n : Str} : wIsi [.str n, .ty "int"] S Q = Q (.bl false) S := (rfl)
@[simp] theorem isi_str_tuple {n : Str} : wIsi [.str n, .ty "tuple"] S Q = Q (.bl false) S := (rfl)
@[simp] theorem isi_str_list {n : Str} : wIsi [.str n, .ty "list"] S Q = Q (.bl false) S := (rfl)
@[simp] theorem isi_bl_bool {n : Bool} : wIsi [.bl n, .ty "bool"] S Q = Q (.bl true) S := (rfl)
@[simp] theorem isi_bl_int {n : Bool} : wIsi [.bl n, .ty "int"] S Q = Q (.bl true) S := (rfl)
@[simp] theorem isi_bl_tuple {n : Bool} : wIsi [.bl n, .ty "tuple"] S Q = Q (.bl false) S := (rfl)
@[simp] theorem isi_tup_tuple {n : List D} : wIsi [.tup n, .ty "tuple"] S Q = Q (.bl true) S := (rfl)
@[simp] theorem isi_tup_list {n : List D} : wIsi [.tup n, .ty "list"] S Q = Q (.bl false) S := (rfl)
@[simp] theorem isi_tup_int {n : List D} : wIsi [.tup n, .ty "int"] S Q = Q (.bl false) S := (rfl)
@[simp] theorem isi_tup_str {n : List D} : wIsi [.tup n, .ty "str"] S Q = Q (.bl false) S := (rfl)
@[simp] theorem isi_non_list : wIsi [.non, .ty "list"] S Q = Q (.bl false) S := (rfl)
@[simp] theorem isi_non_int : wIsi [.non, .ty "int"] S Q = Q (.bl false) S := (rfl)
@[simp] theorem isi_non_tuple : wIsi [.non, .ty "tuple"] S Q = Q (.bl false) S := (rfl)
@[simp] theorem isi_non_str : wIsi [.non, .ty "str"] S Q = Q (.bl false) S := (rfl)
@[simp] theorem isi_lst_list {a : Addr} {ds : List D} (h : S a = some (.lst ds)) : wIsi [.ref a, .ty "list"] S Q = Q (.bl true) S := by
  show onS (tyOf (.ref a) S) _ = _
  rw [tyOf, h]; rfl
@[simp] theorem isi_lst_tuple {a : Addr} {ds : List D} (h : S a = some (.lst ds)) : wIsi [.ref a, .ty "tuple"] S Q = Q (.bl false) S := by
  show onS (tyOf (.ref a) S) _ = _
  rw [tyOf, h]; rfl
end
end DL

namespace DL
open PySem PySem.Spec PyProof.Rows L2
theorem wIn_lst_ok {S : Sto} {Q : KD} {x : D} {neg : Bool} {a : Addr} {ds : List D} (h : S a = some (.lst ds)) (hx : x.ok 40 = true) (hd : ∀ d ∈ ds, d.ok 39 = true) : wIn neg x (.ref a) S Q = Q (.bl (neg != ds.any fun z => z.eqv x)) S := by
  have e1 : rd 6 S x = x := rd_ok x 40 6 S hx
  have hc : D.oks ds 39 = true := by rw [oks_all]; exact List.all_eq_true.mpr hd
  have e2 : rd 6 S (.ref a) = .fz ds := by rw [rd, h]; simp only; rw [rds_ok ds 39 5 S hc]
  rw [isLst_dct (a := 0) (by simp [isLst, h])]
  have e : wInS neg x (.ref a) S Q = ((rd 6 S x).ok 40 = true ∧ (rd 6 S (.ref a)).ok 40 = true ∧ onI (rd 6 S (.ref a)) fun ds => Q (.bl (neg != (ds.any fun z => z.eqv (rd 6 S x)))) S) := by
    unfold wInS
    split
    · cases ‹D.ref a = _›
    · rfl
  rw [e, e1, e2]
  have z : (D.fz ds).ok 40 = true := by rw [D.ok]; exact hc
  simp only [onI, D.items?, hx, z, true_and]
theorem flatMap_one {α β : Type} (f : α → β) : ∀ xs : List α, (xs.flatMap fun x => [f x]) = xs.map f
  | [] => rfl
  | x :: r => by rw [List.flatMap_cons, flatMap_one f r]; rfl
/-- none of a list of True is False -/
theorem wIn_trues {S : Sto} {Q : KD} {neg : Bool} {a : Addr} {α : Type} {xs : List α} (h : S a = some (.lst (xs.flatMap fun _ => [D.bl true]))) : wIn neg (.bl false) (.ref a) S Q = Q (.bl neg) S := by
  rw [flatMap_one] at h
  rw [wIn_lst_ok h rfl fun d hd => by obtain ⟨_, _, rfl⟩ := List.mem_map.mp hd; rfl]
  have : ((xs.map fun _ => D.bl true).any fun z => z.eqv (.bl false)) = false := by
    rw [List.any_eq_false]
    intro d hd
    obtain ⟨_, _, rfl⟩ := List.mem_map.mp hd
    simp [D.eqv, D.py, PyData.eqv]
  rw [this]
  cases neg <;> rfl
theorem dLockS_dct {i : Nat} {t : DTS} {Dn : DEnds} {τ : DSt} {S : Sto} {d : Addr} {kvs : List (D × D)} (h : τ[i]? = some (some (.ref d))) (h' : S d = some (.dct kvs)) :
    dLockS i t Dn τ S = ∀ od, t ⟨fun τ' S' => S' d = some (.fdc od kvs) ∧ Dn.nx τ' (put S' d (.dct kvs)), fun v S' => S' d = some (.fdc od kvs) ∧ Dn.rt v (put S' d (.dct kvs)), fun τ' S' => S' d = some (.fdc od kvs) ∧ Dn.bk τ' (put S' d (.dct kvs)), fun τ' S' => S' d = some (.fdc od kvs) ∧ Dn.ct τ' (put S' d (.dct kvs))⟩ τ (put S d (.fdc od kvs)) := by
  unfold dLockS; simp only [h, h']
theorem dLockE_dct {i : Nat} {t : DTE} {Q : KD} {τ : DSt} {S : Sto} {d : Addr} {kvs : List (D × D)} (h : τ[i]? = some (some (.ref d))) (h' : S d = some (.dct kvs)) :
    dLockE i t τ S Q = ∀ od, t τ (put S d (.fdc od kvs)) fun v S' => S' d = some (.fdc od kvs) ∧ Q v (put S' d (.dct kvs)) := by
  unfold dLockE; simp only [h, h']
theorem onD_fdc {S : Sto} {a : Addr} {o : Obj} {kvs : List (D × D)} {y : D} {k : List (D × D) → Prop} (h : S a = some (.fdc o kvs)) (hn : kvs ≠ []) (f : keyFit kvs y = true) : onD S a y k = k kvs := by simp [onD, rdD, h, f, hn]
theorem onD_dct {S : Sto} {a : Addr} {kvs : List (D × D)} {y : D} {k : List (D × D) → Prop} (h : S a = some (.dct kvs)) (f : keyFit kvs y = true) : onD S a y k = k kvs := by simp [onD, rdD, h, f]
@[simp] theorem isDct_fdc {S : Sto} {a : Addr} {o : Obj} {kvs : List (D × D)} (h : S a = some (.fdc o kvs)) : isDct S a := by simp [isDct, h]
@[simp] theorem isDct_dct {S : Sto} {a : Addr} {kvs : List (D × D)} (h : S a = some (.dct kvs)) : isDct S a := by simp [isDct, h]
theorem range_split {n i : Nat} {d r : List Nat} (h : List.range n = d ++ i :: r) : i = d.length ∧ d.length < n := by
  have hl := congrArg List.length h
  simp at hl
  have h1 : (List.range n)[d.length]? = some i := by rw [h]; simp
  rw [List.getElem?_range (by omega)] at h1
  exact ⟨(Option.some.inj h1).symm, by omega⟩
@[simp] theorem wNe_int {S : Sto} {Q : KD} {a b : Int} : wNe (.int a) (.int b) S Q = Q (.bl (!decide (a = b))) S := by
  rw [wNe_of (.cl rfl) (.cl rfl)]; simp
@[simp] theorem wEq_int {S : Sto} {Q : KD} {a b : Int} : wEq (.int a) (.int b) S Q = Q (.bl (decide (a = b))) S := by
  rw [wEq_of (.cl rfl) (.cl rfl)]; simp
@[simp] theorem wNe_str {S : Sto} {Q : KD} {a b : Str} : wNe (.str a) (.str b) S Q = Q (.bl (!decide (a = b))) S := by
  rw [wNe_of (.cl rfl) (.cl rfl)]; simp
@[simp] theorem wEq_str {S : Sto} {Q : KD} {a b : Str} : wEq (.str a) (.str b) S Q = Q (.bl (decide (a = b))) S := by
  rw [wEq_of (.cl rfl) (.cl rfl)]; simp
theorem dList_values_dct {i : Nat} {τ : DSt} {S : Sto} {Q : KD} {a : Addr} {kvs : List (D × D)} (h : τ[i]? = some (some (.ref a))) (h' : S a = some (.dct kvs)) : dList_values (dV i) τ S Q = ∀ p, S p = none → Q (.ref p) (put S p (.lst (kvs.map (·.2)))) := by
  unfold dList_values
  rw [dV_eq, h]
  simp [dctOf, h']
theorem wMaxI_lst {S : Sto} {Q : KD} {a : Addr} {ns : List Int} (h : S a = some (.lst (ns.map D.int))) (hn : ns ≠ []) : wMaxI [.ref a] S Q = Q (.int (maxI ns)) S := by
  simp [wMaxI, lstOf, h, intsD_map, hn]
end DL

namespace DL
open PySem PySem.Spec PyProof.Rows L2

/-! ### repr of small data -/
mutual
def D.sm : D → Bool
  | .int i => decide (i.natAbs < 10 ^ 12)
  | .str x => x.cps.toList.all fun c => decide (c < 16 ^ 8)
  | .tup ds => D.sms ds | .fz ds => D.sms ds
  | _ => true
def D.sms : List D → Bool
  | [] => true
  | d :: r => D.sm d && D.sms r
end
theorem sms_iff {ds : List D} : D.sms ds = true ↔ ∀ d ∈ ds, d.sm = true := by
  induction ds with
  | nil => simp [D.sms]
  | cons d r ih => rw [D.sms, Bool.and_eq_true, ih]; simp
theorem log2_small {n : Nat} (h : n < 10 ^ 12) : n.log2 < 1920 := by
  by_cases e : n = 0
  · subst e; simp
  · exact (Nat.log2_lt e).mpr (Nat.lt_trans h (by decide +kernel))
mutual
theorem sm_py : ∀ d : D, d.sm = true → d.py.showable = true ∧ d.py.leavesShort 13 = true
  | .non, _ => by simp [D.py, PyData.showable, PyData.leavesShort]
  | .bl _, _ => by simp [D.py, PyData.showable, PyData.leavesShort]
  | .int i, h => by
    have h' : i.natAbs < 10 ^ 12 := by simpa [D.sm] using h
    rw [D.py]
    exact ⟨by rw [PyData.showable]; exact decide_eq_true (log2_small h'), by rw [PyData.leavesShort]; exact decide_eq_true (PyData.shown_int_le h')⟩
  | .str x, h => by
    rw [D.py, PyData.showable, PyData.leavesShort]
    exact ⟨rfl, by rw [D.sm] at h; exact h⟩
  | .tup ds, h => by rw [D.py, PyData.showable, PyData.leavesShort]; exact sms_py ds (by rw [D.sm] at h; exact h)
  | .fz ds, h => by rw [D.py, PyData.showable, PyData.leavesShort]; exact sms_py ds (by rw [D.sm] at h; exact h)
  | .wt _, _ => by simp [D.py, PyData.showable, PyData.leavesShort]
  | .ref _, _ => by simp [D.py, PyData.showable, PyData.leavesShort]
  | .ty _, _ => by simp [D.py, PyData.showable, PyData.leavesShort]
theorem sms_py : ∀ ds : List D, D.sms ds = true → PyData.showableAll (D.pys ds) = true ∧ PyData.leavesShortAll 13 (D.pys ds) = true
  | [], _ => by simp [D.pys, PyData.showableAll, PyData.leavesShortAll]
  | d :: r, h => by
    rw [D.sms, Bool.and_eq_true] at h
    obtain ⟨a, b⟩ := sm_py d h.1
    obtain ⟨c, e⟩ := sms_py r h.2
    rw [D.pys, PyData.showableAll, PyData.leavesShortAll, a, b, c, e]
    exact ⟨rfl, rfl⟩
end
/-- the bulk of a list whose items are at most n each -/
theorem bulk_le (n : Nat) : ∀ ds : List D, (∀ d ∈ ds, d.py.bulk ≤ n) → PyData.bulkAll (D.pys ds) ≤ (n + 1) * ds.length
  | [], _ => by simp [D.pys, PyData.bulkAll]
  | d :: r, h => by
    have := bulk_le n r fun z hz => h z (List.mem_cons_of_mem _ hz)
    have := h d (List.mem_cons_self ..)
    rw [D.pys, PyData.bulkAll, List.length_cons, Nat.mul_add]
    omega
theorem wRepr_of {S : Sto} {Q : KD} {x d : D} {ds : List D} (hr : Reads S x d) (hs : seqOf S x = some ds) (h1 : d.sm = true) (h2 : d.py.bulk ≤ 2 ^ 20) : wRepr [x] S Q = Q (.str d.py.shown) S := by
  obtain ⟨a, b⟩ := sm_py d h1
  have c := PyData.shown_fits_bulk (B := 13) (by decide) (by decide) b h2
  have z : d.ok 40 = true := D.ok_of_cl _ _ (D.cl_up _ 20 40 (by decide) hr.2)
  unfold wRepr
  simp only [hr.1, a, c, z, hs, true_and]
  exact propext ⟨fun h => h.2, fun h => ⟨⟨_, rfl⟩, h⟩⟩
end DL

namespace DL
open PySem PySem.Spec PyProof.Rows L2

/-! ### module constants -/
section
variable {X : Cx} {pos : Pos}
theorem de_const {x : Str} {v : V} {u : Value} {d : D} (hm : X.mg x = some u) (r : RelV v u) (rd : ∀ H, RelD X.KW H v d) (hg : Gl X x) (hd : (x == ("__debug__" : Str)) = false := by decide) : DE X (.Name x pos) (dC d) :=
  de_c (pe_glob hg hm r hd) rd
theorem de_constI {x : Str} {i : Int} {t : Addr} (hm : X.mg x = some (.int i t)) (hg : Gl X x) (hd : (x == ("__debug__" : Str)) = false := by decide) : DE X (.Name x pos) (dC (.int i)) :=
  de_const (v := .int i) hm ⟨_, rfl⟩ (fun _ => .int i) hg hd
end
/-! ### calls with keywords -/
structure DKw (X : Cx) (kws : List Keyword) (t : DTA) : Prop where
  run : ∀ (pos : Pos) (pins : List (Addr × Obj)) (s : Shared) (σ : L2.St) (H : Hp) (τ : DSt) (S : Sto) (Q : List D → Sto → Prop), Inv X pins σ H s → StR X.KW H σ τ → HR X.KW H S → t τ S Q →
    wpAny (model X.prog X.w) X.A (evalAll ((backToKw pos (keywordEach kws X.env)).map (·.2))) (AP X pins σ (UpA X.KW H Q)) X.xe s
structure CalK (P : Program) (w : World) (K : PySem.W.Frag) (mg : Str → Option Value) (base : Heap) (k : Nat) (x : Str) (sp : DSp) (ks : List Str) (gD : List D → List D → List D) : Prop where
  ex : ∃ (f : Addr) (fd : FuncData) (ps : List Str) (g : List Value → List Value → List Value) (gV : List V → List V → List V), FnD P w K mg base k f fd ps sp ∧ mg x = some (.ref f) ∧ PySem.W.keepIn K (.ref f) = true ∧ KBinds K fd ps ks g gV ∧
    ∀ H vs zs ds es, RelDs ⟨K, P, w⟩ H vs ds → RelDs ⟨K, P, w⟩ H zs es → RelDs ⟨K, P, w⟩ H (gV vs zs) (gD ds es)
def dCallK (sp : DSp) (gD : List D → List D → List D) (t tk : DTA) : DTE := fun τ S Q => t τ S fun ds S1 => tk τ S1 fun es S2 => sp (gD ds es) S2 Q noX
section
variable {X : Cx} {x : Str} {k : Nat} {sp : DSp} {ks : List Str} {gD : List D → List D → List D} {p pos kpos : Pos} {e : Expr} {es : List Expr} {kws : List Keyword} {tr tk : DTA} {nm : Option Str} {te : DTE}
theorem dkw_nil : DKw X [] dNil := ⟨fun _ _ _ _ H τ S Q I st hr q => wpAny_evalAll_nil ⟨[], H, I, .nil, .refl _, [], S, hr, .nil, q⟩⟩
theorem dkw_cons (ha : DE X e te) (hk : DKw X kws tk) : DKw X (⟨nm, e, kpos⟩ :: kws) (dCons te tk) := by
  refine ⟨fun pos pins s σ H τ S Q I st hr q => ?_⟩
  show wpAny _ _ (evalAll ((do let v ← eval e X.env; standAt pos; pure v) :: (backToKw pos (keywordEach kws X.env)).map (·.2))) _ _ s
  refine wpAny_evalAll_cons (wpAny_bind (thn (ha.run pins s σ H τ S _ I st hr q) fun u s1 ⟨x, H1, I1, r1, e1, d, S1, hr1, d1, q1⟩ => wpAny_bind (wpAny_standAt (wpAny_pure ?_))))
  exact thn (hk.run pos pins s1 σ H1 τ S1 _ I1 (st.ev e1) hr1 q1) fun us s2 ⟨xs, H2, I2, r2, e2, ds, S2, hr2, d2, q2⟩ => ⟨x :: xs, H2, I2, .cons r1 r2, e1.trans e2, d :: ds, S2, hr2, .cons (d1.ev e2) d2, q2⟩
theorem de_calK (C : CalK X.prog X.w X.K X.mg X.base k x sp ks gD) (hr : Room k X.A) (hgd : X.A.guards = some []) (hg : Gl X x) (ha : DAr X (e :: es) tr) (hkw : DKw X kws tk)
    (hall : (backToKw pos (keywordEach kws X.env)).all (·.1.isSome) = true := by rfl) (hks : (backToKw pos (keywordEach kws X.env)).filterMap (·.1) = ks := by rfl)
    (hdb : (x == ("__debug__" : Str)) = false := by decide) (he : starEach (e :: es) X.env = (false, eval e X.env) :: starEach es X.env := by rfl)
    (hpl : ((backTo pos (starEach (e :: es) X.env)).any (·.1) || (backToKw pos (keywordEach kws X.env)).any (·.1.isNone)) = false := by rfl) :
    DE X (.Call (.Name x p) (e :: es) kws pos) (dCallK sp gD tr tk) := by
  obtain ⟨f, fd, ps, g, gV, F, hm, hk, hb, hrel⟩ := C.ex
  refine ⟨fun pins s σ H τ S Q I st hR q => wpAny_Call_Name_kw (ld_glob I hg hm ?_ hdb)⟩
  refine PySem.W.callWith_KW (h₀ := X.base) I.ok.mod.kin hk hall (thn (ha.run pos pins s σ H τ S _ I st hR q) fun us s1 ⟨vs, H1, I1, r, e1, ds, S1, hR1, rd, q1⟩ => ?_) hpl he
  refine thn (hkw.run pos pins s1 σ H1 τ S1 _ I1 (st.ev e1) hR1 q1) fun ws s2 ⟨zs, H2, I2, rz, e2, es2, S2, hR2, rd2, q2⟩ => ⟨I2.kIn, ?_⟩
  rw [hks]
  have r2 := hb.rel r rz
  have rr := hrel H2 vs zs ds es2 (rd.ev e2) rd2
  have hl : (g us ws).length = ps.length := by rw [← r2.length, rr.length]; exact F.len _ _ _ _ q2
  refine wpAny_call (codeAny_mono (F.run X.A X.stack s2 H2 ⟨us, ks.zip ws⟩ (g us ws) (gV vs zs) (gD ds es2) S2 Q noX hr hgd I2.env0 (hb.to s2 us ws I2.kIn hl) r2 rr hR2 q2) fun res s' z => ?_)
  cases res with
  | error e => exact noPass z
  | ok fl =>
    cases fl with
    | ret u =>
      obtain ⟨v, H', I', r', z⟩ := I2.after z
      exact ⟨v, H', I', r', z.back (e1.trans e2)⟩
    | next => exact z.elim
    | brk => exact z.elim
    | cont => exact z.elim
end
end DL

namespace DL
open PySem PySem.Spec PyProof.Rows L2

/-! ### all, any, sum, ord, join, find -/
def blsD : List D → Option (List Bool)
  | [] => some []
  | .bl b :: r => (blsD r).map (b :: ·)
  | _ => none
theorem blsD_eq : ∀ {ds : List D} {ns : List Bool}, blsD ds = some ns → ds = ns.map D.bl
  | [], ns, h => by cases h; rfl
  | d :: r, ns, h => by
    cases d <;> simp only [blsD] at h <;> first | (cases h; done) | skip
    obtain ⟨ms, h1, h2⟩ := Option.map_eq_some_iff.mp h
    subst h2
    rw [blsD_eq h1]; rfl
theorem blsD_map (ns : List Bool) : blsD (ns.map D.bl) = some ns := by induction ns with
  | nil => rfl
  | cons n r ih => simp [blsD, ih]
theorem relDs_blV {K : KW} {H : Hp} : ∀ {vs : List V} {ns : List Bool}, RelDs K H vs (ns.map D.bl) → vs = ns.map V.bl
  | [], [], _ => rfl
  | _ :: _, _ :: _, .cons r t => by cases r; rw [relDs_blV t]; rfl
def strsD : List D → Option (List Str)
  | [] => some []
  | .str b :: r => (strsD r).map (b :: ·)
  | _ => none
theorem strsD_eq : ∀ {ds : List D} {ns : List Str}, strsD ds = some ns → ds = ns.map D.str
  | [], ns, h => by cases h; rfl
  | d :: r, ns, h => by
    cases d <;> simp only [strsD] at h <;> first | (cases h; done) | skip
    obtain ⟨ms, h1, h2⟩ := Option.map_eq_some_iff.mp h
    subst h2
    rw [strsD_eq h1]; rfl
theorem strsD_map (ns : List Str) : strsD (ns.map D.str) = some ns := by induction ns with
  | nil => rfl
  | cons n r ih => simp [strsD, ih]
theorem relDs_strV {K : KW} {H : Hp} : ∀ {vs : List V} {ns : List Str}, RelDs K H vs (ns.map D.str) → vs = ns.map V.str ∧ ∀ x ∈ ns, PyData.strOk x = true
  | [], [], _ => ⟨rfl, by simp⟩
  | _ :: _, _ :: _, .cons r t => by
    obtain ⟨a, b⟩ := relDs_strV t
    cases r with
    | str x h => exact ⟨by rw [a]; rfl, fun y hy => by rcases List.mem_cons.mp hy with rfl | hy; exact h; exact b y hy⟩
section
variable {X : Cx}
def wAll : List D → Sto → KD → Prop := fun xs S Q => match xs with
  | [d] => onS (lstOf S d) fun ds => onS (blsD ds) fun bs => Q (.bl (bs.all id)) S
  | _ => False
def wAny : List D → Sto → KD → Prop := fun xs S Q => match xs with
  | [d] => onS (lstOf S d) fun ds => onS (blsD ds) fun bs => Q (.bl (bs.any id)) S
  | _ => False
def wSum : List D → Sto → KD → Prop := fun xs S Q => match xs with
  | [d] => onS (lstOf S d) fun ds => onS (intsD ds) fun ns => Q (.int ns.sum) S
  | _ => False
theorem dcall_all (hc : X.calm = true) : DCall X (.builtin "all") wAll := by
  refine .of (cr_all hc) fun xs H ds S Q R hr rd q k => ?_
  unfold wAll at q
  split at q
  · obtain ⟨v, rfl, r⟩ := rd.one
    obtain ⟨es, ee, q⟩ := onS.out q
    obtain ⟨ns, en, q9⟩ := onS.out q
    have := blsD_eq en
    subst this
    obtain ⟨a, vs, rfl, sq, rr⟩ := lst_sq hr r ee
    have := relDs_blV rr
    subst this
    exact ⟨a, ns, rfl, sq, k _ _ (.of (.refl _) hr (.bl _) q9)⟩
  · exact q.elim
theorem dcall_any (hc : X.calm = true) : DCall X (.builtin "any") wAny := by
  refine .of (cr_any hc) fun xs H ds S Q R hr rd q k => ?_
  unfold wAny at q
  split at q
  · obtain ⟨v, rfl, r⟩ := rd.one
    obtain ⟨es, ee, q⟩ := onS.out q
    obtain ⟨ns, en, q9⟩ := onS.out q
    have := blsD_eq en
    subst this
    obtain ⟨a, vs, rfl, sq, rr⟩ := lst_sq hr r ee
    have := relDs_blV rr
    subst this
    exact ⟨a, ns, rfl, sq, k _ _ (.of (.refl _) hr (.bl _) q9)⟩
  · exact q.elim
theorem dcall_sum (hc : X.calm = true) : DCall X (.builtin "sum") wSum := by
  refine .of (cr_sum hc) fun xs H ds S Q R hr rd q k => ?_
  unfold wSum at q
  split at q
  · obtain ⟨v, rfl, r⟩ := rd.one
    obtain ⟨es, ee, q⟩ := onS.out q
    obtain ⟨ns, en, q9⟩ := onS.out q
    have := intsD_eq en
    subst this
    obtain ⟨a, vs, rfl, sq, rr⟩ := lst_sq hr r ee
    have := relDs_intV rr
    subst this
    exact ⟨a, ns, rfl, sq, k _ _ (.of (.refl _) hr (.int _) q9)⟩
  · exact q.elim
def wOrd : List D → Sto → KD → Prop := fun xs S Q => match xs with
  | [.str x] => x.length = 1 ∧ Q (.int (x.cps.getD 0 0 : Nat)) S
  | _ => False
theorem dcall_ord : DCall X (.builtin "ord") wOrd := .of call_ord fun xs H ds S Q R hr rd q k => by
  unfold wOrd at q
  split at q
  · obtain ⟨v, rfl, r⟩ := rd.one
    cases r
    exact ⟨_, rfl, q.1, k _ _ (.of (.refl _) hr (.int _) q.2)⟩
  · exact q.elim
def wFind : D → List D → Sto → KD → Prop := fun x xs S Q => match x, xs with
  | .str a, [.str b] => Q (.int (Txt.find a b)) S
  | _, _ => False
theorem dmt_find : DMt X "str.find" wFind := ⟨_, mt_find, fun x xs dx ds H S Q R hr r1 r2 q k => by
  unfold wFind at q
  split at q
  · obtain ⟨y, rfl, ry⟩ := r2.one
    cases r1; cases ry
    exact ⟨_, _, rfl, rfl, k _ _ (.of (.refl _) hr (.int _) q)⟩
  · exact q.elim⟩
end
end DL

namespace DL
open PySem PySem.Spec PyProof.Rows L2

/-! ### a def with keyword-only parameters, all of them written -/
def kwG {α : Type} (n m : Nat) (xs ys : List α) : List α := if xs.length = n ∧ ys.length = m then xs ++ ys else []
theorem kwG_rel {K : KW} {H : Hp} {n m : Nat} {vs zs : List V} {ds es : List D} (r : RelDs K H vs ds) (q : RelDs K H zs es) : RelDs K H (kwG n m vs zs) (kwG n m ds es) := by
  unfold kwG
  rw [r.length, q.length]
  split
  · exact r.append q
  · exact .nil
theorem kwG_vals {n m : Nat} {vs zs : List V} {us ws : List Value} (r : Vals vs us) (q : Vals zs ws) : Vals (kwG n m vs zs) (kwG n m us ws) := by
  unfold kwG
  rw [r.length, q.length]
  split
  · exact r.append q
  · exact .nil
section
variable {P : Program} {w : World} {K : PySem.W.Frag} {mg : Str → Option Value} {base : Heap}
theorem fun_kbinds {x qual : Str} {st : Stmt} {f : Addr} {fd : FuncData} {ps ks : List Str} {n : Nat} (hps : ps ≠ []) (F : Fun K x qual st f fd)
    (h : ∀ (kV doc pm : Value) (an : Option Addr) (cdv ct : Value) (us ws : List Value), us.length = n → ws.length = ks.length → bindArgs (PySem.W.fnOf x qual (defArgs st) (defBody st) (defScope st) .none kV doc pm an cdv ct) ⟨us, ks.zip ws⟩ = pure (ps.zip (us ++ ws))) : KBinds K fd ps ks (kwG n ks.length) (kwG n ks.length) := by
  obtain ⟨oc, od, kV, doc, pm, an, cdv, ct, osl, rfl, lk, hcd⟩ := F.ex
  refine ⟨fun s us ws X hl => ?_, fun r q => kwG_vals r q⟩
  by_cases hc : us.length = n ∧ ws.length = ks.length
  · have e : kwG n ks.length us ws = us ++ ws := by unfold kwG; rw [if_pos hc]
    rw [e]
    exact .of_eq (h kV doc pm an cdv ct us ws hc.1 hc.2)
  · have e : kwG n ks.length us ws = [] := by unfold kwG; rw [if_neg hc]
    rw [e] at hl
    exact absurd (List.length_eq_zero_iff.mp hl.symm) hps
theorem CalK.of {x : Str} {st : Stmt} {f : Addr} {fd : FuncData} {N ps ks : List Str} {n k : Nat} {sp : DSp} (F : Fun K x x st f fd) (S : FnScope N ps (defScope st)) (hm : mg x = some (.ref f)) (hb : KBinds K fd ps ks (kwG n ks.length) (kwG n ks.length)) (len : ∀ ds S Q E, sp ds S Q E → ds.length = ps.length)
    (hbody : ∀ (cdv : Value) (A : Around) (outer : List Env) (s : Shared) (H : Hp) (ds : List D) (So : Sto) (Q : KD) (E : KX), Room k (A.deeper (envOfC x (defScope st) s.heap.objs.size f cdv)) → (A.deeper (envOfC x (defScope st) s.heap.objs.size f cdv)).guards = some [] → sp ds So Q E →
      ∃ t, DSs (cxOf (CX P w) P w K mg base N x (defScope st) f cdv A outer s H (UpX ⟨K, P, w⟩ H E)).nox (defBody st) t ∧ t (bodyEnds Q) (startD N ds) So) : CalK P w K mg base (k + 1) x sp ks (kwG n ks.length) :=
  ⟨f, fd, ps, _, _, FnD.of F S len (fun cdv A outer s H ds So Q E hr hg hs => let ⟨t, a, b⟩ := hbody cdv A outer s H ds So Q E hr hg hs; ⟨t, a.nox, b⟩), hm, F.kp, hb, fun _ _ _ _ _ r q => kwG_rel r q⟩
end
@[simp] theorem dCallK_eq {sp : DSp} {gD : List D → List D → List D} {t tk : DTA} {τ : DSt} {S : Sto} {Q : KD} : dCallK sp gD t tk τ S Q = t τ S fun ds S1 => tk τ S1 fun es S2 => sp (gD ds es) S2 Q noX := rfl
end DL

namespace DL
open PySem PySem.Spec PyProof.Rows L2

/-! ### is True, is False -/
theorem is_bool_gen {M : Model} {A : Around} {E : Value → Shared → Prop} {s : Shared} {Q : Value → Shared → Prop} {v : Value} {d : Bool} (hv : ∀ id, v ≠ .builtin id) (h : Q (.bool (v == .bool d)) s) : wpAny M A (compareOp .Is v (.bool d)) Q E s := by
  cases v <;> first | exact wpAny_pure h | exact absurd rfl (hv _)
theorem isnot_bool_gen {M : Model} {A : Around} {E : Value → Shared → Prop} {s : Shared} {Q : Value → Shared → Prop} {v : Value} {d : Bool} (hv : ∀ id, v ≠ .builtin id) (h : Q (.bool (!(v == .bool d))) s) : wpAny M A (compareOp .IsNot v (.bool d)) Q E s := by
  cases v <;> first | exact wpAny_pure h | exact absurd rfl (hv _)
section
variable {X : Cx}
theorem relV_beq {x : V} {v : Value} {b : Bool} (rx : RelV x v) : (v == Value.bool b) = decide (x = .bl b) := by
  cases x <;> first
    | (rename_i c; cases rx; cases b <;> cases c <;> rfl)
    | (cases rx; rfl)
    | (obtain ⟨t, rfl⟩ := rx; rfl)
theorem relV_nb {x : V} {v : Value} (rx : RelV x v) : ∀ id, v ≠ .builtin id := by
  cases x <;> first
    | (obtain ⟨t, rfl⟩ := rx; intro id z; cases z; done)
    | (cases rx; intro id z; cases z; done)
theorem op_isB : OpR X (compareOp .Is) (fun x y H Q => ∃ b, y = .bl b ∧ Q (.bl (decide (x = .bl b))) H) := by
  intro pins s σ H x y v u Q I rx ry h
  obtain ⟨b, rfl, q⟩ := h
  cases ry
  exact is_bool_gen (relV_nb rx) (fin_bl I q (relV_beq rx).symm)
theorem op_isntB : OpR X (compareOp .IsNot) (fun x y H Q => ∃ b, y = .bl b ∧ Q (.bl (!decide (x = .bl b))) H) := by
  intro pins s σ H x y v u Q I rx ry h
  obtain ⟨b, rfl, q⟩ := h
  cases ry
  exact isnot_bool_gen (relV_nb rx) (fin_bl I q (by rw [relV_beq rx]))
def wIs : DR := fun x y S Q => match y with | .bl b => Q (.bl (decide (x = .bl b))) S | _ => False
def wIsnt : DR := fun x y S Q => match y with | .bl b => Q (.bl (!decide (x = .bl b))) S | _ => False
theorem relD_bl {K : KW} {H : Hp} {v : V} {d : D} {b : Bool} (r : RelD K H v d) : decide (v = .bl b) = decide (d = .bl b) := by
  cases r <;> simp
theorem dop_is : DOp X (compareOp .Is) wIs := ⟨_, op_isB, fun x y dx dy H S Q R hr r1 r2 q k => by
  unfold wIs at q
  split at q
  · cases r2
    exact ⟨_, rfl, by rw [relD_bl r1]; exact k _ _ (.of (.refl _) hr (.bl _) q)⟩
  · exact q.elim⟩
theorem dop_isnt : DOp X (compareOp .IsNot) wIsnt := ⟨_, op_isntB, fun x y dx dy H S Q R hr r1 r2 q k => by
  unfold wIsnt at q
  split at q
  · cases r2
    exact ⟨_, rfl, by rw [relD_bl r1]; exact k _ _ (.of (.refl _) hr (.bl _) q)⟩
  · exact q.elim⟩
@[simp] theorem wIs_bl {x : D} {b : Bool} {S : Sto} {Q : KD} : wIs x (.bl b) S Q = Q (.bl (decide (x = .bl b))) S := rfl
@[simp] theorem wIsnt_bl {x : D} {b : Bool} {S : Sto} {Q : KD} : wIsnt x (.bl b) S Q = Q (.bl (!decide (x = .bl b))) S := rfl
end
end DL

namespace DL
open PySem PySem.Spec PyProof.Rows L2

/-! ### pairs of ints: >=, max of a list of them -/
def leP (p q : Int × Int) : Prop := p.1 < q.1 ∨ (p.1 = q.1 ∧ p.2 ≤ q.2)
instance (p q : Int × Int) : Decidable (leP p q) := by unfold leP; infer_instance
theorem leP.refl (p : Int × Int) : leP p p := .inr ⟨rfl, Int.le_refl _⟩
theorem leP.trans {p q r : Int × Int} (a : leP p q) (b : leP q r) : leP p r := by unfold leP at *; omega
theorem leP.total (p q : Int × Int) : leP p q ∨ leP q p := by unfold leP; omega
theorem leP.anti {p q : Int × Int} (a : leP p q) (b : leP q p) : p = q := by
  obtain ⟨p1, p2⟩ := p; obtain ⟨q1, q2⟩ := q
  unfold leP at *; simp only [Prod.mk.injEq] at *; omega
section
variable {X : Cx}
def rGeP (K : PySem.W.Frag) : R2 := fun x y H Q => ∃ (a b : Addr) (p q : Int × Int), x = .ref a ∧ y = .ref b ∧ SqT K H a [.int p.1, .int p.2] ∧ SqT K H b [.int q.1, .int q.2] ∧ Q (.bl (decide (leP q p))) H
theorem op_geP {X : Cx} (hu : X.A.units < cLine) : OpR X (compareOp .GtE) (rGeP X.K) := by
  intro pins s σ H x y v u Q I rx ry h
  obtain ⟨a, b, p, q, rfl, rfl, ha, hb, qq⟩ := h
  cases rx
  cases ry
  obtain ⟨its, r1, p1, _⟩ := I.tuple ha
  obtain ⟨its2, r2, p2, _⟩ := I.tuple hb
  have i1 : IntsAre its [p.1, p.2] := Vals.ints (ns := [p.1, p.2]) r1
  have i2 : IntsAre its2 [q.1, q.2] := Vals.ints (ns := [q.1, q.2]) r2
  have e1 : its.toArray.size = 2 := by rw [List.size_toArray]; exact i1.length
  have e2 : its2.toArray.size = 2 := by rw [List.size_toArray]; exact i2.length
  have at1 : ∀ j (h1 : j < its.toArray.size), ∃ t, its.toArray[j] = .int ([p.1, p.2].getD j 0) t := fun j h1 => PyProof.Rows.IntsAre.int_at i1 _ _ (by simp at h1; simp [h1])
  have at2 : ∀ j (h1 : j < its2.toArray.size), ∃ t, its2.toArray[j] = .int ([q.1, q.2].getD j 0) t := fun j h1 => PyProof.Rows.IntsAre.int_at i2 _ _ (by simp at h1; simp [h1])
  have R := Ob.RcOp.tuples_ge (A := X.A) (s := s) (e := fun j => decide ([p.1, p.2].getD j 0 = [q.1, q.2].getD j 0)) (r := fun j => decide ([q.1, q.2].getD j 0 ≤ [p.1, p.2].getD j 0)) p1 p2 hu (fun j h1 h2 => by
    obtain ⟨t, et⟩ := at1 j h1
    obtain ⟨t', et'⟩ := at2 j h2
    rw [et, et']
    have z : ([p.1, p.2].getD j 0 == [q.1, q.2].getD j 0) = decide ([p.1, p.2].getD j 0 = [q.1, q.2].getD j 0) := by
      by_cases q : [p.1, p.2].getD j 0 = [q.1, q.2].getD j 0
      · rw [decide_eq_true q]; exact beq_iff_eq.mpr q
      · rw [decide_eq_false q]; exact beq_eq_false_iff_ne.mpr q
    rw [← z]
    exact SeqAt.EqAt.int_int _ _ _ _) (fun j h1 h2 _ => by
    obtain ⟨t, et⟩ := at1 j h1
    obtain ⟨t', et'⟩ := at2 j h2
    rw [et, et']
    exact Ob.RcOp.ge_int _ _ _ _)
  rw [e1, e2] at R
  have z : wpAny (model X.prog X.w) X.A (compareOp .GtE (.ref a) (.ref b)) (EP X pins σ Q) X.xe s := by
    refine R X.prog X.w X.xe (EP X pins σ Q) ⟨.bl _, H, I, rfl, ?_⟩
    have : Ob.lexAt (fun j => decide ([p.1, p.2].getD j 0 = [q.1, q.2].getD j 0)) (fun j => decide ([q.1, q.2].getD j 0 ≤ [p.1, p.2].getD j 0)) (decide (2 ≥ 2)) 0 (min 2 2) = decide (leP q p) := by
      unfold leP
      simp only [Nat.min_self, Ob.lexAt_succ, Ob.lexAt_zero, List.getD_cons_zero, List.getD_cons_succ]
      by_cases h1 : p.1 = q.1
      · by_cases h2 : p.2 = q.2
        · simp [h1, h2]
        · simp [h1, h2]
      · have h1' : ¬ q.1 = p.1 := fun z => h1 z.symm
        simp [h1, h1']
        omega
    rw [this]
    exact qq
  exact z
def wGeP : DR := fun x y S Q => match x, y with
  | .tup [.int a, .int b], .tup [.int c, .int d] => Q (.bl (decide (leP (c, d) (a, b)))) S
  | _, _ => False
theorem relDs_two_int {K : KW} {H : Hp} {vs : List V} {a b : Int} (r : RelDs K H vs [.int a, .int b]) : vs = [.int a, .int b] := by
  obtain ⟨v, w, rfl, r1, r2⟩ := r.two
  cases r1; cases r2; rfl
theorem dop_geP (hu : X.A.units + 64 < cLine) : DOp X (compareOp .GtE) wGeP := ⟨_, op_geP (by omega), fun x y dx dy H S Q R hr r1 r2 q k => by
  unfold wGeP at q
  split at q
  · rename_i a b c d
    cases r1 with
    | tup t1 s1 => cases r2 with
      | tup t2 s2 =>
        have := relDs_two_int s1; subst this
        have := relDs_two_int s2; subst this
        exact ⟨_, _, (a, b), (c, d), rfl, rfl, t1.sq, t2.sq, k _ _ (.of (.refl _) hr (.bl _) q)⟩
  · exact q.elim⟩
@[simp] theorem wGeP_eq {a b c d : Int} {S : Sto} {Q : KD} : wGeP (.tup [.int a, .int b]) (.tup [.int c, .int d]) S Q = Q (.bl (decide (leP (c, d) (a, b)))) S := rfl
/-! max of a list of pairs -/
def wMaxP : List D → Sto → KD → Prop := fun xs S Q => match xs with
  | [d] => onS (lstOf S d) fun ds => ∃ ps : List (Int × Int), ds = ps.map pairI ∧ ps ≠ [] ∧ ∀ p ∈ ps, (∀ q ∈ ps, leP q p) → Q (pairI p) S
  | _ => False
theorem pairI_py (p : Int × Int) : (pairI p).py = .tuple [.int p.1, .int p.2] := by simp [pairI, D.py, D.pys]
theorem lt_pairI (p q : Int × Int) : PySem.W.dataLt (pairI p).py (pairI q).py = !decide (leP q p) := by
  rw [pairI_py, pairI_py, PySem.W.dataLt_ii]
  unfold leP
  by_cases h : p.1 < q.1 ∨ (p.1 = q.1 ∧ p.2 < q.2)
  · have : ¬ (q.1 < p.1 ∨ (q.1 = p.1 ∧ q.2 ≤ p.2)) := by omega
    simp [h, this]
  · have : q.1 < p.1 ∨ (q.1 = p.1 ∧ q.2 ≤ p.2) := by omega
    simp [h, this]
theorem maxD_pairs (x : Int × Int) : ∀ ps : List (Int × Int), ∃ p ∈ x :: ps, PySem.W.maxD (pairI x).py (ps.map fun p => (pairI p).py) = (pairI p).py ∧ ∀ q ∈ x :: ps, leP q p := by
  intro ps
  induction ps generalizing x with
  | nil => exact ⟨x, by simp, rfl, by simp [leP.refl]⟩
  | cons y r ih =>
    have e : PySem.W.maxD (pairI x).py ((y :: r).map fun p => (pairI p).py) = PySem.W.maxD (if leP y x then pairI x else pairI y).py (r.map fun p => (pairI p).py) := by
      unfold PySem.W.maxD
      simp only [List.map_cons, List.foldl_cons, lt_pairI]
      by_cases h : leP y x <;> simp [h]
    rw [e]
    by_cases h : leP y x
    · rw [if_pos h]
      obtain ⟨p, hp, e1, e2⟩ := ih x
      refine ⟨p, ?_, e1, fun q hq => ?_⟩
      · simp only [List.mem_cons] at hp ⊢; rcases hp with a | a
        · exact .inl a
        · exact .inr (.inr a)
      · simp only [List.mem_cons] at hq
        rcases hq with rfl | rfl | hq
        · exact e2 _ (by simp)
        · exact h.trans (e2 x (by simp))
        · exact e2 q (by simp [hq])
    · rw [if_neg h]
      obtain ⟨p, hp, e1, e2⟩ := ih y
      refine ⟨p, List.mem_cons_of_mem _ hp, e1, fun q hq => ?_⟩
      simp only [List.mem_cons] at hq
      rcases hq with rfl | hq
      · exact ((leP.total _ y).resolve_right h).trans (e2 y (by simp))
      · exact e2 q (List.mem_cons.mpr hq)
theorem pairI_inj {p q : Int × Int} (h : (pairI p).py = (pairI q).py) : p = q := by
  rw [pairI_py, pairI_py] at h
  simp only [PyData.tuple.injEq, List.cons.injEq, PyData.int.injEq, and_true] at h
  exact Prod.ext h.1 h.2
theorem dcall_maxP (hu : X.A.units + 65 < cLine) (hc : X.calm = true) : DCall X (.builtin "max") wMaxP := by
  intro pins s σ H xs us ds S Q I rv hr rd q
  unfold wMaxP at q
  split at q
  · rename_i d
    obtain ⟨v, rfl, r⟩ := rd.one
    cases rv with
    | cons rv t =>
    cases t
    obtain ⟨es, ee, ps, rfl, hne, q⟩ := onS.out q
    obtain ⟨a, its, vs, rfl, rfl, z1, z2, z3, z4⟩ := lst_at I hr rv r ee
    obtain ⟨p0, pr, rfl⟩ := List.exists_cons_of_ne_nil hne
    have ok : ∀ m : List (Int × Int), D.oks (m.map pairI) 40 = true := fun m => by
      induction m with
      | nil => rfl
      | cons x r ih => rw [List.map_cons, D.oks, ih]; simp [pairI, D.ok, D.oks]
    obtain ⟨dp, _, dep⟩ := dps_of z2 40 (ok _)
    obtain ⟨as, rr⟩ := Dp.readsAll I _ _ _ dp z1
    have em : D.pys ((p0 :: pr).map pairI) = (pairI p0).py :: pr.map fun p => (pairI p).py := by rw [pys_map]; simp
    rw [em] at rr dep
    refine PySem.W.max_list_data (vs := its.toArray) (I.ok.hd hc) z4 (by simpa using rr) ⟨?_, ?_⟩ (by omega) fun i u h' tk bs hi hR hk => ?_
    · intro x hx y hy
      have : ∀ z ∈ (pairI p0).py :: pr.map fun p => (pairI p).py, ∃ a b, z = .tuple [.int a, .int b] := fun z hz => by
        rcases List.mem_cons.mp hz with rfl | hz
        · exact ⟨_, _, pairI_py _⟩
        · obtain ⟨w, _, rfl⟩ := List.mem_map.mp hz; exact ⟨_, _, pairI_py _⟩
      obtain ⟨_, _, rfl⟩ := this x hx
      obtain ⟨_, _, rfl⟩ := this y hy
      simp [PySem.W.alike, PySem.W.alikeAll]
    · intro x hx
      rcases List.mem_cons.mp hx with rfl | hx
      · rw [pairI_py]; simp
      · obtain ⟨w, _, rfl⟩ := List.mem_map.mp hx; rw [pairI_py]; simp
    · obtain ⟨p, hp, e1, e2⟩ := maxD_pairs p0 pr
      rw [e1] at hR
      have hl : its.length = (p0 :: pr).length := by rw [← z1.length, z2.length]; simp
      have hi' : i < (p0 :: pr).length := by
        rw [← hl]
        have := (Array.getElem?_eq_some_iff.mp hi).1
        simpa using this
      obtain ⟨w, hw, rw'⟩ := z2.get (i := i) (d := pairI ((p0 :: pr)[i])) (by rw [List.getElem?_map, List.getElem?_eq_getElem hi']; rfl)
      obtain ⟨u', hu', ru'⟩ := Vals.get z1 hw
      have eu : u = u' := by
        rw [List.getElem?_toArray] at hi
        rw [hi] at hu'; cases hu'; rfl
      subst eu
      obtain ⟨dp2, _, _⟩ := dp_of rw' 40 (by simp [pairI, D.ok, D.oks])
      obtain ⟨bs2, rr2⟩ := Dp.reads I _ _ _ dp2 ru'
      have := (PyProof.Rows.reads_det (fun b o e _ => hk b o e) rr2 hR).1
      have ep : p = (p0 :: pr)[i] := pairI_inj this
      subst ep
      exact ⟨w, H, I.kept (t' := tk) hk, ru', .of (.refl _) hr rw' (q _ hp e2)⟩
  · exact q.elim
end
theorem wMaxP_lst {S : Sto} {Q : KD} {a : Addr} {ps : List (Int × Int)} (h : S a = some (.lst (ps.map pairI))) (hn : ps ≠ []) (q : ∀ p ∈ ps, (∀ r ∈ ps, leP r p) → Q (pairI p) S) : wMaxP [.ref a] S Q := by
  show onS (lstOf S (.ref a)) _
  rw [lstOf_ref h]
  exact ⟨ps, rfl, hn, q⟩
end DL

namespace DL
open PySem PySem.Spec PyProof.Rows L2

/-! ### a call looks at a part of the store: the rest stays -/
def inF (S S1 : Sto) (a : Addr) : Prop := S1 a = none ∧ S a ≠ none
noncomputable instance {S S1 : Sto} {a : Addr} : Decidable (inF S S1 a) := Classical.propDecidable _
noncomputable def over (S S1 S' : Sto) : Sto := fun a => if inF S S1 a then S a else S' a
def Sub (S1 S : Sto) : Prop := ∀ a o, S1 a = some o → S a = some o
/-- the promise over a part of the store -/
def frm (sp : DSp) : DSp := fun ds S Q E => ∃ S1, Sub S1 S ∧ sp ds S1 (fun d S' => (∀ a, inF S S1 a → S' a = none) → Q d (over S S1 S')) (fun c fs S' => (∀ a, inF S S1 a → S' a = none) → E c fs (over S S1 S'))
/-- the same, any consequence; what is no more of use may be let go -/
def frmG (sp : DSp) : DSp := fun ds S Q E => ∃ S1 Q0 E0, Sub S1 S ∧ sp ds S1 Q0 E0 ∧ (∀ d S', Q0 d S' → (∀ a, inF S S1 a → S' a = none) → ∃ S2, Sub S2 (over S S1 S') ∧ Q d S2) ∧ ∀ c fs S', E0 c fs S' → (∀ a, inF S S1 a → S' a = none) → ∃ S2, Sub S2 (over S S1 S') ∧ E c fs S2
theorem HR.less {K : KW} {H : Hp} {S S' : Sto} (h : HR K H S') (g : Sub S S') : HR K H S := fun a o e => h a o (g a o e)
section
variable {P : Program} {w : World} {K : PySem.W.Frag} {mg : Str → Option Value} {base : Heap} {S S1 S' : Sto} {H H1' : Hp} {h h2 : Heap}
noncomputable def hideF (S S1 : Sto) (H : Hp) : Hp := fun b => if inF S S1 b then none else H b
noncomputable def backF (S S1 : Sto) (H H1' : Hp) : Hp := fun b => if inF S S1 b then H b else H1' b
theorem hide_in {b : Addr} (z : inF S S1 b) : hideF S S1 H b = none := if_pos z
theorem hide_out {b : Addr} (z : ¬ inF S S1 b) : hideF S S1 H b = H b := if_neg z
theorem back_in {b : Addr} (z : inF S S1 b) : backF S S1 H H1' b = H b := if_pos z
theorem back_out {b : Addr} (z : ¬ inF S S1 b) : backF S S1 H H1' b = H1' b := if_neg z
/-- what the store tells of: a list or a dict -/
def plainO : HO → Bool
  | .lst _ => true | .dK _ => true | .ext _ => true
  | .frz _ (.dK _) => true | .frz _ (.ext _) => true
  | _ => false
theorem inF_obj (hR : HR ⟨K, P, w⟩ H S) {b : Addr} (z : inF S S1 b) : ∃ u, H b = some u ∧ plainO u = true := by
  cases e : S b with
  | none => exact absurd e z.2
  | some o =>
    have := hR b o e
    cases o with
    | lst ds => obtain ⟨vs, q, _⟩ := this; exact ⟨_, q, rfl⟩
    | dct kvs => rcases this with ⟨es, q, _⟩ | ⟨xs, q, _⟩ <;> exact ⟨_, q, rfl⟩
    | fdc o kvs => rcases this with ⟨es, q, _⟩ | ⟨xs, q, _⟩ <;> exact ⟨_, q, rfl⟩
    | set ds => exact this.elim
    | ins C fs => exact this.elim
theorem hide_keep (hR : HR ⟨K, P, w⟩ H S) {b : Addr} {u : HO} (e : H b = some u) (n : plainO u = false) : hideF S S1 H b = some u := by
  rw [hide_out fun z => by
    obtain ⟨u', e', n'⟩ := inF_obj hR z
    rw [e] at e'; cases e'; rw [n] at n'; cases n']
  exact e
theorem hide_none {b : Addr} (e : H b = none) : hideF S S1 H b = none := by
  unfold hideF; split
  · rfl
  · exact e
theorem stays_plain {u : HO} (h : stays u = true) : plainO u = false := by
  cases u with
  | frz o v => cases v <;> first | rfl | (simp [stays] at h; done)
  | _ => first | rfl | (simp [stays] at h; done)
theorem hide_ev (hR : HR ⟨K, P, w⟩ H S) : Ev H (hideF S S1 H) := fun b u e z => hide_keep hR e (stays_plain z)
theorem hide_hr (hR : HR ⟨K, P, w⟩ H S) (sub : Sub S1 S) : HR ⟨K, P, w⟩ (hideF S S1 H) S1 := fun a o e =>
  (hR a o (sub a o e)).ev (hide_ev hR) fun u hu => by rw [hide_out fun z => by rw [z.1] at e; cases e]; exact hu
theorem hide_ok (hR : HR ⟨K, P, w⟩ H S) (ok : HOk P w H h) : HOk P w (hideF S S1 H) h := fun a o e => by
  have n : ¬ inF S S1 a := fun z => by rw [hide_in z] at e; cases e
  rw [hide_out n] at e
  exact (ok a o e).stay (fun _ _ _ q => q) (fun b q => hide_keep hR q rfl) fun b xs q => hide_keep hR q rfl
theorem back_ev (hR : HR ⟨K, P, w⟩ H S) (e1 : Ev (hideF S S1 H) H1') : Ev H (backF S S1 H H1') := fun b u e z => by
  have n : ¬ inF S S1 b := fun q => by
    obtain ⟨u', e', n'⟩ := inF_obj hR q
    rw [e] at e'; cases e'; rw [stays_plain z] at n'; cases n'
  rw [back_out n]
  exact e1 b u (by rw [hide_out n]; exact e) z
theorem back_ev2 (fr : ∀ b, inF S S1 b → H1' b = none) : Ev H1' (backF S S1 H H1') := fun b u e z => by
  rw [back_out fun q => by rw [fr b q] at e; cases e]; exact e
theorem back_ok (hR : HR ⟨K, P, w⟩ H S) (ok : HOk P w H h) (ok2 : HOk P w H1' h2) (fr : ∀ b, inF S S1 b → H1' b = none) (kp : ∀ b o, inF S S1 b → h.get? b = some o → h2.get? b = some o) : HOk P w (backF S S1 H H1') h2 := fun a o e => by
  by_cases z : inF S S1 a
  · rw [back_in z] at e
    obtain ⟨u, e', n⟩ := inF_obj hR z
    rw [e] at e'; cases e'
    have x := ok a o e
    cases o with
    | lst xs => obtain ⟨y, its, n, r, e⟩ := x; exact ⟨y, its, n, r, kp _ _ z e⟩
    | dK kvs => obtain ⟨y1, y, vs, r, ob, es, ep, e, c⟩ := x; exact ⟨y1, y, vs, r, ob, es, ep, kp _ _ z e, c⟩
    | ext φ => obtain ⟨p, ⟨o, e⟩, st⟩ := x; exact ⟨st _ _ p fun o q => kp _ _ z q, ⟨o, kp _ _ z e⟩, st⟩
    | frz ob u =>
      cases u with
      | dK kvs => obtain ⟨e0, y1, y, vs, r, ob, es, ep, e, c⟩ := x; exact ⟨kp _ _ z e0, y1, y, vs, r, ob, es, ep, kp _ _ z e, c⟩
      | ext φ => obtain ⟨e0, p, ⟨o, e⟩, st⟩ := x; exact ⟨kp _ _ z e0, st _ _ p fun o q => kp _ _ z q, ⟨o, kp _ _ z e⟩, st⟩
      | _ => simp [plainO] at n
    | _ => simp [plainO] at n
  · rw [back_out z] at e
    exact (ok2 a o e).stay (fun _ _ _ q => q) (fun b q => by rw [back_out fun y => by rw [fr b y] at q; cases q]; exact q) fun b xs q => by rw [back_out fun y => by rw [fr b y] at q; cases q]; exact q
theorem back_free (hR1 : HR ⟨K, P, w⟩ H1' S') (fr : ∀ b, inF S S1 b → H1' b = none) : ∀ a, inF S S1 a → S' a = none := fun a z => hR1.free (fr a z)
theorem back_hr (hR : HR ⟨K, P, w⟩ H S) (hR1 : HR ⟨K, P, w⟩ H1' S') (e1 : Ev (hideF S S1 H) H1') (fr : ∀ b, inF S S1 b → H1' b = none) : HR ⟨K, P, w⟩ (backF S S1 H H1') (over S S1 S') := fun a o e => by
  by_cases z : inF S S1 a
  · unfold over at e; rw [if_pos z] at e
    exact (hR a o e).ev (back_ev hR e1) fun u hu => by rw [back_in z]; exact hu
  · unfold over at e; rw [if_neg z] at e
    exact (hR1 a o e).ev (back_ev2 fr) fun u hu => by rw [back_out z]; exact hu
theorem FnD.frameG {k : Nat} {f : Addr} {fd : FuncData} {ps : List Str} {sp : DSp} (F : FnD P w K mg base k f fd ps sp) : FnD P w K mg base k f fd ps (frmG sp) := by
  refine ⟨fun ds S Q E ⟨S1, _, _, _, q, _⟩ => F.len _ _ _ _ q, fun A outer s H args us vs ds S Q E hr hg e0 hb hv hd hR ⟨S1, Q0, E0, sub, hsp, hQ, hE⟩ => ?_⟩
  have e01 : Env0 P w K mg base A outer s (hideF S S1 H) := ⟨e0.frames, e0.mod, fun b o e => ⟨(e0.bs b o e).1, hide_none (e0.bs b o e).2⟩, e0.bsz, e0.funs, fun b hb => hide_none (e0.frf b hb), hide_ok hR e0.hok, e0.bare⟩
  have nfr : ∀ b, inF S S1 b → b ∉ frs outer := fun b z hm => by
    obtain ⟨u, e, _⟩ := inF_obj hR z
    rw [e0.frf b hm] at e; cases e
  have got : ∀ b, inF S S1 b → ∃ o, s.heap.get? b = some o := fun b z => by
    obtain ⟨u, e, n⟩ := inF_obj hR z
    have x := e0.hok b u e
    cases u with
    | lst xs => obtain ⟨y, its, n, r, e⟩ := x; exact ⟨_, e⟩
    | dK kvs => obtain ⟨y1, y, vs, r, ob, es, ep, e, c⟩ := x; exact ⟨_, e⟩
    | ext φ => obtain ⟨p, ⟨o, e⟩, st⟩ := x; exact ⟨_, e⟩
    | frz ob u => exact ⟨_, x.1⟩
    | _ => simp [plainO] at n
  refine codeAny_mono (F.run A outer s (hideF S S1 H) args us vs ds S1 _ _ hr hg e01 hb hv (hd.ev (hide_ev hR)) (hide_hr hR sub) hsp) fun r s' z => ?_
  cases r with
  | error e =>
    obtain ⟨a, B, H1', cls, d, rfl, fly, ok2, ub, na, os, bare, ev, fs, S', hR', hd', q⟩ := (show CX P w outer (hideF S S1 H) s _ e s' from z)
    have fr : ∀ b, inF S S1 b → H1' b = none := fun b z => by
      obtain ⟨o, e⟩ := got b z
      exact ub.free b o e (hide_in z)
    have kp : ∀ b o, inF S S1 b → s.heap.get? b = some o → B.get? b = some o := fun b o z e => ub.keep b o e (hide_in z) (nfr b z)
    have nb : ∀ b, (∀ u, plainO u = true → H b ≠ some u) → ¬ inF S S1 b := fun b h z => by
      obtain ⟨u, e, n⟩ := inF_obj hR z; exact h u n e
    obtain ⟨S2, sub2, q2⟩ := hE _ _ _ q (back_free hR' fr)
    refine (show CX P w outer H s _ _ s' from ⟨a, B, backF S S1 H H1', cls, d, rfl, fly, back_ok hR e0.hok ok2 fr kp, ⟨?_, ub.slot, ?_, ub.there, ?_, ?_, ?_⟩, ?_, os, bare, back_ev hR ev, fs, S2, (back_hr hR hR' ev fr).less sub2, ?_, q2⟩)
    · exact fun b o e n hm => ub.keep b o e (hide_none n) hm
    · intro b o e n
      rw [back_out (fun z => by obtain ⟨u, e', _⟩ := inF_obj hR z; rw [n] at e'; cases e')]
      exact ub.free b o e (hide_none n)
    · intro b xs e
      have n := nb b fun u hu e' => by rw [e] at e'; cases e'; cases hu
      rw [back_out n]
      exact ub.tups b xs (by rw [hide_out n]; exact e)
    · intro b o xs e
      by_cases n : inF S S1 b
      · rw [back_in n]; exact e
      · rw [back_out n]
        exact ub.frzs b o xs (by rw [hide_out n]; exact e)
    · intro b ps e
      have n := nb b fun u hu e' => by rw [e] at e'; cases e'; cases hu
      obtain ⟨more, e2⟩ := ub.tbls b ps (by rw [hide_out n]; exact e)
      exact ⟨more, by rw [back_out n]; exact e2⟩
    · by_cases n : inF S S1 a
      · exfalso
        obtain ⟨o, e⟩ := got a n
        have e2 := kp a o n e
        rw [fly.2.1] at e2; cases e2
      · rw [back_out n]; exact na
    · rcases hd' with h | ⟨dd, ws, h1, h2, h3⟩
      · exact .inl h
      · exact .inr ⟨dd, ws, h1, (by rw [back_out fun z => by rw [fr dd z] at h2; cases h2]; exact h2), h3.ev (back_ev2 fr)⟩
  | ok fl =>
    cases fl with
    | next => exact z.elim
    | brk => exact z.elim
    | cont => exact z.elim
    | ret u =>
      obtain ⟨v, H1', os, bare, un, ok2, rv, ev, d, S', hR', rd, q⟩ := (show CE outer P w (hideF S S1 H) s _ u s' from z)
      have fr : ∀ b, inF S S1 b → H1' b = none := fun b z => by
        obtain ⟨o, e⟩ := got b z
        exact un.free b o e (hide_in z) (fun q => nomatch q)
      have kp : ∀ b o, inF S S1 b → s.heap.get? b = some o → s'.heap.get? b = some o := fun b o z e => un.keep b o e (hide_in z) (nfr b z) (fun q => nomatch q)
      have nb : ∀ b, (∀ u, plainO u = true → H b ≠ some u) → ¬ inF S S1 b := fun b h z => by
        obtain ⟨u, e, n⟩ := inF_obj hR z; exact h u n e
      obtain ⟨S2, sub2, q2⟩ := hQ _ _ q (back_free hR' fr)
      refine (show CE outer P w H s _ u s' from ⟨v, backF S S1 H H1', os, bare, ⟨?_, ?_, ?_, un.there, ?_, ?_, ?_⟩, back_ok hR e0.hok ok2 fr kp, rv, back_ev hR ev, d, S2, (back_hr hR hR' ev fr).less sub2, rd.ev (back_ev2 fr), q2⟩)
      · exact fun b o e n h1 h2 => un.keep b o e (hide_none n) h1 h2
      · exact fun b o e n h1 h2 => un.slot b o e (hide_none n) h1 h2
      · intro b o e n h
        rw [back_out (fun z => by obtain ⟨u, e', _⟩ := inF_obj hR z; rw [n] at e'; cases e')]
        exact un.free b o e (hide_none n) h
      · intro b xs e
        have n := nb b fun u hu e' => by rw [e] at e'; cases e'; cases hu
        rw [back_out n]
        exact un.tups b xs (by rw [hide_out n]; exact e)
      · intro b o xs e
        by_cases n : inF S S1 b
        · rw [back_in n]; exact e
        · rw [back_out n]
          exact un.frzs b o xs (by rw [hide_out n]; exact e)
      · intro b ps e
        have n := nb b fun u hu e' => by rw [e] at e'; cases e'; cases hu
        obtain ⟨more, e2⟩ := un.tbls b ps (by rw [hide_out n]; exact e)
        exact ⟨more, by rw [back_out n]; exact e2⟩
theorem FnD.frame {k : Nat} {f : Addr} {fd : FuncData} {ps : List Str} {sp : DSp} (F : FnD P w K mg base k f fd ps sp) : FnD P w K mg base k f fd ps (frm sp) :=
  F.frameG.imp fun ds S Q E ⟨S1, sub, h⟩ => ⟨S1, _, _, sub, h, fun d S' q n => ⟨_, fun _ _ z => z, q n⟩, fun c fs S' q n => ⟨_, fun _ _ z => z, q n⟩⟩
/-- a call that needs nothing of the store leaves it as it was -/
def pur (sp : DSp) : DSp := fun ds S Q E => sp ds (fun _ => none) (fun d _ => Q d S) (fun c fs _ => E c fs S)
theorem over_all {a : Addr} {o : AO} (h : S a = some o) : over S (fun _ => none) S' a = some o := by
  unfold over; rw [if_pos ⟨rfl, by rw [h]; simp⟩, h]
theorem FnD.pure {k : Nat} {f : Addr} {fd : FuncData} {ps : List Str} {sp : DSp} (F : FnD P w K mg base k f fd ps sp) : FnD P w K mg base k f fd ps (pur sp) :=
  F.frameG.imp fun ds S Q E h => ⟨fun _ => none, _, _, (fun _ _ z => by cases z), h, fun d S' q _ => ⟨S, fun _ _ z => over_all z, q⟩, fun c fs S' q _ => ⟨S, fun _ _ z => over_all z, q⟩⟩
end
end DL

namespace DL
open PySem PySem.Spec PyProof.Rows L2

section
variable {P : Program} {w : World} {K : PySem.W.Frag} {mg : Str → Option Value} {base : Heap} {k : Nat} {x : Str} {sp : DSp} {dds : List D}
theorem CalD.frame (C : CalD P w K mg base k x sp dds) : CalD P w K mg base k x (frm sp) dds :=
  let ⟨f, fd, ps, dfl, a, b⟩ := C.ex; ⟨f, fd, ps, dfl, a.frame, b⟩
theorem CalK.frame {ks : List Str} {g : List D → List D → List D} (C : CalK P w K mg base k x sp ks g) : CalK P w K mg base k x (frm sp) ks g :=
  let ⟨f, fd, ps, g, gV, a, b⟩ := C.ex; ⟨f, fd, ps, g, gV, a.frame, b⟩
theorem CalD.pure (C : CalD P w K mg base k x sp dds) : CalD P w K mg base k x (pur sp) dds :=
  let ⟨f, fd, ps, dfl, a, b⟩ := C.ex; ⟨f, fd, ps, dfl, a.pure, b⟩
theorem CalK.pure {ks : List Str} {g : List D → List D → List D} (C : CalK P w K mg base k x sp ks g) : CalK P w K mg base k x (pur sp) ks g :=
  let ⟨f, fd, ps, g, gV, a, b⟩ := C.ex; ⟨f, fd, ps, g, gV, a.pure, b⟩
end
theorem CalD.no {P : Program} {w : World} {K : PySem.W.Frag} {mg : Str → Option Value} {base : Heap} {k : Nat} {x : Str} {st : Stmt} {f : Addr} {fd : FuncData} {ps : List Str} (F : Fun K x x st f fd) (hm : mg x = some (.ref f)) (hb : Binds K fd ps []) : CalD P w K mg base k x (fun _ _ _ _ => False) [] :=
  ⟨f, fd, ps, [], ⟨fun _ _ _ _ h => h.elim, fun _ _ _ _ _ _ _ _ _ _ _ _ _ _ _ _ _ _ h => h.elim⟩, hm, F.kp, hb, .nil⟩
abbrev nilS : Sto := fun _ => none
section
variable {S S1 S' : Sto} {a : Addr} {o : AO}
theorem over_nil (h : S a = some o) : over S nilS S' a = some o := by
  unfold over; rw [if_pos ⟨rfl, by rw [h]; simp⟩, h]
theorem over_grow : Grow S (over S nilS S') := fun _ _ h => over_nil h
theorem over_new (h : S a = none) : over S S1 S' a = S' a := by
  unfold over; rw [if_neg fun z => z.2 h]
/-- the part of the store at these places -/
def only (S : Sto) (as : List Addr) : Sto := fun a => if a ∈ as then S a else none
theorem only_sub {as : List Addr} : Sub (only S as) S := fun a o h => by
  unfold only at h; split at h
  · exact h
  · cases h
theorem only_in {as : List Addr} (h : a ∈ as) : only S as a = S a := if_pos h
theorem over_out {as : List Addr} (h : a ∈ as) : over S (only S as) S' a = S' a := by
  unfold over; rw [if_neg fun z => z.2 (by have := z.1; rwa [only_in h] at this)]
theorem over_keep {as : List Addr} (h : a ∉ as) (e : S a = some o) : over S (only S as) S' a = some o := by
  unfold over; rw [if_pos ⟨if_neg h, by rw [e]; simp⟩, e]
theorem frm_pure {sp : DSp} {ds : List D} {Q : KD} {E : KX} (h : sp ds nilS (fun d S' => (∀ a, inF S nilS a → S' a = none) → Q d (over S nilS S')) (fun c fs S' => (∀ a, inF S nilS a → S' a = none) → E c fs (over S nilS S'))) : frm sp ds S Q E :=
  ⟨nilS, (fun _ _ z => by cases z), h⟩
theorem frm_at {sp : DSp} {ds : List D} {Q : KD} {E : KX} (as : List Addr) (h : sp ds (only S as) (fun d S' => (∀ a, inF S (only S as) a → S' a = none) → Q d (over S (only S as) S')) (fun c fs S' => (∀ a, inF S (only S as) a → S' a = none) → E c fs (over S (only S as) S'))) : frm sp ds S Q E :=
  ⟨only S as, only_sub, h⟩
@[simp] theorem pur_eq {sp : DSp} {S : Sto} {ds : List D} {Q : KD} {E : KX} : pur sp ds S Q E = sp ds nilS (fun d _ => Q d S) (fun c fs _ => E c fs S) := rfl
end
end DL

namespace DL
open PySem PySem.Spec PyProof.Rows L2

/-! ### lists that change no more: read only from here on -/
def del (S : Sto) (a : Addr) : Sto := fun b => if b = a then none else S b
theorem del_put {S : Sto} {p : Addr} {o : AO} (h : S p = none) : del (put S p o) p = S := by
  funext b; unfold del put; split
  · rename_i e; rw [e, h]
  · rfl
theorem del_ne {S : Sto} {a b : Addr} (h : b ≠ a) : del S a b = S b := if_neg h
@[simp] theorem onL_put {S : Sto} {p : Addr} {ds : List D} {k : List D → Prop} : onL (put S p (.lst ds)) p k = k ds := by rw [onL_eq put_same]
def frzK (Q : KD) : KD := fun d S => match d with | .ref a => onL S a fun ds => Q (.fz ds) (del S a) | _ => False
@[simp] theorem frzK_ref {Q : KD} {a : Addr} {S : Sto} : frzK Q (.ref a) S = onL S a fun ds => Q (.fz ds) (del S a) := rfl
def dFrz (t : DTE) : DTE := fun τ S Q => t τ S (frzK Q)
@[simp] theorem dFrz_eq {t : DTE} {τ : DSt} {S : Sto} {Q : KD} : dFrz t τ S Q = t τ S (frzK Q) := rfl
section
variable {X : Cx} {pos : Pos} {e : Expr} {t : DTE}
theorem frz_hr {K : KW} {H : Hp} {S : Sto} {a : Addr} {vs : List V} {od : Obj} (hr : HR K H S) (h1 : H a = some (.lst vs)) : HR K (upd H a (.frz od (.lst vs))) (del S a) := fun b o e => by
  have n : b ≠ a := fun z => by subst z; unfold del at e; rw [if_pos rfl] at e; cases e
  rw [del_ne n] at e
  exact (hr b o e).ev (.upd h1 rfl) fun u hu => by rw [upd_ne n]; exact hu
theorem de_frz (h : DE X e t) : DE X e (dFrz t) := ⟨fun pins s σ H τ S Q I st hr q => thn (h.run pins s σ H τ S _ I st hr q) fun u s' ⟨v, H', I', rv, ev, d, S', hr', rd, q'⟩ => by
  cases d with
  | ref a =>
    obtain ⟨ds, e1, q2⟩ := onL.out (show onL S' a _ from q')
    obtain ⟨vs, h1, r⟩ := hr' a _ e1
    have := relD_ref rd; subst this
    obtain ⟨od, I2⟩ := I'.lock h1 trivial
    exact ⟨.ref a, _, I2, rv, ev.trans (.upd h1 rfl), .fz ds, del S' a, frz_hr hr' h1, .fz (.inl ⟨od, upd_same⟩) (r.ev (.upd h1 rfl)), q2⟩
  | _ => exact (show False from q').elim⟩
def dFLst (t : DTA) : DTE := fun τ S Q => t τ S fun ds S1 => ds.length ≤ sizeLine ∧ Q (.fz ds) S1
@[simp] theorem dFLst_eq {t : DTA} {τ : DSt} {S : Sto} {Q : KD} : dFLst t τ S Q = t τ S fun ds S1 => ds.length ≤ sizeLine ∧ Q (.fz ds) S1 := rfl
theorem upd_upd {H : Hp} {p : Addr} {o u : HO} : upd (upd H p o) p u = upd H p u := by
  funext b; by_cases h : b = p
  · subst h; rw [upd_same, upd_same]
  · rw [upd_ne h, upd_ne h, upd_ne h]
theorem de_flst {es : List Expr} {tr : DTA} (h : DAr X es tr) : DE X (.List es pos) (dFLst tr) := ⟨fun pins s σ H τ S Q I st hr q => by
  refine thn ((pe_lst h.lo).run pins s σ H (fun v H' => ∃ p vs ds S1 H1, v = .ref p ∧ H' = upd H1 p (.lst vs) ∧ H1 p = none ∧ Ev H H1 ∧ HR X.KW H1 S1 ∧ RelDs X.KW H1 vs ds ∧ Q (.fz ds) S1) I
    ⟨τ, S, _, st, hr, q, fun vs H1 ⟨e, ds, S1, hr1, r1, z, q1⟩ => ⟨by rw [r1.length]; exact z, fun p n => ⟨p, vs, ds, S1, H1, rfl, rfl, n, e, hr1, r1, q1⟩⟩⟩) fun u s' ⟨v, H', I', rv, p, vs, ds, S1, H1, ev, eH, n, e1, hr1, r1, q1⟩ => ?_
  subst ev; subst eH
  obtain ⟨od, I2⟩ := I'.lock (upd_same (H := H1) (a := p) (o := .lst vs)) trivial
  rw [upd_upd] at I2
  exact ⟨.ref p, _, I2, rv, e1.trans (.new n), .fz ds, S1, hr1.new n, .fz (.inl ⟨od, upd_same⟩) (r1.ev (.new n)), q1⟩⟩
end
end DL

namespace DL
open PySem PySem.Spec PyProof.Rows L2 RZ

/-! ### zip of two tuples, of two lists -/
def zipD (a b : List D) : List D := List.zipWith (fun x y => D.wt [x, y]) a b
def diZip (ta : DTA) : DTI := fun τ S R => ta τ S fun ds S1 => match ds with
  | [.tup a, .tup b] => R (zipD a b) (fun _ => True) S1
  | [.fz a, .fz b] => R (zipD a b) (fun _ => True) S1
  | [.ref p, .ref q] => onL S1 p fun a => onL S1 q fun b => R (zipD a b) (fun S' => S' p = some (.lst a) ∧ S' q = some (.lst b)) S1
  | _ => False
theorem zipD_get {a b : List D} {i : Nat} {x y : D} (hx : a[i]? = some x) (hy : b[i]? = some y) : (zipD a b)[i]? = some (.wt [x, y]) := by
  unfold zipD; rw [List.getElem?_zipWith, hx, hy]
theorem zipD_len (a b : List D) : (zipD a b).length = min a.length b.length := by simp [zipD]
section
variable {X : Cx} {K : KW} {H : Hp}
theorem zip_yld {T : Addr} {i : Nat} {x y : V} {dx dy : D} {a b : List D} (hn : H T = none) (hx : a[i]? = some dx) (hy : b[i]? = some dy) (rx : RelD K H x dx) (ry : RelD K H y dy) :
    Ev H (upd H T (.tup [x, y])) ∧ (∀ S, HR K H S → HR K (upd H T (.tup [x, y])) S) ∧ ∃ d, (zipD a b)[i]? = some d ∧ RelD K (upd H T (.tup [x, y])) (.ref T) d :=
  ⟨.new hn, fun S h => h.new hn, _, zipD_get hx hy, .wt upd_same (.cons (rx.ev (.new hn)) (.cons (ry.ev (.new hn)) .nil))⟩
theorem it_of {α : Type} {l : List α} {i : Nat} (h : i < l.length) : l[i]? = some l[i] := List.getElem?_eq_getElem h
theorem di_zip {e e2 : Expr} {ta : DTA} {p pos tpos : Pos} {elts : List Expr} {kk : Nat} (hg : Gl X "zip") (hm : X.mg "zip" = none) (ha : DAr X [e, e2] ta)
    (hs : starEach [e, e2] X.env = (false, eval e X.env) :: starEach [e2] X.env := by rfl) (hpl : (backTo pos (starEach [e2] X.env)).any (·.1) = false := by rfl) :
    DI X (.Tuple elts kk tpos) (.Call (.Name "zip" p) [e, e2] [] pos) (diZip ta) :=
  .up (pi_zipA hg hm ha.lo hs hpl) fun σ H τ S Rd st hr q => ⟨τ, S, _, st, hr, q, fun vs H1 ⟨e1, ds, S1, hr1, rd, q1⟩ => by
    simp only at q1
    split at q1
    · rename_i a b
      obtain ⟨v, w, rfl, r1, r2⟩ := rd.two
      cases r1 with
      | tup t1 s1 => cases r2 with
        | tup t2 s2 =>
          refine ⟨_, _, _, _, rfl, .inr ⟨t1.sq, t2.sq, _, _, S1, e1, hr1, q1, fun i H' ⟨ev, _, hi⟩ => ?_, fun i H' x H2 ⟨ev, _, hi⟩ y => ?_, fun i H' ⟨ev, _, hi⟩ => ?_⟩⟩
          · rw [zipD_len] at hi
            have l1 := s1.length; have l2 := s2.length
            exact ⟨_, _, _, _, (t1.ev ev).sq, (t2.ev ev).sq, it_of (by omega), it_of (by omega)⟩
          · rw [zipD_len] at hi
            obtain ⟨T, x, y, rfl, hn, rfl, h1, h2⟩ := y
            obtain ⟨dx, z1, z2⟩ := (s1.ev ev).getV (h1 _ (t1.ev ev).sq)
            obtain ⟨dy, z3, z4⟩ := (s2.ev ev).getV (h2 _ (t2.ev ev).sq)
            exact zip_yld hn z1 z3 z2 z4
          · rw [zipD_len] at hi
            have l1 := s1.length; have l2 := s2.length
            exact ⟨_, _, (t1.ev ev).sq, (t2.ev ev).sq, by omega⟩
    · rename_i a b
      obtain ⟨v, w, rfl, r1, r2⟩ := rd.two
      cases r1 with
      | fz t1 s1 => cases r2 with
        | fz t2 s2 =>
          refine ⟨_, _, _, _, rfl, .inl ⟨t1.sq, t2.sq, _, _, S1, e1, hr1, q1, fun i H' ⟨ev, _, hi⟩ => ?_, fun i H' x H2 ⟨ev, _, hi⟩ y => ?_, fun i H' ⟨ev, _, hi⟩ => ?_⟩⟩
          · rw [zipD_len] at hi
            have l1 := s1.length; have l2 := s2.length
            exact ⟨_, _, _, _, (t1.ev ev).sq, (t2.ev ev).sq, it_of (by omega), it_of (by omega)⟩
          · rw [zipD_len] at hi
            obtain ⟨T, x, y, rfl, hn, rfl, h1, h2⟩ := y
            obtain ⟨dx, z1, z2⟩ := (s1.ev ev).getV (h1 _ (t1.ev ev).sq)
            obtain ⟨dy, z3, z4⟩ := (s2.ev ev).getV (h2 _ (t2.ev ev).sq)
            exact zip_yld hn z1 z3 z2 z4
          · rw [zipD_len] at hi
            have l1 := s1.length; have l2 := s2.length
            exact ⟨_, _, (t1.ev ev).sq, (t2.ev ev).sq, by omega⟩
    · rename_i a b
      obtain ⟨v, w, rfl, r1, r2⟩ := rd.two
      cases relD_ref r1
      cases relD_ref r2
      obtain ⟨as, g1, q1⟩ := onL.out q1
      obtain ⟨bs, g2, q1⟩ := onL.out q1
      obtain ⟨va, h1, s1⟩ := hr1 _ _ g1
      obtain ⟨vb, h2, s2⟩ := hr1 _ _ g2
      refine ⟨_, _, _, _, rfl, .inl ⟨.of h1, .of h2, _, _, S1, e1, hr1, q1, fun i H' ⟨ev, ⟨S2, hr2, k1, k2⟩, hi⟩ => ?_, fun i H' x H2 ⟨ev, ⟨S2, hr2, k1, k2⟩, hi⟩ y => ?_, fun i H' ⟨ev, ⟨S2, hr2, k1, k2⟩, hi⟩ => ?_⟩⟩
      · rw [zipD_len] at hi
        obtain ⟨va, h1, s1⟩ := hr2 _ _ k1
        obtain ⟨vb, h2, s2⟩ := hr2 _ _ k2
        have l1 := s1.length; have l2 := s2.length
        exact ⟨_, _, _, _, .of h1, .of h2, it_of (by omega), it_of (by omega)⟩
      · obtain ⟨va, g1, s1⟩ := hr2 _ _ k1
        obtain ⟨vb, g2, s2⟩ := hr2 _ _ k2
        obtain ⟨T, x, y, rfl, hn, rfl, h1, h2⟩ := y
        obtain ⟨dx, z1, z2⟩ := s1.getV (h1 _ (.of g1))
        obtain ⟨dy, z3, z4⟩ := s2.getV (h2 _ (.of g2))
        exact zip_yld hn z1 z3 z2 z4
      · rw [zipD_len] at hi
        obtain ⟨va, h1, s1⟩ := hr2 _ _ k1
        obtain ⟨vb, h2, s2⟩ := hr2 _ _ k2
        have l1 := s1.length; have l2 := s2.length
        exact ⟨_, _, .of h1, .of h2, by omega⟩
    · exact q1.elim⟩
@[simp] theorem diZip_eq {ta : DTA} {τ : DSt} {S : Sto} {R : List D → (Sto → Prop) → Sto → Prop} : diZip ta τ S R = ta τ S fun ds S1 => match ds with
  | [.tup a, .tup b] => R (zipD a b) (fun _ => True) S1
  | [.fz a, .fz b] => R (zipD a b) (fun _ => True) S1
  | [.ref p, .ref q] => onL S1 p fun a => onL S1 q fun b => R (zipD a b) (fun S' => S' p = some (.lst a) ∧ S' q = some (.lst b)) S1
  | _ => False := rfl
end
end DL

namespace HT
open PySem PySem.Spec PyProof.Rows
section
variable {prog : Program} {w : World} {A : Around} {E : Value → Shared → Prop} {s : Shared}
theorem adjust_rev (n : Nat) : Builtin.Slice.sliceAdjust none none (-1) (n : Int) = ((n : Int) - 1, -1) := by
  have h1 : ((-1 : Int) < 0) := by omega
  unfold Builtin.Slice.sliceAdjust
  simp [h1]
theorem places_rev (n : Nat) : Builtin.Slice.slicePlaces ((n : Int) - 1) (-1) (-1) = n := by
  unfold Builtin.Slice.slicePlaces
  simp
  omega
theorem sliceApplied_rev {sl : Addr} {vk : Value} {n : Nat} {Q : Int × Int × Nat → Shared → Prop} (hs : ∃ o, s.heap.get? sl = some o ∧ o.cls = .type "slice" ∧ o.data = .fields #[.none, .none, vk]) (pk : IsPart vk (some (-1)))
    (h : Q ((n : Int) - 1, -1, n) s) : wpAny (model prog w) A (Builtin.Slice.sliceApplied (.ref sl) (pure (n : Int))) Q E s := by
  obtain ⟨os, hos, hcs, hds⟩ := id hs
  unfold Builtin.Slice.sliceApplied Builtin.Slice.sliceFields
  refine wpAny_bind (wpAny_bind (wpAny_field hos hds (x := .none) rfl (wpAny_bind (wpAny_field hos hds (x := .none) rfl (wpAny_bind (wpAny_field hos hds (x := vk) rfl (wpAny_pure ?_)))))))
  refine wpAny_bind (slicePart_ pk ?_)
  show wpAny _ _ (if ((-1 : Int) == 0) = true then _ else _) _ _ s
  rw [if_neg (by decide)]
  refine wpAny_bind (slicePart_none (wpAny_bind (slicePart_none (wpAny_bind (wpAny_pure ?_)))))
  show wpAny _ _ (match Builtin.Slice.sliceAdjust none none (-1) (n : Int) with | (lo, hi) => pure (lo, (-1 : Int), Builtin.Slice.slicePlaces lo hi (-1))) _ _ s
  rw [adjust_rev n]
  show wpAny _ _ (pure ((n : Int) - 1, (-1 : Int), Builtin.Slice.slicePlaces ((n : Int) - 1) (-1) (-1))) _ _ s
  rw [places_rev]
  exact wpAny_pure h
theorem pick_rev (xs : Array Value) : ((List.range xs.size).filterMap fun (m : Nat) => xs[((xs.size : Int) - 1 + (m : Int) * (-1)).toNat]?).toArray = xs.toList.reverse.toArray := by
  have e : (fun (m : Nat) => xs[((xs.size : Int) - 1 + (m : Int) * (-1)).toNat]?) = fun m => xs[xs.size - 1 - m]? := by
    funext m
    have : ((xs.size : Int) - 1 + (m : Int) * (-1)).toNat = xs.size - 1 - m := by omega
    rw [this]
  rw [e]
  have h1 := PySem.W.krv_range xs.size
  have h2 : ((List.range xs.size).filterMap fun m => xs[xs.size - 1 - m]?) = ((List.range xs.size).map fun k => xs.size - 1 - k).filterMap (xs[·]?) := by
    rw [List.filterMap_map]; rfl
  rw [h2, h1, List.filterMap_reverse, PySem.W.krv_all]
theorem getItem_tuple_rev {t sl : Addr} {items : Array Value} {vk : Value} {Q : Value → Shared → Prop} (ht : IsTup s.heap t items) (hs : ∃ o, s.heap.get? sl = some o ∧ o.cls = .type "slice" ∧ o.data = .fields #[.none, .none, vk]) (pk : IsPart vk (some (-1)))
    (h : Q (.ref s.heap.objs.size) { s with heap := s.heap.push { cls := .type "tuple", data := .seq items.toList.reverse.toArray } })
    (hsz : items.size ≤ sizeLine) : wpAny (model prog w) A (getItem (.ref t) (.ref sl)) Q E s := by
  have htake : sizeOk (.seq items.toList.reverse.toArray) := by
    show items.toList.reverse.toArray.size ≤ sizeLine
    rw [List.size_toArray, List.length_reverse, Array.length_toList]
    exact hsz
  obtain ⟨os, hos, hcs, hds⟩ := id hs
  have hTs : s.TypeIs (.ref sl) "slice" := ⟨os, hos, hcs⟩
  unfold getItem
  try with_reducible refine wpAny_holding ?_
  first | refine wpAny_bind (wpAny_pure ?_) | skip
  refine wpAny_bind (wpAny_sequenceKey ht.typeIs (by decide) ?_)
  refine wpAny_bind (wpAny_callSpecial?_slot (name := Str.ofString "__getitem__") ht.typeIs PyProof.Rows.slot_tuple_getitem
    (wpAny_call_entry PyProof.Rows.slot_tuple_getitem ht.typeIs entry_tuple_getitem ?_ (args_tuple_getitem _ _)))
  show wpAny _ _ (Builtin.Tuple.tupleItemsOf (.ref t) >>= _) _ _ s
  refine wpAny_bind (tupleItemsOf_ ht ?_)
  refine wpAny_bind (wpAny_typeOf hTs ?_)
  rw [if_pos (by decide)]
  refine wpAny_bind (sliceApplied_rev (n := items.size) hs pk ?_)
  have hno : ¬ ((((items.size : Int) - 1) == 0 && (-1 : Int) == 1 && items.size == items.size) = true) := by
    intro q
    rw [Bool.and_eq_true, Bool.and_eq_true] at q
    exact absurd q.1.2 (by decide)
  show wpAny _ _ (if (((items.size : Int) - 1) == 0 && (-1 : Int) == 1 && items.size == items.size) = true then _ else _) _ _ s
  rw [if_neg hno, pick_rev]
  first
    | exact wpAny_bind (m := Builtin.Tuple.tupleExact _) (wpAny_newObj_type (wpAny_pure ⟨_, rfl, wpAny_pure h⟩) htake)
    | exact wpAny_bind (m := Builtin.Tuple.tupleExact _) (wpAny_newObj_type (wpAny_bind (wpAny_pure (wpAny_pure ⟨_, rfl, wpAny_pure h⟩))) htake)
    | exact wpAny_bind (wpAny_bind (m := Builtin.Tuple.tupleExact _) (wpAny_newObj_type (wpAny_pure (wpAny_pure ⟨_, rfl, wpAny_pure h⟩)) htake))
    | exact wpAny_bind (wpAny_bind (m := Builtin.Tuple.tupleExact _) (wpAny_newObj_type (wpAny_pure ⟨_, rfl, wpAny_pure h⟩) htake))
end
end HT
namespace DL
open PySem PySem.Spec PyProof.Rows L2
/-! ### t[::-1] of a tuple -/
def dRev (te : DTE) : DTE := fun τ S Q => te τ S fun d S1 => match d with | .tup ds => Q (.tup ds.reverse) S1 | _ => False
theorem RelDs.reverse {K : KW} {H : Hp} : ∀ {vs : List V} {ds : List D}, RelDs K H vs ds → RelDs K H vs.reverse ds.reverse
  | _, _, .nil => .nil
  | _, _, .cons r t => by rw [List.reverse_cons, List.reverse_cons]; exact (RelDs.reverse t).append (.cons r .nil)
theorem vals_reverse : ∀ {vs : List V} {us : List Value}, Vals vs us → Vals vs.reverse us.reverse
  | _, _, .nil => .nil
  | _, _, .cons r t => by rw [List.reverse_cons, List.reverse_cons]; exact (vals_reverse t).append (.cons r .nil)
section
variable {X : Cx} {pos : Pos}
theorem de_rev {e : Expr} {te : DTE} {p2 q1 q2 : Pos} {k : Nat} (he : DE X e te) : DE X (.Subscript e (.Slice none none (some (.UnaryOp .USub (.Constant (.int 1) k q1) q2)) p2) pos) (dRev te) := ⟨fun pins s σ H τ S Q I st hr q => by
  refine Subscript_ (thn (he.run pins s σ H τ S _ I st hr q) fun v s1 ⟨x, H1, I1, r1, e1, d, S1, hr1, rd, q1'⟩ => ?_)
  refine wpAny_Slice ?_
  rw [evalPart_none]
  refine wpAny_pure (wpAny_pure ?_)
  cases d with
  | tup ds =>
    cases rd with
    | @tup a vs _ t r =>
      cases r1
      refine thn ((po_some (de_un (X := X) (a := .Constant (.int 1) k q1) (pos := q2) dun_neg de_int).lo).run pins s1 σ H1 (fun o H' => o = some (-1) ∧ Ev H1 H' ∧ HR X.KW H' S1) I1
        ⟨τ, S1, fun d S' => d = .int (-1) ∧ S' = S1, st.ev e1, hr1, ⟨rfl, rfl⟩, fun v' H' ⟨ev, d', S', hr', rd', ed, eS⟩ => by
          subst ed; subst eS; cases rd'; exact ⟨_, rfl, rfl, ev, hr'⟩⟩) fun vk s3 ⟨o, H3, I3, pk, eo, ev3, hr3⟩ => ?_
      subst eo
      have I4 : Inv X pins σ H3 { s3 with heap := s3.heap.push { cls := .type "slice", data := .fields #[.none, .none, vk] } } := I3.kept (t' := s3.toks) fun b ob q => Heap.get?_push_of_some _ q
      obtain ⟨its, rv, ht, hz⟩ := I4.tuple (t.ev ev3).sq
      refine tail_any (ops := [.ref a, .ref s3.heap.objs.size]) ht.typeIs PyProof.Rows.slot_tuple_getitem.lookup ?_ (by with_unfolding_all rfl)
      refine HT.getItem_tuple_rev ht ⟨_, Heap.get?_push_size _ rfl, rfl, rfl⟩ pk ?_ (by rw [List.size_toArray, ← rv.length]; exact hz)
      have I5 := Inv.laidT I4 (vals_reverse rv) (by rw [List.length_reverse]; exact hz)
      have hf : H3 (s3.heap.push { cls := .type "slice", data := .fields #[.none, .none, vk] }).objs.size = none := I4.hok.fresh (Nat.le_refl _)
      exact ⟨.ref _, _, I5, rfl, .of ((e1.trans ev3).trans (.new hf)) (hr3.new hf) (relD_new hf (r.ev ev3).reverse) q1'⟩
  | _ => exact q1'.elim⟩
@[simp] theorem dRev_eq {te : DTE} {τ : DSt} {S : Sto} {Q : KD} : dRev te τ S Q = te τ S fun d S1 => match d with | .tup ds => Q (.tup ds.reverse) S1 | _ => False := rfl
end
end DL

namespace DL
open PySem PySem.Spec PyProof.Rows L2 SkE
/-! ### str(int), join, tuple * int -/
def wStrT : List D → Sto → KD → Prop := fun xs S Q => match xs with
  | [.int i] => i.natAbs.log2 < 1920 ∧ Q (.str (toString i)) S
  | [.str x] => Q (.str x) S
  | [.bl b] => Q (.str (if b then "True" else "False")) S
  | _ => False
section
variable {X : Cx} {K : KW} {H : Hp} {S : Sto}
theorem strOk_toString (i : Int) : PyData.strOk (Str.ofString (toString i)) = true := strOk_intT i
theorem call_str_bl : CallR X (.type "str") (fun xs H Q => ∃ b, xs = [.bl b] ∧ Q (.str (if b then "True" else "False")) H) := by
  intro pins s σ H xs us Q I r ⟨b, ex, q⟩
  subst ex
  cases r with
  | cons r t =>
    cases t
    cases r
    exact PySem.P.str_of_bool ⟨.str _, H, I.tok _, ⟨_, rfl⟩, q⟩
theorem dcall_str : DCall X (.type "str") wStrT := .of (call_str_int.or (call_str_str.or call_str_bl)) fun xs H ds S Q R hr rd q k => by
  unfold wStrT at q
  split at q
  · obtain ⟨v, rfl, r⟩ := rd.one
    cases r
    exact .inl ⟨_, rfl, q.1, k _ _ (.of (.refl _) hr (.str _ (strOk_toString _)) q.2)⟩
  · obtain ⟨v, rfl, r⟩ := rd.one
    cases r with
    | str x h => exact .inr (.inl ⟨_, rfl, k _ _ (.of (.refl _) hr (.str _ h) q)⟩)
  · obtain ⟨v, rfl, r⟩ := rd.one
    cases r
    exact .inr (.inr ⟨_, rfl, k _ _ (.of (.refl _) hr (.str _ (by split <;> decide +kernel)) q)⟩)
  · exact q.elim
theorem relDs_strs : ∀ {vs : List V} {xs : List Str}, RelDs K H vs (xs.map D.str) → vs = xs.map V.str ∧ ∀ x ∈ xs, PyData.strOk x = true
  | _, [], .nil => ⟨rfl, by simp⟩
  | _, x :: r, .cons a t => by
    cases a with
    | str _ h =>
      obtain ⟨e, z⟩ := relDs_strs t
      exact ⟨by rw [e]; rfl, fun y hy => by rcases List.mem_cons.mp hy with rfl | hy; exact h; exact z y hy⟩
/-- "".join(texts) -/
def wJoin : D → List D → Sto → KD → Prop := fun x xs S Q => match x, xs with
  | .str a, [d] => onS (lstOf S d) fun ds => onS (strsD ds) fun ys => (ys.map (·.length)).sum + ys.length * a.length ≤ 16777216 ∧ Q (.str (Str.join a ys)) S
  | _, _ => False
theorem dmt_join : DMt X "str.join" wJoin := ⟨_, mt_join, fun x xs dx ds H S Q R hr r1 r2 q k => by
  unfold wJoin at q
  split at q
  · obtain ⟨y, rfl, ry⟩ := r2.one
    obtain ⟨es, ee, q⟩ := onS.out q
    obtain ⟨ys, ey, q1, q2⟩ := onS.out q
    have := strsD_eq ey
    subst this
    obtain ⟨a, vs, rfl, sq, rr⟩ := lst_sq hr ry ee
    obtain ⟨ev, oks⟩ := relDs_strs rr
    subst ev
    cases r1 with
    | str a h =>
      refine ⟨_, _, ys, rfl, rfl, .inl sq, q1, ?_⟩
      rw [TL.join_eq]
      exact k _ _ (.of (.refl _) hr (.str _ (strOk_join h _ oks)) q2)
  · exact q.elim⟩
/-- a tuple so many times -/
def rRepF (K : PySem.W.Frag) : R2 := fun x y H Q => ∃ l k xs, x = .ref l ∧ y = .int k ∧ SqT K H l xs ∧ xs ≠ [] ∧ 2 ≤ k ∧ k ≤ 1000 ∧ xs.length ≤ 1000 ∧ ∀ p us, H p = none → Q (.ref p) (upd H p (.frz (tupO us) (.tup (List.replicate k.toNat xs).flatten)))
theorem op_repF : OpR X (binaryOp .Mult) (rRepF X.K) := by
  intro pins s σ H x y v u Q I rx ry ⟨l, k, xs, ex, ey, hT, hne, h1, h2, hz, q⟩
  subst ex; subst ey
  cases rx
  obtain ⟨t, rfl⟩ := ry
  obtain ⟨its, r, ⟨⟨cls, dd, data, sl⟩, ho, hc, n, hd⟩, hs⟩ := I.tuple hT
  dsimp only at hc hd
  subst hc; subst hd
  have hle : its.length = xs.length := r.length.symm
  have hpos : 0 < its.length := by rw [hle]; exact List.length_pos_iff.mpr hne
  have hi : its.toArray.isEmpty = false := by
    cases its with
    | nil => exact absurd hpos (by simp)
    | cons a b => rfl
  have hm : ((its.toArray.size : Nat) : Int) * k ≤ 1000000 := by
    have a1 : ((xs.length : Nat) : Int) * k ≤ 1000 * k := Int.mul_le_mul_of_nonneg_right (by omega) (by omega)
    rw [List.size_toArray, hle]
    omega
  have fl : (List.replicate k.toNat xs).flatten.length ≤ sizeLine := by
    have a1 : k.toNat * xs.length ≤ 1000 * 1000 := Nat.mul_le_mul (by omega) hz
    rw [PyProof.Rows.lm_len_rep_flat, sizeLine_eq]
    omega
  have c0 : (decide (k < -(2 ^ 63)) || decide (k ≥ 2 ^ 63)) = false := by simp; omega
  have c1 : (its.toArray.isEmpty || k == 1) = false := by rw [hi]; simp; omega
  have c2 : (decide (k ≤ 0) || its.toArray.isEmpty) = false := by rw [hi]; simp; omega
  have c4 : Builtin.Tuple.tupleTooMany (((its.toArray.size : Nat) : Int) * k) = false := by
    unfold Builtin.Tuple.tupleTooMany
    exact decide_eq_false (by rw [sizeLine_eq]; omega)
  have rs := r.rep k.toNat
  refine wpAny_binaryOp_repeat_ref (T := "tuple") (U := "int") (by decide) ⟨_, ho, rfl⟩ (fun s' => typeIs_int s' k t) noFill_tuple_mul F.fills_int_mul F.slot_int_rmul repeat_tuple F.slot_int_index.lookup
    (call_meets F.slot_int_rmul (typeIs_int s k t) F.entry_int_rmul (F.args_int_rmul_2 _ _) (int_rmul_tuple k t l its.toArray n dd sl) ⟨ho, rfl, ⟨_, ho, rfl⟩, ?_⟩)
  refine call_meets F.slot_tuple_mul ⟨_, ho, rfl⟩ F.entry_tuple_mul (F.args_tuple_mul_2 _ _) (tuple_mulW l its.toArray n dd sl k t c0 c1 c2 (by omega) c4 (by rw [size_rep, List.size_toArray, ← rs.length]; exact fl)) ⟨ho, ?_⟩
  rw [size_rep]
  exact ⟨.ref s.heap.objs.size, _, Inv.laidT I rs fl, rfl, q _ _ (I.hok.fresh (Nat.le_refl _))⟩
theorem RelDs.flat {vs : List V} {ds : List D} (r : RelDs K H vs ds) : ∀ n : Nat, RelDs K H (List.replicate n vs).flatten (List.replicate n ds).flatten
  | 0 => .nil
  | n + 1 => by rw [List.replicate_succ, List.replicate_succ, List.flatten_cons, List.flatten_cons]; exact r.append (RelDs.flat r n)
def wMulT : DR := fun x y S Q => match x, y with
  | .int i, .int j => CMul i j ∧ Q (.int (i * j)) S
  | .tup ds, .int k => ds ≠ [] ∧ 2 ≤ k ∧ k ≤ 1000 ∧ ds.length ≤ 1000 ∧ Q (.tup (List.replicate k.toNat ds).flatten) S
  | _, _ => False
theorem dop_mulT : DOp X (binaryOp .Mult) wMulT := ⟨_, op_mul.or op_repF, fun x y dx dy H S Q R hr r1 r2 q k => by
  unfold wMulT at q
  split at q
  · cases r1; cases r2
    exact .inl ⟨_, _, rfl, rfl, q.1, k _ _ (.of (.refl _) hr (.int _) q.2)⟩
  · cases r2
    cases r1 with
    | tup t r =>
      refine .inr ⟨_, _, _, rfl, rfl, t.sq, fun e => q.1 (by subst e; cases r; rfl), q.2.1, q.2.2.1, by rw [r.length]; exact q.2.2.2.1, fun p us n => k _ _ (.of (.new n) (hr.new n) (relD_new n (r.flat _)) q.2.2.2.2)⟩
  · exact q.elim⟩
@[simp] theorem wMulT_int {m n : Int} {Q : KD} : wMulT (.int m) (.int n) S Q = (CMul m n ∧ Q (.int (m * n)) S) := rfl
@[simp] theorem wMulT_tup {ds : List D} {n : Int} {Q : KD} : wMulT (.tup ds) (.int n) S Q = (ds ≠ [] ∧ 2 ≤ n ∧ n ≤ 1000 ∧ ds.length ≤ 1000 ∧ Q (.tup (List.replicate n.toNat ds).flatten) S) := rfl
@[simp] theorem wStrT_int {n : Int} {Q : KD} : wStrT [.int n] S Q = (n.natAbs.log2 < 1920 ∧ Q (.str (toString n)) S) := rfl
/-! bools among ints -/
theorem op_add_bi : OpR X (binaryOp .Add) (fun x y H Q => ∃ i k, x = .bl k ∧ y = .int i ∧ Q (.int (b2i k + i)) H) := by
  intro pins s σ H x y v u Q I rx ry ⟨i, k, ex, ey, q⟩
  subst ex; subst ey
  obtain ⟨t, rfl⟩ := ry
  cases rx
  exact PySem.IntBool.add_bool_int ⟨.int (b2i k + i), H, I.tok _, ⟨_, rfl⟩, q⟩
theorem op_sub_bi : OpR X (binaryOp .Sub) (fun x y H Q => ∃ i k, x = .bl k ∧ y = .int i ∧ Q (.int (b2i k - i)) H) := by
  intro pins s σ H x y v u Q I rx ry ⟨i, k, ex, ey, q⟩
  subst ex; subst ey
  obtain ⟨t, rfl⟩ := ry
  cases rx
  exact PySem.IntBool.sub_bool_int ⟨.int (b2i k - i), H, I.tok _, ⟨_, rfl⟩, q⟩
theorem DOp.or {f : Value → Value → Sem Value} {r r' : DR} (h : DOp X f r) (h' : DOp X f r') : DOp X f (fun x y S Q => r x y S Q ∨ r' x y S Q) := by
  obtain ⟨a, a1, a2⟩ := h
  obtain ⟨b, b1, b2⟩ := h'
  exact ⟨_, a1.or b1, fun x y dx dy H S Q R hr r1 r2 q k => q.elim (fun q => .inl (a2 x y dx dy H S Q R hr r1 r2 q k)) fun q => .inr (b2 x y dx dy H S Q R hr r1 r2 q k)⟩
def blI (g : Int → Int → Int) : DR := fun x y S Q => match x, y with
  | .bl k, .int i => Q (.int (g (b2i k) i)) S
  | _, _ => False
def wAddX : DR := fun x y S Q => wAdd x y S Q ∨ blI (· + ·) x y S Q
def wSubX : DR := fun x y S Q => wSub x y S Q ∨ blI (· - ·) x y S Q
theorem dop_addX : DOp X (binaryOp .Add) wAddX := dop_add.or ⟨_, op_add_bi, fun x y dx dy H S Q R hr r1 r2 q k => by
  unfold blI at q
  split at q
  · cases r1; cases r2
    exact ⟨_, _, rfl, rfl, k _ _ (.of (.refl _) hr (.int _) q)⟩
  · exact q.elim⟩
theorem dop_subX : DOp X (binaryOp .Sub) wSubX := dop_sub.or ⟨_, op_sub_bi, fun x y dx dy H S Q R hr r1 r2 q k => by
  unfold blI at q
  split at q
  · cases r1; cases r2
    exact ⟨_, _, rfl, rfl, k _ _ (.of (.refl _) hr (.int _) q)⟩
  · exact q.elim⟩
@[simp] theorem wAddX_int {m n : Int} {Q : KD} : wAddX (.int m) (.int n) S Q = Q (.int (m + n)) S := by simp [wAddX, blI]
@[simp] theorem wAddX_bl {b : Bool} {n : Int} {Q : KD} : wAddX (.bl b) (.int n) S Q = Q (.int (b2i b + n)) S := by simp [wAddX, blI, wAdd]
@[simp] theorem wAddX_tup {a b : List D} {Q : KD} : wAddX (.tup a) (.tup b) S Q = (a.length + b.length ≤ sizeLine ∧ Q (.tup (a ++ b)) S) := by simp [wAddX, blI]
@[simp] theorem wAddX_ref {a b : Addr} {Q : KD} : wAddX (.ref a) (.ref b) S Q = wAdd (.ref a) (.ref b) S Q := by simp [wAddX, blI]
@[simp] theorem wSubX_int {m n : Int} {Q : KD} : wSubX (.int m) (.int n) S Q = Q (.int (m - n)) S := by simp [wSubX, blI]
@[simp] theorem wSubX_bl {b : Bool} {n : Int} {Q : KD} : wSubX (.bl b) (.int n) S Q = Q (.int (b2i b - n)) S := by simp [wSubX, blI, wSub, wI0]
@[simp] theorem wStrT_bl {b : Bool} {Q : KD} : wStrT [.bl b] S Q = Q (.str (if b then "True" else "False")) S := rfl
theorem dt_chain {op op' : CmpOp} {a b c : Expr} {pos : Pos} {ta tb tc : DTE} {r r' : DR} (ho : DOp X (compareOp op) r) (ho' : DOp X (compareOp op') r') (ha : DE X a ta) (hb : DE X b tb) (hc : DE X c tc)
    (hm : lastMarks [op, op'] [b, c] = false) : DT X (.Compare a [op, op'] [b, c] pos) (dTst (dChain r r' ta tb tc)) := by
  obtain ⟨rh, h1, h2⟩ := ho
  obtain ⟨rh', h1', h2'⟩ := ho'
  refine .up (pt_chain h1 h1' ha.lo hb.lo hc.lo hm) fun σ H τ S Q st hr q => bin_lo st hr q fun x y dx dy H2 S2 e hr2 r1 r2 q2 => h2 x y dx dy H2 S2 _ _ hr2 r1 r2 q2 fun v H' z => ?_
  obtain ⟨k, e1, e3, S3, hr3, q3⟩ := isB.of z
  refine ⟨k, e1, ?_⟩
  cases k with
  | false => exact ⟨false, rfl, e.trans e3, S3, hr3, q3⟩
  | true => exact .mk (st.ev (e.trans e3)) hr3 q3 fun w H4 ⟨e4, dw, S4, hr4, r4, q4⟩ => h2' y w dy dw H4 S4 _ _ hr4 (r2.ev (e3.trans e4)) r4 q4 fun v2 H5 u => let ⟨b, eb, ub⟩ := isB.of u; ⟨b, eb, ub.back ((e.trans e3).trans e4)⟩
end
end DL

namespace DL
open PySem PySem.Spec PyProof.Rows L2
/-! ### for k, v in d.items() -/
def itemsD (kvs : List (D × D)) : List D := kvs.map fun p => .wt [p.1, p.2]
@[simp] theorem itemsD_len (kvs : List (D × D)) : (itemsD kvs).length = kvs.length := by simp [itemsD]
section
variable {X : Cx} {pins : List (Addr × Obj)} {σ : L2.St} {H : Hp} {s : Shared}
theorem turnD_items {P : Program} {w : World} {K : KW} {elts : List Expr} {kk : Nat} {tpos : Pos} {H0 : Hp} {kvs : List (D × D)} {d it : Addr} {o : Obj} {es : Array DictEntry} {ep : Nat} (hod : o.data = .dict es ep) (hsz : es.size = kvs.length) (hK : K.P = P ∧ K.w = w) :
    Turn P w K.fr (.Tuple elts kk tpos) (ItD K H0 (itemsD kvs) fun S' => S' d = some (.fdc o kvs)) [it] it (fun i h => ∃ ok ov, IsItemIter h it d i kvs.length ep ok ov) where
  mem := by simp
  obj := fun i h st b hb => by
    obtain rfl : b = it := by simpa using hb
    obtain ⟨ok, ov, st⟩ := st
    exact ⟨_, st, fun v z => nomatch z⟩
  keep := fun i h h' st k => let ⟨ok, ov, st⟩ := st; ⟨ok, ov, k it (by simp) _ st⟩
  item := by
    intro X hP hw hKK hc i pins s σ H E I hf st hg
    obtain ⟨Kf, KP, Kw⟩ := K
    change X.K = Kf at hKK
    obtain ⟨hP', hw'⟩ := hK
    change KP = P at hP'
    change Kw = w at hw'
    subst hP hw hKK hP' hw'
    obtain ⟨ev, ⟨S, hr, hs⟩, hi⟩ := hg
    rw [itemsD_len] at hi
    obtain ⟨raw, ea⟩ := fdc_raw hod I hr hs
    obtain ⟨ok, ov, st⟩ := st
    rw [← hsz] at st
    have hi1 : i < es.size := by omega
    have hne : d ≠ it := fun z => by
      subst z
      obtain ⟨oo, h1, h2, _⟩ := raw
      have h1' : s.heap.get? d = some _ := st
      rw [h1] at h1'; cases h1'
      exact absurd h2.1 (by simp)
    have hil : it < s.heap.objs.size := Heap.lt_size st
    have G := GoesN.rawItems (prog := X.prog) (w := X.w) (A := X.A) (elts := elts) (x1 := kk) (pos := tpos) (I.ok.hd hc) it d hne es ep
    refine thn (G.goes i s _ E hi1 ⟨⟨ok, ov, st⟩, raw⟩ fun v h' tk Y St' k _ => ?_) fun r s1 h => h
    obtain ⟨T, hi2, ev', hT0, hT⟩ := Y
    subst ev'
    obtain ⟨⟨ok', ov', st'⟩, _⟩ := St'
    have hT0' : H T = none := I.hok.fresh hT0
    obtain ⟨⟨kx, rk, dk⟩, vx, rv, dv⟩ := ea.2 i es[i] (kvs[i]).1 (kvs[i]).2 (Array.getElem?_eq_getElem hi1) (List.getElem?_eq_getElem hi)
    have new : ObjOk X.prog X.w (upd H T (.tup [kx, vx])) h' T (.tup [kx, vx]) := ⟨by show 2 ≤ sizeLine; decide, [es[i].key, es[i].val], .cons rk (.cons rv .nil), hT⟩
    have I1 : Inv X pins σ (upd H T (.tup [kx, vx])) { s with heap := h', toks := tk } := I.turnedNew (ch := [it]) (fun b ob hb q => k b ob hb q) hf hT0 new
    refine ⟨.ref T, _, I1, rfl, ⟨.new hT0', fun S h => h.new hT0', .wt [(kvs[i]).1, (kvs[i]).2], by simp [itemsD, hi], .wt upd_same (.cons (dk.ev (.new hT0')) (.cons (dv.ev (.new hT0')) .nil))⟩, ⟨ok', ov', by rw [← hsz]; exact st'⟩, fun b hb => ?_⟩
    obtain rfl : b = it := by simpa using hb
    rw [upd_ne (Nat.ne_of_lt (Nat.lt_of_lt_of_le hil hT0))]
    exact (hf b hb).1
  done := by
    intro X hP hw hKK hc i pins s σ H E I hf st hg
    obtain ⟨Kf, KP, Kw⟩ := K
    change X.K = Kf at hKK
    obtain ⟨hP', hw'⟩ := hK
    change KP = P at hP'
    change Kw = w at hw'
    subst hP hw hKK hP' hw'
    obtain ⟨ev, ⟨S, hr, hs⟩, hi⟩ := hg
    rw [itemsD_len] at hi
    obtain ⟨f0, f1, f2, f3, f4, f5⟩ := hf it (by simp)
    obtain ⟨raw, ea⟩ := fdc_raw hod I hr hs
    obtain ⟨ok, ov, st⟩ := st
    rw [← hsz] at st
    exact wpAny_pyNext_items_end_raw (I.ok.hd hc) st raw (by omega) fun h' eb => ⟨rfl, I.turned (t' := s.toks) (fun b ob hb e => eb b ob hb e) f0 f1 f3 f4 f5⟩
  self := fun A i s Q E st h => let ⟨_, _, st⟩ := st; wpAny_pyIter_itemiter st h
def wItems : WIt := fun d S R => match fdcOf S d with
  | some (a, o, kvs) => R (itemsD kvs) (fun S' => S' a = some (.fdc o kvs)) S
  | none => False
variable {apos cpos tpos : Pos} {elts : List Expr} {kk : Nat}
theorem di_items {e : Expr} {te : DTE} (he : DE X e te) (hbase : attributeBase e "items" X.env (eval e X.env) = eval e X.env := by rfl) (hline : (apos.endLine == cpos.line) = true := by rfl) : DI X (.Tuple elts kk tpos) (.Call (.Attribute e "items" apos) [] [] cpos) (diVal te wItems) := ⟨⟨fun pins s σ H R I ⟨τ, S, Rd, st, hr, q, k⟩ => by
  refine wpAny_Call_method (T := "dict") (id := "dict.items") hbase rfl hline F.plainAttrs_dict F.slot_dict_items F.type_dict_items (thn (he.run pins s σ H τ S _ I st hr q) fun u s1 ⟨v, H1, I1, rv, e1, d, S1, hr1, rd, q1⟩ => ?_)
  unfold wItems at q1
  simp only at q1
  split at q1
  · rename_i a o kvs ef
    obtain ⟨rfl, eS⟩ := fdcOf_eq ef
    cases rd; cases rv
    obtain ⟨hs, hg, hx, es, ep, hdt, ea⟩ := fdc_at I1 hr1 eS
    have raw : s1.heap.DictRaw a es ep := ⟨o, hg, hx, hdt⟩
    refine ⟨raw.typeIs, fun b e => by cases e; exact ⟨o, hg, hx.2.1⟩, ?_⟩
    have I2 : Inv X pins σ H1 { s1 with heap := s1.heap.push { cls := .type "dict_items", data := .fields #[.ref a] } } := I1.kept (t' := s1.toks) fun b ob q => Heap.get?_push_of_some _ q
    have fin : wpAny (model X.prog X.w) X.A (pyIter (.ref s1.heap.objs.size)) (PIE X pins σ (.Tuple elts kk tpos) R) X.xe { s1 with heap := s1.heap.push { cls := .type "dict_items", data := .fields #[.ref a] } } := by
      refine wpAny_pyIter_items_raw (d := a) ⟨_, Heap.get?_push_size _ rfl, rfl, rfl⟩ (raw.at fun ob q => Heap.get?_push_of_some _ q) (pie_of e1 hr1 (itP_one (tk := s1.toks) I2 _ (turnD_items (K := X.KW) hdt ea.1 ⟨rfl, rfl⟩) ⟨.none, .none, ?_⟩) q1 k)
      rw [← ea.1]
      exact Heap.get?_push_size _ rfl
    show wpAny _ _ (callWith cpos (.builtin "dict.items") [.ref a] [] []) _ X.xe s1
    exact method_meetsIn F.slot_dict_items F.entry_dict_items rfl (PySem.evalArgs_none ⟨rfl, raw.typeIs, F.args_dict_items_1 _, _, meets_dict_items_raw a hs, ⟨es, ep, raw⟩, fin⟩)
  · exact q1.elim⟩⟩
end
end DL

namespace DL
open PySem PySem.Spec PyProof.Rows L2
/-! ### list(range(..)) -/
section
variable {X : Cx}
/-- an expression that makes a range i .. j - 1 -/
abbrev DTR := DSt → Sto → (Int → Int → Sto → Prop) → Prop
def loR (K : KW) (t : DTR) : L2.St → Hp → (Int → Int → Hp → Prop) → Prop := fun σ H R => ∃ τ S Q, StR K H σ τ ∧ HR K H S ∧ t τ S Q ∧ ∀ a b H', Ev H H' → (∃ S', HR K H' S' ∧ Q a b S') → R a b H'
def DRg (X : Cx) (e : Expr) (t : DTR) : Prop := PRg X e (loR X.KW t)
theorem DRg.up {e : Expr} {t : DTR} {u : L2.St → Hp → (Int → Int → Hp → Prop) → Prop} (h : PRg X e u) (c : ∀ (σ : L2.St) (H : Hp) (τ : DSt) (S : Sto) (Q : Int → Int → Sto → Prop), StR X.KW H σ τ → HR X.KW H S → t τ S Q → u σ H fun a b H' => Ev H H' ∧ ∃ S', HR X.KW H' S' ∧ Q a b S') : DRg X e t :=
  fun pins s σ H R I ⟨τ, S, Q, st, hr, q, k⟩ => wpAny_mono (h pins s σ H _ I (c σ H τ S Q st hr q)) (fun x s' ⟨r, a, b, t, u, v, H', ex, h1, h2, h3, h4⟩ => ⟨r, a, b, t, u, v, H', ex, h1, h2, k a b H' h3 h4⟩) fun _ _ z => z
def rRg1 (ta : DTE) : DTR := fun τ S Q => ta τ S fun d S1 => match d with | .int n => Q 0 n S1 | _ => False
def rRg2 (ta tb : DTE) : DTR := fun τ S Q => ta τ S fun d S1 => tb τ S1 fun f S2 => match d, f with | .int i, .int j => Q i j S2 | _, _ => False
theorem dr_1 {a : Expr} {ta : DTE} {p pos : Pos} (hm : X.mg "range" = none) (hg : Gl X "range") (ha : DE X a ta) (na : starEach [a] X.env = (false, eval a X.env) :: starEach [] X.env := by rfl) : DRg X (.Call (.Name "range" p) [a] [] pos) (rRg1 ta) :=
  .up (prg_1 hg hm ha.lo na) fun σ H τ S Q st hr q => .mk st hr q fun v H1 ⟨e, d, S1, hr1, r1, q1⟩ => by
    simp only at q1
    split at q1
    · cases r1
      exact ⟨_, rfl, e, S1, hr1, q1⟩
    · exact q1.elim
theorem dr_2 {a b : Expr} {ta tb : DTE} {p pos : Pos} (hm : X.mg "range" = none) (hg : Gl X "range") (ha : DE X a ta) (hb : DE X b tb) (na : starEach [a, b] X.env = (false, eval a X.env) :: starEach [b] X.env := by rfl)
    (nb : starEach [b] X.env = (false, eval b X.env) :: starEach [] X.env := by rfl) (hp : (backTo pos (starEach [b] X.env)).any (·.1) = false := by rfl) : DRg X (.Call (.Name "range" p) [a, b] [] pos) (rRg2 ta tb) :=
  .up (prg_2 hg hm ha.lo hb.lo na nb hp) fun σ H τ S Q st hr q => .mk st hr q fun v H1 ⟨e, d, S1, hr1, r1, q1⟩ => .mk (st.ev e) hr1 q1 fun v2 H2 ⟨e2, d2, S2, hr2, r2, q2⟩ => by
    simp only at q2
    split at q2
    · cases r1
      cases r2
      exact ⟨_, _, rfl, rfl, e.trans e2, S2, hr2, q2⟩
    · exact q2.elim
theorem relDs_rng {K : KW} {H : Hp} : ∀ (n : Nat) (a : Int), RelDs K H ((List.range n).map fun i : Nat => V.int (a + (i : Int))) (rngD a n) := by
  intro n
  induction n with
  | zero => intro a; exact .nil
  | succ n ih =>
    intro a
    rw [List.range_succ_eq_map, List.map_cons, List.map_map, rngD]
    refine .cons ?_ ?_
    · simpa using .int a
    · have := ih (a + 1)
      have e : ((fun i : Nat => V.int (a + (i : Int))) ∘ Nat.succ) = fun i : Nat => V.int (a + 1 + (i : Int)) := by
        funext i; simp; omega
      rw [e]; exact this
def dLstRg (te : DTR) : DTE := fun τ S Q => te τ S fun a b S1 => RgOk a b ∧ ∀ p, S1 p = none → Q (.ref p) (put S1 p (.lst (rngD a (b - a).toNat)))
theorem de_listRg {e : Expr} {te : DTR} {p pos : Pos} (hc : X.calm = true) (hm : X.mg "list" = none) (hg : Gl X "list") (he : DRg X e te) (na : starEach [e] X.env = (false, eval e X.env) :: starEach [] X.env := by rfl) : DE X (.Call (.Name "list" p) [e] [] pos) (dLstRg te) := by
  exact .up (pe_listRg hc hg hm he na) fun σ H τ S Q st hr q => ⟨τ, S, _, st, hr, q, fun a b H1 e ⟨S1, hr1, ok, q1⟩ => ⟨ok, fun p n => .of (e.trans (.new n)) (hr1.lst n (relDs_rng _ a)) (.ref p) (q1 p (hr1.free n))⟩⟩
@[simp] theorem dLstRg1_eq {ta : DTE} {τ : DSt} {S : Sto} {Q : KD} : dLstRg (rRg1 ta) τ S Q = ta τ S fun d S1 => match d with | .int n => RgOk 0 n ∧ ∀ p, S1 p = none → Q (.ref p) (put S1 p (.lst (rngD 0 n.toNat))) | _ => False := by
  unfold dLstRg rRg1
  congr 1
  funext d S1
  cases d <;> simp
end
end DL

namespace DL
open PySem PySem.Spec PyProof.Rows L2
/-! ### (a, .., *rest, ..) = a tuple -/
section
variable {prog : Program} {w : World} {A : Around} {E : Value → Shared → Prop} {s : Shared}
theorem unpack_star {l : Addr} {items : List Value} {n i : Nat} {Q : List Value → Shared → Prop} (hl : IsTup s.heap l items.toArray) (hh : A.handled = none) (hi : i < n) (hn : n ≤ items.length + 1) (hz : items.length ≤ sizeLine)
    (h : ∀ (h' : Heap) (tk : Nat), (∀ b o, s.heap.get? b = some o → h'.get? b = some o) →
      Q (items.take i ++ [.ref h'.objs.size] ++ (items.drop i).drop (items.length + 1 - n)) { s with heap := h'.push { cls := .type "list", data := .seq ((items.drop i).take (items.length + 1 - n)).toArray }, toks := tk }) :
    wpAny (model prog w) A (unpackItems (.ref l) n (some i)) Q E s := by
  have hsz : items.toArray.size = items.length := List.size_toArray ..
  have hlt : l < s.heap.objs.size := by obtain ⟨o, ho, _⟩ := hl; exact Heap.lt_size ho
  have hne : l ≠ s.heap.objs.size := Nat.ne_of_lt hlt
  unfold unpackItems notIterableAtAll
  refine wpAny_bind (wpAny_bind (wpAny_specialOf hl.typeIs slot_tuple_iter.lookup (wpAny_pure ?_)))
  simp only [Bool.false_eq_true, if_false]
  refine wpAny_bind (wpAny_holding (iter_tuple hl (wpAny_bind (wpAny_holding (draw_tuple hne i 0 _ _ ⟨_, Heap.get?_push_size _ rfl, rfl, rfl⟩ (hl.push _) (by omega) fun h1 st1 sb => ?_)))))
  have hl1 : IsTup h1 l items.toArray := (hl.push _).extBut sb.extBut hne
  rw [Nat.zero_add] at st1
  have e1 : ((items.toArray.toList.drop 0).take i).length = i := by rw [List.drop_zero, List.length_take]; simp; omega
  rw [if_neg (by rw [e1]; omega)]
  have i1 : s.heap.objs.size < h1.objs.size := by obtain ⟨o, ho, _⟩ := id st1; exact Heap.lt_size ho
  have i2 : l < h1.objs.size := by obtain ⟨o, ho, _⟩ := id hl1; exact Heap.lt_size ho
  refine wpAny_bind (wpAny_holding (PySem.W.kun_collect (s := { s with heap := h1 }) (T := "tuple_iterator") (.inr (.inr (.inr rfl))) (Walks.tuple (A := A.in1) hh s.heap.objs.size l hne items.toArray) (fun j u st => st.1.typeIs) (k := i) (by omega) ⟨st1, hl1⟩ i1 i2 (fun h2 tk hk => ?_) (by omega)))
  have e2 : (items.toArray.toList.drop i).length = items.length - i := by simp
  dsimp only
  rw [if_neg (by rw [e2]; omega)]
  have e3 : (items.toArray.toList.drop i).length - (n - 1 - i) = items.length + 1 - n := by rw [e2]; omega
  rw [e3]
  refine wpAny_bind (wpAny_newList (wpAny_pure ?_) (by rw [List.length_take]; omega))
  have := h h2 tk fun b o e => hk b o (Nat.ne_of_lt (Heap.lt_size e)) (sb.extBut b o (Nat.ne_of_lt (Heap.lt_size e)) (Heap.get?_push_of_some _ e))
  simpa using this
theorem assign_star {elts : List Expr} {env : Env} {k : Nat} {pos : Pos} {l : Addr} {items : List Value} {n i : Nat} {Q : Unit → Shared → Prop} (hl : IsTup s.heap l items.toArray) (hh : A.handled = none) (hlen : (assignEach elts env).length = n) (hstar : (assignEach elts env).findIdx? (·.1) = some i)
    (hi : i < n) (hn : n ≤ items.length + 1) (hz : items.length ≤ sizeLine)
    (h : ∀ (h' : Heap) (tk : Nat), (∀ b o, s.heap.get? b = some o → h'.get? b = some o) →
      wpAny (model prog w) A (assignInOrder ((assignEach elts env).map (·.2)) (items.take i ++ [.ref h'.objs.size] ++ (items.drop i).drop (items.length + 1 - n))) Q E { s with heap := h'.push { cls := .type "list", data := .seq ((items.drop i).take (items.length + 1 - n)).toArray }, toks := tk }) :
    wpAny (model prog w) A (assign (.Tuple elts k pos) env (.ref l)) Q E s := by
  rw [assign_Tuple]
  refine wpAny_bind (wpAny_standAt ?_)
  unfold unpack
  rw [hlen, hstar]
  exact wpAny_bind (wpAny_holding (unpack_star hl hh hi hn hz h))
end
section
variable {X : Cx} {pos : Pos}
def gStar (K : PySem.W.Frag) (n i : Nat) (t : TGs) : TG := fun v σ H Q => ∃ a xs, v = .ref a ∧ SqT K H a xs ∧ n ≤ xs.length + 1 ∧ ∀ p, H p = none → t (xs.take i ++ [.ref p] ++ (xs.drop i).drop (xs.length + 1 - n)) σ (upd H p (.lst ((xs.drop i).take (xs.length + 1 - n)))) Q
theorem pg_star {es : List Expr} {k : Nat} {t : TGs} {n i : Nat} (hc : X.calm = true) (h : PGs X es t) (hi : i < n) (hn : (assignEach es X.env).length = n) (hst : (assignEach es X.env).findIdx? (·.1) = some i) : PG X (.Tuple es k pos) (gStar X.K n i t) := by
  refine ⟨fun pins s σ H v u Q I r ⟨a, xs, e1, hq, hl, hw⟩ => ?_⟩
  subst e1
  cases r
  obtain ⟨its, rv, ht, hz⟩ := I.tuple hq
  have hlen := rv.length
  refine assign_star ht (I.ok.hd hc) hn hst hi (by omega) (by omega) fun h' tk hk => ?_
  have I1 : Inv X pins σ H { s with heap := h', toks := tk } := I.kept hk
  have hf : H h'.objs.size = none := I1.hok.fresh (Nat.le_refl _)
  have r2 : Vals ((xs.drop i).take (xs.length + 1 - n)) ((its.drop i).take (xs.length + 1 - n)) := (rv.drop i).take _
  have I2 : Inv X pins σ (upd H h'.objs.size (.lst ((xs.drop i).take (xs.length + 1 - n)))) { s with heap := h'.push { cls := .type "list", data := .seq ((its.drop i).take (xs.length + 1 - n)).toArray }, toks := tk } :=
    I1.laid (t' := tk) (fun b u e => Heap.get?_push_of_some _ e) (Nat.le_refl _) (show ObjOk X.prog X.w _ _ _ (.lst _) from ⟨by rw [List.length_take, List.length_drop]; omega, _, 0, r2, Heap.get?_push_size _ rfl⟩)
  rw [← hlen]
  refine h.run pins _ σ _ _ _ Q I2 (((rv.take i).append (.cons ?_ .nil)).append ((rv.drop i).drop _)) (hw _ hf)
  exact rfl
def gdStar (n i : Nat) (g : DTGs) : DTG := fun d τ S Q => match d with
  | .tup ds => n ≤ ds.length + 1 ∧ ∀ p, S p = none → g (ds.take i ++ [.ref p] ++ (ds.drop i).drop (ds.length + 1 - n)) τ (put S p (.lst ((ds.drop i).take (ds.length + 1 - n)))) Q
  | _ => False
theorem dg_star {es : List Expr} {k : Nat} {g : DTGs} {n i : Nat} (hc : X.calm = true) (h : DGs X es g) (hi : i < n) (hn : (assignEach es X.env).length = n := by rfl) (hst : (assignEach es X.env).findIdx? (·.1) = some i := by rfl) : DG X (.Tuple es k pos) (gdStar n i g) :=
  .up (pg_star hc h.pg hi hn hst) fun v σ H d τ S Q rd st hr q => by
    cases d with
    | tup ds =>
      cases rd with
      | @tup b vs ds t r =>
        refine ⟨_, _, rfl, t.sq, by rw [r.length]; exact q.1, fun p nn => ?_⟩
        rw [r.length]
        have ev : Ev H (upd H p (.lst ((vs.drop i).take (ds.length + 1 - n)))) := .new nn
        exact ⟨_, τ, _, Q, ((((r.take i).append (.cons (.ref p) .nil)).append ((r.drop i).drop _))).ev ev, st.ev ev, hr.lst nn ((r.drop i).take _), q.2 p (hr.free nn), fun _ _ z => z.back ev⟩
    | _ => exact q.elim
/-- the targets: a starred one like the one in it -/
theorem dgs_star {e : Expr} {sp : Pos} {es : List Expr} {g : DTG} {h : DTGs} (h1 : DG X e g) (h2 : DGs X es h) : DGs X (.Starred e sp :: es) (gdCons g h) :=
  have p : PGs X (.Starred e sp :: es) (gCons (loG X.KW g) (loGs X.KW h)) := ⟨fun pins s σ H vs us Q I r ⟨v, vr, e1, q⟩ => by
    subst e1
    cases r with
    | cons r rr => exact assignInOrder_cons (thn (h1.pg.run pins s σ H _ _ _ I r q) fun _ s1 ⟨σ1, H1, I1, q1⟩ => h2.pg.run pins s1 σ1 H1 _ _ Q I1 rr q1)⟩
  .up p fun v σ H ds τ S Q rd st hr q => by
    cases rd with
    | nil => exact q.elim
    | cons r t => exact ⟨_, _, rfl, _, τ, S, _, r, st, hr, q, fun σ' H' ⟨e, τ', S', hr', st', q'⟩ => ⟨_, τ', S', Q, t.ev e, st', hr', q', fun _ _ z => z.back e⟩⟩
end
end DL

namespace DL
open PySem PySem.Spec PyProof.Rows L2
/-! ### d.update(e), keys ints and texts, neither void -/
def dMerge (kvs ms : List (D × D)) : List (D × D) := ms.foldl (fun acc p => dPut acc p.1 p.2) kvs
def keyK : D → Bool
  | .int _ => true
  | .str _ => true
  | _ => false
def headK : List (D × D) → Bool
  | p :: _ => keyK p.1
  | [] => false
theorem RelKV.merge {K : KW} {H : Hp} : ∀ {es2 : List (Key × V)} {ms : List (D × D)}, RelKV kD K H es2 ms → ∀ {es : List (Key × V)} {kvs : List (D × D)}, RelKV kD K H es kvs → RelKV kD K H (mergeK es es2) (dMerge kvs ms)
  | _, _, .nil, _, _, h => h
  | _, _, .cons hk rd t, _, _, h => RelKV.merge t (h.put (fun _ _ => kD_inj) _ hk rd)
section
variable {X : Cx} {o e : Expr} {to te : DTE} {apos cpos : Pos} {pins : List (Addr × Obj)} {σ : L2.St} {H : Hp} {s : Shared}
theorem headK_at {S : Sto} {a : Addr} {kvs : List (D × D)} (hr : HR X.KW H S) (es : S a = some (.dct kvs)) (h : headK kvs = true) : ∃ ks, H a = some (.dK ks) ∧ RelKV kD X.KW H ks kvs := by
  rcases hr a _ es with h1 | ⟨xs, h1, rk⟩
  · exact h1
  · cases rk with
    | nil => simp [headK] at h
    | cons => simp [headK, keyK, kTD] at h
def dUpd (to te : DTE) : DTE := fun τ S Q => to τ S (isRef fun a S1 => isDct S1 a ∧ te τ S1 fun y S2 => match y with
  | .ref b => a ≠ b ∧ (match S2 a, S2 b with
    | some (.dct kvs), some (.dct ms) => headK kvs = true ∧ headK ms = true ∧ kvs.length + ms.length ≤ sizeLine ∧ Q .non (put S2 a (.dct (dMerge kvs ms)))
    | _, _ => False)
  | _ => False)
theorem de_update (ho : DE X o to) (he : DE X e te) (m : M1 X o "update" apos e cpos) : DE X (.Call (.Attribute o "update" apos) [e] [] cpos) (dUpd to te) := by
  refine ⟨fun pins s σ H τ S Q I st hr h => ?_⟩
  refine wpAny_Call_method m.base m.few m.line PySem.F.plainAttrs_dict PySem.F.slot_dict_update PySem.F.type_dict_update (thn (ho.run pins s σ H τ S _ I st hr h) fun u s1 ⟨x, H1, I1, rx, e1, d, S1, hr1, rd, q1⟩ => ?_)
  cases rd with
  | ref a =>
    obtain rfl : u = Value.ref a := rx
    obtain ⟨t1, t2⟩ := isDct_at I1 hr1 q1.1
    refine ⟨t1, t2, ?_⟩
    rw [m.trees]
    refine Calls.callWith_builtin rfl (Calls.evalArgs_plain (Calls.spliced_cons (thn (he.run pins s1 σ H1 τ S1 _ I1 (st.ev e1) hr1 q1.2) fun iv s2 ⟨y, H2, I2, ry, e2, yd, S2, hr2, ryd, q2⟩ => Calls.spliced_nil ?_)))
    simp only at q2
    split at q2
    · rename_i b
      cases ryd
      cases ry
      obtain ⟨hne, q2⟩ := q2
      split at q2
      · rename_i kvs ms ea eb
        obtain ⟨k1, k2, hz, q3⟩ := q2
        obtain ⟨es1, g1, r1⟩ := headK_at hr2 ea k1
        obtain ⟨es2, g2, r2⟩ := headK_at hr2 eb k2
        obtain ⟨z1, hd1, vs1, rel1, dd1⟩ := dk_of I2.hok g1
        obtain ⟨z2, hd2, vs2, rel2, dd2⟩ := dk_of I2.hok g2
        have l1 := r1.length
        have l2 := r2.length
        have l3 := rel1.length
        have l4 := rel2.length
        refine call_meetsIn PySem.F.slot_dict_update dd1.typeIs PySem.F.entry_dict_update (PySem.F.args_dict_update_2 _ _) (meets_dict_update (mixKind X.prog X.w) a b hne hd2) ⟨vs1, vs2, dd1, dd2, by omega, fun h' dd' _ hs => ?_⟩
        have hex : ∃ q, h'.get? a = some q := let ⟨q, _, _, hq, _⟩ := dd'; ⟨q, hq⟩
        have hl : (mergeK es1 es2).length ≤ sizeLine := by have := length_mergeK es2 es1; omega
        have ev : Ev H2 (upd H2 a (.dK (mergeK es1 es2))) := .upd g1 rfl
        exact ⟨.non, _, d_write (t' := s2.toks) I2 (by rw [g1]; exact True.intro) hs hex (dk_new hl hd1 (rel2.merge rel1) dd'), rfl, .of ((e1.trans e2).trans ev) (hr2.chg (b := .dct (dMerge kvs ms)) g1 rfl (.inl ⟨_, upd_same, (r2.merge r1).ev ev⟩)) .non q3⟩
      · exact q2.elim
    · exact q2.elim
  | _ => exact q1.elim
end
end DL

namespace DL
open PySem PySem.Spec PyProof.Rows L2
/-! ### a module's dict of texts to texts: NAME.get(e) -/
def TabIs : List DictEntry → List (Str × Str) → Prop
  | e :: r, p :: s => (∃ t, e.key = .str p.1 t) ∧ (∃ t, e.val = .str p.2 t) ∧ TabIs r s
  | [], [] => True
  | _, _ => False
structure TabOk (K : PySem.W.Frag) (w : World) (d : Addr) (tbl : List (Str × Str)) : Prop where
  ex : ∃ es n, KDict K w d es n ∧ TabIs es.toList tbl
  ok : (tbl.all fun p => PyData.strOk p.2) = true
theorem tab_find : ∀ (es : List DictEntry) (tbl : List (Str × Str)) (z : Str), TabIs es tbl → match tbl.find? (·.1 = z) with
    | some p => ∃ e t, es.find? (fun d => Value.isStrOf z d.key) = some e ∧ e.val = .str p.2 t
    | none => es.find? (fun d => Value.isStrOf z d.key) = none
  | [], [], _, _ => rfl
  | [], _ :: _, _, h => h.elim
  | _ :: _, [], _, h => h.elim
  | e :: r, p :: s, z, ⟨⟨t, h1⟩, ⟨u, h2⟩, h3⟩ => by
    have ih := tab_find r s z h3
    by_cases hz : p.1 = z
    · have e1 : Value.isStrOf z e.key = true := by rw [h1, ← hz]; simp [Value.isStrOf]
      simp only [List.find?_cons, hz, decide_true, e1]
      exact ⟨e, u, rfl, h2⟩
    · have e1 : Value.isStrOf z e.key = false := by rw [h1]; simp [Value.isStrOf, hz]
      simp only [List.find?_cons, hz, decide_false, e1]
      exact ih
section
variable {X : Cx} {e : Expr} {te : DTE} {npos apos cpos : Pos} {x : Str} {d : Addr} {tbl : List (Str × Str)}
def dKGet (tbl : List (Str × Str)) (te : DTE) : DTE := fun τ S Q => te τ S fun y S2 => match y with
  | .str z => Q (match tbl.find? (·.1 = z) with | some p => .str p.2 | none => .non) S2
  | _ => False
theorem de_kget (hm : X.mg x = some (.ref d)) (T : TabOk X.K X.w d tbl) (hg : Gl X x) (he : DE X e te) (m : M1 X (.Name x npos) "get" apos e cpos) (hd : (x == ("__debug__" : Str)) = false := by decide) :
    DE X (.Call (.Attribute (.Name x npos) "get" apos) [e] [] cpos) (dKGet tbl te) := by
  refine ⟨fun pins s σ H τ S Q I st hr h => ?_⟩
  refine wpAny_Call_method m.base m.few m.line PySem.F.plainAttrs_dict PySem.F.slot_dict_get PySem.F.type_dict_get (thn ((pe_glob (v := .ref d) hg hm rfl hd).run pins s σ H (fun v H' => v = .ref d ∧ H' = H) I ⟨rfl, rfl⟩) fun u s1 ⟨v, H1, I1, rv, ev, eh⟩ => ?_)
  subst ev eh
  obtain rfl : u = Value.ref d := rv
  obtain ⟨es, n, D, ti⟩ := T.ex
  have hk := I1.kIn _ _ D.at_
  refine ⟨kd_type D I1, fun b eb => by cases eb; exact ⟨_, hk, rfl⟩, ?_⟩
  rw [m.trees]
  refine Calls.callWith_builtin rfl (Calls.evalArgs_plain (Calls.spliced_cons (thn (he.run pins s1 σ H1 τ S _ I1 st hr h) fun iv s2 ⟨y, H2, I2, ry, e2, yd, S2, hr2, ryd, q2⟩ => Calls.spliced_nil ?_)))
  simp only at q2
  split at q2
  · rename_i z
    cases ryd
    obtain ⟨t, rfl⟩ := ry
    refine call_meetsIn PySem.F.slot_dict_get (kd_type D I2) PySem.F.entry_dict_get (PySem.F.args_dict_get_2 _ _) (meets_dict_get (strKind X.prog X.w) d (strKind_is X.prog X.w z t) D.low) ⟨_, PySem.W.mapOf_K (prog := X.prog) I2.kIn D.at_ D.lit, ?_⟩
    have f := tab_find es.toList tbl z ti
    have I3 := I2.tok (s2.toks + 1)
    unfold findBy
    rw [show es.find? (fun d => Value.isStrOf z d.key) = es.toList.find? (fun d => Value.isStrOf z d.key) from (Array.find?_toList ..).symm]
    split at q2
    · rename_i p ep
      rw [ep] at f
      obtain ⟨en, t', f1, f2⟩ := f
      rw [f1]
      have hok : PyData.strOk p.2 = true := List.all_eq_true.mp T.ok p (List.mem_of_find?_eq_some ep)
      exact ⟨.str p.2, H2, I2.tok _, ⟨t', f2⟩, .of e2 hr2 (.str p.2 hok) q2⟩
    · rename_i ep
      rw [ep] at f
      rw [f]
      exact ⟨.non, H2, I2.tok _, rfl, .of e2 hr2 .non q2⟩
  · exact q2.elim
end
end DL

namespace DL
open PySem PySem.Spec PyProof.Rows L2
/-! ### sorted(d.items()) -/
mutual
theorem reads_lt {h : Heap} : ∀ {v : Value} {d : PyData} {as : List Addr}, PySem.Reads h v d as → ∀ a ∈ as, a < h.objs.size
  | _, _, _, .none, _, m => nomatch m
  | _, _, _, .bool _, _, m => nomatch m
  | _, _, _, .int _ _, _, m => nomatch m
  | _, _, _, .str _ _, _, m => nomatch m
  | _, _, _, .list h1 _ _ r, a, m => by
    rcases List.mem_cons.mp m with e | m
    · rw [e]; exact Heap.lt_size h1
    · exact readsAll_lt r a m
  | _, _, _, .tuple _ _ _ r, a, m => readsAll_lt r a m
  | _, _, _, .dict h1 _ _ r s, a, m => by
    rcases List.mem_append.mp m with m | m
    · rcases List.mem_cons.mp m with e | m
      · rw [e]; exact Heap.lt_size h1
      · exact readsAll_lt r a m
    · exact readsAll_lt s a m
theorem readsAll_lt {h : Heap} : ∀ {v : List Value} {d : List PyData} {as : List Addr}, PySem.ReadsAll h v d as → ∀ a ∈ as, a < h.objs.size
  | _, _, _, .nil, _, m => nomatch m
  | _, _, _, .cons r s, a, m => by
    rcases List.mem_append.mp m with m | m
    · exact reads_lt r a m
    · exact readsAll_lt s a m
end
/-- the pairs of a dict, by content -/
def itmsD (kvs : List (D × D)) : List D := kvs.map fun p => .tup [p.1, p.2]
@[simp] theorem itmsD_len (kvs : List (D × D)) : (itmsD kvs).length = kvs.length := by simp [itmsD]
section
variable {X : Cx} {pins : List (Addr × Obj)} {σ : L2.St} {H : Hp} {s : Shared}
/-- tuples that lie already are laid, frozen -/
theorem take_pairs {h' : Heap} {tk : Nat} (I0 : Inv X pins σ H s) : ∀ (as : List Addr) (kvs : List (D × D)) (H1 : Hp), Inv X pins σ H1 { s with heap := h', toks := tk } → Ev H H1 → as.Nodup → as.length = kvs.length →
    (∀ a ∈ as, s.heap.objs.size ≤ a ∧ H1 a = none) →
    (∀ (j : Nat) (a : Addr) (p : D × D), as[j]? = some a → kvs[j]? = some p → ∃ (kv vv : V) (ku vu : Value), RelV kv ku ∧ RelD X.KW H kv p.1 ∧ RelV vv vu ∧ RelD X.KW H vv p.2 ∧ h'.get? a = some (tupO [ku, vu])) →
    ∃ H2, Inv X pins σ H2 { s with heap := h', toks := tk } ∧ Ev H1 H2 ∧ (∀ S, HR X.KW H1 S → HR X.KW H2 S) ∧ RelDs X.KW H2 (as.map V.ref) (itmsD kvs)
  | [], [], H1, I1, _, _, _, _, _ => ⟨H1, I1, .refl _, fun _ h => h, .nil⟩
  | [], _ :: _, _, _, _, _, hl, _, _ => by simp at hl
  | _ :: _, [], _, _, _, _, hl, _, _ => by simp at hl
  | a :: as, p :: kvs, H1, I1, e01, hn, hl, hb, hp => by
    obtain ⟨b1, b2⟩ := hb a (List.mem_cons_self ..)
    obtain ⟨kv, vv, ku, vu, r1, d1, r2, d2, hg⟩ := hp 0 a p rfl rfl
    have ev : Ev H1 (upd H1 a (.frz (tupO [ku, vu]) (.tup [kv, vv]))) := .new b2
    have I2 : Inv X pins σ (upd H1 a (.frz (tupO [ku, vu]) (.tup [kv, vv]))) { s with heap := h', toks := tk } :=
      I1.take (h' := h') (t' := tk) (fun b ob _ e => e) (I0.fpOk b1 b2) ⟨hg, by show 2 ≤ sizeLine; decide, [ku, vu], .cons r1 (.cons r2 .nil), ⟨_, hg, rfl, _, rfl⟩⟩
    rw [List.nodup_cons] at hn
    obtain ⟨H2, I3, e2, k2, r⟩ := take_pairs I0 as kvs _ I2 (e01.trans ev) hn.2 (by simpa using hl) (fun c hc => by
      obtain ⟨c1, c2⟩ := hb c (List.mem_cons_of_mem _ hc)
      exact ⟨c1, by rw [upd_ne (fun z => hn.1 (by rw [← z]; exact hc))]; exact c2⟩) fun j c q h1 h2 => hp (j + 1) c q (by simpa using h1) (by simpa using h2)
    have rt : RelD X.KW (upd H1 a (.frz (tupO [ku, vu]) (.tup [kv, vv]))) (.ref a) (.tup [p.1, p.2]) := relD_new b2 (.cons (d1.ev e01) (.cons (d2.ev e01) .nil))
    exact ⟨H2, I3, ev.trans e2, fun S h => k2 S (h.new b2), .cons (rt.ev e2) r⟩
theorem vals_refs : ∀ as : List Addr, Vals (as.map V.ref) (as.map Value.ref)
  | [] => .nil
  | _ :: as => .cons rfl (vals_refs as)
def dSortedItems (td : DTE) : DTE := fun τ S Q => td τ S fun d S1 => match dctOf S1 d with
  | some (_, kvs) => SortOk S1 (itmsD kvs) ∧ ∀ p, S1 p = none → Q (.ref p) (put S1 p (.lst ((itmsD kvs).mergeSort (dLe S1))))
  | none => False
theorem de_sortedItems {e : Expr} {te : DTE} {p pos apos cpos : Pos} (hc : X.calm = true) (hu : X.A.units + 65 < cLine) (hm : X.mg "sorted" = none) (hg : Gl X "sorted") (he : DE X e te) (hbase : attributeBase e "items" X.env (eval e X.env) = eval e X.env := by rfl) (hline : (apos.endLine == cpos.line) = true := by rfl)
    (na : starEach [(.Call (.Attribute e "items" apos) [] [] cpos : Expr)] X.env = [(false, eval (.Call (.Attribute e "items" apos) [] [] cpos) X.env)] := by rfl) :
    DE X (.Call (.Name "sorted" p) [.Call (.Attribute e "items" apos) [] [] cpos] [] pos) (dSortedItems te) := ⟨fun pins s σ H τ S Q I st hr q => by
  refine Call_ (ld_blt I hg hm boot_sorted ?_)
  refine PyProof.Rows.callWith_builtin1 (PyProof.Rows.args_cons ?_ na) na rfl
  refine wpAny_Call_method (T := "dict") (id := "dict.items") hbase rfl hline F.plainAttrs_dict F.slot_dict_items F.type_dict_items (thn (he.run pins s σ H τ S _ I st hr q) fun u s1 ⟨v, H1, I1, rv, e1, d, S1, hr1, rd, q1⟩ => ?_)
  simp only at q1
  split at q1
  · rename_i a kvs ef
    obtain ⟨so, q1⟩ := q1
    obtain ⟨rfl, hs, hz, es, ep, raw, ea⟩ := ent_at I1 hr1 ef
    cases rd; cases rv
    obtain ⟨o, hg', hx, hdt⟩ := id raw
    refine ⟨raw.typeIs, fun b e => by cases e; exact ⟨o, hg', hx.2.1⟩, ?_⟩
    have I2 : Inv X pins σ H1 { s1 with heap := s1.heap.push { cls := .type "dict_items", data := .fields #[.ref a] } } := I1.kept (t' := s1.toks) fun b ob q => Heap.get?_push_of_some _ q
    refine method_meetsIn F.slot_dict_items F.entry_dict_items rfl (PySem.evalArgs_none ⟨rfl, raw.typeIs, F.args_dict_items_1 _, _, meets_dict_items_raw a hs, ⟨es, ep, raw⟩, ?_⟩)
    have raw2 : (s1.heap.push { cls := .type "dict_items", data := .fields #[.ref a] }).DictRaw a es ep := raw.at fun ob q => Heap.get?_push_of_some _ q
    refine PyProof.Rows.args_nil (_root_.DT.sortedI (es := es) (ep := ep) (I2.ok.hd hc) ⟨_, Heap.get?_push_size _ rfl, rfl, rfl⟩ raw2 (by rw [ea.1]; exact hz) fun h' tk as hk hlt hl hG => ?_)
    have I3 : Inv X pins σ H1 { s1 with heap := h', toks := tk } := I2.kept (t' := tk) hk
    have ll : as.length = kvs.length := hl.trans ea.1
    obtain ⟨H2, I4, e2, k2, rt⟩ := take_pairs (h' := h') (tk := tk) I2 as kvs H1 I3 (.refl _) (List.Pairwise.imp (fun h => Nat.ne_of_lt h) hG.rise) ll
      (fun b hb => ⟨Nat.le_of_lt (hG.above b hb), I2.hok.fresh (Nat.le_of_lt (hG.above b hb))⟩) (fun j b pq hj hp => by
        obtain ⟨en, h1, h2⟩ := hG.pairs j b hj
        obtain ⟨⟨kv, r1, d1⟩, vv, r2, d2⟩ := ea.2 j en pq.1 pq.2 h1 hp
        exact ⟨kv, vv, en.key, en.val, r1, d1, r2, d2, by rw [h2]; rfl⟩)
    have hr2 := k2 S1 hr1
    have lt2 : (as.map V.ref).length = (itmsD kvs).length := rt.length
    have z2 := zip_snd lt2
    have mem2 : ∀ b ∈ (as.map V.ref).zip (itmsD kvs), b.2 ∈ itmsD kvs := fun b hb => by rw [← z2]; exact List.mem_map.mpr ⟨b, hb, rfl⟩
    have em : ((as.map V.ref).zip (itmsD kvs)).map (fun b => enc6 S1 b.2) = (itmsD kvs).map (enc6 S1) := by
      have := congrArg (List.map (enc6 S1)) z2
      rw [List.map_map] at this
      exact this
    have hob : (h'.push { cls := .type "list", data := .seq (as.map Value.ref).toArray }).get? h'.objs.size = some (seqObj "list" (as.map Value.ref).toArray 0) := Heap.get?_push_size _ rfl
    have EE := each_of (vals_refs as) rt
    have ER : PySem.W.EachIs (fun (u : Value) (b : V × D) => ∃ as', PySem.Reads (h'.push { cls := .type "list", data := .seq (as.map Value.ref).toArray }) u (enc6 S1 b.2) as' ∧ h'.objs.size ∉ as') (as.map Value.ref) ((as.map V.ref).zip (itmsD kvs)) := by
      have all : ∀ b ∈ (as.map V.ref).zip (itmsD kvs), (rd 6 S1 b.2).ok 40 = true := fun b hb => so.ok _ (mem2 b hb)
      clear em mem2 z2 hob
      generalize (as.map V.ref).zip (itmsD kvs) = bs at EE all
      generalize hits : as.map Value.ref = its at EE ⊢
      generalize hpush : h'.push { cls := .type "list", data := .seq its.toArray } = hp
      have kp : ∀ b o, h'.get? b = some o → hp.get? b = some o := fun b o e => by rw [← hpush]; exact Heap.get?_push_of_some _ e
      clear hpush hits
      induction EE with
      | nil => exact .nil
      | cons h t ih =>
        refine .cons ?_ (ih fun b hb => all b (List.mem_cons_of_mem _ hb))
        obtain ⟨dp, _, _⟩ := rd_dp hr2 6 h.2 40 (all _ List.mem_cons_self)
        obtain ⟨as', r'⟩ := Dp.reads I4 _ _ _ dp h.1
        exact ⟨as', PyProof.Rows.Reads.keeps kp r', fun m => Nat.lt_irrefl _ (reads_lt r' _ m)⟩
    have hlen : ((as.map V.ref).zip (itmsD kvs)).length = kvs.length := by simp [ll]
    have ui : X.A.in1.units = X.A.units + 1 := rfl
    refine PySem.W.list_sort_data (s := { s1 with heap := h'.push { cls := .type "list", data := .seq (as.map Value.ref).toArray }, toks := tk }) (bs := (as.map V.ref).zip (itmsD kvs)) (enc := fun b => enc6 S1 b.2) hob EE ER (by rw [em]; exact so.alk) (by rw [em]; exact so.srt) (by rw [hlen]; exact hz) (fun b hb => ?_) fun out ho eo => ?_
    · have hm := mem2 b hb
      have q := so.ok _ hm
      have : (enc6 S1 b.2).depth ≤ 40 := by
        obtain ⟨i, hi, e⟩ := List.getElem_of_mem hm
        obtain ⟨v, _, rdd⟩ := rt.get (i := i) (d := b.2) (by rw [List.getElem?_eq_getElem hi, e])
        exact (rd_dp hr2 6 rdd 40 q).2.2
      omega
    · obtain ⟨c, hcc⟩ := PyProof.Rows.sortedHeap_at (vs := as.map Value.ref) (out := out.toArray) hob
      obtain ⟨o1, o2⟩ := of_each eo
      have ms : (((as.map V.ref).zip (itmsD kvs)).mergeSort (PySem.W.dataLe false fun b => enc6 S1 b.2)).map (·.2) = (itmsD kvs).mergeSort (dLe S1) := by
        have q := List.map_mergeSort (r := PySem.W.dataLe false fun b : V × D => enc6 S1 b.2) (s := dLe S1) (f := fun b : V × D => b.2) (l := (as.map V.ref).zip (itmsD kvs)) (fun a _ b _ => rfl)
        rw [z2] at q
        exact q
      rw [ms] at o2
      have n1 : H2 h'.objs.size = none := I4.hok.fresh (Nat.le_refl _)
      have I5 := I4.laid (t' := tk) (h' := sortedHeap (h'.push { cls := .type "list", data := .seq (as.map Value.ref).toArray }) h'.objs.size (as.map Value.ref) out.toArray)
        (fun b o e => (PyProof.Rows.sortedHeap_old (Nat.ne_of_lt (Heap.lt_size e)) (Heap.lt_size (Heap.get?_push_of_some _ e))).trans (Heap.get?_push_of_some _ e)) (Nat.le_refl _)
        (show ObjOk X.prog X.w _ _ h'.objs.size (.lst _) from ⟨by rw [o1.length, ho, hlen]; exact hz, out, c, o1, hcc⟩)
      exact ⟨.ref h'.objs.size, _, I5, rfl, .of (e1.trans (e2.trans (.new n1))) (hr2.lst n1 o2) (.ref _) (q1 _ (hr2.free n1))⟩
  · exact q1.elim⟩
end
end DL

namespace DL
open PySem PySem.Spec PyProof.Rows L2
/-! ### int(int|bool) -/
section
variable {X : Cx}
def wIntT : List D → Sto → KD → Prop := fun xs S Q => match xs with
  | [.int i] => Q (.int i) S
  | [.bl b] => Q (.int (if b then 1 else 0)) S
  | _ => False
theorem dcall_int : DCall X (.type "int") wIntT := .of call_int1 fun xs H ds S Q R hr rd q k => by
  unfold wIntT at q
  split at q
  · obtain ⟨v, rfl, r⟩ := rd.one
    cases r
    exact .inl ⟨_, rfl, k _ _ (.of (.refl _) hr (.int _) q)⟩
  · obtain ⟨v, rfl, r⟩ := rd.one
    cases r
    exact .inr ⟨_, rfl, k _ _ (.of (.refl _) hr (.int _) q)⟩
  · exact q.elim
end
end DL

namespace DL
open PySem PySem.Spec PyProof.Rows L2
/-! ### zip of a text and a list -/
def sgD (x : Str) : List D := x.cps.toList.map fun c => D.str ⟨#[c]⟩
theorem sgD_len (x : Str) : (sgD x).length = x.cps.size := by simp [sgD]
section
variable {X : Cx} {K : KW} {H : Hp}
theorem turnD_zipSL {P : Program} {w : World} {elts : List Expr} {kk : Nat} {tpos : Pos} {z TI TO i1 i2 l : Addr} {x : Str} {t : Tok} {b : List D} (hK : K.P = P ∧ K.w = w) (hx : PyData.strOk x = true) (D : ZipSep2 z TI TO i1 i2 [i1] [i2, l]) :
    Turn P w K.fr (.Tuple elts kk tpos) (ItD K H (zipD (sgD x) b) fun S' => S' l = some (.lst b)) [z, TI, TO, i1, i2] z
      (fun i h => IsZip h z TI TO .none ∧ IsTupOf2 h TI (.ref i1) (.ref i2) ∧ (∃ a1 a2, IsTupOf2 h TO a1 a2) ∧ h.IsStrIter i1 (strIterType x) x t i ∧ h.IsListIter i2 l i) where
  mem := by simp
  obj := fun i h ⟨h1, h2, ⟨a1, a2, h3⟩, ⟨o4, h4, _, d4⟩, ⟨o5, h5, _, d5⟩⟩ c hc => by
    rcases (by simpa using hc : c = z ∨ c = TI ∨ c = TO ∨ c = i1 ∨ c = i2) with rfl | rfl | rfl | rfl | rfl
    · exact ⟨_, h1, fun v q => nomatch q⟩
    · exact ⟨_, h2, fun v q => nomatch q⟩
    · exact ⟨_, h3, fun v q => nomatch q⟩
    · exact ⟨_, h4, fun v q => by rw [d4] at q; cases q⟩
    · exact ⟨_, h5, fun v q => by rw [d5] at q; cases q⟩
  keep := fun i h h' ⟨h1, h2, ⟨a1, a2, h3⟩, ⟨o4, h4, r4⟩, h5⟩ k => ⟨k z (by simp) _ h1, k TI (by simp) _ h2, ⟨a1, a2, k TO (by simp) _ h3⟩, ⟨o4, k i1 (by simp) _ h4, r4⟩, h5.at fun o q => k i2 (by simp) o q⟩
  item := by
    intro X hP hw hKK hc i pins s σ H E I hf st hg
    obtain ⟨Kf, KP, Kw⟩ := K
    change X.K = Kf at hKK
    obtain ⟨hP', hw'⟩ := hK
    change KP = P at hP'
    change Kw = w at hw'
    subst hP hw hKK hP' hw'
    obtain ⟨ev, ⟨S, hr, hs⟩, hi⟩ := hg
    obtain ⟨vs, g1, r⟩ := hr l _ hs
    obtain ⟨its, rv, p, hz⟩ := I.list (SqL.of g1)
    obtain ⟨h1, h2, h3, h4, h5⟩ := st
    rw [zipD_len, sgD_len] at hi
    have e1 := rv.length
    have e2 := r.length
    have li : l ≠ i2 := fun q => by
      have := (hf i2 (by simp)).1
      rw [← q, g1] at this; cases this
    have D1 := Draws.text (prog := X.prog) (w := X.w) (A := X.A.in1) (I.ok.hd hc) i1 x t
    have D2 := Draws.list (prog := X.prog) (w := X.w) (A := X.A.in1) (I.ok.hd hc) i2 l li its.toArray
    have G := GoesN.zip2 (elts := elts) (x1 := kk) (pos := tpos) D D1 D2
    have hib : i < b.length := by omega
    refine thn (G.goes i s _ E (by simp only [List.size_toArray]; omega) ⟨h1, h2, h3, h4, h5, p.isList⟩ fun v h' tk Y St' k _ => ?_) fun r s1 h => h
    obtain ⟨T, xv, yv, ev', hT0, ⟨c, u, hc', exv⟩, hy, hT⟩ := Y
    subst ev' exv
    obtain ⟨s1, s2, s3, s4, s5, _⟩ := St'
    have hT0' : H T = none := I.hok.fresh hT0
    obtain ⟨v, hv, rd⟩ := r.get (List.getElem?_eq_getElem hib)
    obtain ⟨u', hu, ru⟩ := rv.get hv
    have hyu : yv = u' := by
      rw [show its.toArray[i]? = some u' by simpa using hu] at hy
      cases hy; rfl
    subst hyu
    have new : ObjOk X.prog X.w (upd H T (.tup [.str ⟨#[c]⟩, v])) h' T (.tup [.str ⟨#[c]⟩, v]) := ⟨by show 2 ≤ sizeLine; decide, [.str ⟨#[c]⟩ u, yv], .cons ⟨u, rfl⟩ (.cons ru .nil), hT⟩
    have I1 : Inv X pins σ (upd H T (.tup [.str ⟨#[c]⟩, v])) { s with heap := h', toks := tk } := I.turnedNew (ch := [z, TO, i1, i2]) (fun b ob hb q => k b ob hb q) (fun c hc => hf c (by rcases (by simpa using hc : c = z ∨ c = TO ∨ c = i1 ∨ c = i2) with q | q | q | q <;> rw [q] <;> simp)) hT0 new
    have hm : c ∈ x.cps := Array.mem_of_getElem? hc'
    have hok : PyData.strOk ⟨#[c]⟩ = true := by
      unfold PyData.strOk at hx ⊢
      have := Array.all_eq_true_iff_forall_mem.mp hx c hm
      simpa using this
    refine ⟨.ref T, _, I1, rfl, ⟨.new hT0', fun S h => h.new hT0', .wt [.str ⟨#[c]⟩, b[i]], zipD_get (by simp [sgD, hc']) (List.getElem?_eq_getElem hib), .wt upd_same (.cons (.str _ hok) (.cons (rd.ev (.new hT0')) .nil))⟩, ⟨s1, s2, s3, s4, s5⟩, fun c hc => ?_⟩
    have hlt : c < s.heap.objs.size := by
      obtain ⟨a1, a2, h3⟩ := h3
      obtain ⟨o4, h4, _⟩ := h4
      obtain ⟨o5, h5, _⟩ := h5
      rcases (by simpa using hc : c = z ∨ c = TI ∨ c = TO ∨ c = i1 ∨ c = i2) with rfl | rfl | rfl | rfl | rfl
      · exact Heap.lt_size h1
      · exact Heap.lt_size h2
      · exact Heap.lt_size h3
      · exact Heap.lt_size h4
      · exact Heap.lt_size h5
    rw [upd_ne (Nat.ne_of_lt (Nat.lt_of_lt_of_le hlt hT0))]
    exact (hf c hc).1
  done := by
    intro X hP hw hKK hc i pins s σ H E I hf st hg
    obtain ⟨Kf, KP, Kw⟩ := K
    change X.K = Kf at hKK
    obtain ⟨hP', hw'⟩ := hK
    change KP = P at hP'
    change Kw = w at hw'
    subst hP hw hKK hP' hw'
    obtain ⟨ev, ⟨S, hr, hs⟩, hi⟩ := hg
    obtain ⟨vs, g1, r⟩ := hr l _ hs
    obtain ⟨its, rv, p, hz⟩ := I.list (SqL.of g1)
    obtain ⟨h1, h2, h3, h4, h5⟩ := st
    rw [zipD_len, sgD_len] at hi
    have e1 := rv.length
    have e2 := r.length
    have li : l ≠ i2 := fun q => by
      have := (hf i2 (by simp)).1
      rw [← q, g1] at this; cases this
    have D1 := Draws.text (prog := X.prog) (w := X.w) (A := X.A.in1) (I.ok.hd hc) i1 x t
    have D2 := Draws.list (prog := X.prog) (w := X.w) (A := X.A.in1) (I.ok.hd hc) i2 l li its.toArray
    have G := GoesN.zip2 (elts := elts) (x1 := kk) (pos := tpos) D D1 D2
    have hsz : min x.cps.size its.toArray.size = i := by simp only [List.size_toArray]; omega
    rw [hsz] at G
    exact G.stops s _ E ⟨h1, h2, h3, h4, h5, p.isList⟩ fun h' tk k _ => I.turnedL (ch := [z, TO, i1, i2]) (fun b ob hb q => k b ob hb q) fun c hc => hf c (by rcases (by simpa using hc : c = z ∨ c = TO ∨ c = i1 ∨ c = i2) with q | q | q | q <;> rw [q] <;> simp)
  self := fun A i s Q E st h => wpAny_pyIter_zip st.1 h
def diZipSL (ta : DTA) : DTI := fun τ S R => ta τ S fun ds S1 => match ds with
  | [.str x, .ref l] => onL S1 l fun b => R (zipD (sgD x) b) (fun S' => S' l = some (.lst b)) S1
  | _ => False
theorem di_zipSL {e e2 : Expr} {ta : DTA} {p pos tpos : Pos} {elts : List Expr} {kk : Nat} (hg : Gl X "zip") (hm : X.mg "zip" = none) (ha : DAr X [e, e2] ta)
    (hs : starEach [e, e2] X.env = (false, eval e X.env) :: starEach [e2] X.env := by rfl) (hpl : (backTo pos (starEach [e2] X.env)).any (·.1) = false := by rfl) :
    DI X (.Tuple elts kk tpos) (.Call (.Name "zip" p) [e, e2] [] pos) (diZipSL ta) := ⟨⟨fun pins s σ H R I ⟨τ, S, Rd, st, hr, q, k⟩ => by
  refine Call_ (ld_blt I hg hm PyProof.Rows.boot_zip (PyProof.Rows.callWith_type1 (thn (ha.run pos pins s σ H τ S _ I st hr q) fun us s1 ⟨vs, H1, I1, rv, e1, ds, S1, hr1, rd, q1⟩ => ?_) hs hpl))
  simp only at q1
  split at q1
  · rename_i x l
    obtain ⟨b, el, q1⟩ := onL.out q1
    obtain ⟨v, w', rfl, r1, r2⟩ := rd.two
    cases rv with
    | cons rv1 rv2 =>
    cases rv2 with
    | cons rv2 rv3 =>
    cases rv3
    cases r2
    cases rv2
    cases r1 with
    | str x hx =>
    obtain ⟨t, rfl⟩ := rv1
    obtain ⟨vs, g1, r⟩ := hr1 l _ el
    obtain ⟨its, rv, p', hz⟩ := I1.list (SqL.of g1)
    refine zip_begins2 (begins_text x t) (begins_list l its.toArray) trivial p'.isList fun h' hz hTI hTO h1 h2 hsz hk => wpAny_pyIter_zip hz ?_
    have I2 : Inv X pins σ H1 { s1 with heap := h' } := I1.kept (t' := s1.toks) hk
    refine pie_of e1 hr1 ⟨s1.heap.objs.size + 4, [s1.heap.objs.size + 4, s1.heap.objs.size + 2, s1.heap.objs.size + 3, s1.heap.objs.size, s1.heap.objs.size + 1], _, rfl, I2,
      turnD_zipSL (K := X.KW) (t := t) ⟨rfl, rfl⟩ hx (zip_sep2 (fp1 := []) (fp2 := [l]) (by simp) (by simp; exact p'.lt)), ⟨hz, hTI, ⟨_, _, hTO⟩, ⟨_, h1, rfl, rfl⟩, ⟨_, h2, rfl, rfl⟩⟩, fun c hc => ?_⟩ q1 k
    have hle : s1.heap.objs.size ≤ c := by
      rcases (by simpa using hc : c = s1.heap.objs.size + 4 ∨ c = s1.heap.objs.size + 2 ∨ c = s1.heap.objs.size + 3 ∨ c = s1.heap.objs.size ∨ c = s1.heap.objs.size + 1) with z | z | z | z | z <;> (rw [z]; first | exact Nat.le_add_right _ _ | exact Nat.le_refl _)
    exact I1.fpOk hle (I1.hok.fresh hle)
  · exact q1.elim⟩⟩
end
end DL

namespace DL
open PySem PySem.Spec PyProof.Rows L2
/-! ### the new readings, unfolded by simp -/
section
variable {τ : DSt} {S : Sto} {Q : KD} {R : List D → (Sto → Prop) → Sto → Prop} {ta : DTA} {te tb : DTE} {tbl : List (Str × Str)} {n i : Nat} {g : DTGs} {d : D} {K : DSt → Sto → Prop}
@[simp] theorem diZipSL_eq : diZipSL ta τ S R = ta τ S fun ds S1 => match ds with
  | [.str x, .ref l] => onL S1 l fun b => R (zipD (sgD x) b) (fun S' => S' l = some (.lst b)) S1
  | _ => False := rfl
@[simp] theorem dKGet_eq : dKGet tbl te τ S Q = te τ S fun y S2 => match y with
  | .str z => Q (match tbl.find? (·.1 = z) with | some p => .str p.2 | none => .non) S2
  | _ => False := rfl
@[simp] theorem gdStar_tup {ds : List D} : gdStar n i g (.tup ds) τ S K = (n ≤ ds.length + 1 ∧ ∀ p, S p = none → g (ds.take i ++ [.ref p] ++ (ds.drop i).drop (ds.length + 1 - n)) τ (put S p (.lst ((ds.drop i).take (ds.length + 1 - n)))) K) := rfl
@[simp] theorem dSortedItems_eq : dSortedItems te τ S Q = te τ S fun d S1 => match dctOf S1 d with
  | some (_, kvs) => SortOk S1 (itmsD kvs) ∧ ∀ p, S1 p = none → Q (.ref p) (put S1 p (.lst ((itmsD kvs).mergeSort (dLe S1))))
  | none => False := rfl
@[simp] theorem dLstRg2_eq : dLstRg (rRg2 te tb) τ S Q = te τ S fun d S1 => tb τ S1 fun f S2 => match d, f with
  | .int a, .int b => RgOk a b ∧ ∀ p, S2 p = none → Q (.ref p) (put S2 p (.lst (rngD a (b - a).toNat)))
  | _, _ => False := by
  unfold dLstRg rRg2
  rfl
@[simp] theorem wIntT_bl {b : Bool} : wIntT [.bl b] S Q = Q (.int (if b then 1 else 0)) S := rfl
@[simp] theorem wIntT_int {j : Int} : wIntT [.int j] S Q = Q (.int j) S := rfl
end
end DL

namespace DL
open PySem PySem.Spec PyProof.Rows L2
/-! ### repr of any plain thing -/
section
variable {X : Cx}
def wReprA : List D → Sto → KD → Prop := fun xs S Q => match xs with
  | [d] => (rd 6 S d).ok 40 = true ∧ (rd 6 S d).py.showable = true ∧ (rd 6 S d).py.shown.length ≤ sizeLine ∧ Q (.str (rd 6 S d).py.shown) S
  | _ => False
theorem dcall_reprA (hu : X.A.units + 65 < cLine) (hgd : X.A.guards = some []) : DCall X (.builtin "repr") wReprA := by
  intro pins s σ H xs us ds S Q I rv hr rd q
  unfold wReprA at q
  split at q
  · rename_i d
    obtain ⟨q1, q2, q3, q4⟩ := q
    have seqc : ∀ es, seqOf S d = some es → wpAny (model X.prog X.w) X.A (call (.builtin "repr") us) (EP X pins σ (Up X.KW H Q)) X.xe s := fun es ee =>
      dcall_repr hu hgd pins s σ H xs us [d] S Q I rv hr rd ⟨q1, q2, q3, ⟨es, ee⟩, q4⟩
    obtain ⟨v, rfl, r⟩ := rd.one
    obtain ⟨_, cl, _⟩ := rd_dp hr 6 r 40 q1
    have ok := strOk_shown _ cl
    cases rv with
    | cons rv t =>
    cases t
    cases r with
    | non =>
      cases rv
      exact P.repr_of_none ⟨.str _, H, I.kept (t' := s.toks + 1) (fun b o e => e), ⟨_, rfl⟩, .of (.refl _) hr (.str _ ok) q4⟩
    | bl b =>
      cases rv
      exact P.repr_of_bool ⟨.str _, H, I.kept (t' := s.toks + 1) (fun b o e => e), ⟨_, rfl⟩, .of (.refl _) hr (.str _ ok) q4⟩
    | int i =>
      obtain ⟨t, rfl⟩ := rv
      exact P.repr_of_int (by simpa [DL.rd, D.py, PyData.showable] using q2) ⟨.str _, H, I.kept (t' := s.toks + 1) (fun b o e => e), ⟨_, rfl⟩, .of (.refl _) hr (.str _ ok) q4⟩
    | str x hx =>
      obtain ⟨t, rfl⟩ := rv
      exact P.repr_of_str ⟨.str _, H, I.kept (t' := s.toks + 1) (fun b o e => e), ⟨_, rfl⟩, .of (.refl _) hr (.str _ ok) q4⟩ q3
    | ty n => simp [DL.rd, D.ok] at q1
    | ref a =>
      cases e : S a with
      | none => simp [DL.rd, e, D.ok] at q1
      | some o =>
        cases o with
        | lst ds => exact seqc ds (by simp [seqOf, e])
        | _ => simp [DL.rd, e, D.ok] at q1
    | tup _ _ => exact seqc _ rfl
    | wt _ _ => simp [DL.rd, D.ok] at q1
    | fz _ _ => exact seqc _ rfl
  · exact q.elim
end
theorem wReprA_ok {S : Sto} {Q : KD} {d : D} (ok : d.ok 40 = true) (h1 : d.py.showable = true) (h2 : d.py.shown.length ≤ sizeLine) : wReprA [d] S Q = Q (.str d.py.shown) S := by
  unfold wReprA
  simp only [rd_ok d 40 6 S ok, ok, h1, h2, true_and]
end DL

namespace DL
open PySem PySem.Spec PyProof.Rows L2
open Builtin.Str (reprChar)
/-! ### what a repr that is a plain text's was of -/
theorem foldl_repr (q : Nat) : ∀ (l : List Nat) (acc : Array Nat), (l.foldl (fun out c => out ++ (reprChar q c).toArray) acc).toList = acc.toList ++ l.flatMap (reprChar q)
  | [], acc => by simp
  | c :: r, acc => by rw [List.foldl_cons, foldl_repr q r]; simp
theorem reprText_list (x : Str) : (reprText x).cps.toList = reprQuote x :: x.cps.toList.flatMap (reprChar (reprQuote x)) ++ [reprQuote x] := by
  unfold reprText
  simp only [Array.toList_push]
  rw [← Array.foldl_toList, foldl_repr]
  simp
theorem reprChar_plain {q c : Nat} (h : 92 ∉ reprChar q c) : reprChar q c = [c] := by
  unfold reprChar at h ⊢
  split
  · rename_i z; rw [if_pos z] at h; simp at h
  rename_i z; rw [if_neg z] at h
  split
  · rename_i z; rw [if_pos z] at h; simp at h
  rename_i z; rw [if_neg z] at h
  split
  · rename_i z; rw [if_pos z] at h; simp at h
  rename_i z; rw [if_neg z] at h
  split
  · rename_i z; rw [if_pos z] at h; simp at h
  rename_i z; rw [if_neg z] at h
  split
  · rfl
  rename_i z; rw [if_neg z] at h
  split
  · rename_i z; rw [if_pos z] at h; simp at h
  rename_i z; rw [if_neg z] at h
  split
  · rename_i z; rw [if_pos z] at h; simp at h
  rename_i z; rw [if_neg z] at h
  simp at h
theorem flat_plain {q : Nat} : ∀ {l : List Nat}, 92 ∉ l.flatMap (reprChar q) → l.flatMap (reprChar q) = l
  | [], _ => rfl
  | c :: r, h => by
    rw [List.flatMap_cons, List.mem_append, not_or] at h
    rw [List.flatMap_cons, reprChar_plain h.1, flat_plain h.2]; rfl
/-- a text whose repr is w between two signs -/
theorem repr_of_plain {x : Str} {a : Nat} {w : List Nat} (h : (reprText x).cps.toList = a :: w ++ [a]) (hw : 92 ∉ w) : x.cps.toList = w := by
  rw [reprText_list] at h
  have h1 := (List.cons.inj h).2
  have h2 := (List.append_inj' h1 rfl).1
  rw [← h2]
  exact (flat_plain (by rw [h2]; exact hw)).symm
theorem last_ne {α : Type} {b : List α} (hb : b ≠ []) : ∀ a : List α, (a ++ b).getLast? = b.getLast?
  | [] => rfl
  | x :: r => by
    have h : r ++ b ≠ [] := by simp [hb]
    rw [List.cons_append, List.getLast?_cons, last_ne hb r]
    cases e : b.getLast? with
    | none => exact absurd (List.getLast?_eq_none_iff.mp e) hb
    | some y => rfl
theorem last_app {a b : Str} (hb : b.cps.toList ≠ []) : (a ++ b).cps.toList.getLast? = b.cps.toList.getLast? := by
  show (Str.append a b).cps.toList.getLast? = _
  simp only [Str.append, Array.toList_append]
  exact last_ne hb _
def dataB : D → Bool | .ref _ => false | .wt _ => false | .ty _ => false | _ => true
/-- what is shown as a text between quotes is that text -/
theorem shown_text {d : D} {w : Str} {l : List Nat} (hd : dataB d = true) (hw : w.cps.toList = 39 :: l ++ [39]) (hl : 92 ∉ l) (h : d.py.shown = w) : ∃ x : Str, d = .str x ∧ x.cps.toList = l := by
  have hlast : w.cps.toList.getLast? = some 39 := by rw [hw, last_ne (by simp)]; rfl
  have hne : ∀ v : Str, v.cps.toList.getLast? ≠ some 39 → d.py.shown ≠ v := fun v hv e => hv (by rw [← e, h]; exact hlast)
  cases d with
  | non => exact absurd rfl (hne (Str.ofString "None") (by decide +kernel))
  | bl b =>
    cases b
    · exact absurd rfl (hne (Str.ofString "False") (by decide +kernel))
    · exact absurd rfl (hne (Str.ofString "True") (by decide +kernel))
  | int i =>
    have : 39 ∈ (PyData.int i).shown.cps.toList := by
      have e : (D.int i).py.shown = (PyData.int i).shown := rfl
      rw [← e, h, hw]; simp
    exact absurd this (PyProof.Rows.shown_int_free' (by decide) i)
  | str x =>
    refine ⟨x, rfl, ?_⟩
    have e : (D.str x).py.shown = reprText x := rfl
    rw [e] at h
    exact repr_of_plain (by rw [h]; exact hw) hl
  | tup ds =>
    exfalso
    have e : (D.tup ds).py.shown = tupleText (PyData.shownAll (D.pys ds)) := by rw [D.py, PyData.shown]
    rw [h] at e
    rw [e] at hlast
    unfold tupleText at hlast
    split at hlast
    · rw [last_app (by decide +kernel)] at hlast
      exact absurd hlast (by decide +kernel)
    · rw [last_app (by decide +kernel)] at hlast
      exact absurd hlast (by decide +kernel)
  | fz ds =>
    exfalso
    have e : (D.fz ds).py.shown = textFrom 0 "[" (PyData.shownAll (D.pys ds)) ++ "]" := by rw [D.py, PyData.shown]; rfl
    rw [h] at e
    rw [e] at hlast
    rw [last_app (by decide +kernel)] at hlast
    exact absurd hlast (by decide +kernel)
  | _ => cases hd
theorem Str.of_list {x y : Str} (h : x.cps.toList = y.cps.toList) : x = y := by
  cases x; cases y
  congr 1
  exact Array.toList_inj.mp h
end DL

namespace DL
open PySem PySem.Spec PyProof.Rows L2
/-! ### sorted(d) -/
section
open PySem.W PySem.Calls
theorem sorted_src {prog : Program} {w : World} {A : Around} {E : Value → Shared → Prop} {s : Shared} {T : String} {r d : Addr} {n : Nat} {P : Nat → Value → Prop} {OK : Heap → Prop} {Q : Value → Shared → Prop} (K : KdlSrc prog w T r d n P OK) (hh : A.handled = none) (hok : OK s.heap) (hn : n ≤ sizeLine)
    (h : ∀ (h' : Heap) (tk : Nat) (vs : List Value), (∀ b o, s.heap.get? b = some o → h'.get? b = some o) → vs.length = n → (∀ (j : Nat) (v : Value), vs[j]? = some v → P j v) →
      wpAny (model prog w) A.in1 (call (.builtin "list.sort") [.ref h'.objs.size]) (fun _ s' => Q (.ref h'.objs.size) s') E { s with heap := h'.push { cls := .type "list", data := .seq vs.toArray }, toks := tk }) :
    wpAny (model prog w) A (call (.builtin "sorted") [.ref r]) Q E s := by
  refine call_function_entry kind_sorted plain_sorted entry_sorted (args_sorted1 _) ?_
  unfold Builtin.«sorted»
  refine wpAny_bind (m := checkCount "sorted" 1 1 _) (wpAny_pure ?_)
  refine wpAny_bind (kdu_collect (A := A.in1) K hh hok hn fun h' tk acc hk hacc => ?_)
  have hl : acc.toList.length = n := by rw [Array.length_toList]; exact hacc.1
  refine wpAny_bind (wpAny_newList ?_ (by rw [hl]; exact hn))
  have hg := h h' tk acc.toList hk hl (fun j v e => hacc.2 j v (by rw [← Array.getElem?_toList]; exact e))
  refine wpAny_bind (wpAny_holding (wpAny_mono hg (fun _ s' x => ?_) fun _ _ e => e))
  exact wpAny_pure ⟨_, rfl, x⟩
end
section
variable {X : Cx}
def wSortedD : List D → Sto → KD → Prop := fun xs S Q => match xs with
  | [d] => match dctOf S d with
    | some (_, kvs) => SortOk S (kvs.map (·.1)) ∧ ∀ p, S p = none → Q (.ref p) (put S p (.lst ((kvs.map (·.1)).mergeSort (dLe S))))
    | none => wSorted [d] S Q
  | _ => False
theorem dcall_sortedD (hc : X.calm = true) (hu : X.A.units + 65 < cLine) : DCall X (.builtin "sorted") wSortedD := by
  intro pins s σ H xs us ds S Q I rv hr rdx q
  unfold wSortedD at q
  split at q
  · rename_i d
    split at q
    · rename_i a kvs ef
      obtain ⟨so, q1⟩ := q
      obtain ⟨v, rfl, r⟩ := rdx.one
      obtain ⟨rfl, hs, hz, es, ep, raw, ea⟩ := ent_at I hr ef
      cases rv with
      | cons rv t =>
      cases t
      cases r; cases rv
      refine sorted_src (n := es.size) (KdlSrc.rawDict hs) (I.ok.hd hc) raw (by rw [ea.1]; exact hz) fun h' tk vs hk hl hv => ?_
      have I3 : Inv X pins σ H { s with heap := h', toks := tk } := I.kept (t' := tk) hk
      have hl2 : vs.length = (kvs.map (·.1)).length := by rw [hl, ea.1, List.length_map]
      obtain ⟨ws, w1, w2⟩ := rel_items (X := X) (H := H) (kvs.map (·.1)) vs hl2 fun i d u p1 p2 => by
        rw [List.getElem?_map] at p1
        cases p3 : kvs[i]? with
        | none => rw [p3] at p1; cases p1
        | some kv =>
          rw [p3] at p1; cases p1
          obtain ⟨hi, rfl⟩ := hv i u p2
          exact (ea.2 i es[i] kv.1 kv.2 (by rw [Array.getElem?_eq_getElem hi]) p3).1
      generalize kvs.map (·.1) = ks at *
      have lt2 : ws.length = ks.length := w2.length
      have z2 := zip_snd lt2
      have mem2 : ∀ b ∈ ws.zip ks, b.2 ∈ ks := fun b hb => by rw [← z2]; exact List.mem_map.mpr ⟨b, hb, rfl⟩
      have em : (ws.zip ks).map (fun b => enc6 S b.2) = ks.map (enc6 S) := by
        have := congrArg (List.map (enc6 S)) z2
        rw [List.map_map] at this
        exact this
      have hob : (h'.push { cls := .type "list", data := .seq vs.toArray }).get? h'.objs.size = some (seqObj "list" vs.toArray 0) := Heap.get?_push_size _ rfl
      have EE := each_of w1 w2
      have ER : PySem.W.EachIs (fun (u : Value) (b : V × D) => ∃ as', PySem.Reads (h'.push { cls := .type "list", data := .seq vs.toArray }) u (enc6 S b.2) as' ∧ h'.objs.size ∉ as') vs (ws.zip ks) := by
        have all : ∀ b ∈ ws.zip ks, (rd 6 S b.2).ok 40 = true := fun b hb => so.ok _ (mem2 b hb)
        clear em mem2 z2 hob
        generalize ws.zip ks = bs at EE all
        generalize hpush : h'.push { cls := .type "list", data := .seq vs.toArray } = hp
        have kp : ∀ b o, h'.get? b = some o → hp.get? b = some o := fun b o e => by rw [← hpush]; exact Heap.get?_push_of_some _ e
        clear hpush hl hl2 hv w1
        induction EE with
        | nil => exact .nil
        | cons h t ih =>
          refine .cons ?_ (ih fun b hb => all b (List.mem_cons_of_mem _ hb))
          obtain ⟨dp, _, _⟩ := rd_dp hr 6 h.2 40 (all _ List.mem_cons_self)
          obtain ⟨as', r'⟩ := Dp.reads I3 _ _ _ dp h.1
          exact ⟨as', PyProof.Rows.Reads.keeps kp r', fun m => Nat.lt_irrefl _ (reads_lt r' _ m)⟩
      have hlk : ks.length ≤ sizeLine := by rw [← hl2, hl, ea.1]; exact hz
      have hlen : (ws.zip ks).length = ks.length := by simp [lt2]
      have ui : X.A.in1.units = X.A.units + 1 := rfl
      refine PySem.W.list_sort_data (s := { s with heap := h'.push { cls := .type "list", data := .seq vs.toArray }, toks := tk }) (bs := ws.zip ks) (enc := fun b => enc6 S b.2) hob EE ER (by rw [em]; exact so.alk) (by rw [em]; exact so.srt) (by rw [hlen]; exact hlk) (fun b hb => ?_) fun out ho eo => ?_
      · have hm := mem2 b hb
        have q := so.ok _ hm
        have : (enc6 S b.2).depth ≤ 40 := by
          obtain ⟨i, hi, e⟩ := List.getElem_of_mem hm
          obtain ⟨v, _, rdd⟩ := w2.get (i := i) (d := b.2) (by rw [List.getElem?_eq_getElem hi, e])
          exact (rd_dp hr 6 rdd 40 q).2.2
        omega
      · obtain ⟨c, hcc⟩ := PyProof.Rows.sortedHeap_at (vs := vs) (out := out.toArray) hob
        obtain ⟨o1, o2⟩ := of_each eo
        have ms : ((ws.zip ks).mergeSort (PySem.W.dataLe false fun b => enc6 S b.2)).map (·.2) = ks.mergeSort (dLe S) := by
          have q := List.map_mergeSort (r := PySem.W.dataLe false fun b : V × D => enc6 S b.2) (s := dLe S) (f := fun b : V × D => b.2) (l := ws.zip ks) (fun a _ b _ => rfl)
          rw [z2] at q
          exact q
        rw [ms] at o2
        have n1 : H h'.objs.size = none := I3.hok.fresh (Nat.le_refl _)
        have I5 := I3.laid (t' := tk) (h' := sortedHeap (h'.push { cls := .type "list", data := .seq vs.toArray }) h'.objs.size vs out.toArray)
          (fun b o e => (PyProof.Rows.sortedHeap_old (Nat.ne_of_lt (Heap.lt_size e)) (Heap.lt_size (Heap.get?_push_of_some _ e))).trans (Heap.get?_push_of_some _ e)) (Nat.le_refl _)
          (show ObjOk X.prog X.w _ _ h'.objs.size (.lst _) from ⟨by rw [o1.length, ho, hlen]; exact hlk, out, c, o1, hcc⟩)
        exact ⟨.ref h'.objs.size, _, I5, rfl, .of (.new n1) (hr.lst n1 o2) (.ref _) (q1 _ (hr.free n1))⟩
    · exact dcall_sorted hc hu pins s σ H xs us _ S Q I rv hr rdx q
  · exact q.elim
end
end DL

namespace DL
open PySem PySem.Spec PyProof.Rows L2
/-! ### dicts whose keys are ints, texts, told by lists -/
@[simp] theorem keyFit_int {α : Type} {g : α → D} {f : α → Int} {xs : List α} {n : Int} : keyFit (xs.map fun p => (D.int (f p), g p)) (.int n) = true := by
  cases xs <;> rfl
@[simp] theorem keyFitW_int {α : Type} {g : α → D} {f : α → Int} {xs : List α} {n : Int} : keyFitW (xs.map fun p => (D.int (f p), g p)) (.int n) = true := by
  unfold keyFitW; rw [keyFit_int]; simp
@[simp] theorem keyFit_str {α : Type} {g : α → D} {f : α → Str} {xs : List α} {n : Str} : keyFit (xs.map fun p => (D.str (f p), g p)) (.str n) = true := by
  cases xs <;> rfl
@[simp] theorem keyFitW_str {α : Type} {g : α → D} {f : α → Str} {xs : List α} {n : Str} : keyFitW (xs.map fun p => (D.str (f p), g p)) (.str n) = true := by
  unfold keyFitW; rw [keyFit_str]; simp
theorem dGet_int {α : Type} {g : α → D} {f : α → Int} {xs : List α} {n : Int} : dGet (xs.map fun p => (D.int (f p), g p)) (.int n) = (xs.find? fun p => decide (f p = n)).map g := by
  unfold dGet
  rw [List.find?_map]
  simp only [Function.comp_def, D.int.injEq, Option.map_map]
theorem dGet_str {α : Type} {g : α → D} {f : α → Str} {xs : List α} {n : Str} : dGet (xs.map fun p => (D.str (f p), g p)) (.str n) = (xs.find? fun p => decide (f p = n)).map g := by
  unfold dGet
  rw [List.find?_map]
  simp only [Function.comp_def, D.str.injEq, Option.map_map]
theorem find_of_mem {α β : Type} [DecidableEq β] {f : α → β} : ∀ {xs : List α}, (xs.map f).Nodup → ∀ {x : α}, x ∈ xs → (xs.find? fun p => decide (f p = f x)) = some x
  | [], _, _, h => by cases h
  | y :: ys, nd, x, h => by
    rw [List.map_cons, List.nodup_cons] at nd
    rw [List.find?_cons]
    rcases List.mem_cons.mp h with rfl | h
    · simp
    · have : f y ≠ f x := fun e => nd.1 (by rw [e]; exact List.mem_map.mpr ⟨x, h, rfl⟩)
      simp only [this, decide_false]
      exact find_of_mem nd.2 h
theorem find_none {α β : Type} [DecidableEq β] {f : α → β} {xs : List α} {b : β} : (xs.find? fun p => decide (f p = b)) = none ↔ b ∉ xs.map f := by
  rw [List.find?_eq_none]
  simp only [decide_eq_true_eq, List.mem_map, not_exists, not_and]
theorem dPut_int_new {α : Type} {g : α → D} {f : α → Int} {xs : List α} {y : α} (h : f y ∉ xs.map f) : dPut (xs.map fun p => (D.int (f p), g p)) (.int (f y)) (g y) = (xs ++ [y]).map fun p => (D.int (f p), g p) := by
  unfold dPut
  rw [if_neg]
  · simp
  · simp only [List.any_map, List.any_eq_true, Function.comp_def, D.int.injEq, decide_eq_true_eq, not_exists, not_and]
    exact fun x hx e => h (by rw [← e]; exact List.mem_map.mpr ⟨x, hx, rfl⟩)
theorem dPut_str_new {α : Type} {g : α → D} {f : α → Str} {xs : List α} {y : α} (h : f y ∉ xs.map f) : dPut (xs.map fun p => (D.str (f p), g p)) (.str (f y)) (g y) = (xs ++ [y]).map fun p => (D.str (f p), g p) := by
  unfold dPut
  rw [if_neg]
  · simp
  · simp only [List.any_map, List.any_eq_true, Function.comp_def, D.str.injEq, decide_eq_true_eq, not_exists, not_and]
    exact fun x hx e => h (by rw [← e]; exact List.mem_map.mpr ⟨x, hx, rfl⟩)
/-! ### sorted of data told by g -/
theorem SortOk.mk' {β : Type} {S : Sto} (xs : List β) (g : β → D) (hc : ∀ x ∈ xs, (g x).cl 20 = true) (al : ∀ x ∈ xs, ∀ y ∈ xs, PySem.W.alike (g x).py (g y).py = true)
    (so : (∀ x ∈ xs, ∃ u r, (g x).py = .tuple (u :: r)) ∨ ∀ x ∈ xs, (g x).py ≠ .none ∧ ∀ ys, (g x).py ≠ .tuple ys) : SortOk S (xs.map g) := by
  have er : ∀ x ∈ xs, rd 6 S (g x) = g x := fun x hx => rd_cl (hc x hx)
  have em : (xs.map g).map (enc6 S) = xs.map fun x => (g x).py := by
    rw [List.map_map]
    exact List.map_congr_left fun x hx => by show (rd 6 S (g x)).py = _; rw [er x hx]
  refine ⟨fun d hd => ?_, ?_, ?_⟩
  · obtain ⟨x, hx, rfl⟩ := List.mem_map.mp hd
    rw [er x hx]
    exact D.ok_of_cl _ _ (D.cl_up _ 20 40 (by decide) (hc x hx))
  · rw [em]
    intro d hd d' hd'
    obtain ⟨x, hx, rfl⟩ := List.mem_map.mp hd
    obtain ⟨y, hy, rfl⟩ := List.mem_map.mp hd'
    exact al x hx y hy
  · rw [em]
    rcases so with so | so
    · refine .inl fun d hd => ?_
      obtain ⟨x, hx, rfl⟩ := List.mem_map.mp hd
      exact so x hx
    · refine .inr fun d hd => ?_
      obtain ⟨x, hx, rfl⟩ := List.mem_map.mp hd
      exact so x hx
theorem SortOk.ints {S : Sto} (xs : List Int) : SortOk S (xs.map D.int) :=
  .mk' xs D.int (fun _ _ => by simp [D.cl]) (fun _ _ _ _ => by simp [D.py, PySem.W.alike]) (.inr fun _ _ => by simp [D.py])
def pairSI (p : Str × Int) : D := .tup [.str p.1, .int p.2]
theorem SortOk.pairsSI {S : Sto} (xs : List (Str × Int)) : SortOk S (xs.map pairSI) :=
  .mk' xs pairSI (fun _ _ => by simp [pairSI, D.cl, D.cls]) (fun _ _ _ _ => by simp [pairSI, D.py, D.pys, PySem.W.alike, PySem.W.alikeAll]) (.inl fun _ _ => by simp [pairSI, D.py, D.pys])
theorem mergeSort_map {β : Type} (g : β → D) (le : D → D → Bool) (xs : List β) : (xs.map g).mergeSort le = (xs.mergeSort fun a b => le (g a) (g b)).map g := by
  rw [List.map_mergeSort]
  intro a _ b _
  rfl
theorem dV_at {i : Nat} {τ : DSt} {S : Sto} {Q : KD} {d : D} (h : τ[i]? = some (some d)) (q : Q d S) : dV i τ S Q := by unfold dV; rw [h]; exact q
end DL

namespace KF
open PySem PySem.Spec PyProof.Rows L2 DL
def fdD (c a b n : D) : List (D × D) := [(.str "cells", c), (.str "at", a), (.str "left", b), (.str "count", n)]
section
variable {c a b n v : D} {S : Sto} {Q : KD} {f : Addr}
theorem kne : (D.str "cells" ≠ D.str "at" ∧ D.str "cells" ≠ D.str "left" ∧ D.str "cells" ≠ D.str "count") ∧ (D.str "at" ≠ D.str "left" ∧ D.str "at" ≠ D.str "count") ∧ D.str "left" ≠ D.str "count" := by decide +kernel
theorem fit (x : Str) : keyFit (fdD c a b n) (.str x) = true := rfl
theorem fitW (x : Str) : keyFitW (fdD c a b n) (.str x) = true := by unfold keyFitW; rw [fit]; simp
theorem get_c : dGet (fdD c a b n) (.str "cells") = some c := by simp [dGet, fdD]
theorem get_a : dGet (fdD c a b n) (.str "at") = some a := by simp [dGet, fdD, List.find?_cons, kne.1.1]
theorem get_b : dGet (fdD c a b n) (.str "left") = some b := by simp [dGet, fdD, List.find?_cons, kne.1.2.1, kne.2.1.1]
theorem get_n : dGet (fdD c a b n) (.str "count") = some n := by simp [dGet, fdD, List.find?_cons, kne.1.2.2, kne.2.1.2, kne.2.2]
theorem put_a : dPut (fdD c a b n) (.str "at") v = fdD c v b n := by simp [dPut, fdD, kne.1.1, kne.2.1.1.symm, kne.2.1.2.symm]
theorem put_b : dPut (fdD c a b n) (.str "left") v = fdD c a v n := by simp [dPut, fdD, kne.1.2.1, kne.2.1.1, kne.2.2.symm]
theorem put_n : dPut (fdD c a b n) (.str "count") v = fdD c a b v := by simp [dPut, fdD, kne.1.2.2, kne.2.1.2, kne.2.2]
theorem at_c (h : S f = some (.dct (fdD c a b n))) : wAt (.ref f) (.str "cells") S Q = Q c S := wAt_dct h (fit _) get_c
theorem at_a (h : S f = some (.dct (fdD c a b n))) : wAt (.ref f) (.str "at") S Q = Q a S := wAt_dct h (fit _) get_a
theorem at_b (h : S f = some (.dct (fdD c a b n))) : wAt (.ref f) (.str "left") S Q = Q b S := wAt_dct h (fit _) get_b
theorem at_n (h : S f = some (.dct (fdD c a b n))) : wAt (.ref f) (.str "count") S Q = Q n S := wAt_dct h (fit _) get_n
variable {k : Sto → Prop}
theorem sz : (fdD c a b n).length < sizeLine := by show 4 < sizeLine; decide
theorem set_a (h : S f = some (.dct (fdD c a b n))) : wSet (.ref f) (.str "at") v S k = k (put S f (.dct (fdD c v b n))) := by simp [wSet, h, fitW, put_a, sz]
theorem set_b (h : S f = some (.dct (fdD c a b n))) : wSet (.ref f) (.str "left") v S k = k (put S f (.dct (fdD c a v n))) := by simp [wSet, h, fitW, put_b, sz]
theorem set_n (h : S f = some (.dct (fdD c a b n))) : wSet (.ref f) (.str "count") v S k = k (put S f (.dct (fdD c a b v))) := by simp [wSet, h, fitW, put_n, sz]
end
/-- the feed -/
def Feed (S : Sto) (f : Addr) : Prop := ∃ (xs : List Int) (a b n : Int), S f = some (.dct (fdD (.fz (xs.map D.int)) (.int a) (.int b) (.int n)))
section
variable {S S' : Sto} {f p : Addr} {o : AO}
theorem Feed.nt (T : Feed S f) (h : S p = none) : p ≠ f := fun e => by subst e; obtain ⟨xs, a, b, n, h1⟩ := T; rw [h1] at h; cases h
theorem Feed.put (T : Feed S f) (h : p ≠ f) : Feed (DL.put S p o) f := by
  obtain ⟨xs, a, b, n, h1⟩ := T
  exact ⟨xs, a, b, n, by rw [put_ne (Ne.symm h)]; exact h1⟩
theorem Feed.new (T : Feed S f) (h : S p = none) : Feed (DL.put S p o) f := T.put (T.nt h)
theorem Feed.keep (T : Feed S f) (k : Grow S S') : Feed S' f := by
  obtain ⟨xs, a, b, n, h1⟩ := T
  exact ⟨xs, a, b, n, k _ _ h1⟩
end
def sp__law_draw : DSp := fun ds S Q E => ∃ f many, ds = [.ref f, .int many] ∧ 0 < many ∧ many < 10000000 ∧ Feed S f ∧ ∀ r S', 0 ≤ r → r < many → Feed S' f → Keeps f S S' → Q (.int r) S'
theorem len__law_draw : ∀ ds S Q E, sp__law_draw ds S Q E → ds.length = (["_law_feed_here", "_law_many"] : List Str).length := fun _ _ _ _ ⟨_, _, e, _⟩ => by rw [e]; rfl
def sp__law_feed : DSp := fun ds S Q E => ∃ ns : List Int, ds = [.fz (ns.map D.int)] ∧ ∀ f S', Feed S' f → S f = none → Grow S S' → Q (.ref f) S'
theorem len__law_feed : ∀ ds S Q E, sp__law_feed ds S Q E → ds.length = (["_law_script"] : List Str).length := fun _ _ _ _ ⟨_, e, _⟩ => by rw [e]; rfl
def r__law_feed : DTS := dRet (dDisp ((dC (.str "cells"), dFrz (dCB wList (dCons (dCut (dV 0) dNoPart (dPart (dC (.int 63)))) dNil))) :: (dC (.str "at"), dC (.int 0)) :: (dC (.str "left"), dC (.int 0)) :: (dC (.str "count"), dC (.int 0)) :: []))
abbrev N__law_feed : List Str := ["_law_script"]
def r__law_draw : DTS := dSeq (dAsg (dBin wAdd (dBin wAt (dV 0) (dC (.str "count"))) (dC (.int 1))) (gdSub (dV 0) (dC (.str "count")) wSet)) (dSeq (dIfS (dTst (dBin wGt (dBin wAt (dV 0) (dC (.str "left"))) (dC (.int 0)))) (dSeq (dAsg (dBin wMod (dBin wAt (dV 0) (dC (.str "left"))) (dV 1)) (gdName 5)) (dSeq (dAsg (dBin wDiv (dBin wAt (dV 0) (dC (.str "left"))) (dV 1)) (gdSub (dV 0) (dC (.str "left")) wSet)) (dRet (dV 5)))) dNext) (dSeq (dAsg (dBin wAt (dV 0) (dC (.str "at"))) (gdName 2)) (dSeq (dAsg (dBin wAdd (dV 2) (dC (.int 1))) (gdSub (dV 0) (dC (.str "at")) wSet)) (dSeq (dAsg (dIf (dTst (dBin wNe (dBin wAt (dV 0) (dC (.str "cells"))) (dLst dNil))) (dBin wAt (dBin wAt (dV 0) (dC (.str "cells"))) (dBin wMod (dV 2) (dCB wLen (dCons (dBin wAt (dV 0) (dC (.str "cells"))) dNil)))) (dC (.int 13))) (gdName 3)) (dSeq (dIfS (dAnd (dTst (dBin wGe (dV 3) (dBin wPow (dC (.int 10)) (dC (.int 18))))) (dTst (dBin wLt (dV 2) (dCB wLen (dCons (dBin wAt (dV 0) (dC (.str "cells"))) dNil))))) (dSeq (dAsg (dBin wDiv (dV 3) (dV 1)) (gdSub (dV 0) (dC (.str "left")) wSet)) (dRet (dBin wMod (dV 3) (dV 1)))) dNext) (dSeq (dAsg (dBin wMod (dBin wAdd (dBin wAdd (dBin wMod (dV 3) (dC (.int 1000000097))) (dBin wMul (dC (.int 60013)) (dBin wAt (dV 0) (dC (.str "count"))))) (dC (.int 47))) (dC (.int 2147483579))) (gdName 4)) (dSeq (dAsg (dBin wMod (dBin wAdd (dBin wAdd (dBin wMul (dV 4) (dV 4)) (dBin wMul (dC (.int 7368787)) (dBin wAt (dV 0) (dC (.str "count"))))) (dC (.int 17))) (dC (.int 2147483549))) (gdName 4)) (dRet (dBin wMod (dBin wDiv (dBin wMod (dBin wAdd (dBin wMul (dV 4) (dV 4)) (dBin wMul (dC (.int 29)) (dV 4))) (dC (.int 2147483543))) (dC (.int 16))) (dV 1))))))))))
abbrev N__law_draw : List Str := ["_law_feed_here", "_law_many", "_law_at", "_law_cell", "_law_mixed", "_law_figure"]
@[simp] theorem dDisp_eq {trs : List (DTE × DTE)} {τ : DSt} {S : Sto} {Q : KD} : dDisp trs τ S Q = ∀ p, S p = none → dPairs trs τ (put S p (.dct [])) fun ps S1 => S1 p = some (.dct []) ∧ (leafAll ps = true ∧ ps.length ≤ 15) ∧ Q (.ref p) (put S1 p (.dct (kvMerge [] ps))) := rfl
@[simp] theorem dPairs_nil {τ : DSt} {S : Sto} {Q : List (D × D) → Sto → Prop} : dPairs [] τ S Q = Q [] S := rfl
@[simp] theorem dPairs_cons {tk tv : DTE} {r : List (DTE × DTE)} {τ : DSt} {S : Sto} {Q : List (D × D) → Sto → Prop} : dPairs ((tk, tv) :: r) τ S Q = tk τ S fun x S1 => tv τ S1 fun y S2 => dPairs r τ S2 fun ps S3 => Q ((x, y) :: ps) S3 := rfl
theorem merge_fd (c a b n : D) : kvMerge [] [(.str "cells", c), (.str "at", a), (.str "left", b), (.str "count", n)] = fdD c a b n := by
  simp [kvMerge, dPut, fdD, kne.1.1, kne.1.2.1, kne.1.2.2, kne.2.1.1, kne.2.1.2, kne.2.2]
theorem vc__law_feed {ds S Q E} (h : sp__law_feed ds S Q E) : r__law_feed (bodyEnds Q) (startD N__law_feed ds) S := by
  obtain ⟨ns, rfl, k⟩ := h
  obtain ⟨ms, e⟩ := cutD_map (f := D.int) (ns := ns) (lo := none) (hi := some 63)
  unfold r__law_feed
  simp [startD, e]
  intro p hp q hq r hr
  have hpq : p ≠ q := ne_of_free hq put_same
  have hpr : p ≠ r := fun z => by subst z; rw [put_ne hpq, put_same] at hr; cases hr
  rw [del_put hr, put_ne hpq, put_same, merge_fd]
  refine ⟨rfl, rfl, k p _ ⟨ms, 0, 0, 0, put_same⟩ hp fun a o z => ?_⟩
  have h1 : a ≠ p := ne_of_free hp z
  have h2 : a ≠ q := ne_of_free hq (by rw [put_ne h1]; exact z)
  rw [put_ne h1, put_ne h2, put_ne h1]; exact z
theorem vc__law_draw {ds S Q E} (h : sp__law_draw ds S Q E) : r__law_draw (bodyEnds Q) (startD N__law_draw ds) S := by
  obtain ⟨f, many, rfl, h0, h1, ⟨xs, a, b, n, hf⟩, k⟩ := h
  have fin : ∀ (r a b n : Int) S', S' f = some (.dct (fdD (.fz (xs.map D.int)) (.int a) (.int b) (.int n))) → (∀ u o, u ≠ f → S u = some o → S' u = some o) → Q (.int (r % many)) S' := fun r a b n S' e hk =>
    k _ _ (Int.emod_nonneg _ (by omega)) (Int.emod_lt_of_pos _ h0) ⟨xs, _, _, _, e⟩ fun u o z h => hk u o z h
  unfold r__law_draw
  simp [startD, at_n hf, set_n hf]
  have g1 : put S f (.dct (fdD (.fz (xs.map D.int)) (.int a) (.int b) (.int (n + 1)))) f = some (.dct (fdD (.fz (xs.map D.int)) (.int a) (.int b) (.int (n + 1)))) := put_same
  simp [at_b g1]
  split
  · rw [set_b g1, put_put]
    exact ⟨h0, ⟨h0, by omega⟩, fin b _ _ _ _ put_same (fun _ _ z h => by rw [put_ne z]; exact h)⟩
  · rw [at_a g1, wAdd_int, set_a g1, put_put]
    have g2 : put S f (.dct (fdD (.fz (xs.map D.int)) (.int (a + 1)) (.int b) (.int (n + 1)))) f = some (.dct (fdD (.fz (xs.map D.int)) (.int (a + 1)) (.int b) (.int (n + 1)))) := put_same
    rw [at_c g2]
    intro p hp
    have hfp : f ≠ p := ne_of_free hp g2
    have g3 : put (put S f (.dct (fdD (.fz (xs.map D.int)) (.int (a + 1)) (.int b) (.int (n + 1))))) p (.lst []) f = some (.dct (fdD (.fz (xs.map D.int)) (.int (a + 1)) (.int b) (.int (n + 1)))) := by rw [put_ne hfp]; exact g2
    have kp : ∀ u o, u ≠ f → S u = some o → put (put S f (.dct (fdD (.fz (xs.map D.int)) (.int (a + 1)) (.int b) (.int (n + 1))))) p (.lst []) u = some o := fun u o z h => by
      have h2 : put S f (.dct (fdD (.fz (xs.map D.int)) (.int (a + 1)) (.int b) (.int (n + 1)))) u = some o := by rw [put_ne z]; exact h
      rw [put_ne (ne_of_free hp h2)]; exact h2
    rw [wNe_of (.cl (by rw [D.cl]; exact D.cls_iff.mpr ints_cl)) (.lst put_same (by simp))]
    generalize put (put S f (.dct (fdD (.fz (xs.map D.int)) (.int (a + 1)) (.int b) (.int (n + 1))))) p (.lst []) = S2 at *
    have bd : ∀ i j : Int, 0 < j → j < 2 ^ 40 → -(2 ^ 64) < i % j ∧ i % j < 2 ^ 64 := fun i j h1 h2 => by
      have := Int.emod_nonneg i (b := j) (by omega); have := Int.emod_lt_of_pos i h1; omega
    have cm : ∀ i j k : Int, 0 < j → j < 2 ^ 40 → CMul (i % j) k := fun i j k h1 h2 => .inl (bd i j h1 h2)
    have cl : ∀ i j : Int, -(2 ^ 64) < i ∧ i < 2 ^ 64 → CMul i j := fun i j h => .inl h
    have cp : CPow 10 18 := ⟨by decide, by decide, by decide⟩
    have e0 := at_c (Q := Q) g3
    have last : ∀ cell : Int, Q (.int (cell % many)) S2 := fun cell => fin cell _ _ _ S2 g3 kp
    by_cases hx : xs = []
    · subst hx
      simp [at_c g3, at_n g3, cp]
      refine ⟨?_, ?_, ?_, ?_, ?_, ?_, h0, last _⟩ <;> first | exact cm _ _ _ (by decide) (by decide) | exact cl _ _ (by decide) | exact ⟨by decide, by decide⟩
    · have hx0 : (0 : Int) < xs.length := by have := List.length_pos_iff.mpr hx; omega
      have m0 := Int.emod_nonneg a (b := (xs.length : Int)) (by omega)
      have m1 := Int.emod_lt_of_pos a hx0
      have e3 : atI (xs.map D.int) (a % (xs.length : Int)) = some (D.int (xs[(a % (xs.length : Int)).toNat]'(by omega))) := by
        rw [atI_int m0 (by simpa using m1)]; simp
      simp [at_c g3, at_n g3, hx, hx0, e3, cp]
      refine ⟨List.length_pos_iff.mpr hx, ?_⟩
      split
      · split
        · rw [set_b g3]
          exact ⟨⟨h0, by omega⟩, h0, fin _ _ _ _ _ put_same fun u o z h => by rw [put_ne z]; exact kp u o z h⟩
        · refine ⟨?_, ?_, ?_, ?_, ?_, ?_, h0, last _⟩ <;> first | exact cm _ _ _ (by decide) (by decide) | exact cl _ _ (by decide) | exact ⟨by decide, by decide⟩
      · refine ⟨?_, ?_, ?_, ?_, ?_, ?_, h0, last _⟩ <;> first | exact cm _ _ _ (by decide) (by decide) | exact cl _ _ (by decide) | exact ⟨by decide, by decide⟩
end KF

namespace KF
open PySem PySem.Spec PyProof.Rows L2 DL
section
variable {S : Sto} {Q : KD} {ds : List D} {b : Bool} {x : Str}
@[simp] theorem isi_fz_str : wIsi [.fz ds, .ty "str"] S Q = Q (.bl false) S := (rfl)
@[simp] theorem isi_fz_int : wIsi [.fz ds, .ty "int"] S Q = Q (.bl false) S := (rfl)
@[simp] theorem isi_fz_tuple : wIsi [.fz ds, .ty "tuple"] S Q = Q (.bl false) S := (rfl)
@[simp] theorem isi_fz_bool : wIsi [.fz ds, .ty "bool"] S Q = Q (.bl false) S := (rfl)
@[simp] theorem isi_bl_str : wIsi [.bl b, .ty "str"] S Q = Q (.bl false) S := (rfl)
@[simp] theorem isi_str_bool : wIsi [.str x, .ty "bool"] S Q = Q (.bl false) S := (rfl)
end
def isNum : D → Bool | .int i => decide (0 ≤ i) | _ => false
def low (c : Nat) : Bool := decide (97 ≤ c ∧ c ≤ 122)
def nameS (x : Str) : Bool := decide (1 ≤ x.length ∧ x.length ≤ 8) && x.cps.toList.all low
def isNam : D → Bool | .str x => nameS x | _ => false
def isWay : D → Bool | .tup ds => ds.all isNam | _ => false
def plain : D → Bool | .ref _ => false | .wt _ => false | .ty _ => false | _ => true
theorem plain_ok : ∀ {d : D} {n : Nat}, d.ok n = true → plain d = true
  | .non, _, _ => rfl | .bl _, _, _ => rfl | .int _, _, _ => rfl | .str _, _, _ => rfl | .tup _, _, _ => rfl | .fz _, _, _ => rfl
  | .ref _, n, h => by cases n <;> simp [D.ok] at h
  | .wt _, n, h => by cases n <;> simp [D.ok] at h
  | .ty _, n, h => by cases n <;> simp [D.ok] at h
def sp_is_number : DSp := fun ds S Q E => ∃ d, ds = [d] ∧ plain d = true ∧ ∀ S', Q (.bl (isNum d)) S'
theorem len_is_number : ∀ ds S Q E, sp_is_number ds S Q E → ds.length = (["thing"] : List Str).length := fun _ _ _ _ ⟨_, e, _⟩ => by rw [e]; rfl
/-- a text is no longer than that -/
def shortT (d : D) : Prop := ∀ x, d = .str x → x.length ≤ 100000
def sp_is_name : DSp := fun ds S Q E => ∃ d, ds = [d] ∧ plain d = true ∧ shortT d ∧ ∀ S', Q (.bl (isNam d)) S'
theorem len_is_name : ∀ ds S Q E, sp_is_name ds S Q E → ds.length = (["thing"] : List Str).length := fun _ _ _ _ ⟨_, e, _⟩ => by rw [e]; rfl
def sp_is_way : DSp := fun ds S Q E => ∃ d, ds = [d] ∧ d.ok 30 = true ∧ (∀ es, d = .tup es → es.length ≤ 100000 ∧ ∀ e ∈ es, shortT e) ∧ ∀ S', Q (.bl (isWay d)) S'
theorem len_is_way : ∀ ds S Q E, sp_is_way ds S Q E → ds.length = (["thing"] : List Str).length := fun _ _ _ _ ⟨_, e, _⟩ => by rw [e]; rfl
def r_is_number : DTS := dRet (dAndV (dCB wIsi (dCons (dV 0) (dCons (dC (.ty "int")) dNil))) (dAndV (dNotV (dCB wIsi (dCons (dV 0) (dCons (dC (.ty "bool")) dNil)))) (dBin wGe (dV 0) (dC (.int 0)))))
abbrev N_is_number : List Str := ["thing"]
def r_is_name : DTS := dSeq (dIfS (dOr (dNot (dTst (dCB wIsi (dCons (dV 0) (dCons (dC (.ty "str")) dNil))))) (dNot (dTst (dChain wLe wLe (dC (.int 1)) (dCB wLen (dCons (dV 0) dNil)) (dC (.int 8)))))) (dRet (dC (.bl false))) dNext) (dRet (dCB wAll (dCons (dLC (diVal (dV 0) wIterA) (gdName 1) dYes [1] [1] [] (dBin (wIn false) (dV 1) (dC (.str "abcdefghijklmnopqrstuvwxyz")))) dNil)))
abbrev N_is_name : List Str := ["thing", "sign"]
def r_is_way : DTS := dRet (dAndV (dCB wIsi (dCons (dV 0) (dCons (dC (.ty "tuple")) dNil))) (dCB wAll (dCons (dLC (diVal (dV 0) wIterA) (gdName 1) dYes [1] [1] [] (dCall (pur sp_is_name) [] (dCons (dV 1) dNil))) dNil)))
abbrev N_is_way : List Str := ["thing", "name"]
@[simp] theorem wLen_str {x : Str} {S : Sto} {Q : KD} : wLen [.str x] S Q = (x.length ≤ sizeLine ∧ Q (.int x.length) S) := rfl
def sgn (c : Nat) : D := .str ⟨#[c]⟩
@[simp] theorem wIter_str {x : Str} {S : Sto} {R : List D → (Sto → Prop) → Sto → Prop} : wIterA (.str x) S R = R (x.cps.toList.map sgn) (fun _ => True) S := rfl
theorem vc_is_number {ds S Q E} (h : sp_is_number ds S Q E) : r_is_number (bodyEnds Q) (startD N_is_number ds) S := by
  obtain ⟨d, rfl, hp, k⟩ := h
  have k0 := k S
  unfold r_is_number
  cases d <;> first | (simp [plain] at hp; done) | (simpa [startD, isNum] using k0)
theorem letters_mem (c : Nat) : decide (c ∈ (Str.ofString "abcdefghijklmnopqrstuvwxyz").cps.toList) = low c := by
  have e : (Str.ofString "abcdefghijklmnopqrstuvwxyz").cps.toList = [97,98,99,100,101,102,103,104,105,106,107,108,109,110,111,112,113,114,115,116,117,118,119,120,121,122] := by decide +kernel
  rw [e]
  unfold low
  rw [Bool.eq_iff_iff]
  simp only [decide_eq_true_eq, List.mem_cons, List.not_mem_nil, or_false]
  omega
theorem wIn_sign {S : Sto} {Q : KD} {c : Nat} : wIn false (.str ⟨#[c]⟩) (.str "abcdefghijklmnopqrstuvwxyz") S Q = Q (.bl (low c)) S := by
  have h : wIn false (.str ⟨#[c]⟩) (.str "abcdefghijklmnopqrstuvwxyz") S Q = wInS false (.str ⟨#[c]⟩) (.str "abcdefghijklmnopqrstuvwxyz") S Q := rfl
  rw [h]
  show Q (.bl (false != _)) S = _
  rw [PySem.StrLaws.found_one, letters_mem]
  cases low c <;> rfl
theorem blsD_map' {α : Type} (f : α → Bool) : ∀ xs : List α, blsD (xs.map fun x => D.bl (f x)) = some (xs.map f)
  | [] => rfl
  | x :: r => by simp [blsD, blsD_map' f r]
theorem wAll_map {α : Type} {f : α → Bool} {xs : List α} {S : Sto} {Q : KD} {a : Addr} (h : S a = some (.lst (xs.map fun x => D.bl (f x)))) : wAll [.ref a] S Q = Q (.bl (xs.all f)) S := by
  show onS (lstOf S (.ref a)) _ = _
  rw [lstOf_ref h]
  show onS (blsD _) _ = _
  rw [blsD_map']
  show Q (.bl ((xs.map f).all id)) S = _
  rw [List.all_map]; rfl
theorem vc_is_name {ds S Q E} (h : sp_is_name ds S Q E) : r_is_name (bodyEnds Q) (startD N_is_name ds) S := by
  obtain ⟨d, rfl, hp, hs, k⟩ := h
  have k0 := k S
  unfold r_is_name
  cases d with
  | str x =>
    simp [startD]
    have el : x.length = x.cps.toList.length := by simp [Str.length]
    have hx := hs x rfl
    refine ⟨by rw [sizeLine_eq]; omega, ?_⟩
    by_cases h1 : 1 ≤ x.length ∧ x.length ≤ 8
    · have h1' : (1 : Int) ≤ (x.length : Int) := by omega
      have h2' : (x.length : Int) ≤ 8 := by omega
      simp [h1', h2']
      intro L hL
      refine lc_map sgn (fun c => [D.bl (low c)]) x.cps.toList (fun _ => trivial) ?_ (fun c hc acc k2 hacc hk => ?_) ?_
      · have := flatMap_le (fun c : Nat => [D.bl (low c)]) 1 x.cps.toList fun x _ => by simp
        rw [sizeLine_eq]; omega
      · simp [sgn, wIn_sign] at hacc hk ⊢
        exact ⟨by omega, hk⟩
      · rw [flatMap_one, wAll_map put_same]
        have : isNam (.str x) = x.cps.toList.all low := by unfold isNam nameS; simp [h1]
        rw [← this]; exact k _
    · have e : isNam (.str x) = false := by unfold isNam nameS; simp [h1]
      rw [e] at k0
      by_cases h2 : (1 : Int) ≤ (x.length : Int)
      · have h3 : ¬ (x.length : Int) ≤ 8 := by omega
        simpa [h2, h3] using k0
      · simpa [h2] using k0
  | _ => first | (simp [plain] at hp; done) | (simpa [startD, isNam] using k0)
theorem vc_is_way {ds S Q E} (h : sp_is_way ds S Q E) : r_is_way (bodyEnds Q) (startD N_is_way ds) S := by
  obtain ⟨d, rfl, hp, hlen, k⟩ := h
  have k0 := k S
  have hpl := plain_ok hp
  unfold r_is_way
  cases d with
  | tup es =>
    simp [startD]
    intro L hL
    refine lc_of (fun d => [D.bl (isNam d)]) es (fun _ => trivial) ?_ (fun d hd acc k2 hacc hk => ?_) ?_
    · have := flatMap_le (fun d : D => [D.bl (isNam d)]) 1 es fun x _ => by simp
      have := (hlen es rfl).1
      rw [sizeLine_eq]; omega
    · have hd' : plain d = true := by
        rw [D.ok, oks_all, List.all_eq_true] at hp
        exact plain_ok (hp d hd)
      simp at hacc hk ⊢
      refine ⟨d, rfl, hd', (hlen es rfl).2 d hd, fun S' => ⟨by omega, hk⟩⟩
    · rw [flatMap_one, wAll_map put_same]
      exact k _
  | _ => first | (simp [plain] at hpl; done) | (simpa [startD, isWay] using k0)
end KF

namespace KF
open PySem PySem.Spec PyProof.Rows L2 DL
def spR__law_due (n : Nat) : DSp := fun ds S Q E => ∃ d, ds = [d] ∧ n ≤ 30 ∧ d.ok n = true ∧ d.py.bulk ≤ 90000 ∧ ∀ S', Q (.tup [.bl (isNum d), .bl (isNam d), .bl (isWay d)]) S'
def prv__law_due : Nat → DSp | 0 => fun _ _ _ _ => False | n + 1 => spR__law_due n
abbrev sp__law_due : DSp := spR__law_due 8
theorem lenR__law_due (n : Nat) : ∀ ds S Q E, spR__law_due n ds S Q E → ds.length = (["_law_thing_here"] : List Str).length := fun _ _ _ _ ⟨_, e, _⟩ => by rw [e]; rfl
theorem len__law_due : ∀ ds S Q E, sp__law_due ds S Q E → ds.length = (["_law_thing_here"] : List Str).length := lenR__law_due 8
def r__law_due (spp : DSp) : DTS := dSeq (dAsg (dAndV (dCB wIsi (dCons (dV 0) (dCons (dC (.ty "str")) dNil))) (dChain wLt wLt (dC (.int 0)) (dCB wLen (dCons (dV 0) dNil)) (dC (.int 9)))) (gdName 1)) (dSeq (dAsg (dAndV (dV 1) (dBin wEq (dLC (diVal (dV 0) wIterA) (gdName 3) (dOr (dTst (dBin wLt (dCB wOrd (dCons (dV 3) dNil)) (dC (.int 97)))) (dTst (dBin wGt (dCB wOrd (dCons (dV 3) dNil)) (dC (.int 122))))) [3] [3] [] (dV 3)) (dLst dNil))) (gdName 1)) (dSeq (dAsg (dAndV (dCB wIsi (dCons (dV 0) (dCons (dC (.ty "int")) dNil))) (dAndV (dNotV (dCB wIsi (dCons (dV 0) (dCons (dC (.ty "bool")) dNil)))) (dBin wGt (dV 0) (dUn wNeg (dC (.int 1)))))) (gdName 2)) (dRet (dTup (dCons (dV 2) (dCons (dV 1) (dCons (dAndV (dCB wIsi (dCons (dV 0) (dCons (dC (.ty "tuple")) dNil))) (dBin wEq (dLC (diVal (dV 0) wIterA) (gdName 4) (dNot (dTst (dBin wAt (dCall (pur spp) [] (dCons (dV 4) dNil)) (dC (.int 1))))) [4] [4] [] (dV 4)) (dLst dNil))) dNil)))))))
abbrev N__law_due : List Str := ["_law_thing_here", "_law_name", "_law_number", "_law_sign", "_law_one"]
@[simp] theorem wOrd_sgn {c : Nat} {S : Sto} {Q : KD} : wOrd [sgn c] S Q = Q (.int c) S := by
  show (_ ∧ _) = _
  exact propext ⟨fun h => h.2, fun h => ⟨rfl, h⟩⟩
theorem bulk_mem : ∀ {ds : List D} {d : D}, d ∈ ds → d.py.bulk + 1 ≤ PyData.bulkAll (D.pys ds)
  | x :: r, d, h => by
    rw [D.pys, PyData.bulkAll]
    rcases List.mem_cons.mp h with rfl | h
    · omega
    · have := bulk_mem h; omega
theorem bulk_len : ∀ {ds : List D}, ds.length ≤ PyData.bulkAll (D.pys ds)
  | [] => Nat.zero_le _
  | x :: r => by have := bulk_len (ds := r); rw [D.pys, PyData.bulkAll, List.length_cons]; omega
theorem sgn_cl {cs : List Nat} : ∀ d ∈ cs.map sgn, d.cl 19 = true := fun d hd => by
  obtain ⟨c, _, rfl⟩ := List.mem_map.mp hd; rfl
theorem bad_eq (cs : List Nat) : (cs.flatMap fun c => if low c = true then [] else [sgn c]) = (cs.filter fun c => !low c).map sgn := by
  induction cs with
  | nil => rfl
  | cons c r ih => simp only [List.flatMap_cons, List.filter_cons, ih]; cases low c <;> simp
theorem bad_nil (cs : List Nat) : ((cs.filter fun c => !low c).map sgn = []) ↔ cs.all low = true := by
  rw [List.map_eq_nil_iff, List.filter_eq_nil_iff, List.all_eq_true]
  simp
mutual
theorem D_ok_up : ∀ {d : D} {n m : Nat}, d.ok n = true → n ≤ m → d.ok m = true
  | .non, _, _, _, _ => by simp [D.ok] | .bl _, _, _, _, _ => by simp [D.ok] | .int _, _, _, _, _ => by simp [D.ok] | .str _, _, _, _, _ => by simp [D.ok]
  | .tup ds, n + 1, m, h, hm => by
    obtain ⟨m', rfl⟩ : ∃ m', m = m' + 1 := ⟨m - 1, by omega⟩
    rw [D.ok] at *; exact oks_upm h (by omega)
  | .fz ds, n + 1, m, h, hm => by
    obtain ⟨m', rfl⟩ : ∃ m', m = m' + 1 := ⟨m - 1, by omega⟩
    rw [D.ok] at *; exact oks_upm h (by omega)
  | .tup _, 0, _, h, _ => by simp [D.ok] at h
  | .fz _, 0, _, h, _ => by simp [D.ok] at h
  | .ref _, n, _, h, _ => by cases n <;> simp [D.ok] at h
  | .wt _, n, _, h, _ => by cases n <;> simp [D.ok] at h
  | .ty _, n, _, h, _ => by cases n <;> simp [D.ok] at h
theorem oks_upm : ∀ {ds : List D} {n m : Nat}, D.oks ds n = true → n ≤ m → D.oks ds m = true
  | [], _, _, _, _ => rfl
  | d :: r, n, m, h, hm => by
    rw [D.oks, Bool.and_eq_true] at *
    exact ⟨D_ok_up h.1 hm, oks_upm h.2 hm⟩
end
theorem wEq_nil {S : Sto} {Q : KD} {L p : Addr} {ds : List D} (h : S L = some (.lst ds)) (hp : S p = some (.lst [])) (ok : ∀ d ∈ ds, d.ok 30 = true) : wEq (.ref L) (.ref p) S Q = Q (.bl (decide (ds = []))) S := by
  have hall : D.oks ds 30 = true := by rw [oks_all, List.all_eq_true]; exact ok
  have e1 : rd 6 S (.ref L) = .fz ds := by
    show (match S L with | some (.lst ds) => D.fz (ds.map (rd 5 S)) | _ => .ref L) = _
    rw [h]
    show D.fz (ds.map (rd 5 S)) = _
    rw [rds_ok ds 30 5 S hall]
  have e2 : rd 6 S (.ref p) = .fz [] := by
    show (match S p with | some (.lst ds) => D.fz (ds.map (rd 5 S)) | _ => .ref p) = _
    rw [hp]; rfl
  have o1 : (D.fz ds).ok 40 = true := by rw [D.ok]; exact oks_upm hall (by decide)
  unfold wEq
  rw [e1, e2, o1]
  have : (D.fz ds).eqv (.fz []) = decide (ds = []) := by
    cases ds with
    | nil => simp [D.eqv, D.py, D.pys, PyData.eqv, PyData.eqvAll]
    | cons x r => simp [D.eqv, D.py, D.pys, PyData.eqv, PyData.eqvAll]
  rw [this]
  simp [D.ok, D.oks]
theorem vcR__law_due (n : Nat) {ds S Q E} (h : spR__law_due n ds S Q E) : r__law_due (prv__law_due n) (bodyEnds Q) (startD N__law_due ds) S := by
  obtain ⟨d, rfl, hn30', ok, bk, k⟩ := h
  have hpl := plain_ok ok
  unfold r__law_due
  cases d with
  | str x =>
    have el : x.length = x.cps.toList.length := by simp [Str.length]
    have hb : x.length ≤ 90000 := by
      have : (D.str x).py.bulk = x.cps.size := by simp [D.py, PyData.bulk]
      have e2 : x.length = x.cps.size := rfl
      omega
    have hs : x.length ≤ 16777216 := by omega
    by_cases h1 : 1 ≤ x.length ∧ x.length ≤ 8
    · have h1' : 0 < x.length := by omega
      have h2' : (x.length : Int) < 9 := by omega
      simp [startD, hs, h1', h2', sizeLine_eq]
      intro L hL
      refine lc_map sgn (fun c => if low c = true then [] else [sgn c]) x.cps.toList (fun _ => trivial) ?_ (fun c hc acc k2 hacc hk => ?_) ?_
      · have := flatMap_le (fun c : Nat => if low c = true then [] else [sgn c]) 1 x.cps.toList fun x _ => by split <;> simp
        rw [sizeLine_eq]; omega
      · have hlow : low c = decide (97 ≤ c ∧ c ≤ 122) := rfl
        by_cases a1 : c < 97
        · have e1 : low c = false := by rw [hlow]; exact decide_eq_false (by omega)
          have a1' : (c : Int) < 97 := by omega
          simp [e1, a1', sizeLine_eq] at hacc hk ⊢
          exact ⟨by omega, hk⟩
        · have a1' : ¬ (c : Int) < 97 := by omega
          by_cases a2 : 122 < c
          · have e1 : low c = false := by rw [hlow]; exact decide_eq_false (by omega)
            have a2' : (122 : Int) < (c : Int) := by omega
            simp [e1, a1', a2', sizeLine_eq] at hacc hk ⊢
            exact ⟨by omega, hk⟩
          · have e1 : low c = true := by rw [hlow]; exact decide_eq_true (by omega)
            have a2' : ¬ (122 : Int) < (c : Int) := by omega
            simp [e1, a1', a2'] at hacc hk ⊢
            exact hk
      · rw [bad_eq]
        intro p hp
        rw [wEq_of (.lst (by rw [put_ne (ne_of_free hp put_same)]; exact put_same) sgn_cl) (.lst put_same (by simp))]
        have e9 : isNam (.str x) = x.cps.toList.all low := by unfold isNam nameS; simp [h1]
        have k9 := k (put (put S L (.lst ((x.cps.toList.filter fun c => !low c).map sgn))) p (.lst []))
        rw [e9] at k9
        have e11 : decide (D.fz ((x.cps.toList.filter fun c => !low c).map sgn) = D.fz []) = x.cps.toList.all low := by
          rw [Bool.eq_iff_iff, decide_eq_true_eq, ← bad_nil]
          exact ⟨fun h => D.fz.inj h, fun h => by rw [h]⟩
        rw [e11]
        simp [isNum, isWay] at k9 ⊢
        exact k9
    · have e : isNam (.str x) = false := by unfold isNam nameS; simp [h1]
      have k0 := k S
      rw [e] at k0
      simp only [isNum, isWay] at k0
      by_cases h2 : 0 < x.length
      · have h3 : ¬ (x.length : Int) < 9 := by omega
        simp [startD, hs, h2, h3, sizeLine_eq]
        exact k0
      · simp [startD, hs, h2, sizeLine_eq]
        exact k0
  | tup es =>
    cases n with
    | zero => simp [D.ok] at ok
    | succ n =>
      have hlen : es.length ≤ 90000 := by
        have := bulk_len (ds := es)
        rw [D.py, PyData.bulk] at bk; omega
      have hn30 : n ≤ 30 := by omega
      have oke : ∀ e ∈ es, e.ok n = true := by
        rw [D.ok, oks_all, List.all_eq_true] at ok; exact ok
      simp [startD, sizeLine_eq]
      intro L hL
      refine lc_of (fun e => if isNam e = true then [] else [e]) es (fun _ => trivial) ?_ (fun e he acc k2 hacc hk => ?_) ?_
      · have := flatMap_le (fun e : D => if isNam e = true then [] else [e]) 1 es fun x _ => by split <;> simp
        rw [sizeLine_eq]; omega
      · have hbe := bulk_mem he
        simp
        refine ⟨e, rfl, hn30, oke e he, by rw [D.py, PyData.bulk] at bk; omega, fun S' => ?_⟩
        cases hn : isNam e with
        | true => simp [hn] at hacc hk ⊢; exact hk
        | false => simp [hn, sizeLine_eq] at hacc hk ⊢; exact ⟨by omega, hk⟩
      · have hfl : (es.flatMap fun e => if isNam e = true then [] else [e]) = es.filter fun e => !isNam e := by
          clear k ok bk hlen oke hpl
          induction es with
          | nil => rfl
          | cons c r ih => simp only [List.flatMap_cons, List.filter_cons, ih]; cases isNam c <;> simp
        rw [hfl]
        intro p hp
        rw [wEq_nil (by rw [put_ne (ne_of_free hp put_same)]; exact put_same) put_same fun d hd => D_ok_up (oke d (List.mem_filter.mp hd).1) hn30]
        have k9 := k (put (put S L (.lst (es.filter fun e => !isNam e))) p (.lst []))
        have e9 : decide ((es.filter fun e => !isNam e) = []) = isWay (.tup es) := by
          rw [Bool.eq_iff_iff, decide_eq_true_eq, List.filter_eq_nil_iff]
          simp [isWay]
        rw [e9]
        simp only [isNum, isNam] at k9
        exact k9
  | int i =>
    have k0 := k S
    simp only [isNam, isWay, isNum] at k0
    by_cases h : -1 < i
    · have : (0 : Int) ≤ i := by omega
      simp [startD, h, this, sizeLine_eq] at k0 ⊢
      exact k0
    · have : ¬ (0 : Int) ≤ i := by omega
      simp [startD, h, this, sizeLine_eq] at k0 ⊢
      exact k0
  | _ => first | (simp [plain] at hpl; done) | (have k0 := k S; simp [startD, sizeLine_eq, isNam, isWay, isNum] at k0 ⊢; exact k0)
end KF

namespace KF
open PySem PySem.Spec PyProof.Rows L2 DL
mutual
def big (c : Nat) : D → Bool
  | .int i => decide (i.natAbs ≤ 10 ^ 203 + c)
  | .str x => x.cps.toList.all fun k => decide (k < 16 ^ 8)
  | .tup ds => bigs c ds | .fz ds => bigs c ds
  | _ => true
def bigs (c : Nat) : List D → Bool
  | [] => true
  | d :: r => big c d && bigs c r
end
theorem bigs_iff {c : Nat} {ds : List D} : bigs c ds = true ↔ ∀ d ∈ ds, big c d = true := by
  induction ds with
  | nil => simp [bigs]
  | cons d r ih => rw [bigs, Bool.and_eq_true, ih]; simp
mutual
theorem big_up {c c' : Nat} (h : c ≤ c') : ∀ {d : D}, big c d = true → big c' d = true
  | .int i, z => by rw [big] at *; have := of_decide_eq_true z; exact decide_eq_true (by omega)
  | .str x, z => by rw [big] at *; exact z
  | .tup ds, z => by rw [big] at *; exact bigs_up h z
  | .fz ds, z => by rw [big] at *; exact bigs_up h z
  | .non, _ => by simp [big] | .bl _, _ => by simp [big] | .wt _, _ => by simp [big] | .ref _, _ => by simp [big] | .ty _, _ => by simp [big]
theorem bigs_up {c c' : Nat} (h : c ≤ c') : ∀ {ds : List D}, bigs c ds = true → bigs c' ds = true
  | [], _ => rfl
  | d :: r, z => by rw [bigs, Bool.and_eq_true] at *; exact ⟨big_up h z.1, bigs_up h z.2⟩
end
def bA (ds : List D) : Nat := PyData.bulkAll (D.pys ds)
@[simp] theorem bA_nil : bA [] = 0 := rfl
@[simp] theorem bA_cons {d : D} {r : List D} : bA (d :: r) = d.py.bulk + 1 + bA r := by simp [bA, D.pys, PyData.bulkAll]
@[simp] theorem bA_app {a b : List D} : bA (a ++ b) = bA a + bA b := by
  induction a with
  | nil => simp
  | cons x r ih => simp only [List.cons_append, bA_cons, ih]; omega
theorem bA_rev {a : List D} : bA a.reverse = bA a := by
  induction a with
  | nil => rfl
  | cons x r ih => simp only [List.reverse_cons, bA_app, bA_cons, bA_nil, ih]; omega
theorem bA_sub {a b : List D} (h : a.Sublist b) : bA a ≤ bA b := by
  induction h with
  | slnil => exact Nat.le_refl _
  | cons _ _ ih => rw [bA_cons]; omega
  | cons_cons _ _ ih => rw [bA_cons, bA_cons]; omega
@[simp] theorem bulk_tup {ds : List D} : (D.tup ds).py.bulk = bA ds := by simp [D.py, PyData.bulk, bA]
@[simp] theorem bulk_fz {ds : List D} : (D.fz ds).py.bulk = bA ds := by simp [D.py, PyData.bulk, bA]
structure Th (n m c : Nat) (d : D) : Prop where
  ok : d.ok n = true
  bg : big c d = true
  bk : d.py.bulk ≤ m
theorem Th.up {n m c n' m' c' : Nat} {d : D} (h : Th n m c d) (hn : n ≤ n') (hm : m ≤ m') (hc : c ≤ c') : Th n' m' c' d := ⟨D_ok_up h.ok hn, big_up hc h.bg, Nat.le_trans h.bk hm⟩
theorem Th.tup {n m c : Nat} {es : List D} (h1 : ∀ e ∈ es, e.ok n = true) (h2 : ∀ e ∈ es, big c e = true) (h3 : bA es ≤ m) : Th (n + 1) m c (.tup es) :=
  ⟨by rw [D.ok, oks_all, List.all_eq_true]; exact h1, by rw [big, bigs_iff]; exact h2, by rw [bulk_tup]; exact h3⟩
theorem Th.fz {n m c : Nat} {es : List D} (h1 : ∀ e ∈ es, e.ok n = true) (h2 : ∀ e ∈ es, big c e = true) (h3 : bA es ≤ m) : Th (n + 1) m c (.fz es) :=
  ⟨by rw [D.ok, oks_all, List.all_eq_true]; exact h1, by rw [big, bigs_iff]; exact h2, by rw [bulk_fz]; exact h3⟩
theorem Th.items {n m c : Nat} {es : List D} (h : Th (n + 1) m c (.tup es)) : (∀ e ∈ es, e.ok n = true) ∧ (∀ e ∈ es, big c e = true) ∧ bA es ≤ m := by
  obtain ⟨a, b, d⟩ := h
  rw [D.ok, oks_all, List.all_eq_true] at a
  rw [big, bigs_iff] at b
  rw [bulk_tup] at d
  exact ⟨a, b, d⟩
theorem Th.int {n m c : Nat} {i : Int} (h : i.natAbs ≤ 10 ^ 203 + c) : Th n m c (.int i) := ⟨by simp [D.ok], by rw [big]; exact decide_eq_true h, by simp [D.py, PyData.bulk]⟩
theorem Th.non {n m c : Nat} : Th n m c .non := ⟨by simp [D.ok], by simp [big], by simp [D.py, PyData.bulk]⟩
theorem Th.bl {n m c : Nat} {b : Bool} : Th n m c (.bl b) := ⟨by simp [D.ok], by simp [big], by simp [D.py, PyData.bulk]⟩
theorem Th.str {n m c : Nat} {x : Str} (h : x.cps.toList.all (fun k => decide (k < 16 ^ 8)) = true) (hl : x.length ≤ m) : Th n m c (.str x) := ⟨by simp [D.ok], by rw [big]; exact h, by simp only [D.py, PyData.bulk]; exact hl⟩
def spR__law_bent (N : Nat) : DSp := fun ds S Q E => ∃ f d m c n, ds = [.ref f, d] ∧ n ≤ N ∧ N ≤ 20 ∧ Th n m c d ∧ m ≤ 40000 ∧ c ≤ 100 ∧ Feed S f ∧ ∀ d' S', Th (n + 1) (2 * m + 210) (c + 1) d' → Feed S' f → Keeps f S S' → Q d' S'
def prv__law_bent : Nat → DSp | 0 => fun _ _ _ _ => False | n + 1 => spR__law_bent n
abbrev sp__law_bent : DSp := spR__law_bent 6
theorem lenR__law_bent (n : Nat) : ∀ ds S Q E, spR__law_bent n ds S Q E → ds.length = (["_law_feed_here", "_law_thing_here"] : List Str).length := fun _ _ _ _ ⟨_, _, _, _, _, e, _⟩ => by rw [e]; rfl
theorem len__law_bent : ∀ ds S Q E, sp__law_bent ds S Q E → ds.length = (["_law_feed_here", "_law_thing_here"] : List Str).length := lenR__law_bent 6
def r__law_bent (spp : DSp) : DTS := dSeq (dIfS (dAnd (dTst (dCB wIsi (dCons (dV 1) (dCons (dC (.ty "tuple")) dNil)))) (dAnd (dTst (dBin wNe (dV 1) (dTup dNil))) (dTst (dBin wGt (dCall sp__law_draw [] (dCons (dV 0) (dCons (dC (.int 5)) dNil))) (dC (.int 0)))))) (dSeq (dAsg (dCall sp__law_draw [] (dCons (dV 0) (dCons (dCB wLen (dCons (dV 1) dNil)) dNil))) (gdName 3)) (dRet (dBin wAddX (dBin wAddX (dCut (dV 1) dNoPart (dPart (dV 3))) (dTup (dCons (dCall spp [] (dCons (dV 0) (dCons (dBin wAt (dV 1) (dV 3)) dNil))) dNil))) (dCut (dV 1) (dPart (dBin wAddX (dV 3) (dC (.int 1)))) dNoPart)))) dNext) (dSeq (dAsg (dCall sp__law_draw [] (dCons (dV 0) (dCons (dC (.int 9)) dNil))) (gdName 2)) (dSeq (dIfS (dTst (dCB wIsi (dCons (dV 1) (dCons (dC (.ty "tuple")) dNil)))) (dSeq (dAsg (dLst (dCons (dFrz (dCB wList (dCons (dV 1) dNil))) (dCons (dRev (dV 1)) (dCons (dTup (dCons (dV 1) dNil)) (dCons (dBin wAddX (dV 1) (dV 1)) (dCons (dTup dNil) (dCons (dC .non) (dCons (dCut (dV 1) (dPart (dC (.int 1))) dNoPart) (dCons (dCut (dV 1) dNoPart (dPart (dUn wNeg (dC (.int 1))))) dNil))))))))) (gdName 4)) (dRet (dBin wAt (dBin wAddX (dV 4) (dLst (dCons (dBin wAddX (dV 1) (dTup (dCons (dC .non) dNil))) dNil))) (dV 2)))) dNext) (dSeq (dIfS (dTst (dCB wIsi (dCons (dV 1) (dCons (dC (.ty "int")) dNil)))) (dRet (dBin wAt (dLst (dCons (dBin wAddX (dV 1) (dC (.int 1))) (dCons (dBin wSubX (dV 1) (dC (.int 1))) (dCons (dBin wEq (dV 1) (dC (.int 1))) (dCons (dCB wStrT (dCons (dV 1) dNil)) (dCons (dC .non) (dCons (dTup (dCons (dV 1) dNil)) (dCons (dC (.int 0)) (dCons (dUn wNeg (dC (.int 1))) (dCons (dBin wPow (dC (.int 10)) (dC (.int 60))) dNil)))))))))) (dV 2))) dNext) (dRet (dBin wAt (dLst (dCons (dC .non) (dCons (dC (.bl true)) (dCons (dC (.int 0)) (dCons (dC (.int 1)) (dCons (dC (.str "")) (dCons (dTup dNil) (dCons (dFLst dNil) (dCons (dUn wNeg (dC (.int 1))) (dCons (dC (.str "a")) dNil)))))))))) (dV 2))))))
abbrev N__law_bent : List Str := ["_law_feed_here", "_law_thing_here", "_law_mode", "_law_at", "_law_odd"]
theorem wNe_tnil {S : Sto} {Q : KD} {es : List D} {n : Nat} (hn : n ≤ 30) (ok : ∀ d ∈ es, d.ok n = true) : wNe (.tup es) (.tup []) S Q = Q (.bl (!decide (es = []))) S := by
  have hall : D.oks es 30 = true := by rw [oks_all, List.all_eq_true]; exact fun d hd => D_ok_up (ok d hd) hn
  have o1 : (D.tup es).ok 31 = true := by rw [D.ok]; exact hall
  unfold wNe
  rw [rd_ok (.tup es) 31 6 S o1, rd_ok (.tup []) 1 6 S rfl, D_ok_up o1 (by decide : 31 ≤ 40)]
  have : (D.tup es).eqv (.tup []) = decide (es = []) := by
    cases es with
    | nil => simp [D.eqv, D.py, D.pys, PyData.eqv, PyData.eqvAll]
    | cons x r => simp [D.eqv, D.py, D.pys, PyData.eqv, PyData.eqvAll]
  rw [this]
  simp [D.ok, D.oks]
theorem onS_mem {k : D → Prop} {xs : List D} {r : Int} (h0 : 0 ≤ r) (h1 : r < xs.length) (q : ∀ x ∈ xs, k x) : onS (atI xs r) k := by
  rw [atI_int h0 h1]; exact q _ (List.getElem_mem _)
theorem wAt_mem {S : Sto} {Q : KD} {G : Addr} {xs : List D} {r : Int} (h : S G = some (.lst xs)) (h0 : 0 ≤ r) (h1 : r < xs.length) (q : ∀ x ∈ xs, Q x S) : wAt (.ref G) (.int r) S Q := by
  rw [wAt_lst h]; exact onS_mem h0 h1 q
theorem toDigits_ok (i : Int) : (Str.ofString (toString i)).cps.toList.all (fun k => decide (k < 16 ^ 8)) = true := by
  rw [List.all_eq_true]
  intro k hk
  have := strOk_mem.mp (strOk_intT i) k hk
  exact decide_eq_true (by omega)
theorem repr_len {i : Int} (h : i.natAbs ≤ 10 ^ 203 + 100) : (Str.ofString (toString i)).length ≤ 206 := by
  have h2 : i.natAbs < 10 ^ 204 := by
    have e1 : (10 : Nat) ^ 204 = 10 * 10 ^ 203 := by rw [Nat.pow_succ, Nat.mul_comm]
    have e2 : 100 ≤ (10 : Nat) ^ 203 := Nat.le_trans (by decide : 100 ≤ 10 ^ 2) (Nat.pow_le_pow_right (by decide) (by decide))
    generalize (10 : Nat) ^ 204 = u at *
    generalize (10 : Nat) ^ 203 = v at *
    omega
  have e := int_text_length_le10 (k := 204) (by decide) h2
  rw [PySem.ofString_length]
  exact Nat.le_trans e (by decide)
theorem log_ok {i : Int} (h : i.natAbs ≤ 10 ^ 203 + 100) : i.natAbs.log2 < 1920 := by
  by_cases e : i.natAbs = 0
  · rw [e]; decide
  · refine (Nat.log2_lt e).mpr (Nat.lt_of_le_of_lt h ?_)
    decide +kernel
theorem cut_to {es : List D} {i : Nat} : DL.cutD es none (some (i : Int)) = es.take i := by
  unfold DL.cutD
  rw [HT.sIx_none, HT.sIx_nat, Nat.sub_zero, List.drop_zero]
  by_cases h : i ≤ es.length
  · rw [Nat.min_eq_left h]
  · rw [Nat.min_eq_right (by omega), List.take_of_length_le (Nat.le_refl _), List.take_of_length_le (by omega)]
theorem cut_on {es : List D} {i : Nat} : DL.cutD es (some (i : Int)) none = es.drop i := by
  unfold DL.cutD
  rw [HT.sIx_none, HT.sIx_nat]
  by_cases h : i ≤ es.length
  · rw [Nat.min_eq_left h, List.take_of_length_le (by simp)]
  · rw [Nat.min_eq_right (by omega), List.drop_of_length_le (Nat.le_refl _), List.drop_of_length_le (by omega)]; simp
theorem cut_init {es : List D} : ∃ r : List D, DL.cutD es none (some (-1)) = r ∧ r.Sublist es := ⟨_, rfl, (List.take_sublist _ _).trans (List.drop_sublist _ _)⟩
theorem Keeps_new {f p : Addr} {S : Sto} {o : AO} (h : S p = none) : Keeps f S (put S p o) := Keeps.new h
theorem Feed.freeT {f p : Addr} {S S1 : Sto} (T : Feed S1 f) (k : Keeps f S S1) (h : S1 p = none) : S p = none := k.free h (T.nt h)
theorem vcR__law_bent (N : Nat) {ds S Q E} (h : spR__law_bent N ds S Q E) : r__law_bent (prv__law_bent N) (bodyEnds Q) (startD N__law_bent ds) S := by
  obtain ⟨f, d, m, c, n, rfl, hnN, hN20, T, hm, hc, F, k⟩ := h
  have hn : n ≤ 20 := by omega
  have hpl := plain_ok T.ok
  unfold r__law_bent
  cases d with
  | tup es =>
    cases n with
    | zero => have := T.ok; simp [D.ok] at this
    | succ n =>
      obtain ⟨N, rfl⟩ : ∃ N', N = N' + 1 := ⟨N - 1, by omega⟩
      obtain ⟨oke, bge, bke⟩ := T.items
      have hlen : es.length ≤ 40000 := by have := bulk_len (ds := es); unfold bA at bke; omega
      have el : es.length + es.length ≤ sizeLine := by rw [sizeLine_eq]; omega
      have el1 : es.length + 1 ≤ sizeLine := by rw [sizeLine_eq]; omega
      have s8 : 8 ≤ sizeLine ∧ 1 ≤ sizeLine := by rw [sizeLine_eq]; decide
      simp [startD]
      rw [wNe_tnil (n := n) (by omega) oke]
      -- the list of ways
      have odd : ∀ (S1 : Sto), Feed S1 f → Keeps f S S1 → ∀ x ∈ ([D.fz es, D.tup es.reverse, D.tup [D.tup es], D.tup (es ++ es), D.tup [], D.non, D.tup (DL.cutD es (some 1) none), D.tup (DL.cutD es none (some (-1)))] ++ [D.tup (es ++ [D.non])]), ∀ S2, Feed S2 f → Keeps f S S2 → Q x S2 := by
        intro S1 F1 K1 x hx S2 F2 K2
        have okt : (D.tup es).ok (n + 1) = true := T.ok
        have c1 : (DL.cutD es (some 1) none).Sublist es := (List.take_sublist _ _).trans (List.drop_sublist _ _)
        have c2 : (DL.cutD es none (some (-1))).Sublist es := (List.take_sublist _ _).trans (List.drop_sublist _ _)
        have sub : ∀ xs : List D, (∀ e ∈ xs, e ∈ es) → bA xs ≤ 2 * m + 210 → Th (n + 1) (2 * m + 210) c (.tup xs) := fun xs h1 h2 => .tup (fun e he => oke e (h1 e he)) (fun e he => bge e (h1 e he)) h2
        refine k x S2 ?_ F2 K2
        simp only [List.mem_append, List.mem_cons, List.not_mem_nil, or_false] at hx
        rcases hx with (rfl | rfl | rfl | rfl | rfl | rfl | rfl | rfl) | rfl
        · exact (Th.fz oke bge (Nat.le_trans bke (by omega) : bA es ≤ 2 * m + 210)).up (by omega) (Nat.le_refl _) (by omega)
        · exact (sub _ (fun e he => List.mem_reverse.mp he) (by rw [bA_rev]; omega)).up (by omega) (Nat.le_refl _) (by omega)
        · exact (Th.tup (n := n + 1) (m := 2 * m + 210) (c := c) (fun e he => by simp at he; subst he; exact okt) (fun e he => by simp at he; subst he; exact T.bg) (by simp; omega)).up (by omega) (Nat.le_refl _) (by omega)
        · exact (sub _ (fun e he => by simpa using he) (by simp; omega)).up (by omega) (Nat.le_refl _) (by omega)
        · exact (sub _ (fun e he => by cases he) (by simp)).up (by omega) (Nat.le_refl _) (by omega)
        · exact .non
        · exact (sub _ (fun e he => c1.subset he) (Nat.le_trans (bA_sub c1) (by omega))).up (by omega) (Nat.le_refl _) (by omega)
        · exact (sub _ (fun e he => c2.subset he) (Nat.le_trans (bA_sub c2) (by omega))).up (by omega) (Nat.le_refl _) (by omega)
        · exact (Th.tup (n := n) (m := 2 * m + 210) (c := c) (fun e he => by
            rcases List.mem_append.mp he with he | he
            · exact oke e he
            · simp at he; subst he; simp [D.ok]) (fun e he => by
            rcases List.mem_append.mp he with he | he
            · exact bge e he
            · simp at he; subst he; simp [big]) (by simp [D.py, PyData.bulk]; omega)).up (by omega) (Nat.le_refl _) (by omega)
      -- the second part
      have part2 : ∀ (S0 : Sto), Feed S0 f → Keeps f S S0 → sp__law_draw [D.ref f, D.int 9] S0 (fun x S1 => ∀ p, S1 p = none → 1 ≤ sizeLine ∧ es.length + es.length ≤ sizeLine ∧ 8 ≤ sizeLine ∧
          ∀ p_1, del (put S1 p (AO.lst es)) p p_1 = none → 1 ≤ sizeLine ∧ es.length + 1 ≤ sizeLine ∧ 1 ≤ sizeLine ∧
            ∀ p_2, put (del (put S1 p (AO.lst es)) p) p_1 (AO.lst [D.fz es, D.tup es.reverse, D.tup [D.tup es], D.tup (es ++ es), D.tup [], D.non, D.tup (DL.cutD es (some 1) none), D.tup (DL.cutD es none (some (-1)))]) p_2 = none →
              onL (put (put (del (put S1 p (AO.lst es)) p) p_1 (AO.lst [D.fz es, D.tup es.reverse, D.tup [D.tup es], D.tup (es ++ es), D.tup [], D.non, D.tup (DL.cutD es (some 1) none), D.tup (DL.cutD es none (some (-1)))])) p_2 (AO.lst [D.tup (es ++ [D.non])])) p_1 fun xs =>
                xs.length + 1 ≤ sizeLine ∧ ∀ p_3, put (put (del (put S1 p (AO.lst es)) p) p_1 (AO.lst [D.fz es, D.tup es.reverse, D.tup [D.tup es], D.tup (es ++ es), D.tup [], D.non, D.tup (DL.cutD es (some 1) none), D.tup (DL.cutD es none (some (-1)))])) p_2 (AO.lst [D.tup (es ++ [D.non])]) p_3 = none →
                  wAt (D.ref p_3) x (put (put (put (del (put S1 p (AO.lst es)) p) p_1 (AO.lst [D.fz es, D.tup es.reverse, D.tup [D.tup es], D.tup (es ++ es), D.tup [], D.non, D.tup (DL.cutD es (some 1) none), D.tup (DL.cutD es none (some (-1)))])) p_2 (AO.lst [D.tup (es ++ [D.non])])) p_3 (AO.lst (xs ++ [D.tup (es ++ [D.non])]))) Q) noX := by
        intro S0 F0 K0
        refine ⟨f, 9, rfl, by omega, by omega, F0, fun r S1 r0 r1 F1 K1 => ?_⟩
        have K1' := K0.trans K1
        intro p hp
        refine ⟨s8.2, el, s8.1, ?_⟩
        rw [del_put hp]
        intro G hG
        refine ⟨s8.2, el1, s8.2, fun U hU => ?_⟩
        have F2 := F1.new (o := .lst [D.fz es, D.tup es.reverse, D.tup [D.tup es], D.tup (es ++ es), D.tup [], D.non, D.tup (DL.cutD es (some 1) none), D.tup (DL.cutD es none (some (-1)))]) hG
        have K2 : Keeps f S (put S1 G (.lst [D.fz es, D.tup es.reverse, D.tup [D.tup es], D.tup (es ++ es), D.tup [], D.non, D.tup (DL.cutD es (some 1) none), D.tup (DL.cutD es none (some (-1)))])) := K1'.then (F1.freeT K1' hG)
        have gG : put S1 G (.lst [D.fz es, D.tup es.reverse, D.tup [D.tup es], D.tup (es ++ es), D.tup [], D.non, D.tup (DL.cutD es (some 1) none), D.tup (DL.cutD es none (some (-1)))]) G = some (.lst [D.fz es, D.tup es.reverse, D.tup [D.tup es], D.tup (es ++ es), D.tup [], D.non, D.tup (DL.cutD es (some 1) none), D.tup (DL.cutD es none (some (-1)))]) := put_same
        generalize hod : [D.fz es, D.tup es.reverse, D.tup [D.tup es], D.tup (es ++ es), D.tup [], D.non, D.tup (DL.cutD es (some 1) none), D.tup (DL.cutD es none (some (-1)))] = od at *
        generalize put S1 G (.lst od) = SG at *
        have hGU : G ≠ U := ne_of_free hU gG
        rw [onL_eq (by rw [put_ne hGU]; exact gG)]
        have l8 : od.length = 8 := by rw [← hod]; rfl
        refine ⟨by rw [l8, sizeLine_eq]; decide, fun V hV => ?_⟩
        have F3 := F2.new (o := .lst [D.tup (es ++ [D.non])]) hU
        have K3 := K2.then (o := .lst [D.tup (es ++ [D.non])]) (F2.freeT K2 hU)
        exact wAt_mem put_same r0 (by simp [l8]; omega) fun x hx => odd S1 F1 K1' x hx _ (F3.new hV) (K3.then (F3.freeT K3 hV))
      cases hne : decide (es = []) with
      | true => exact part2 S F .refl
      | false =>
        have hne' : es ≠ [] := of_decide_eq_false hne
        have hpos := List.length_pos_iff.mpr hne'
        simp
        refine ⟨f, 5, rfl, by omega, by omega, F, fun r5 S1 _ _ F1 K1 => ?_⟩
        by_cases h5 : 0 < r5
        · simp [h5]
          refine ⟨f, _, rfl, by omega, by omega, F1, fun i S2 i0 i1 F2 K2 => ?_⟩
          obtain ⟨j, rfl⟩ : ∃ j : Nat, i = (j : Int) := ⟨i.toNat, by omega⟩
          have hj : j < es.length := by omega
          have ej : atI es (j : Int) = some es[j] := atI_nat hj
          simp [ej]
          have hm' := List.getElem_mem hj
          have hb1 := bulk_mem hm'
          have split : bA es = bA (es.take j) + (es[j].py.bulk + 1) + bA (es.drop (j + 1)) := by
            have e1 : es = es.take j ++ es[j] :: es.drop (j + 1) := by rw [List.getElem_cons_drop, List.take_append_drop]
            have e2 := congrArg bA e1
            rw [bA_app, bA_cons] at e2
            omega
          refine ⟨f, es[j], es[j].py.bulk, c, n, rfl, by omega, by omega, ⟨oke _ hm', bge _ hm', Nat.le_refl _⟩, by unfold bA at bke; omega, hc, F2, fun d' S3 T' F3 K3 => ?_⟩
          have ej1 : (j : Int) + 1 = ((j + 1 : Nat) : Int) := by omega
          rw [cut_to]
          have z1 : (es.take j).length ≤ es.length := by rw [List.length_take]; omega
          have z2 : (es.drop (j + 1)).length ≤ es.length := by rw [List.length_drop]; omega
          refine ⟨s8.2, by rw [sizeLine_eq]; omega, ?_⟩
          rw [ej1, cut_on]
          refine ⟨by rw [sizeLine_eq]; omega, k _ _ (.tup (fun e he => ?_) (fun e he => ?_) ?_) F3 ((K1.trans K2).trans K3)⟩
          · rcases List.mem_append.mp he with he | he
            · exact D_ok_up (oke e (List.mem_of_mem_take he)) (by omega)
            · rcases List.mem_cons.mp he with rfl | he
              · exact T'.ok
              · exact D_ok_up (oke e (List.mem_of_mem_drop he)) (by omega)
          · rcases List.mem_append.mp he with he | he
            · exact big_up (by omega) (bge e (List.mem_of_mem_take he))
            · rcases List.mem_cons.mp he with rfl | he
              · exact T'.bg
              · exact big_up (by omega) (bge e (List.mem_of_mem_drop he))
          · have := T'.bk
            rw [bA_app, bA_cons]
            omega
        · simp [h5]
          exact part2 S1 F1 K1
  | int i =>
    have hi : i.natAbs ≤ 10 ^ 203 + c := by have := T.bg; rw [big] at this; exact of_decide_eq_true this
    have hi2 : i.natAbs ≤ 10 ^ 203 + 100 := by omega
    have p60 : (10 : Int) ^ 60 = 1000000000000000000000000000000000000000000000000000000000000 := by decide +kernel
    have h60 : (1000000000000000000000000000000000000000000000000000000000000 : Int).natAbs ≤ 10 ^ 203 := by decide +kernel
    have h2 : 2 ≤ 10 ^ 203 := by decide +kernel
    have up : ∀ j : Int, j.natAbs ≤ i.natAbs + 1 → Th (n + 1) (2 * m + 210) (c + 1) (.int j) := fun j hj => .int (by generalize (10 : Nat) ^ 203 = B at *; omega)
    have small : ∀ j : Int, j.natAbs ≤ 10 ^ 203 → Th (n + 1) (2 * m + 210) (c + 1) (.int j) := fun j hj => .int (by generalize (10 : Nat) ^ 203 = B at *; omega)
    have hstr : Th (n + 1) (2 * m + 210) (c + 1) (.str (Str.ofString (toString i))) := .str (toDigits_ok i) (Nat.le_trans (repr_len hi2) (by omega))
    have htup : Th (n + 1) (2 * m + 210) (c + 1) (.tup [.int i]) := .tup (fun e he => by simp at he; subst he; simp [D.ok]) (fun e he => by simp at he; subst he; exact big_up (by omega) T.bg) (by simp [D.py, PyData.bulk])
    simp [startD]
    refine ⟨f, 9, rfl, by omega, by omega, F, fun r S1 r0 r1 F1 K1 => ?_⟩
    simp
    refine ⟨log_ok hi2, by rw [sizeLine_eq]; decide, ⟨by decide, by decide, by decide⟩, by rw [sizeLine_eq]; decide, fun p hp => onS_mem r0 (by simpa using r1) fun x hx => k x _ ?_ (F1.new hp) (K1.then (F1.freeT K1 hp))⟩
    simp only [List.mem_cons, List.not_mem_nil, or_false] at hx
    rcases hx with rfl | rfl | rfl | rfl | rfl | rfl | rfl | rfl | rfl
    · exact up _ (by omega)
    · exact up _ (by omega)
    · exact .bl
    · exact hstr
    · exact .non
    · exact htup
    · exact small _ (Nat.le_trans (by decide) h2)
    · exact small _ (Nat.le_trans (by decide) h2)
    · exact small _ h60
  | bl b =>
    have p60 : (10 : Int) ^ 60 = 1000000000000000000000000000000000000000000000000000000000000 := by decide +kernel
    have h60 : (1000000000000000000000000000000000000000000000000000000000000 : Int).natAbs ≤ 10 ^ 203 := by decide +kernel
    have h2 : 2 ≤ 10 ^ 203 := by decide +kernel
    have small : ∀ j : Int, j.natAbs ≤ 10 ^ 203 → Th (n + 1) (2 * m + 210) (c + 1) (.int j) := fun j hj => .int (by generalize (10 : Nat) ^ 203 = B at *; omega)
    have hb : ∀ v : Int, v = -1 ∨ v = 0 ∨ v = 1 ∨ v = 2 → Th (n + 1) (2 * m + 210) (c + 1) (.int v) := fun v hv => small v (by generalize (10 : Nat) ^ 203 = B at *; omega)
    have hb2 : b2i b = 0 ∨ b2i b = 1 := by cases b <;> simp [b2i]
    have hstr : Th (n + 1) (2 * m + 210) (c + 1) (.str (if b = true then "True" else "False")) := by
      cases b
      · exact .str (by decide +kernel) (Nat.le_trans (by decide +kernel : _ ≤ 5) (by omega))
      · exact .str (by decide +kernel) (Nat.le_trans (by decide +kernel : _ ≤ 5) (by omega))
    have htup : Th (n + 1) (2 * m + 210) (c + 1) (.tup [.bl b]) := .tup (fun e he => by simp at he; subst he; simp [D.ok]) (fun e he => by simp at he; subst he; simp [big]) (by simp [D.py, PyData.bulk])
    simp [startD]
    refine ⟨f, 9, rfl, by omega, by omega, F, fun r S1 r0 r1 F1 K1 => ?_⟩
    have wEq_bi : ∀ (S : Sto) (Q : KD), wEq (.bl b) (.int 1) S Q = Q (.bl ((D.bl b).eqv (.int 1))) S := fun S Q => by
      show (_ ∧ _ ∧ _) = _
      exact propext ⟨fun h => h.2.2, fun h => ⟨rfl, rfl, h⟩⟩
    simp [wEq_bi]
    refine ⟨by rw [sizeLine_eq]; decide, ⟨by decide, by decide, by decide⟩, by rw [sizeLine_eq]; decide, fun p hp => onS_mem r0 (by simpa using r1) fun x hx => k x _ ?_ (F1.new hp) (K1.then (F1.freeT K1 hp))⟩
    simp only [List.mem_cons, List.not_mem_nil, or_false] at hx
    rcases hx with rfl | rfl | rfl | rfl | rfl | rfl | rfl | rfl | rfl
    · exact hb _ (by omega)
    · exact hb _ (by omega)
    · exact .bl
    · exact hstr
    · exact .non
    · exact htup
    · exact hb _ (by omega)
    · exact hb _ (by omega)
    · exact small _ h60
  | _ =>
    first
    | (simp [plain] at hpl; done)
    | (have h2 : 2 ≤ 10 ^ 203 := by decide +kernel
       have small : ∀ j : Int, j.natAbs ≤ 10 ^ 203 → Th (n + 1) (2 * m + 210) (c + 1) (.int j) := fun j hj => .int (by generalize (10 : Nat) ^ 203 = B at *; omega)
       simp [startD]
       refine ⟨f, 9, rfl, by omega, by omega, F, fun r S1 r0 r1 F1 K1 => ?_⟩
       simp
       refine ⟨by rw [sizeLine_eq]; decide, fun p hp => onS_mem r0 (by simpa using r1) fun x hx => k x _ ?_ (F1.new hp) (K1.then (F1.freeT K1 hp))⟩
       simp only [List.mem_cons, List.not_mem_nil, or_false] at hx
       rcases hx with rfl | rfl | rfl | rfl | rfl | rfl | rfl | rfl | rfl
       · exact .non
       · exact .bl
       · exact small _ (Nat.zero_le _)
       · exact small _ (Nat.le_trans (by decide) h2)
       · exact .str (by decide +kernel) (Nat.zero_le _)
       · exact .tup (by simp) (by simp) (by simp)
       · exact .fz (by simp) (by simp) (by simp)
       · exact small _ (Nat.le_trans (by decide) h2)
       · exact .str (by decide +kernel) (Nat.le_trans (by decide +kernel : _ ≤ 1) (by omega)))
end KF

namespace KF
open PySem PySem.Spec PyProof.Rows L2 DL
def okS (x : Str) : Bool := x.cps.toList.all fun k => decide (k < 16 ^ 8)
def sp__law_text : DSp := fun ds S Q E => ∃ f, ds = [.ref f] ∧ Feed S f ∧ ∀ x S', x.length ≤ 30 → okS x = true → Feed S' f → Keeps f S S' → Q (.str x) S'
theorem len__law_text : ∀ ds S Q E, sp__law_text ds S Q E → ds.length = (["_law_feed_here"] : List Str).length := fun _ _ _ _ ⟨_, e, _⟩ => by rw [e]; rfl
def r__law_text : DTS := dSeq (dAsg (dC (.str " !\"#$&'()*+,-./0123456789:;<=>?@ABCDEFGHIJKLMNOPQRSTUVWXYZ[\\]^_`abcdefghijklmnopqrstuvwxyz{|}~")) (gdName 1)) (dSeq (dAsg (dBin wAt (dLst (dCons (dC (.str "abcdefghijklmnopqrstuvwxyz")) (dCons (dV 1) dNil))) (dCall sp__law_draw [] (dCons (dV 0) (dCons (dC (.int 2)) dNil)))) (gdName 2)) (dSeq (dAsg (dBM "str" wJoin (dC (.str "")) (dCons (dLC (diRng1 (dCons (dCall sp__law_draw [] (dCons (dV 0) (dCons (dC (.int 11)) dNil))) dNil)) (gdName 5) dYes [5] [5] [] (dBin wAt (dV 2) (dCall sp__law_draw [] (dCons (dV 0) (dCons (dCB wLen (dCons (dV 2) dNil)) dNil))))) dNil)) (gdName 3)) (dSeq (dIfS (dTst (dBin wEq (dCall sp__law_draw [] (dCons (dV 0) (dCons (dC (.int 2)) dNil))) (dC (.int 0)))) (dSeq (dAsg (dCall sp__law_draw [] (dCons (dV 0) (dCons (dBin wAdd (dCB wLen (dCons (dV 3) dNil)) (dC (.int 1))) dNil))) (gdName 4)) (dAsg (dBin wAdd (dBin wAdd (dCut (dV 3) dNoPart (dPart (dV 4))) (dBin wAt (dV 1) (dCall sp__law_draw [] (dCons (dV 0) (dCons (dC (.int 94)) dNil))))) (dCut (dV 3) (dPart (dBin wAdd (dV 4) (dCall sp__law_draw [] (dCons (dV 0) (dCons (dC (.int 2)) dNil))))) dNoPart)) (gdName 3))) dNext) (dRet (dV 3)))))
abbrev N__law_text : List Str := ["_law_feed_here", "_law_signs", "_law_some", "_law_text_here", "_law_at", "_law_k"]
theorem len_app (a b : Str) : (a ++ b).length = a.length + b.length := by
  show (Str.append a b).cps.size = _
  simp [Str.append, Str.length]
theorem okS_app {a b : Str} (ha : okS a = true) (hb : okS b = true) : okS (a ++ b) = true := by
  unfold okS at *
  rw [List.all_eq_true] at *
  intro c hc
  have : c ∈ (Str.append a b).cps.toList := hc
  simp only [Str.append, Array.toList_append, List.mem_append] at this
  rcases this with h | h
  · exact ha c h
  · exact hb c h
theorem join_ok {e : Str} (he : e.length = 0) (ho : okS e = true) : ∀ ys : List Str, (∀ y ∈ ys, y.length = 1 ∧ okS y = true) → (Str.join e ys).length ≤ ys.length ∧ okS (Str.join e ys) = true
  | [], _ => ⟨by show (Str.ofString "").length ≤ 0; decide, by show okS (Str.ofString "") = true; decide +kernel⟩
  | [x], h => by
    have := h x (List.mem_cons_self ..)
    exact ⟨by show x.length ≤ 1; omega, this.2⟩
  | x :: y :: r, h => by
    have h1 := h x (List.mem_cons_self ..)
    obtain ⟨h2, h3⟩ := join_ok he ho (y :: r) fun z hz => h z (List.mem_cons_of_mem _ hz)
    have e1 : Str.join e (x :: y :: r) = x ++ e ++ Str.join e (y :: r) := rfl
    rw [e1]
    refine ⟨?_, okS_app (okS_app h1.2 ho) h3⟩
    rw [len_app, len_app, he]
    simp only [List.length_cons] at h2 ⊢
    omega
theorem cut_okS {z : Str} {lo hi : Option Int} (h : okS z = true) : okS (cutS z lo hi) = true := by
  unfold okS at *
  rw [List.all_eq_true] at *
  intro c hc
  exact h c (List.mem_of_mem_drop (List.mem_of_mem_take (by simpa [cutS] using hc)))
theorem wAt_text {z : Str} {i : Int} {S : Sto} {Q : KD} (hz : okS z = true) (hl : z.length ≤ 1000) (h0 : 0 ≤ i) (h1 : i < z.length) (q : ∀ y : Str, y.length = 1 → okS y = true → Q (.str y) S) : wAt (.str z) (.int i) S Q := by
  have e : wAt (.str z) (.int i) S Q = (z.length ≤ sizeLine ∧ onS (atI z.cps.toList i) fun c => Q (.str ⟨#[c]⟩) S) := rfl
  rw [e]
  have hl2 : i < z.cps.toList.length := by simpa [Str.length] using h1
  refine ⟨by rw [sizeLine_eq]; omega, ?_⟩
  rw [atI_int h0 hl2]
  refine q _ rfl ?_
  unfold okS at hz
  rw [List.all_eq_true] at hz
  show ([z.cps.toList[i.toNat]] : List Nat).all _ = true
  simp only [List.all_cons, List.all_nil, Bool.and_true]
  exact hz _ (List.getElem_mem _)
theorem wJoin_of {S : Sto} {Q : KD} {L : Addr} {e : Str} {ys : List Str} (h : S L = some (.lst (ys.map D.str))) (he : e.length = 0) (ho : okS e = true) (hy : ∀ y ∈ ys, y.length = 1 ∧ okS y = true) (hl : ys.length ≤ 1000) (q : ∀ x : Str, x.length ≤ ys.length → okS x = true → Q (.str x) S) : wJoin (.str e) [.ref L] S Q := by
  show onS (lstOf S (.ref L)) _
  rw [lstOf_ref h]
  show onS (strsD _) _
  rw [strsD_map]
  obtain ⟨h1, h2⟩ := join_ok he ho ys hy
  refine ⟨?_, q _ h1 h2⟩
  have : (ys.map (·.length)).sum ≤ ys.length := by
    clear h h1 h2 q hl
    induction ys with
    | nil => simp
    | cons y r ih =>
      have := ih fun z hz => hy z (List.mem_cons_of_mem _ hz)
      have := (hy y (List.mem_cons_self ..)).1
      simp only [List.map_cons, List.sum_cons, List.length_cons]; omega
  rw [he]
  omega
theorem vc__law_text {ds S Q E} (h : sp__law_text ds S Q E) : r__law_text (bodyEnds Q) (startD N__law_text ds) S := by
  obtain ⟨f, rfl, F, k⟩ := h
  unfold r__law_text
  have sg : 94 ≤ (Str.ofString " !\"#$&'()*+,-./0123456789:;<=>?@ABCDEFGHIJKLMNOPQRSTUVWXYZ[\\]^_`abcdefghijklmnopqrstuvwxyz{|}~").length ∧ (Str.ofString " !\"#$&'()*+,-./0123456789:;<=>?@ABCDEFGHIJKLMNOPQRSTUVWXYZ[\\]^_`abcdefghijklmnopqrstuvwxyz{|}~").length ≤ 100 ∧ okS (Str.ofString " !\"#$&'()*+,-./0123456789:;<=>?@ABCDEFGHIJKLMNOPQRSTUVWXYZ[\\]^_`abcdefghijklmnopqrstuvwxyz{|}~") = true := by decide +kernel
  generalize Str.ofString " !\"#$&'()*+,-./0123456789:;<=>?@ABCDEFGHIJKLMNOPQRSTUVWXYZ[\\]^_`abcdefghijklmnopqrstuvwxyz{|}~" = sgs at *
  have az : 1 ≤ (Str.ofString "abcdefghijklmnopqrstuvwxyz").length ∧ (Str.ofString "abcdefghijklmnopqrstuvwxyz").length ≤ 100 ∧ okS (Str.ofString "abcdefghijklmnopqrstuvwxyz") = true := by decide +kernel
  generalize Str.ofString "abcdefghijklmnopqrstuvwxyz" = azs at *
  have em : (Str.ofString "").length = 0 ∧ okS (Str.ofString "") = true := by decide +kernel
  generalize Str.ofString "" = ems at *
  simp [startD]
  refine ⟨by rw [sizeLine_eq]; decide, fun p hp => ?_⟩
  refine ⟨f, 2, rfl, by omega, by omega, F.new hp, fun r S1 r0 r1 F1 K1 => ?_⟩
  have K1' : Keeps f S S1 := (Keeps.new hp).trans K1
  have g1 := K1 _ _ (F.nt hp) put_same
  refine wAt_mem g1 r0 (by simpa using r1) fun x hx => ?_
  obtain ⟨al, rfl, al1, al2, al3⟩ : ∃ al : Str, x = .str al ∧ 1 ≤ al.length ∧ al.length ≤ 100 ∧ okS al = true := by
    simp only [List.mem_cons, List.not_mem_nil, or_false] at hx
    rcases hx with rfl | rfl
    · exact ⟨_, rfl, az⟩
    · exact ⟨_, rfl, by omega, sg.2⟩
  refine ⟨rfl, f, 11, rfl, by omega, by omega, F1, fun j S2 j0 j1 F2 K2 => ?_⟩
  simp
  refine ⟨by omega, by omega, fun L hL => ?_⟩
  have Lf := F2.nt hL
  have K2' := K1'.trans K2
  rw [rngD_map]
  refine loopC_map (fun i : Nat => D.int (i : Int)) (fun done S' => ∃ ys : List Str, S' L = some (.lst (ys.map D.str)) ∧ Feed S' f ∧ Keeps f S S' ∧ ys.length = done.length ∧ ∀ y ∈ ys, y.length = 1 ∧ okS y = true) (fun _ _ _ => trivial) (fun S' h => ?_) (fun done i rest S' es h N hN => ?_) ⟨[], put_same, F2.new hL, K2'.then (F2.freeT K2' hL), rfl, by simp⟩
  · obtain ⟨ys, e, F3, K3, hl, hy⟩ := h
    rw [List.length_range] at hl
    refine wJoin_of e em.1 em.2 hy (by omega) fun x xl xo => ?_
    refine ⟨f, 2, rfl, by omega, by omega, F3, fun r S4 r0 r1 F4 K4 => ?_⟩
    simp
    by_cases hr : r = 0
    · subst hr
      simp
      refine ⟨by rw [sizeLine_eq]; omega, f, _, rfl, by omega, by omega, F4, fun a S5 a0 a1 F5 K5 => ?_⟩
      show _ ∧ _
      refine ⟨by rw [sizeLine_eq]; omega, f, 94, rfl, by omega, by omega, F5, fun b S6 b0 b1 F6 K6 => ?_⟩
      refine wAt_text sg.2.2 (by omega) b0 (by omega) fun y yl yo => ?_
      have c1 := cutS_length x none (some a)
      simp
      refine ⟨by rw [sizeLine_eq]; omega, f, 2, rfl, by omega, by omega, F6, fun d S7 d0 d1 F7 K7 => ?_⟩
      simp
      have c2 := cutS_length x (some (a + d)) none
      refine ⟨by rw [sizeLine_eq]; omega, by rw [len_app, sizeLine_eq]; omega, k _ _ (by rw [len_app, len_app]; omega) (okS_app (okS_app (cut_okS xo) yo) (cut_okS xo)) F7 ((((K3.trans K4).trans K5).trans K6).trans K7)⟩
    · simp [hr]
      exact k x S4 (by omega) xo F4 (K3.trans K4)
  · obtain ⟨ys, e, F3, K3, hl, hy⟩ := h
    have hd : done.length < 11 := by
      have := congrArg List.length es
      simp at this; omega
    simp
    refine ⟨by rw [sizeLine_eq]; omega, f, _, rfl, by omega, by omega, F3, fun b S6 b0 b1 F6 K6 => ?_⟩
    refine wAt_text al3 (by omega) b0 b1 fun y yl yo => ?_
    rw [onL_eq (K6 _ _ Lf e)]
    refine ⟨by rw [List.length_map, sizeLine_eq]; omega, hN _ ⟨ys ++ [y], by rw [put_same]; simp, F6.put Lf, fun u o z hu => ?_, by simp [hl], fun z hz => ?_⟩⟩
    · have := (K3.trans K6) u o z hu
      by_cases e1 : u = L
      · subst e1
        have := K2' u o z hu
        rw [hL] at this; cases this
      · rw [put_ne e1]; exact this
    · rcases List.mem_append.mp hz with hz | hz
      · exact hy z hz
      · simp at hz; subst hz; exact ⟨yl, yo⟩
end KF

namespace KG
open PySem PySem.Spec PyProof.Rows L2 DL KF
def ne0 : D → Bool | .tup es => decide (es ≠ []) | _ => false
def kindB : D → Bool | .str x => decide (x = "drawer" ∨ x = "sheet") | _ => false
def thingB (c : Nat) (d : D) : Bool := if c = 107 then kindB d else isWay d && (decide (c = 118) || ne0 d)
def wayLen (d : D) : Prop := ∀ es, d = .tup es → es.length ≤ 100000 ∧ ∀ e ∈ es, shortT e
def sp_is_thing : DSp := fun ds S Q E => ∃ c d, ds = [.str ⟨#[c]⟩, d] ∧ d.ok 30 = true ∧ wayLen d ∧ ∀ S', Q (.bl (thingB c d)) S'
theorem len_is_thing : ∀ ds S Q E, sp_is_thing ds S Q E → ds.length = (["sort", "thing"] : List Str).length := fun _ _ _ _ ⟨_, _, e, _⟩ => by rw [e]; rfl
def r_is_thing : DTS := dSeq (dIfS (dTst (dBin wEq (dV 0) (dC (.str "k")))) (dRet (dAndV (dCB wIsi (dCons (dV 1) (dCons (dC (.ty "str")) dNil))) (dBin (wIn false) (dV 1) (dTup (dCons (dC (.str "drawer")) (dCons (dC (.str "sheet")) dNil)))))) dNext) (dRet (dAndV (dCall (pur sp_is_way) [] (dCons (dV 1) dNil)) (dOrV (dBin wEq (dV 0) (dC (.str "v"))) (dBin wGt (dCB wLen (dCons (dV 1) dNil)) (dC (.int 0))))))
abbrev N_is_thing : List Str := ["sort", "thing"]
theorem one_k {c : Nat} : ((⟨#[c]⟩ : Str) = "k") ↔ c = 107 := by
  have e : (Str.ofString "k") = ⟨#[107]⟩ := by decide +kernel
  rw [e]; simp
theorem one_v {c : Nat} : ((⟨#[c]⟩ : Str) = "v") ↔ c = 118 := by
  have e : (Str.ofString "v") = ⟨#[118]⟩ := by decide +kernel
  rw [e]; simp
theorem way_tup {d : D} (h : isWay d = true) : ∃ es, d = .tup es := by
  cases d <;> first | exact ⟨_, rfl⟩ | simp [isWay] at h
theorem in_kinds {S : Sto} {Q : KD} {x : Str} : wIn false (.str x) (.tup [.str "drawer", .str "sheet"]) S Q = Q (.bl (kindB (.str x))) S := by
  rw [wIn_tup (.cl rfl) (by simp [D.cl])]
  simp [kindB]
theorem vc_is_thing {ds S Q E} (h : sp_is_thing ds S Q E) : r_is_thing (bodyEnds Q) (startD N_is_thing ds) S := by
  obtain ⟨c, d, rfl, ok, hl, k⟩ := h
  have k0 := k S
  have hpl := plain_ok ok
  unfold r_is_thing
  by_cases hc : c = 107
  · simp [startD, one_k, hc]
    have e : thingB c d = kindB d := by simp [thingB, hc]
    rw [e] at k0
    cases d with
    | str x => simp [in_kinds]; exact ⟨by rw [sizeLine_eq]; decide, k0⟩
    | _ => first | exact Bool.noConfusion hpl | (simpa [kindB] using k0)
  · simp [startD, one_k, hc]
    refine ⟨d, rfl, ok, hl, fun S' => ?_⟩
    have e : thingB c d = (isWay d && (decide (c = 118) || ne0 d)) := by simp [thingB, hc]
    rw [e] at k0
    cases hw : isWay d
    · rw [hw] at k0; simpa using k0
    · obtain ⟨es, rfl⟩ := way_tup hw
      rw [hw] at k0
      simp [one_v]
      by_cases hv : c = 118
      · simp [hv] at k0 ⊢; exact k0
      · simp [hv, ne0] at k0 ⊢
        have e2 : decide (0 < es.length) = !decide (es = []) := by cases es <;> simp
        rw [e2]; exact k0
end KG

namespace KG
open PySem PySem.Spec PyProof.Rows L2 DL KF
theorem wayLen_of {d : D} (hb : d.py.bulk ≤ 90000) : wayLen d := fun xs ex => by
  subst ex
  rw [bulk_tup] at hb
  refine ⟨Nat.le_trans (bulk_len (ds := xs)) (by unfold bA at hb; omega), fun y hy x exy => ?_⟩
  subst exy
  have := bulk_mem hy
  unfold bA at hb
  simp only [D.py, PyData.bulk] at this
  have e2 : x.length = x.cps.size := rfl
  omega
def formsT : List (Str × Str) := [("look", "v"), ("list", "v"), ("make", "wk"), ("drop", "w"), ("link", "ww"), ("move", "ww"), ("swap", "ww")]
def sortsB (x : Str) (r : List D) : Bool := decide (x.length = r.length) && (x.cps.toList.zip r).all fun p => thingB p.1 p.2
def deedB : D → Bool
  | .tup (.str w :: r) => (match formsT.find? (·.1 = w) with | some p => sortsB p.2 r | none => false)
  | _ => false
def sp_is_deed : DSp := fun ds S Q E => ∃ d, ds = [d] ∧ d.ok 30 = true ∧ d.py.bulk ≤ 90000 ∧ ∀ S', Q (.bl (deedB d)) S'
theorem len_is_deed : ∀ ds S Q E, sp_is_deed ds S Q E → ds.length = (["thing"] : List Str).length := fun _ _ _ _ ⟨_, e, _⟩ => by rw [e]; rfl
def r_is_deed : DTS := dSeq (dIfS (dOr (dNot (dTst (dCB wIsi (dCons (dV 0) (dCons (dC (.ty "tuple")) dNil))))) (dOr (dTst (dBin wEq (dCB wLen (dCons (dV 0) dNil)) (dC (.int 0)))) (dNot (dTst (dCB wIsi (dCons (dBin wAt (dV 0) (dC (.int 0))) (dCons (dC (.ty "str")) dNil))))))) (dRet (dC (.bl false))) dNext) (dSeq (dAsg (dV 0) (gdStar 2 1 (gdCons (gdName 2) (gdCons (gdName 3) gdNil)))) (dSeq (dAsg (dKGet [("look", "v"), ("list", "v"), ("make", "wk"), ("drop", "w"), ("link", "ww"), ("move", "ww"), ("swap", "ww")] (dV 2)) (gdName 1)) (dSeq (dIfS (dOr (dTst (dBin wIsN (dV 1) (dC .non))) (dTst (dBin wNe (dCB wLen (dCons (dV 1) dNil)) (dCB wLen (dCons (dV 3) dNil))))) (dRet (dC (.bl false))) dNext) (dRet (dCB wAll (dCons (dLC (diZipSL (dCons (dV 1) (dCons (dV 3) dNil))) (gdTup 2 (gdCons (gdName 4) (gdCons (gdName 5) gdNil))) dYes [4, 5] [4, 5] [] (dCall (pur sp_is_thing) [] (dCons (dV 4) (dCons (dV 5) dNil)))) dNil))))))
abbrev N_is_deed : List Str := ["thing", "sorts", "word", "rest", "sort", "one"]
def encP (p : Nat × D) : D := .wt [.str ⟨#[p.1]⟩, p.2]
theorem zip_enc (x : Str) (r : List D) : zipD (sgD x) r = (x.cps.toList.zip r).map encP := by
  unfold zipD sgD
  rw [List.zipWith_map_left, List.map_zip_eq_zipWith]
  rfl
theorem at0 {e : D} {r : List D} : atI (e :: r) 0 = some e := by first | rfl | simp [atI, ixN]
theorem formsT_len : ∀ p ∈ formsT, p.2.length ≤ 2 := by decide +kernel
theorem vc_is_deed {ds S Q E} (h : sp_is_deed ds S Q E) : r_is_deed (bodyEnds Q) (startD N_is_deed ds) S := by
  obtain ⟨d, rfl, ok, bk, k⟩ := h
  have k0 := k S
  have hpl := plain_ok ok
  have hl := wayLen_of bk
  unfold r_is_deed
  generalize ht : [((("look" : Str)), (("v" : Str))), ("list", "v"), ("make", "wk"), ("drop", "w"), ("link", "ww"), ("move", "ww"), ("swap", "ww")] = T
  have ht' : formsT = T := ht
  cases d with
  | tup es =>
    cases es with
    | nil =>
      simp [startD]
      exact k0
    | cons e r =>
      have hlen := (hl _ rfl).1
      simp only [List.length_cons] at hlen
      have hpe : KF.plain e = true := by
        have ok' := ok
        rw [D.ok, oks_all, List.all_eq_true] at ok'
        exact plain_ok (ok' e (by simp))
      generalize hX : dRet (dCB wAll (dCons (dLC (diZipSL (dCons (dV 1) (dCons (dV 3) dNil))) (gdTup 2 (gdCons (gdName 4) (gdCons (gdName 5) gdNil))) dYes [4, 5] [4, 5] [] (dCall (pur sp_is_thing) [] (dCons (dV 4) (dCons (dV 5) dNil)))) dNil)) = X
      generalize hX3 : dSeq (dIfS (dOr (dTst (dBin wIsN (dV 1) (dC D.non))) (dTst (dBin wNe (dCB wLen (dCons (dV 1) dNil)) (dCB wLen (dCons (dV 3) dNil))))) (dRet (dC (D.bl false))) dNext) X = X3
      generalize hX2 : dSeq (dAsg (dV 0) (gdStar 2 1 (gdCons (gdName 2) (gdCons (gdName 3) gdNil)))) _ = X2
      have hn : ¬ ((r.length : Int) + 1 = 0) := by omega
      cases e with
      | str w =>
        simp [startD, at0, hn]
        subst hX2
        refine ⟨by simp, fun p hp => ?_⟩
        have e1 : ((D.str w :: r).drop 1).take ((D.str w :: r).length + 1 - 2) = r := by simp
        have e2 : ((D.str w :: r).drop 1).drop ((D.str w :: r).length + 1 - 2) = [] := by simp
        have e3 : List.take 1 (D.str w :: r) ++ [D.ref p] ++ [] = [D.str w, .ref p] := by simp
        rw [e1, e2, e3]
        generalize hS : put S p (.lst r) = S1
        have g1 : S1 p = some (.lst r) := by rw [← hS]; exact put_same
        refine ⟨rfl, ?_⟩
        show dSeq (dAsg (dKGet T (dV 2)) (gdName 1)) X3 (bodyEnds Q) [some (.tup (.str w :: r)), none, some (.str w), some (.ref p), none, none] S1
        have k1 := k S1
        have ed : deedB (.tup (.str w :: r)) = (match T.find? (·.1 = w) with | some q => sortsB q.2 r | none => false) := by rw [← ht']; rfl
        rw [ed] at k1
        show X3 (bodyEnds Q) [some (.tup (.str w :: r)), some (match T.find? (·.1 = w) with | some q => .str q.2 | none => .non), some (.str w), some (.ref p), none, none] S1
        subst hX3
        cases hf : T.find? (·.1 = w) with
        | none =>
          rw [hf] at k1
          simp
          exact k1
        | some q =>
          rw [hf] at k1
          have hq := formsT_len q (by rw [ht']; exact List.mem_of_find?_eq_some hf)
          simp [wLen_str]
          refine ⟨by rw [sizeLine_eq]; omega, ?_⟩
          rw [wLen_lst g1]
          simp
          have hr : r.length ≤ sizeLine := by rw [sizeLine_eq]; omega
          by_cases h2 : q.2.length = r.length
          · have h3 : ((q.2.length : Int) = (r.length : Int)) := by omega
            subst hX
            simp [h3, h2, hr]
            rw [onL_eq g1]
            intro L hL
            have Lp : p ≠ L := fun z => by rw [z, hL] at g1; cases g1
            have oks : ∀ e ∈ r, e.ok 29 = true := by
              have ok' := ok
              rw [D.ok, oks_all, List.all_eq_true] at ok'
              exact fun e he => ok' e (by simp [he])
            have bks : ∀ e ∈ r, e.py.bulk ≤ 90000 := fun e he => by
              have b1 := bk
              rw [bulk_tup] at b1
              have b2 := bulk_mem (ds := D.str w :: r) (d := e) (by simp [he])
              unfold bA at b1
              omega
            rw [zip_enc]
            refine lc_map encP (fun z => [D.bl (thingB z.1 z.2)]) (q.2.cps.toList.zip r) (fun o => by rw [put_ne Lp]; exact g1) ?_ (fun z hz acc k2 hacc hk => ?_) ?_
            · have := flatMap_le (fun z : Nat × D => [D.bl (thingB z.1 z.2)]) 1 (q.2.cps.toList.zip r) fun x _ => by simp
              have h4 : (q.2.cps.toList.zip r).length ≤ r.length := by rw [List.length_zip]; omega
              rw [sizeLine_eq]; omega
            · have hm := (List.of_mem_zip (a := z.1) (b := z.2) hz).2
              simp [encP] at hacc hk ⊢
              refine ⟨z.1, z.2, ?_, D_ok_up (oks _ hm) (by omega), wayLen_of (bks _ hm), fun S' => ⟨by omega, hk⟩⟩
              first | rfl | exact ⟨rfl, rfl⟩ | simp
            · rw [flatMap_one, wAll_map put_same]
              have k2 := k (put S1 L (.lst ((q.2.cps.toList.zip r).map fun z => D.bl (thingB z.1 z.2))))
              have e6 : sortsB q.2 r = (q.2.cps.toList.zip r).all fun z => thingB z.1 z.2 := by unfold sortsB; simp [h2]
              rw [ed, hf] at k2
              simp only [e6] at k2
              exact k2
          · have h3 : ¬ ((q.2.length : Int) = (r.length : Int)) := by omega
            have e5 : sortsB q.2 r = false := by unfold sortsB; simp [h2]
            simp [e5] at k1
            simp [h3, h2, hr]
            exact k1
      | _ => first | exact Bool.noConfusion hpe | (simp [startD, at0, hn]; exact k0)
  | _ => first | exact Bool.noConfusion hpl | (simpa [startD, deedB] using k0)
end KG

namespace KG
open PySem PySem.Spec PyProof.Rows L2 DL KF
def sp__law_way_due : DSp := fun ds S Q E => ∃ d m, ds = [d, .int m] ∧ d.ok 30 = true ∧ d.py.bulk ≤ 90000 ∧ ∀ S', Q (.bl (isWay d && match d with | .tup es => decide (m ≤ (es.length : Int)) | _ => false)) S'
theorem len__law_way_due : ∀ ds S Q E, sp__law_way_due ds S Q E → ds.length = (["_law_thing", "_law_least"] : List Str).length := fun _ _ _ _ ⟨_, _, e, _⟩ => by rw [e]; rfl
def r__law_way_due : DTS := dSeq (dIfS (dOr (dNot (dTst (dCB wIsi (dCons (dV 0) (dCons (dC (.ty "tuple")) dNil))))) (dTst (dBin wLt (dCB wLen (dCons (dV 0) dNil)) (dV 1)))) (dRet (dC (.bl false))) dNext) (dSeq (dFor (diVal (dV 0) wIterA) (gdName 2) (dSeq (dIfS (dOr (dNot (dTst (dCB wIsi (dCons (dV 2) (dCons (dC (.ty "str")) dNil))))) (dNot (dTst (dChain wLt wLt (dC (.int 0)) (dCB wLen (dCons (dV 2) dNil)) (dC (.int 9)))))) (dRet (dC (.bl false))) dNext) (dIfS (dTst (dBin wNe (dLC (diVal (dV 2) wIterA) (gdName 3) (dOr (dTst (dBin wLt (dCB wOrd (dCons (dV 3) dNil)) (dC (.int 97)))) (dTst (dBin wGt (dCB wOrd (dCons (dV 3) dNil)) (dC (.int 122))))) [3] [3] [] (dV 3)) (dLst dNil))) (dRet (dC (.bl false))) dNext))) (dRet (dC (.bl true))))
abbrev N__law_way_due : List Str := ["_law_thing", "_law_least", "_law_name", "_law_sign"]
theorem vc__law_way_due {ds S Q E} (h : sp__law_way_due ds S Q E) : r__law_way_due (bodyEnds Q) (startD N__law_way_due ds) S := by
  obtain ⟨d, m, rfl, ok, bk, k⟩ := h
  have hpl := plain_ok ok
  have k0 := k S
  unfold r__law_way_due
  cases d with
  | tup es =>
    have hlen := (wayLen_of bk _ rfl).1
    have hsh := (wayLen_of bk _ rfl).2
    have oks : ∀ e ∈ es, e.ok 29 = true := by
      have ok' := ok
      rw [D.ok, oks_all, List.all_eq_true] at ok'
      exact fun e he => ok' e he
    by_cases hm : m ≤ (es.length : Int)
    · have hm' : ¬ (es.length : Int) < m := by omega
      simp [startD, hm', sizeLine_eq]
      refine loop_of (fun done τ S' => (∀ e ∈ done, isNam e = true) ∧ ∃ x2 x3, τ = [some (D.tup es), some (D.int m), x2, x3]) (fun _ _ _ _ => trivial) (fun τ S' h => ?_) (fun done e rest τ S' he h N hN => ?_) ⟨by simp, none, none, rfl⟩
      · obtain ⟨h1, x2, x3, rfl⟩ := h
        have e1 : isWay (.tup es) = true := by unfold isWay; exact List.all_eq_true.mpr h1
        have k1 := k S'
        rw [e1] at k1
        simp [hm] at k1 ⊢
        exact k1
      · obtain ⟨h1, x2, x3, rfl⟩ := h
        have hme : e ∈ es := by rw [he]; simp
        have hpe := plain_ok (oks e hme)
        have hbad : isNam e = false → ∀ S2, Q (.bl false) S2 := fun hb S2 => by
          have e1 : isWay (.tup es) = false := by
            unfold isWay
            rw [Bool.eq_false_iff]
            intro z
            rw [List.all_eq_true.mp z e hme] at hb
            cases hb
          have k1 := k S2
          rw [e1] at k1
          simpa using k1
        have hgood : isNam e = true → ∀ τ' S2, (∃ y2 y3, τ' = [some (D.tup es), some (D.int m), y2, y3]) → N τ' S2 := fun hg τ' S2 ht => hN τ' S2 ⟨fun y hy => by
          rcases List.mem_append.mp hy with hy | hy
          · exact h1 y hy
          · rw [List.mem_singleton.mp hy]; exact hg, ht⟩
        cases e with
        | str x =>
          have el : x.length = x.cps.toList.length := by simp [Str.length]
          have hsx := hsh _ hme x rfl
          have hs : x.length ≤ 16777216 := by omega
          by_cases hx : 1 ≤ x.length ∧ x.length ≤ 8
          · have h1' : 0 < x.length := by omega
            have h2' : (x.length : Int) < 9 := by omega
            simp [hs, h1', h2', sizeLine_eq]
            intro L hL
            refine lc_map sgn (fun c => if low c = true then [] else [sgn c]) x.cps.toList (fun _ => trivial) ?_ (fun c hc acc k2 hacc hk => ?_) ?_
            · have := flatMap_le (fun c : Nat => if low c = true then [] else [sgn c]) 1 x.cps.toList fun x _ => by split <;> simp
              rw [sizeLine_eq]; omega
            · have hlow : low c = decide (97 ≤ c ∧ c ≤ 122) := rfl
              by_cases a1 : c < 97
              · have e1 : low c = false := by rw [hlow]; exact decide_eq_false (by omega)
                have a1' : (c : Int) < 97 := by omega
                simp [e1, a1', sizeLine_eq] at hacc hk ⊢
                exact ⟨by omega, hk⟩
              · have a1' : ¬ (c : Int) < 97 := by omega
                by_cases a2 : 122 < c
                · have e1 : low c = false := by rw [hlow]; exact decide_eq_false (by omega)
                  have a2' : (122 : Int) < (c : Int) := by omega
                  simp [e1, a1', a2', sizeLine_eq] at hacc hk ⊢
                  exact ⟨by omega, hk⟩
                · have e1 : low c = true := by rw [hlow]; exact decide_eq_true (by omega)
                  have a2' : ¬ (122 : Int) < (c : Int) := by omega
                  simp [e1, a1', a2'] at hacc hk ⊢
                  exact hk
            · rw [bad_eq]
              intro p hp
              rw [wNe_of (.lst (by rw [put_ne (ne_of_free hp put_same)]; exact put_same) sgn_cl) (.lst put_same (by simp))]
              have e9 : isNam (.str x) = x.cps.toList.all low := by unfold isNam nameS; simp [hx]
              have e11 : decide (D.fz ((x.cps.toList.filter fun c => !low c).map sgn) = D.fz []) = x.cps.toList.all low := by
                rw [Bool.eq_iff_iff, decide_eq_true_eq, ← bad_nil]
                exact ⟨fun h => D.fz.inj h, fun h => by rw [h]⟩
              rw [e11]
              cases ha : x.cps.toList.all low
              · simp
                exact hbad (by rw [e9]; exact ha) _
              · simp
                exact hgood (by rw [e9]; exact ha) _ _ ⟨_, _, rfl⟩
          · have hb : isNam (.str x) = false := by unfold isNam nameS; simp [hx]
            by_cases h2 : 0 < x.length
            · have h3 : ¬ (x.length : Int) < 9 := by omega
              simp [hs, h2, h3, sizeLine_eq]
              exact hbad hb _
            · simp [hs, h2, sizeLine_eq]
              exact hbad hb _
        | _ => first | exact Bool.noConfusion hpe | (simp; exact hbad rfl _)
    · have hm' : (es.length : Int) < m := by omega
      simp [hm] at k0
      simp [startD, hm', sizeLine_eq]
      first | exact k0 | exact ⟨by omega, k0⟩
  | _ => first | exact Bool.noConfusion hpl | (simpa [startD, isWay] using k0)
end KG

namespace KG
open PySem PySem.Spec PyProof.Rows L2 DL KF
def sp__law_names : DSp := fun ds S Q E => ∃ f, ds = [.ref f] ∧ Feed S f ∧ ∀ (L : Addr) (ns : List Str) S', S' L = some (.lst (ns.map D.str)) → S L = none → 2 ≤ ns.length → ns.length ≤ 8 → (∀ n ∈ ns, n.length ≤ 8 ∧ okS n = true) → Feed S' f → Keeps f S S' → Q (.ref L) S'
theorem len__law_names : ∀ ds S Q E, sp__law_names ds S Q E → ds.length = (["_law_feed_here"] : List Str).length := fun _ _ _ _ ⟨_, e, _⟩ => by rw [e]; rfl
def r__law_names : DTS := dSeq (dAsg (dTup (dCons (dC (.str "abcdefghijklmnopqrstuvwxyz")) (dCons (dCall sp__law_draw [] (dCons (dV 0) (dCons (dC (.int 26)) dNil))) (dCons (dLst dNil) dNil)))) (gdTup 3 (gdCons (gdName 3) (gdCons (gdName 4) (gdCons (gdName 5) gdNil))))) (dSeq (dAsg (dLst (dCons (dC (.str "a")) (dCons (dC (.str "b")) (dCons (dC (.str "ab")) (dCons (dC (.str "abc")) (dCons (dC (.str "z")) (dCons (dC (.str "abcdefgh")) (dCons (dC (.str "ba")) (dCons (dC (.str "bb")) dNil))))))))) (gdName 1)) (dSeq (dFor (diRng1 (dCons (dBin wAdd (dC (.int 2)) (dCall sp__law_draw [] (dCons (dV 0) (dCons (dC (.int 7)) dNil)))) dNil)) (gdName 2) (dSeq (dAsg (dBM "list" wPop (dV 1) (dCons (dCall sp__law_draw [] (dCons (dV 0) (dCons (dCB wLen (dCons (dV 1) dNil)) dNil))) dNil)) (gdName 6)) (dDrop (dBM "list" wAppend (dV 5) (dCons (dBM "str" wJoin (dC (.str "")) (dCons (dLC (diVal (dV 6) wIterA) (gdName 7) dYes [7] [7] [] (dBin wAt (dV 3) (dBin wMod (dBin wAdd (dBM "str" wFind (dV 3) (dCons (dV 7) dNil)) (dV 4)) (dC (.int 26))))) dNil)) dNil))))) (dRet (dV 5))))
abbrev N__law_names : List Str := ["_law_feed_here", "_law_rest", "_law_k", "_law_letters", "_law_step_now", "_law_found", "_law_word", "_law_sign"]
def restL : List Str := ["a", "b", "ab", "abc", "z", "abcdefgh", "ba", "bb"]
theorem wFind_to {a b : Str} {S : Sto} {Q : KD} (q : ∀ i : Int, Q (.int i) S) : wFind (.str a) [.str b] S Q := q _
theorem restL_ok : ∀ x ∈ restL, x.length ≤ 8 := by decide +kernel
theorem vc__law_names {ds S Q E} (h : sp__law_names ds S Q E) : r__law_names (bodyEnds Q) (startD N__law_names ds) S := by
  obtain ⟨f, rfl, F, k⟩ := h
  unfold r__law_names
  have az : (Str.ofString "abcdefghijklmnopqrstuvwxyz").length = 26 ∧ okS (Str.ofString "abcdefghijklmnopqrstuvwxyz") = true := by decide +kernel
  generalize Str.ofString "abcdefghijklmnopqrstuvwxyz" = azs at *
  have em : (Str.ofString "").length = 0 ∧ okS (Str.ofString "") = true := by decide +kernel
  generalize Str.ofString "" = ems at *
  simp [startD]
  refine ⟨f, 26, rfl, by omega, by omega, F, fun st S1 s0 s1 F1 K1 => ?_⟩
  simp
  intro L hL
  have F2 : Feed (put S1 L (.lst [])) f := F1.new hL
  have K2 : Keeps f S (put S1 L (.lst [])) := K1.then (F1.freeT K1 hL)
  have hL0 : S L = none := F1.freeT K1 hL
  have Lf := F1.nt hL
  refine ⟨by rw [sizeLine_eq]; decide, by rw [sizeLine_eq]; decide, fun R hR => ?_⟩
  have hr : [D.str (Str.ofString "a"), D.str (Str.ofString "b"), D.str (Str.ofString "ab"), D.str (Str.ofString "abc"), D.str (Str.ofString "z"), D.str (Str.ofString "abcdefgh"), D.str (Str.ofString "ba"), D.str (Str.ofString "bb")] = restL.map D.str := rfl
  rw [hr]
  have Rf := F2.nt hR
  have hR0 : S R = none := F2.freeT K2 hR
  have RL : R ≠ L := fun z => by rw [z, put_same] at hR; cases hR
  have F3 : Feed (put (put S1 L (.lst [])) R (.lst (restL.map D.str))) f := F2.new hR
  have K3 : Keeps f S (put (put S1 L (.lst [])) R (.lst (restL.map D.str))) := K2.then hR0
  have gR : (put (put S1 L (.lst [])) R (.lst (restL.map D.str))) R = some (.lst (restL.map D.str)) := put_same
  have gL : (put (put S1 L (.lst [])) R (.lst (restL.map D.str))) L = some (.lst (([] : List Str).map D.str)) := by rw [put_ne (Ne.symm RL)]; exact put_same
  generalize put (put S1 L (.lst [])) R (.lst (restL.map D.str)) = S3 at *
  refine ⟨f, 7, rfl, by omega, by omega, F3, fun c S4 c0 c1 F4 K4 => ?_⟩
  simp
  refine ⟨by omega, by omega, ?_⟩
  rw [rngD_map]
  refine loop_map (fun i : Nat => D.int (i : Int)) (fun done τ S' => ∃ (ws ns : List Str) (x2 x6 x7 : Option D), S' R = some (.lst (ws.map D.str)) ∧ S' L = some (.lst (ns.map D.str)) ∧ Feed S' f ∧ Keeps f S S' ∧ ws.length + done.length = 8 ∧ ns.length = done.length ∧ (∀ w ∈ ws, w.length ≤ 8) ∧ (∀ n ∈ ns, n.length ≤ 8 ∧ okS n = true) ∧ τ = [some (D.ref f), some (D.ref R), x2, some (D.str azs), some (D.int st), some (D.ref L), x6, x7])
    (fun _ _ _ _ => trivial) (fun τ S' h => ?_) (fun done i rest τ S' es h N hN => ?_) ⟨restL, [], none, none, none, K4 _ _ Rf gR, K4 _ _ Lf gL, F4, K3.trans K4, rfl, rfl, restL_ok, by simp, rfl⟩
  · obtain ⟨ws, ns, x2, x6, x7, e1, e2, F5, K5, l1, l2, h1, h2, rfl⟩ := h
    rw [List.length_range] at l1 l2
    simp
    exact k L ns S' e2 hL0 (by omega) (by omega) h2 F5 K5
  · obtain ⟨ws, ns, x2, x6, x7, e1, e2, F5, K5, l1, l2, h1, h2, rfl⟩ := h
    have hd : done.length < 8 := by
      have := congrArg List.length es
      simp at this; omega
    simp [e1]
    refine ⟨f, _, rfl, by omega, by omega, F5, fun b S6 b0 b1 F6 K6 => ?_⟩
    have g1 := K6 _ _ Rf e1
    have g2 := K6 _ _ Lf e2
    have hb : b.toNat < ws.length := by omega
    show wPop (.ref R) [.int b] S6 _
    rw [wPop_at g1 b0 (by simpa using b1) (by simp; omega)]
    have ew : (ws.map D.str)[b.toNat]'(by simpa using hb) = D.str ws[b.toNat] := by simp
    rw [ew]
    have hw := h1 _ (List.getElem_mem hb)
    generalize ws[b.toNat] = w at *
    have ee : (ws.map D.str).eraseIdx b.toNat = (ws.eraseIdx b.toNat).map D.str := by first | exact (_root_.DT.map_erase D.str ws b.toNat).symm | simp [List.map_eraseIdx]
    rw [ee]
    have l3 : (ws.eraseIdx b.toNat).length + 1 = ws.length := by rw [List.length_eraseIdx]; simp [hb]; omega
    have h3 : ∀ v ∈ ws.eraseIdx b.toNat, v.length ≤ 8 := fun v hv => h1 v (List.mem_of_mem_eraseIdx hv)
    have gL7 : (put S6 R (.lst ((ws.eraseIdx b.toNat).map D.str))) L = some (.lst (ns.map D.str)) := by rw [put_ne (Ne.symm RL)]; exact g2
    have gR7 : (put S6 R (.lst ((ws.eraseIdx b.toNat).map D.str))) R = some (.lst ((ws.eraseIdx b.toNat).map D.str)) := put_same
    have F7 : Feed (put S6 R (.lst ((ws.eraseIdx b.toNat).map D.str))) f := F6.put Rf
    have K7 : Keeps f S (put S6 R (.lst ((ws.eraseIdx b.toNat).map D.str))) := (K5.trans K6).then hR0
    generalize put S6 R (.lst ((ws.eraseIdx b.toNat).map D.str)) = S7 at *
    generalize ws.eraseIdx b.toNat = ws' at *
    refine ⟨by simp [tyD, gL7], rfl, ?_⟩
    simp only [wIter_str]
    intro J hJ
    have JL : J ≠ L := fun z => by rw [z, gL7] at hJ; cases hJ
    have JR : J ≠ R := fun z => by rw [z, gR7] at hJ; cases hJ
    refine loopC_map sgn (fun done S' => ∃ ys : List Str, S' = put S7 J (.lst (ys.map D.str)) ∧ ys.length = done.length ∧ ∀ y ∈ ys, y.length = 1 ∧ okS y = true) (fun _ _ _ => trivial) (fun S' h => ?_) (fun done c rest S' es h N' hN' => ?_) ⟨[], rfl, rfl, by simp⟩
    · obtain ⟨ys, rfl, hl, hy⟩ := h
      have el : w.length = w.cps.toList.length := by simp [Str.length]
      refine wJoin_of put_same em.1 em.2 hy (by omega) fun x xl xo => ?_
      simp [wAppend]
      rw [onL_eq (by rw [put_ne (Ne.symm JL)]; exact gL7)]
      refine ⟨by rw [List.length_map, sizeLine_eq]; omega, hN _ _ ⟨ws', ns ++ [x], _, _, _, ?_, ?_, (F7.new hJ).put Lf, (K7.then (F7.freeT K7 hJ)).then hL0, ?_, ?_, h3, fun n hn => ?_, rfl⟩⟩
      · rw [put_ne RL, put_ne (Ne.symm JR)]; exact gR7
      · rw [put_same]; simp
      · simp; omega
      · simp; omega
      · rcases List.mem_append.mp hn with hn | hn
        · exact h2 n hn
        · rw [List.mem_singleton.mp hn]; exact ⟨by omega, xo⟩
    · obtain ⟨ys, rfl, hl, hy⟩ := h
      simp [sgn]
      refine ⟨rfl, ?_⟩
      refine wFind_to fun fv => ?_
      simp
      have m0 : 0 ≤ (fv + st) % 26 := Int.emod_nonneg _ (by decide)
      have m1 : (fv + st) % 26 < 26 := Int.emod_lt_of_pos _ (by decide)
      try rw [Int.fmod_eq_emod_of_nonneg _ (by decide)]
      refine wAt_text az.2 (by omega) m0 (by omega) fun y yl yo => ?_
      rw [onL_eq put_same]
      have h9 : w.length = w.cps.toList.length := by simp [Str.length]
      have h10 := congrArg List.length es
      simp only [List.length_append, List.length_cons] at h10
      refine ⟨by rw [List.length_map, sizeLine_eq]; omega, hN' _ ⟨ys ++ [y], by simp, by simp [hl], fun z hz => ?_⟩⟩
      rcases List.mem_append.mp hz with hz | hz
      · exact hy z hz
      · rw [List.mem_singleton.mp hz]; exact ⟨yl, yo⟩
end KG

namespace KG
open PySem PySem.Spec PyProof.Rows L2 DL KF
/-! _law_bent of k05: k01's, but for the names -/
abbrev spR__law_bent : Nat → DSp := KF.spR__law_bent
abbrev prv__law_bent : Nat → DSp := KF.prv__law_bent
abbrev sp__law_bent : DSp := KF.spR__law_bent 6
theorem lenR__law_bent (n : Nat) : ∀ ds S Q E, spR__law_bent n ds S Q E → ds.length = (["_law_feed_here", "_law_thing"] : List Str).length := fun ds S Q E h => (KF.lenR__law_bent n ds S Q E h).trans rfl
theorem len__law_bent : ∀ ds S Q E, sp__law_bent ds S Q E → ds.length = (["_law_feed_here", "_law_thing"] : List Str).length := lenR__law_bent 6
def r__law_bent (spp : DSp) : DTS := dSeq (dIfS (dAnd (dTst (dCB wIsi (dCons (dV 1) (dCons (dC (.ty "tuple")) dNil)))) (dAnd (dTst (dBin wNe (dV 1) (dTup dNil))) (dTst (dBin wGt (dCall sp__law_draw [] (dCons (dV 0) (dCons (dC (.int 5)) dNil))) (dC (.int 0)))))) (dSeq (dAsg (dCall sp__law_draw [] (dCons (dV 0) (dCons (dCB wLen (dCons (dV 1) dNil)) dNil))) (gdName 3)) (dRet (dBin wAddX (dBin wAddX (dCut (dV 1) dNoPart (dPart (dV 3))) (dTup (dCons (dCall spp [] (dCons (dV 0) (dCons (dBin wAt (dV 1) (dV 3)) dNil))) dNil))) (dCut (dV 1) (dPart (dBin wAddX (dV 3) (dC (.int 1)))) dNoPart)))) dNext) (dSeq (dAsg (dCall sp__law_draw [] (dCons (dV 0) (dCons (dC (.int 9)) dNil))) (gdName 2)) (dSeq (dIfS (dTst (dCB wIsi (dCons (dV 1) (dCons (dC (.ty "tuple")) dNil)))) (dSeq (dAsg (dLst (dCons (dFrz (dCB wList (dCons (dV 1) dNil))) (dCons (dRev (dV 1)) (dCons (dTup (dCons (dV 1) dNil)) (dCons (dBin wAddX (dV 1) (dV 1)) (dCons (dTup dNil) (dCons (dC .non) (dCons (dCut (dV 1) (dPart (dC (.int 1))) dNoPart) (dCons (dCut (dV 1) dNoPart (dPart (dUn wNeg (dC (.int 1))))) dNil))))))))) (gdName 4)) (dRet (dBin wAt (dBin wAddX (dV 4) (dLst (dCons (dBin wAddX (dV 1) (dTup (dCons (dC .non) dNil))) dNil))) (dV 2)))) dNext) (dSeq (dIfS (dTst (dCB wIsi (dCons (dV 1) (dCons (dC (.ty "int")) dNil)))) (dRet (dBin wAt (dLst (dCons (dBin wAddX (dV 1) (dC (.int 1))) (dCons (dBin wSubX (dV 1) (dC (.int 1))) (dCons (dBin wEq (dV 1) (dC (.int 1))) (dCons (dCB wStrT (dCons (dV 1) dNil)) (dCons (dC .non) (dCons (dTup (dCons (dV 1) dNil)) (dCons (dC (.int 0)) (dCons (dUn wNeg (dC (.int 1))) (dCons (dBin wPow (dC (.int 10)) (dC (.int 60))) dNil)))))))))) (dV 2))) dNext) (dRet (dBin wAt (dLst (dCons (dC .non) (dCons (dC (.bl true)) (dCons (dC (.int 0)) (dCons (dC (.int 1)) (dCons (dC (.str "")) (dCons (dTup dNil) (dCons (dFLst dNil) (dCons (dUn wNeg (dC (.int 1))) (dCons (dC (.str "a")) dNil)))))))))) (dV 2))))))
abbrev N__law_bent : List Str := ["_law_feed_here", "_law_thing", "_law_mode", "_law_at", "_law_odd"]
theorem vcR__law_bent (N : Nat) {ds S Q E} (h : spR__law_bent N ds S Q E) : r__law_bent (prv__law_bent N) (bodyEnds Q) (startD N__law_bent ds) S := KF.vcR__law_bent N h
end KG

namespace KG
open PySem PySem.Spec PyProof.Rows L2 DL KF
def sp__law_due : DSp := fun ds S Q E => ∃ d, ds = [d] ∧ d.ok 30 = true ∧ big 100 d = true ∧ d.py.bulk ≤ 79000 ∧ ∀ S', Q (.bl (deedB d)) S'
theorem len__law_due : ∀ ds S Q E, sp__law_due ds S Q E → ds.length = (["_law_thing"] : List Str).length := fun _ _ _ _ ⟨_, e, _⟩ => by rw [e]; rfl
def kvF : List (D × D) := [(.str "look", .tup [.int 0]), (.str "list", .tup [.int 0]), (.str "make", .tup [.int 1, .str "kind"]), (.str "drop", .tup [.int 1]), (.str "link", .tup [.int 1, .int 1])]
def kvU : List (D × D) := [(.str "move", .tup [.int 1, .int 1]), (.str "swap", .tup [.int 1, .int 1])]
theorem keyF : ∀ x : Str, keyFit (kvF ++ kvU) (.str x) = true := fun x => rfl
/-- the sorts of a word, as the law tells them -/
def sortD : Nat → D := fun c => if c = 118 then .int 0 else if c = 107 then .str "kind" else .int 1
theorem forms_of (w : Str) : dGet (kvF ++ kvU) (.str w) = (formsT.find? (·.1 = w)).map fun p => .tup (p.2.cps.toList.map sortD) := by
  simp only [kvF, kvU, formsT, dGet, List.cons_append, List.nil_append, List.find?_cons]
  have s1 : ((Str.ofString "v").cps.toList.map sortD) = [D.int 0] := by simp [show (Str.ofString "v").cps.toList = [118] by decide +kernel, sortD]
  have s2 : ((Str.ofString "wk").cps.toList.map sortD) = [D.int 1, D.str "kind"] := by simp [show (Str.ofString "wk").cps.toList = [119, 107] by decide +kernel, sortD]
  have s3 : ((Str.ofString "w").cps.toList.map sortD) = [D.int 1] := by simp [show (Str.ofString "w").cps.toList = [119] by decide +kernel, sortD]
  have s4 : ((Str.ofString "ww").cps.toList.map sortD) = [D.int 1, D.int 1] := by simp [show (Str.ofString "ww").cps.toList = [119, 119] by decide +kernel, sortD]
  simp only [D.str.injEq]
  repeat' (first | rfl | (split <;> simp_all))
theorem sne : (Str.ofString "look" ≠ Str.ofString "list" ∧ Str.ofString "look" ≠ Str.ofString "make" ∧ Str.ofString "look" ≠ Str.ofString "drop" ∧ Str.ofString "look" ≠ Str.ofString "link" ∧ Str.ofString "list" ≠ Str.ofString "make" ∧ Str.ofString "list" ≠ Str.ofString "drop" ∧ Str.ofString "list" ≠ Str.ofString "link" ∧ Str.ofString "make" ≠ Str.ofString "drop" ∧ Str.ofString "make" ≠ Str.ofString "link" ∧ Str.ofString "drop" ≠ Str.ofString "link") ∧
    (Str.ofString "look" ≠ Str.ofString "move" ∧ Str.ofString "list" ≠ Str.ofString "move" ∧ Str.ofString "make" ≠ Str.ofString "move" ∧ Str.ofString "drop" ≠ Str.ofString "move" ∧ Str.ofString "link" ≠ Str.ofString "move" ∧ Str.ofString "look" ≠ Str.ofString "swap" ∧ Str.ofString "list" ≠ Str.ofString "swap" ∧ Str.ofString "make" ≠ Str.ofString "swap" ∧ Str.ofString "drop" ≠ Str.ofString "swap" ∧ Str.ofString "link" ≠ Str.ofString "swap" ∧ Str.ofString "move" ≠ Str.ofString "swap") := by decide +kernel
theorem merge_F : kvMerge [] kvF = kvF := by
  have h := sne
  simp [kvMerge, kvF, dPut, h]
theorem merge_U : kvMerge [] kvU = kvU := by
  have h := sne
  simp [kvMerge, kvU, dPut, h]
theorem merge_FU : dMerge kvF kvU = kvF ++ kvU := by
  have h := sne
  simp [dMerge, kvF, kvU, dPut, h]
theorem wDict_F {S : Sto} {p : Addr} {Q : KD} (h : S p = some (.lst (kvF.map fun z => D.tup [z.1, z.2]))) (q : ∀ a, S a = none → Q (.ref a) (put S a (.dct kvF))) : wDict [.ref p] S Q := by
  unfold wDict
  have e : seqOf S (.ref p) = some (kvF.map fun z => D.tup [z.1, z.2]) := by simp [seqOf, h]
  simp only [e]
  have e2 : DL.pairsD (kvF.map fun z => D.tup [z.1, z.2]) = some kvF := rfl
  rw [e2]
  show _ ∧ _
  refine ⟨rfl, ?_⟩
  rw [merge_F]; exact q
end KG

namespace KG
open PySem PySem.Spec PyProof.Rows L2 DL KF
def p0__law_due : DTS := dIfS (dOr (dNot (dTst (dCB wIsi (dCons (dV 0) (dCons (dC (.ty "tuple")) dNil))))) (dOr (dTst (dBin wEq (dV 0) (dTup dNil))) (dNot (dTst (dCB wIsi (dCons (dBin wAt (dV 0) (dC (.int 0))) (dCons (dC (.ty "str")) dNil))))))) (dRet (dC (.bl false))) dNext
def p1__law_due : DTS := dAsg (dCB wDict (dCons (dLst (dCons (dTup (dCons (dC (.str "look")) (dCons (dTup (dCons (dC (.int 0)) dNil)) dNil))) (dCons (dTup (dCons (dC (.str "list")) (dCons (dTup (dCons (dC (.int 0)) dNil)) dNil))) (dCons (dTup (dCons (dC (.str "make")) (dCons (dTup (dCons (dC (.int 1)) (dCons (dC (.str "kind")) dNil))) dNil))) (dCons (dTup (dCons (dC (.str "drop")) (dCons (dTup (dCons (dC (.int 1)) dNil)) dNil))) (dCons (dTup (dCons (dC (.str "link")) (dCons (dTup (dCons (dC (.int 1)) (dCons (dC (.int 1)) dNil))) dNil))) dNil)))))) dNil)) (gdName 1)
def p2__law_due : DTS := dDrop (dUpd (dV 1) (dDisp ((dC (.str "move"), dTup (dCons (dC (.int 1)) (dCons (dC (.int 1)) dNil))) :: (dC (.str "swap"), dTup (dCons (dC (.int 1)) (dCons (dC (.int 1)) dNil))) :: [])))
def p3__law_due : DTS := dIfS (dOr (dTst (dBin (wIn true) (dBin wAt (dV 0) (dC (.int 0))) (dV 1))) (dTst (dBin wNe (dCB wLen (dCons (dV 0) dNil)) (dBin wAdd (dC (.int 1)) (dCB wLen (dCons (dBin wAt (dV 1) (dBin wAt (dV 0) (dC (.int 0)))) dNil)))))) (dRet (dC (.bl false))) dNext
def p4__law_due : DTS := dFor (diZip (dCons (dBin wAt (dV 1) (dBin wAt (dV 0) (dC (.int 0)))) (dCons (dCut (dV 0) (dPart (dC (.int 1))) dNoPart) dNil))) (gdTup 2 (gdCons (gdName 2) (gdCons (gdName 3) gdNil))) (dSeq (dIfS (dAnd (dTst (dBin wEq (dV 2) (dC (.str "kind")))) (dTst (dBin (wIn true) (dCB wReprA (dCons (dV 3) dNil)) (dTup (dCons (dC (.str "'drawer'")) (dCons (dC (.str "'sheet'")) dNil)))))) (dRet (dC (.bl false))) dNext) (dIfS (dAnd (dTst (dBin wNe (dV 2) (dC (.str "kind")))) (dNot (dTst (dCall (pur sp__law_way_due) [] (dCons (dV 3) (dCons (dV 2) dNil)))))) (dRet (dC (.bl false))) dNext))
def p5__law_due : DTS := dRet (dC (.bl true))
def r__law_due : DTS := dSeq (dIfS (dOr (dNot (dTst (dCB wIsi (dCons (dV 0) (dCons (dC (.ty "tuple")) dNil))))) (dOr (dTst (dBin wEq (dV 0) (dTup dNil))) (dNot (dTst (dCB wIsi (dCons (dBin wAt (dV 0) (dC (.int 0))) (dCons (dC (.ty "str")) dNil))))))) (dRet (dC (.bl false))) dNext) (dSeq (dAsg (dCB wDict (dCons (dLst (dCons (dTup (dCons (dC (.str "look")) (dCons (dTup (dCons (dC (.int 0)) dNil)) dNil))) (dCons (dTup (dCons (dC (.str "list")) (dCons (dTup (dCons (dC (.int 0)) dNil)) dNil))) (dCons (dTup (dCons (dC (.str "make")) (dCons (dTup (dCons (dC (.int 1)) (dCons (dC (.str "kind")) dNil))) dNil))) (dCons (dTup (dCons (dC (.str "drop")) (dCons (dTup (dCons (dC (.int 1)) dNil)) dNil))) (dCons (dTup (dCons (dC (.str "link")) (dCons (dTup (dCons (dC (.int 1)) (dCons (dC (.int 1)) dNil))) dNil))) dNil)))))) dNil)) (gdName 1)) (dSeq (dDrop (dUpd (dV 1) (dDisp ((dC (.str "move"), dTup (dCons (dC (.int 1)) (dCons (dC (.int 1)) dNil))) :: (dC (.str "swap"), dTup (dCons (dC (.int 1)) (dCons (dC (.int 1)) dNil))) :: [])))) (dSeq (dIfS (dOr (dTst (dBin (wIn true) (dBin wAt (dV 0) (dC (.int 0))) (dV 1))) (dTst (dBin wNe (dCB wLen (dCons (dV 0) dNil)) (dBin wAdd (dC (.int 1)) (dCB wLen (dCons (dBin wAt (dV 1) (dBin wAt (dV 0) (dC (.int 0)))) dNil)))))) (dRet (dC (.bl false))) dNext) (dSeq (dFor (diZip (dCons (dBin wAt (dV 1) (dBin wAt (dV 0) (dC (.int 0)))) (dCons (dCut (dV 0) (dPart (dC (.int 1))) dNoPart) dNil))) (gdTup 2 (gdCons (gdName 2) (gdCons (gdName 3) gdNil))) (dSeq (dIfS (dAnd (dTst (dBin wEq (dV 2) (dC (.str "kind")))) (dTst (dBin (wIn true) (dCB wReprA (dCons (dV 3) dNil)) (dTup (dCons (dC (.str "'drawer'")) (dCons (dC (.str "'sheet'")) dNil)))))) (dRet (dC (.bl false))) dNext) (dIfS (dAnd (dTst (dBin wNe (dV 2) (dC (.str "kind")))) (dNot (dTst (dCall (pur sp__law_way_due) [] (dCons (dV 3) (dCons (dV 2) dNil)))))) (dRet (dC (.bl false))) dNext))) (dRet (dC (.bl true)))))))
abbrev N__law_due : List Str := ["_law_thing", "_law_forms", "_law_sort", "_law_part"]
theorem r_due_eq : r__law_due = dSeq p0__law_due (dSeq p1__law_due (dSeq p2__law_due (dSeq p3__law_due (dSeq p4__law_due p5__law_due)))) := rfl
/-- the dict of forms is made -/
theorem due_forms {S : Sto} {d : D} {x2 x3 : Option D} {Dn : DEnds} {X : DTS} (k : ∀ a S', S' a = some (.dct (kvF ++ kvU)) → X Dn [some d, some (.ref a), x2, x3] S') :
    dSeq p1__law_due (dSeq p2__law_due X) Dn [some d, none, x2, x3] S := by
  unfold p1__law_due p2__law_due
  simp
  refine ⟨by rw [sizeLine_eq]; decide, by rw [sizeLine_eq]; decide, by rw [sizeLine_eq]; decide, by rw [sizeLine_eq]; decide, by rw [sizeLine_eq]; decide, by rw [sizeLine_eq]; decide, by rw [sizeLine_eq]; decide, fun p hp => ?_⟩
  refine wDict_F put_same fun a ha => ?_
  generalize put S p _ = S1 at *
  unfold dUpd
  simp [isDct, put_same]
  intro u hu
  have ua : u ≠ a := fun z => by rw [z, put_same] at hu; cases hu
  have eU : kvMerge [] [(D.str (Str.ofString "move"), D.tup [D.int 1, D.int 1]), (D.str (Str.ofString "swap"), D.tup [D.int 1, D.int 1])] = kvU := merge_U
  refine ⟨by rw [sizeLine_eq]; decide, rfl, Ne.symm ua, ?_⟩
  rw [eU, put_ne (Ne.symm ua), put_same]
  refine ⟨rfl, rfl, by rw [sizeLine_eq]; decide, ?_⟩
  rw [merge_FU]
  exact k _ _ put_same
end KG

namespace KG
open PySem PySem.Spec PyProof.Rows L2 DL KF
theorem due_test {S : Sto} {w : Str} {r : List D} {a : Addr} {x2 x3 : Option D} {Dn : DEnds} (hr : r.length ≤ 100000) (g : S a = some (.dct (kvF ++ kvU)))
    (k0 : formsT.find? (·.1 = w) = none → Dn.rt (.bl false) S) (k1 : ∀ q, formsT.find? (·.1 = w) = some q → q.2.length ≠ r.length → Dn.rt (.bl false) S)
    (k2 : ∀ q, formsT.find? (·.1 = w) = some q → q.2.length = r.length → Dn.nx [some (.tup (.str w :: r)), some (.ref a), x2, x3] S) :
    p3__law_due Dn [some (.tup (.str w :: r)), some (.ref a), x2, x3] S := by
  unfold p3__law_due
  have sz : r.length + 1 ≤ sizeLine := by rw [sizeLine_eq]; omega
  cases hf : formsT.find? (·.1 = w) with
  | none =>
    have e := forms_of w
    rw [hf] at e
    simp [at0, wIn_dct g (keyF w), e]
    exact k0 hf
  | some q =>
    have e := forms_of w
    rw [hf] at e
    have hq := formsT_len q (List.mem_of_find?_eq_some hf)
    have el : q.2.length = q.2.cps.toList.length := by simp [Str.length]
    have l2 : q.2.cps.toList.length ≤ sizeLine := by rw [sizeLine_eq]; omega
    simp [at0, wIn_dct g (keyF w), e]
    rw [wAt_dct g (keyF w) (by rw [e]; rfl)]
    simp [sz]
    have e2 : q.2.length = q.2.cps.size := rfl
    by_cases h : q.2.length = r.length
    · have h' : (r.length : Int) + 1 = 1 + (q.2.cps.size : Int) := by omega
      rw [if_pos h']
      exact k2 q hf h
    · have h' : ¬ (r.length : Int) + 1 = 1 + (q.2.cps.size : Int) := by omega
      rw [if_neg h']
      exact k1 q hf h
end KG

namespace KG
open PySem PySem.Spec PyProof.Rows L2 DL KF
mutual
theorem big_py : ∀ d : D, big 100 d = true → d.py.showable = true ∧ d.py.leavesShort 210 = true
  | .non, _ => by simp [D.py, PyData.showable, PyData.leavesShort]
  | .bl _, _ => by simp [D.py, PyData.showable, PyData.leavesShort]
  | .int i, h => by
    have h' : i.natAbs ≤ 10 ^ 203 + 100 := by rw [big] at h; exact of_decide_eq_true h
    rw [D.py]
    exact ⟨by rw [PyData.showable]; exact decide_eq_true (log_ok h'), by rw [PyData.leavesShort]; exact decide_eq_true (Nat.le_trans (repr_len h') (by decide))⟩
  | .str x, h => by
    rw [D.py, PyData.showable, PyData.leavesShort]
    exact ⟨rfl, by rw [big] at h; exact h⟩
  | .tup ds, h => by rw [D.py, PyData.showable, PyData.leavesShort]; exact bigs_py ds (by rw [big] at h; exact h)
  | .fz ds, h => by rw [D.py, PyData.showable, PyData.leavesShort]; exact bigs_py ds (by rw [big] at h; exact h)
  | .wt _, _ => by simp [D.py, PyData.showable, PyData.leavesShort]
  | .ref _, _ => by simp [D.py, PyData.showable, PyData.leavesShort]
  | .ty _, _ => by simp [D.py, PyData.showable, PyData.leavesShort]
theorem bigs_py : ∀ ds : List D, bigs 100 ds = true → PyData.showableAll (D.pys ds) = true ∧ PyData.leavesShortAll 210 (D.pys ds) = true
  | [], _ => by simp [D.pys, PyData.showableAll, PyData.leavesShortAll]
  | d :: r, h => by
    rw [bigs, Bool.and_eq_true] at h
    obtain ⟨a, b⟩ := big_py d h.1
    obtain ⟨c, e⟩ := bigs_py r h.2
    rw [D.pys, PyData.showableAll, PyData.leavesShortAll, a, b, c, e]
    exact ⟨rfl, rfl⟩
end
theorem shown_fits {d : D} (hb : big 100 d = true) (hk : d.py.bulk ≤ 79000) : d.py.showable = true ∧ d.py.shown.length ≤ sizeLine := by
  obtain ⟨a, b⟩ := big_py d hb
  have := PyData.shown_le_bulk 210 (by decide) d.py b
  exact ⟨a, by rw [sizeLine_eq]; omega⟩
theorem wReprA_big {S : Sto} {Q : KD} {d : D} (ok : d.ok 40 = true) (hb : big 100 d = true) (hk : d.py.bulk ≤ 79000) : wReprA [d] S Q = Q (.str d.py.shown) S :=
  wReprA_ok ok (shown_fits hb hk).1 (shown_fits hb hk).2
def qD : Str := "'drawer'"
def qS : Str := "'sheet'"
theorem shown_kinds {d : D} (hp : KF.plain d = true) : decide (D.str d.py.shown ∈ [D.str qD, D.str qS]) = kindB d := by
  have hd : dataB d = true := by cases d <;> first | rfl | exact hp
  have t1 : ∀ x : Str, x = "drawer" → (D.str x).py.shown = qD := fun x e => by
    subst e
    show reprText _ = _
    decide +kernel
  have t2 : ∀ x : Str, x = "sheet" → (D.str x).py.shown = qS := fun x e => by
    subst e
    show reprText _ = _
    decide +kernel
  have e1 : d.py.shown = qD → d = .str "drawer" := fun h => by
    obtain ⟨x, rfl, hx⟩ := shown_text (l := (Str.ofString "drawer").cps.toList) hd (by decide +kernel) (by decide +kernel) h
    rw [Str.of_list hx]
  have e2 : d.py.shown = qS → d = .str "sheet" := fun h => by
    obtain ⟨x, rfl, hx⟩ := shown_text (l := (Str.ofString "sheet").cps.toList) hd (by decide +kernel) (by decide +kernel) h
    rw [Str.of_list hx]
  rw [Bool.eq_iff_iff, decide_eq_true_eq]
  simp only [List.mem_cons, List.not_mem_nil, or_false, D.str.injEq]
  constructor
  · rintro (h | h)
    · rw [e1 h]; decide +kernel
    · rw [e2 h]; decide +kernel
  · intro h
    cases d with
    | str x =>
      have : x = "drawer" ∨ x = "sheet" := by simpa [kindB] using h
      rcases this with h | h
      · exact .inl (t1 x h)
      · exact .inr (t2 x h)
    | _ => simp [kindB] at h
def encZ (p : Nat × D) : D := .wt [sortD p.1, p.2]
theorem zip_encZ (cs : List Nat) (r : List D) : zipD (cs.map sortD) r = (cs.zip r).map encZ := by
  unfold zipD
  rw [List.zipWith_map_left, List.map_zip_eq_zipWith]
  rfl
theorem formsT_cs : ∀ p ∈ formsT, ∀ c ∈ p.2.cps.toList, c = 118 ∨ c = 119 ∨ c = 107 := by decide +kernel
def b1__law_due : DTS := dIfS (dAnd (dTst (dBin wEq (dV 2) (dC (.str "kind")))) (dTst (dBin (wIn true) (dCB wReprA (dCons (dV 3) dNil)) (dTup (dCons (dC (.str "'drawer'")) (dCons (dC (.str "'sheet'")) dNil)))))) (dRet (dC (.bl false))) dNext
def b2__law_due : DTS := dIfS (dAnd (dTst (dBin wNe (dV 2) (dC (.str "kind")))) (dNot (dTst (dCall (pur sp__law_way_due) [] (dCons (dV 3) (dCons (dV 2) dNil)))))) (dRet (dC (.bl false))) dNext
theorem way_ne {e : D} (m : Int) (h : m = 0 ∨ m = 1) : (isWay e && match e with | .tup es => decide (m ≤ (es.length : Int)) | _ => false) = (isWay e && (decide (m = 0) || ne0 e)) := by
  cases e with
  | tup es =>
    cases isWay (.tup es)
    · rfl
    · rcases h with rfl | rfl
      · simp
      · cases es <;> simp [ne0]
        omega
  | _ => simp [isWay]
theorem due_body {e : D} {c : Nat} (hc : c = 118 ∨ c = 119 ∨ c = 107) (ok : e.ok 29 = true) (hb : big 100 e = true) (bk : e.py.bulk ≤ 79000) {S : Sto} {t0 t1 : Option D} {Dn : DEnds}
    (k0 : thingB c e = false → ∀ S', Dn.rt (.bl false) S') (k1 : thingB c e = true → ∀ S', Dn.nx [t0, t1, some (sortD c), some e] S') :
    dSeq b1__law_due b2__law_due Dn [t0, t1, some (sortD c), some e] S := by
  unfold b1__law_due b2__law_due
  have hpl := plain_ok ok
  by_cases h : c = 107
  · subst h
    have es : sortD 107 = .str "kind" := rfl
    rw [es] at k1 ⊢
    have ek : thingB 107 e = kindB e := by simp [thingB]
    simp [wReprA_big (D_ok_up ok (by decide)) hb bk]
    refine ⟨by rw [sizeLine_eq]; decide, ?_⟩
    rw [wIn_tup (.cl rfl) (by simp [D.cl])]
    have := shown_kinds hpl
    rw [show decide (D.str e.py.shown ∈ [D.str (Str.ofString "'drawer'"), D.str (Str.ofString "'sheet'")]) = kindB e from this]
    cases hk : kindB e
    · simp
      exact k0 (by rw [ek]; exact hk) _
    · simp
      exact k1 (by rw [ek]; exact hk) _
  · obtain ⟨m, em, hm⟩ : ∃ m : Int, sortD c = .int m ∧ (m = 0 ∨ m = 1) ∧ decide (m = 0) = decide (c = 118) := by
      rcases hc with rfl | rfl | rfl
      · exact ⟨0, rfl, .inl rfl, rfl⟩
      · exact ⟨1, rfl, .inr rfl, rfl⟩
      · exact absurd rfl h
    have ek : thingB c e = (isWay e && (decide (m = 0) || ne0 e)) := by rw [hm.2]; simp [thingB, h]
    rw [em] at k1 ⊢
    have w1 : ∀ (S : Sto) (Q : KD), wEq (.int m) (.str "kind") S Q = Q (.bl false) S := fun S Q => by rw [wEq_of (.cl rfl) (.cl rfl)]; rfl
    have w2 : ∀ (S : Sto) (Q : KD), wNe (.int m) (.str "kind") S Q = Q (.bl true) S := fun S Q => by rw [wNe_of (.cl rfl) (.cl rfl)]; rfl
    simp [w1, w2]
    refine ⟨e, m, rfl, D_ok_up ok (by decide), by omega, fun S' => ?_⟩
    have hw : (fun b : Bool => isB (fun b S1 => if b = true then Dn.nx [t0, t1, some (D.int m), some e] S1 else Dn.rt (D.bl false) S1) (D.bl b) S) (isWay e && (decide (m = 0) || ne0 e)) := by
      rw [← ek]
      cases hk : thingB c e
      · simp
        exact k0 hk _
      · simp
        exact k1 hk _
    rw [← way_ne m hm.1] at hw
    exact hw
def p4'__law_due : DTS := dFor (diZip (dCons (dBin wAt (dV 1) (dBin wAt (dV 0) (dC (.int 0)))) (dCons (dCut (dV 0) (dPart (dC (.int 1))) dNoPart) dNil))) (gdTup 2 (gdCons (gdName 2) (gdCons (gdName 3) gdNil))) (dSeq b1__law_due b2__law_due)
theorem due_loop {S : Sto} {w : Str} {r : List D} {a : Addr} {q : Str × Str} {x2 x3 : Option D} {Dn : DEnds} (hl : q.2.length = r.length) (hr : r.length ≤ 100000) (hf : formsT.find? (·.1 = w) = some q) (g : S a = some (.dct (kvF ++ kvU)))
    (hok : ∀ e ∈ r, e.ok 29 = true ∧ big 100 e = true ∧ e.py.bulk ≤ 79000)
    (k0 : sortsB q.2 r = false → ∀ S', Dn.rt (.bl false) S') (k1 : sortsB q.2 r = true → ∀ τ S', Dn.nx τ S') :
    p4'__law_due Dn [some (.tup (.str w :: r)), some (.ref a), x2, x3] S := by
  unfold p4'__law_due
  generalize hB : dSeq b1__law_due b2__law_due = B
  have e := forms_of w
  rw [hf] at e
  simp [at0]
  rw [wAt_dct g (keyF w) (by rw [e]; rfl)]
  have ec : DL.cutD (D.str w :: r) (some 1) none = r := cut_on (es := D.str w :: r) (i := 1)
  have el : sortsB q.2 r = (q.2.cps.toList.zip r).all fun p => thingB p.1 p.2 := by unfold sortsB; simp [hl]
  rw [el] at k0 k1
  rw [ec]
  show loopF _ B Dn _ (zipD (q.2.cps.toList.map sortD) r) _ S
  rw [zip_encZ]
  have hq := formsT_cs q (List.mem_of_find?_eq_some hf)
  refine loop_map encZ (fun done τ S' => (∀ p ∈ done, thingB p.1 p.2 = true) ∧ ∃ x2 x3, τ = [some (D.tup (.str w :: r)), some (.ref a), x2, x3]) (fun _ _ _ _ => trivial) (fun τ S' h => ?_) (fun done p rest τ S' he h N hN => ?_) ⟨by simp, _, _, rfl⟩
  · exact k1 (List.all_eq_true.mpr h.1) _ _
  · obtain ⟨h1, x2, x3, rfl⟩ := h
    refine ⟨rfl, rfl, ?_⟩
    show B _ [some (D.tup (.str w :: r)), some (.ref a), some (sortD p.1), some p.2] S'
    rw [← hB]
    have hm : p ∈ q.2.cps.toList.zip r := by rw [he]; simp
    obtain ⟨m1, m2⟩ := List.of_mem_zip (a := p.1) (b := p.2) hm
    obtain ⟨o1, o2, o3⟩ := hok _ m2
    refine due_body (hq _ m1) o1 o2 o3 (fun hk S2 => k0 ?_ _) (fun hk S2 => hN _ _ ⟨fun y hy => ?_, _, _, rfl⟩)
    · rw [Bool.eq_false_iff]
      intro z
      rw [List.all_eq_true.mp z p hm] at hk
      cases hk
    · rcases List.mem_append.mp hy with hy | hy
      · exact h1 y hy
      · rw [List.mem_singleton.mp hy]; exact hk
end KG

namespace KG
open PySem PySem.Spec PyProof.Rows L2 DL KF
theorem p4_eq : p4__law_due = p4'__law_due := rfl
theorem wEq_tnil {S : Sto} {Q : KD} {es : List D} {n : Nat} (hn : n ≤ 30) (ok : ∀ d ∈ es, d.ok n = true) : wEq (.tup es) (.tup []) S Q = Q (.bl (decide (es = []))) S := by
  have hall : D.oks es 30 = true := by rw [oks_all, List.all_eq_true]; exact fun d hd => D_ok_up (ok d hd) hn
  have o1 : (D.tup es).ok 31 = true := by rw [D.ok]; exact hall
  unfold wEq
  rw [rd_ok (.tup es) 31 6 S o1, rd_ok (.tup []) 1 6 S rfl, D_ok_up o1 (by decide : 31 ≤ 40)]
  have : (D.tup es).eqv (.tup []) = decide (es = []) := by
    cases es with
    | nil => simp [D.eqv, D.py, D.pys, PyData.eqv, PyData.eqvAll]
    | cons x r => simp [D.eqv, D.py, D.pys, PyData.eqv, PyData.eqvAll]
  rw [this]
  simp [D.ok, D.oks]
theorem vc__law_due {ds S Q E} (h : sp__law_due ds S Q E) : r__law_due (bodyEnds Q) (startD N__law_due ds) S := by
  obtain ⟨d, rfl, ok, bg, bk, k⟩ := h
  have hpl := plain_ok ok
  rw [r_due_eq, p4_eq]
  generalize hR : dSeq p1__law_due (dSeq p2__law_due (dSeq p3__law_due (dSeq p4'__law_due p5__law_due))) = R
  unfold p0__law_due
  cases d with
  | tup es =>
    have oks : ∀ e ∈ es, e.ok 29 = true := by
      have ok' := ok
      rw [D.ok, oks_all, List.all_eq_true] at ok'
      exact fun e he => ok' e he
    have bgs : ∀ e ∈ es, big 100 e = true := by
      have b := bg
      rw [big, bigs_iff] at b
      exact b
    rw [bulk_tup] at bk
    have hlen : es.length ≤ 79000 := by have := bulk_len (ds := es); unfold bA at bk; omega
    have bks : ∀ e ∈ es, e.py.bulk ≤ 79000 := fun e he => by
      have := bulk_mem he
      unfold bA at bk
      omega
    simp [startD, wEq_tnil (by omega : 29 ≤ 30) oks]
    cases es with
    | nil =>
      clear hR
      simp
      have k0 := k S
      have e : deedB (.tup []) = false := rfl
      rw [e] at k0
      exact k0
    | cons e r =>
      simp [at0]
      simp only [List.length_cons] at hlen
      cases e with
      | str w =>
        rw [isi_str_str]
        show R (bodyEnds Q) [some (.tup (.str w :: r)), none, none, none] S
        rw [← hR]
        refine due_forms fun a S1 g => ?_
        have hr : r.length ≤ 100000 := by omega
        have ed : deedB (.tup (.str w :: r)) = (match formsT.find? (·.1 = w) with | some p => sortsB p.2 r | none => false) := rfl
        rw [ed] at k
        show p3__law_due _ _ _
        refine due_test hr g (fun hf => ?_) (fun q hf hne => ?_) (fun q hf he => ?_)
        · rw [hf] at k; exact k _
        · rw [hf] at k
          have : sortsB q.2 r = false := by unfold sortsB; simp [hne]
          simp only [this] at k
          exact k _
        · rw [hf] at k
          refine due_loop he hr hf g (fun x hx => ⟨oks x (by simp [hx]), bgs x (by simp [hx]), bks x (by simp [hx])⟩) (fun hb S' => ?_) (fun hb τ S' => ?_)
          · simp only [hb] at k; exact k _
          · simp only [hb] at k
            exact k _
      | non =>
        have k0 := k S
        have e : deedB (.tup ((.non) :: r)) = false := rfl
        rw [e] at k0
        exact k0
      | bl b =>
        have k0 := k S
        have e : deedB (.tup ((.bl b) :: r)) = false := rfl
        rw [e] at k0
        exact k0
      | int i =>
        have k0 := k S
        have e : deedB (.tup ((.int i) :: r)) = false := rfl
        rw [e] at k0
        exact k0
      | tup x =>
        have k0 := k S
        have e : deedB (.tup ((.tup x) :: r)) = false := rfl
        rw [e] at k0
        exact k0
      | fz x =>
        have k0 := k S
        have e : deedB (.tup ((.fz x) :: r)) = false := rfl
        rw [e] at k0
        exact k0
      | ref a => exact Bool.noConfusion (plain_ok (oks _ (List.mem_cons_self ..)))
      | wt x => exact Bool.noConfusion (plain_ok (oks _ (List.mem_cons_self ..)))
      | ty x => exact Bool.noConfusion (plain_ok (oks _ (List.mem_cons_self ..)))
  | non =>
    have k0 := k S
    have e : deedB (.non) = false := rfl
    rw [e] at k0
    exact k0
  | bl b =>
    have k0 := k S
    have e : deedB (.bl b) = false := rfl
    rw [e] at k0
    exact k0
  | int i =>
    have k0 := k S
    have e : deedB (.int i) = false := rfl
    rw [e] at k0
    exact k0
  | str x =>
    have k0 := k S
    have e : deedB (.str x) = false := rfl
    rw [e] at k0
    exact k0
  | fz es =>
    have k0 := k S
    have e : deedB (.fz es) = false := rfl
    rw [e] at k0
    exact k0
  | ref a => exact Bool.noConfusion hpl
  | wt es => exact Bool.noConfusion hpl
  | ty x => exact Bool.noConfusion hpl
end KG

namespace KG
open PySem PySem.Spec PyProof.Rows L2 DL KF
def nmOk (x : Str) : Prop := x.length ≤ 8 ∧ okS x = true
def eK (p : Int × Str) : D × D := (.int p.1, .str p.2)
def eE (p : Int × Addr) : D × D := (.int p.1, .ref p.2)
def eN (p : Str × Int) : D × D := (.str p.1, .int p.2)
theorem fitK {kk : List (Int × Str)} {n : Int} : keyFit (kk.map eK) (.int n) = true := by cases kk <;> rfl
theorem fitE {kk : List (Int × Addr)} {n : Int} : keyFit (kk.map eE) (.int n) = true := by cases kk <;> rfl
theorem fitN {kk : List (Str × Int)} {n : Str} : keyFit (kk.map eN) (.str n) = true := by cases kk <;> rfl
theorem fitWK {kk : List (Int × Str)} {n : Int} : keyFitW (kk.map eK) (.int n) = true := by unfold keyFitW; rw [fitK]; simp
theorem fitWE {kk : List (Int × Addr)} {n : Int} : keyFitW (kk.map eE) (.int n) = true := by unfold keyFitW; rw [fitE]; simp
theorem fitWN {kk : List (Str × Int)} {n : Str} : keyFitW (kk.map eN) (.str n) = true := by unfold keyFitW; rw [fitN]; simp
theorem getK {kk : List (Int × Str)} (nd : (kk.map (·.1)).Nodup) {p : Int × Str} (h : p ∈ kk) : dGet (kk.map eK) (.int p.1) = some (.str p.2) := by
  have e : dGet (kk.map eK) (.int p.1) = (kk.find? fun q => decide (q.1 = p.1)).map fun q => D.str q.2 := dGet_int
  rw [e, find_of_mem nd h]; rfl
theorem getE {ke : List (Int × Addr)} (nd : (ke.map (·.1)).Nodup) {p : Int × Addr} (h : p ∈ ke) : dGet (ke.map eE) (.int p.1) = some (.ref p.2) := by
  have e : dGet (ke.map eE) (.int p.1) = (ke.find? fun q => decide (q.1 = p.1)).map fun q => D.ref q.2 := dGet_int
  rw [e, find_of_mem nd h]; rfl
theorem isK {kk : List (Int × Str)} {n : Int} : (dGet (kk.map eK) (.int n)).isSome = decide (n ∈ kk.map (·.1)) := by
  have e : dGet (kk.map eK) (.int n) = (kk.find? fun q => decide (q.1 = n)).map fun q => D.str q.2 := dGet_int
  rw [e, Option.isSome_map]
  by_cases h : n ∈ kk.map (·.1)
  · rw [decide_eq_true h]
    cases z : kk.find? fun q => decide (q.1 = n) with
    | none => exact absurd h (find_none.mp z)
    | some _ => rfl
  · rw [decide_eq_false h, find_none.mpr h]; rfl
theorem isN {kk : List (Str × Int)} {n : Str} : (dGet (kk.map eN) (.str n)).isSome = decide (n ∈ kk.map (·.1)) := by
  have e : dGet (kk.map eN) (.str n) = (kk.find? fun q => decide (q.1 = n)).map fun q => D.int q.2 := dGet_str
  rw [e, Option.isSome_map]
  by_cases h : n ∈ kk.map (·.1)
  · rw [decide_eq_true h]
    cases z : kk.find? fun q => decide (q.1 = n) with
    | none => exact absurd h (find_none.mp z)
    | some _ => rfl
  · rw [decide_eq_false h, find_none.mpr h]; rfl
theorem putK {kk : List (Int × Str)} {y : Int × Str} (h : y.1 ∉ kk.map (·.1)) : dPut (kk.map eK) (.int y.1) (.str y.2) = (kk ++ [y]).map eK := dPut_int_new (g := fun p : Int × Str => D.str p.2) h
theorem putE {kk : List (Int × Addr)} {y : Int × Addr} (h : y.1 ∉ kk.map (·.1)) : dPut (kk.map eE) (.int y.1) (.ref y.2) = (kk ++ [y]).map eE := dPut_int_new (g := fun p : Int × Addr => D.ref p.2) h
theorem putN {kk : List (Str × Int)} {y : Str × Int} (h : y.1 ∉ kk.map (·.1)) : dPut (kk.map eN) (.str y.1) (.int y.2) = (kk ++ [y]).map eN := dPut_str_new (g := fun p : Str × Int => D.int p.2) h
theorem putN_any {es : List (Str × Int)} {x : Str} {v : Int} (hx : nmOk x) (h : ∀ e ∈ es, nmOk e.1) : ∃ fs : List (Str × Int), dPut (es.map eN) (.str x) (.int v) = fs.map eN ∧ fs.length ≤ es.length + 1 ∧ ∀ e ∈ fs, nmOk e.1 := by
  by_cases z : x ∈ es.map (·.1)
  · refine ⟨es.map fun e => if e.1 = x then (e.1, v) else e, ?_, by simp, fun e he => ?_⟩
    · unfold dPut
      rw [if_pos]
      · rw [List.map_map, List.map_map]
        refine List.map_congr_left fun e _ => ?_
        simp only [Function.comp_def, eN, D.str.injEq]
        split <;> rfl
      · obtain ⟨e, he, rfl⟩ := List.mem_map.mp z
        exact List.any_eq_true.mpr ⟨eN e, List.mem_map.mpr ⟨e, he, rfl⟩, by simp [eN]⟩
    · obtain ⟨a, ha, rfl⟩ := List.mem_map.mp he
      split
      · exact h a ha
      · exact h a ha
  · refine ⟨es ++ [(x, v)], putN (y := (x, v)) z, by simp, fun e he => ?_⟩
    rcases List.mem_append.mp he with he | he
    · exact h e he
    · rw [List.mem_singleton.mp he]; exact hx
/-- the dicts of a tree being made: entries E, kinds K; the pool P -/
structure TI (S0 : Sto) (f E K P : Addr) (n : Nat) (pool : List Int) (ke : List (Int × Addr)) (kk : List (Int × Str)) (S : Sto) : Prop where
  gE : S E = some (.dct (ke.map eE))
  gK : S K = some (.dct (kk.map eK))
  gP : S P = some (.lst (pool.map D.int))
  same : ke.map (·.1) = kk.map (·.1)
  nd : (kk.map (·.1)).Nodup
  top : ((0 : Int), Str.ofString "drawer") ∈ kk
  kd : ∀ p ∈ kk, p.2 = Str.ofString "drawer" ∨ p.2 = Str.ofString "sheet"
  inn : ∀ p ∈ ke, p.2 ≠ E ∧ p.2 ≠ K ∧ p.2 ≠ P ∧ p.2 ≠ f ∧ S0 p.2 = none ∧ ∃ es : List (Str × Int), S p.2 = some (.dct (es.map eN)) ∧ es.length ≤ n ∧ ∀ e ∈ es, nmOk e.1
  ne : E ≠ K ∧ E ≠ P ∧ K ≠ P ∧ E ≠ f ∧ K ≠ f ∧ P ≠ f
  n0 : S0 E = none ∧ S0 K = none ∧ S0 P = none
  F : Feed S f
  ks : Keeps f S0 S
section
variable {S0 S S' : Sto} {f E K P p : Addr} {n n' : Nat} {pool : List Int} {ke : List (Int × Addr)} {kk : List (Int × Str)} {o : AO}
theorem TI.keep (T : TI S0 f E K P n pool ke kk S) (F : Feed S' f) (k : Keeps f S S') : TI S0 f E K P n pool ke kk S' where
  gE := k _ _ T.ne.2.2.2.1 T.gE
  gK := k _ _ T.ne.2.2.2.2.1 T.gK
  gP := k _ _ T.ne.2.2.2.2.2 T.gP
  same := T.same
  nd := T.nd
  top := T.top
  kd := T.kd
  inn := fun q hq => by
    obtain ⟨a, b, c, d, e, es, h1, h2⟩ := T.inn q hq
    exact ⟨a, b, c, d, e, es, k _ _ d h1, h2⟩
  ne := T.ne
  n0 := T.n0
  F := F
  ks := T.ks.trans k
theorem TI.new (T : TI S0 f E K P n pool ke kk S) (h : S p = none) : TI S0 f E K P n pool ke kk (put S p o) := T.keep (T.F.new h) (Keeps.new h)
theorem TI.up (T : TI S0 f E K P n pool ke kk S) (h : n ≤ n') : TI S0 f E K P n' pool ke kk S := ⟨T.gE, T.gK, T.gP, T.same, T.nd, T.top, T.kd, fun q hq => by
    obtain ⟨a, b, c, d, e, es, h1, h2, h3⟩ := T.inn q hq
    exact ⟨a, b, c, d, e, es, h1, by omega, h3⟩, T.ne, T.n0, T.F, T.ks⟩
theorem TI.free (T : TI S0 f E K P n pool ke kk S) (h : S p = none) : S0 p = none := T.F.freeT T.ks h
theorem TI.ndE (T : TI S0 f E K P n pool ke kk S) : (ke.map (·.1)).Nodup := by rw [T.same]; exact T.nd
/-- an inner dict gets an entry -/
theorem TI.entry (T : TI S0 f E K P n pool ke kk S) {q : Int × Addr} (hq : q ∈ ke) {es : List (Str × Int)} (he : es.length ≤ n + 1) (hn : ∀ e ∈ es, nmOk e.1) : TI S0 f E K P (n + 1) pool ke kk (put S q.2 (.dct (es.map eN))) := by
  obtain ⟨a, b, c, d, e, _⟩ := T.inn q hq
  exact {
    gE := by rw [put_ne (Ne.symm a)]; exact T.gE
    gK := by rw [put_ne (Ne.symm b)]; exact T.gK
    gP := by rw [put_ne (Ne.symm c)]; exact T.gP
    same := T.same, nd := T.nd, top := T.top, kd := T.kd, ne := T.ne, n0 := T.n0
    inn := fun r hr => by
      obtain ⟨a', b', c', d', e', fs, h1, h2, h3⟩ := T.inn r hr
      refine ⟨a', b', c', d', e', ?_⟩
      by_cases z : r.2 = q.2
      · exact ⟨es, by rw [z, put_same], he, hn⟩
      · exact ⟨fs, by rw [put_ne z]; exact h1, by omega, h3⟩
    F := T.F.put d
    ks := T.ks.then e }
/-- a node more -/
theorem TI.node (T : TI S0 f E K P n pool ke kk S) {m : Int} {w : Str} (hm : m ∉ kk.map (·.1)) (hw : w = Str.ofString "drawer" ∨ w = Str.ofString "sheet") (hp : S p = none) :
    TI S0 f E K P n pool (ke ++ [(m, p)]) (kk ++ [(m, w)]) (put (put (put S K (.dct ((kk ++ [(m, w)]).map eK))) p (.dct [])) E (.dct ((ke ++ [(m, p)]).map eE))) := by
  obtain ⟨n1, n2, n3, n4, n5, n6⟩ := T.ne
  obtain ⟨z1, z2, z3⟩ := T.n0
  have pE : p ≠ E := fun z => by rw [z, T.gE] at hp; cases hp
  have pK : p ≠ K := fun z => by rw [z, T.gK] at hp; cases hp
  have pP : p ≠ P := fun z => by rw [z, T.gP] at hp; cases hp
  have pf : p ≠ f := T.F.nt hp
  exact {
    gE := put_same
    gK := by rw [put_ne (Ne.symm n1), put_ne (Ne.symm pK), put_same]
    gP := by rw [put_ne (Ne.symm n2), put_ne (Ne.symm pP), put_ne (Ne.symm n3)]; exact T.gP
    same := by rw [List.map_append, List.map_append, T.same]; rfl
    nd := by
      rw [List.map_append, List.nodup_append]
      refine ⟨T.nd, by simp, fun a ha b hb => ?_⟩
      rw [List.map_singleton, List.mem_singleton] at hb
      intro z; rw [hb] at z; rw [z] at ha; exact hm ha
    top := List.mem_append_left _ T.top
    kd := fun q hq => by
      rcases List.mem_append.mp hq with hq | hq
      · exact T.kd q hq
      · rw [List.mem_singleton.mp hq]; exact hw
    inn := fun r hr => by
      rcases List.mem_append.mp hr with hr | hr
      · obtain ⟨a', b', c', d', e', fs, h1, h2, h3⟩ := T.inn r hr
        have rp : r.2 ≠ p := fun z => by rw [z, hp] at h1; cases h1
        exact ⟨a', b', c', d', e', fs, by rw [put_ne a', put_ne rp, put_ne b']; exact h1, h2, h3⟩
      · rw [List.mem_singleton.mp hr]
        exact ⟨pE, pK, pP, pf, T.free hp, [], by show put _ _ _ p = _; rw [put_ne pE, put_same]; rfl, Nat.zero_le _, by simp⟩
    ne := T.ne, n0 := T.n0
    F := ((T.F.put n5).put pf).put n4
    ks := ((T.ks.then z2).then (T.free hp)).then z1 }
theorem put4 {a b : Addr} {o1 o2 o3 : AO} (h : a ≠ b) (e : S a = some o1) : put (put (put S a o2) b o3) a o1 = put S b o3 := by
  rw [put_swap h, put_put', put_swap (Ne.symm h), put_self e]
end
/-- the nodes of a kind, in a list -/
def kinded (w : Str) (kk : List (Int × Str)) : List Int := (kk.filter fun p => decide (p.2 = w)).map (·.1)
theorem kinded_len (w : Str) (kk : List (Int × Str)) : (kinded w kk).length ≤ kk.length := by
  unfold kinded; rw [List.length_map]; exact List.length_filter_le _ _
theorem kinded_mem {w : Str} {kk : List (Int × Str)} {n : Int} (h : n ∈ kinded w kk) : (n, w) ∈ kk := by
  unfold kinded at h
  obtain ⟨p, hp, rfl⟩ := List.mem_map.mp h
  obtain ⟨h1, h2⟩ := List.mem_filter.mp hp
  rw [← of_decide_eq_true h2]; exact h1
theorem kinded_flat (w : Str) (kk : List (Int × Str)) : (kk.flatMap fun p => if p.2 = w then [D.int p.1] else []) = (kinded w kk).map D.int := by
  unfold kinded
  induction kk with
  | nil => rfl
  | cons p r ih =>
    rw [List.flatMap_cons, ih, List.filter_cons]
    by_cases h : p.2 = w <;> simp [h]
def rdKinded (w : Str) : DTE := dLC (diVal (dV 9) wIterA) (gdName 6) (dTst (dBin wEq (dBin wAt (dV 9) (dV 6)) (dC (.str w)))) [6] [6] [] (dV 6)
theorem kinded_walk {w : Str} {S : Sto} {K : Addr} {od : Obj} {kk : List (Int × Str)} {τ : DSt} {Q : KD} (h9 : τ[9]? = some (some (.ref K))) (h6 : 6 < τ.length) (g : S K = some (.fdc od (kk.map eK))) (nd : (kk.map (·.1)).Nodup) (hl : kk.length ≤ 1000)
    (q : ∀ L, S L = none → Q (.ref L) (put S L (.lst ((kinded w kk).map D.int)))) : rdKinded w τ S Q := by
  unfold rdKinded
  simp only [dLC_eq, diVal_eq, dV_eq, h9]
  rw [wIter_fdc g]
  intro L hL
  have LK : K ≠ L := ne_of_free hL g
  have e1 : (kk.map eK).map (·.1) = kk.map fun p => D.int p.1 := by rw [List.map_map]; rfl
  rw [e1]
  have w1 : wipeD τ [6] = τ.set 6 none := by simp
  rw [w1]
  have h9' : ∀ v, ((τ.set 6 none).set 6 v)[9]? = some (some (.ref K)) := fun v => by
    rw [List.getElem?_set_ne (by decide), List.getElem?_set_ne (by decide)]; exact h9
  have h6' : ∀ v : Option D, ((τ.set 6 none).set 6 v)[6]? = some v := fun v => by
    rw [List.set_set, List.getElem?_set_self h6]
  refine lc_map (fun p : Int × Str => D.int p.1) (fun p => if p.2 = w then [D.int p.1] else []) kk (fun o => by rw [put_ne LK]; exact g) ?_ (fun p hp acc k hacc hk => ?_) ?_
  · have := flatMap_le (fun p : Int × Str => if p.2 = w then [D.int p.1] else []) 1 kk fun x _ => by split <;> simp
    rw [sizeLine_eq]; omega
  · have gK : (put S L (.lst acc)) K = some (.fdc od (kk.map eK)) := by rw [put_ne LK]; exact g
    show _ ∧ _
    refine ⟨by simp, ?_⟩
    simp only [dTst_eq, dBin_eq, dV_eq, h9', h6', dC_eq]
    rw [wAt_fdc gK fitK (getK nd hp), wEq_str]
    by_cases h : p.2 = w
    · simp only [h, if_true, List.length_singleton, isB_bl, decide_true, emLst_eq, dV_eq, h6'] at hk hacc ⊢
      rw [onL_eq put_same]
      exact ⟨by omega, by rw [put_put']; exact hk⟩
    · simp only [h, if_false, List.append_nil, isB_bl, decide_false] at hk ⊢
      exact hk
  · rw [kinded_flat]; exact q L hL
/-- as a statement: the dict is locked and let go again -/
theorem kinded_set {w : Str} {S : Sto} {K : Addr} {kk : List (Int × Str)} {τ : DSt} {Dn : DEnds} (h9 : τ[9]? = some (some (.ref K))) (h6 : 10 < τ.length) (g : S K = some (.dct (kk.map eK))) (nd : (kk.map (·.1)).Nodup) (hl : kk.length ≤ 1000)
    (q : ∀ L, S L = none → Dn.nx (τ.set 10 (some (.ref L))) (put S L (.lst ((kinded w kk).map D.int)))) : dLockS 9 (dAsg (rdKinded w) (gdName 10)) Dn τ S := by
  unfold dLockS
  simp only [h9, g]
  intro od
  show rdKinded w τ _ _
  refine kinded_walk h9 (by omega) put_same nd hl fun L hL => ?_
  have LK : L ≠ K := fun z => by rw [z, put_same] at hL; cases hL
  refine ⟨by rw [put_ne (Ne.symm LK)]; exact put_same, ?_⟩
  rw [put4 (Ne.symm LK) g]
  exact q L (by rw [put_ne LK] at hL; exact hL)
theorem kinded_val {w : Str} {S : Sto} {K : Addr} {kk : List (Int × Str)} {τ : DSt} {Q : KD} (h9 : τ[9]? = some (some (.ref K))) (h6 : 10 < τ.length) (g : S K = some (.dct (kk.map eK))) (nd : (kk.map (·.1)).Nodup) (hl : kk.length ≤ 1000)
    (q : ∀ L, S L = none → Q (.ref L) (put S L (.lst ((kinded w kk).map D.int)))) : dLockE 9 (rdKinded w) τ S Q := by
  unfold dLockE
  simp only [h9, g]
  intro od
  refine kinded_walk h9 (by omega) put_same nd hl fun L hL => ?_
  have LK : L ≠ K := fun z => by rw [z, put_same] at hL; cases hL
  refine ⟨by rw [put_ne (Ne.symm LK)]; exact put_same, ?_⟩
  rw [put4 (Ne.symm LK) g]
  exact q L (by rw [put_ne LK] at hL; exact hL)
end KG

namespace KG
open PySem PySem.Spec PyProof.Rows L2 DL KF
def rdPick (i : Nat) : DTE := dBin wAt (dV i) (dCall sp__law_draw [] (dCons (dV 0) (dCons (dCB wLen (dCons (dV i) dNil)) dNil)))
theorem rdPick_of {i : Nat} {τ : DSt} {S : Sto} {f L : Addr} {xs : List D} {Q : KD} (h0 : τ[0]? = some (some (.ref f))) (hi : τ[i]? = some (some (.ref L))) (F : Feed S f) (g : S L = some (.lst xs)) (h : 0 < xs.length) (hl : xs.length < 1000000)
    (k : ∀ x ∈ xs, ∀ S', Feed S' f → Keeps f S S' → Q x S') : rdPick i τ S Q := by
  unfold rdPick
  have Lf : L ≠ f := fun z => by obtain ⟨_, _, _, _, e⟩ := F; rw [← z, g] at e; cases e
  simp only [dBin_eq, dV_eq, hi, dCall_eq, h0, dCons_eq, dNil_eq, dCB_eq, wLen_lst g, List.append_nil]
  exact ⟨f, _, rfl, by omega, by omega, F, fun r S1 r0 r1 F1 K1 => wAt_mem (K1 _ _ Lf g) r0 (by omega) fun x hx => k x hx S1 F1 K1⟩
theorem rdDraw_of {m : Int} {τ : DSt} {S : Sto} {f : Addr} {Q : KD} (h0 : τ[0]? = some (some (.ref f))) (F : Feed S f) (hm : 0 < m) (hl : m < 1000000) (k : ∀ r S', 0 ≤ r → r < m → Feed S' f → Keeps f S S' → Q (.int r) S') :
    dCall sp__law_draw [] (dCons (dV 0) (dCons (dC (.int m)) dNil)) τ S Q := by
  simp only [dCall_eq, dCons_eq, dV_eq, h0, dC_eq, dNil_eq, List.append_nil]
  exact ⟨f, m, rfl, hm, by omega, F, k⟩
theorem wAt_last {S : Sto} {Q : KD} {G : Addr} {xs : List D} (h : S G = some (.lst xs)) (hne : xs ≠ []) (q : ∀ x ∈ xs, Q x S) : wAt (.ref G) (.int (-1)) S Q := by
  rw [wAt_lst h, atI_last hne]
  cases e : xs.getLast? with
  | none => exact absurd (List.getLast?_eq_none_iff.mp e) hne
  | some x => exact q x (List.mem_of_getLast? e)
theorem wSet_dct {S : Sto} {a : Addr} {kvs : List (D × D)} {i v : D} {k : Sto → Prop} (h : S a = some (.dct kvs)) (f : keyFitW kvs i = true) (hl : kvs.length < sizeLine) (q : k (put S a (.dct (dPut kvs i v)))) : wSet (.ref a) i v S k := by
  simp only [wSet, h]
  exact ⟨f, hl, q⟩
def r__law_tree : DTS := dSeq (dAsg (dTup (dCons (dDisp ((dC (.int 0), dNewD) :: [])) (dCons (dDisp ((dC (.int 0), dC (.str "drawer")) :: [])) dNil))) (gdTup 2 (gdCons (gdName 8) (gdCons (gdName 9) gdNil)))) (dSeq (dAsg (dLstRg (rRg2 (dC (.int 1)) (dBin wAdd (dBin wAdd (dV 2) (dC (.int 2))) (dCall sp__law_draw [] (dCons (dV 0) (dCons (dC (.int 3)) dNil)))))) (gdName 3)) (dSeq (dAsg (dCall sp__law_draw [] (dCons (dV 0) (dCons (dC (.int 2)) dNil))) (gdName 4)) (dSeq (dFor (diRng1 (dCons (dV 2) dNil)) (gdName 5) (dSeq (dLockS 9 (dAsg (dLC (diVal (dV 9) wIterA) (gdName 6) (dTst (dBin wEq (dBin wAt (dV 9) (dV 6)) (dC (.str "drawer")))) [6] [6] [] (dV 6)) (gdName 10))) (dSeq (dAsg (dBin wAt (dV 10) (dUn wNeg (dC (.int 1)))) (gdName 11)) (dSeq (dIfS (dOr (dTst (dBin wEq (dV 4) (dC (.int 0)))) (dTst (dBin wEq (dCall sp__law_draw [] (dCons (dV 0) (dCons (dC (.int 2)) dNil))) (dC (.int 1))))) (dAsg (dBin wAt (dV 10) (dCall sp__law_draw [] (dCons (dV 0) (dCons (dCB wLen (dCons (dV 10) dNil)) dNil)))) (gdName 11)) dNext) (dSeq (dAsg (dBin wAt (dV 1) (dCall sp__law_draw [] (dCons (dV 0) (dCons (dCB wLen (dCons (dV 1) dNil)) dNil)))) (gdName 12)) (dSeq (dAsg (dBin wAt (dV 3) (dCall sp__law_draw [] (dCons (dV 0) (dCons (dCB wLen (dCons (dV 3) dNil)) dNil)))) (gdName 6)) (dIfS (dAnd (dTst (dBin (wIn true) (dV 12) (dBin wAt (dV 8) (dV 11)))) (dTst (dBin (wIn true) (dV 6) (dV 9)))) (dSeq (dAsg (dBin wAt (dLst (dCons (dC (.str "drawer")) (dCons (dC (.str "drawer")) (dCons (dC (.str "sheet")) dNil)))) (dCall sp__law_draw [] (dCons (dV 0) (dCons (dC (.int 3)) dNil)))) (gdSub (dV 9) (dV 6) wSet)) (dAsg (dTup (dCons dNewD (dCons (dV 6) dNil))) (gdTup 2 (gdCons (gdSub (dV 8) (dV 6) wSet) (gdCons (gdSub (dBin wAt (dV 8) (dV 11)) (dV 12) wSet) gdNil))))) dNext))))))) (dSeq (dFor (diVal (dLockE 9 (dLC (diVal (dV 9) wIterA) (gdName 6) (dTst (dBin wEq (dBin wAt (dV 9) (dV 6)) (dC (.str "sheet")))) [6] [6] [] (dV 6))) wIterA) (gdName 6) (dSeq (dLockS 9 (dAsg (dLC (diVal (dV 9) wIterA) (gdName 6) (dTst (dBin wEq (dBin wAt (dV 9) (dV 6)) (dC (.str "drawer")))) [6] [6] [] (dV 6)) (gdName 10))) (dSeq (dAsg (dBin wAt (dV 10) (dCall sp__law_draw [] (dCons (dV 0) (dCons (dCB wLen (dCons (dV 10) dNil)) dNil)))) (gdName 11)) (dSeq (dAsg (dBin wAt (dV 1) (dCall sp__law_draw [] (dCons (dV 0) (dCons (dCB wLen (dCons (dV 1) dNil)) dNil)))) (gdName 12)) (dIfS (dAnd (dTst (dBin (wIn true) (dV 12) (dBin wAt (dV 8) (dV 11)))) (dTst (dBin wEq (dCall sp__law_draw [] (dCons (dV 0) (dCons (dC (.int 2)) dNil))) (dC (.int 0))))) (dAsg (dV 6) (gdSub (dBin wAt (dV 8) (dV 11)) (dV 12) wSet)) dNext))))) (dSeq (dAsg (dLst dNil) (gdName 7)) (dSeq (dFor (diVal (dCB wSortedD (dCons (dV 9) dNil)) wIterA) (gdName 6) (dDrop (dBM "list" wAppend (dV 7) (dCons (dTup (dCons (dV 6) (dCons (dBin wAt (dV 9) (dV 6)) (dCons (dCB wTuple (dCons (dSortedItems (dBin wAt (dV 8) (dV 6))) dNil)) dNil)))) dNil)))) (dRet (dTup (dCons (dCB wTuple (dCons (dV 7) dNil)) (dCons (dBin wAdd (dBin wAdd (dBin wAt (dBin wAt (dV 7) (dUn wNeg (dC (.int 1)))) (dC (.int 0))) (dC (.int 1))) (dCall sp__law_draw [] (dCons (dV 0) (dCons (dC (.int 3)) dNil)))) dNil))))))))))
abbrev N__law_tree : List Str := ["_law_feed_here", "_law_names_here", "_law_many", "_law_pool", "_law_deep", "_law_k", "_law_node", "_law_rows", "_law_entries", "_law_kinds", "_law_drawers", "_law_drawer", "_law_name"]

def tIns1 : DTS := dIfS (dAnd (dTst (dBin (wIn true) (dV 12) (dBin wAt (dV 8) (dV 11)))) (dTst (dBin (wIn true) (dV 6) (dV 9)))) (dSeq (dAsg (dBin wAt (dLst (dCons (dC (.str "drawer")) (dCons (dC (.str "drawer")) (dCons (dC (.str "sheet")) dNil)))) (dCall sp__law_draw [] (dCons (dV 0) (dCons (dC (.int 3)) dNil)))) (gdSub (dV 9) (dV 6) wSet)) (dAsg (dTup (dCons dNewD (dCons (dV 6) dNil))) (gdTup 2 (gdCons (gdSub (dV 8) (dV 6) wSet) (gdCons (gdSub (dBin wAt (dV 8) (dV 11)) (dV 12) wSet) gdNil))))) dNext
def tRest1 : DTS := dSeq (dAsg (rdPick 1) (gdName 12)) (dSeq (dAsg (rdPick 3) (gdName 6)) tIns1)
def tBody1 : DTS := dSeq (dLockS 9 (dAsg (rdKinded "drawer") (gdName 10))) (dSeq (dAsg (dBin wAt (dV 10) (dUn wNeg (dC (.int 1)))) (gdName 11)) (dSeq (dIfS (dOr (dTst (dBin wEq (dV 4) (dC (.int 0)))) (dTst (dBin wEq (dCall sp__law_draw [] (dCons (dV 0) (dCons (dC (.int 2)) dNil))) (dC (.int 1))))) (dAsg (rdPick 10) (gdName 11)) dNext) tRest1))
def tIns2 : DTS := dIfS (dAnd (dTst (dBin (wIn true) (dV 12) (dBin wAt (dV 8) (dV 11)))) (dTst (dBin wEq (dCall sp__law_draw [] (dCons (dV 0) (dCons (dC (.int 2)) dNil))) (dC (.int 0))))) (dAsg (dV 6) (gdSub (dBin wAt (dV 8) (dV 11)) (dV 12) wSet)) dNext
def tBody2 : DTS := dSeq (dLockS 9 (dAsg (rdKinded "drawer") (gdName 10))) (dSeq (dAsg (rdPick 10) (gdName 11)) (dSeq (dAsg (rdPick 1) (gdName 12)) tIns2))
def tBody3 : DTS := dDrop (dBM "list" wAppend (dV 7) (dCons (dTup (dCons (dV 6) (dCons (dBin wAt (dV 9) (dV 6)) (dCons (dCB wTuple (dCons (dSortedItems (dBin wAt (dV 8) (dV 6))) dNil)) dNil)))) dNil))
def tA : DTS := dAsg (dTup (dCons (dDisp ((dC (.int 0), dNewD) :: [])) (dCons (dDisp ((dC (.int 0), dC (.str "drawer")) :: [])) dNil))) (gdTup 2 (gdCons (gdName 8) (gdCons (gdName 9) gdNil)))
def tB : DTS := dAsg (dLstRg (rRg2 (dC (.int 1)) (dBin wAdd (dBin wAdd (dV 2) (dC (.int 2))) (dCall sp__law_draw [] (dCons (dV 0) (dCons (dC (.int 3)) dNil)))))) (gdName 3)
def tC : DTS := dAsg (dCall sp__law_draw [] (dCons (dV 0) (dCons (dC (.int 2)) dNil))) (gdName 4)
def tF1 : DTS := dFor (diRng1 (dCons (dV 2) dNil)) (gdName 5) tBody1
def tF2 : DTS := dFor (diVal (dLockE 9 (rdKinded "sheet")) wIterA) (gdName 6) tBody2
def tF3 : DTS := dFor (diVal (dCB wSortedD (dCons (dV 9) dNil)) wIterA) (gdName 6) tBody3
def tD : DTS := dAsg (dLst dNil) (gdName 7)
def tR : DTS := dRet (dTup (dCons (dCB wTuple (dCons (dV 7) dNil)) (dCons (dBin wAdd (dBin wAdd (dBin wAt (dBin wAt (dV 7) (dUn wNeg (dC (.int 1)))) (dC (.int 0))) (dC (.int 1))) (dCall sp__law_draw [] (dCons (dV 0) (dCons (dC (.int 3)) dNil)))) dNil)))
theorem r_tree_eq : r__law_tree = dSeq tA (dSeq tB (dSeq tC (dSeq tF1 (dSeq tF2 (dSeq tD (dSeq tF3 tR)))))) := rfl
section
variable {S0 S : Sto} {f L E K P : Addr} {c : Nat} {pool : List Int} {ke : List (Int × Addr)} {kk : List (Int × Str)} {ns : List Str} {deep many : Option D} {x5 x6 x10 x11 x12 : Option D} {Dn : DEnds}
theorem ins1 (T : TI S0 f E K P c pool ke kk S) (hc : c ≤ 1000) (hkk : kk.length ≤ 1000) {d node : Int} {nm : Str} (hd : d ∈ kinded "drawer" kk) (hn : nmOk nm)
    (k : ∀ ke' kk' S', TI S0 f E K P (c + 1) pool ke' kk' S' → kk'.length ≤ kk.length + 1 → Dn.nx [some (.ref f), some (.ref L), many, some (.ref P), deep, x5, some (.int node), none, some (.ref E), some (.ref K), x10, some (.int d), some (.str nm)] S') :
    tIns1 Dn [some (.ref f), some (.ref L), many, some (.ref P), deep, x5, some (.int node), none, some (.ref E), some (.ref K), x10, some (.int d), some (.str nm)] S := by
  have sz : 1001 < sizeLine := by rw [sizeLine_eq]; decide
  have lke : ke.length = kk.length := by have := congrArg List.length T.same; simpa using this
  obtain ⟨q, hq, rfl⟩ : ∃ q ∈ ke, q.1 = d := by
    have h1 : d ∈ kk.map (·.1) := List.mem_map.mpr ⟨_, kinded_mem hd, rfl⟩
    rw [← T.same] at h1
    exact List.mem_map.mp h1
  obtain ⟨i1, i2, i3, i4, i5, es, g1, l1, h1⟩ := T.inn q hq
  unfold tIns1
  simp only [dIfS_eq, dAnd_eq, dTst_eq, dBin_eq]
  refine dV_at (by rfl) ?_; refine dV_at (by rfl) ?_; refine dV_at (by rfl) ?_
  rw [wAt_dct T.gE fitE (getE T.ndE hq), wIn_dct g1 fitN, isN]
  by_cases hnm : nm ∈ es.map (·.1)
  · simp only [hnm, decide_true, isB_bl]
    exact k ke kk S (T.up (by omega)) (by omega)
  · simp only [hnm, decide_false, isB_bl]
    rw [if_pos (show (true != false) = true from rfl)]
    refine dV_at (by rfl) ?_; refine dV_at (by rfl) ?_
    rw [wIn_dct T.gK fitK, isK]
    by_cases hno : node ∈ kk.map (·.1)
    · simp only [hno, decide_true, isB_bl]
      exact k ke kk S (T.up (by omega)) (by omega)
    · simp only [hno, decide_false, isB_bl]
      rw [if_pos (show (true != false) = true from rfl)]
      show (3 ≤ sizeLine ∧ _)
      refine ⟨by omega, fun p hp => ?_⟩
      refine ⟨f, 3, rfl, by omega, by omega, T.F.new hp, fun r S1 r0 r1 F1 K1 => ?_⟩
      have T1 := (T.new (o := .lst [.str "drawer", .str "drawer", .str "sheet"]) hp).keep F1 K1
      refine wAt_mem (K1 _ _ (T.F.nt hp) put_same) r0 (by simpa using r1) fun x hx => ?_
      obtain ⟨w, rfl, hw⟩ : ∃ w : Str, x = .str w ∧ (w = Str.ofString "drawer" ∨ w = Str.ofString "sheet") := by
        simp only [List.mem_cons, List.not_mem_nil, or_false] at hx
        rcases hx with rfl | rfl | rfl
        · exact ⟨_, rfl, .inl rfl⟩
        · exact ⟨_, rfl, .inl rfl⟩
        · exact ⟨_, rfl, .inr rfl⟩
      show wSet (.ref K) (.int node) (.str w) S1 _
      refine wSet_dct T1.gK fitWK (by rw [List.length_map]; omega) ?_
      rw [putK (y := (node, w)) hno]
      show ∀ p2, _ → _
      intro p2 hp2
      have hp2' : S1 p2 = none := by
        have : p2 ≠ K := fun z => by rw [z, put_same] at hp2; cases hp2
        rw [put_ne this] at hp2; exact hp2
      have T2 := T1.node hno hw hp2'
      show 2 ≤ sizeLine ∧ _ ∧ _
      refine ⟨by omega, rfl, ?_⟩
      have pE : p2 ≠ E := fun z => by rw [z, T1.gE] at hp2'; cases hp2'
      have gE1 : (put (put S1 K (.dct ((kk ++ [(node, w)]).map eK))) p2 (.dct [])) E = some (.dct (ke.map eE)) := by
        rw [put_ne (Ne.symm pE), put_ne T1.ne.1]; exact T1.gE
      show wSet (.ref E) (.int node) (.ref p2) _ _
      refine wSet_dct gE1 fitWE (by rw [List.length_map]; omega) ?_
      rw [putE (y := (node, p2)) (by rw [T1.same]; exact hno)]
      generalize put (put (put S1 K (.dct ((kk ++ [(node, w)]).map eK))) p2 (.dct [])) E (.dct ((ke ++ [(node, p2)]).map eE)) = S2 at T2
      simp only [gdCons_eq, gdSub_eq, dBin_eq]
      refine dV_at (by rfl) ?_; refine dV_at (by rfl) ?_
      have hq2 : q ∈ ke ++ [(node, p2)] := List.mem_append_left _ hq
      obtain ⟨_, _, _, _, _, es2, g2, l2, h2⟩ := T2.inn q hq2
      rw [wAt_dct T2.gE fitE (getE T2.ndE hq2)]
      refine dV_at (by rfl) ?_; refine wSet_dct g2 fitWN (by rw [List.length_map]; omega) ?_
      obtain ⟨fs, e1, l3, h3⟩ := putN_any (es := es2) (v := node) hn h2
      rw [e1]
      show [] = [] ∧ _
      exact ⟨rfl, k _ _ _ (T2.entry hq2 (by omega) h3) (by simp)⟩
end
end KG

namespace KG
open PySem PySem.Spec PyProof.Rows L2 DL KF
section
variable {S0 S : Sto} {f L E K P : Addr} {c : Nat} {pool : List Int} {ke : List (Int × Addr)} {kk : List (Int × Str)} {ns : List Str} {deep many : Option D} {x5 x6 x10 x11 x12 : Option D} {Dn : DEnds}
theorem mem_str {ns : List Str} {x : D} (h : x ∈ ns.map D.str) : ∃ n ∈ ns, x = .str n := by
  obtain ⟨n, h1, rfl⟩ := List.mem_map.mp h; exact ⟨n, h1, rfl⟩
theorem mem_int {ns : List Int} {x : D} (h : x ∈ ns.map D.int) : ∃ n ∈ ns, x = .int n := by
  obtain ⟨n, h1, rfl⟩ := List.mem_map.mp h; exact ⟨n, h1, rfl⟩
theorem kinded_top (T : TI S0 f E K P c pool ke kk S) : kinded "drawer" kk ≠ [] := by
  intro z
  have : (0 : Int) ∈ kinded "drawer" kk := by
    unfold kinded
    exact List.mem_map.mpr ⟨_, List.mem_filter.mpr ⟨T.top, by simp⟩, rfl⟩
  rw [z] at this; cases this
structure Nms (S0 : Sto) (f L : Addr) (ns : List Str) : Prop where
  g : S0 L = some (.lst (ns.map D.str))
  lf : L ≠ f
  l2 : 2 ≤ ns.length
  l8 : ns.length ≤ 8
  ok : ∀ n ∈ ns, nmOk n
theorem body1 (T : TI S0 f E K P c pool ke kk S) (W : Nms S0 f L ns) (hp : pool ≠ []) (lp : pool.length ≤ 1000) (hc : c ≤ 1000) (hkk : kk.length ≤ 1000) {dp : Int}
    (k : ∀ ke' kk' x6 x10 x11 x12 S', TI S0 f E K P (c + 1) pool ke' kk' S' → kk'.length ≤ kk.length + 1 → Dn.nx [some (.ref f), some (.ref L), many, some (.ref P), some (.int dp), x5, x6, none, some (.ref E), some (.ref K), x10, x11, x12] S') :
    tBody1 Dn [some (.ref f), some (.ref L), many, some (.ref P), some (.int dp), x5, x6, none, some (.ref E), some (.ref K), x10, x11, x12] S := by
  unfold tBody1
  simp only [dSeq_eq]
  refine kinded_set (by rfl) (by show 10 < 13; decide) T.gK T.nd hkk fun G hG => ?_
  have T1 := T.new (o := .lst ((kinded "drawer" kk).map D.int)) hG
  have g1 : put S G (.lst ((kinded "drawer" kk).map D.int)) G = some (.lst ((kinded "drawer" kk).map D.int)) := put_same
  have Gf := T.F.nt hG
  generalize put S G (.lst ((kinded "drawer" kk).map D.int)) = S1 at *
  have hne := kinded_top T
  have rest : ∀ d, d ∈ kinded "drawer" kk → ∀ S2, Feed S2 f → Keeps f S1 S2 → tRest1 Dn [some (.ref f), some (.ref L), many, some (.ref P), some (.int dp), x5, x6, none, some (.ref E), some (.ref K), some (.ref G), some (.int d), x12] S2 := fun d hd S2 F2 K2 => by
    have T2 := T1.keep F2 K2
    unfold tRest1
    simp only [dSeq_eq, dAsg_eq]
    refine rdPick_of (L := L) (by rfl) (by rfl) F2 (T2.ks _ _ W.lf W.g) (by rw [List.length_map]; have := W.l2; omega) (by rw [List.length_map]; have := W.l8; omega) fun x hx S3 F3 K3 => ?_
    obtain ⟨nm, hnm, rfl⟩ := mem_str hx
    have T3 := T2.keep F3 K3
    simp only [dSeq_eq, dAsg_eq, dBin_eq, dUn_eq, dC_eq, wNeg_int, gdName_eq, dIfS_eq, dOr_eq, dAnd_eq, dTst_eq]
    refine rdPick_of (L := P) (by rfl) (by rfl) F3 T3.gP (by rw [List.length_map]; exact List.length_pos_iff.mpr hp) (by rw [List.length_map]; omega) fun y hy S4 F4 K4 => ?_
    obtain ⟨nd, hnd, rfl⟩ := mem_int hy
    exact ins1 (T3.keep F4 K4) hc hkk hd (W.ok _ hnm) fun ke' kk' S' T' l' => k ke' kk' _ _ _ _ S' T' l'
  simp only [dSeq_eq, dAsg_eq, dBin_eq, dUn_eq, dC_eq, wNeg_int, gdName_eq, dIfS_eq, dOr_eq, dAnd_eq, dTst_eq]
  refine dV_at (by rfl) ?_
  refine wAt_last g1 (by simpa using hne) fun x hx => ?_
  obtain ⟨d, hd, rfl⟩ := mem_int hx
  refine dV_at (by rfl) ?_
  rw [wEq_int]
  have pick : ∀ S2, Feed S2 f → Keeps f S1 S2 → rdPick 10 [some (.ref f), some (.ref L), many, some (.ref P), some (.int dp), x5, x6, none, some (.ref E), some (.ref K), some (.ref G), some (.int d), x12] S2 fun y S3 => tRest1 Dn ([some (.ref f), some (.ref L), many, some (.ref P), some (.int dp), x5, x6, none, some (.ref E), some (.ref K), some (.ref G), some (.int d), x12].set 11 (some y)) S3 := fun S2 F2 K2 => by
    refine rdPick_of (L := G) (by rfl) (by rfl) F2 (K2 _ _ Gf g1) (by rw [List.length_map]; exact List.length_pos_iff.mpr hne) (by rw [List.length_map]; have := kinded_len "drawer" kk; omega) fun y hy S3 F3 K3 => ?_
    obtain ⟨d', hd', rfl⟩ := mem_int hy
    exact rest d' hd' S3 F3 (K2.trans K3)
  by_cases hz : dp = 0
  · simp only [hz, decide_true, isB_bl, if_true]
    rw [hz] at pick
    exact pick S1 T1.F .refl
  · simp only [hz, decide_false, isB_bl]
    rw [if_neg (by decide)]
    refine rdDraw_of (by rfl) T1.F (by decide) (by decide) fun r S2 r0 r1 F2 K2 => ?_
    rw [wEq_int]
    by_cases hr : r = 1
    · simp only [hr, decide_true, isB_bl, if_true]
      exact pick S2 F2 K2
    · simp only [hr, decide_false, isB_bl]
      exact rest d hd S2 F2 K2
theorem ins2 (T : TI S0 f E K P c pool ke kk S) (hc : c ≤ 1000) {d node : Int} {nm : Str} {x10 : Option D} (hd : d ∈ kinded "drawer" kk) (hn : nmOk nm)
    (k : ∀ S', TI S0 f E K P (c + 1) pool ke kk S' → (∀ b l, S b = some (.lst l) → S' b = some (.lst l)) → Dn.nx [some (.ref f), some (.ref L), many, some (.ref P), deep, x5, some (.int node), none, some (.ref E), some (.ref K), x10, some (.int d), some (.str nm)] S') :
    tIns2 Dn [some (.ref f), some (.ref L), many, some (.ref P), deep, x5, some (.int node), none, some (.ref E), some (.ref K), x10, some (.int d), some (.str nm)] S := by
  have sz : 1001 < sizeLine := by rw [sizeLine_eq]; decide
  obtain ⟨q, hq, rfl⟩ : ∃ q ∈ ke, q.1 = d := by
    have h1 : d ∈ kk.map (·.1) := List.mem_map.mpr ⟨_, kinded_mem hd, rfl⟩
    rw [← T.same] at h1
    exact List.mem_map.mp h1
  obtain ⟨i1, i2, i3, i4, i5, es, g1, l1, h1⟩ := T.inn q hq
  have lstf : ∀ S1, Feed S1 f → Keeps f S S1 → ∀ b l, S b = some (.lst l) → S1 b = some (.lst l) := fun S1 F1 K1 b l hb =>
    K1 b _ (fun z => by obtain ⟨_, _, _, _, e⟩ := T.F; rw [← z, hb] at e; cases e) hb
  unfold tIns2
  simp only [dIfS_eq, dAnd_eq, dTst_eq, dBin_eq]
  refine dV_at (by rfl) ?_; refine dV_at (by rfl) ?_; refine dV_at (by rfl) ?_
  rw [wAt_dct T.gE fitE (getE T.ndE hq), wIn_dct g1 fitN, isN]
  by_cases hnm : nm ∈ es.map (·.1)
  · simp only [hnm, decide_true, isB_bl]
    exact k S (T.up (by omega)) fun _ _ h => h
  · simp only [hnm, decide_false, isB_bl]
    rw [if_pos (show (true != false) = true from rfl)]
    refine rdDraw_of (by rfl) T.F (by decide) (by decide) fun r S1 r0 r1 F1 K1 => ?_
    have T1 := T.keep F1 K1
    simp only [dC_eq]
    rw [wEq_int]
    by_cases hr : r = 0
    · simp only [hr, decide_true, isB_bl, if_true, dAsg_eq, gdSub_eq, dBin_eq]
      refine dV_at (by rfl) ?_; refine dV_at (by rfl) ?_; refine dV_at (by rfl) ?_
      rw [wAt_dct T1.gE fitE (getE T1.ndE hq)]
      refine dV_at (by rfl) ?_
      have g2 := K1 _ _ i4 g1
      refine wSet_dct g2 fitWN (by rw [List.length_map]; omega) ?_
      obtain ⟨fs, e1, l3, h3⟩ := putN_any (es := es) (v := node) hn h1
      rw [e1]
      refine k _ (T1.entry hq (by omega) h3) fun b l hb => ?_
      have : b ≠ q.2 := fun z => by rw [z, g1] at hb; cases hb
      rw [put_ne this]
      exact lstf S1 F1 K1 b l hb
    · simp only [hr, decide_false, isB_bl]
      exact k S1 (T1.up (by omega)) (lstf S1 F1 K1)
theorem body2 (T : TI S0 f E K P c pool ke kk S) (W : Nms S0 f L ns) (hc : c ≤ 1000) (hkk : kk.length ≤ 1000) {node : Int}
    (k : ∀ x10 x11 x12 S', TI S0 f E K P (c + 1) pool ke kk S' → (∀ b l, S b = some (.lst l) → S' b = some (.lst l)) → Dn.nx [some (.ref f), some (.ref L), many, some (.ref P), deep, x5, some (.int node), none, some (.ref E), some (.ref K), x10, x11, x12] S') :
    tBody2 Dn [some (.ref f), some (.ref L), many, some (.ref P), deep, x5, some (.int node), none, some (.ref E), some (.ref K), x10, x11, x12] S := by
  unfold tBody2
  simp only [dSeq_eq]
  refine kinded_set (by rfl) (by show 10 < 13; decide) T.gK T.nd hkk fun G hG => ?_
  have T1 := T.new (o := .lst ((kinded "drawer" kk).map D.int)) hG
  have g1 : put S G (.lst ((kinded "drawer" kk).map D.int)) G = some (.lst ((kinded "drawer" kk).map D.int)) := put_same
  have Gf := T.F.nt hG
  have st1 : ∀ b l, S b = some (.lst l) → put S G (.lst ((kinded "drawer" kk).map D.int)) b = some (.lst l) := fun b l hb => by rw [put_ne (ne_of_free hG hb)]; exact hb
  generalize put S G (.lst ((kinded "drawer" kk).map D.int)) = S1 at *
  have hne := kinded_top T
  have lstf : ∀ S2, Feed S1 f → Keeps f S1 S2 → ∀ b l, S1 b = some (.lst l) → S2 b = some (.lst l) := fun S2 F1 K1 b l hb =>
    K1 b _ (fun z => by obtain ⟨_, _, _, _, e⟩ := F1; rw [← z, hb] at e; cases e) hb
  simp only [dSeq_eq, dAsg_eq, dBin_eq, dUn_eq, dC_eq, wNeg_int, gdName_eq, dIfS_eq, dOr_eq, dAnd_eq, dTst_eq]
  refine rdPick_of (L := G) (by rfl) (by rfl) T1.F g1 (by rw [List.length_map]; exact List.length_pos_iff.mpr hne) (by rw [List.length_map]; have := kinded_len "drawer" kk; omega) fun y hy S2 F2 K2 => ?_
  obtain ⟨d, hd, rfl⟩ := mem_int hy
  have T2 := T1.keep F2 K2
  refine rdPick_of (L := L) (by rfl) (by rfl) F2 (T2.ks _ _ W.lf W.g) (by rw [List.length_map]; have := W.l2; omega) (by rw [List.length_map]; have := W.l8; omega) fun x hx S3 F3 K3 => ?_
  obtain ⟨nm, hnm, rfl⟩ := mem_str hx
  exact ins2 (T2.keep F3 K3) hc hd (W.ok _ hnm) fun S' T' st => k _ _ _ S' T' fun b l hb => st b l (lstf S3 T1.F (K2.trans K3) b l (st1 b l hb))
/-- a tree's row -/
abbrev Row := Int × Str × List (Str × Int)
def rowD (r : Row) : D := .tup [.int r.1, .str r.2.1, .tup (r.2.2.map pairSI)]
def rowOk (r : Row) : Prop := r.2.2.length ≤ 100 ∧ ∀ e ∈ r.2.2, nmOk e.1
theorem itms_eN (es : List (Str × Int)) : itmsD (es.map eN) = es.map pairSI := by
  unfold itmsD; rw [List.map_map]; rfl
theorem body3 (T : TI S0 f E K P c pool ke kk S) (hc : c ≤ 100) {R : Addr} {rows : List Row} (g : S R = some (.lst (rows.map rowD))) (lr : rows.length ≤ 1000) (R0 : S0 R = none) (RP : P ≠ R) {n : Int} (hn : n ∈ kk.map (·.1))
    (k : ∀ r S', rowOk r → TI S0 f E K P c pool ke kk S' → S' R = some (.lst ((rows ++ [r]).map rowD)) → (∀ b l, b ≠ R → S b = some (.lst l) → S' b = some (.lst l)) → Dn.nx [some (.ref f), some (.ref L), many, some (.ref P), deep, x5, some (.int n), some (.ref R), some (.ref E), some (.ref K), x10, x11, x12] S') :
    tBody3 Dn [some (.ref f), some (.ref L), many, some (.ref P), deep, x5, some (.int n), some (.ref R), some (.ref E), some (.ref K), x10, x11, x12] S := by
  have sz : 1001 < sizeLine := by rw [sizeLine_eq]; decide
  obtain ⟨q, hq, rfl⟩ : ∃ q ∈ kk, q.1 = n := List.mem_map.mp hn
  obtain ⟨a, ha, ea⟩ : ∃ a ∈ ke, a.1 = q.1 := by rw [← T.same] at hn; exact List.mem_map.mp hn
  obtain ⟨i1, i2, i3, i4, i5, es, g1, l1, h1⟩ := T.inn a ha
  unfold tBody3
  simp only [dDrop_eq, dBM_eq, dCons_eq, dTup_eq, dNil_eq, dCB_eq, dBin_eq, dSortedItems_eq]
  refine dV_at (by rfl) ?_
  refine ⟨by simp [tyD, g], ?_⟩
  refine dV_at (by rfl) ?_; refine dV_at (by rfl) ?_; refine dV_at (by rfl) ?_
  rw [wAt_dct T.gK fitK (getK T.nd hq)]
  refine dV_at (by rfl) ?_; refine dV_at (by rfl) ?_
  rw [wAt_dct T.gE fitE (by rw [← ea]; exact getE T.ndE ha)]
  have ed : dctOf S (.ref a.2) = some (a.2, es.map eN) := by simp [dctOf, g1]
  rw [ed]
  simp only
  rw [itms_eN]
  refine ⟨SortOk.pairsSI es, fun p hp => ?_⟩
  rw [mergeSort_map, wTuple_lst put_same]
  refine ⟨by show 3 ≤ sizeLine; omega, ?_⟩
  have Rp : R ≠ p := ne_of_free hp g
  have T1 := T.new (o := .lst ((es.mergeSort fun a b => dLe S (pairSI a) (pairSI b)).map pairSI)) hp
  have g2 : put S p (.lst ((es.mergeSort fun a b => dLe S (pairSI a) (pairSI b)).map pairSI)) R = some (.lst (rows.map rowD)) := by rw [put_ne Rp]; exact g
  rw [wAppend_lst g2]
  refine ⟨by rw [List.length_map]; omega, ?_⟩
  have hperm := List.mergeSort_perm es fun a b => dLe S (pairSI a) (pairSI b)
  have RE : R ≠ E := fun z => by rw [z, T.gE] at g; cases g
  have RK : R ≠ K := fun z => by rw [z, T.gK] at g; cases g
  have Rf : R ≠ f := fun z => by obtain ⟨_, _, _, _, e⟩ := T.F; rw [← z, g] at e; cases e
  have inR : ∀ b ∈ ke, b.2 ≠ R := fun b hb z => by
    obtain ⟨_, _, _, _, _, fs, h2, _⟩ := T.inn b hb
    rw [z, g] at h2; cases h2
  refine k (q.1, q.2, es.mergeSort fun a b => dLe S (pairSI a) (pairSI b)) _ ⟨?_, fun e he => h1 e (hperm.mem_iff.mp he)⟩ ?_ ?_ ?_
  · show (es.mergeSort _).length ≤ 100
    rw [hperm.length_eq]; omega
  · exact {
      gE := by rw [put_ne (Ne.symm RE)]; exact T1.gE
      gK := by rw [put_ne (Ne.symm RK)]; exact T1.gK
      gP := by rw [put_ne RP]; exact T1.gP
      same := T.same, nd := T.nd, top := T.top, kd := T.kd, ne := T.ne, n0 := T.n0
      inn := fun r hr => by
        obtain ⟨a', b', c', d', e', fs, h1, h2, h3⟩ := T1.inn r hr
        exact ⟨a', b', c', d', e', fs, by rw [put_ne (inR r hr)]; exact h1, h2, h3⟩
      F := T1.F.put Rf
      ks := T1.ks.then R0 }
  · rw [put_same, List.map_append]; rfl
  · intro b l hb hl
    rw [put_ne hb, put_ne (ne_of_free hp hl)]; exact hl
end
end KG

namespace KG
open PySem PySem.Spec PyProof.Rows L2 DL KF
def TreeD (t : D) : Prop := ∃ (rows : List Row) (m : Int), t = .tup [.tup (rows.map rowD), .int m] ∧ rows.length ≤ 100 ∧ ∀ r ∈ rows, rowOk r
def sp__law_tree : DSp := fun ds S Q E => ∃ f L ns m, ds = [.ref f, .ref L, .int m] ∧ 0 ≤ m ∧ m ≤ 14 ∧ Feed S f ∧ Nms S f L ns ∧ ∀ t S', TreeD t → Feed S' f → Keeps f S S' → Q t S'
theorem len__law_tree : ∀ ds S Q E, sp__law_tree ds S Q E → ds.length = (["_law_feed_here", "_law_names_here", "_law_many"] : List Str).length := fun _ _ _ _ ⟨_, _, _, _, e, _⟩ => by rw [e]; rfl
section
variable {S0 S : Sto} {f L E K P : Addr} {c : Nat} {pool : List Int} {ke : List (Int × Addr)} {kk : List (Int × Str)} {ns : List Str} {deep many : Option D} {x5 x6 x7 x10 x11 x12 : Option D} {Dn : DEnds} {Q : KD}
theorem tA_of (F : Feed S f) {x3 x4 : Option D} {m : D} (k : ∀ E K a, (∀ P S', Keeps f (put (put (put (put (put S E (.dct [])) a (.dct [])) E (.dct ([((0 : Int), a)].map eE))) K (.dct [])) K (.dct ([((0 : Int), Str.ofString "drawer")].map eK))) S' → Feed S' f → S' P = none → ∀ pool, TI S f E K P 0 pool [(0, a)] [(0, "drawer")] (put S' P (.lst (pool.map D.int)))) → Feed (put (put (put (put (put S E (.dct [])) a (.dct [])) E (.dct ([((0 : Int), a)].map eE))) K (.dct [])) K (.dct ([((0 : Int), Str.ofString "drawer")].map eK))) f → Dn.nx [some (.ref f), some (.ref L), some m, x3, x4, x5, x6, x7, some (.ref E), some (.ref K), x10, x11, x12] (put (put (put (put (put S E (.dct [])) a (.dct [])) E (.dct ([((0 : Int), a)].map eE))) K (.dct [])) K (.dct ([((0 : Int), Str.ofString "drawer")].map eK)))) :
    tA Dn [some (.ref f), some (.ref L), some m, x3, x4, x5, x6, x7, none, none, x10, x11, x12] S := by
  have sz : 1001 < sizeLine := by rw [sizeLine_eq]; decide
  unfold tA
  simp only [dAsg_eq, dTup_eq, dCons_eq, dDisp_eq, dPairs_cons, dPairs_nil, dC_eq, dNil_eq]
  intro E hE
  show ∀ a, _ → _
  intro a ha
  have aE : a ≠ E := fun z => by rw [z, put_same] at ha; cases ha
  refine ⟨by rw [put_ne (Ne.symm aE), put_same], ⟨rfl, by simp⟩, fun K hK => ?_⟩
  have e1 : kvMerge [] [(D.int 0, D.ref a)] = [((0 : Int), a)].map eE := by simp [kvMerge, dPut, eE]
  rw [e1] at hK ⊢
  refine ⟨put_same, ⟨rfl, by simp⟩, by show 2 ≤ sizeLine; omega, ?_⟩
  have e2 : kvMerge [] [(D.int 0, D.str "drawer")] = [((0 : Int), Str.ofString "drawer")].map eK := by simp [kvMerge, dPut, eK]
  rw [e2]
  refine ⟨rfl, rfl, ?_⟩
  have KE : K ≠ E := fun z => by rw [z, put_same] at hK; cases hK
  have Ka : K ≠ a := fun z => by rw [z, put_ne aE, put_same] at hK; cases hK
  have ha0 : S a = none := by rw [put_ne aE] at ha; exact ha
  have hK0 : S K = none := by rw [put_ne KE, put_ne Ka, put_ne KE] at hK; exact hK
  have fE := F.nt hE
  have fa := F.nt ha0
  have fK := F.nt hK0
  have F1 : Feed (put (put (put (put (put S E (.dct [])) a (.dct [])) E (.dct ([((0 : Int), a)].map eE))) K (.dct [])) K (.dct ([((0 : Int), Str.ofString "drawer")].map eK))) f := ((((F.put fE).put fa).put fE).put fK).put fK
  have k1 : Keeps f S (put (put (put (put (put S E (.dct [])) a (.dct [])) E (.dct ([((0 : Int), a)].map eE))) K (.dct [])) K (.dct ([((0 : Int), Str.ofString "drawer")].map eK))) := (((((Keeps.refl).then hE).then ha0).then hE).then hK0).then hK0
  refine k E K a (fun P S' kS FS hP pool => ?_) F1
  have gE : S' E = some (.dct ([((0 : Int), a)].map eE)) := kS _ _ fE (by rw [put_ne (Ne.symm KE), put_ne (Ne.symm KE), put_same])
  have gK : S' K = some (.dct ([((0 : Int), Str.ofString "drawer")].map eK)) := kS _ _ fK put_same
  have ga : S' a = some (.dct []) := kS _ _ fa (by rw [put_ne (Ne.symm Ka), put_ne (Ne.symm Ka), put_ne aE, put_same])
  have PE : P ≠ E := fun z => by rw [z, gE] at hP; cases hP
  have PK : P ≠ K := fun z => by rw [z, gK] at hP; cases hP
  have Pa : P ≠ a := fun z => by rw [z, ga] at hP; cases hP
  have fP := FS.nt hP
  have hP0 : S P = none := FS.freeT (k1.trans kS) hP
  exact {
    gE := by rw [put_ne (Ne.symm PE)]; exact gE
    gK := by rw [put_ne (Ne.symm PK)]; exact gK
    gP := put_same
    same := rfl
    nd := by simp
    top := List.mem_singleton.mpr rfl
    kd := fun p hp => by rw [List.mem_singleton.mp hp]; exact .inl rfl
    inn := fun p hp => by
      rw [List.mem_singleton.mp hp]
      exact ⟨aE, Ne.symm Ka, Ne.symm Pa, fa, ha0, [], by show put S' P _ a = _; rw [put_ne (Ne.symm Pa)]; exact ga, by simp, by simp⟩
    ne := ⟨Ne.symm KE, Ne.symm PE, Ne.symm PK, fE, fK, fP⟩
    n0 := ⟨hE, hK0, hP0⟩
    F := FS.put fP
    ks := (k1.trans kS).then hP0 }
theorem tF1_of (W : Nms S0 f L ns) {m dp : Int} (m0 : 0 ≤ m) (m1 : m ≤ 14) (T : TI S0 f E K P 0 pool ke kk S) (hp : pool ≠ []) (lp : pool.length ≤ 1000) (hkk : kk.length ≤ 1)
    (k : ∀ c ke' kk' x5 x6 x10 x11 x12 S', c ≤ 20 → kk'.length ≤ 20 → TI S0 f E K P c pool ke' kk' S' → Dn.nx [some (.ref f), some (.ref L), some (.int m), some (.ref P), some (.int dp), x5, x6, none, some (.ref E), some (.ref K), x10, x11, x12] S') :
    tF1 Dn [some (.ref f), some (.ref L), some (.int m), some (.ref P), some (.int dp), x5, x6, none, some (.ref E), some (.ref K), x10, x11, x12] S := by
  unfold tF1
  generalize hB : tBody1 = B
  simp only [dFor_eq, diRng1_eq, dCons_eq, dNil_eq]
  refine dV_at (by rfl) ?_
  refine ⟨by omega, by omega, ?_⟩
  rw [rngD_map]
  refine loop_map (fun i : Nat => D.int (i : Int)) (fun done τ S' => ∃ ke kk x5 x6 x10 x11 x12, TI S0 f E K P done.length pool ke kk S' ∧ kk.length ≤ done.length + 1 ∧ τ = [some (.ref f), some (.ref L), some (.int m), some (.ref P), some (.int dp), x5, x6, none, some (.ref E), some (.ref K), x10, x11, x12])
    (fun _ _ _ _ => trivial) (fun τ S' h => ?_) (fun done i rest τ S' es h N hN => ?_) ⟨_, _, _, _, _, _, _, T, hkk, rfl⟩
  · obtain ⟨ke, kk, x5, x6, x10, x11, x12, T', l', rfl⟩ := h
    rw [List.length_range] at T' l'
    exact k _ _ _ _ _ _ _ _ _ (by omega) (by omega) T'
  · obtain ⟨ke, kk, x5, x6, x10, x11, x12, T', l', rfl⟩ := h
    have hd : done.length < 15 := by
      have := congrArg List.length es
      simp at this; omega
    rw [← hB]
    refine body1 T' W hp lp (by omega) (by omega) fun ke' kk' x6 x10 x11 x12 S2 T2 l2 => hN _ _ ⟨ke', kk', _, x6, x10, x11, x12, by rw [List.length_append]; exact T2, by rw [List.length_append, List.length_singleton]; omega, rfl⟩
theorem tF2_of (W : Nms S0 f L ns) (T : TI S0 f E K P c pool ke kk S) (hc : c ≤ 20) (hkk : kk.length ≤ 20)
    (k : ∀ c x6 x10 x11 x12 S', c ≤ 50 → TI S0 f E K P c pool ke kk S' → Dn.nx [some (.ref f), some (.ref L), many, some (.ref P), deep, x5, x6, none, some (.ref E), some (.ref K), x10, x11, x12] S') :
    tF2 Dn [some (.ref f), some (.ref L), many, some (.ref P), deep, x5, x6, none, some (.ref E), some (.ref K), x10, x11, x12] S := by
  unfold tF2
  generalize hB : tBody2 = B
  simp only [dFor_eq, diVal_eq]
  refine kinded_val (by rfl) (by show 10 < 13; decide) T.gK T.nd (by omega) fun G hG => ?_
  rw [wIter_lst put_same]
  have lk := kinded_len "sheet" kk
  refine loop_map D.int (fun done τ S' => ∃ x6 x10 x11 x12, TI S0 f E K P (c + done.length) pool ke kk S' ∧ S' G = some (.lst ((kinded "sheet" kk).map D.int)) ∧ τ = [some (.ref f), some (.ref L), many, some (.ref P), deep, x5, x6, none, some (.ref E), some (.ref K), x10, x11, x12])
    (fun _ _ _ ⟨_, _, _, _, _, h, _⟩ => h) (fun τ S' h => ?_) (fun done i rest τ S' es h N hN => ?_) ⟨_, _, _, _, T.new hG, put_same, rfl⟩
  · obtain ⟨x6, x10, x11, x12, T', _, rfl⟩ := h
    exact k _ _ _ _ _ _ (by omega) T'
  · obtain ⟨x6, x10, x11, x12, T', g', rfl⟩ := h
    have hd : done.length < 21 := by
      have := congrArg List.length es
      simp at this; omega
    rw [← hB]
    exact body2 T' W (by omega) (by omega) fun x10 x11 x12 S2 T2 st => hN _ _ ⟨_, x10, x11, x12, by rw [List.length_append]; exact T2, st _ _ g', rfl⟩
theorem tF3_of (T : TI S0 f E K P c pool ke kk S) (hc : c ≤ 50) (hkk : kk.length ≤ 20) {R : Addr} (g : S R = some (.lst [])) (R0 : S0 R = none) (RP : P ≠ R)
    (k : ∀ (rows : List Row) x6 S', rows.length = kk.length → (∀ r ∈ rows, rowOk r) → TI S0 f E K P c pool ke kk S' → S' R = some (.lst (rows.map rowD)) → Dn.nx [some (.ref f), some (.ref L), many, some (.ref P), deep, x5, x6, some (.ref R), some (.ref E), some (.ref K), x10, x11, x12] S') :
    tF3 Dn [some (.ref f), some (.ref L), many, some (.ref P), deep, x5, x6, some (.ref R), some (.ref E), some (.ref K), x10, x11, x12] S := by
  unfold tF3
  generalize hB : tBody3 = B
  simp only [dFor_eq, diVal_eq, dCB_eq, dCons_eq, dNil_eq]
  refine dV_at (by rfl) ?_
  have ed : dctOf S (.ref K) = some (K, kk.map eK) := by simp [dctOf, T.gK]
  have em : (kk.map eK).map (·.1) = (kk.map (·.1)).map D.int := by rw [List.map_map, List.map_map]; rfl
  unfold wSortedD
  simp only [ed]
  rw [em, mergeSort_map]
  refine ⟨SortOk.ints _, fun G hG => ?_⟩
  generalize hks : (kk.map (·.1)).mergeSort (fun a b => dLe S (.int a) (.int b)) = ks
  have hperm : ks.Perm (kk.map (·.1)) := by rw [← hks]; exact List.mergeSort_perm _ _
  have hl : ks.length = kk.length := by rw [hperm.length_eq, List.length_map]
  rw [wIter_lst put_same]
  have RG : R ≠ G := ne_of_free hG g
  refine loop_map D.int (fun done τ S' => ∃ (x6 : Option D) (rows : List Row), TI S0 f E K P c pool ke kk S' ∧ S' G = some (.lst (ks.map D.int)) ∧ S' R = some (.lst (rows.map rowD)) ∧ rows.length = done.length ∧ (∀ r ∈ rows, rowOk r) ∧ τ = [some (.ref f), some (.ref L), many, some (.ref P), deep, x5, x6, some (.ref R), some (.ref E), some (.ref K), x10, x11, x12])
    (fun _ _ _ ⟨_, _, _, h, _⟩ => h) (fun τ S' h => ?_) (fun done i rest τ S' es h N hN => ?_) ⟨_, [], T.new hG, put_same, by rw [put_ne RG]; exact g, rfl, by simp, rfl⟩
  · obtain ⟨x6, rows, T', _, g', l', h', rfl⟩ := h
    exact k rows _ _ (by omega) h' T' g'
  · obtain ⟨x6, rows, T', gG, g', l', h', rfl⟩ := h
    have hd : done.length < 21 := by
      have := congrArg List.length es
      simp at this; omega
    rw [← hB]
    have hi : i ∈ kk.map (·.1) := hperm.mem_iff.mp (by rw [es]; simp)
    exact body3 T' (by omega) g' (by omega) R0 RP hi fun r S2 hr T2 g2 st => hN _ _ ⟨_, rows ++ [r], T2, st _ _ (Ne.symm RG) gG, g2, by rw [List.length_append, List.length_append, l']; rfl, fun y hy => by
      rcases List.mem_append.mp hy with hy | hy
      · exact h' y hy
      · rw [List.mem_singleton.mp hy]; exact hr, rfl⟩
end
theorem vc__law_tree {ds S Q E} (h : sp__law_tree ds S Q E) : r__law_tree (bodyEnds Q) (startD N__law_tree ds) S := by
  obtain ⟨f, L, ns, m, rfl, m0, m1, F, W, k⟩ := h
  have sz : 1001 < sizeLine := by rw [sizeLine_eq]; decide
  rw [r_tree_eq]
  show dSeq _ _ _ [some (.ref f), some (.ref L), some (.int m), none, none, none, none, none, none, none, none, none, none] S
  generalize hF1 : dSeq tF1 (dSeq tF2 (dSeq tD (dSeq tF3 tR))) = X1
  refine tA_of F fun E K a hTI F1 => ?_
  have hS1 : ∀ {X : Sto → Prop}, (∀ S1, (∀ P S', Keeps f S1 S' → Feed S' f → S' P = none → ∀ pool, TI S f E K P 0 pool [(0, a)] [(0, "drawer")] (put S' P (.lst (pool.map D.int)))) → Feed S1 f → X S1) → X (put (put (put (put (put S E (.dct [])) a (.dct [])) E (.dct ([((0 : Int), a)].map eE))) K (.dct [])) K (.dct ([((0 : Int), Str.ofString "drawer")].map eK))) := fun h => h _ hTI F1
  refine hS1 fun S1 hTI F1 => ?_
  show dSeq tB (dSeq tC X1) _ [some (.ref f), some (.ref L), some (.int m), none, none, none, none, none, some (.ref E), some (.ref K), none, none, none] S1
  unfold tB tC
  simp only [dSeq_eq, dAsg_eq, dLstRg2_eq, dC_eq, dBin_eq]
  refine dV_at (by rfl) ?_
  rw [wAdd_int]
  refine rdDraw_of (by rfl) F1 (by decide) (by decide) fun r S2 r0 r1 F2 K2 => ?_
  rw [wAdd_int]
  refine ⟨.of_le (by omega) (by omega) (by omega) (by omega), fun P hP => ?_⟩
  rw [rngD_eq]
  have ep : (List.range (m + 2 + r - 1).toNat).map (fun i : Nat => D.int (1 + (i : Int))) = ((List.range (m + 2 + r - 1).toNat).map fun i : Nat => 1 + (i : Int)).map D.int := by rw [List.map_map]; rfl
  rw [ep]
  have T := hTI P S2 K2 F2 hP ((List.range (m + 2 + r - 1).toNat).map fun i : Nat => 1 + (i : Int))
  have hne : ((List.range (m + 2 + r - 1).toNat).map fun i : Nat => 1 + (i : Int)) ≠ [] := by
    intro z
    have := congrArg List.length z
    simp at this; omega
  have hlp : ((List.range (m + 2 + r - 1).toNat).map fun i : Nat => 1 + (i : Int)).length ≤ 1000 := by simp; omega
  generalize ((List.range (m + 2 + r - 1).toNat).map fun i : Nat => 1 + (i : Int)) = pool at *
  generalize put S2 P (.lst (pool.map D.int)) = S3 at T ⊢
  simp only [gdName_eq, dSeq_eq, dAsg_eq]
  refine rdDraw_of (by rfl) T.F (by decide) (by decide) fun dp S4 d0 d1 F4 K4 => ?_
  have T4 := T.keep F4 K4
  show X1 _ [some (.ref f), some (.ref L), some (.int m), some (.ref P), some (.int dp), none, none, none, some (.ref E), some (.ref K), none, none, none] S4
  rw [← hF1]
  refine tF1_of W m0 m1 T4 hne hlp (by simp) fun c ke kk x5 x6 x10 x11 x12 S5 hc hkk T5 => ?_
  refine tF2_of W T5 hc hkk fun c x6 x10 x11 x12 S6 hc T6 => ?_
  unfold tD
  simp only [dSeq_eq, dAsg_eq, dLst_eq, dNil_eq]
  refine ⟨by show 0 ≤ sizeLine; omega, fun R hR => ?_⟩
  have T7 := T6.new (o := .lst []) hR
  have RP : P ≠ R := ne_of_free hR T6.gP
  show tF3 _ [some (.ref f), some (.ref L), some (.int m), some (.ref P), some (.int dp), x5, x6, some (.ref R), some (.ref E), some (.ref K), x10, x11, x12] _
  refine tF3_of T7 hc hkk put_same (T6.free hR) RP fun rows x6 S8 hl hr T8 g8 => ?_
  unfold tR
  simp only [dRet_eq, dTup_eq, dCons_eq, dNil_eq, dCB_eq, dBin_eq, dUn_eq, dC_eq, wNeg_int]
  refine dV_at (by rfl) ?_
  rw [wTuple_lst g8]
  refine dV_at (by rfl) ?_
  have hk1 : 0 < kk.length := List.length_pos_iff.mpr (List.ne_nil_of_mem T8.top)
  refine wAt_last g8 (by intro z; have := congrArg List.length z; simp at this; rw [this] at hl; simp at hl; omega) fun x hx => ?_
  obtain ⟨rw1, hrw, rfl⟩ := List.mem_map.mp hx
  show wAt (.tup [.int rw1.1, .str rw1.2.1, .tup (rw1.2.2.map pairSI)]) (.int 0) S8 _
  rw [wAt_tup, atI0, onS_some]
  rw [wAdd_int]
  refine rdDraw_of (by rfl) T8.F (by decide) (by decide) fun r9 S9 _ _ F9 K9 => ?_
  rw [wAdd_int]
  exact ⟨by show 2 ≤ sizeLine; omega, k _ _ ⟨rows, _, rfl, by omega, hr⟩ F9 (T8.ks.trans K9)⟩
end KG

namespace KG
open PySem PySem.Spec PyProof.Rows L2 DL KF
def sp__law_way : DSp := fun ds S Q E => ∃ f L t ns least, ds = [.ref f, t, .ref L, .int least] ∧ 0 ≤ least ∧ least ≤ 1 ∧ TreeD t ∧ Feed S f ∧ Nms S f L ns ∧
  ∀ (ws : List Str) S', ws.length ≤ 4 → (∀ w ∈ ws, nmOk w) → Feed S' f → Keeps f S S' → Q (.tup (ws.map D.str)) S'
theorem len__law_way : ∀ ds S Q E, sp__law_way ds S Q E → ds.length = (["_law_feed_here", "_law_tree_here", "_law_names_here", "_law_least"] : List Str).length := fun _ _ _ _ ⟨_, _, _, _, _, e, _⟩ => by rw [e]; rfl
def r__law_way : DTS := dSeq (dPar3 5 6 7 (dCons (dCB wDict (dCons (dLC (diVal (dBin wAt (dV 1) (dC (.int 0))) wIterA) (gdName 10) dYes [10] [10] [] (dTup (dCons (dBin wAt (dV 10) (dC (.int 0))) (dCons (dBin wAt (dV 10) (dC (.int 2))) dNil)))) dNil)) (dCons (dC (.int 0)) (dCons (dLst dNil) dNil)))) (dSeq (dFor (diRng1 (dCons (dCB wMaxI (dCons (dV 3) (dCons (dCall sp__law_draw [] (dCons (dV 0) (dCons (dC (.int 5)) dNil))) dNil))) dNil)) (gdName 4) (dSeq (dAsg (dGet2 (dV 5) (dV 6) (dTup dNil)) (gdName 8)) (dSeq (dIfS (dAnd (dTst (dBin wEq (dV 8) (dTup dNil))) (dAnd (dTst (dBin wGe (dV 4) (dV 3))) (dTst (dBin wGt (dCall sp__law_draw [] (dCons (dV 0) (dCons (dC (.int 4)) dNil))) (dC (.int 0)))))) dBreak dNext) (dSeq (dIfS (dAnd (dTst (dBin wNe (dV 8) (dTup dNil))) (dTst (dBin wGt (dCall sp__law_draw [] (dCons (dV 0) (dCons (dC (.int 5)) dNil))) (dC (.int 0))))) (dAsg (dBin wAt (dV 8) (dCall sp__law_draw [] (dCons (dV 0) (dCons (dCB wLen (dCons (dV 8) dNil)) dNil)))) (gdTup 2 (gdCons (gdName 9) (gdCons (gdName 6) gdNil)))) (dPar 9 6 (dCons (dBin wAt (dV 2) (dCall sp__law_draw [] (dCons (dV 0) (dCons (dCB wLen (dCons (dV 2) dNil)) dNil)))) (dCons (dUn wNeg (dC (.int 1))) dNil)))) (dDrop (dBM "list" wAppend (dV 7) (dCons (dV 9) dNil))))))) (dRet (dCB wTuple (dCons (dV 7) dNil))))
abbrev N__law_way : List Str := ["_law_feed_here", "_law_tree_here", "_law_names_here", "_law_least", "_law_k", "_law_rows", "_law_here", "_law_found", "_law_some", "_law_name", "_law_row"]
abbrev Ent := Int × List (Str × Int)
def eR (p : Ent) : D × D := (.int p.1, .tup (p.2.map pairSI))
def entOk (p : Ent) : Prop := p.2.length ≤ 100 ∧ ∀ e ∈ p.2, nmOk e.1
theorem fitR {kk : List Ent} {n : Int} : keyFit (kk.map eR) (.int n) = true := by cases kk <;> rfl
theorem putR {ks : List Ent} {y : Ent} (hy : entOk y) (h : ∀ p ∈ ks, entOk p) : ∃ fs : List Ent, dPut (ks.map eR) (.int y.1) (.tup (y.2.map pairSI)) = fs.map eR ∧ ∀ p ∈ fs, entOk p := by
  by_cases z : y.1 ∈ ks.map (·.1)
  · refine ⟨ks.map fun e => if e.1 = y.1 then (e.1, y.2) else e, ?_, fun e he => ?_⟩
    · unfold dPut
      rw [if_pos]
      · rw [List.map_map, List.map_map]
        refine List.map_congr_left fun e _ => ?_
        simp only [Function.comp_def, eR, D.int.injEq]
        split <;> rfl
      · obtain ⟨e, he, ee⟩ := List.mem_map.mp z
        exact List.any_eq_true.mpr ⟨eR e, List.mem_map.mpr ⟨e, he, rfl⟩, by simp [eR, ee]⟩
    · obtain ⟨a, ha, rfl⟩ := List.mem_map.mp he
      split
      · exact hy
      · exact h a ha
  · refine ⟨ks ++ [y], dPut_int_new (g := fun p : Ent => D.tup (p.2.map pairSI)) z, fun e he => ?_⟩
    rcases List.mem_append.mp he with he | he
    · exact h e he
    · rw [List.mem_singleton.mp he]; exact hy
theorem mergeR : ∀ (xs ks : List Ent), (∀ p ∈ xs, entOk p) → (∀ p ∈ ks, entOk p) → ∃ fs : List Ent, kvMerge (ks.map eR) (xs.map eR) = fs.map eR ∧ ∀ p ∈ fs, entOk p
  | [], ks, _, h => ⟨ks, rfl, h⟩
  | x :: xs, ks, hx, h => by
    obtain ⟨fs, e1, h1⟩ := putR (hx x (List.mem_cons_self ..)) h
    obtain ⟨gs, e2, h2⟩ := mergeR xs fs (fun p hp => hx p (List.mem_cons_of_mem _ hp)) h1
    refine ⟨gs, ?_, h2⟩
    show kvMerge (dPut (ks.map eR) (.int x.1) (.tup (x.2.map pairSI))) (xs.map eR) = _
    rw [e1, e2]
theorem pairsR : ∀ xs : List Ent, pairsD (xs.map fun p => D.tup [(eR p).1, (eR p).2]) = some (xs.map eR)
  | [] => rfl
  | x :: xs => by
    show (match pairD (.tup [(eR x).1, (eR x).2]), pairsD (xs.map fun p => D.tup [(eR p).1, (eR p).2]) with | some p, some ps => some (p :: ps) | _, _ => none) = _
    rw [pairsR xs]; rfl
theorem leafR : ∀ xs : List Ent, leafAll (xs.map eR) = true := fun xs => by
  unfold leafAll
  rw [List.all_map, List.all_eq_true]
  intro x _
  rfl
theorem getR {ks : List Ent} (h : ∀ p ∈ ks, entOk p) (n : Int) : ∃ es : List (Str × Int), (dGet (ks.map eR) (.int n)).getD (.tup []) = .tup (es.map pairSI) ∧ es.length ≤ 100 ∧ ∀ e ∈ es, nmOk e.1 := by
  have e : dGet (ks.map eR) (.int n) = (ks.find? fun p => decide (p.1 = n)).map fun p => D.tup (p.2.map pairSI) := dGet_int
  rw [e]
  cases z : ks.find? fun p => decide (p.1 = n) with
  | none => exact ⟨[], rfl, by simp, by simp⟩
  | some p => exact ⟨p.2, rfl, h p (List.mem_of_find?_eq_some z)⟩
def wRows : DTE := dCB wDict (dCons (dLC (diVal (dBin wAt (dV 1) (dC (.int 0))) wIterA) (gdName 10) dYes [10] [10] [] (dTup (dCons (dBin wAt (dV 10) (dC (.int 0))) (dCons (dBin wAt (dV 10) (dC (.int 2))) dNil)))) dNil)
def wStep : DTS := dSeq (dIfS (dAnd (dTst (dBin wEq (dV 8) (dTup dNil))) (dAnd (dTst (dBin wGe (dV 4) (dV 3))) (dTst (dBin wGt (dCall sp__law_draw [] (dCons (dV 0) (dCons (dC (.int 4)) dNil))) (dC (.int 0)))))) dBreak dNext) (dSeq (dIfS (dAnd (dTst (dBin wNe (dV 8) (dTup dNil))) (dTst (dBin wGt (dCall sp__law_draw [] (dCons (dV 0) (dCons (dC (.int 5)) dNil))) (dC (.int 0))))) (dAsg (dBin wAt (dV 8) (dCall sp__law_draw [] (dCons (dV 0) (dCons (dCB wLen (dCons (dV 8) dNil)) dNil)))) (gdTup 2 (gdCons (gdName 9) (gdCons (gdName 6) gdNil)))) (dPar 9 6 (dCons (rdPick 2) (dCons (dUn wNeg (dC (.int 1))) dNil)))) (dDrop (dBM "list" wAppend (dV 7) (dCons (dV 9) dNil))))
def wBody : DTS := dSeq (dAsg (dGet2 (dV 5) (dV 6) (dTup dNil)) (gdName 8)) wStep
theorem r_way_eq : r__law_way = dSeq (dPar3 5 6 7 (dCons wRows (dCons (dC (.int 0)) (dCons (dLst dNil) dNil)))) (dSeq (dFor (diRng1 (dCons (dCB wMaxI (dCons (dV 3) (dCons (dCall sp__law_draw [] (dCons (dV 0) (dCons (dC (.int 5)) dNil))) dNil))) dNil)) (gdName 4) wBody) (dRet (dCB wTuple (dCons (dV 7) dNil)))) := rfl
section
variable {S0 S : Sto} {f L a R : Addr} {ns : List Str} {t : D} {least kx here : Int} {x8 x9 : Option D} {Dn : DEnds} {Q : KD} {ws : List Str}
theorem wRows_of (ht : TreeD t) {τ : DSt} (h1 : τ[1]? = some (some t)) (hl : 10 < τ.length) (k : ∀ (ks : List Ent) S' a, (∀ p ∈ ks, entOk p) → S a = none → S' a = some (.dct (ks.map eR)) → Grow S S' → Q (.ref a) S') : wRows τ S Q := by
  obtain ⟨rows, m, rfl, lr, hr⟩ := ht
  have sz : 1001 < sizeLine := by rw [sizeLine_eq]; decide
  unfold wRows
  simp only [dCB_eq, dCons_eq, dNil_eq, dLC_eq, diVal_eq, dBin_eq, dC_eq]
  refine dV_at h1 ?_
  rw [wAt_tup, atI0, onS_some, wIter_tup]
  intro G hG
  have w1 : wipeD τ [10] = τ.set 10 none := by simp
  rw [w1]
  have h6' : ∀ v : Option D, ((τ.set 10 none).set 10 v)[10]? = some v := fun v => by rw [List.set_set, List.getElem?_set_self hl]
  refine lc_map rowD (fun r : Row => [D.tup [.int r.1, .tup (r.2.2.map pairSI)]]) rows (fun _ => trivial) ?_ (fun r hr acc k2 hacc hk => ?_) ?_
  · have := flatMap_le (fun r : Row => [D.tup [.int r.1, .tup (r.2.2.map pairSI)]]) 1 rows fun x _ => by simp
    omega
  · show _ ∧ _
    refine ⟨by simp, ?_⟩
    rw [dYes_eq, if_pos rfl, emLst_eq]
    simp only [dTup_eq, dCons_eq, dNil_eq, dBin_eq, dC_eq]
    refine dV_at (h6' _) ?_
    show wAt (.tup [.int r.1, .str r.2.1, .tup (r.2.2.map pairSI)]) (.int 0) _ _
    rw [wAt_tup, atI0, onS_some]
    refine dV_at (h6' _) ?_
    show wAt (.tup [.int r.1, .str r.2.1, .tup (r.2.2.map pairSI)]) (.int 2) _ _
    rw [wAt_tup, atI2, onS_some]
    refine ⟨by show 2 ≤ sizeLine; omega, ?_⟩
    rw [onL_eq put_same]
    simp only [List.length_singleton] at hacc
    exact ⟨by omega, by rw [put_put']; exact hk⟩
  · have e1 : (rows.flatMap fun r : Row => [D.tup [.int r.1, .tup (r.2.2.map pairSI)]]) = (rows.map fun r : Row => ((r.1, r.2.2) : Ent)).map fun p => D.tup [(eR p).1, (eR p).2] := by
      rw [List.map_map, flatMap_one]; rfl
    rw [e1]
    have hx : ∀ p ∈ rows.map fun r : Row => ((r.1, r.2.2) : Ent), entOk p := fun p hp => by
      obtain ⟨r, h, rfl⟩ := List.mem_map.mp hp
      exact hr r h
    generalize rows.map (fun r : Row => ((r.1, r.2.2) : Ent)) = xs at *
    unfold wDict
    simp only [seqOf, put_same, pairsR, onS_some]
    refine ⟨by rw [leafR]; rfl, fun a ha => ?_⟩
    obtain ⟨fs, e2, h2⟩ := mergeR xs [] hx (by simp)
    have e3 : kvMerge [] (xs.map eR) = fs.map eR := e2
    rw [e3]
    have aG : a ≠ G := fun z => by rw [z, put_same] at ha; cases ha
    have ha0 : S a = none := by rw [put_ne aG] at ha; exact ha
    exact k fs _ a h2 ha0 put_same fun b o hb => by rw [put_ne (ne_of_free ha0 hb), put_ne (ne_of_free hG hb)]; exact hb
end
end KG

namespace KG
open PySem PySem.Spec PyProof.Rows L2 DL KF
section
variable {S0 S : Sto} {f L a R : Addr} {ns : List Str} {t : D} {least kx here : Int} {x8 x9 : Option D} {Dn : DEnds} {Q : KD} {ws : List Str}
theorem wGt_int {i j : Int} : wGt (.int i) (.int j) S Q = Q (.bl (decide (j < i))) S := (rfl)
theorem wGe_int {i j : Int} : wGe (.int i) (.int j) S Q = Q (.bl (decide (j ≤ i))) S := (rfl)
def wApp : DTS := dDrop (dBM "list" wAppend (dV 7) (dCons (dV 9) dNil))
theorem wApp_of {τ : DSt} {w : Str} (h7 : τ[7]? = some (some (.ref R))) (h9 : τ[9]? = some (some (.str w))) (g : S R = some (.lst (ws.map D.str))) (hl : ws.length ≤ 1000) (k : Dn.nx τ (put S R (.lst ((ws ++ [w]).map D.str)))) : wApp Dn τ S := by
  unfold wApp
  simp only [dDrop_eq, dBM_eq, dCons_eq, dNil_eq]
  refine dV_at h7 ?_
  refine ⟨by simp [tyD, g], dV_at h9 ?_⟩
  rw [wAppend_lst g]
  exact ⟨by rw [List.length_map, sizeLine_eq]; omega, by rw [List.map_append] at k; exact k⟩
def wPut : DTS := dSeq (dIfS (dAnd (dTst (dBin wNe (dV 8) (dTup dNil))) (dTst (dBin wGt (dCall sp__law_draw [] (dCons (dV 0) (dCons (dC (.int 5)) dNil))) (dC (.int 0))))) (dAsg (dBin wAt (dV 8) (dCall sp__law_draw [] (dCons (dV 0) (dCons (dCB wLen (dCons (dV 8) dNil)) dNil)))) (gdTup 2 (gdCons (gdName 9) (gdCons (gdName 6) gdNil)))) (dPar 9 6 (dCons (rdPick 2) (dCons (dUn wNeg (dC (.int 1))) dNil)))) wApp
theorem wStep_eq : wStep = dSeq (dIfS (dAnd (dTst (dBin wEq (dV 8) (dTup dNil))) (dAnd (dTst (dBin wGe (dV 4) (dV 3))) (dTst (dBin wGt (dCall sp__law_draw [] (dCons (dV 0) (dCons (dC (.int 4)) dNil))) (dC (.int 0)))))) dBreak dNext) wPut := rfl
theorem pairs_ok {es : List (Str × Int)} : ∀ d ∈ es.map pairSI, d.ok 1 = true := fun d hd => by
  obtain ⟨e, _, rfl⟩ := List.mem_map.mp hd
  simp [pairSI, D.ok, D.oks]
theorem wPut_of (F : Feed S f) (W : Nms S f L ns) (gR : S R = some (.lst (ws.map D.str))) (hl : ws.length ≤ 1000) {es : List (Str × Int)} (le : es.length ≤ 100) (he : ∀ e ∈ es, nmOk e.1)
    (k : ∀ w here' S', nmOk w → Feed S' f → S' R = some (.lst ((ws ++ [w]).map D.str)) → (∀ b o, b ≠ f → b ≠ R → S b = some o → S' b = some o) → Dn.nx [some (.ref f), some t, some (.ref L), some (.int least), some (.int kx), some (.ref a), some (.int here'), some (.ref R), some (.tup (es.map pairSI)), some (.str w), none] S') :
    wPut Dn [some (.ref f), some t, some (.ref L), some (.int least), some (.int kx), some (.ref a), some (.int here), some (.ref R), some (.tup (es.map pairSI)), x9, none] S := by
  have sz : 1001 < sizeLine := by rw [sizeLine_eq]; decide
  have Rf : R ≠ f := fun z => by obtain ⟨_, _, _, _, e⟩ := F; rw [← z, gR] at e; cases e
  unfold wPut
  have fin : ∀ (w : Str) (here' : Int) S2, nmOk w → Feed S2 f → Keeps f S S2 → wApp Dn [some (.ref f), some t, some (.ref L), some (.int least), some (.int kx), some (.ref a), some (.int here'), some (.ref R), some (.tup (es.map pairSI)), some (.str w), none] S2 := fun w here' S2 hw F2 K2 => by
    refine wApp_of (by rfl) (by rfl) (K2 _ _ Rf gR) hl ?_
    exact k w here' _ hw (F2.put Rf) put_same fun b o h1 h2 hb => by rw [put_ne h2]; exact K2 b o h1 hb
  have other : ∀ S2, Feed S2 f → Keeps f S S2 → dPar 9 6 (dCons (rdPick 2) (dCons (dUn wNeg (dC (.int 1))) dNil)) { Dn with nx := wApp Dn } [some (.ref f), some t, some (.ref L), some (.int least), some (.int kx), some (.ref a), some (.int here), some (.ref R), some (.tup (es.map pairSI)), x9, none] S2 := fun S2 F2 K2 => by
    simp only [dPar_eq, dCons_eq, dUn_eq, dC_eq, wNeg_int, dNil_eq]
    refine rdPick_of (L := L) (by rfl) (by rfl) F2 (K2 _ _ W.lf W.g) (by rw [List.length_map]; have := W.l2; omega) (by rw [List.length_map]; have := W.l8; omega) fun x hx S3 F3 K3 => ?_
    obtain ⟨nm, hnm, rfl⟩ := mem_str hx
    exact fin nm (-1) S3 (W.ok _ hnm) F3 (K2.trans K3)
  simp only [dSeq_eq, dIfS_eq, dAnd_eq, dTst_eq, dBin_eq, dTup_eq, dNil_eq, dC_eq]
  refine dV_at (by rfl) ?_
  refine ⟨by show 0 ≤ sizeLine; omega, ?_⟩
  rw [wNe_tnil (by decide : 1 ≤ 30) pairs_ok]
  by_cases hz : es = []
  · simp only [hz, List.map_nil, decide_true, isB_bl]
    rw [hz, List.map_nil] at other
    exact other S F .refl
  · have hz' : es.map pairSI ≠ [] := by simpa using hz
    simp only [hz', decide_false, isB_bl]
    rw [if_pos (show (!false) = true from rfl)]
    refine rdDraw_of (by rfl) F (by decide) (by decide) fun r S2 r0 r1 F2 K2 => ?_
    rw [wGt_int, isB_bl]
    by_cases hr : 0 < r
    · rw [decide_eq_true hr, if_pos rfl]
      simp only [dAsg_eq, dBin_eq, dCall_eq, dCons_eq, dNil_eq, dCB_eq, List.append_nil]
      refine dV_at (by rfl) ?_
      refine dV_at (by rfl) ?_
      refine dV_at (by rfl) ?_
      rw [wLen_tup]
      have hp := List.length_pos_iff.mpr hz
      refine ⟨f, _, rfl, by rw [List.length_map]; omega, by rw [List.length_map]; omega, F2, fun i S3 i0 i1 F3 K3 => ?_⟩
      simp only [wAt_tup]
      refine onS_mem i0 i1 fun x hx => ?_
      obtain ⟨e, hm, rfl⟩ := List.mem_map.mp hx
      refine ⟨rfl, rfl, ?_⟩
      exact fin e.1 e.2 S3 (he e hm) F3 (K2.trans K3)
    · rw [decide_eq_false hr, if_neg (by decide)]
      exact other S2 F2 K2
theorem wBody_of (F : Feed S f) (W : Nms S f L ns) {ks : List Ent} (ga : S a = some (.dct (ks.map eR))) (hks : ∀ p ∈ ks, entOk p) (gR : S R = some (.lst (ws.map D.str))) (hl : ws.length ≤ 1000)
    (kb : ∀ x8 S', Feed S' f → Keeps f S S' → Dn.bk [some (.ref f), some t, some (.ref L), some (.int least), some (.int kx), some (.ref a), some (.int here), some (.ref R), x8, x9, none] S')
    (k : ∀ w here' x8 S', nmOk w → Feed S' f → S' R = some (.lst ((ws ++ [w]).map D.str)) → (∀ b o, b ≠ f → b ≠ R → S b = some o → S' b = some o) → Dn.nx [some (.ref f), some t, some (.ref L), some (.int least), some (.int kx), some (.ref a), some (.int here'), some (.ref R), x8, some (.str w), none] S') :
    wBody Dn [some (.ref f), some t, some (.ref L), some (.int least), some (.int kx), some (.ref a), some (.int here), some (.ref R), x8, x9, none] S := by
  have sz : 1001 < sizeLine := by rw [sizeLine_eq]; decide
  unfold wBody
  rw [wStep_eq]
  simp only [dSeq_eq, dAsg_eq, dGet2_eq, dTup_eq, dNil_eq]
  refine dV_at (by rfl) ?_
  refine ⟨by simp [isDct, ga], ?_⟩
  refine dV_at (by rfl) ?_
  refine ⟨by show 0 ≤ sizeLine; omega, ?_⟩
  obtain ⟨es, e1, le, he⟩ := getR hks here
  unfold onD
  simp only [rdD, ga, fitR, if_true]
  rw [e1]
  simp only [gdName_eq]
  have cont : ∀ S2, Feed S2 f → Keeps f S S2 → wPut Dn [some (.ref f), some t, some (.ref L), some (.int least), some (.int kx), some (.ref a), some (.int here), some (.ref R), some (.tup (es.map pairSI)), x9, none] S2 := fun S2 F2 K2 => by
    have Rf : R ≠ f := fun z => by obtain ⟨_, _, _, _, e⟩ := F; rw [← z, gR] at e; cases e
    refine wPut_of F2 ⟨K2 _ _ W.lf W.g, W.lf, W.l2, W.l8, W.ok⟩ (K2 _ _ Rf gR) hl le he fun w here' S' hw F' g' st => k w here' _ S' hw F' g' fun b o h1 h2 hb => st b o h1 h2 (K2 b o h1 hb)
  simp only [dSeq_eq, dIfS_eq, dAnd_eq, dTst_eq, dBin_eq, dTup_eq, dNil_eq, dC_eq]
  refine dV_at (by rfl) ?_
  refine ⟨by show 0 ≤ sizeLine; omega, ?_⟩
  rw [wEq_tnil (by decide : 1 ≤ 30) pairs_ok, isB_bl]
  by_cases hz : es.map pairSI = []
  · rw [decide_eq_true hz, if_pos rfl]
    refine dV_at (by rfl) ?_
    refine dV_at (by rfl) ?_
    rw [wGe_int, isB_bl]
    by_cases hk : least ≤ kx
    · rw [decide_eq_true hk, if_pos rfl]
      refine rdDraw_of (by rfl) F (by decide) (by decide) fun r S2 r0 r1 F2 K2 => ?_
      rw [wGt_int, isB_bl]
      by_cases hr : 0 < r
      · rw [decide_eq_true hr, if_pos rfl]
        exact kb _ S2 F2 K2
      · rw [decide_eq_false hr, if_neg (by decide)]
        exact cont S2 F2 K2
    · rw [decide_eq_false hk, if_neg (by decide), if_neg (by decide)]
      exact cont S F .refl
  · rw [decide_eq_false hz, if_neg (by decide), if_neg (by decide)]
    exact cont S F .refl
end
theorem vc__law_way {ds S Q E} (h : sp__law_way ds S Q E) : r__law_way (bodyEnds Q) (startD N__law_way ds) S := by
  obtain ⟨f, L, t, ns, least, rfl, l0, l1, ht, F, W, k⟩ := h
  have sz : 1001 < sizeLine := by rw [sizeLine_eq]; decide
  rw [r_way_eq]
  generalize hB : wBody = B
  show dSeq _ _ _ [some (.ref f), some t, some (.ref L), some (.int least), none, none, none, none, none, none, none] S
  simp only [dSeq_eq, dPar3_eq, dCons_eq, dC_eq, dLst_eq, dNil_eq]
  refine wRows_of ht (by rfl) (by show 10 < 11; decide) fun ks S1 a hks ha0 ga gr => ?_
  refine ⟨by show 0 ≤ sizeLine; omega, fun R hR => ?_⟩
  have F1 : Feed S1 f := F.keep gr
  have K1 : Keeps f S S1 := fun b o _ hb => gr b o hb
  have hR0 : S R = none := gr.free hR
  have fR := F1.nt hR
  have Ra : a ≠ R := ne_of_free hR ga
  have LR : L ≠ R := ne_of_free hR0 W.g
  have af := F.nt ha0
  simp only [dFor_eq, diRng1_eq, dCons_eq, dNil_eq, dCB_eq]
  refine dV_at (by rfl) ?_
  refine rdDraw_of (by rfl) (F1.new hR) (by decide) (by decide) fun r S2 r0 r1 F2 K2 => ?_
  have gR2 := K2 _ _ fR put_same
  have ga2 := K2 _ _ af (by rw [put_ne Ra]; exact ga)
  have KS2 : Keeps f S S2 := (K1.then hR0).trans K2
  show wMaxI [.int least, .int r] S2 _
  unfold wMaxI
  simp only
  have hm : (if r > least then r else least) ≤ 4 ∧ 0 ≤ (if r > least then r else least) := by split <;> omega
  generalize (if r > least then r else least) = mx at *
  refine ⟨by omega, by omega, ?_⟩
  rw [rngD_map]
  have fin : ∀ (ws : List Str) (τ : DSt) S', τ[7]? = some (some (.ref R)) → ws.length ≤ 4 → (∀ w ∈ ws, nmOk w) → Feed S' f → Keeps f S S' → S' R = some (.lst (ws.map D.str)) → dRet (dCB wTuple (dCons (dV 7) dNil)) (bodyEnds Q) τ S' := fun ws τ S' h7 hl hw F' K' g' => by
    simp only [dRet_eq, dCB_eq, dCons_eq, dNil_eq]
    refine dV_at h7 ?_
    rw [wTuple_lst g']
    exact k ws S' hl hw F' K'
  refine loop_map (fun i : Nat => D.int (i : Int)) (fun done τ S' => ∃ (ws : List Str) (x4 : Option D) (here : Int) (x8 x9 : Option D), S' R = some (.lst (ws.map D.str)) ∧ S' a = some (.dct (ks.map eR)) ∧ ws.length = done.length ∧ (∀ w ∈ ws, nmOk w) ∧ Feed S' f ∧ Keeps f S S' ∧ τ = [some (.ref f), some t, some (.ref L), some (.int least), x4, some (.ref a), some (.int here), some (.ref R), x8, x9, none])
    (fun _ _ _ _ => trivial) (fun τ S' h => ?_) (fun done i rest τ S' es h N hN => ?_) ⟨[], _, 0, _, _, gR2, ga2, rfl, by simp, F2, KS2, rfl⟩
  · obtain ⟨ws, x4, here, x8, x9, g', ga', hl, hw, F', K', rfl⟩ := h
    rw [List.length_range] at hl
    show dRet (dCB wTuple (dCons (dV 7) dNil)) (bodyEnds Q) [some (.ref f), some t, some (.ref L), some (.int least), x4, some (.ref a), some (.int here), some (.ref R), x8, x9, none] S'
    exact fin ws _ S' (by rfl) (by omega) hw F' K' g'
  · obtain ⟨ws, x4, here, x8, x9, g', ga', hl, hw, F', K', rfl⟩ := h
    have hd : done.length < 4 := by
      have := congrArg List.length es
      simp at this; omega
    rw [← hB]
    refine wBody_of F' ⟨K' _ _ W.lf W.g, W.lf, W.l2, W.l8, W.ok⟩ ga' hks g' (by omega) (fun x8 S3 F3 K3 => ?_) fun w here' x8 S3 hw3 F3 g3 st => ?_
    · show dRet (dCB wTuple (dCons (dV 7) dNil)) (bodyEnds Q) [some (.ref f), some t, some (.ref L), some (.int least), some (.int (i : Int)), some (.ref a), some (.int here), some (.ref R), x8, x9, none] S3
      exact fin ws _ S3 (by rfl) (by omega) hw F3 (K'.trans K3) (K3 _ _ fR g')
    · refine hN _ _ ⟨ws ++ [w], _, here', x8, _, g3, st _ _ af Ra ga', by rw [List.length_append, List.length_append, hl]; rfl, fun y hy => ?_, F3, fun b o h1 hb => ?_, rfl⟩
      · rcases List.mem_append.mp hy with hy | hy
        · exact hw y hy
        · rw [List.mem_singleton.mp hy]; exact hw3
      · exact st b o h1 (ne_of_free hR0 hb) (K' b o h1 hb)
end KG

namespace KG
open PySem PySem.Spec PyProof.Rows L2 DL KF
def DeedD (d : D) : Prop := ∃ es, d = .tup es ∧ 2 ≤ es.length ∧ es.length ≤ 3 ∧ Th 2 100 0 d
def sp__law_deed : DSp := fun ds S Q E => ∃ f L t ns, ds = [.ref f, t, .ref L] ∧ TreeD t ∧ Feed S f ∧ Nms S f L ns ∧ ∀ d S', DeedD d → Feed S' f → Keeps f S S' → Q d S'
theorem len__law_deed : ∀ ds S Q E, sp__law_deed ds S Q E → ds.length = (["_law_feed_here", "_law_tree_here", "_law_names_here"] : List Str).length := fun _ _ _ _ ⟨_, _, _, _, e, _⟩ => by rw [e]; rfl
def r__law_deed : DTS := dSeq (dAsg (dBin wAt (dLst (dCons (dC (.str "look")) (dCons (dC (.str "list")) (dCons (dC (.str "make")) (dCons (dC (.str "drop")) (dCons (dC (.str "link")) (dCons (dC (.str "move")) (dCons (dC (.str "swap")) (dCons (dC (.str "move")) (dCons (dC (.str "make")) dNil)))))))))) (dCall sp__law_draw [] (dCons (dV 0) (dCons (dC (.int 9)) dNil)))) (gdName 3)) (dSeq (dAsg (dCall sp__law_way [] (dCons (dV 0) (dCons (dV 1) (dCons (dV 2) (dCons (dCB wIntT (dCons (dBin (wIn true) (dV 3) (dTup (dCons (dC (.str "look")) (dCons (dC (.str "list")) dNil)))) dNil)) dNil))))) (gdName 4)) (dSeq (dIfS (dTst (dBin (wIn false) (dV 3) (dTup (dCons (dC (.str "look")) (dCons (dC (.str "list")) (dCons (dC (.str "drop")) dNil)))))) (dRet (dTup (dCons (dV 3) (dCons (dV 4) dNil)))) dNext) (dSeq (dIfS (dTst (dBin wEq (dV 3) (dC (.str "make")))) (dSeq (dAsg (dIf (dTst (dBin wEq (dCall sp__law_draw [] (dCons (dV 0) (dCons (dC (.int 3)) dNil))) (dC (.int 0)))) (dV 4) (dBin wAdd (dCut (dV 4) dNoPart (dPart (dC (.int 3)))) (dTup (dCons (dBin wAt (dV 2) (dCall sp__law_draw [] (dCons (dV 0) (dCons (dCB wLen (dCons (dV 2) dNil)) dNil)))) dNil)))) (gdName 6)) (dRet (dTup (dCons (dV 3) (dCons (dV 6) (dCons (dBin wAt (dLst (dCons (dC (.str "drawer")) (dCons (dC (.str "sheet")) dNil))) (dCall sp__law_draw [] (dCons (dV 0) (dCons (dC (.int 2)) dNil)))) dNil)))))) dNext) (dSeq (dPar 6 7 (dCons (dCall sp__law_draw [] (dCons (dV 0) (dCons (dC (.int 6)) dNil))) (dCons (dBin wAt (dV 2) (dCall sp__law_draw [] (dCons (dV 0) (dCons (dCB wLen (dCons (dV 2) dNil)) dNil)))) dNil))) (dSeq (dAsg (dCall sp__law_way [] (dCons (dV 0) (dCons (dV 1) (dCons (dV 2) (dCons (dC (.int 1)) dNil))))) (gdName 5)) (dSeq (dIfS (dTst (dBin wEq (dV 6) (dC (.int 0)))) (dAsg (dCut (dBin wAdd (dV 4) (dTup (dCons (dV 7) dNil))) dNoPart (dPart (dC (.int 4)))) (gdName 5)) dNext) (dSeq (dIfS (dTst (dBin wEq (dV 6) (dC (.int 1)))) (dAsg (dBin wAdd (dCut (dV 4) dNoPart (dPart (dUn wNeg (dC (.int 1))))) (dTup (dCons (dV 7) dNil))) (gdName 5)) dNext) (dSeq (dIfS (dTst (dBin wEq (dV 6) (dC (.int 2)))) (dAsg (dV 4) (gdName 5)) dNext) (dSeq (dIfS (dTst (dBin wGt (dV 6) (dC (.int 3)))) (dAsg (dBin wAdd (dCut (dV 5) dNoPart (dPart (dC (.int 3)))) (dTup (dCons (dV 7) dNil))) (gdName 5)) dNext) (dRet (dTup (dCons (dV 3) (dCons (dV 4) (dCons (dV 5) dNil))))))))))))))
abbrev N__law_deed : List Str := ["_law_feed_here", "_law_tree_here", "_law_names_here", "_law_word", "_law_first", "_law_second", "_law_way_here", "_law_name"]
theorem okS_lt {x : Str} (h : okS x = true) : x.cps.toList.all (fun k => decide (k < 16 ^ 8)) = true := h
theorem str_th {x : Str} {n m : Nat} (h : okS x = true) (hl : x.length ≤ m) : Th n m 0 (.str x) := .str (okS_lt h) hl
theorem way_th {ws : List Str} (hl : ws.length ≤ 5) (h : ∀ w ∈ ws, nmOk w) : Th 1 45 0 (.tup (ws.map D.str)) := by
  have hb : ∀ l : List Str, (∀ w ∈ l, nmOk w) → bA (l.map D.str) ≤ 9 * l.length := fun l => by
    induction l with
    | nil => intro _; simp
    | cons x r ih =>
      intro h
      have := ih fun z hz => h z (List.mem_cons_of_mem _ hz)
      have h1 := (h x (List.mem_cons_self ..)).1
      have e : (D.str x).py.bulk = x.length := by simp [D.py, PyData.bulk, Str.length]
      simp only [List.map_cons, bA_cons, List.length_cons, e]; omega
  refine .tup (fun e he => ?_) (fun e he => ?_) (by have := hb ws h; omega)
  · obtain ⟨w, _, rfl⟩ := List.mem_map.mp he; simp [D.ok]
  · obtain ⟨w, hw, rfl⟩ := List.mem_map.mp he
    exact (str_th (n := 0) (h w hw).2 (Nat.le_refl _)).bg
theorem th_tup {n m c : Nat} {es : List D} (h : ∀ e ∈ es, ∃ k, Th n k c e) (hb : bA es ≤ m) : Th (n + 1) m c (.tup es) :=
  .tup (fun e he => (h e he).elim fun _ h => h.ok) (fun e he => (h e he).elim fun _ h => h.bg) hb
theorem deed2 {w : Str} {ws : List Str} (hw : okS w = true) (lw : w.length ≤ 4) (hl : ws.length ≤ 5) (h : ∀ w ∈ ws, nmOk w) : DeedD (.tup [.str w, .tup (ws.map D.str)]) := by
  have a := str_th (n := 1) hw lw
  have b := way_th hl h
  refine ⟨_, rfl, by simp, by simp, th_tup (fun e he => ?_) ?_⟩
  · simp only [List.mem_cons, List.not_mem_nil, or_false] at he
    rcases he with rfl | rfl
    · exact ⟨_, a⟩
    · exact ⟨_, b⟩
  · simp only [bA_cons, bA_nil]; have := a.bk; have := b.bk; omega
theorem deed3 {w : Str} {ws : List Str} {d : D} (hw : okS w = true) (lw : w.length ≤ 4) (hl : ws.length ≤ 5) (h : ∀ w ∈ ws, nmOk w) (hd : Th 1 45 0 d) : DeedD (.tup [.str w, .tup (ws.map D.str), d]) := by
  have a := str_th (n := 1) hw lw
  have b := way_th hl h
  refine ⟨_, rfl, by simp, by simp, th_tup (fun e he => ?_) ?_⟩
  · simp only [List.mem_cons, List.not_mem_nil, or_false] at he
    rcases he with rfl | rfl | rfl
    · exact ⟨_, a⟩
    · exact ⟨_, b⟩
    · exact ⟨_, hd⟩
  · simp only [bA_cons, bA_nil]; have := a.bk; have := b.bk; have := hd.bk; omega
theorem cut_strs {ws : List Str} {lo hi : Option Int} : ∃ vs : List Str, DL.cutD (ws.map D.str) lo hi = vs.map D.str ∧ vs.length ≤ ws.length ∧ ∀ v ∈ vs, v ∈ ws := by
  refine ⟨(ws.drop (HT.sIx (ws.map D.str).length 0 lo)).take (HT.sIx (ws.map D.str).length (ws.map D.str).length hi - HT.sIx (ws.map D.str).length 0 lo), by unfold DL.cutD; rw [List.map_take, List.map_drop], ?_, fun v hv => List.mem_of_mem_drop (List.mem_of_mem_take hv)⟩
  rw [List.length_take, List.length_drop]; omega
theorem words_ok : ∀ w ∈ (["look", "list", "make", "drop", "link", "move", "swap", "move", "make"] : List Str), okS w = true ∧ w.length ≤ 4 := by decide +kernel
theorem wCut_tup {ds : List D} {lo hi : Option Int} {S : Sto} {Q : KD} : DL.wCut (.tup ds) lo hi S Q = Q (.tup (DL.cutD ds lo hi)) S := rfl
section
variable {S : Sto} {f L : Addr} {ns : List Str} {t : D} {Q : KD}
def dM : DTS := dSeq (dAsg (dIf (dTst (dBin wEq (dCall sp__law_draw [] (dCons (dV 0) (dCons (dC (.int 3)) dNil))) (dC (.int 0)))) (dV 4) (dBin wAdd (dCut (dV 4) dNoPart (dPart (dC (.int 3)))) (dTup (dCons (rdPick 2) dNil)))) (gdName 6)) (dRet (dTup (dCons (dV 3) (dCons (dV 6) (dCons (dBin wAt (dLst (dCons (dC (.str "drawer")) (dCons (dC (.str "sheet")) dNil))) (dCall sp__law_draw [] (dCons (dV 0) (dCons (dC (.int 2)) dNil)))) dNil)))))
theorem dM_of {w : Str} {ws : List Str} (hw : okS w = true) (lw : w.length ≤ 4) (hl : ws.length ≤ 4) (h : ∀ w ∈ ws, nmOk w) (F : Feed S f) (W : Nms S f L ns) {x5 x6 x7 : Option D} {Dn : DEnds}
    (k : ∀ d S', DeedD d → Feed S' f → Keeps f S S' → Dn.rt d S') : dM Dn [some (.ref f), some t, some (.ref L), some (.str w), some (.tup (ws.map D.str)), x5, x6, x7] S := by
  have sz : 1001 < sizeLine := by rw [sizeLine_eq]; decide
  unfold dM
  have fin : ∀ (vs : List Str) S2, vs.length ≤ 5 → (∀ w ∈ vs, nmOk w) → Feed S2 f → Keeps f S S2 → dRet (dTup (dCons (dV 3) (dCons (dV 6) (dCons (dBin wAt (dLst (dCons (dC (.str "drawer")) (dCons (dC (.str "sheet")) dNil))) (dCall sp__law_draw [] (dCons (dV 0) (dCons (dC (.int 2)) dNil)))) dNil)))) Dn [some (.ref f), some t, some (.ref L), some (.str w), some (.tup (ws.map D.str)), x5, some (.tup (vs.map D.str)), x7] S2 := fun vs S2 l2 h2 F2 K2 => by
    simp only [dRet_eq, dTup_eq, dCons_eq, dNil_eq, dBin_eq, dLst_eq, dC_eq]
    refine dV_at (by rfl) ?_
    refine dV_at (by rfl) ?_
    refine ⟨by show 2 ≤ sizeLine; omega, fun p hp => ?_⟩
    refine rdDraw_of (by rfl) (F2.new hp) (by decide) (by decide) fun r S3 r0 r1 F3 K3 => ?_
    refine wAt_mem (K3 _ _ (F2.nt hp) put_same) r0 (by simpa using r1) fun x hx => ?_
    refine ⟨by show 3 ≤ sizeLine; omega, k _ _ (deed3 hw lw l2 h2 ?_) F3 ((K2.then (F2.freeT K2 hp)).trans K3)⟩
    simp only [List.mem_cons, List.not_mem_nil, or_false] at hx
    rcases hx with rfl | rfl
    · exact str_th (by decide +kernel) (Nat.le_trans (by decide +kernel : _ ≤ 6) (by decide))
    · exact str_th (by decide +kernel) (Nat.le_trans (by decide +kernel : _ ≤ 6) (by decide))
  simp only [dSeq_eq, dAsg_eq, dIf_eq, dTst_eq, dBin_eq, dC_eq]
  refine rdDraw_of (by rfl) F (by decide) (by decide) fun r S2 r0 r1 F2 K2 => ?_
  rw [wEq_int, isB_bl]
  by_cases hr : r = 0
  · rw [decide_eq_true hr, if_pos rfl]
    refine dV_at (by rfl) ?_
    exact fin ws S2 (by omega) h F2 K2
  · rw [decide_eq_false hr, if_neg (by decide)]
    simp only [dCut_eq, dNoPart_eq, dPart_eq, dC_eq, isI_int, dTup_eq, dCons_eq, dNil_eq]
    refine dV_at (by rfl) ?_
    rw [wCut_tup]
    refine rdPick_of (L := L) (by rfl) (by rfl) F2 (K2 _ _ W.lf W.g) (by rw [List.length_map]; have := W.l2; omega) (by rw [List.length_map]; have := W.l8; omega) fun x hx S3 F3 K3 => ?_
    obtain ⟨nm, hnm, rfl⟩ := mem_str hx
    obtain ⟨vs, e1, l1, h1⟩ := cut_strs (ws := ws) (lo := none) (hi := some 3)
    rw [e1]
    refine ⟨by show 1 ≤ sizeLine; omega, ?_⟩
    rw [wAdd_tup]
    refine ⟨by rw [List.length_map]; show vs.length + 1 ≤ sizeLine; omega, ?_⟩
    have e2 : vs.map D.str ++ [D.str nm] = (vs ++ [nm]).map D.str := by rw [List.map_append]; rfl
    rw [e2]
    exact fin (vs ++ [nm]) S3 (by rw [List.length_append, List.length_singleton]; omega) (fun y hy => by
      rcases List.mem_append.mp hy with hy | hy
      · exact h y (h1 y hy)
      · rw [List.mem_singleton.mp hy]; exact W.ok _ hnm) F3 (K2.trans K3)
end
end KG

namespace KG
open PySem PySem.Spec PyProof.Rows L2 DL KF
section
variable {S : Sto} {f L : Addr} {ns : List Str} {t : D} {Q : KD}
def i0 : DTS := dIfS (dTst (dBin wEq (dV 6) (dC (.int 0)))) (dAsg (dCut (dBin wAdd (dV 4) (dTup (dCons (dV 7) dNil))) dNoPart (dPart (dC (.int 4)))) (gdName 5)) dNext
def i1 : DTS := dIfS (dTst (dBin wEq (dV 6) (dC (.int 1)))) (dAsg (dBin wAdd (dCut (dV 4) dNoPart (dPart (dUn wNeg (dC (.int 1))))) (dTup (dCons (dV 7) dNil))) (gdName 5)) dNext
def i2 : DTS := dIfS (dTst (dBin wEq (dV 6) (dC (.int 2)))) (dAsg (dV 4) (gdName 5)) dNext
def i3 : DTS := dIfS (dTst (dBin wGt (dV 6) (dC (.int 3)))) (dAsg (dBin wAdd (dCut (dV 5) dNoPart (dPart (dC (.int 3)))) (dTup (dCons (dV 7) dNil))) (gdName 5)) dNext
def dRR : DTS := dRet (dTup (dCons (dV 3) (dCons (dV 4) (dCons (dV 5) dNil))))
def dB : DTS := dSeq (dPar 6 7 (dCons (dCall sp__law_draw [] (dCons (dV 0) (dCons (dC (.int 6)) dNil))) (dCons (rdPick 2) dNil))) (dSeq (dAsg (dCall sp__law_way [] (dCons (dV 0) (dCons (dV 1) (dCons (dV 2) (dCons (dC (.int 1)) dNil))))) (gdName 5)) (dSeq i0 (dSeq i1 (dSeq i2 (dSeq i3 dRR)))))
def dH1 : DTS := dAsg (dBin wAt (dLst (dCons (dC (.str "look")) (dCons (dC (.str "list")) (dCons (dC (.str "make")) (dCons (dC (.str "drop")) (dCons (dC (.str "link")) (dCons (dC (.str "move")) (dCons (dC (.str "swap")) (dCons (dC (.str "move")) (dCons (dC (.str "make")) dNil)))))))))) (dCall sp__law_draw [] (dCons (dV 0) (dCons (dC (.int 9)) dNil)))) (gdName 3)
def dH2 : DTS := dAsg (dCall sp__law_way [] (dCons (dV 0) (dCons (dV 1) (dCons (dV 2) (dCons (dCB wIntT (dCons (dBin (wIn true) (dV 3) (dTup (dCons (dC (.str "look")) (dCons (dC (.str "list")) dNil)))) dNil)) dNil))))) (gdName 4)
def dH3 : DTS := dIfS (dTst (dBin (wIn false) (dV 3) (dTup (dCons (dC (.str "look")) (dCons (dC (.str "list")) (dCons (dC (.str "drop")) dNil)))))) (dRet (dTup (dCons (dV 3) (dCons (dV 4) dNil)))) dNext
theorem r_deed_eq : r__law_deed = dSeq dH1 (dSeq dH2 (dSeq dH3 (dSeq (dIfS (dTst (dBin wEq (dV 3) (dC (.str "make")))) dM dNext) dB))) := rfl
/-- what stands at the second way: at most five names -/
def WayIs (n : Nat) (x : Option D) : Prop := ∃ vs : List Str, x = some (.tup (vs.map D.str)) ∧ vs.length ≤ n ∧ ∀ v ∈ vs, nmOk v
theorem app_way {vs : List Str} {nm : Str} {n : Nat} (hl : vs.length ≤ n) (h : ∀ v ∈ vs, nmOk v) (hn : nmOk nm) : WayIs (n + 1) (some (.tup (vs.map D.str ++ [.str nm]))) :=
  ⟨vs ++ [nm], by rw [List.map_append]; rfl, by rw [List.length_append, List.length_singleton]; omega, fun y hy => by
      rcases List.mem_append.mp hy with hy | hy
      · exact h y hy
      · rw [List.mem_singleton.mp hy]; exact hn⟩
theorem WayIs.up {n m : Nat} {x : Option D} (h : WayIs n x) (hm : n ≤ m) : WayIs m x := by
  obtain ⟨vs, a, b, c⟩ := h; exact ⟨vs, a, by omega, c⟩
theorem i0_of {ws : List Str} (hl : ws.length ≤ 4) (h : ∀ w ∈ ws, nmOk w) {nm : Str} (hn : nmOk nm) {r : Int} {x3 x5 : Option D} (h5 : WayIs 4 x5) {Dn : DEnds}
    (k : ∀ x5, WayIs 5 x5 → (0 < r → WayIs 4 x5) → Dn.nx [some (.ref f), some t, some (.ref L), x3, some (.tup (ws.map D.str)), x5, some (.int r), some (.str nm)] S) :
    i0 Dn [some (.ref f), some t, some (.ref L), x3, some (.tup (ws.map D.str)), x5, some (.int r), some (.str nm)] S := by
  have sz : 1001 < sizeLine := by rw [sizeLine_eq]; decide
  unfold i0
  simp only [dIfS_eq, dTst_eq, dBin_eq, dC_eq]
  refine dV_at (by rfl) ?_
  rw [wEq_int, isB_bl]
  by_cases hr : r = 0
  · rw [decide_eq_true hr, if_pos rfl]
    simp only [dAsg_eq, dCut_eq, dBin_eq, dNoPart_eq, dPart_eq, dC_eq, isI_int, dTup_eq, dCons_eq, dNil_eq]
    refine dV_at (by rfl) ?_
    refine dV_at (by rfl) ?_
    refine ⟨by show 1 ≤ sizeLine; omega, ?_⟩
    rw [wAdd_tup]
    refine ⟨by rw [List.length_map]; show ws.length + 1 ≤ sizeLine; omega, ?_⟩
    obtain ⟨us, e0, l0, h0⟩ := app_way hl h hn
    rw [Option.some.inj e0, wCut_tup]
    obtain ⟨vs, e1, l1, h1⟩ := cut_strs (ws := us) (lo := none) (hi := some 4)
    rw [e1]
    exact k _ ⟨vs, rfl, by omega, fun v hv => h0 v (h1 v hv)⟩ fun z => by omega
  · rw [decide_eq_false hr, if_neg (by decide)]
    exact k _ (h5.up (by decide)) fun _ => h5
theorem i1_of {ws : List Str} (hl : ws.length ≤ 4) (h : ∀ w ∈ ws, nmOk w) {nm : Str} (hn : nmOk nm) {r : Int} {x3 x5 : Option D} (h5 : WayIs 5 x5) (h4 : 0 < r → WayIs 4 x5) {Dn : DEnds}
    (k : ∀ x5, WayIs 5 x5 → (1 < r → WayIs 4 x5) → Dn.nx [some (.ref f), some t, some (.ref L), x3, some (.tup (ws.map D.str)), x5, some (.int r), some (.str nm)] S) :
    i1 Dn [some (.ref f), some t, some (.ref L), x3, some (.tup (ws.map D.str)), x5, some (.int r), some (.str nm)] S := by
  have sz : 1001 < sizeLine := by rw [sizeLine_eq]; decide
  unfold i1
  simp only [dIfS_eq, dTst_eq, dBin_eq, dC_eq]
  refine dV_at (by rfl) ?_
  rw [wEq_int, isB_bl]
  by_cases hr : r = 1
  · rw [decide_eq_true hr, if_pos rfl]
    simp only [dAsg_eq, dCut_eq, dBin_eq, dNoPart_eq, dPart_eq, dUn_eq, dC_eq, wNeg_int, isI_int, dTup_eq, dCons_eq, dNil_eq]
    refine dV_at (by rfl) ?_
    rw [wCut_tup]
    obtain ⟨vs, e1, l1, h1⟩ := cut_strs (ws := ws) (lo := none) (hi := some (-1))
    rw [e1]
    refine dV_at (by rfl) ?_
    refine ⟨by show 1 ≤ sizeLine; omega, ?_⟩
    rw [wAdd_tup]
    refine ⟨by rw [List.length_map]; show vs.length + 1 ≤ sizeLine; omega, ?_⟩
    exact k _ (app_way (n := 4) (by omega) (fun v hv => h v (h1 v hv)) hn) fun z => by omega
  · rw [decide_eq_false hr, if_neg (by decide)]
    exact k _ h5 fun z => h4 (by omega)
theorem i2_of {ws : List Str} (hl : ws.length ≤ 4) (h : ∀ w ∈ ws, nmOk w) {nm : Str} (hn : nmOk nm) {r : Int} {x3 x5 : Option D} (h5 : WayIs 5 x5) (h4 : 1 < r → WayIs 4 x5) {Dn : DEnds}
    (k : ∀ x5, WayIs 5 x5 → (2 < r → WayIs 4 x5) → Dn.nx [some (.ref f), some t, some (.ref L), x3, some (.tup (ws.map D.str)), x5, some (.int r), some (.str nm)] S) :
    i2 Dn [some (.ref f), some t, some (.ref L), x3, some (.tup (ws.map D.str)), x5, some (.int r), some (.str nm)] S := by
  unfold i2
  simp only [dIfS_eq, dTst_eq, dBin_eq, dC_eq]
  refine dV_at (by rfl) ?_
  rw [wEq_int, isB_bl]
  by_cases hr : r = 2
  · rw [decide_eq_true hr, if_pos rfl]
    simp only [dAsg_eq]
    refine dV_at (by rfl) ?_
    exact k _ ⟨ws, rfl, by omega, h⟩ fun z => by omega
  · rw [decide_eq_false hr, if_neg (by decide)]
    exact k _ h5 fun z => h4 (by omega)
theorem i3_of {ws : List Str} {nm : Str} (hn : nmOk nm) {r : Int} {x3 x5 : Option D} (h5 : WayIs 5 x5) (h4 : 2 < r → WayIs 4 x5) {Dn : DEnds}
    (k : ∀ x5, WayIs 5 x5 → Dn.nx [some (.ref f), some t, some (.ref L), x3, some (.tup (ws.map D.str)), x5, some (.int r), some (.str nm)] S) :
    i3 Dn [some (.ref f), some t, some (.ref L), x3, some (.tup (ws.map D.str)), x5, some (.int r), some (.str nm)] S := by
  have sz : 1001 < sizeLine := by rw [sizeLine_eq]; decide
  unfold i3
  simp only [dIfS_eq, dTst_eq, dBin_eq, dC_eq]
  refine dV_at (by rfl) ?_
  rw [wGt_int, isB_bl]
  by_cases hr : 3 < r
  · rw [decide_eq_true hr, if_pos rfl]
    obtain ⟨us, rfl, l0, h0⟩ := h4 (by omega)
    simp only [dAsg_eq, dCut_eq, dBin_eq, dNoPart_eq, dPart_eq, dC_eq, isI_int, dTup_eq, dCons_eq, dNil_eq]
    refine dV_at (by rfl) ?_
    rw [wCut_tup]
    obtain ⟨vs, e1, l1, h1⟩ := cut_strs (ws := us) (lo := none) (hi := some 3)
    rw [e1]
    refine dV_at (by rfl) ?_
    refine ⟨by show 1 ≤ sizeLine; omega, ?_⟩
    rw [wAdd_tup]
    refine ⟨by rw [List.length_map]; show vs.length + 1 ≤ sizeLine; omega, ?_⟩
    exact k _ (app_way (n := 4) (by omega) (fun v hv => h0 v (h1 v hv)) hn)
  · rw [decide_eq_false hr, if_neg (by decide)]
    exact k _ h5
theorem dB_of {w : Str} {ws : List Str} (hw : okS w = true) (lw : w.length ≤ 4) (hl : ws.length ≤ 4) (h : ∀ w ∈ ws, nmOk w) (ht : TreeD t) (F : Feed S f) (W : Nms S f L ns) {x5 x6 x7 : Option D} {Dn : DEnds}
    (k : ∀ d S', DeedD d → Feed S' f → Keeps f S S' → Dn.rt d S') : dB Dn [some (.ref f), some t, some (.ref L), some (.str w), some (.tup (ws.map D.str)), x5, x6, x7] S := by
  have sz : 1001 < sizeLine := by rw [sizeLine_eq]; decide
  unfold dB
  generalize hI : dSeq i0 (dSeq i1 (dSeq i2 (dSeq i3 dRR))) = I
  simp only [dSeq_eq, dPar_eq, dCons_eq, dNil_eq]
  refine rdDraw_of (by rfl) F (by decide) (by decide) fun r S2 r0 r1 F2 K2 => ?_
  refine rdPick_of (L := L) (by rfl) (by rfl) F2 (K2 _ _ W.lf W.g) (by rw [List.length_map]; have := W.l2; omega) (by rw [List.length_map]; have := W.l8; omega) fun x hx S3 F3 K3 => ?_
  obtain ⟨nm, hnm, rfl⟩ := mem_str hx
  have K3' := K2.trans K3
  simp only [dAsg_eq, dCall_eq, dCons_eq, dNil_eq, dC_eq, List.append_nil, dSeq_eq]
  refine dV_at (by rfl) ?_
  refine dV_at (by rfl) ?_
  refine dV_at (by rfl) ?_
  refine ⟨f, L, t, ns, 1, rfl, by decide, by decide, ht, F3, ⟨K3' _ _ W.lf W.g, W.lf, W.l2, W.l8, W.ok⟩, fun vs S4 lv hv F4 K4 => ?_⟩
  rw [← hI]
  show dSeq i0 _ Dn [some (.ref f), some t, some (.ref L), some (.str w), some (.tup (ws.map D.str)), some (.tup (vs.map D.str)), some (.int r), some (.str nm)] S4
  refine i0_of hl h (W.ok _ hnm) ⟨vs, rfl, lv, hv⟩ fun x5 a5 b5 => ?_
  refine i1_of hl h (W.ok _ hnm) a5 b5 fun x5 a5 b5 => ?_
  refine i2_of hl h (W.ok _ hnm) a5 b5 fun x5 a5 b5 => ?_
  refine i3_of (W.ok _ hnm) a5 b5 fun x5 a5 => ?_
  obtain ⟨us, rfl, l0, h0⟩ := a5
  unfold dRR
  simp only [dRet_eq, dTup_eq, dCons_eq, dNil_eq]
  refine dV_at (by rfl) ?_
  refine dV_at (by rfl) ?_
  refine dV_at (by rfl) ?_
  exact ⟨by show 3 ≤ sizeLine; omega, k _ _ (deed3 hw lw (by omega) h (way_th l0 h0)) F4 (K3'.trans K4)⟩
end
theorem vc__law_deed {ds S Q E} (h : sp__law_deed ds S Q E) : r__law_deed (bodyEnds Q) (startD N__law_deed ds) S := by
  obtain ⟨f, L, t, ns, rfl, ht, F, W, k⟩ := h
  have sz : 1001 < sizeLine := by rw [sizeLine_eq]; decide
  rw [r_deed_eq]
  generalize hX : dSeq (dIfS (dTst (dBin wEq (dV 3) (dC (.str "make")))) dM dNext) dB = X
  show dSeq _ _ _ [some (.ref f), some t, some (.ref L), none, none, none, none, none] S
  unfold dH1
  simp only [dSeq_eq, dAsg_eq, dBin_eq, dLst_eq, dCons_eq, dNil_eq, dC_eq]
  refine ⟨by show 9 ≤ sizeLine; omega, fun p hp => ?_⟩
  refine rdDraw_of (by rfl) (F.new hp) (by decide) (by decide) fun r S2 r0 r1 F2 K2 => ?_
  have K2' : Keeps f S S2 := (Keeps.new hp).trans K2
  refine wAt_mem (K2 _ _ (F.nt hp) put_same) r0 (by simpa using r1) fun x hx => ?_
  obtain ⟨w, hw, rfl⟩ : ∃ w ∈ (["look", "list", "make", "drop", "link", "move", "swap", "move", "make"] : List Str), x = .str w := by
    have e : [D.str (Str.ofString "look"), D.str (Str.ofString "list"), D.str (Str.ofString "make"), D.str (Str.ofString "drop"), D.str (Str.ofString "link"), D.str (Str.ofString "move"), D.str (Str.ofString "swap"), D.str (Str.ofString "move"), D.str (Str.ofString "make")] = (["look", "list", "make", "drop", "link", "move", "swap", "move", "make"] : List Str).map D.str := rfl
    rw [e] at hx
    exact mem_str hx
  obtain ⟨ow, lw⟩ := words_ok w hw
  have W2 : Nms S2 f L ns := ⟨K2' _ _ W.lf W.g, W.lf, W.l2, W.l8, W.ok⟩
  simp only [gdName_eq]
  show dSeq dH2 (dSeq dH3 X) _ [some (.ref f), some t, some (.ref L), some (.str w), none, none, none, none] S2
  unfold dH2
  simp only [dSeq_eq, dAsg_eq, dCall_eq, dCons_eq, dNil_eq, dC_eq, List.append_nil, dCB_eq, dBin_eq, dTup_eq]
  refine dV_at (by rfl) ?_
  refine dV_at (by rfl) ?_
  refine dV_at (by rfl) ?_
  refine dV_at (by rfl) ?_
  refine ⟨by show 2 ≤ sizeLine; omega, ?_⟩
  rw [wIn_tup (.cl rfl) (by simp [D.cl]), wIntT_bl]
  refine ⟨f, L, t, ns, _, rfl, by split <;> decide, by split <;> decide, ht, F2, W2, fun ws S3 lws hws F3 K3 => ?_⟩
  have K3' := K2'.trans K3
  simp only [gdName_eq]
  show dSeq dH3 X _ [some (.ref f), some t, some (.ref L), some (.str w), some (.tup (ws.map D.str)), none, none, none] S3
  unfold dH3
  simp only [dSeq_eq, dIfS_eq, dTst_eq, dBin_eq, dC_eq, dTup_eq, dCons_eq, dNil_eq]
  refine dV_at (by rfl) ?_
  refine ⟨by show 3 ≤ sizeLine; omega, ?_⟩
  rw [wIn_tup (.cl rfl) (by simp [D.cl]), isB_bl]
  split
  · simp only [dRet_eq, dTup_eq, dCons_eq, dNil_eq]
    refine dV_at (by rfl) ?_
    refine dV_at (by rfl) ?_
    exact ⟨by show 2 ≤ sizeLine; omega, k _ _ (deed2 ow lw (by omega) hws) F3 K3'⟩
  · show X _ [some (.ref f), some t, some (.ref L), some (.str w), some (.tup (ws.map D.str)), none, none, none] S3
    rw [← hX]
    have W3 : Nms S3 f L ns := ⟨K3' _ _ W.lf W.g, W.lf, W.l2, W.l8, W.ok⟩
    simp only [dSeq_eq, dIfS_eq, dTst_eq, dBin_eq, dC_eq]
    refine dV_at (by rfl) ?_
    rw [wEq_str, isB_bl]
    split
    · exact dM_of ow lw lws hws F3 W3 fun d S4 hd F4 K4 => k d S4 hd F4 (K3'.trans K4)
    · exact dB_of ow lw lws hws ht F3 W3 fun d S4 hd F4 K4 => k d S4 hd F4 (K3'.trans K4)
end KG

namespace KG
open PySem PySem.Spec PyProof.Rows L2 DL KF
def OK (t : D) : Prop := Th 5 1100 2 t
def sp__law_near : DSp := fun ds S Q E => ∃ f d, ds = [.ref f, d] ∧ DeedD d ∧ Feed S f ∧ ∀ R ts S', S' R = some (.lst ts) → (∀ t ∈ ts, OK t) → bA ts ≤ 6500 → ts.length ≤ 40 → S R = none → Feed S' f → Keeps f S S' → Q (.ref R) S'
theorem len__law_near : ∀ ds S Q E, sp__law_near ds S Q E → ds.length = (["_law_feed_here", "_law_deed_here"] : List Str).length := fun _ _ _ _ ⟨_, _, e, _⟩ => by rw [e]; rfl
def r__law_near : DTS := dSeq (dAsg (dLst (dCons (dV 1) (dCons (dFrz (dCB wList (dCons (dV 1) dNil))) (dCons (dCut (dV 1) (dPart (dC (.int 1))) dNoPart) (dCons (dBin wAdd (dV 1) (dTup (dCons (dTup (dCons (dC (.str "a")) dNil)) dNil))) (dCons (dCut (dV 1) dNoPart (dPart (dUn wNeg (dC (.int 1))))) (dCons (dRev (dV 1)) (dCons (dTup (dCons (dV 1) dNil)) dNil)))))))) (gdName 2)) (dSeq (dFor (diVal (dTup (dCons (dC (.str "look")) (dCons (dC (.str "list")) (dCons (dC (.str "make")) (dCons (dC (.str "drop")) (dCons (dC (.str "link")) (dCons (dC (.str "move")) (dCons (dC (.str "swap")) (dCons (dC (.str "Look")) (dCons (dC (.str "")) (dCons (dC .non) dNil))))))))))) wIterA) (gdName 3) (dDrop (dBM "list" wAppend (dV 2) (dCons (dBin wAdd (dTup (dCons (dV 3) dNil)) (dCut (dV 1) (dPart (dC (.int 1))) dNoPart)) dNil)))) (dSeq (dAsg (dBin wAdd (dC (.int 1)) (dCall sp__law_draw [] (dCons (dV 0) (dCons (dBin wSub (dCB wLen (dCons (dV 1) dNil)) (dC (.int 1))) dNil)))) (gdName 4)) (dSeq (dAsg (dLst (dCons (dTup dNil) (dCons (dTup (dCons (dC (.str "")) dNil)) (dCons (dTup (dCons (dC (.str "a")) (dCons (dC (.int 1)) dNil))) (dCons (dFLst (dCons (dC (.str "a")) dNil)) (dCons (dC (.str "a")) (dCons (dTup (dCons (dC (.str "A")) dNil)) (dCons (dTup (dCons (dC (.str "abcdefghi")) dNil)) (dCons (dBin wMulT (dTup (dCons (dC (.str "abcdefgh")) dNil)) (dC (.int 5))) dNil))))))))) (gdName 5)) (dSeq (dFor (diVal (dBin wAdd (dV 5) (dLst (dCons (dC (.str "drawer")) (dCons (dC (.str "sheet")) (dCons (dC (.str "Sheet")) dNil))))) wIterA) (gdName 6) (dDrop (dBM "list" wAppend (dV 2) (dCons (dBin wAdd (dBin wAdd (dCut (dV 1) dNoPart (dPart (dV 4))) (dTup (dCons (dV 6) dNil))) (dCut (dV 1) (dPart (dBin wAdd (dV 4) (dC (.int 1)))) dNoPart)) dNil)))) (dRet (dBin wAdd (dV 2) (dLst (dCons (dCall sp__law_bent [] (dCons (dV 0) (dCons (dV 1) dNil))) (dCons (dCall sp__law_bent [] (dCons (dV 0) (dCons (dCall sp__law_bent [] (dCons (dV 0) (dCons (dV 1) dNil))) dNil))) dNil)))))))))
abbrev N__law_near : List Str := ["_law_feed_here", "_law_deed_here", "_law_found", "_law_word", "_law_at", "_law_odd", "_law_thing"]
def n1 : DTS := dAsg (dLst (dCons (dV 1) (dCons (dFrz (dCB wList (dCons (dV 1) dNil))) (dCons (dCut (dV 1) (dPart (dC (.int 1))) dNoPart) (dCons (dBin wAdd (dV 1) (dTup (dCons (dTup (dCons (dC (.str "a")) dNil)) dNil))) (dCons (dCut (dV 1) dNoPart (dPart (dUn wNeg (dC (.int 1))))) (dCons (dRev (dV 1)) (dCons (dTup (dCons (dV 1) dNil)) dNil)))))))) (gdName 2)
def n2b : DTS := dDrop (dBM "list" wAppend (dV 2) (dCons (dBin wAdd (dTup (dCons (dV 3) dNil)) (dCut (dV 1) (dPart (dC (.int 1))) dNoPart)) dNil))
def n2 : DTS := dFor (diVal (dTup (dCons (dC (.str "look")) (dCons (dC (.str "list")) (dCons (dC (.str "make")) (dCons (dC (.str "drop")) (dCons (dC (.str "link")) (dCons (dC (.str "move")) (dCons (dC (.str "swap")) (dCons (dC (.str "Look")) (dCons (dC (.str "")) (dCons (dC .non) dNil))))))))))) wIterA) (gdName 3) n2b
def n3 : DTS := dAsg (dBin wAdd (dC (.int 1)) (dCall sp__law_draw [] (dCons (dV 0) (dCons (dBin wSub (dCB wLen (dCons (dV 1) dNil)) (dC (.int 1))) dNil)))) (gdName 4)
def n4 : DTS := dAsg (dLst (dCons (dTup dNil) (dCons (dTup (dCons (dC (.str "")) dNil)) (dCons (dTup (dCons (dC (.str "a")) (dCons (dC (.int 1)) dNil))) (dCons (dFLst (dCons (dC (.str "a")) dNil)) (dCons (dC (.str "a")) (dCons (dTup (dCons (dC (.str "A")) dNil)) (dCons (dTup (dCons (dC (.str "abcdefghi")) dNil)) (dCons (dBin wMulT (dTup (dCons (dC (.str "abcdefgh")) dNil)) (dC (.int 5))) dNil))))))))) (gdName 5)
def n5b : DTS := dDrop (dBM "list" wAppend (dV 2) (dCons (dBin wAdd (dBin wAdd (dCut (dV 1) dNoPart (dPart (dV 4))) (dTup (dCons (dV 6) dNil))) (dCut (dV 1) (dPart (dBin wAdd (dV 4) (dC (.int 1)))) dNoPart)) dNil))
def n5 : DTS := dFor (diVal (dBin wAdd (dV 5) (dLst (dCons (dC (.str "drawer")) (dCons (dC (.str "sheet")) (dCons (dC (.str "Sheet")) dNil))))) wIterA) (gdName 6) n5b
def n6 : DTS := dRet (dBin wAdd (dV 2) (dLst (dCons (dCall sp__law_bent [] (dCons (dV 0) (dCons (dV 1) dNil))) (dCons (dCall sp__law_bent [] (dCons (dV 0) (dCons (dCall sp__law_bent [] (dCons (dV 0) (dCons (dV 1) dNil))) dNil))) dNil))))
theorem r_near_eq : r__law_near = dSeq n1 (dSeq n2 (dSeq n3 (dSeq n4 (dSeq n5 n6)))) := rfl
def tenL : List D := [.str "look", .str "list", .str "make", .str "drop", .str "link", .str "move", .str "swap", .str "Look", .str "", .non]
theorem tenL_ok : ∀ d ∈ tenL, Th 1 46 0 d := fun d hd => by
  have h1 : (tenL.all fun d => d.ok 1) = true := by decide +kernel
  have h2 : (tenL.all fun d => big 0 d) = true := by decide +kernel
  have h3 : (tenL.all fun d => decide (d.py.bulk ≤ 46)) = true := by decide +kernel
  exact ⟨List.all_eq_true.mp h1 d hd, List.all_eq_true.mp h2 d hd, of_decide_eq_true (List.all_eq_true.mp h3 d hd)⟩
def oddA : List D := [.tup [], .tup [.str ""], .tup [.str "a", .int 1], .fz [.str "a"], .str "a", .tup [.str "A"], .tup [.str "abcdefghi"], .tup (List.replicate (5 : Int).toNat [D.str "abcdefgh"]).flatten]
def oddB : List D := [.str "drawer", .str "sheet", .str "Sheet"]
theorem odd_ok : ∀ d ∈ oddA ++ oddB, Th 1 46 0 d := fun d hd => by
  have h1 : ((oddA ++ oddB).all fun d => d.ok 1) = true := by decide +kernel
  have h2 : ((oddA ++ oddB).all fun d => big 0 d) = true := by decide +kernel
  have h3 : ((oddA ++ oddB).all fun d => decide (d.py.bulk ≤ 46)) = true := by decide +kernel
  exact ⟨List.all_eq_true.mp h1 d hd, List.all_eq_true.mp h2 d hd, of_decide_eq_true (List.all_eq_true.mp h3 d hd)⟩
theorem bA_each {n : Nat} {ts : List D} (h : ∀ t ∈ ts, t.py.bulk ≤ n) : bA ts ≤ (n + 1) * ts.length := bulk_le n ts h
section
variable {S S0 : Sto} {f R : Addr} {es : List D} {x3 x4 x5 x6 : Option D} {Dn : DEnds} {ts : List D}
/-- the deed's things -/
structure DE' (es : List D) : Prop where
  l2 : 2 ≤ es.length
  l3 : es.length ≤ 3
  ok : ∀ e ∈ es, Th 1 100 0 e
  bk : bA es ≤ 100
theorem DE'.of {es : List D} (h2 : 2 ≤ es.length) (h3 : es.length ≤ 3) (T : Th 2 100 0 (.tup es)) : DE' es := by
  obtain ⟨a, b, c⟩ := T.items
  exact ⟨h2, h3, fun e he => ⟨a e he, b e he, by have := bulk_mem he; unfold bA at c; omega⟩, c⟩
theorem DE'.sub (W : DE' es) {xs ys : List D} {m : Nat} (hx : ∀ x ∈ xs, x ∈ es ∨ x ∈ ys) (hy : ∀ y ∈ ys, Th 1 100 0 y) (hb : bA xs ≤ m) : Th 2 m 0 (.tup xs) :=
  th_tup (fun e he => (hx e he).elim (fun h => ⟨_, W.ok e h⟩) fun h => ⟨_, hy e h⟩) hb
theorem cut_sub {lo hi : Option Int} : (DL.cutD es lo hi).Sublist es := (List.take_sublist _ _).trans (List.drop_sublist _ _)
theorem cut_bA {lo hi : Option Int} : bA (DL.cutD es lo hi) ≤ bA es := bA_sub cut_sub
theorem cut_len {lo hi : Option Int} : (DL.cutD es lo hi).length ≤ es.length := cut_sub.length_le
theorem nApp_of {τ : DSt} {x : D} {te : DTE} (h2 : τ[2]? = some (some (.ref R))) (g : S R = some (.lst ts)) (hl : ts.length ≤ 1000) (e : ∀ Q : KD, Q x S → te τ S Q) (k : Dn.nx τ (put S R (.lst (ts ++ [x])))) : dDrop (dBM "list" wAppend (dV 2) (dCons te dNil)) Dn τ S := by
  simp only [dDrop_eq, dBM_eq, dCons_eq, dNil_eq]
  refine dV_at h2 ?_
  refine ⟨by simp [tyD, g], e _ ?_⟩
  rw [wAppend_lst g]
  exact ⟨by rw [sizeLine_eq]; omega, k⟩
def list1 (es : List D) : List D := [.tup es, .fz es, .tup (DL.cutD es (some 1) none), .tup (es ++ [.tup [.str "a"]]), .tup (DL.cutD es none (some (-1))), .tup es.reverse, .tup [.tup es]]
theorem list1_ok (W : DE' es) : ∀ t ∈ list1 es, Th 5 103 0 t := by
  have b := W.bk
  have hT : Th 2 100 0 (.tup es) := W.sub (ys := []) (fun x hx => .inl hx) (by simp) b
  intro t ht
  simp only [list1, List.mem_cons, List.not_mem_nil, or_false] at ht
  rcases ht with rfl | rfl | rfl | rfl | rfl | rfl | rfl
  · exact hT.up (by decide) (by decide) (by decide)
  · obtain ⟨a, b, c⟩ := hT.items
    exact (Th.fz a b c).up (by decide) (by decide) (by decide)
  · exact (W.sub (ys := []) (m := 100) (fun x hx => .inl (cut_sub.subset hx)) (by simp) (Nat.le_trans cut_bA b)).up (by decide) (by decide) (by decide)
  · refine (W.sub (ys := [.tup [.str "a"]]) (m := 103) (fun x hx => by simpa using hx) (fun y hy => ?_) ?_).up (by decide) (by decide) (by decide)
    · rw [List.mem_singleton.mp hy]
      exact ⟨by decide +kernel, by decide +kernel, by decide +kernel⟩
    · rw [bA_app]
      have : bA [D.tup [D.str (Str.ofString "a")]] ≤ 3 := by decide +kernel
      omega
  · exact (W.sub (ys := []) (m := 100) (fun x hx => .inl (cut_sub.subset hx)) (by simp) (Nat.le_trans cut_bA b)).up (by decide) (by decide) (by decide)
  · exact (W.sub (ys := []) (m := 100) (fun x hx => .inl (List.mem_reverse.mp hx)) (by simp) (by rw [bA_rev]; exact b)).up (by decide) (by decide) (by decide)
  · exact (th_tup (n := 2) (m := 101) (c := 0) (fun e he => by rw [List.mem_singleton.mp he]; exact ⟨_, hT⟩) (by simp; omega)).up (by decide) (by decide) (by decide)
theorem n1_of (W : DE' es) {x2 : Option D} (k : ∀ R, S R = none → Dn.nx [some (.ref f), some (.tup es), some (.ref R), x3, x4, x5, x6] (put S R (.lst (list1 es)))) : n1 Dn [some (.ref f), some (.tup es), x2, x3, x4, x5, x6] S := by
  have sz : 1001 < sizeLine := by rw [sizeLine_eq]; decide
  have l3 := W.l3
  unfold n1
  simp only [dAsg_eq, dLst_eq, dCons_eq, dNil_eq, dFrz_eq, dCB_eq, dCut_eq, dPart_eq, dNoPart_eq, dC_eq, isI_int, dBin_eq, dTup_eq, dUn_eq, wNeg_int, dRev_eq]
  refine dV_at (by rfl) ?_
  refine dV_at (by rfl) ?_
  rw [wList_tup]
  intro p hp
  rw [frzK_ref, onL_put, del_put hp]
  refine dV_at (by rfl) ?_
  rw [wCut_tup]
  refine dV_at (by rfl) ?_
  refine ⟨by show 1 ≤ sizeLine; omega, by show 1 ≤ sizeLine; omega, ?_⟩
  rw [wAdd_tup]
  refine ⟨by show es.length + 1 ≤ sizeLine; omega, ?_⟩
  refine dV_at (by rfl) ?_
  rw [wCut_tup]
  refine dV_at (by rfl) ?_
  simp only
  refine dV_at (by rfl) ?_
  refine ⟨by show 1 ≤ sizeLine; omega, by show 7 ≤ sizeLine; omega, fun R hR => ?_⟩
  exact k R hR
theorem n2_of (W : DE' es) (g : S R = some (.lst ts)) (hl : ts.length ≤ 100) (hts : ∀ t ∈ ts, Th 5 250 0 t)
    (k : ∀ us x3 S', S' R = some (.lst us) → (∀ t ∈ us, Th 5 250 0 t) → us.length = ts.length + 10 → bA us ≤ bA ts + 1500 → (∀ b, b ≠ R → S' b = S b) → Dn.nx [some (.ref f), some (.tup es), some (.ref R), x3, x4, x5, x6] S') :
    n2 Dn [some (.ref f), some (.tup es), some (.ref R), x3, x4, x5, x6] S := by
  have sz : 1001 < sizeLine := by rw [sizeLine_eq]; decide
  have l3 := W.l3
  unfold n2
  generalize hB : n2b = B
  simp only [dFor_eq, diVal_eq, dTup_eq, dCons_eq, dNil_eq, dC_eq]
  refine ⟨by show 10 ≤ sizeLine; omega, ?_⟩
  rw [wIter_tup]
  show loopF _ B Dn _ tenL _ S
  have lt : tenL.length = 10 := rfl
  refine loop_of (fun done τ S' => ∃ us x3, S' R = some (.lst us) ∧ (∀ t ∈ us, Th 5 250 0 t) ∧ us.length = ts.length + done.length ∧ bA us ≤ bA ts + 150 * done.length ∧ (∀ b, b ≠ R → S' b = S b) ∧ τ = [some (.ref f), some (.tup es), some (.ref R), x3, x4, x5, x6]) (fun _ _ _ _ => trivial) (fun τ S' h => ?_) (fun done d rest τ S' he h N hN => ?_) ⟨ts, _, g, hts, rfl, by simp, fun _ _ => rfl, rfl⟩
  · obtain ⟨us, x3, g', h1, h2, h3, h4, rfl⟩ := h
    rw [lt] at h2 h3
    exact k us _ S' g' h1 h2 (by omega) h4
  · obtain ⟨us, x3, g', h1, h2, h3, h4, rfl⟩ := h
    have hd : done.length < 10 := by have := congrArg List.length he; simp [lt] at this; omega
    have dk := tenL_ok d (by rw [he]; simp)
    rw [← hB]
    show n2b _ [some (.ref f), some (.tup es), some (.ref R), some d, x4, x5, x6] S'
    unfold n2b
    have bc := cut_bA (es := es) (lo := some 1) (hi := none)
    have bb := W.bk
    have db := dk.bk
    refine nApp_of (x := .tup ([d] ++ DL.cutD es (some 1) none)) (by rfl) g' (by omega) (fun Q q => ?_) (hN _ _ ⟨us ++ [.tup ([d] ++ DL.cutD es (some 1) none)], _, put_same, fun t ht => ?_, by rw [List.length_append, List.length_append, h2]; simp; omega, ?_, fun b hb => by rw [put_ne hb]; exact h4 b hb, rfl⟩)
    · simp only [dBin_eq, dTup_eq, dCons_eq, dNil_eq, dCut_eq, dPart_eq, dNoPart_eq, dC_eq, isI_int]
      refine dV_at (by rfl) ?_
      refine ⟨by show 1 ≤ sizeLine; omega, ?_⟩
      refine dV_at (by rfl) ?_
      rw [wCut_tup, wAdd_tup]
      refine ⟨by have := cut_len (es := es) (lo := some 1) (hi := none); show 1 + _ ≤ sizeLine; omega, q⟩
    · rcases List.mem_append.mp ht with ht | ht
      · exact h1 t ht
      · rw [List.mem_singleton.mp ht]
        refine (W.sub (ys := [d]) (m := 147) (fun x hx => ?_) (fun y hy => by rw [List.mem_singleton.mp hy]; exact dk.up (by decide) (by decide) (by decide)) ?_).up (by decide) (by decide) (by decide)
        · rcases List.mem_append.mp hx with hx | hx
          · exact .inr hx
          · exact .inl (cut_sub.subset hx)
        · rw [bA_app, bA_cons, bA_nil]; omega
    · simp only [bA_app, bA_cons, bA_nil, bulk_tup, List.length_append, List.length_singleton]
      omega
theorem n5_of (W : DE' es) {at' : Int} {O : Addr} (gO : S O = some (.lst oddA)) (OR : O ≠ R) (g : S R = some (.lst ts)) (hl : ts.length ≤ 100) (hts : ∀ t ∈ ts, Th 5 250 0 t)
    (k : ∀ us x6 S', S' R = some (.lst us) → (∀ t ∈ us, Th 5 250 0 t) → us.length = ts.length + 11 → bA us ≤ bA ts + 11 * 250 → (∀ b o, b ≠ R → S b = some o → S' b = some o) → Dn.nx [some (.ref f), some (.tup es), some (.ref R), x3, some (.int at'), some (.ref O), x6] S') :
    n5 Dn [some (.ref f), some (.tup es), some (.ref R), x3, some (.int at'), some (.ref O), x6] S := by
  have sz : 1001 < sizeLine := by rw [sizeLine_eq]; decide
  have l3 := W.l3
  unfold n5
  generalize hB : n5b = B
  simp only [dFor_eq, diVal_eq, dBin_eq, dLst_eq, dCons_eq, dNil_eq, dC_eq]
  refine dV_at (by rfl) ?_
  refine ⟨by show 3 ≤ sizeLine; omega, fun p hp => ?_⟩
  have Op : O ≠ p := ne_of_free hp gO
  have Rp : R ≠ p := ne_of_free hp g
  rw [wAdd_ref, onL_eq (by rw [put_ne Op]; exact gO), onL_eq put_same]
  refine ⟨by show 11 ≤ sizeLine; omega, fun G hG => ?_⟩
  have RG : R ≠ G := ne_of_free hG (by rw [put_ne Rp]; exact g)
  rw [wIter_lst put_same]
  show loopF _ B Dn _ (oddA ++ oddB) _ _
  have lt : (oddA ++ oddB).length = 11 := rfl
  have hG' : ∀ b o, S b = some o → b ≠ R → put (put S p (.lst oddB)) G (.lst (oddA ++ oddB)) b = some o := fun b o hb hbR => by
    have b1 : b ≠ p := ne_of_free hp hb
    have b2 : b ≠ G := ne_of_free hG (by rw [put_ne b1]; exact hb)
    rw [put_ne b2, put_ne b1]; exact hb
  refine loop_of (fun done τ S' => ∃ us x6, S' R = some (.lst us) ∧ (∀ t ∈ us, Th 5 250 0 t) ∧ us.length = ts.length + done.length ∧ bA us ≤ bA ts + 250 * done.length ∧ (∀ b o, b ≠ R → S b = some o → S' b = some o) ∧ S' G = some (.lst (oddA ++ oddB)) ∧ τ = [some (.ref f), some (.tup es), some (.ref R), x3, some (.int at'), some (.ref O), x6]) (fun _ _ _ ⟨_, _, _, _, _, _, _, h, _⟩ => h) (fun τ S' h => ?_) (fun done d rest τ S' he h N hN => ?_) ⟨ts, _, by rw [put_ne RG, put_ne Rp]; exact g, hts, rfl, by simp, fun b o hb hS => hG' b o hS hb, put_same, rfl⟩
  · obtain ⟨us, x6, g', h1, h2, h3, h4, _, rfl⟩ := h
    rw [lt] at h2 h3
    exact k us _ S' g' h1 h2 (by omega) h4
  · obtain ⟨us, x6, g', h1, h2, h3, h4, h5, rfl⟩ := h
    have hd : done.length < 11 := by have := congrArg List.length he; rw [lt] at this; simp at this; omega
    have dk := odd_ok d (by rw [he]; simp)
    rw [← hB]
    show n5b _ [some (.ref f), some (.tup es), some (.ref R), x3, some (.int at'), some (.ref O), some d] S'
    unfold n5b
    have bc := cut_bA (es := es) (lo := none) (hi := some at')
    have bc2 := cut_bA (es := es) (lo := some (at' + 1)) (hi := none)
    have lc1 := cut_len (es := es) (lo := none) (hi := some at')
    have lc2 := cut_len (es := es) (lo := some (at' + 1)) (hi := none)
    have bb := W.bk
    have db := dk.bk
    refine nApp_of (x := .tup (DL.cutD es none (some at') ++ [d] ++ DL.cutD es (some (at' + 1)) none)) (by rfl) g' (by omega) (fun Q q => ?_) (hN _ _ ⟨us ++ [.tup (DL.cutD es none (some at') ++ [d] ++ DL.cutD es (some (at' + 1)) none)], _, put_same, fun t ht => ?_, by rw [List.length_append, List.length_append, h2]; simp; omega, ?_, fun b o hb hS => by rw [put_ne hb]; exact h4 b o hb hS, by rw [put_ne (Ne.symm RG)]; exact h5, rfl⟩)
    · simp only [dBin_eq, dTup_eq, dCons_eq, dNil_eq, dCut_eq, dPart_eq, dNoPart_eq, dC_eq, isI_int]
      refine dV_at (by rfl) ?_
      refine dV_at (by rfl) ?_
      rw [isI_int, wCut_tup]
      refine dV_at (by rfl) ?_
      refine ⟨by show 1 ≤ sizeLine; omega, ?_⟩
      rw [wAdd_tup]
      refine ⟨by show _ + 1 ≤ sizeLine; omega, ?_⟩
      refine dV_at (by rfl) ?_
      refine dV_at (by rfl) ?_
      rw [wAdd_int, isI_int, wCut_tup, wAdd_tup]
      refine ⟨by rw [List.length_append, List.length_singleton]; omega, q⟩
    · rcases List.mem_append.mp ht with ht | ht
      · exact h1 t ht
      · rw [List.mem_singleton.mp ht]
        refine (W.sub (ys := [d]) (m := 247) (fun x hx => ?_) (fun y hy => by rw [List.mem_singleton.mp hy]; exact dk.up (by decide) (by decide) (by decide)) ?_).up (by decide) (by decide) (by decide)
        · rcases List.mem_append.mp hx with hx | hx
          · rcases List.mem_append.mp hx with hx | hx
            · exact .inl (cut_sub.subset hx)
            · exact .inr hx
          · exact .inl (cut_sub.subset hx)
        · rw [bA_app, bA_app, bA_cons, bA_nil]; omega
    · simp only [bA_app, bA_cons, bA_nil, bulk_tup, List.length_append, List.length_singleton]
      omega
end
end KG

namespace KG
open PySem PySem.Spec PyProof.Rows L2 DL KF
theorem n3_of {S : Sto} {f R : Addr} {es : List D} {x3 x4 x5 x6 : Option D} {Dn : DEnds} (W : DE' es) (F : Feed S f) (k : ∀ (i : Int) S', Feed S' f → Keeps f S S' → Dn.nx [some (.ref f), some (.tup es), some (.ref R), x3, some (.int i), x5, x6] S') :
    n3 Dn [some (.ref f), some (.tup es), some (.ref R), x3, x4, x5, x6] S := by
  have l2 := W.l2; have l3 := W.l3
  unfold n3
  simp only [dAsg_eq, dBin_eq, dC_eq, dCall_eq, dCons_eq, dNil_eq, dCB_eq, List.append_nil]
  refine dV_at (by rfl) ?_
  refine dV_at (by rfl) ?_
  rw [wLen_tup]
  simp only [wI0_int]
  refine ⟨f, _, rfl, by omega, by omega, F, fun r S1 r0 r1 F1 K1 => ?_⟩
  exact k _ S1 F1 K1
theorem n4_of {S : Sto} {f R : Addr} {es : List D} {x3 x4 x5 x6 : Option D} {Dn : DEnds} (k : ∀ O, S O = none → Dn.nx [some (.ref f), some (.tup es), some (.ref R), x3, x4, some (.ref O), x6] (put S O (.lst oddA))) :
    n4 Dn [some (.ref f), some (.tup es), some (.ref R), x3, x4, x5, x6] S := by
  have sz : 1001 < sizeLine := by rw [sizeLine_eq]; decide
  unfold n4
  simp only [dAsg_eq, dLst_eq, dTup_eq, dFLst_eq, dCons_eq, dNil_eq, dC_eq, dBin_eq]
  refine ⟨by show 0 ≤ sizeLine; omega, by show 1 ≤ sizeLine; omega, by show 2 ≤ sizeLine; omega, by show 1 ≤ sizeLine; omega, by show 1 ≤ sizeLine; omega, by show 1 ≤ sizeLine; omega, by show 1 ≤ sizeLine; omega, ?_⟩
  rw [wMulT_tup]
  refine ⟨by simp, by decide, by decide, by decide, by show 8 ≤ sizeLine; omega, fun O hO => ?_⟩
  exact k O hO
theorem n6_of {S : Sto} {f R : Addr} {es us : List D} {x3 x4 x5 x6 : Option D} {Dn : DEnds} (T : Th 2 100 0 (.tup es)) (F : Feed S f) (g : S R = some (.lst us)) (hl : us.length ≤ 100) (k : ∀ b1 b2 p S', OK b1 → OK b2 → b1.py.bulk ≤ 410 → b2.py.bulk ≤ 1030 → Feed S' f → Keeps f S S' → S p = none → S' p = some (.lst (us ++ [b1, b2])) → Dn.rt (.ref p) S') :
    n6 Dn [some (.ref f), some (.tup es), some (.ref R), x3, x4, x5, x6] S := by
  have sz : 1001 < sizeLine := by rw [sizeLine_eq]; decide
  have Rf : R ≠ f := fun z => by obtain ⟨_, _, _, _, e⟩ := F; rw [← z, g] at e; cases e
  unfold n6
  simp only [dRet_eq, dBin_eq, dLst_eq, dCons_eq, dNil_eq, dCall_eq, List.append_nil]
  refine dV_at (by rfl) ?_
  refine dV_at (by rfl) ?_
  refine dV_at (by rfl) ?_
  refine ⟨f, .tup es, 100, 0, 2, rfl, by decide, by decide, T, by decide, by decide, F, fun b1 S1 T1 F1 K1 => ?_⟩
  refine dV_at (by rfl) ?_
  refine dV_at (by rfl) ?_
  refine dV_at (by rfl) ?_
  refine ⟨f, .tup es, 100, 0, 2, rfl, by decide, by decide, T, by decide, by decide, F1, fun b0 S2 T2 F2 K2 => ?_⟩
  refine ⟨f, b0, 410, 1, 3, rfl, by decide, by decide, T2, by decide, by decide, F2, fun b2 S3 T3 F3 K3 => ?_⟩
  refine ⟨by show 2 ≤ sizeLine; omega, fun p hp => ?_⟩
  have KS := (K1.trans K2).trans K3
  have g3 := KS _ _ Rf g
  have Rp : R ≠ p := ne_of_free hp g3
  rw [wAdd_ref, onL_eq (by rw [put_ne Rp]; exact g3), onL_eq put_same]
  refine ⟨by show us.length + 2 ≤ sizeLine; omega, fun q hq => ?_⟩
  have qp : q ≠ p := fun z => by rw [z, put_same] at hq; cases hq
  have hq3 : S3 q = none := by rw [put_ne qp] at hq; exact hq
  exact k b1 b2 q _ (T1.up (by decide) (by decide) (by decide)) (T3.up (by decide) (by decide) (by decide)) T1.bk T3.bk ((F3.new hp).new hq) ((KS.then (F3.freeT KS hp)).then (F3.freeT KS hq3)) (F3.freeT KS hq3) put_same
theorem vc__law_near {ds S Q E} (h : sp__law_near ds S Q E) : r__law_near (bodyEnds Q) (startD N__law_near ds) S := by
  obtain ⟨f, d, rfl, ⟨es, rfl, l2, l3, T⟩, F, k⟩ := h
  have W : DE' es := .of l2 l3 T
  rw [r_near_eq]
  show dSeq _ _ _ [some (.ref f), some (.tup es), none, none, none, none, none] S
  refine n1_of W fun R hR => ?_
  have F1 := F.new (o := .lst (list1 es)) hR
  have Rf := F.nt hR
  have K1 : Keeps f S (put S R (.lst (list1 es))) := Keeps.new hR
  have b1 : bA (list1 es) ≤ 104 * 7 := bA_each fun t ht => (list1_ok W t ht).bk
  refine n2_of W put_same (by show 7 ≤ 100; decide) (fun t ht => (list1_ok W t ht).up (by decide) (by decide) (by decide)) fun us x3 S2 g2 h2 ln2 b2 st2 => ?_
  have ln2' : us.length = 17 := ln2
  have F2 : Feed S2 f := by
    obtain ⟨xs, a, b, n, e⟩ := F1
    exact ⟨xs, a, b, n, by rw [st2 f (Ne.symm Rf)]; exact e⟩
  have K2 : Keeps f S S2 := fun b o hb hs => by
    have bR : b ≠ R := ne_of_free hR hs
    rw [st2 b bR]; exact K1 b o hb hs
  refine n3_of W F2 fun i S3 F3 K3 => ?_
  refine n4_of fun O hO => ?_
  have g3 := K3 _ _ Rf g2
  have OR : O ≠ R := fun z => by rw [z, g3] at hO; cases hO
  have K4 : Keeps f S (put S3 O (.lst oddA)) := (K2.trans K3).then (F3.freeT (K2.trans K3) hO)
  refine n5_of W put_same OR (by rw [put_ne (Ne.symm OR)]; exact g3) (by omega) h2 fun vs x6 S5 g5 h5 ln5 b5 st5 => ?_
  have F5 : Feed S5 f := by
    obtain ⟨xs, a, b, n, e⟩ := F3.new (o := .lst oddA) hO
    exact ⟨xs, a, b, n, st5 f _ (Ne.symm Rf) e⟩
  have K5 : Keeps f S S5 := fun b o hb hs => st5 b o (ne_of_free hR hs) (K4 b o hb hs)
  refine n6_of T F5 g5 (by omega) fun c1 c2 p S6 o1 o2 d1 d2 F6 K6 hp g6 => ?_
  refine k p _ S6 g6 (fun t ht => ?_) ?_ ?_ (F5.freeT K5 hp) F6 (K5.trans K6)
  · rcases List.mem_append.mp ht with ht | ht
    · exact (h5 t ht).up (by decide) (by decide) (by decide)
    · simp only [List.mem_cons, List.not_mem_nil, or_false] at ht
      rcases ht with rfl | rfl
      · exact o1
      · exact o2
  · rw [bA_app, bA_cons, bA_cons, bA_nil]; omega
  · rw [List.length_append]; show vs.length + 2 ≤ 40; omega
/-! ### the law -/
def sp_law : DSp := fun ds S Q E => ∃ ns : List Int, ds = [.fz (ns.map D.int)] ∧ ∀ S', Q (.bl true) S'
theorem len_law : ∀ ds S Q E, sp_law ds S Q E → ds.length = (["_law_script"] : List Str).length := fun _ _ _ _ ⟨_, e, _⟩ => by rw [e]; rfl
def r_law : DTS := dSeq (dAsg (dCall sp__law_feed [] (dCons (dV 0) dNil)) (gdName 1)) (dSeq (dAsg (dCall sp__law_names [] (dCons (dV 1) dNil)) (gdName 2)) (dSeq (dAsg (dCall sp__law_tree [] (dCons (dV 1) (dCons (dV 2) (dCons (dCall sp__law_draw [] (dCons (dV 1) (dCons (dC (.int 14)) dNil))) dNil)))) (gdName 3)) (dSeq (dAsg (dLst (dCons (dC .non) (dCons (dTup dNil) (dCons (dC (.int 0)) (dCons (dC (.str "look")) (dCons (dTup (dCons (dC (.str "look")) dNil)) (dCons (dTup (dCons (dC (.str "make")) (dCons (dTup (dCons (dC (.str "a")) dNil)) (dCons (dC .non) dNil)))) (dCons (dTup (dCons (dC (.str "make")) (dCons (dTup (dCons (dC (.str "a")) dNil)) (dCons (dC (.bl true)) dNil)))) dNil)))))))) (gdName 4)) (dSeq (dDrop (dBM "list" wAppend (dV 4) (dCons (dTup (dCons (dC (.str "move")) (dCons (dTup (dCons (dC (.str "a")) dNil)) (dCons (dTup (dCons (dC (.str "b")) dNil)) dNil)))) dNil))) (dSeq (dFor (diRng1 (dCons (dC (.int 10)) dNil)) (gdName 5) (dDrop (dBM "list" wExtend (dV 4) (dCons (dCall sp__law_near [] (dCons (dV 1) (dCons (dCall sp__law_deed [] (dCons (dV 1) (dCons (dV 3) (dCons (dV 2) dNil)))) dNil))) dNil)))) (dSeq (dAsg (dCB wReprA (dCons (dV 4) dNil)) (gdName 6)) (dSeq (dFor (diVal (dV 4) wIterA) (gdName 7) (dIfS (dTst (dBin wNe (dCB wReprA (dCons (dCall (pur sp_is_deed) [] (dCons (dV 7) dNil)) dNil)) (dCB wReprA (dCons (dCall (pur sp__law_due) [] (dCons (dV 7) dNil)) dNil)))) (dRet (dC (.bl false))) dNext)) (dRet (dBin wEq (dCB wReprA (dCons (dV 4) dNil)) (dV 6))))))))))
abbrev N_law : List Str := ["_law_script", "_law_feed_here", "_law_names_here", "_law_tree_here", "_law_things", "_law_k", "_law_before", "_law_thing"]
theorem wReprA_lst {S : Sto} {Q : KD} {T : Addr} {ts : List D} (g : S T = some (.lst ts)) (h : ∀ t ∈ ts, OK t) (hb : bA ts ≤ 79000) : wReprA [.ref T] S Q = Q (.str (D.fz ts).py.shown) S := by
  have hall : D.oks ts 30 = true := by rw [oks_all, List.all_eq_true]; exact fun t ht => D_ok_up (h t ht).ok (by decide)
  have e1 : rd 6 S (.ref T) = .fz ts := by
    show (match S T with | some (.lst ds) => D.fz (ds.map (rd 5 S)) | _ => .ref T) = _
    rw [g]
    show D.fz (ts.map (rd 5 S)) = _
    rw [rds_ok ts 30 5 S hall]
  have o1 : (D.fz ts).ok 40 = true := by rw [D.ok]; exact oks_upm hall (by decide)
  have bg : big 100 (.fz ts) = true := by rw [big, bigs_iff]; exact fun t ht => big_up (by decide) (h t ht).bg
  obtain ⟨a, b⟩ := shown_fits bg (by rw [bulk_fz]; exact hb)
  unfold wReprA
  simp only [e1, o1, a, b, true_and]
theorem wReprA_bl {S : Sto} {Q : KD} {b : Bool} : wReprA [.bl b] S Q = Q (.str (PyData.bool b).shown) S := by
  rw [wReprA_ok (by rfl) (by simp [D.py, PyData.showable]) (by cases b <;> (rw [sizeLine_eq]; decide +kernel))]
  rfl
def l1 : DTS := dAsg (dCall sp__law_feed [] (dCons (dV 0) dNil)) (gdName 1)
def l2 : DTS := dAsg (dCall sp__law_names [] (dCons (dV 1) dNil)) (gdName 2)
def l3 : DTS := dAsg (dCall sp__law_tree [] (dCons (dV 1) (dCons (dV 2) (dCons (dCall sp__law_draw [] (dCons (dV 1) (dCons (dC (.int 14)) dNil))) dNil)))) (gdName 3)
def l4 : DTS := dAsg (dLst (dCons (dC .non) (dCons (dTup dNil) (dCons (dC (.int 0)) (dCons (dC (.str "look")) (dCons (dTup (dCons (dC (.str "look")) dNil)) (dCons (dTup (dCons (dC (.str "make")) (dCons (dTup (dCons (dC (.str "a")) dNil)) (dCons (dC .non) dNil)))) (dCons (dTup (dCons (dC (.str "make")) (dCons (dTup (dCons (dC (.str "a")) dNil)) (dCons (dC (.bl true)) dNil)))) dNil)))))))) (gdName 4)
def l5 : DTS := dDrop (dBM "list" wAppend (dV 4) (dCons (dTup (dCons (dC (.str "move")) (dCons (dTup (dCons (dC (.str "a")) dNil)) (dCons (dTup (dCons (dC (.str "b")) dNil)) dNil)))) dNil))
def l6b : DTS := dDrop (dBM "list" wExtend (dV 4) (dCons (dCall sp__law_near [] (dCons (dV 1) (dCons (dCall sp__law_deed [] (dCons (dV 1) (dCons (dV 3) (dCons (dV 2) dNil)))) dNil))) dNil))
def l6 : DTS := dFor (diRng1 (dCons (dC (.int 10)) dNil)) (gdName 5) l6b
def l7 : DTS := dAsg (dCB wReprA (dCons (dV 4) dNil)) (gdName 6)
def l8b : DTS := dIfS (dTst (dBin wNe (dCB wReprA (dCons (dCall (pur sp_is_deed) [] (dCons (dV 7) dNil)) dNil)) (dCB wReprA (dCons (dCall (pur sp__law_due) [] (dCons (dV 7) dNil)) dNil)))) (dRet (dC (.bl false))) dNext
def l8 : DTS := dFor (diVal (dV 4) wIterA) (gdName 7) l8b
def l9 : DTS := dRet (dBin wEq (dCB wReprA (dCons (dV 4) dNil)) (dV 6))
theorem r_law_eq : r_law = dSeq l1 (dSeq l2 (dSeq l3 (dSeq l4 (dSeq l5 (dSeq l6 (dSeq l7 (dSeq l8 l9))))))) := rfl
def fst7 : List D := [.non, .tup [], .int 0, .str "look", .tup [.str "look"], .tup [.str "make", .tup [.str "a"], .non], .tup [.str "make", .tup [.str "a"], .bl true]]
def fst8 : List D := fst7 ++ [.tup [.str "move", .tup [.str "a"], .tup [.str "b"]]]
theorem fst8_ok : ∀ d ∈ fst8, Th 5 20 0 d := fun d hd => by
  have h1 : (fst8.all fun d => d.ok 5) = true := by decide +kernel
  have h2 : (fst8.all fun d => big 0 d) = true := by decide +kernel
  have h3 : (fst8.all fun d => decide (d.py.bulk ≤ 20)) = true := by decide +kernel
  exact ⟨List.all_eq_true.mp h1 d hd, List.all_eq_true.mp h2 d hd, of_decide_eq_true (List.all_eq_true.mp h3 d hd)⟩
theorem vc_law {ds S Q E} (h : sp_law ds S Q E) : r_law (bodyEnds Q) (startD N_law ds) S := by
  obtain ⟨ns, rfl, k⟩ := h
  have sz : 1001 < sizeLine := by rw [sizeLine_eq]; decide
  have hns : ∃ X : D, X = .fz (ns.map D.int) := ⟨_, rfl⟩
  rw [r_law_eq]
  show dSeq _ _ _ [some (.fz (ns.map D.int)), none, none, none, none, none, none, none] S
  generalize hX2 : dSeq l4 (dSeq l5 (dSeq l6 (dSeq l7 (dSeq l8 l9)))) = X2
  unfold l1 l2 l3
  simp only [dSeq_eq, dAsg_eq, dCall_eq, dCons_eq, dNil_eq, List.append_nil]
  refine dV_at (by rfl) ?_
  refine ⟨ns, rfl, fun f S1 F1 hf0 gr1 => ?_⟩
  simp only [gdName_eq, dSeq_eq, dAsg_eq, dCall_eq, dCons_eq, dNil_eq, List.append_nil]
  refine dV_at (by rfl) ?_
  refine ⟨f, rfl, F1, fun L nm S2 gL hL0 n2 n8 hnm F2 K2 => ?_⟩
  have Lf : L ≠ f := F1.nt hL0
  have W : Nms S2 f L nm := ⟨gL, Lf, n2, n8, hnm⟩
  simp only [gdName_eq, dSeq_eq, dAsg_eq, dCall_eq, dCons_eq, dNil_eq, List.append_nil]
  refine dV_at (by rfl) ?_
  refine dV_at (by rfl) ?_
  refine dV_at (by rfl) ?_
  simp only [dC_eq]
  refine ⟨f, 14, rfl, by decide, by decide, F2, fun m S3 m0 m1 F3 K3 => ?_⟩
  refine ⟨f, L, nm, m, rfl, m0, by omega, F3, ⟨K3 _ _ Lf gL, Lf, n2, n8, hnm⟩, fun t S4 ht F4 K4 => ?_⟩
  have gL4 := K4 _ _ Lf (K3 _ _ Lf gL)
  have W4 : Nms S4 f L nm := ⟨gL4, Lf, n2, n8, hnm⟩
  show X2 _ [some (.fz (ns.map D.int)), some (.ref f), some (.ref L), some t, none, none, none, none] S4
  rw [← hX2]
  generalize hX3 : dSeq l6 (dSeq l7 (dSeq l8 l9)) = X3
  unfold l4 l5
  simp only [dSeq_eq, dAsg_eq, dLst_eq, dTup_eq, dCons_eq, dNil_eq, dC_eq]
  refine ⟨by show 0 ≤ sizeLine; omega, by show 1 ≤ sizeLine; omega, by show 1 ≤ sizeLine; omega, by show 3 ≤ sizeLine; omega, by show 1 ≤ sizeLine; omega, by show 3 ≤ sizeLine; omega, by show 7 ≤ sizeLine; omega, fun T hT => ?_⟩
  have Tf := F4.nt hT
  have TL : L ≠ T := ne_of_free hT gL4
  simp only [gdName_eq, dDrop_eq, dBM_eq, dCons_eq, dNil_eq, dTup_eq, dC_eq, dSeq_eq]
  refine dV_at (by rfl) ?_
  refine ⟨by simp [tyD, put_same], by show 1 ≤ sizeLine; omega, by show 1 ≤ sizeLine; omega, by show 3 ≤ sizeLine; omega, ?_⟩
  rw [wAppend_lst put_same, put_put']
  refine ⟨by show 7 < sizeLine; omega, ?_⟩
  show X3 _ [some (.fz (ns.map D.int)), some (.ref f), some (.ref L), some t, some (.ref T), none, none, none] (put S4 T (.lst fst8))
  rw [← hX3]
  have F5 : Feed (put S4 T (.lst fst8)) f := F4.new hT
  have gT5 : put S4 T (.lst fst8) T = some (.lst fst8) := put_same
  have gL5 : put S4 T (.lst fst8) L = some (.lst (nm.map D.str)) := by rw [put_ne TL]; exact gL4
  have b5 : bA fst8 ≤ 21 * 8 := bA_each fun d hd => (fst8_ok d hd).bk
  generalize put S4 T (.lst fst8) = S5 at *
  unfold l6
  generalize hX4 : dSeq l7 (dSeq l8 l9) = X4
  generalize hB : l6b = B
  simp only [dSeq_eq, dFor_eq, diRng1_eq, dCons_eq, dNil_eq, dC_eq]
  refine ⟨by decide, by decide, ?_⟩
  rw [rngD_map]
  refine loop_map (fun i : Nat => D.int (i : Int)) (fun done τ S' => ∃ (ts : List D) (x5 : Option D), S' T = some (.lst ts) ∧ S' L = some (.lst (nm.map D.str)) ∧ Feed S' f ∧ (∀ d ∈ ts, OK d) ∧ bA ts ≤ 200 + 6500 * done.length ∧ ts.length ≤ 8 + 40 * done.length ∧ τ = [some (.fz (ns.map D.int)), some (.ref f), some (.ref L), some t, some (.ref T), x5, none, none])
    (fun _ _ _ _ => trivial) (fun τ S' h => ?_) (fun done i rest τ S' es h N hN => ?_) ⟨fst8, _, gT5, gL5, F5, fun d hd => (fst8_ok d hd).up (by decide) (by decide) (by decide), by omega, by show 8 ≤ 8 + 40 * 0; decide, rfl⟩
  · obtain ⟨ts, x5, g, gL', F', hok, hb, hl, rfl⟩ := h
    rw [List.length_range] at hb hl
    have hb' : bA ts ≤ 79000 := Nat.le_trans hb (by decide)
    show X4 _ [some (.fz (ns.map D.int)), some (.ref f), some (.ref L), some t, some (.ref T), x5, none, none] S'
    rw [← hX4]
    unfold l7 l8 l9
    generalize hC : l8b = C
    simp only [dSeq_eq, dAsg_eq, dCB_eq, dCons_eq, dNil_eq]
    refine dV_at (by rfl) ?_
    rw [wReprA_lst g hok hb']
    simp only [gdName_eq, dSeq_eq, dFor_eq, diVal_eq]
    refine dV_at (by rfl) ?_
    rw [wIter_lst g]
    refine loop_of (fun done τ S2 => S2 = S' ∧ ∃ x7, τ = [some (.fz (ns.map D.int)), some (.ref f), some (.ref L), some t, some (.ref T), x5, some (.str (D.fz ts).py.shown), x7])
      (fun _ _ _ h => by rw [h.1]; exact g) (fun τ S2 h => ?_) (fun done d rest τ S2 es h N hN => ?_) ⟨rfl, _, rfl⟩
    · obtain ⟨rfl, x7, rfl⟩ := h
      simp only [dRet_eq, dBin_eq, dCB_eq, dCons_eq, dNil_eq]
      refine dV_at (by rfl) ?_
      rw [wReprA_lst g hok hb']
      refine dV_at (by rfl) ?_
      rw [wEq_str, decide_eq_true rfl]
      exact k _
    · obtain ⟨rfl, x7, rfl⟩ := h
      have hd := hok d (by rw [es]; simp)
      have bd := hd.bk
      rw [← hC]
      show l8b _ [some (.fz (ns.map D.int)), some (.ref f), some (.ref L), some t, some (.ref T), x5, some (.str (D.fz ts).py.shown), some d] S2
      unfold l8b
      simp only [dIfS_eq, dTst_eq, dBin_eq, dCB_eq, dCons_eq, dNil_eq, dCall_eq, List.append_nil]
      refine dV_at (by rfl) ?_
      refine ⟨d, rfl, D_ok_up hd.ok (by decide), by omega, fun _ => ?_⟩
      simp only [wReprA_bl]
      refine dV_at (by rfl) ?_
      refine ⟨d, rfl, D_ok_up hd.ok (by decide), big_up (by decide) hd.bg, by omega, fun _ => ?_⟩
      simp only [wReprA_bl, wNe_str, decide_true, isB_bl]
      rw [if_neg (by decide)]
      exact hN _ _ ⟨rfl, _, rfl⟩
  · obtain ⟨ts, x5, g, gL', F', hok, hb, hl, rfl⟩ := h
    have hd : done.length < 10 := by have := congrArg List.length es; simp at this; omega
    rw [← hB]
    show l6b _ [some (.fz (ns.map D.int)), some (.ref f), some (.ref L), some t, some (.ref T), some (.int (i : Int)), none, none] S'
    unfold l6b
    simp only [dDrop_eq, dBM_eq, dCall_eq, dCons_eq, dNil_eq, List.append_nil]
    refine dV_at (by rfl) ?_
    refine ⟨by simp [tyD, g], ?_⟩
    refine dV_at (by rfl) ?_
    refine dV_at (by rfl) ?_
    refine dV_at (by rfl) ?_
    refine dV_at (by rfl) ?_
    refine ⟨f, L, t, nm, rfl, ht, F', ⟨gL', Lf, n2, n8, hnm⟩, fun dd S6 hdd F6 K6 => ?_⟩
    refine ⟨f, dd, rfl, hdd, F6, fun R rs S7 gR hrs hbr hlr hR0 F7 K7 => ?_⟩
    have gT7 := K7 _ _ Tf (K6 _ _ Tf g)
    simp only [wExtend_lst gT7 gR]
    refine ⟨by omega, hN _ _ ⟨ts ++ rs, _, put_same, by rw [put_ne TL]; exact K7 _ _ Lf (K6 _ _ Lf gL'), F7.put Tf, fun d hd => ?_, ?_, ?_, rfl⟩⟩
    · rcases List.mem_append.mp hd with hd | hd
      · exact hok d hd
      · exact hrs d hd
    · rw [bA_app, List.length_append, List.length_singleton]; omega
    · rw [List.length_append, List.length_append, List.length_singleton]; omega
end KG

open KF
namespace KG
open PySem PySem.Spec PyProof.Rows L2 DL
def topS (i : Nat) : Stmt := PySem.Challenge.pw_drawerways_k05_deeds_by_kind.main.body.getD i (.Pass ⟨0, 0, 0, 0⟩)
abbrev s__law_feed : Stmt := topS 10
theorem nd__law_feed : N__law_feed.Nodup := by decide +kernel
theorem sc__law_feed : FnScope N__law_feed ["_law_script"] (defScope s__law_feed) := ⟨rfl, rfl, rfl, by decide +kernel, rfl, by decide +kernel, by decide +kernel⟩
abbrev s__law_draw : Stmt := topS 11
theorem nd__law_draw : N__law_draw.Nodup := by decide +kernel
theorem sc__law_draw : FnScope N__law_draw ["_law_feed_here", "_law_many"] (defScope s__law_draw) := ⟨rfl, rfl, rfl, by decide +kernel, rfl, by decide +kernel, by decide +kernel⟩
abbrev s__law_names : Stmt := topS 12
theorem nd__law_names : N__law_names.Nodup := by decide +kernel
theorem sc__law_names : FnScope N__law_names ["_law_feed_here"] (defScope s__law_names) := ⟨rfl, rfl, rfl, by decide +kernel, rfl, by decide +kernel, by decide +kernel⟩
abbrev s__law_tree : Stmt := topS 13
theorem nd__law_tree : N__law_tree.Nodup := by decide +kernel
theorem sc__law_tree : FnScope N__law_tree ["_law_feed_here", "_law_names_here", "_law_many"] (defScope s__law_tree) := ⟨rfl, rfl, rfl, by decide +kernel, rfl, by decide +kernel, by decide +kernel⟩
abbrev s__law_bent : Stmt := topS 16
theorem nd__law_bent : N__law_bent.Nodup := by decide +kernel
theorem sc__law_bent : FnScope N__law_bent ["_law_feed_here", "_law_thing"] (defScope s__law_bent) := ⟨rfl, rfl, rfl, by decide +kernel, rfl, by decide +kernel, by decide +kernel⟩
abbrev s__law_near : Stmt := topS 19
theorem nd__law_near : N__law_near.Nodup := by decide +kernel
theorem sc__law_near : FnScope N__law_near ["_law_feed_here", "_law_deed_here"] (defScope s__law_near) := ⟨rfl, rfl, rfl, by decide +kernel, rfl, by decide +kernel, by decide +kernel⟩
abbrev s__law_way : Stmt := topS 14
theorem nd__law_way : N__law_way.Nodup := by decide +kernel
theorem sc__law_way : FnScope N__law_way ["_law_feed_here", "_law_tree_here", "_law_names_here", "_law_least"] (defScope s__law_way) := ⟨rfl, rfl, rfl, by decide +kernel, rfl, by decide +kernel, by decide +kernel⟩
abbrev s__law_deed : Stmt := topS 15
theorem nd__law_deed : N__law_deed.Nodup := by decide +kernel
theorem sc__law_deed : FnScope N__law_deed ["_law_feed_here", "_law_tree_here", "_law_names_here"] (defScope s__law_deed) := ⟨rfl, rfl, rfl, by decide +kernel, rfl, by decide +kernel, by decide +kernel⟩
abbrev s_is_name : Stmt := topS 3
theorem nd_is_name : N_is_name.Nodup := by decide +kernel
theorem sc_is_name : FnScope N_is_name ["thing"] (defScope s_is_name) := ⟨rfl, rfl, rfl, by decide +kernel, rfl, by decide +kernel, by decide +kernel⟩
abbrev s_is_way : Stmt := topS 4
theorem nd_is_way : N_is_way.Nodup := by decide +kernel
theorem sc_is_way : FnScope N_is_way ["thing"] (defScope s_is_way) := ⟨rfl, rfl, rfl, by decide +kernel, rfl, by decide +kernel, by decide +kernel⟩
abbrev s_is_thing : Stmt := topS 7
theorem nd_is_thing : N_is_thing.Nodup := by decide +kernel
theorem sc_is_thing : FnScope N_is_thing ["sort", "thing"] (defScope s_is_thing) := ⟨rfl, rfl, rfl, by decide +kernel, rfl, by decide +kernel, by decide +kernel⟩
abbrev s_is_deed : Stmt := topS 8
theorem nd_is_deed : N_is_deed.Nodup := by decide +kernel
theorem sc_is_deed : FnScope N_is_deed ["thing"] (defScope s_is_deed) := ⟨rfl, rfl, rfl, by decide +kernel, rfl, by decide +kernel, by decide +kernel⟩
abbrev s__law_way_due : Stmt := topS 17
theorem nd__law_way_due : N__law_way_due.Nodup := by decide +kernel
theorem sc__law_way_due : FnScope N__law_way_due ["_law_thing", "_law_least"] (defScope s__law_way_due) := ⟨rfl, rfl, rfl, by decide +kernel, rfl, by decide +kernel, by decide +kernel⟩
abbrev s__law_due : Stmt := topS 18
theorem nd__law_due : N__law_due.Nodup := by decide +kernel
theorem sc__law_due : FnScope N__law_due ["_law_thing"] (defScope s__law_due) := ⟨rfl, rfl, rfl, by decide +kernel, rfl, by decide +kernel, by decide +kernel⟩
abbrev s_law : Stmt := topS 20
theorem nd_law : N_law.Nodup := by decide +kernel
theorem sc_law : FnScope N_law ["_law_script"] (defScope s_law) := ⟨rfl, rfl, rfl, by decide +kernel, rfl, by decide +kernel, by decide +kernel⟩
section
variable {P : Program} {w : World} {K : PySem.W.Frag} {mg : Str → Option Value} {base : Heap}
theorem ok__law_feed {f : Addr} {fd : FuncData} (F : Fun K "_law_feed" "_law_feed" s__law_feed f fd) (hm : mg "_law_feed" = some (.ref f))  (B_list : mg "list" = none) : CalD P w K mg base 1 "_law_feed" sp__law_feed [] :=
  .of F sc__law_feed hm (F.binds fun _ _ _ _ _ _ us hl => match us, hl with | [_], _ => rfl) len__law_feed fun cdv A outer s H ds So Q E hr hgd hsp => by
  have nd := nd__law_feed; have hu0 := room_u hr
  have hu : (A.deeper (envOfC "_law_feed" (defScope s__law_feed) s.heap.objs.size f cdv)).units + 65 < cLine := by omega
  have hu64 : (A.deeper (envOfC "_law_feed" (defScope s__law_feed) s.heap.objs.size f cdv)).units + 64 < cLine := by omega
  have hu1 : (A.deeper (envOfC "_law_feed" (defScope s__law_feed) s.heap.objs.size f cdv)).units + 1 < cLine := by omega
  have hu2 : (A.deeper (envOfC "_law_feed" (defScope s__law_feed) s.heap.objs.size f cdv)).units + 2 < cLine := by omega
  exact ⟨r__law_feed, dss_one (ds_ret (de_disp (dps_cons de_str (de_frz (de_callT (dcall_list) rfl B_list rfl (da_cons (de_cut (de_v 0) dpo_none (dpo_some de_int)) da_nil))) (dps_cons de_str de_int (dps_cons de_str de_int (dps_cons de_str de_int dps_nil)))) rfl rfl (by simp) (by decide))), vc__law_feed hsp⟩
theorem ok__law_draw {f : Addr} {fd : FuncData} (F : Fun K "_law_draw" "_law_draw" s__law_draw f fd) (hm : mg "_law_draw" = some (.ref f))  (B_len : mg "len" = none) : CalD P w K mg base 1 "_law_draw" sp__law_draw [] :=
  .of F sc__law_draw hm (F.binds fun _ _ _ _ _ _ us hl => match us, hl with | [_, _], _ => rfl) len__law_draw fun cdv A outer s H ds So Q E hr hgd hsp => by
  have nd := nd__law_draw; have hu0 := room_u hr
  have hu : (A.deeper (envOfC "_law_draw" (defScope s__law_draw) s.heap.objs.size f cdv)).units + 65 < cLine := by omega
  have hu64 : (A.deeper (envOfC "_law_draw" (defScope s__law_draw) s.heap.objs.size f cdv)).units + 64 < cLine := by omega
  have hu1 : (A.deeper (envOfC "_law_draw" (defScope s__law_draw) s.heap.objs.size f cdv)).units + 1 < cLine := by omega
  have hu2 : (A.deeper (envOfC "_law_draw" (defScope s__law_draw) s.heap.objs.size f cdv)).units + 2 < cLine := by omega
  exact ⟨r__law_draw, dss_cons (ds_asg (de_op dop_add (de_ix (dix_at hu1) (de_v 0) de_str (fun _ _ => rfl)) de_int) (dg_sub (de_v 0) de_str (dset_any hu1))) (dss_cons (ds_if (dt_cmp dop_gt (de_ix (dix_at hu1) (de_v 0) de_str (fun _ _ => rfl)) de_int rfl) (dss_cons (ds_set (i := 5) nd rfl (by first | exact .inl rfl | exact .inr rfl) (de_op dop_mod (de_ix (dix_at hu1) (de_v 0) de_str (fun _ _ => rfl)) (de_v 1))) (dss_cons (ds_asg (de_op dop_div (de_ix (dix_at hu1) (de_v 0) de_str (fun _ _ => rfl)) (de_v 1)) (dg_sub (de_v 0) de_str (dset_any hu1))) (dss_one (ds_ret (de_v 5))))) dss_nil) (dss_cons (ds_set (i := 2) nd rfl (by first | exact .inl rfl | exact .inr rfl) (de_ix (dix_at hu1) (de_v 0) de_str (fun _ _ => rfl))) (dss_cons (ds_asg (de_op dop_add (de_v 2) de_int) (dg_sub (de_v 0) de_str (dset_any hu1))) (dss_cons (ds_set (i := 3) nd rfl (by first | exact .inl rfl | exact .inr rfl) (de_if (dt_cmp (dop_ne hu64) (de_ix (dix_at hu1) (de_v 0) de_str (fun _ _ => rfl)) (de_lst da_nil) rfl) (de_ix (dix_at hu1) (de_ix (dix_at hu1) (de_v 0) de_str (fun _ _ => rfl)) (de_op dop_mod (de_v 2) (de_callB (dcall_len) rfl B_len rfl (da_cons (de_ix (dix_at hu1) (de_v 0) de_str (fun _ _ => rfl)) da_nil))) (fun _ _ => rfl)) de_int)) (dss_cons (ds_if (DW.dt (dw_and (dt_cmp dop_ge (de_v 3) (de_op dop_pow de_int de_int) rfl) (dw_and1 (dt_cmp dop_lt (de_v 2) (de_callB (dcall_len) rfl B_len rfl (da_cons (de_ix (dix_at hu1) (de_v 0) de_str (fun _ _ => rfl)) da_nil)) rfl)))) (dss_cons (ds_asg (de_op dop_div (de_v 3) (de_v 1)) (dg_sub (de_v 0) de_str (dset_any hu1))) (dss_one (ds_ret (de_op dop_mod (de_v 3) (de_v 1))))) dss_nil) (dss_cons (ds_set (i := 4) nd rfl (by first | exact .inl rfl | exact .inr rfl) (de_op dop_mod (de_op dop_add (de_op dop_add (de_op dop_mod (de_v 3) de_int) (de_op dop_mul de_int (de_ix (dix_at hu1) (de_v 0) de_str (fun _ _ => rfl)))) de_int) de_int)) (dss_cons (ds_set (i := 4) nd rfl (by first | exact .inl rfl | exact .inr rfl) (de_op dop_mod (de_op dop_add (de_op dop_add (de_op dop_mul (de_v 4) (de_v 4)) (de_op dop_mul de_int (de_ix (dix_at hu1) (de_v 0) de_str (fun _ _ => rfl)))) de_int) de_int)) (dss_one (ds_ret (de_op dop_mod (de_op dop_div (de_op dop_mod (de_op dop_add (de_op dop_mul (de_v 4) (de_v 4)) (de_op dop_mul de_int (de_v 4))) de_int) de_int) (de_v 1))))))))))), vc__law_draw hsp⟩
theorem ok__law_names {f : Addr} {fd : FuncData} (F : Fun K "_law_names" "_law_names" s__law_names f fd) (hm : mg "_law_names" = some (.ref f)) (C__law_draw : CalD P w K mg base 1 "_law_draw" sp__law_draw []) (B_range : mg "range" = none) (B_len : mg "len" = none) : CalD P w K mg base 2 "_law_names" sp__law_names [] :=
  .of F sc__law_names hm (F.binds fun _ _ _ _ _ _ us hl => match us, hl with | [_], _ => rfl) len__law_names fun cdv A outer s H ds So Q E hr hgd hsp => by
  have nd := nd__law_names; have hu0 := room_u hr
  have hu : (A.deeper (envOfC "_law_names" (defScope s__law_names) s.heap.objs.size f cdv)).units + 65 < cLine := by omega
  have hu64 : (A.deeper (envOfC "_law_names" (defScope s__law_names) s.heap.objs.size f cdv)).units + 64 < cLine := by omega
  have hu1 : (A.deeper (envOfC "_law_names" (defScope s__law_names) s.heap.objs.size f cdv)).units + 1 < cLine := by omega
  have hu2 : (A.deeper (envOfC "_law_names" (defScope s__law_names) s.heap.objs.size f cdv)).units + 2 < cLine := by omega
  exact ⟨r__law_names, dss_cons (ds_asg (de_tup (da_cons de_str (da_cons (de_cal C__law_draw (hr.mono (by decide)) hgd rfl (da_cons (de_v 0) (da_cons de_int da_nil))) (da_cons (de_lst da_nil) da_nil)))) (dg_tup rfl (n := 3) (dgs_cons (dg_name nd (i := 3) rfl (by first | exact .inl rfl | exact .inr rfl)) (dgs_cons (dg_name nd (i := 4) rfl (by first | exact .inl rfl | exact .inr rfl)) (dgs_cons (dg_name nd (i := 5) rfl (by first | exact .inl rfl | exact .inr rfl)) dgs_nil))))) (dss_cons (ds_set (i := 1) nd rfl (by first | exact .inl rfl | exact .inr rfl) (de_lst (da_cons de_str (da_cons de_str (da_cons de_str (da_cons de_str (da_cons de_str (da_cons de_str (da_cons de_str (da_cons de_str da_nil)))))))))) (dss_cons (ds_for .never rfl (di_range1 rfl B_range (da_cons (de_op dop_add de_int (de_cal C__law_draw (hr.mono (by decide)) hgd rfl (da_cons (de_v 0) (da_cons de_int da_nil)))) da_nil)) (dg_name nd (i := 2) rfl (by first | exact .inl rfl | exact .inr rfl)) (dss_cons (ds_set (i := 6) nd rfl (by first | exact .inl rfl | exact .inr rfl) (de_bm PySem.F.plainAttrs_list PySem.F.slot_list_pop PySem.F.type_list_pop dmt_pop (de_v 1) (da_cons (de_cal C__law_draw (hr.mono (by decide)) hgd rfl (da_cons (de_v 0) (da_cons (de_callB (dcall_len) rfl B_len rfl (da_cons (de_v 1) da_nil)) da_nil))) da_nil))) (dss_one (ds_expr (de_bm PySem.F.plainAttrs_list PySem.F.slot_list_append PySem.F.type_list_append dmt_append (de_v 5) (da_cons (de_bm PySem.F.plainAttrs_str PySem.F.slot_str_join PySem.F.type_str_join dmt_join de_str (da_cons (de_lc (own := [("_law_sign", 7)]) (vs := [7]) rfl nd (di_any (de_v 6)) (blkOk_by (show blkC N__law_names (defScope s__law_names) _ [("_law_sign", 7)] = true by decide +kernel)) (fun s H C cl fp => ⟨dg_name nd (i := 7) rfl (by first | exact .inl rfl | exact .inr rfl), dts_nil, DCl.nil, (de_ix (dix_at hu1) (de_v 3) (de_op dop_mod (de_op dop_add (de_bm PySem.F.plainAttrs_str PySem.F.slot_str_find PySem.F.type_str_find dmt_find (de_v 3) (da_cons (de_v 7) da_nil)) (de_v 4)) de_int) (fun _ _ => rfl))⟩)) da_nil)) da_nil)))))) (dss_one (ds_ret (de_v 5))))), vc__law_names hsp⟩
theorem ok__law_tree {f : Addr} {fd : FuncData} (F : Fun K "_law_tree" "_law_tree" s__law_tree f fd) (hm : mg "_law_tree" = some (.ref f)) (C__law_draw : CalD P w K mg base 1 "_law_draw" sp__law_draw []) (B_list : mg "list" = none) (B_range : mg "range" = none) (B_sorted : mg "sorted" = none) (B_tuple : mg "tuple" = none) (B_len : mg "len" = none) : CalD P w K mg base 2 "_law_tree" sp__law_tree [] :=
  .of F sc__law_tree hm (F.binds fun _ _ _ _ _ _ us hl => match us, hl with | [_, _, _], _ => rfl) len__law_tree fun cdv A outer s H ds So Q E hr hgd hsp => by
  have nd := nd__law_tree; have hu0 := room_u hr
  have hu : (A.deeper (envOfC "_law_tree" (defScope s__law_tree) s.heap.objs.size f cdv)).units + 65 < cLine := by omega
  have hu64 : (A.deeper (envOfC "_law_tree" (defScope s__law_tree) s.heap.objs.size f cdv)).units + 64 < cLine := by omega
  have hu1 : (A.deeper (envOfC "_law_tree" (defScope s__law_tree) s.heap.objs.size f cdv)).units + 1 < cLine := by omega
  have hu2 : (A.deeper (envOfC "_law_tree" (defScope s__law_tree) s.heap.objs.size f cdv)).units + 2 < cLine := by omega
  exact ⟨r__law_tree, dss_cons (ds_asg (de_tup (da_cons (de_disp (dps_cons de_int de_newD dps_nil) rfl rfl (by simp) (by decide)) (da_cons (de_disp (dps_cons de_int de_str dps_nil) rfl rfl (by simp) (by decide)) da_nil))) (dg_tup rfl (n := 2) (dgs_cons (dg_name nd (i := 8) rfl (by first | exact .inl rfl | exact .inr rfl)) (dgs_cons (dg_name nd (i := 9) rfl (by first | exact .inl rfl | exact .inr rfl)) dgs_nil)))) (dss_cons (ds_set (i := 3) nd rfl (by first | exact .inl rfl | exact .inr rfl) (de_listRg rfl B_list rfl (dr_2 B_range rfl de_int (de_op dop_add (de_op dop_add (de_v 2) de_int) (de_cal C__law_draw (hr.mono (by decide)) hgd rfl (da_cons (de_v 0) (da_cons de_int da_nil))))))) (dss_cons (ds_set (i := 4) nd rfl (by first | exact .inl rfl | exact .inr rfl) (de_cal C__law_draw (hr.mono (by decide)) hgd rfl (da_cons (de_v 0) (da_cons de_int da_nil)))) (dss_cons (ds_for .never rfl (di_range1 rfl B_range (da_cons (de_v 2) da_nil)) (dg_name nd (i := 5) rfl (by first | exact .inl rfl | exact .inr rfl)) (dss_cons (ds_lock 9 (ds_lc (i := 10) (own := [("_law_node", 6)]) (vs := [6]) rfl nd rfl rfl (sw_comp (.inl ⟨_, _, _, rfl⟩) rfl rfl rfl rfl) (di_any (de_v 9)) (blkOk_by (show blkC N__law_tree (defScope s__law_tree) _ [("_law_node", 6)] = true by decide +kernel)) (fun s H C cl fp => ⟨dg_name nd (i := 6) rfl (by first | exact .inl rfl | exact .inr rfl), dts_one (dt_cmp (dop_eq hu64) (de_ix (dix_at hu1) (de_v 9) (de_v 6) (fun _ _ => rfl)) de_str rfl), DCl.nil, (de_v 6)⟩))) (dss_cons (ds_set (i := 11) nd rfl (by first | exact .inl rfl | exact .inr rfl) (de_ix (dix_at hu1) (de_v 10) (de_un dun_neg de_int) (fun _ _ => rfl))) (dss_cons (ds_if (DW.dt (dw_or (dt_cmp (dop_eq hu64) (de_v 4) de_int rfl) (dw_or1 (dt_cmp (dop_eq hu64) (de_cal C__law_draw (hr.mono (by decide)) hgd rfl (da_cons (de_v 0) (da_cons de_int da_nil))) de_int rfl)))) (dss_one (ds_set (i := 11) nd rfl (by first | exact .inl rfl | exact .inr rfl) (de_ix (dix_at hu1) (de_v 10) (de_cal C__law_draw (hr.mono (by decide)) hgd rfl (da_cons (de_v 0) (da_cons (de_callB (dcall_len) rfl B_len rfl (da_cons (de_v 10) da_nil)) da_nil))) (fun _ _ => rfl)))) dss_nil) (dss_cons (ds_set (i := 12) nd rfl (by first | exact .inl rfl | exact .inr rfl) (de_ix (dix_at hu1) (de_v 1) (de_cal C__law_draw (hr.mono (by decide)) hgd rfl (da_cons (de_v 0) (da_cons (de_callB (dcall_len) rfl B_len rfl (da_cons (de_v 1) da_nil)) da_nil))) (fun _ _ => rfl))) (dss_cons (ds_set (i := 6) nd rfl (by first | exact .inl rfl | exact .inr rfl) (de_ix (dix_at hu1) (de_v 3) (de_cal C__law_draw (hr.mono (by decide)) hgd rfl (da_cons (de_v 0) (da_cons (de_callB (dcall_len) rfl B_len rfl (da_cons (de_v 3) da_nil)) da_nil))) (fun _ _ => rfl))) (dss_one (ds_if (DW.dt (dw_and (dt_cmp (dop_notIn hu) (de_v 12) (de_ix (dix_at hu1) (de_v 8) (de_v 11) (fun _ _ => rfl)) rfl) (dw_and1 (dt_cmp (dop_notIn hu) (de_v 6) (de_v 9) rfl)))) (dss_cons (ds_asg (de_ix (dix_at hu1) (de_lst (da_cons de_str (da_cons de_str (da_cons de_str da_nil)))) (de_cal C__law_draw (hr.mono (by decide)) hgd rfl (da_cons (de_v 0) (da_cons de_int da_nil))) (fun _ _ => rfl)) (dg_sub (de_v 9) (de_v 6) (dset_any hu1))) (dss_one (ds_asg (de_tup (da_cons de_newD (da_cons (de_v 6) da_nil))) (dg_tup rfl (n := 2) (dgs_cons (dg_sub (de_v 8) (de_v 6) (dset_any hu1)) (dgs_cons (dg_sub (de_ix (dix_at hu1) (de_v 8) (de_v 11) (fun _ _ => rfl)) (de_v 12) (dset_any hu1)) dgs_nil)))))) dss_nil)))))))) (dss_cons (ds_for .never rfl (di_any (de_lock 9 (de_lc (own := [("_law_node", 6)]) (vs := [6]) rfl nd (di_any (de_v 9)) (blkOk_by (show blkC N__law_tree (defScope s__law_tree) _ [("_law_node", 6)] = true by decide +kernel)) (fun s H C cl fp => ⟨dg_name nd (i := 6) rfl (by first | exact .inl rfl | exact .inr rfl), dts_one (dt_cmp (dop_eq hu64) (de_ix (dix_at hu1) (de_v 9) (de_v 6) (fun _ _ => rfl)) de_str rfl), DCl.nil, (de_v 6)⟩)))) (dg_name nd (i := 6) rfl (by first | exact .inl rfl | exact .inr rfl)) (dss_cons (ds_lock 9 (ds_lc (i := 10) (own := [("_law_node", 6)]) (vs := [6]) rfl nd rfl rfl (sw_comp (.inl ⟨_, _, _, rfl⟩) rfl rfl rfl rfl) (di_any (de_v 9)) (blkOk_by (show blkC N__law_tree (defScope s__law_tree) _ [("_law_node", 6)] = true by decide +kernel)) (fun s H C cl fp => ⟨dg_name nd (i := 6) rfl (by first | exact .inl rfl | exact .inr rfl), dts_one (dt_cmp (dop_eq hu64) (de_ix (dix_at hu1) (de_v 9) (de_v 6) (fun _ _ => rfl)) de_str rfl), DCl.nil, (de_v 6)⟩))) (dss_cons (ds_set (i := 11) nd rfl (by first | exact .inl rfl | exact .inr rfl) (de_ix (dix_at hu1) (de_v 10) (de_cal C__law_draw (hr.mono (by decide)) hgd rfl (da_cons (de_v 0) (da_cons (de_callB (dcall_len) rfl B_len rfl (da_cons (de_v 10) da_nil)) da_nil))) (fun _ _ => rfl))) (dss_cons (ds_set (i := 12) nd rfl (by first | exact .inl rfl | exact .inr rfl) (de_ix (dix_at hu1) (de_v 1) (de_cal C__law_draw (hr.mono (by decide)) hgd rfl (da_cons (de_v 0) (da_cons (de_callB (dcall_len) rfl B_len rfl (da_cons (de_v 1) da_nil)) da_nil))) (fun _ _ => rfl))) (dss_one (ds_if (DW.dt (dw_and (dt_cmp (dop_notIn hu) (de_v 12) (de_ix (dix_at hu1) (de_v 8) (de_v 11) (fun _ _ => rfl)) rfl) (dw_and1 (dt_cmp (dop_eq hu64) (de_cal C__law_draw (hr.mono (by decide)) hgd rfl (da_cons (de_v 0) (da_cons de_int da_nil))) de_int rfl)))) (dss_one (ds_asg (de_v 6) (dg_sub (de_ix (dix_at hu1) (de_v 8) (de_v 11) (fun _ _ => rfl)) (de_v 12) (dset_any hu1)))) dss_nil)))))) (dss_cons (ds_set (i := 7) nd rfl (by first | exact .inl rfl | exact .inr rfl) (de_lst da_nil)) (dss_cons (ds_for .never rfl (di_any (de_callB (dcall_sortedD rfl hu) rfl B_sorted rfl (da_cons (de_v 9) da_nil))) (dg_name nd (i := 6) rfl (by first | exact .inl rfl | exact .inr rfl)) (dss_one (ds_expr (de_bm PySem.F.plainAttrs_list PySem.F.slot_list_append PySem.F.type_list_append dmt_append (de_v 7) (da_cons (de_tup (da_cons (de_v 6) (da_cons (de_ix (dix_at hu1) (de_v 9) (de_v 6) (fun _ _ => rfl)) (da_cons (de_callT (dcall_tuple) rfl B_tuple rfl (da_cons (de_sortedItems rfl hu B_sorted rfl (de_ix (dix_at hu1) (de_v 8) (de_v 6) (fun _ _ => rfl))) da_nil)) da_nil)))) da_nil))))) (dss_one (ds_ret (de_tup (da_cons (de_callT (dcall_tuple) rfl B_tuple rfl (da_cons (de_v 7) da_nil)) (da_cons (de_op dop_add (de_op dop_add (de_ix (dix_at hu1) (de_ix (dix_at hu1) (de_v 7) (de_un dun_neg de_int) (fun _ _ => rfl)) de_int (fun _ _ => rfl)) de_int) (de_cal C__law_draw (hr.mono (by decide)) hgd rfl (da_cons (de_v 0) (da_cons de_int da_nil)))) da_nil))))))))))), vc__law_tree hsp⟩
theorem st__law_bent {f : Addr} {fd : FuncData} (F : Fun K "_law_bent" "_law_bent" s__law_bent f fd) (hm : mg "_law_bent" = some (.ref f)) (C__law_draw : CalD P w K mg base 1 "_law_draw" sp__law_draw []) (B_isinstance : mg "isinstance" = none) (B_tuple : mg "tuple" = none) (B_int : mg "int" = none) (B_len : mg "len" = none) (B_list : mg "list" = none) (B_str : mg "str" = none) (n : Nat) (C_self : CalD P w K mg base (2 + n) "_law_bent" (prv__law_bent n) []) : CalD P w K mg base (2 + n + 1) "_law_bent" (spR__law_bent n) [] :=
  .of F sc__law_bent hm (F.binds fun _ _ _ _ _ _ us hl => match us, hl with | [_, _], _ => rfl) (lenR__law_bent n) fun cdv A outer s H ds So Q E hr hgd hsp => by
  have nd := nd__law_bent; have hu0 := room_u hr
  have hu : (A.deeper (envOfC "_law_bent" (defScope s__law_bent) s.heap.objs.size f cdv)).units + 65 < cLine := by omega
  have hu64 : (A.deeper (envOfC "_law_bent" (defScope s__law_bent) s.heap.objs.size f cdv)).units + 64 < cLine := by omega
  have hu1 : (A.deeper (envOfC "_law_bent" (defScope s__law_bent) s.heap.objs.size f cdv)).units + 1 < cLine := by omega
  have hu2 : (A.deeper (envOfC "_law_bent" (defScope s__law_bent) s.heap.objs.size f cdv)).units + 2 < cLine := by omega
  exact ⟨r__law_bent (prv__law_bent n), dss_cons (ds_if (DW.dt (dw_and (dt_val (de_callB (dcall_isi) rfl B_isinstance rfl (da_cons (de_v 1) (da_cons (de_ty rfl B_tuple rfl) da_nil)))) (dw_and (dt_cmp (dop_ne hu64) (de_v 1) (de_tup da_nil) rfl) (dw_and1 (dt_cmp dop_gt (de_cal C__law_draw (hr.mono (by omega)) hgd rfl (da_cons (de_v 0) (da_cons de_int da_nil))) de_int rfl))))) (dss_cons (ds_set (i := 3) nd rfl (by first | exact .inl rfl | exact .inr rfl) (de_cal C__law_draw (hr.mono (by omega)) hgd rfl (da_cons (de_v 0) (da_cons (de_callB (dcall_len) rfl B_len rfl (da_cons (de_v 1) da_nil)) da_nil)))) (dss_one (ds_ret (de_op dop_addX (de_op dop_addX (de_cut (de_v 1) dpo_none (dpo_some (de_v 3))) (de_tup (da_cons (de_cal C_self (hr.mono (by omega)) hgd rfl (da_cons (de_v 0) (da_cons (de_ix (dix_at hu1) (de_v 1) (de_v 3) (fun _ _ => rfl)) da_nil))) da_nil))) (de_cut (de_v 1) (dpo_some (de_op dop_addX (de_v 3) de_int)) dpo_none))))) dss_nil) (dss_cons (ds_set (i := 2) nd rfl (by first | exact .inl rfl | exact .inr rfl) (de_cal C__law_draw (hr.mono (by omega)) hgd rfl (da_cons (de_v 0) (da_cons de_int da_nil)))) (dss_cons (ds_if (dt_val (de_callB (dcall_isi) rfl B_isinstance rfl (da_cons (de_v 1) (da_cons (de_ty rfl B_tuple rfl) da_nil)))) (dss_cons (ds_set (i := 4) nd rfl (by first | exact .inl rfl | exact .inr rfl) (de_lst (da_cons (de_frz (de_callT (dcall_list) rfl B_list rfl (da_cons (de_v 1) da_nil))) (da_cons (de_rev (de_v 1)) (da_cons (de_tup (da_cons (de_v 1) da_nil)) (da_cons (de_op dop_addX (de_v 1) (de_v 1)) (da_cons (de_tup da_nil) (da_cons de_non (da_cons (de_cut (de_v 1) (dpo_some de_int) dpo_none) (da_cons (de_cut (de_v 1) dpo_none (dpo_some (de_un dun_neg de_int))) da_nil)))))))))) (dss_one (ds_ret (de_ix (dix_at hu1) (de_op dop_addX (de_v 4) (de_lst (da_cons (de_op dop_addX (de_v 1) (de_tup (da_cons de_non da_nil))) da_nil))) (de_v 2) (fun _ _ => rfl))))) dss_nil) (dss_cons (ds_if (dt_val (de_callB (dcall_isi) rfl B_isinstance rfl (da_cons (de_v 1) (da_cons (de_ty rfl B_int rfl) da_nil)))) (dss_one (ds_ret (de_ix (dix_at hu1) (de_lst (da_cons (de_op dop_addX (de_v 1) de_int) (da_cons (de_op dop_subX (de_v 1) de_int) (da_cons (de_cmp (dop_eq hu64) (de_v 1) de_int rfl) (da_cons (de_callT (dcall_str) rfl B_str rfl (da_cons (de_v 1) da_nil)) (da_cons de_non (da_cons (de_tup (da_cons (de_v 1) da_nil)) (da_cons de_int (da_cons (de_un dun_neg de_int) (da_cons (de_op dop_pow de_int de_int) da_nil)))))))))) (de_v 2) (fun _ _ => rfl)))) dss_nil) (dss_one (ds_ret (de_ix (dix_at hu1) (de_lst (da_cons de_non (da_cons de_bl (da_cons de_int (da_cons de_int (da_cons de_str (da_cons (de_tup da_nil) (da_cons (de_flst da_nil) (da_cons (de_un dun_neg de_int) (da_cons de_str da_nil)))))))))) (de_v 2) (fun _ _ => rfl))))))), vcR__law_bent n hsp⟩
theorem ok__law_bent {f : Addr} {fd : FuncData} (F : Fun K "_law_bent" "_law_bent" s__law_bent f fd) (hm : mg "_law_bent" = some (.ref f)) (C__law_draw : CalD P w K mg base 1 "_law_draw" sp__law_draw []) (B_isinstance : mg "isinstance" = none) (B_tuple : mg "tuple" = none) (B_int : mg "int" = none) (B_len : mg "len" = none) (B_list : mg "list" = none) (B_str : mg "str" = none) : CalD P w K mg base 9 "_law_bent" sp__law_bent [] := by
  have main : ∀ n : Nat, CalD P w K mg base (2 + n + 1) "_law_bent" (spR__law_bent n) [] := by
    intro n; induction n with
    | zero => exact st__law_bent F hm C__law_draw B_isinstance B_tuple B_int B_len B_list B_str  0 (.no (ps := ["_law_feed_here", "_law_thing"]) F hm (F.binds fun _ _ _ _ _ _ us hl => match us, hl with | [_, _], _ => rfl))
    | succ n ih => exact st__law_bent F hm C__law_draw B_isinstance B_tuple B_int B_len B_list B_str  (n + 1) ih
  exact main 6
theorem ok__law_near {f : Addr} {fd : FuncData} (F : Fun K "_law_near" "_law_near" s__law_near f fd) (hm : mg "_law_near" = some (.ref f)) (C__law_draw : CalD P w K mg base 1 "_law_draw" sp__law_draw []) (C__law_bent : CalD P w K mg base 9 "_law_bent" sp__law_bent []) (B_list : mg "list" = none) (B_len : mg "len" = none) : CalD P w K mg base 10 "_law_near" sp__law_near [] :=
  .of F sc__law_near hm (F.binds fun _ _ _ _ _ _ us hl => match us, hl with | [_, _], _ => rfl) len__law_near fun cdv A outer s H ds So Q E hr hgd hsp => by
  have nd := nd__law_near; have hu0 := room_u hr
  have hu : (A.deeper (envOfC "_law_near" (defScope s__law_near) s.heap.objs.size f cdv)).units + 65 < cLine := by omega
  have hu64 : (A.deeper (envOfC "_law_near" (defScope s__law_near) s.heap.objs.size f cdv)).units + 64 < cLine := by omega
  have hu1 : (A.deeper (envOfC "_law_near" (defScope s__law_near) s.heap.objs.size f cdv)).units + 1 < cLine := by omega
  have hu2 : (A.deeper (envOfC "_law_near" (defScope s__law_near) s.heap.objs.size f cdv)).units + 2 < cLine := by omega
  exact ⟨r__law_near, dss_cons (ds_set (i := 2) nd rfl (by first | exact .inl rfl | exact .inr rfl) (de_lst (da_cons (de_v 1) (da_cons (de_frz (de_callT (dcall_list) rfl B_list rfl (da_cons (de_v 1) da_nil))) (da_cons (de_cut (de_v 1) (dpo_some de_int) dpo_none) (da_cons (de_op dop_add (de_v 1) (de_tup (da_cons (de_tup (da_cons de_str da_nil)) da_nil))) (da_cons (de_cut (de_v 1) dpo_none (dpo_some (de_un dun_neg de_int))) (da_cons (de_rev (de_v 1)) (da_cons (de_tup (da_cons (de_v 1) da_nil)) da_nil))))))))) (dss_cons (ds_for .never rfl (di_any (de_tup (da_cons de_str (da_cons de_str (da_cons de_str (da_cons de_str (da_cons de_str (da_cons de_str (da_cons de_str (da_cons de_str (da_cons de_str (da_cons de_non da_nil)))))))))))) (dg_name nd (i := 3) rfl (by first | exact .inl rfl | exact .inr rfl)) (dss_one (ds_expr (de_bm PySem.F.plainAttrs_list PySem.F.slot_list_append PySem.F.type_list_append dmt_append (de_v 2) (da_cons (de_op dop_add (de_tup (da_cons (de_v 3) da_nil)) (de_cut (de_v 1) (dpo_some de_int) dpo_none)) da_nil))))) (dss_cons (ds_set (i := 4) nd rfl (by first | exact .inl rfl | exact .inr rfl) (de_op dop_add de_int (de_cal C__law_draw (hr.mono (by decide)) hgd rfl (da_cons (de_v 0) (da_cons (de_op dop_sub (de_callB (dcall_len) rfl B_len rfl (da_cons (de_v 1) da_nil)) de_int) da_nil))))) (dss_cons (ds_set (i := 5) nd rfl (by first | exact .inl rfl | exact .inr rfl) (de_lst (da_cons (de_tup da_nil) (da_cons (de_tup (da_cons de_str da_nil)) (da_cons (de_tup (da_cons de_str (da_cons de_int da_nil))) (da_cons (de_flst (da_cons de_str da_nil)) (da_cons de_str (da_cons (de_tup (da_cons de_str da_nil)) (da_cons (de_tup (da_cons de_str da_nil)) (da_cons (de_op dop_mulT (de_tup (da_cons de_str da_nil)) de_int) da_nil)))))))))) (dss_cons (ds_for .never rfl (di_any (de_op dop_add (de_v 5) (de_lst (da_cons de_str (da_cons de_str (da_cons de_str da_nil)))))) (dg_name nd (i := 6) rfl (by first | exact .inl rfl | exact .inr rfl)) (dss_one (ds_expr (de_bm PySem.F.plainAttrs_list PySem.F.slot_list_append PySem.F.type_list_append dmt_append (de_v 2) (da_cons (de_op dop_add (de_op dop_add (de_cut (de_v 1) dpo_none (dpo_some (de_v 4))) (de_tup (da_cons (de_v 6) da_nil))) (de_cut (de_v 1) (dpo_some (de_op dop_add (de_v 4) de_int)) dpo_none)) da_nil))))) (dss_one (ds_ret (de_op dop_add (de_v 2) (de_lst (da_cons (de_cal C__law_bent (hr.mono (by decide)) hgd rfl (da_cons (de_v 0) (da_cons (de_v 1) da_nil))) (da_cons (de_cal C__law_bent (hr.mono (by decide)) hgd rfl (da_cons (de_v 0) (da_cons (de_cal C__law_bent (hr.mono (by decide)) hgd rfl (da_cons (de_v 0) (da_cons (de_v 1) da_nil))) da_nil))) da_nil)))))))))), vc__law_near hsp⟩
theorem ok__law_way {f : Addr} {fd : FuncData} (F : Fun K "_law_way" "_law_way" s__law_way f fd) (hm : mg "_law_way" = some (.ref f)) (C__law_draw : CalD P w K mg base 1 "_law_draw" sp__law_draw []) (B_range : mg "range" = none) (B_tuple : mg "tuple" = none) (B_dict : mg "dict" = none) (B_max : mg "max" = none) (B_len : mg "len" = none) : CalD P w K mg base 2 "_law_way" sp__law_way [] :=
  .of F sc__law_way hm (F.binds fun _ _ _ _ _ _ us hl => match us, hl with | [_, _, _, _], _ => rfl) len__law_way fun cdv A outer s H ds So Q E hr hgd hsp => by
  have nd := nd__law_way; have hu0 := room_u hr
  have hu : (A.deeper (envOfC "_law_way" (defScope s__law_way) s.heap.objs.size f cdv)).units + 65 < cLine := by omega
  have hu64 : (A.deeper (envOfC "_law_way" (defScope s__law_way) s.heap.objs.size f cdv)).units + 64 < cLine := by omega
  have hu1 : (A.deeper (envOfC "_law_way" (defScope s__law_way) s.heap.objs.size f cdv)).units + 1 < cLine := by omega
  have hu2 : (A.deeper (envOfC "_law_way" (defScope s__law_way) s.heap.objs.size f cdv)).units + 2 < cLine := by omega
  exact ⟨r__law_way, dss_cons (ds_par3 (i := 5) (j := 6) (l := 7) rfl nd rfl rfl rfl (by decide) (by decide) (by decide) rfl rfl rfl (da_cons (de_callT (dcall_dict hu2 rfl) rfl B_dict rfl (da_cons (de_lc (own := [("_law_row", 10)]) (vs := [10]) rfl nd (di_any (de_ix (dix_at hu1) (de_v 1) de_int (fun _ _ => rfl))) (blkOk_by (show blkC N__law_way (defScope s__law_way) _ [("_law_row", 10)] = true by decide +kernel)) (fun s H C cl fp => ⟨dg_name nd (i := 10) rfl (by first | exact .inl rfl | exact .inr rfl), dts_nil, DCl.nil, (de_tup (da_cons (de_ix (dix_at hu1) (de_v 10) de_int (fun _ _ => rfl)) (da_cons (de_ix (dix_at hu1) (de_v 10) de_int (fun _ _ => rfl)) da_nil)))⟩)) da_nil)) (da_cons de_int (da_cons (de_lst da_nil) da_nil))) rfl) (dss_cons (ds_for .never rfl (di_range1 rfl B_range (da_cons (de_callB (dcall_maxI rfl) rfl B_max rfl (da_cons (de_v 3) (da_cons (de_cal C__law_draw (hr.mono (by decide)) hgd rfl (da_cons (de_v 0) (da_cons de_int da_nil))) da_nil))) da_nil)) (dg_name nd (i := 4) rfl (by first | exact .inl rfl | exact .inr rfl)) (dss_cons (ds_set (i := 8) nd rfl (by first | exact .inl rfl | exact .inr rfl) (de_get2 hu1 (de_v 5) (de_v 6) (de_tup da_nil) ⟨rfl, rfl, rfl, rfl⟩)) (dss_cons (ds_if (DW.dt (dw_and (dt_cmp (dop_eq hu64) (de_v 8) (de_tup da_nil) rfl) (dw_and (dt_cmp dop_ge (de_v 4) (de_v 3) rfl) (dw_and1 (dt_cmp dop_gt (de_cal C__law_draw (hr.mono (by decide)) hgd rfl (da_cons (de_v 0) (da_cons de_int da_nil))) de_int rfl))))) (dss_one ds_break) dss_nil) (dss_cons (ds_if (DW.dt (dw_and (dt_cmp (dop_ne hu64) (de_v 8) (de_tup da_nil) rfl) (dw_and1 (dt_cmp dop_gt (de_cal C__law_draw (hr.mono (by decide)) hgd rfl (da_cons (de_v 0) (da_cons de_int da_nil))) de_int rfl)))) (dss_one (ds_asg (de_ix (dix_at hu1) (de_v 8) (de_cal C__law_draw (hr.mono (by decide)) hgd rfl (da_cons (de_v 0) (da_cons (de_callB (dcall_len) rfl B_len rfl (da_cons (de_v 8) da_nil)) da_nil))) (fun _ _ => rfl)) (dg_tup rfl (n := 2) (dgs_cons (dg_name nd (i := 9) rfl (by first | exact .inl rfl | exact .inr rfl)) (dgs_cons (dg_name nd (i := 6) rfl (by first | exact .inl rfl | exact .inr rfl)) dgs_nil))))) (dss_one (ds_par (i := 9) (j := 6) rfl nd rfl rfl (by decide) rfl rfl (da_cons (de_ix (dix_at hu1) (de_v 2) (de_cal C__law_draw (hr.mono (by decide)) hgd rfl (da_cons (de_v 0) (da_cons (de_callB (dcall_len) rfl B_len rfl (da_cons (de_v 2) da_nil)) da_nil))) (fun _ _ => rfl)) (da_cons (de_un dun_neg de_int) da_nil)) rfl))) (dss_one (ds_expr (de_bm PySem.F.plainAttrs_list PySem.F.slot_list_append PySem.F.type_list_append dmt_append (de_v 7) (da_cons (de_v 9) da_nil)))))))) (dss_one (ds_ret (de_callT (dcall_tuple) rfl B_tuple rfl (da_cons (de_v 7) da_nil))))), vc__law_way hsp⟩
theorem ok__law_deed {f : Addr} {fd : FuncData} (F : Fun K "_law_deed" "_law_deed" s__law_deed f fd) (hm : mg "_law_deed" = some (.ref f)) (C__law_way : CalD P w K mg base 2 "_law_way" sp__law_way []) (C__law_draw : CalD P w K mg base 1 "_law_draw" sp__law_draw []) (B_int : mg "int" = none) (B_len : mg "len" = none) : CalD P w K mg base 3 "_law_deed" sp__law_deed [] :=
  .of F sc__law_deed hm (F.binds fun _ _ _ _ _ _ us hl => match us, hl with | [_, _, _], _ => rfl) len__law_deed fun cdv A outer s H ds So Q E hr hgd hsp => by
  have nd := nd__law_deed; have hu0 := room_u hr
  have hu : (A.deeper (envOfC "_law_deed" (defScope s__law_deed) s.heap.objs.size f cdv)).units + 65 < cLine := by omega
  have hu64 : (A.deeper (envOfC "_law_deed" (defScope s__law_deed) s.heap.objs.size f cdv)).units + 64 < cLine := by omega
  have hu1 : (A.deeper (envOfC "_law_deed" (defScope s__law_deed) s.heap.objs.size f cdv)).units + 1 < cLine := by omega
  have hu2 : (A.deeper (envOfC "_law_deed" (defScope s__law_deed) s.heap.objs.size f cdv)).units + 2 < cLine := by omega
  exact ⟨r__law_deed, dss_cons (ds_set (i := 3) nd rfl (by first | exact .inl rfl | exact .inr rfl) (de_ix (dix_at hu1) (de_lst (da_cons de_str (da_cons de_str (da_cons de_str (da_cons de_str (da_cons de_str (da_cons de_str (da_cons de_str (da_cons de_str (da_cons de_str da_nil)))))))))) (de_cal C__law_draw (hr.mono (by decide)) hgd rfl (da_cons (de_v 0) (da_cons de_int da_nil))) (fun _ _ => rfl))) (dss_cons (ds_set (i := 4) nd rfl (by first | exact .inl rfl | exact .inr rfl) (de_cal C__law_way (hr.mono (by decide)) hgd rfl (da_cons (de_v 0) (da_cons (de_v 1) (da_cons (de_v 2) (da_cons (de_callT (dcall_int) rfl B_int rfl (da_cons (de_cmp (dop_notIn hu) (de_v 3) (de_tup (da_cons de_str (da_cons de_str da_nil))) rfl) da_nil)) da_nil)))))) (dss_cons (ds_if (dt_cmp (dop_in hu) (de_v 3) (de_tup (da_cons de_str (da_cons de_str (da_cons de_str da_nil)))) rfl) (dss_one (ds_ret (de_tup (da_cons (de_v 3) (da_cons (de_v 4) da_nil))))) dss_nil) (dss_cons (ds_if (dt_cmp (dop_eq hu64) (de_v 3) de_str rfl) (dss_cons (ds_set (i := 6) nd rfl (by first | exact .inl rfl | exact .inr rfl) (de_if (dt_cmp (dop_eq hu64) (de_cal C__law_draw (hr.mono (by decide)) hgd rfl (da_cons (de_v 0) (da_cons de_int da_nil))) de_int rfl) (de_v 4) (de_op dop_add (de_cut (de_v 4) dpo_none (dpo_some de_int)) (de_tup (da_cons (de_ix (dix_at hu1) (de_v 2) (de_cal C__law_draw (hr.mono (by decide)) hgd rfl (da_cons (de_v 0) (da_cons (de_callB (dcall_len) rfl B_len rfl (da_cons (de_v 2) da_nil)) da_nil))) (fun _ _ => rfl)) da_nil))))) (dss_one (ds_ret (de_tup (da_cons (de_v 3) (da_cons (de_v 6) (da_cons (de_ix (dix_at hu1) (de_lst (da_cons de_str (da_cons de_str da_nil))) (de_cal C__law_draw (hr.mono (by decide)) hgd rfl (da_cons (de_v 0) (da_cons de_int da_nil))) (fun _ _ => rfl)) da_nil))))))) dss_nil) (dss_cons (ds_par (i := 6) (j := 7) rfl nd rfl rfl (by decide) rfl rfl (da_cons (de_cal C__law_draw (hr.mono (by decide)) hgd rfl (da_cons (de_v 0) (da_cons de_int da_nil))) (da_cons (de_ix (dix_at hu1) (de_v 2) (de_cal C__law_draw (hr.mono (by decide)) hgd rfl (da_cons (de_v 0) (da_cons (de_callB (dcall_len) rfl B_len rfl (da_cons (de_v 2) da_nil)) da_nil))) (fun _ _ => rfl)) da_nil)) rfl) (dss_cons (ds_set (i := 5) nd rfl (by first | exact .inl rfl | exact .inr rfl) (de_cal C__law_way (hr.mono (by decide)) hgd rfl (da_cons (de_v 0) (da_cons (de_v 1) (da_cons (de_v 2) (da_cons de_int da_nil)))))) (dss_cons (ds_if (dt_cmp (dop_eq hu64) (de_v 6) de_int rfl) (dss_one (ds_set (i := 5) nd rfl (by first | exact .inl rfl | exact .inr rfl) (de_cut (de_op dop_add (de_v 4) (de_tup (da_cons (de_v 7) da_nil))) dpo_none (dpo_some de_int)))) dss_nil) (dss_cons (ds_if (dt_cmp (dop_eq hu64) (de_v 6) de_int rfl) (dss_one (ds_set (i := 5) nd rfl (by first | exact .inl rfl | exact .inr rfl) (de_op dop_add (de_cut (de_v 4) dpo_none (dpo_some (de_un dun_neg de_int))) (de_tup (da_cons (de_v 7) da_nil))))) dss_nil) (dss_cons (ds_if (dt_cmp (dop_eq hu64) (de_v 6) de_int rfl) (dss_one (ds_set (i := 5) nd rfl (by first | exact .inl rfl | exact .inr rfl) (de_v 4))) dss_nil) (dss_cons (ds_if (dt_cmp dop_gt (de_v 6) de_int rfl) (dss_one (ds_set (i := 5) nd rfl (by first | exact .inl rfl | exact .inr rfl) (de_op dop_add (de_cut (de_v 5) dpo_none (dpo_some de_int)) (de_tup (da_cons (de_v 7) da_nil))))) dss_nil) (dss_one (ds_ret (de_tup (da_cons (de_v 3) (da_cons (de_v 4) (da_cons (de_v 5) da_nil))))))))))))))), vc__law_deed hsp⟩
theorem ok_is_name {f : Addr} {fd : FuncData} (F : Fun K "is_name" "is_name" s_is_name f fd) (hm : mg "is_name" = some (.ref f))  (B_all : mg "all" = none) (B_isinstance : mg "isinstance" = none) (B_str : mg "str" = none) (B_len : mg "len" = none) {t_MOST_LETTERS : Tok} (M_MOST_LETTERS : mg "MOST_LETTERS" = some (.int 8 t_MOST_LETTERS)) {t_LETTERS : Tok} (M_LETTERS : mg "LETTERS" = some (.str "abcdefghijklmnopqrstuvwxyz" t_LETTERS)) : CalD P w K mg base 1 "is_name" sp_is_name [] :=
  .of F sc_is_name hm (F.binds fun _ _ _ _ _ _ us hl => match us, hl with | [_], _ => rfl) len_is_name fun cdv A outer s H ds So Q E hr hgd hsp => by
  have nd := nd_is_name; have hu0 := room_u hr
  have hu : (A.deeper (envOfC "is_name" (defScope s_is_name) s.heap.objs.size f cdv)).units + 65 < cLine := by omega
  have hu64 : (A.deeper (envOfC "is_name" (defScope s_is_name) s.heap.objs.size f cdv)).units + 64 < cLine := by omega
  have hu1 : (A.deeper (envOfC "is_name" (defScope s_is_name) s.heap.objs.size f cdv)).units + 1 < cLine := by omega
  have hu2 : (A.deeper (envOfC "is_name" (defScope s_is_name) s.heap.objs.size f cdv)).units + 2 < cLine := by omega
  exact ⟨r_is_name, dss_cons (ds_if (DW.dt (dw_or (dt_not (dt_val (de_callB (dcall_isi) rfl B_isinstance rfl (da_cons (de_v 0) (da_cons (de_ty rfl B_str rfl) da_nil))))) (dw_or1 (dt_not (dt_chain dop_le dop_le de_int (de_callB (dcall_len) rfl B_len rfl (da_cons (de_v 0) da_nil)) (de_constI M_MOST_LETTERS rfl) rfl))))) (dss_one (ds_ret de_bl)) dss_nil) (dss_one (ds_ret (de_callB (dcall_all rfl) rfl B_all rfl (da_cons (de_lc (own := [("sign", 1)]) (vs := [1]) rfl nd (di_any (de_v 0)) (blkOk_by (show blkC N_is_name (defScope s_is_name) _ [("sign", 1)] = true by decide +kernel)) (fun s H C cl fp => ⟨dg_name nd (i := 1) rfl (by first | exact .inl rfl | exact .inr rfl), dts_nil, DCl.nil, (de_cmp (dop_in hu) (de_v 1) (de_const (v := .str "abcdefghijklmnopqrstuvwxyz") M_LETTERS ⟨_, rfl⟩ (fun _ => .str _ (by decide +kernel)) rfl) rfl)⟩)) da_nil)))), vc_is_name hsp⟩
theorem ok_is_way {f : Addr} {fd : FuncData} (F : Fun K "is_way" "is_way" s_is_way f fd) (hm : mg "is_way" = some (.ref f)) (C_is_name : CalD P w K mg base 1 "is_name" sp_is_name []) (B_isinstance : mg "isinstance" = none) (B_tuple : mg "tuple" = none) (B_all : mg "all" = none) : CalD P w K mg base 2 "is_way" sp_is_way [] :=
  .of F sc_is_way hm (F.binds fun _ _ _ _ _ _ us hl => match us, hl with | [_], _ => rfl) len_is_way fun cdv A outer s H ds So Q E hr hgd hsp => by
  have nd := nd_is_way; have hu0 := room_u hr
  have hu : (A.deeper (envOfC "is_way" (defScope s_is_way) s.heap.objs.size f cdv)).units + 65 < cLine := by omega
  have hu64 : (A.deeper (envOfC "is_way" (defScope s_is_way) s.heap.objs.size f cdv)).units + 64 < cLine := by omega
  have hu1 : (A.deeper (envOfC "is_way" (defScope s_is_way) s.heap.objs.size f cdv)).units + 1 < cLine := by omega
  have hu2 : (A.deeper (envOfC "is_way" (defScope s_is_way) s.heap.objs.size f cdv)).units + 2 < cLine := by omega
  exact ⟨r_is_way, dss_one (ds_ret (de_and (de_callB (dcall_isi) rfl B_isinstance rfl (da_cons (de_v 0) (da_cons (de_ty rfl B_tuple rfl) da_nil))) (de_one (de_callB (dcall_all rfl) rfl B_all rfl (da_cons (de_lc (own := [("name", 1)]) (vs := [1]) rfl nd (di_any (de_v 0)) (blkOk_by (show blkC N_is_way (defScope s_is_way) _ [("name", 1)] = true by decide +kernel)) (fun s H C cl fp => ⟨dg_name nd (i := 1) rfl (by first | exact .inl rfl | exact .inr rfl), dts_nil, DCl.nil, (de_cal C_is_name.pure (hr.mono (by decide)) hgd rfl (da_cons (de_v 1) da_nil))⟩)) da_nil))))), vc_is_way hsp⟩
theorem ok_is_thing {f : Addr} {fd : FuncData} (F : Fun K "is_thing" "is_thing" s_is_thing f fd) (hm : mg "is_thing" = some (.ref f)) (C_is_way : CalD P w K mg base 2 "is_way" sp_is_way []) (B_isinstance : mg "isinstance" = none) (B_str : mg "str" = none) (B_len : mg "len" = none) : CalD P w K mg base 3 "is_thing" sp_is_thing [] :=
  .of F sc_is_thing hm (F.binds fun _ _ _ _ _ _ us hl => match us, hl with | [_, _], _ => rfl) len_is_thing fun cdv A outer s H ds So Q E hr hgd hsp => by
  have nd := nd_is_thing; have hu0 := room_u hr
  have hu : (A.deeper (envOfC "is_thing" (defScope s_is_thing) s.heap.objs.size f cdv)).units + 65 < cLine := by omega
  have hu64 : (A.deeper (envOfC "is_thing" (defScope s_is_thing) s.heap.objs.size f cdv)).units + 64 < cLine := by omega
  have hu1 : (A.deeper (envOfC "is_thing" (defScope s_is_thing) s.heap.objs.size f cdv)).units + 1 < cLine := by omega
  have hu2 : (A.deeper (envOfC "is_thing" (defScope s_is_thing) s.heap.objs.size f cdv)).units + 2 < cLine := by omega
  exact ⟨r_is_thing, dss_cons (ds_if (dt_cmp (dop_eq hu64) (de_v 0) de_str rfl) (dss_one (ds_ret (de_and (de_callB (dcall_isi) rfl B_isinstance rfl (da_cons (de_v 1) (da_cons (de_ty rfl B_str rfl) da_nil))) (de_one (de_cmp (dop_in hu) (de_v 1) (de_tup (da_cons de_str (da_cons de_str da_nil))) rfl))))) dss_nil) (dss_one (ds_ret (de_and (de_cal C_is_way.pure (hr.mono (by decide)) hgd rfl (da_cons (de_v 1) da_nil)) (de_one (de_or (de_cmp (dop_eq hu64) (de_v 0) de_str rfl) (de_one (de_cmp dop_gt (de_callB (dcall_len) rfl B_len rfl (da_cons (de_v 1) da_nil)) de_int rfl))))))), vc_is_thing hsp⟩
theorem ok_is_deed {f : Addr} {fd : FuncData} (F : Fun K "is_deed" "is_deed" s_is_deed f fd) (hm : mg "is_deed" = some (.ref f)) (C_is_thing : CalD P w K mg base 3 "is_thing" sp_is_thing []) (B_all : mg "all" = none) (B_isinstance : mg "isinstance" = none) (B_tuple : mg "tuple" = none) (B_len : mg "len" = none) (B_str : mg "str" = none) (B_zip : mg "zip" = none) {t_FORMS : Addr} (M_FORMS : mg "FORMS" = some (.ref t_FORMS)) (T_FORMS : TabOk K w t_FORMS [("look", "v"), ("list", "v"), ("make", "wk"), ("drop", "w"), ("link", "ww"), ("move", "ww"), ("swap", "ww")]) : CalD P w K mg base 4 "is_deed" sp_is_deed [] :=
  .of F sc_is_deed hm (F.binds fun _ _ _ _ _ _ us hl => match us, hl with | [_], _ => rfl) len_is_deed fun cdv A outer s H ds So Q E hr hgd hsp => by
  have nd := nd_is_deed; have hu0 := room_u hr
  have hu : (A.deeper (envOfC "is_deed" (defScope s_is_deed) s.heap.objs.size f cdv)).units + 65 < cLine := by omega
  have hu64 : (A.deeper (envOfC "is_deed" (defScope s_is_deed) s.heap.objs.size f cdv)).units + 64 < cLine := by omega
  have hu1 : (A.deeper (envOfC "is_deed" (defScope s_is_deed) s.heap.objs.size f cdv)).units + 1 < cLine := by omega
  have hu2 : (A.deeper (envOfC "is_deed" (defScope s_is_deed) s.heap.objs.size f cdv)).units + 2 < cLine := by omega
  exact ⟨r_is_deed, dss_cons (ds_if (DW.dt (dw_or (dt_not (dt_val (de_callB (dcall_isi) rfl B_isinstance rfl (da_cons (de_v 0) (da_cons (de_ty rfl B_tuple rfl) da_nil))))) (dw_or (dt_cmp (dop_eq hu64) (de_callB (dcall_len) rfl B_len rfl (da_cons (de_v 0) da_nil)) de_int rfl) (dw_or1 (dt_not (dt_val (de_callB (dcall_isi) rfl B_isinstance rfl (da_cons (de_ix (dix_at hu1) (de_v 0) de_int (fun _ _ => rfl)) (da_cons (de_ty rfl B_str rfl) da_nil))))))))) (dss_one (ds_ret de_bl)) dss_nil) (dss_cons (ds_asg (de_v 0) (dg_star rfl (n := 2) (i := 1) (dgs_cons (dg_name nd (i := 2) rfl (by first | exact .inl rfl | exact .inr rfl)) (dgs_star (dg_name nd (i := 3) rfl (by first | exact .inl rfl | exact .inr rfl)) dgs_nil)) (by decide))) (dss_cons (ds_set (i := 1) nd rfl (by first | exact .inl rfl | exact .inr rfl) (de_kget M_FORMS T_FORMS rfl (de_v 2) ⟨rfl, rfl, rfl, rfl⟩)) (dss_cons (ds_if (DW.dt (dw_or (dt_cmp dop_isN (de_v 1) de_non rfl) (dw_or1 (dt_cmp (dop_ne hu64) (de_callB (dcall_len) rfl B_len rfl (da_cons (de_v 1) da_nil)) (de_callB (dcall_len) rfl B_len rfl (da_cons (de_v 3) da_nil)) rfl)))) (dss_one (ds_ret de_bl)) dss_nil) (dss_one (ds_ret (de_callB (dcall_all rfl) rfl B_all rfl (da_cons (de_lc (own := [("sort", 4), ("one", 5)]) (vs := [4, 5]) rfl nd (di_zipSL rfl B_zip (da_cons (de_v 1) (da_cons (de_v 3) da_nil))) (blkOk_by (show blkC N_is_deed (defScope s_is_deed) _ [("sort", 4), ("one", 5)] = true by decide +kernel)) (fun s H C cl fp => ⟨dg_tup rfl (n := 2) (dgs_cons (dg_name nd (i := 4) rfl (by first | exact .inl rfl | exact .inr rfl)) (dgs_cons (dg_name nd (i := 5) rfl (by first | exact .inl rfl | exact .inr rfl)) dgs_nil)), dts_nil, DCl.nil, (de_cal C_is_thing.pure (hr.mono (by decide)) hgd rfl (da_cons (de_v 4) (da_cons (de_v 5) da_nil)))⟩)) da_nil))))))), vc_is_deed hsp⟩
theorem ok__law_way_due {f : Addr} {fd : FuncData} (F : Fun K "_law_way_due" "_law_way_due" s__law_way_due f fd) (hm : mg "_law_way_due" = some (.ref f))  (B_isinstance : mg "isinstance" = none) (B_tuple : mg "tuple" = none) (B_len : mg "len" = none) (B_str : mg "str" = none) (B_ord : mg "ord" = none) : CalD P w K mg base 1 "_law_way_due" sp__law_way_due [] :=
  .of F sc__law_way_due hm (F.binds fun _ _ _ _ _ _ us hl => match us, hl with | [_, _], _ => rfl) len__law_way_due fun cdv A outer s H ds So Q E hr hgd hsp => by
  have nd := nd__law_way_due; have hu0 := room_u hr
  have hu : (A.deeper (envOfC "_law_way_due" (defScope s__law_way_due) s.heap.objs.size f cdv)).units + 65 < cLine := by omega
  have hu64 : (A.deeper (envOfC "_law_way_due" (defScope s__law_way_due) s.heap.objs.size f cdv)).units + 64 < cLine := by omega
  have hu1 : (A.deeper (envOfC "_law_way_due" (defScope s__law_way_due) s.heap.objs.size f cdv)).units + 1 < cLine := by omega
  have hu2 : (A.deeper (envOfC "_law_way_due" (defScope s__law_way_due) s.heap.objs.size f cdv)).units + 2 < cLine := by omega
  exact ⟨r__law_way_due, dss_cons (ds_if (DW.dt (dw_or (dt_not (dt_val (de_callB (dcall_isi) rfl B_isinstance rfl (da_cons (de_v 0) (da_cons (de_ty rfl B_tuple rfl) da_nil))))) (dw_or1 (dt_cmp dop_lt (de_callB (dcall_len) rfl B_len rfl (da_cons (de_v 0) da_nil)) (de_v 1) rfl)))) (dss_one (ds_ret de_bl)) dss_nil) (dss_cons (ds_for .never rfl (di_any (de_v 0)) (dg_name nd (i := 2) rfl (by first | exact .inl rfl | exact .inr rfl)) (dss_cons (ds_if (DW.dt (dw_or (dt_not (dt_val (de_callB (dcall_isi) rfl B_isinstance rfl (da_cons (de_v 2) (da_cons (de_ty rfl B_str rfl) da_nil))))) (dw_or1 (dt_not (dt_chain dop_lt dop_lt de_int (de_callB (dcall_len) rfl B_len rfl (da_cons (de_v 2) da_nil)) de_int rfl))))) (dss_one (ds_ret de_bl)) dss_nil) (dss_one (ds_if (dt_cmp (dop_ne hu64) (de_lc (own := [("_law_sign", 3)]) (vs := [3]) rfl nd (di_any (de_v 2)) (blkOk_by (show blkC N__law_way_due (defScope s__law_way_due) _ [("_law_sign", 3)] = true by decide +kernel)) (fun s H C cl fp => ⟨dg_name nd (i := 3) rfl (by first | exact .inl rfl | exact .inr rfl), dts_one (DW.dt (dw_or (dt_cmp dop_lt (de_callB (dcall_ord) rfl B_ord rfl (da_cons (de_v 3) da_nil)) de_int rfl) (dw_or1 (dt_cmp dop_gt (de_callB (dcall_ord) rfl B_ord rfl (da_cons (de_v 3) da_nil)) de_int rfl)))), DCl.nil, (de_v 3)⟩)) (de_lst da_nil) rfl) (dss_one (ds_ret de_bl)) dss_nil)))) (dss_one (ds_ret de_bl))), vc__law_way_due hsp⟩
theorem ok__law_due {f : Addr} {fd : FuncData} (F : Fun K "_law_due" "_law_due" s__law_due f fd) (hm : mg "_law_due" = some (.ref f)) (C__law_way_due : CalD P w K mg base 1 "_law_way_due" sp__law_way_due []) (B_dict : mg "dict" = none) (B_zip : mg "zip" = none) (B_isinstance : mg "isinstance" = none) (B_tuple : mg "tuple" = none) (B_str : mg "str" = none) (B_len : mg "len" = none) (B_repr : mg "repr" = none) : CalD P w K mg base 2 "_law_due" sp__law_due [] :=
  .of F sc__law_due hm (F.binds fun _ _ _ _ _ _ us hl => match us, hl with | [_], _ => rfl) len__law_due fun cdv A outer s H ds So Q E hr hgd hsp => by
  have nd := nd__law_due; have hu0 := room_u hr
  have hu : (A.deeper (envOfC "_law_due" (defScope s__law_due) s.heap.objs.size f cdv)).units + 65 < cLine := by omega
  have hu64 : (A.deeper (envOfC "_law_due" (defScope s__law_due) s.heap.objs.size f cdv)).units + 64 < cLine := by omega
  have hu1 : (A.deeper (envOfC "_law_due" (defScope s__law_due) s.heap.objs.size f cdv)).units + 1 < cLine := by omega
  have hu2 : (A.deeper (envOfC "_law_due" (defScope s__law_due) s.heap.objs.size f cdv)).units + 2 < cLine := by omega
  exact ⟨r__law_due, dss_cons (ds_if (DW.dt (dw_or (dt_not (dt_val (de_callB (dcall_isi) rfl B_isinstance rfl (da_cons (de_v 0) (da_cons (de_ty rfl B_tuple rfl) da_nil))))) (dw_or (dt_cmp (dop_eq hu64) (de_v 0) (de_tup da_nil) rfl) (dw_or1 (dt_not (dt_val (de_callB (dcall_isi) rfl B_isinstance rfl (da_cons (de_ix (dix_at hu1) (de_v 0) de_int (fun _ _ => rfl)) (da_cons (de_ty rfl B_str rfl) da_nil))))))))) (dss_one (ds_ret de_bl)) dss_nil) (dss_cons (ds_set (i := 1) nd rfl (by first | exact .inl rfl | exact .inr rfl) (de_callT (dcall_dict hu2 rfl) rfl B_dict rfl (da_cons (de_lst (da_cons (de_tup (da_cons de_str (da_cons (de_tup (da_cons de_int da_nil)) da_nil))) (da_cons (de_tup (da_cons de_str (da_cons (de_tup (da_cons de_int da_nil)) da_nil))) (da_cons (de_tup (da_cons de_str (da_cons (de_tup (da_cons de_int (da_cons de_str da_nil))) da_nil))) (da_cons (de_tup (da_cons de_str (da_cons (de_tup (da_cons de_int da_nil)) da_nil))) (da_cons (de_tup (da_cons de_str (da_cons (de_tup (da_cons de_int (da_cons de_int da_nil))) da_nil))) da_nil)))))) da_nil))) (dss_cons (ds_expr (de_update (de_v 1) (de_disp (dps_cons de_str (de_tup (da_cons de_int (da_cons de_int da_nil))) (dps_cons de_str (de_tup (da_cons de_int (da_cons de_int da_nil))) dps_nil)) rfl rfl (by simp) (by decide)) ⟨rfl, rfl, rfl, rfl⟩)) (dss_cons (ds_if (DW.dt (dw_or (dt_cmp (dop_notIn hu) (de_ix (dix_at hu1) (de_v 0) de_int (fun _ _ => rfl)) (de_v 1) rfl) (dw_or1 (dt_cmp (dop_ne hu64) (de_callB (dcall_len) rfl B_len rfl (da_cons (de_v 0) da_nil)) (de_op dop_add de_int (de_callB (dcall_len) rfl B_len rfl (da_cons (de_ix (dix_at hu1) (de_v 1) (de_ix (dix_at hu1) (de_v 0) de_int (fun _ _ => rfl)) (fun _ _ => rfl)) da_nil))) rfl)))) (dss_one (ds_ret de_bl)) dss_nil) (dss_cons (ds_for .never rfl (di_zip rfl B_zip (da_cons (de_ix (dix_at hu1) (de_v 1) (de_ix (dix_at hu1) (de_v 0) de_int (fun _ _ => rfl)) (fun _ _ => rfl)) (da_cons (de_cut (de_v 0) (dpo_some de_int) dpo_none) da_nil))) (dg_tup rfl (n := 2) (dgs_cons (dg_name nd (i := 2) rfl (by first | exact .inl rfl | exact .inr rfl)) (dgs_cons (dg_name nd (i := 3) rfl (by first | exact .inl rfl | exact .inr rfl)) dgs_nil))) (dss_cons (ds_if (DW.dt (dw_and (dt_cmp (dop_eq hu64) (de_v 2) de_str rfl) (dw_and1 (dt_cmp (dop_notIn hu) (de_callB (dcall_reprA hu hgd) rfl B_repr rfl (da_cons (de_v 3) da_nil)) (de_tup (da_cons de_str (da_cons de_str da_nil))) rfl)))) (dss_one (ds_ret de_bl)) dss_nil) (dss_one (ds_if (DW.dt (dw_and (dt_cmp (dop_ne hu64) (de_v 2) de_str rfl) (dw_and1 (dt_not (dt_val (de_cal C__law_way_due.pure (hr.mono (by decide)) hgd rfl (da_cons (de_v 3) (da_cons (de_v 2) da_nil)))))))) (dss_one (ds_ret de_bl)) dss_nil)))) (dss_one (ds_ret de_bl)))))), vc__law_due hsp⟩
theorem fn_law {f : Addr} {fd : FuncData} (F : Fun K "law" "law" s_law f fd) (C__law_feed : CalD P w K mg base 1 "_law_feed" sp__law_feed []) (C__law_names : CalD P w K mg base 2 "_law_names" sp__law_names []) (C__law_tree : CalD P w K mg base 2 "_law_tree" sp__law_tree []) (C__law_draw : CalD P w K mg base 1 "_law_draw" sp__law_draw []) (C__law_near : CalD P w K mg base 10 "_law_near" sp__law_near []) (C__law_deed : CalD P w K mg base 3 "_law_deed" sp__law_deed []) (C_is_deed : CalD P w K mg base 4 "is_deed" sp_is_deed []) (C__law_due : CalD P w K mg base 2 "_law_due" sp__law_due []) (B_range : mg "range" = none) (B_repr : mg "repr" = none) : FnD P w K mg base 11 f fd ["_law_script"] sp_law :=
  .of F sc_law len_law fun cdv A outer s H ds So Q E hr hgd hsp => by
  have nd := nd_law; have hu0 := room_u hr
  have hu : (A.deeper (envOfC "law" (defScope s_law) s.heap.objs.size f cdv)).units + 65 < cLine := by omega
  have hu64 : (A.deeper (envOfC "law" (defScope s_law) s.heap.objs.size f cdv)).units + 64 < cLine := by omega
  have hu1 : (A.deeper (envOfC "law" (defScope s_law) s.heap.objs.size f cdv)).units + 1 < cLine := by omega
  have hu2 : (A.deeper (envOfC "law" (defScope s_law) s.heap.objs.size f cdv)).units + 2 < cLine := by omega
  exact ⟨r_law, DSs.nox (dss_cons (ds_set (i := 1) nd rfl (by first | exact .inl rfl | exact .inr rfl) (de_cal C__law_feed (hr.mono (by decide)) hgd rfl (da_cons (de_v 0) da_nil))) (dss_cons (ds_set (i := 2) nd rfl (by first | exact .inl rfl | exact .inr rfl) (de_cal C__law_names (hr.mono (by decide)) hgd rfl (da_cons (de_v 1) da_nil))) (dss_cons (ds_set (i := 3) nd rfl (by first | exact .inl rfl | exact .inr rfl) (de_cal C__law_tree (hr.mono (by decide)) hgd rfl (da_cons (de_v 1) (da_cons (de_v 2) (da_cons (de_cal C__law_draw (hr.mono (by decide)) hgd rfl (da_cons (de_v 1) (da_cons de_int da_nil))) da_nil))))) (dss_cons (ds_set (i := 4) nd rfl (by first | exact .inl rfl | exact .inr rfl) (de_lst (da_cons de_non (da_cons (de_tup da_nil) (da_cons de_int (da_cons de_str (da_cons (de_tup (da_cons de_str da_nil)) (da_cons (de_tup (da_cons de_str (da_cons (de_tup (da_cons de_str da_nil)) (da_cons de_non da_nil)))) (da_cons (de_tup (da_cons de_str (da_cons (de_tup (da_cons de_str da_nil)) (da_cons de_bl da_nil)))) da_nil))))))))) (dss_cons (ds_expr (de_bm PySem.F.plainAttrs_list PySem.F.slot_list_append PySem.F.type_list_append dmt_append (de_v 4) (da_cons (de_tup (da_cons de_str (da_cons (de_tup (da_cons de_str da_nil)) (da_cons (de_tup (da_cons de_str da_nil)) da_nil)))) da_nil))) (dss_cons (ds_for .never rfl (di_range1 rfl B_range (da_cons de_int da_nil)) (dg_name nd (i := 5) rfl (by first | exact .inl rfl | exact .inr rfl)) (dss_one (ds_expr (de_bm PySem.F.plainAttrs_list PySem.F.slot_list_extend PySem.F.type_list_extend dmt_extend (de_v 4) (da_cons (de_cal C__law_near (hr.mono (by decide)) hgd rfl (da_cons (de_v 1) (da_cons (de_cal C__law_deed (hr.mono (by decide)) hgd rfl (da_cons (de_v 1) (da_cons (de_v 3) (da_cons (de_v 2) da_nil)))) da_nil))) da_nil))))) (dss_cons (ds_set (i := 6) nd rfl (by first | exact .inl rfl | exact .inr rfl) (de_callB (dcall_reprA hu hgd) rfl B_repr rfl (da_cons (de_v 4) da_nil))) (dss_cons (ds_for .never rfl (di_any (de_v 4)) (dg_name nd (i := 7) rfl (by first | exact .inl rfl | exact .inr rfl)) (dss_one (ds_if (dt_cmp (dop_ne hu64) (de_callB (dcall_reprA hu hgd) rfl B_repr rfl (da_cons (de_cal C_is_deed.pure (hr.mono (by decide)) hgd rfl (da_cons (de_v 7) da_nil)) da_nil)) (de_callB (dcall_reprA hu hgd) rfl B_repr rfl (da_cons (de_cal C__law_due.pure (hr.mono (by decide)) hgd rfl (da_cons (de_v 7) da_nil)) da_nil)) rfl) (dss_one (ds_ret de_bl)) dss_nil))) (dss_one (ds_ret (de_cmp (dop_eq hu64) (de_callB (dcall_reprA hu hgd) rfl B_repr rfl (da_cons (de_v 4) da_nil)) (de_v 6) rfl))))))))))), vc_law hsp⟩
theorem all_mk {h : Heap} {fa : Addr} (X : K.In h) (G : h.Ns mainGlobals mg) (hfa : mg "law" = some (.ref fa))
    {f__law_feed : Addr} {od__law_feed an__law_feed : Option Addr} {sl__law_feed : Array (Option Value)} {oc__law_feed kV__law_feed dc__law_feed pm__law_feed cd__law_feed ct__law_feed : Value}
    {f__law_draw : Addr} {od__law_draw an__law_draw : Option Addr} {sl__law_draw : Array (Option Value)} {oc__law_draw kV__law_draw dc__law_draw pm__law_draw cd__law_draw ct__law_draw : Value}
    {f__law_names : Addr} {od__law_names an__law_names : Option Addr} {sl__law_names : Array (Option Value)} {oc__law_names kV__law_names dc__law_names pm__law_names cd__law_names ct__law_names : Value}
    {f__law_tree : Addr} {od__law_tree an__law_tree : Option Addr} {sl__law_tree : Array (Option Value)} {oc__law_tree kV__law_tree dc__law_tree pm__law_tree cd__law_tree ct__law_tree : Value}
    {f__law_bent : Addr} {od__law_bent an__law_bent : Option Addr} {sl__law_bent : Array (Option Value)} {oc__law_bent kV__law_bent dc__law_bent pm__law_bent cd__law_bent ct__law_bent : Value}
    {f__law_near : Addr} {od__law_near an__law_near : Option Addr} {sl__law_near : Array (Option Value)} {oc__law_near kV__law_near dc__law_near pm__law_near cd__law_near ct__law_near : Value}
    {f__law_way : Addr} {od__law_way an__law_way : Option Addr} {sl__law_way : Array (Option Value)} {oc__law_way kV__law_way dc__law_way pm__law_way cd__law_way ct__law_way : Value}
    {f__law_deed : Addr} {od__law_deed an__law_deed : Option Addr} {sl__law_deed : Array (Option Value)} {oc__law_deed kV__law_deed dc__law_deed pm__law_deed cd__law_deed ct__law_deed : Value}
    {f_is_name : Addr} {od_is_name an_is_name : Option Addr} {sl_is_name : Array (Option Value)} {oc_is_name kV_is_name dc_is_name pm_is_name cd_is_name ct_is_name : Value}
    {f_is_way : Addr} {od_is_way an_is_way : Option Addr} {sl_is_way : Array (Option Value)} {oc_is_way kV_is_way dc_is_way pm_is_way cd_is_way ct_is_way : Value}
    {f_is_thing : Addr} {od_is_thing an_is_thing : Option Addr} {sl_is_thing : Array (Option Value)} {oc_is_thing kV_is_thing dc_is_thing pm_is_thing cd_is_thing ct_is_thing : Value}
    {f_is_deed : Addr} {od_is_deed an_is_deed : Option Addr} {sl_is_deed : Array (Option Value)} {oc_is_deed kV_is_deed dc_is_deed pm_is_deed cd_is_deed ct_is_deed : Value}
    {f__law_way_due : Addr} {od__law_way_due an__law_way_due : Option Addr} {sl__law_way_due : Array (Option Value)} {oc__law_way_due kV__law_way_due dc__law_way_due pm__law_way_due cd__law_way_due ct__law_way_due : Value}
    {f__law_due : Addr} {od__law_due an__law_due : Option Addr} {sl__law_due : Array (Option Value)} {oc__law_due kV__law_due dc__law_due pm__law_due cd__law_due ct__law_due : Value}
    {f_law : Addr} {od_law an_law : Option Addr} {sl_law : Array (Option Value)} {oc_law kV_law dc_law pm_law cd_law ct_law : Value}
    {t_MOST_LETTERS : Tok}
    {t_LETTERS : Tok}
    {t_FORMS : Addr}
    {e_FORMS : Array DictEntry} {n_FORMS : Nat}
    (a__law_feed : PySem.W.nsIn K mainGlobals "_law_feed" = some (some (.ref f__law_feed))) (l__law_feed : K.lookup f__law_feed = some ⟨oc__law_feed, od__law_feed, .func (PySem.W.fnOf "_law_feed" "_law_feed" (defArgs s__law_feed) (defBody s__law_feed) (defScope s__law_feed) .none kV__law_feed dc__law_feed pm__law_feed an__law_feed cd__law_feed ct__law_feed), sl__law_feed⟩) (c__law_feed : PySem.W.codeIn K cd__law_feed "_law_feed" = true) (k__law_feed : PySem.W.keepIn K (.ref f__law_feed) = true)
    (a__law_draw : PySem.W.nsIn K mainGlobals "_law_draw" = some (some (.ref f__law_draw))) (l__law_draw : K.lookup f__law_draw = some ⟨oc__law_draw, od__law_draw, .func (PySem.W.fnOf "_law_draw" "_law_draw" (defArgs s__law_draw) (defBody s__law_draw) (defScope s__law_draw) .none kV__law_draw dc__law_draw pm__law_draw an__law_draw cd__law_draw ct__law_draw), sl__law_draw⟩) (c__law_draw : PySem.W.codeIn K cd__law_draw "_law_draw" = true) (k__law_draw : PySem.W.keepIn K (.ref f__law_draw) = true)
    (a__law_names : PySem.W.nsIn K mainGlobals "_law_names" = some (some (.ref f__law_names))) (l__law_names : K.lookup f__law_names = some ⟨oc__law_names, od__law_names, .func (PySem.W.fnOf "_law_names" "_law_names" (defArgs s__law_names) (defBody s__law_names) (defScope s__law_names) .none kV__law_names dc__law_names pm__law_names an__law_names cd__law_names ct__law_names), sl__law_names⟩) (c__law_names : PySem.W.codeIn K cd__law_names "_law_names" = true) (k__law_names : PySem.W.keepIn K (.ref f__law_names) = true)
    (a__law_tree : PySem.W.nsIn K mainGlobals "_law_tree" = some (some (.ref f__law_tree))) (l__law_tree : K.lookup f__law_tree = some ⟨oc__law_tree, od__law_tree, .func (PySem.W.fnOf "_law_tree" "_law_tree" (defArgs s__law_tree) (defBody s__law_tree) (defScope s__law_tree) .none kV__law_tree dc__law_tree pm__law_tree an__law_tree cd__law_tree ct__law_tree), sl__law_tree⟩) (c__law_tree : PySem.W.codeIn K cd__law_tree "_law_tree" = true) (k__law_tree : PySem.W.keepIn K (.ref f__law_tree) = true)
    (a__law_bent : PySem.W.nsIn K mainGlobals "_law_bent" = some (some (.ref f__law_bent))) (l__law_bent : K.lookup f__law_bent = some ⟨oc__law_bent, od__law_bent, .func (PySem.W.fnOf "_law_bent" "_law_bent" (defArgs s__law_bent) (defBody s__law_bent) (defScope s__law_bent) .none kV__law_bent dc__law_bent pm__law_bent an__law_bent cd__law_bent ct__law_bent), sl__law_bent⟩) (c__law_bent : PySem.W.codeIn K cd__law_bent "_law_bent" = true) (k__law_bent : PySem.W.keepIn K (.ref f__law_bent) = true)
    (a__law_near : PySem.W.nsIn K mainGlobals "_law_near" = some (some (.ref f__law_near))) (l__law_near : K.lookup f__law_near = some ⟨oc__law_near, od__law_near, .func (PySem.W.fnOf "_law_near" "_law_near" (defArgs s__law_near) (defBody s__law_near) (defScope s__law_near) .none kV__law_near dc__law_near pm__law_near an__law_near cd__law_near ct__law_near), sl__law_near⟩) (c__law_near : PySem.W.codeIn K cd__law_near "_law_near" = true) (k__law_near : PySem.W.keepIn K (.ref f__law_near) = true)
    (a__law_way : PySem.W.nsIn K mainGlobals "_law_way" = some (some (.ref f__law_way))) (l__law_way : K.lookup f__law_way = some ⟨oc__law_way, od__law_way, .func (PySem.W.fnOf "_law_way" "_law_way" (defArgs s__law_way) (defBody s__law_way) (defScope s__law_way) .none kV__law_way dc__law_way pm__law_way an__law_way cd__law_way ct__law_way), sl__law_way⟩) (c__law_way : PySem.W.codeIn K cd__law_way "_law_way" = true) (k__law_way : PySem.W.keepIn K (.ref f__law_way) = true)
    (a__law_deed : PySem.W.nsIn K mainGlobals "_law_deed" = some (some (.ref f__law_deed))) (l__law_deed : K.lookup f__law_deed = some ⟨oc__law_deed, od__law_deed, .func (PySem.W.fnOf "_law_deed" "_law_deed" (defArgs s__law_deed) (defBody s__law_deed) (defScope s__law_deed) .none kV__law_deed dc__law_deed pm__law_deed an__law_deed cd__law_deed ct__law_deed), sl__law_deed⟩) (c__law_deed : PySem.W.codeIn K cd__law_deed "_law_deed" = true) (k__law_deed : PySem.W.keepIn K (.ref f__law_deed) = true)
    (a_is_name : PySem.W.nsIn K mainGlobals "is_name" = some (some (.ref f_is_name))) (l_is_name : K.lookup f_is_name = some ⟨oc_is_name, od_is_name, .func (PySem.W.fnOf "is_name" "is_name" (defArgs s_is_name) (defBody s_is_name) (defScope s_is_name) .none kV_is_name dc_is_name pm_is_name an_is_name cd_is_name ct_is_name), sl_is_name⟩) (c_is_name : PySem.W.codeIn K cd_is_name "is_name" = true) (k_is_name : PySem.W.keepIn K (.ref f_is_name) = true)
    (a_is_way : PySem.W.nsIn K mainGlobals "is_way" = some (some (.ref f_is_way))) (l_is_way : K.lookup f_is_way = some ⟨oc_is_way, od_is_way, .func (PySem.W.fnOf "is_way" "is_way" (defArgs s_is_way) (defBody s_is_way) (defScope s_is_way) .none kV_is_way dc_is_way pm_is_way an_is_way cd_is_way ct_is_way), sl_is_way⟩) (c_is_way : PySem.W.codeIn K cd_is_way "is_way" = true) (k_is_way : PySem.W.keepIn K (.ref f_is_way) = true)
    (a_is_thing : PySem.W.nsIn K mainGlobals "is_thing" = some (some (.ref f_is_thing))) (l_is_thing : K.lookup f_is_thing = some ⟨oc_is_thing, od_is_thing, .func (PySem.W.fnOf "is_thing" "is_thing" (defArgs s_is_thing) (defBody s_is_thing) (defScope s_is_thing) .none kV_is_thing dc_is_thing pm_is_thing an_is_thing cd_is_thing ct_is_thing), sl_is_thing⟩) (c_is_thing : PySem.W.codeIn K cd_is_thing "is_thing" = true) (k_is_thing : PySem.W.keepIn K (.ref f_is_thing) = true)
    (a_is_deed : PySem.W.nsIn K mainGlobals "is_deed" = some (some (.ref f_is_deed))) (l_is_deed : K.lookup f_is_deed = some ⟨oc_is_deed, od_is_deed, .func (PySem.W.fnOf "is_deed" "is_deed" (defArgs s_is_deed) (defBody s_is_deed) (defScope s_is_deed) .none kV_is_deed dc_is_deed pm_is_deed an_is_deed cd_is_deed ct_is_deed), sl_is_deed⟩) (c_is_deed : PySem.W.codeIn K cd_is_deed "is_deed" = true) (k_is_deed : PySem.W.keepIn K (.ref f_is_deed) = true)
    (a__law_way_due : PySem.W.nsIn K mainGlobals "_law_way_due" = some (some (.ref f__law_way_due))) (l__law_way_due : K.lookup f__law_way_due = some ⟨oc__law_way_due, od__law_way_due, .func (PySem.W.fnOf "_law_way_due" "_law_way_due" (defArgs s__law_way_due) (defBody s__law_way_due) (defScope s__law_way_due) .none kV__law_way_due dc__law_way_due pm__law_way_due an__law_way_due cd__law_way_due ct__law_way_due), sl__law_way_due⟩) (c__law_way_due : PySem.W.codeIn K cd__law_way_due "_law_way_due" = true) (k__law_way_due : PySem.W.keepIn K (.ref f__law_way_due) = true)
    (a__law_due : PySem.W.nsIn K mainGlobals "_law_due" = some (some (.ref f__law_due))) (l__law_due : K.lookup f__law_due = some ⟨oc__law_due, od__law_due, .func (PySem.W.fnOf "_law_due" "_law_due" (defArgs s__law_due) (defBody s__law_due) (defScope s__law_due) .none kV__law_due dc__law_due pm__law_due an__law_due cd__law_due ct__law_due), sl__law_due⟩) (c__law_due : PySem.W.codeIn K cd__law_due "_law_due" = true) (k__law_due : PySem.W.keepIn K (.ref f__law_due) = true)
    (a_law : PySem.W.nsIn K mainGlobals "law" = some (some (.ref f_law))) (l_law : K.lookup f_law = some ⟨oc_law, od_law, .func (PySem.W.fnOf "law" "law" (defArgs s_law) (defBody s_law) (defScope s_law) .none kV_law dc_law pm_law an_law cd_law ct_law), sl_law⟩) (c_law : PySem.W.codeIn K cd_law "law" = true) (k_law : PySem.W.keepIn K (.ref f_law) = true)
    (y_MOST_LETTERS : PySem.W.nsIn K mainGlobals "MOST_LETTERS" = some (some (.int 8 t_MOST_LETTERS)))
    (y_LETTERS : PySem.W.nsIn K mainGlobals "LETTERS" = some (some (.str "abcdefghijklmnopqrstuvwxyz" t_LETTERS)))
    (y_FORMS : PySem.W.nsIn K mainGlobals "FORMS" = some (some (.ref t_FORMS)))
    (yl_FORMS : K.lookup t_FORMS = some ⟨.type "dict", none, .dict e_FORMS n_FORMS, #[]⟩) (yk_FORMS : PySem.W.KeysLit w.params e_FORMS.toList) (yt_FORMS : TabIs e_FORMS.toList [("look", "v"), ("list", "v"), ("make", "wk"), ("drop", "w"), ("link", "ww"), ("move", "ww"), ("swap", "ww")]) (yd_FORMS : (t_FORMS == sysModules) = false)
    (z_list : PySem.W.nsIn K mainGlobals "list" = some none)
    (z_len : PySem.W.nsIn K mainGlobals "len" = some none)
    (z_range : PySem.W.nsIn K mainGlobals "range" = some none)
    (z_sorted : PySem.W.nsIn K mainGlobals "sorted" = some none)
    (z_tuple : PySem.W.nsIn K mainGlobals "tuple" = some none)
    (z_isinstance : PySem.W.nsIn K mainGlobals "isinstance" = some none)
    (z_int : PySem.W.nsIn K mainGlobals "int" = some none)
    (z_str : PySem.W.nsIn K mainGlobals "str" = some none)
    (z_dict : PySem.W.nsIn K mainGlobals "dict" = some none)
    (z_max : PySem.W.nsIn K mainGlobals "max" = some none)
    (z_all : PySem.W.nsIn K mainGlobals "all" = some none)
    (z_zip : PySem.W.nsIn K mainGlobals "zip" = some none)
    (z_ord : PySem.W.nsIn K mainGlobals "ord" = some none)
    (z_repr : PySem.W.nsIn K mainGlobals "repr" = some none)
    : ∃ fd : FuncData, (∀ (s : Shared) (u : Value), BindsTo s fd ⟨[u], []⟩ [("_law_script", u)]) ∧ ∀ base : Heap, K.In base → base.Ns mainGlobals mg → FnD P w K mg base 11 fa fd ["_law_script"] sp_law := by
  have e := hfa.symm.trans (PySem.W.mg_of X G a_law)
  cases e
  refine ⟨PySem.W.fnOf "law" "law" (defArgs s_law) (defBody s_law) (defScope s_law) .none kV_law dc_law pm_law an_law cd_law ct_law, fun s v => .of_eq rfl, fun base _ _ => ?_⟩
  have B_list := PySem.W.mg_none_of X G z_list
  have B_len := PySem.W.mg_none_of X G z_len
  have B_range := PySem.W.mg_none_of X G z_range
  have B_sorted := PySem.W.mg_none_of X G z_sorted
  have B_tuple := PySem.W.mg_none_of X G z_tuple
  have B_isinstance := PySem.W.mg_none_of X G z_isinstance
  have B_int := PySem.W.mg_none_of X G z_int
  have B_str := PySem.W.mg_none_of X G z_str
  have B_dict := PySem.W.mg_none_of X G z_dict
  have B_max := PySem.W.mg_none_of X G z_max
  have B_all := PySem.W.mg_none_of X G z_all
  have B_zip := PySem.W.mg_none_of X G z_zip
  have B_ord := PySem.W.mg_none_of X G z_ord
  have B_repr := PySem.W.mg_none_of X G z_repr
  have M_MOST_LETTERS := PySem.W.mg_of X G y_MOST_LETTERS
  have M_LETTERS := PySem.W.mg_of X G y_LETTERS
  have M_FORMS := PySem.W.mg_of X G y_FORMS
  have T_FORMS : TabOk K w t_FORMS [("look", "v"), ("list", "v"), ("make", "wk"), ("drop", "w"), ("link", "ww"), ("move", "ww"), ("swap", "ww")] := ⟨⟨_, _, ⟨yl_FORMS, yk_FORMS, yd_FORMS⟩, yt_FORMS⟩, by decide +kernel⟩
  have C__law_feed := ok__law_feed (P := P) (w := w) (base := base) (fun_mk (st := s__law_feed) l__law_feed c__law_feed k__law_feed) (PySem.W.mg_of X G a__law_feed)  B_list 
  have C__law_draw := ok__law_draw (P := P) (w := w) (base := base) (fun_mk (st := s__law_draw) l__law_draw c__law_draw k__law_draw) (PySem.W.mg_of X G a__law_draw)  B_len 
  have C__law_names := ok__law_names (P := P) (w := w) (base := base) (fun_mk (st := s__law_names) l__law_names c__law_names k__law_names) (PySem.W.mg_of X G a__law_names) C__law_draw B_range B_len 
  have C__law_tree := ok__law_tree (P := P) (w := w) (base := base) (fun_mk (st := s__law_tree) l__law_tree c__law_tree k__law_tree) (PySem.W.mg_of X G a__law_tree) C__law_draw B_list B_range B_sorted B_tuple B_len 
  have C__law_bent := ok__law_bent (P := P) (w := w) (base := base) (fun_mk (st := s__law_bent) l__law_bent c__law_bent k__law_bent) (PySem.W.mg_of X G a__law_bent) C__law_draw B_isinstance B_tuple B_int B_len B_list B_str 
  have C__law_near := ok__law_near (P := P) (w := w) (base := base) (fun_mk (st := s__law_near) l__law_near c__law_near k__law_near) (PySem.W.mg_of X G a__law_near) C__law_draw C__law_bent B_list B_len 
  have C__law_way := ok__law_way (P := P) (w := w) (base := base) (fun_mk (st := s__law_way) l__law_way c__law_way k__law_way) (PySem.W.mg_of X G a__law_way) C__law_draw B_range B_tuple B_dict B_max B_len 
  have C__law_deed := ok__law_deed (P := P) (w := w) (base := base) (fun_mk (st := s__law_deed) l__law_deed c__law_deed k__law_deed) (PySem.W.mg_of X G a__law_deed) C__law_way C__law_draw B_int B_len 
  have C_is_name := ok_is_name (P := P) (w := w) (base := base) (fun_mk (st := s_is_name) l_is_name c_is_name k_is_name) (PySem.W.mg_of X G a_is_name)  B_all B_isinstance B_str B_len M_MOST_LETTERS M_LETTERS
  have C_is_way := ok_is_way (P := P) (w := w) (base := base) (fun_mk (st := s_is_way) l_is_way c_is_way k_is_way) (PySem.W.mg_of X G a_is_way) C_is_name B_isinstance B_tuple B_all 
  have C_is_thing := ok_is_thing (P := P) (w := w) (base := base) (fun_mk (st := s_is_thing) l_is_thing c_is_thing k_is_thing) (PySem.W.mg_of X G a_is_thing) C_is_way B_isinstance B_str B_len 
  have C_is_deed := ok_is_deed (P := P) (w := w) (base := base) (fun_mk (st := s_is_deed) l_is_deed c_is_deed k_is_deed) (PySem.W.mg_of X G a_is_deed) C_is_thing B_all B_isinstance B_tuple B_len B_str B_zip M_FORMS T_FORMS
  have C__law_way_due := ok__law_way_due (P := P) (w := w) (base := base) (fun_mk (st := s__law_way_due) l__law_way_due c__law_way_due k__law_way_due) (PySem.W.mg_of X G a__law_way_due)  B_isinstance B_tuple B_len B_str B_ord 
  have C__law_due := ok__law_due (P := P) (w := w) (base := base) (fun_mk (st := s__law_due) l__law_due c__law_due k__law_due) (PySem.W.mg_of X G a__law_due) C__law_way_due B_dict B_zip B_isinstance B_tuple B_str B_len B_repr 
  exact fn_law (fun_mk (st := s_law) l_law c_law k_law) C__law_feed C__law_names C__law_tree C__law_draw C__law_near C__law_deed C_is_deed C__law_due B_range B_repr 
end
end KG
open PySem PySem.W PyProof.Rows
set_option maxHeartbeats 0 in
theorem PySem.Challenge.cw_drawerways_k05_deeds_by_kind_holds : PySem.Challenge.rw_drawerways_k05_deeds_by_kind.Holds := by
  w_on; o_law; k_head; (case hw => w_witness2)
  k_fill
  refine DL.walk_law (l := PySem.Challenge.rw_drawerways_k05_deeds_by_kind) (n := 63) (k := 11) (x := "_law_script") (sp := KG.sp_law) rfl (by decide) rfl ⟨rfl, by decide, by decide⟩ (fun w h Y => PySem.W.kIn_of Y) ?F (fun a hl => ⟨a, rfl, fun _ => rfl⟩)
  case F =>
    intro w mg fa h KX G hmg
    refine' KG.all_mk KX G hmg ?a__law_feed ?l__law_feed ?c__law_feed ?k__law_feed ?a__law_draw ?l__law_draw ?c__law_draw ?k__law_draw ?a__law_names ?l__law_names ?c__law_names ?k__law_names ?a__law_tree ?l__law_tree ?c__law_tree ?k__law_tree ?a__law_bent ?l__law_bent ?c__law_bent ?k__law_bent ?a__law_near ?l__law_near ?c__law_near ?k__law_near ?a__law_way ?l__law_way ?c__law_way ?k__law_way ?a__law_deed ?l__law_deed ?c__law_deed ?k__law_deed ?a_is_name ?l_is_name ?c_is_name ?k_is_name ?a_is_way ?l_is_way ?c_is_way ?k_is_way ?a_is_thing ?l_is_thing ?c_is_thing ?k_is_thing ?a_is_deed ?l_is_deed ?c_is_deed ?k_is_deed ?a__law_way_due ?l__law_way_due ?c__law_way_due ?k__law_way_due ?a__law_due ?l__law_due ?c__law_due ?k__law_due ?a_law ?l_law ?c_law ?k_law ?y_MOST_LETTERS ?y_LETTERS ?y_FORMS ?yl_FORMS ?yk_FORMS ?yt_FORMS ?yd_FORMS ?z_list ?z_len ?z_range ?z_sorted ?z_tuple ?z_isinstance ?z_int ?z_str ?z_dict ?z_max ?z_all ?z_zip ?z_ord ?z_repr
    (case a__law_feed => k_is)
    (case l__law_feed => k_is)
    (case c__law_feed => k_is)
    (case k__law_feed => k_is)
    (case a__law_draw => k_is)
    (case l__law_draw => k_is)
    (case c__law_draw => k_is)
    (case k__law_draw => k_is)
    (case a__law_names => k_is)
    (case l__law_names => k_is)
    (case c__law_names => k_is)
    (case k__law_names => k_is)
    (case a__law_tree => k_is)
    (case l__law_tree => k_is)
    (case c__law_tree => k_is)
    (case k__law_tree => k_is)
    (case a__law_bent => k_is)
    (case l__law_bent => k_is)
    (case c__law_bent => k_is)
    (case k__law_bent => k_is)
    (case a__law_near => k_is)
    (case l__law_near => k_is)
    (case c__law_near => k_is)
    (case k__law_near => k_is)
    (case a__law_way => k_is)
    (case l__law_way => k_is)
    (case c__law_way => k_is)
    (case k__law_way => k_is)
    (case a__law_deed => k_is)
    (case l__law_deed => k_is)
    (case c__law_deed => k_is)
    (case k__law_deed => k_is)
    (case a_is_name => k_is)
    (case l_is_name => k_is)
    (case c_is_name => k_is)
    (case k_is_name => k_is)
    (case a_is_way => k_is)
    (case l_is_way => k_is)
    (case c_is_way => k_is)
    (case k_is_way => k_is)
    (case a_is_thing => k_is)
    (case l_is_thing => k_is)
    (case c_is_thing => k_is)
    (case k_is_thing => k_is)
    (case a_is_deed => k_is)
    (case l_is_deed => k_is)
    (case c_is_deed => k_is)
    (case k_is_deed => k_is)
    (case a__law_way_due => k_is)
    (case l__law_way_due => k_is)
    (case c__law_way_due => k_is)
    (case k__law_way_due => k_is)
    (case a__law_due => k_is)
    (case l__law_due => k_is)
    (case c__law_due => k_is)
    (case k__law_due => k_is)
    (case a_law => k_is)
    (case l_law => k_is)
    (case c_law => k_is)
    (case k_law => k_is)
    (case y_MOST_LETTERS => k_is)
    (case y_LETTERS => k_is)
    (case y_FORMS => k_is)
    (case yl_FORMS => k_is)
    (case yk_FORMS => exact ⟨⟨_, _, rfl, rfl⟩, ⟨⟨_, _, rfl, rfl⟩, ⟨⟨_, _, rfl, rfl⟩, ⟨⟨_, _, rfl, rfl⟩, ⟨⟨_, _, rfl, rfl⟩, ⟨⟨_, _, rfl, rfl⟩, ⟨⟨_, _, rfl, rfl⟩, True.intro⟩⟩⟩⟩⟩⟩⟩)
    (case yt_FORMS => exact ⟨⟨_, rfl⟩, ⟨_, rfl⟩, ⟨⟨_, rfl⟩, ⟨_, rfl⟩, ⟨⟨_, rfl⟩, ⟨_, rfl⟩, ⟨⟨_, rfl⟩, ⟨_, rfl⟩, ⟨⟨_, rfl⟩, ⟨_, rfl⟩, ⟨⟨_, rfl⟩, ⟨_, rfl⟩, ⟨⟨_, rfl⟩, ⟨_, rfl⟩, True.intro⟩⟩⟩⟩⟩⟩⟩)
    (case yd_FORMS => exact rfl)
    (case z_list => k_is)
    (case z_len => k_is)
    (case z_range => k_is)
    (case z_sorted => k_is)
    (case z_tuple => k_is)
    (case z_isinstance => k_is)
    (case z_int => k_is)
    (case z_str => k_is)
    (case z_dict => k_is)
    (case z_max => k_is)
    (case z_all => k_is)
    (case z_zip => k_is)
    (case z_ord => k_is)
    (case z_repr => k_is)

